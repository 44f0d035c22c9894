import PyProof.Rows.All
import Wide.All
import OpenK.AllK
import Wide.FinOn
import HandS.HotCalls
import HandS.ForMost
import HandS.AnyAll
import HandS.GenList
import HandS.TupAny
import HandS.Deep
import HandS.Wide
import HandS.WideBits
import HandS.IsInst
import HandS.Text
import HandS.Flow
import HandS.SortInts
import HandS.Zip
import HandS.Walk
import HandS.CallSlots
import HandS.SetFor
import HandS.Strs
import HandS.HeadHook4
import HandS.HeadWalk
import HandS.Head2
import HandS.HeadEnd
import HandS.EndOwn
import HandS.NestedK
import KE.DataEq
import KE.BitLaws
import PySem.Challenge.RW_forkfield_k40_whole_boxes_and_masks
set_option Elab.async false
section
set_option Elab.async false
set_option linter.all false
set_option maxRecDepth 100000
set_option maxHeartbeats 2000000
/-! GenAll: all(elt for tg in iter), the element any expression of the layer (it may call defs) -/
namespace FF
open PySem PySem.Spec PyProof.Rows L2 GenW

structure KeptS (s s' : Shared) : Prop where
  os : s'.os = s.os
  bare : AllBare s'.gens
  keep : ∀ b o, s.heap.get? b = some o → s'.heap.get? b = some o

/-- the context of a generator expression's frame -/
abbrev gcx (X : Cx) (A : Around) (s : Shared) (H : Hp) (scope : Scope) (cenv : Env) (fp : List Addr) (pn : List (Addr × Obj)) : Cx :=
  { X with A := A, s_0 := s, H_0 := H, env := cenv, outer := X.stack, stack := cenv :: X.stack, ex := fp, fn := fun x => scope.names.lookup x == some .cell, pn := pn, xe := fun _ _ => False }

def QEnd (Xg : Cx) (QF : Bool → Hp → Prop) (b : Bool) (s : Shared) : Prop := ∃ σ H, Inv Xg [] σ H s ∧ QF b H
def RAll (Xg : Cx) (QF : Bool → Hp → Prop) : GenEnd := fun _ _ r s => r = .ok .next ∧ QEnd Xg QF true s
def YAll (Xg : Cx) (QF : Bool → Hp → Prop) : Protocol := fun _ _ v s kap =>
  ∃ b, v = .bool b ∧ (∃ σ H, Inv Xg [] σ H s ∧ (b = false → QF false H)) ∧ (b = true → ∀ s'', KeptS s s'' → kap (.send .none) s'')

theorem Inv.keptS {X : Cx} {pins : List (Addr × Obj)} {σ : L2.St} {H : Hp} {s s' : Shared} (I : Inv X pins σ H s) (k : KeptS s s') : Inv X pins σ H s' :=
  I.call' (ch := []) k.os (Un.kept k.keep) (I.hok.kept k.keep) k.bare fun b z => by simp at z

section
variable {Xg : Cx} {A : Around} {elt tg iter : Expr} {scope : Scope} {pos : Pos} {it : Addr} {fp : List Addr} {tn : Nat → Heap → Prop} {J : It} {g : TG} {te : TE} {QF : Bool → Hp → Prop}
theorem seg_allLoop (hXA : A.over (.compLoop (.GeneratorExp elt [⟨tg, iter, [], 0⟩] scope pos) 0 (.ref it) .none Xg.env) [] = Xg.A) (hc : Xg.calm = true) (hxe : ∀ e s, ¬ Xg.xe e s)
    (T : Turn Xg.prog Xg.w Xg.K tg J fp it tn) (hg : PG Xg tg g) (he : PE Xg elt te) (hco : Xg.env.scope.isCoroutine = false)
    (stat : ∀ H', (∀ b ∈ fp, H' b = none) → ∀ b ∈ fp, FpOk Xg [] H' b) (N : Nat) (W : Nat → L2.St → Hp → Prop)
    (turn : ∀ i σ H, i ≤ N → W i σ H → (J.stop i H ∧ QF true H) ∨ (i < N ∧ J.go i H ∧ ∀ x H', J.yld i H x H' → g x σ H' fun σ2 H2 => te σ2 H2 fun v H3 => ∃ b, v = .bl b ∧ (if b = true then W (i + 1) σ2 H3 else QF false H3))) :
    ∀ (m i : Nat) (s₀ s : Shared) (σ : L2.St) (H : Hp), i + m = N → Inv Xg [] σ H s → tn i s.heap → (∀ b ∈ fp, H b = none) → W i σ H →
      Seg (model Xg.prog Xg.w) A (RAll Xg QF) (YAll Xg QF) m s₀ (.compLoop (.GeneratorExp elt [⟨tg, iter, [], 0⟩] scope pos) 0 (.ref it) .none Xg.env)
        ((model Xg.prog Xg.w).den (.compLoop (.GeneratorExp elt [⟨tg, iter, [], 0⟩] scope pos) 0 (.ref it) .none Xg.env)) [] s := by
  intro m
  induction m with
  | zero =>
    intro i s₀ s σ H hi I st fr w
    rcases turn i σ H (by omega) w with ⟨stop, q⟩ | ⟨lt, _⟩
    · show Seg _ A _ _ _ s₀ _ ((compTurn (.GeneratorExp elt [⟨tg, iter, [], 0⟩] scope pos) 0 (.ref it) .none Xg.env).onRaise (leaving Xg.env)) [] s
      rw [compTurn_gen, Sem.onRaise_eq_wrap]
      refine seg_bind_wrap (wpAny_standAt ?_)
      refine seg_bind_wrap ?_
      rw [hXA]
      refine wpAny_mono (T.done Xg rfl rfl rfl hc i [] s σ H (fun _ _ => False) I (stat H fr) st stop) (fun r s1 h1 => ?_) fun _ _ z => z.elim
      obtain ⟨hr, I1⟩ := h1
      subst hr
      exact seg_end (.ok .next) ⟨rfl, σ, H, I1, q⟩
    · omega
  | succ m ih =>
    intro i s₀ s σ H hi I st fr w
    rcases turn i σ H (by omega) w with ⟨stop, q⟩ | ⟨lt, go, step⟩
    · show Seg _ A _ _ _ s₀ _ ((compTurn (.GeneratorExp elt [⟨tg, iter, [], 0⟩] scope pos) 0 (.ref it) .none Xg.env).onRaise (leaving Xg.env)) [] s
      rw [compTurn_gen, Sem.onRaise_eq_wrap]
      refine seg_bind_wrap (wpAny_standAt ?_)
      refine seg_bind_wrap ?_
      rw [hXA]
      refine wpAny_mono (T.done Xg rfl rfl rfl hc i [] s σ H (fun _ _ => False) I (stat H fr) st stop) (fun r s1 h1 => ?_) fun _ _ z => z.elim
      obtain ⟨hr, I1⟩ := h1
      subst hr
      exact seg_end (.ok .next) ⟨rfl, σ, H, I1, q⟩
    · show Seg _ A _ _ _ s₀ _ ((compTurn (.GeneratorExp elt [⟨tg, iter, [], 0⟩] scope pos) 0 (.ref it) .none Xg.env).onRaise (leaving Xg.env)) [] s
      rw [compTurn_gen, Sem.onRaise_eq_wrap]
      refine seg_bind_wrap (wpAny_standAt ?_)
      refine seg_bind_wrap ?_
      rw [hXA]
      refine wpAny_mono (T.item Xg rfl rfl rfl hc i [] s σ H (fun _ _ => False) I (stat H fr) st go) (fun r s1 h1 => ?_) fun _ _ z => z.elim
      obtain ⟨u, hr, h1⟩ := h1
      subst hr
      refine seg_bind_wrap ?_
      rw [hXA]
      refine wpAny_mono h1 (fun _ s2 h2 => ?_) fun _ _ z => z.elim
      obtain ⟨x, H2, I2, r2, y2, st2, fr2⟩ := h2
      have I2' := I2.pinned (stat H2 fr2) (T.obj _ _ st2)
      refine seg_bind_wrap ?_
      rw [hXA]
      refine wpAny_mono (hg.run _ s2 σ H2 x u _ I2' r2 (step x H2 y2)) (fun _ s3 h3 => ?_) fun e s' z => (hxe e s' z).elim
      obtain ⟨σ3, H3, I3, q3⟩ := h3
      simp only [List.forIn_nil]
      refine seg_bind_wrap (wpAny_pure ?_)
      simp only [if_true]
      have hy : ∀ v, yieldOut Xg.env v = yieldValue v := fun v => by simp only [yieldOut, hco, Bool.false_eq_true, if_false]
      simp only [hy]
      rw [Sem.bind_eq_wrap', Sem.bind_eq_wrap', Sem.wrap_wrap, Sem.wrap_wrap]
      refine seg_wrap ?_
      rw [hXA]
      refine wpAny_mono (he.run _ s3 σ3 H3 _ I3 q3) (fun v s4 h4 => ?_) fun e s' z => (hxe e s' z).elim
      obtain ⟨v', H4, I4, r4, b, ev, q4⟩ := h4
      subst ev
      obtain rfl : v = Value.bool b := r4
      have I4u := I4.unpinned
      have st4 : tn (i + 1) s4.heap := T.keep _ _ _ st2 fun c hc2 o e => (I4.pin (c, o) (List.mem_append_right _ (List.mem_append_right _ (mem_pinsAt hc2 e)))).1
      have fr4 : ∀ c ∈ fp, H4 c = none := fun c hc2 => by
        obtain ⟨o, e, d⟩ := T.obj _ _ st2 c hc2
        exact (I4.pin (c, o) (List.mem_append_right _ (List.mem_append_right _ (mem_pinsAt hc2 e)))).2.1
      refine seg_at (seg_yield rfl rfl rfl ⟨b, rfl, ⟨σ3, H4, I4u, fun hb => ?_⟩, fun hb s'' k => ?_⟩)
      · subst hb
        exact q4
      · subst hb
        refine seg_again rfl (ih (i + 1) s'' s'' σ3 H4 (by omega) (Inv.keptS I4u k) (T.keep _ _ _ st4 fun c _ o e => k.keep c o e) fr4 q4)

theorem seg_allStart (hXA : A.over (.compLoop (.GeneratorExp elt [⟨tg, iter, [], 0⟩] scope pos) 0 (.ref it) .none Xg.env) [] = Xg.A)
    (T : Turn Xg.prog Xg.w Xg.K tg J fp it tn) {R : GenEnd} {Y : Protocol} {n : Nat} {s₀ s : Shared} (st : tn 0 s.heap)
    (h : Seg (model Xg.prog Xg.w) A R Y n s₀ (.compLoop (.GeneratorExp elt [⟨tg, iter, [], 0⟩] scope pos) 0 (.ref it) .none Xg.env)
        ((model Xg.prog Xg.w).den (.compLoop (.GeneratorExp elt [⟨tg, iter, [], 0⟩] scope pos) 0 (.ref it) .none Xg.env)) [] s) :
    Seg (model Xg.prog Xg.w) A R Y n s₀ (.compStart (.GeneratorExp elt [⟨tg, iter, [], 0⟩] scope pos) 0 (.ref it) .none Xg.env)
        ((model Xg.prog Xg.w).den (.compStart (.GeneratorExp elt [⟨tg, iter, [], 0⟩] scope pos) 0 (.ref it) .none Xg.env)) [] s := by
  show Seg _ A _ _ _ s₀ _ ((compStart (.GeneratorExp elt [⟨tg, iter, [], 0⟩] scope pos) 0 (.ref it) .none Xg.env).onRaise (leaving Xg.env)) [] s
  unfold compStart
  rw [Sem.onRaise_eq_wrap]
  show Seg _ A _ _ _ s₀ _ ((ask >>= _).wrap _ _ _ _) [] s
  refine seg_bind_wrap (wpAny_askSetting ?_)
  split
  · exact seg_again rfl h
  · refine seg_bind_wrap (wpAny_rule ?_)
    show Seg _ A _ _ _ s₀ _ ((standAt iter.pos >>= _).wrap _ _ _ _) [] s
    exact seg_bind_wrap (wpAny_standAt (seg_bind_wrap (T.self _ 0 s _ _ st (seg_again rfl h))))
end

/-- the consumer: all.loop over the generator -/
theorem all_drain {Xg : Cx} {A : Around} {R : Result → Shared → Prop} {QF : Bool → Hp → Prop} {a : Addr} {g : Nat} {go : Obj} (hh : A.handled = none) (hd : A.depth < recursionLimit)
    (hgo : ∀ h : Heap, h.get? a = some go → h.IsGen a g) (hpn : (a, go) ∈ Xg.pn)
    (hR : ∀ b s', QEnd Xg QF b s' → R (.ok (.ret (.bool b))) s') :
    ∀ (m : Nat) (s : Shared), s.heap.IsGen a g → s.heap.NoLimit → AllBare s.gens →
      (∃ gs, s.gens[g]? = some gs ∧ gs.Goes (model Xg.prog Xg.w) A.in1.in1 (RAll Xg QF) (YAll Xg QF) m (.send .none) (s.setGen g .running)) →
      codeAny (model Xg.prog Xg.w) A (.builtin "all.loop" ⟨[.ref a], []⟩) R s := by
  have fin : ∀ (b : Bool) (s1 s2 : Shared), QEnd Xg QF b s1 → KeptS s1 s2 → QEnd Xg QF b s2 := fun b s1 s2 h k => by
    obtain ⟨σ, H, I, q⟩ := h
    exact ⟨σ, H, Inv.keptS I k, q⟩
  intro m
  induction m with
  | zero =>
    intro s hg hl hb ⟨gs, hgs, hgo'⟩
    refine codeAny_builtin F.entry_all_loop ?_
    rw [Around.under_plainId F.plain_all_loop _]
    show wpAny _ A.in1 (pyNext (.ref a) >>= _) _ _ s
    refine wpAny_bind (wpAny_pyNext_genexpQ (A := A.in1) (P := fun _ _ s1 => QEnd Xg QF true s1) hh hl hd hg hgs hgo' (fun v s₁ gs' hbare hv => ?_) (fun s₁ hp h' hk => ?_))
    · obtain ⟨b, rfl, ⟨σ, H, I, q⟩, k⟩ := hv
      cases b with
      | true => exact (k rfl s₁ ⟨rfl, I.bare, fun _ _ e => e⟩).elim
      | false =>
        refine wpAny_bind (wpAny_holding (wpAny_truthy_bool ?_))
        refine wpAny_bind (wpAny_letGo ?_)
        simp only [Bool.false_eq_true, if_false]
        refine wpAny_bind (wpAny_rule (wpAny_pure ?_))
        exact hR false _ (fin false s₁ _ ⟨σ, H, I, q rfl⟩ ⟨rfl, allBare_setGen I.bare hbare, fun _ _ e => e⟩)
    · refine wpAny_bind (wpAny_rule (wpAny_pure ?_))
      obtain ⟨σ, H, I, q⟩ := hp
      exact hR true _ (fin true s₁ _ ⟨σ, H, I, q⟩ ⟨rfl, allBare_setGen I.bare rfl, hk⟩)
  | succ m ih =>
    intro s hg hl hb ⟨gs, hgs, hgo'⟩
    have hgl : g < s.gens.size := (Array.getElem?_eq_some_iff.mp hgs).1
    refine codeAny_builtin F.entry_all_loop ?_
    rw [Around.under_plainId F.plain_all_loop _]
    show wpAny _ A.in1 (pyNext (.ref a) >>= _) _ _ s
    refine wpAny_bind (wpAny_gsz (n := g + 1) hgl (wpAny_pyNext_genexpQ (A := A.in1) (P := fun _ _ s1 => QEnd Xg QF true s1) hh hl hd hg hgs hgo' (fun v s₁ gs' hbare hv => ?_) (fun s₁ hp h' hk => ?_)))
    · intro hsz
      obtain ⟨b, rfl, ⟨σ, H, I, q⟩, k⟩ := hv
      have hsz1 : g < s₁.gens.size := by
        have q : (s₁.setGen g gs').gens.size = s₁.gens.size := setGen_size _ _ _
        have hsz' : g + 1 ≤ (s₁.setGen g gs').gens.size := hsz
        omega
      refine wpAny_bind (wpAny_holding (wpAny_truthy_bool ?_))
      refine wpAny_bind (wpAny_letGo ?_)
      cases b with
      | true =>
        simp only [if_true]
        refine wpAny_pure ⟨plainId_quiet F.plain_all_loop _, ih (s₁.setGen g gs') (hgo _ (I.pin (a, go) (List.mem_append_left _ hpn)).1) I.nolimit (allBare_setGen I.bare hbare) ⟨gs', setGen_at hsz1, ?_⟩⟩
        exact k rfl _ ⟨rfl, allBare_setGen (s := s₁.setGen g gs') (allBare_setGen I.bare hbare) rfl, fun _ _ e => e⟩
      | false =>
        simp only [Bool.false_eq_true, if_false]
        refine wpAny_bind (wpAny_rule (wpAny_pure ?_))
        exact hR false _ (fin false s₁ _ ⟨σ, H, I, q rfl⟩ ⟨rfl, allBare_setGen I.bare hbare, fun _ _ e => e⟩)
    · intro hsz
      refine wpAny_bind (wpAny_rule (wpAny_pure ?_))
      obtain ⟨σ, H, I, q⟩ := hp
      exact hR true _ (fin true s₁ _ ⟨σ, H, I, q⟩ ⟨rfl, allBare_setGen I.bare rfl, hk⟩)

/-! ### the generator's start -/
theorem over_gen {A : Around} {elt tg iter : Expr} {scope : Scope} {pos : Pos} {it acc : Value} {env : Env} :
    A.over (.compLoop (.GeneratorExp elt [⟨tg, iter, [], 0⟩] scope pos) 0 it acc env) [] = A.deeper env := by
  first
    | rfl
    | (obtain ⟨hd, d, fr, gs, u⟩ := A; simp [Around.over, Around.deeper, marksOver, frameCount, unitsOf, envsOf, guardsOf, pushEnvs, pushGuards, Code.envs, Code.env?, Code.isFrame, Code.guards, Code.isGuard, Code.weight, Code.frames, Code.isCreation, Code.isCaller, Code.cUnits])
section
variable {X : Cx} {pins : List (Addr × Obj)} {σ : L2.St} {H : Hp} {s : Shared}
theorem gen_inv {scope : Scope} {own : List (Str × Nat)} {fp : List Addr} {A : Around} {code : Value} {s' : Shared} {a : Addr} {go : Obj} (I : Inv X pins σ H s) (ok : BlkOk X.N X.env.scope scope own) (hN : X.N.Nodup) (hcell : ∀ y ∈ scope.names, y.2 ≠ .cell)
    (hfp : ∀ b ∈ fp, FpOk X pins H b ∧ b < s.heap.objs.size) (hA : A.handled = none)
    (hAf : A.frames = some (genEnv scope (cloFrom X.env.cells scope.names []) s.heap.objs.size code builtinsNs X.env :: X.stack))
    (hk : ∀ b o, s.heap.get? b = some o → s'.heap.get? b = some o) (hn : ∃ m, s'.heap.Ns s.heap.objs.size m) (os : s'.os = s.os) (bare : AllBare s'.gens)
    (ha : s'.heap.get? a = some go) (haf : s.heap.objs.size < a) (hgd : ∀ v, go.data ≠ .cell v) :
    Inv (gcx X A s H scope (genEnv scope (cloFrom X.env.cells scope.names []) s.heap.objs.size code builtinsNs X.env) fp [(a, go)]) [] (wipe σ (own.map (·.2))) H s' := by
  have hfree : ∀ y ∈ scope.names, y.2 = .free → ∃ c, X.env.cells.lookup y.1 = some c := fun y hy e => by
    rcases ok.free y hy e with k | k
    · exact I.ok.has _ (.inl k)
    · exact I.ok.has _ (.inr k)
  have cm : ∀ {y c}, (y, c) ∈ cloFrom X.env.cells scope.names [] → X.env.cells.lookup y = some c ∧ c < s.heap.objs.size := fun {y c} hm => by
    rcases cloFrom_mem hm with hm | ⟨h1, rfl⟩
    · cases hm
    · obtain ⟨c, hc⟩ := hfree _ h1 rfl
      rw [hc]
      obtain ⟨w, z⟩ := I.cell _ _ hc
      exact ⟨rfl, z.lt⟩
  have look : ∀ {y}, scope.names.lookup y = some .free → ∃ c, (cloFrom X.env.cells scope.names []).lookup y = some c ∧ X.env.cells.lookup y = some c := fun {y} hl => by
    have hy : (y, NameKind.free) ∈ scope.names := PySem.mem_of_lookup hl
    obtain ⟨c', e'⟩ := mem_lookup (cloFrom_has (cells := X.env.cells) (acc := []) hy)
    exact ⟨c', e', (cm (PySem.mem_of_lookup e')).1⟩
  have okB : (gcx X A s H scope (genEnv scope (cloFrom X.env.cells scope.names []) s.heap.objs.size code builtinsNs X.env) fp [(a, go)]).Ok := by
    refine ⟨I.ok.mod, ok.kind, I.ok.glob, rfl, Nat.le_refl _, fun y z c e1 e2 => ?_, fun y hy => ?_, fun y c z e => ?_, fun _ => hA, hAf, .inr ⟨rfl, rfl⟩, fun b hb => ⟨?_, fun y c e z => ?_⟩, I.bs, Nat.le_trans I.ok.bsz I.sz, fun b o e hb => ?_, fun b hb z => ?_, I.stack, I.stkFree⟩
    · exact I.ok.inj y z c (cm (PySem.mem_of_lookup e1)).1 (cm (PySem.mem_of_lookup e2)).1
    · rcases hy with hy | hy
      · exact absurd rfl (hcell _ (PySem.mem_of_lookup hy))
      · obtain ⟨c, h1, _⟩ := look hy
        exact ⟨c, h1⟩
    · have z : scope.names.lookup y = some .cell := by simpa using z
      exact absurd rfl (hcell _ (PySem.mem_of_lookup z))
    · exact Nat.ne_of_lt (hfp b hb).2
    · exact (hfp b hb).1.2.2.2.2.1 y c (cm (PySem.mem_of_lookup e)).1 z
    · rcases (hfp b hb).1.2.2.2.1 with z | z
      · exact I.ok.noex b o e z
      · exact absurd (Nat.lt_of_lt_of_le (Heap.lt_size e) (Nat.le_trans I.ok.bsz z)) (Nat.lt_irrefl _)
    · rcases List.mem_cons.mp (I.stkSub b z) with z | z
      · exact (hfp b hb).1.2.1 z
      · exact (hfp b hb).1.2.2.1 z
  obtain ⟨mm, hmm⟩ := hn
  refine ⟨okB, os, bare, Un.kept hk, ⟨mm, hmm, fun i y av e1 e2 e3 => ?_⟩, fun y c e => ?_, ?_, fun y c e => ?_, fun p hp => ?_, I.hok.kept hk, by rw [wipe_length]; exact I.len⟩
  · obtain ⟨e2, hne⟩ := wipe_some e2
    have hfr : scope.names.lookup y = some .free := by
      have no : ∀ k, scope.names.lookup y = some k → ¬ (k = .local ∨ k = .cell) := fun k e hh => by
        rcases ok.own _ (PySem.mem_of_lookup e) hh with e' | e'
        · obtain ⟨p, hp, hpy⟩ := List.mem_map.mp e'
          have e3 := ok.ix p hp
          have : p.1 = y := hpy
          rw [this] at e3
          exact hne (List.mem_map.mpr ⟨p, hp, nodup_ix hN e3 e1⟩)
        · exact e' (List.mem_of_getElem? e1)
      have e3 : Vis scope y := e3
      rcases e3 with e3 | e3 | e3
      · exact absurd (.inl rfl) (no _ e3)
      · exact absurd (.inr rfl) (no _ e3)
      · exact e3
    obtain ⟨m, hn, hl⟩ := I.loc
    have hvis : Vis X.env.scope y := (ok.free _ (PySem.mem_of_lookup hfr) rfl).elim (fun k => .inr (.inl k)) (fun k => .inr (.inr k))
    obtain ⟨w, r, q⟩ := hl i y av e1 e2 hvis
    refine ⟨w, r, .inr ⟨.inr hfr, ?_⟩⟩
    obtain ⟨c, h1, h2⟩ := look hfr
    rcases q with ⟨k, _⟩ | ⟨_, c', e', z⟩
    · have k : X.env.scope.names.lookup y = some .local := k
      rcases ok.free _ (PySem.mem_of_lookup hfr) rfl with k' | k' <;> rw [show X.env.scope.names.lookup y = _ from k'] at k <;> cases k
    · rw [h2] at e'; cases e'
      exact ⟨c, h1, z.keeps hk⟩
  · obtain ⟨h1, _⟩ := cm (PySem.mem_of_lookup e)
    obtain ⟨w, z⟩ := I.cell y c h1
    exact ⟨w, z.keeps hk⟩
  · exact I.hok.fresh (Nat.le_refl _)
  · exact I.freeC y c (cm (PySem.mem_of_lookup e)).1
  · have hp' : p = (a, go) := by simpa using hp
    subst hp'
    exact ⟨ha, I.hok.fresh (Nat.le_of_lt haf), Nat.ne_of_gt haf, fun z => absurd (Heap.lt_size ((I.stack.mem z).2.choose_spec.1)) (Nat.not_lt.mpr (Nat.le_of_lt haf)), hgd⟩

/-- back to the frame that asked -/
theorem gen_back {scope : Scope} {fp : List Addr} {A : Around} {cenv : Env} {σg : L2.St} {H' : Hp} {s' : Shared} {pn : List (Addr × Obj)} (I : Inv X pins σ H s) (hfp : ∀ b ∈ fp, FpOk X pins H b ∧ b < s.heap.objs.size)
    (Ig : Inv (gcx X A s H scope cenv fp pn) [] σg H' s') : Inv X pins σ H' s' :=
  I.call' (ch := fp) Ig.os Ig.base Ig.hok Ig.bare fun b hb => ⟨(hfp b hb).1.2.2.2.1, (hfp b hb).1.2.1, (hfp b hb).1.2.2.2.2.1, (hfp b hb).1.2.2.2.2.2⟩
end

/-- a generator expression's scope over a def's -/
structure GSc (N : List Str) (sc scope : Scope) (own : List (Str × Nat)) : Prop where
  blk : BlkOk N sc scope own
  cell : ∀ y ∈ scope.names, y.2 ≠ .cell
  dot : scope.names.lookup (".0" : Str) = some NameKind.local
  co : scope.isCoroutine = false
/-- all(elt for tg in iter) -/
def tAllG (P : Addr) (wi : TI) (g : TG) (te : TE) (vs : List Nat) : TE := fun σ H Q => wi σ H fun J H1 => GxR.TabG H1 P ∧ ∃ (N : Nat) (W : Nat → L2.St → Hp → Prop),
  (∀ H2, GxR.Tabbed P H1 H2 → W 0 (wipe σ vs) H2) ∧ ∀ i σ' H', i ≤ N → W i σ' H' → (J.stop i H' ∧ Q (.bl true) H') ∨
    (i < N ∧ J.go i H' ∧ ∀ x H'', J.yld i H' x H'' → g x σ' H'' fun σ2 H2 => te σ2 H2 fun v H3 => ∃ b, v = .bl b ∧ (if b = true then W (i + 1) σ2 H3 else Q (.bl false) H3))
theorem room_gen {k : Nat} {A : Around} (r : Room (k + 1) A) (env : Env) : Room k (A.in1.in1.deeper env) :=
  ⟨r.hd, by have := r.dp; show A.depth + 1 + 3 * k + 5 < _; omega, by have := r.un; show A.units + 1 + 1 + 3 + 16 * k + 200 < _; omega⟩
section
variable {X : Cx}
theorem pe_allG {c P : Addr} {elt tg iter : Expr} {p pos gpos : Pos} {scope : Scope} {own : List (Str × Nat)} {wi : TI} {g : TG} {te : TE} {k : Nat}
    (hc : X.calm = true) (hN : X.N.Nodup) (hr : Room (k + 1) X.A) (hg : Gl X "all") (hm : X.mg "all" = none) (hb : bootBuiltins "all" = some (.builtin "all")) (TB : GxR.TabB X.base X.mg c P) (hcode : X.env.code = .ref c) (S : GSc X.N X.env.scope scope own)
    (hi : PI X tg iter wi)
    (hgt : ∀ (A : Around) (s : Shared) (H : Hp) (C : Addr) (cl : List (Str × Addr)) (code : Value) (bi : Addr) (fp : List Addr) (pn : List (Addr × Obj)), Room k A → PG (gcx X A s H scope (genEnv scope cl C code bi X.env) fp pn) tg g)
    (hel : ∀ (A : Around) (s : Shared) (H : Hp) (C : Addr) (cl : List (Str × Addr)) (code : Value) (bi : Addr) (fp : List Addr) (pn : List (Addr × Obj)), Room k A → PE (gcx X A s H scope (genEnv scope cl C code bi X.env) fp pn) elt te)
    (hs : ∀ v, genFold iter X.env v = pure v)
    (he : starEach [.GeneratorExp elt [⟨tg, iter, [], 0⟩] scope gpos] X.env = (false, eval (.GeneratorExp elt [⟨tg, iter, [], 0⟩] scope gpos) X.env) :: starEach [] X.env := by rfl) :
    PE X (.Call (.Name "all" p) [.GeneratorExp elt [⟨tg, iter, [], 0⟩] scope gpos] [] pos) (tAllG P wi g te (own.map (·.2))) := by
  refine ⟨fun pins s σ H Q I h => ?_⟩
  refine wpAny_Call_Name_kw (ld_blt I hg hm hb ?_)
  refine PyProof.Rows.callWith_builtin1 ?_ he (by rfl)
  rw [he]
  show wpAny _ _ (spliced ((false, eval (.GeneratorExp elt [⟨tg, iter, [], 0⟩] scope gpos) X.env) :: backTo pos (starEach [] X.env))) _ _ s
  have hfree : ∀ y ∈ scope.names, y.2 = .free → ∃ c, X.env.cells.lookup y.1 = some c := fun y hy e => by
    rcases S.blk.free y hy e with k | k
    · exact I.ok.has _ (.inl k)
    · exact I.ok.has _ (.inr k)
  refine Calls.spliced_cons ?_
  refine wpAny_GeneratorExp_make S.co (closure_ok hfree) S.cell S.dot S.blk.kind (by have := hr.dp; omega) ?_ hs
  refine thn (hi.run pins s σ H _ I h) fun xv s1 hx => thn hx fun itv s2 h2 => ?_
  obtain ⟨it, fp, tn, J, H2, e, I2, T, st2, f2, ⟨ps, hP, ht⟩, N, W, hW0, turn⟩ := h2
  subst e
  refine ⟨I2.nolimit, ?_⟩
  have hPs : s2.heap.get? P = some { cls := .none, data := .fields ps } := I2.hok P _ hP
  have cd : PySem.W.CodeHd s2.heap c P := TB.code.keeps fun b u e => I2.bk b u e
  have f2' : ∀ b ∈ fp, FpOk X pins H2 b ∧ b ≠ P := fun b hb => ⟨f2 b hb, fun z => by
    have := (f2 b hb).1
    rw [z, hP] at this
    cases this⟩
  have cont : ∀ (code : Value) (h3 : Heap) (tk : Nat) (ps' : Array Value), Heap.ExtBut P s2.heap h3 → s2.heap.objs.size ≤ h3.objs.size → h3.get? P = some { cls := .none, data := .fields ps' } → (∃ more, ps' = ps ++ more) → TriplesOk ps'.toList →
      wpAny (model X.prog X.w) X.A (builtinsFor X.env.globals X.env.builtins) (fun bi s₄ =>
        ∀ h', h'.Ns s₄.heap.objs.size (fun y => if y = ".0" then some (Value.ref it) else none) → Heap.SameBut s₄.heap.objs.size (s₄.heap.push { cls := .type "frame", data := .dict #[] }) h' →
          wpAny (model X.prog X.w) X.A (spliced (backTo pos (starEach [] X.env))) (fun us s' => wpAny (model X.prog X.w) X.A (call (.builtin "all") (Value.ref h'.objs.size :: us)) (EP X pins σ Q) X.xe s') X.xe { s₄ with
            gens := s₄.gens.push (.fresh (.compStart (.GeneratorExp elt [⟨tg, iter, [], 0⟩] scope gpos) 0 (.ref it) .none (genEnv scope (cloFrom X.env.cells scope.names []) s₄.heap.objs.size code bi X.env))),
            toks := s₄.toks + 1 + 1 + 1,
            heap := h'.push { cls := .type "generator", data := .fields #[.int s₄.gens.size 0, .str "<genexpr>" (s₄.toks + 1), .str (X.env.qual ++ "<genexpr>") (s₄.toks + 1 + 1)] } }) X.xe { s2 with heap := h3, toks := tk } := by
    intro code h3 tk ps' hx hsz hP3 hmore ht3
    obtain ⟨bm, ob, e1, e2, e3, e4, e5, e6, e7, e8⟩ := TB.bm
    obtain ⟨more, em⟩ := hmore
    have keep3 : ∀ b u, b ≠ P → s2.heap.get? b = some u → h3.get? b = some u := fun b u hb e => hx b u hb e
    have I3 : Inv X pins σ (upd H2 P (.tbl (ps ++ more))) { s2 with heap := h3, toks := tk } := GxR.inv_tab (more := more) (h' := h3) (g' := s2.gens) (d' := s2.drawn) (t' := tk) I2 hP keep3 (by rw [← em]; exact hP3) I2.bare
    refine wpAny_builtinsFor (m := X.mg) (by rw [I2.ok.glob]; exact (I2.mod.glob.keeps I2.bk).extBut hx TB.gP) e1 e2 (keep3 _ _ e4 (I2.bk _ _ e5)) e6 e7 e8 ?_
    intro h' hn' hs'
    refine Calls.spliced_nil ?_
    have f3 : ∀ b ∈ fp, FpOk X pins (upd H2 P (.tbl (ps ++ more))) b ∧ b < h3.objs.size := fun b hb => by
      refine ⟨⟨by rw [upd_ne (f2' b hb).2]; exact (f2 b hb).1, (f2 b hb).2⟩, ?_⟩
      obtain ⟨o, e, _⟩ := T.obj _ _ st2 b hb
      exact Nat.lt_of_lt_of_le (Heap.lt_size e) hsz
    have hsz' : h'.objs.size = h3.objs.size + 1 := by rw [hs'.1]; exact Heap.size_push ..
    have keep' : ∀ b o, h3.get? b = some o → h'.get? b = some o := fun b o e => hs'.extBut b o (Nat.ne_of_lt (Heap.lt_size e)) (Heap.get?_push_of_some _ e)
    generalize hgo : ({ cls := .type "generator", data := .fields #[.int s2.gens.size 0, .str "<genexpr>" (tk + 1), .str (X.env.qual ++ "<genexpr>") (tk + 1 + 1)] } : Obj) = go
    have hgen : ∀ h : Heap, h.get? h'.objs.size = some go → h.IsGen h'.objs.size s2.gens.size := fun h e => by
      rw [← hgo] at e
      exact ⟨_, _, _, e, rfl, rfl, rfl⟩
    have hpushed : (h'.push go).get? h'.objs.size = some go := by
      rw [← hgo]
      exact Heap.get?_push_size _ rfl
    have keep5 : ∀ b o, h3.get? b = some o → (h'.push go).get? b = some o := fun b o e => Heap.get?_push_of_some _ (keep' b o e)
    have hgd : ∀ v, go.data ≠ .cell v := fun v q => by
      rw [← hgo] at q
      cases q
    have hTab : GxR.Tabbed P H2 (upd H2 P (.tbl (ps ++ more))) := ⟨⟨ps ++ more, upd_same, by rw [← em]; exact ht3⟩, fun b hb => upd_ne hb⟩
    -- the generator's context
    have hA : (X.A.in1.in1.deeper (genEnv scope (cloFrom X.env.cells scope.names []) h3.objs.size code builtinsNs X.env)).handled = none := hr.hd
    have hAf : (X.A.in1.in1.deeper (genEnv scope (cloFrom X.env.cells scope.names []) h3.objs.size code builtinsNs X.env)).frames = some (genEnv scope (cloFrom X.env.cells scope.names []) h3.objs.size code builtinsNs X.env :: X.stack) := Around.frames_deeper I3.ok.frames
    have hrg := room_gen hr (genEnv scope (cloFrom X.env.cells scope.names []) h3.objs.size code builtinsNs X.env)
    have Ig := gen_inv (s := { s2 with heap := h3, toks := tk }) (s' := { s2 with gens := s2.gens.push (.fresh (.compStart (.GeneratorExp elt [⟨tg, iter, [], 0⟩] scope gpos) 0 (.ref it) .none (genEnv scope (cloFrom X.env.cells scope.names []) h3.objs.size code builtinsNs X.env))), toks := tk + 1 + 1 + 1, heap := h'.push go })
      (fp := fp) (a := h'.objs.size) (go := go) (code := code) I3 S.blk hN S.cell f3 hA hAf keep5 ⟨_, hn'.push _⟩ rfl (AllBare.push I2.bare rfl) hpushed (by show h3.objs.size < h'.objs.size; omega) hgd
    have tn5 : tn 0 (h'.push go) := T.keep _ _ _ st2 fun b hb o e => keep5 b o (keep3 b o (f2' b hb).2 e)
    have stat : ∀ H', (∀ b ∈ fp, H' b = none) → ∀ b ∈ fp, FpOk (gcx X (X.A.in1.in1.deeper (genEnv scope (cloFrom X.env.cells scope.names []) h3.objs.size code builtinsNs X.env)) { s2 with heap := h3, toks := tk } (upd H2 P (.tbl (ps ++ more))) scope (genEnv scope (cloFrom X.env.cells scope.names []) h3.objs.size code builtinsNs X.env) fp [(h'.objs.size, go)]) [] H' b := fun H' hn b hb => by
      refine ⟨hn b hb, Nat.ne_of_lt (f3 b hb).2, fun z => Ig.ok.exfs b hb z, .inl hb, fun x c e => (Ig.ok.exf b hb).2 x c e, fun q hq => ?_⟩
      have hq' : q = (h'.objs.size, go) := by simpa using hq
      subst hq'
      exact Nat.ne_of_gt (Nat.lt_trans (f3 b hb).2 (by omega : h3.objs.size < h'.objs.size))
    -- the call of all
    refine call_function_tree F.kind_all F.plain_all F.entry_all (F.args_all1 _) ?_
    unfold Builtin.«all»
    refine wpAny_bind (m := oneArg "all" _) (wpAny_pure ?_)
    refine wpAny_bind (wpAny_pyIter_gen (s := { s2 with gens := _, toks := _, heap := _ }) (hgen _ hpushed) ?_)
    refine wpAny_pure ⟨plainId_quiet F.plain_all_loop _, ?_⟩
    refine all_drain (Xg := (gcx X (X.A.in1.in1.deeper (genEnv scope (cloFrom X.env.cells scope.names []) h3.objs.size code builtinsNs X.env)) { s2 with heap := h3, toks := tk } (upd H2 P (.tbl (ps ++ more))) scope (genEnv scope (cloFrom X.env.cells scope.names []) h3.objs.size code builtinsNs X.env) fp [(h'.objs.size, go)])) (A := X.A) (go := go) (QF := fun b H' => Q (.bl b) H') hr.hd (by have := hr.dp; omega) (fun h e => hgen h e) (List.mem_singleton.mpr rfl) (fun b s' hq => ?_) N _ (hgen _ hpushed) (Ig.nolimit) Ig.bare
      ⟨_, Array.getElem?_push_size .., rfl, seg_allStart (Xg := (gcx X (X.A.in1.in1.deeper (genEnv scope (cloFrom X.env.cells scope.names []) h3.objs.size code builtinsNs X.env)) { s2 with heap := h3, toks := tk } (upd H2 P (.tbl (ps ++ more))) scope (genEnv scope (cloFrom X.env.cells scope.names []) h3.objs.size code builtinsNs X.env) fp [(h'.objs.size, go)])) (A := X.A.in1.in1) over_gen T tn5 (seg_allLoop (Xg := (gcx X (X.A.in1.in1.deeper (genEnv scope (cloFrom X.env.cells scope.names []) h3.objs.size code builtinsNs X.env)) { s2 with heap := h3, toks := tk } (upd H2 P (.tbl (ps ++ more))) scope (genEnv scope (cloFrom X.env.cells scope.names []) h3.objs.size code builtinsNs X.env) fp [(h'.objs.size, go)])) over_gen hc (fun _ _ z => z) T (hgt _ _ _ _ _ _ _ _ _ hrg) (hel _ _ _ _ _ _ _ _ _ hrg) S.co stat N W turn N 0 _ _ _ _ (Nat.zero_add _) (Inv.keptS Ig ⟨rfl, allBare_setGen Ig.bare rfl, fun _ _ e => e⟩) tn5 (fun b hb => (f3 b hb).1.1) (hW0 _ hTab))⟩
    obtain ⟨σg, H', Ig', q⟩ := hq
    exact ⟨.bl b, H', gen_back I3 f3 Ig', rfl, q⟩
  cases hf : codeAmong gpos ps.toList with
  | none =>
    refine wpAny_genexprCodeX hcode (cd.code hPs ht) (cd.tab hPs) hf fun c' h' tk hx hge hlt hco' _ htab' _ => ?_
    obtain ⟨o1, vs, f1, tf, fl, tg', inF, tx, tt, op, _, _, _, _, _, _, _, _, _, htr, _⟩ := hco'
    exact cont _ h' tk _ hx (Nat.le_trans hge (Nat.le_of_lt hlt)) htab'.2 ⟨_, rfl⟩ htr
  | some cv =>
    refine wpAny_genexprCode_hit hcode (cd.code hPs ht) hf ?_
    exact cont cv s2.heap s2.toks ps (Heap.ExtBut.refl _ _) (Nat.le_refl _) hPs ⟨#[], by simp⟩ ht
end
end FF
end
section
set_option Elab.async false
set_option linter.all false
set_option maxRecDepth 100000
set_option maxHeartbeats 2000000
/-! FFData: values as plain data (PyData), what is owned, the state of a def's slots. -/
namespace FF
open PySem PySem.Spec PyProof.Rows L2

abbrev D := PyData
/-- what a slot holds: unknown, a value, an owned list (io: the caller's), an owned dict -/
inductive Ent where
  | u
  | v (d : D)
  | l (io : Bool) (xs : List D)
  | k (io : Bool) (kvs : List (Key × D))
abbrev Env' := List Ent

/-- the heap without what is owned -/
def msk (W : List Addr) (H : Hp) : Hp := fun a => if a ∈ W then none else H a
theorem msk_some {W : List Addr} {H : Hp} {a : Addr} {o : HO} (h : msk W H a = some o) : a ∉ W ∧ H a = some o := by
  unfold msk at h
  split at h
  · cases h
  · rename_i n
    exact ⟨n, h⟩
theorem msk_of {W : List Addr} {H : Hp} {a : Addr} {o : HO} (n : a ∉ W) (h : H a = some o) : msk W H a = some o := by
  unfold msk
  rw [if_neg n]
  exact h
theorem msk_nil {H : Hp} : msk [] H = H := by
  funext a
  unfold msk
  simp

/-- how a thing stays: a table may grow -/
def Kp (H' : Hp) (a : Addr) : HO → Prop
  | .tbl ps => ∃ qs : Array Value, H' a = some (.tbl qs) ∧ (TriplesOk ps.toList → TriplesOk qs.toList)
  | o => H' a = some o
theorem Kp.ex {H' : Hp} {a : Addr} {o : HO} (h : Kp H' a o) : ∃ o', H' a = some o' := by
  cases o <;> first | exact ⟨_, h⟩ | exact ⟨_, h.choose_spec.1⟩
theorem Kp.refl {H : Hp} {a : Addr} {o : HO} (h : H a = some o) : Kp H a o := by
  cases o <;> first | exact h | exact ⟨_, h, id⟩
theorem Kp.of {H H' : Hp} {a : Addr} {o : HO} (h : H' a = H a) (e : H a = some o) : Kp H' a o := Kp.refl (h.trans e)
theorem Kp.trans {H1 H2 : Hp} {a : Addr} {o : HO} (h : Kp H1 a o) (g : ∀ o', H1 a = some o' → Kp H2 a o') : Kp H2 a o := by
  cases o with
  | tbl ps =>
    obtain ⟨qs, e, t⟩ := h
    obtain ⟨rs, e2, t2⟩ := g _ e
    exact ⟨rs, e2, fun x => t2 (t x)⟩
  | _ => exact g _ h
/-- all but W stays -/
def Gr (W : List Addr) (H H' : Hp) : Prop := ∀ a o, a ∉ W → H a = some o → Kp H' a o
theorem Gr.refl (W : List Addr) (H : Hp) : Gr W H H := fun a o _ h => Kp.refl h
theorem Gr.trans {W : List Addr} {H H1 H2 : Hp} (a : Gr W H H1) (b : Gr W H1 H2) : Gr W H H2 := fun x o n h => Kp.trans (a x o n h) fun o' h' => b x o' n h'
theorem Gr.mono {W W' : List Addr} {H H' : Hp} (a : Gr W H H') (s : ∀ x ∈ W, x ∈ W') : Gr W' H H' := fun x o n h => a x o (fun z => n (s x z)) h
theorem Gr.new {W : List Addr} {H : Hp} {p : Addr} {o : HO} (h : H p = none) : Gr W H (upd H p o) := fun a u _ e => Kp.of (upd_ne (ne_of_none e h)) e
theorem Gr.free {W : List Addr} {H H' : Hp} (g : Gr W H H') {a : Addr} (n : a ∉ W) (h : H' a = none) : H a = none := by
  cases e : H a with
  | none => rfl
  | some o =>
    obtain ⟨o', e'⟩ := Kp.ex (g a o n e)
    rw [h] at e'
    cases e'
theorem Gr.tab {W : List Addr} {H H' : Hp} (g : Gr W H H') {P : Addr} (n : P ∉ W) (h : GxR.TabG H P) : GxR.TabG H' P := by
  obtain ⟨ps, e, t⟩ := h
  obtain ⟨qs, e', t'⟩ := g P _ n e
  exact ⟨qs, e', t' t⟩
/-- a step: what is owned behind it was owned or is new -/
structure Step (W : List Addr) (H : Hp) (W' : List Addr) (H' : Hp) : Prop where
  grow : ∀ a, a ∈ W' → a ∈ W ∨ H a = none
  keep : Gr W H H'
theorem Step.refl (W : List Addr) (H : Hp) : Step W H W H := ⟨fun _ h => .inl h, Gr.refl W H⟩
theorem Step.trans {W W1 W2 : List Addr} {H H1 H2 : Hp} (a : Step W H W1 H1) (b : Step W1 H1 W2 H2) : Step W H W2 H2 where
  grow := fun x h => by
    rcases b.grow x h with z | z
    · exact a.grow x z
    · by_cases hx : x ∈ W
      · exact .inl hx
      · exact .inr (a.keep.free hx z)
  keep := fun x o n h => Kp.trans (a.keep x o n h) fun o' h' => b.keep x o' (fun z => by
    rcases a.grow x z with y | y
    · exact n y
    · rw [h] at y
      cases y) h'
theorem Step.of_gr {W : List Addr} {H H' : Hp} (g : Gr [] H H') : Step W H W H' := ⟨fun _ h => .inl h, g.mono (fun x z => by cases z)⟩

end FF
namespace L2
open PySem PySem.Spec PyProof.Rows FF
/-! ### data over a heap -/
mutual
inductive Dv (K : PySem.W.Frag) (H : Hp) : V → D → Prop
  | non : Dv K H .non .none
  | bl (b : Bool) : Dv K H (.bl b) (.bool b)
  | int (i : Int) : Dv K H (.int i) (.int i)
  | str (x : Str) : Dv K H (.str x) (.str x)
  | lst {a : Addr} {xs : List V} {ds : List D} : SqL K H a xs → DvAll K H xs ds → Dv K H (.ref a) (.list ds)
  | tup {a : Addr} {xs : List V} {ds : List D} : SqT K H a xs → DvAll K H xs ds → Dv K H (.ref a) (.tuple ds)
inductive DvAll (K : PySem.W.Frag) (H : Hp) : List V → List D → Prop
  | nil : DvAll K H [] []
  | cons {v : V} {vs : List V} {d : D} {ds : List D} : Dv K H v d → DvAll K H vs ds → DvAll K H (v :: vs) (d :: ds)
end
mutual
theorem Dv.dp {K : PySem.W.Frag} {H : Hp} : ∀ (d : D) (v : V), Dv K H v d → Dp K H v d
  | .none, _, h => by cases h; exact .non
  | .bool _, _, h => by cases h; exact .bl _
  | .int _, _, h => by cases h; exact .int _
  | .str _, _, h => by cases h; exact .str _
  | .list ds, _, h => by
    cases h with
    | lst hs ha => exact .lst hs (Dv.dpAll ds _ ha)
  | .tuple ds, _, h => by
    cases h with
    | tup hs ha => exact .tup hs (Dv.dpAll ds _ ha)
  | .dict _, _, h => by cases h
theorem Dv.dpAll {K : PySem.W.Frag} {H : Hp} : ∀ (ds : List D) (vs : List V), DvAll K H vs ds → DpAll K H vs ds
  | [], _, h => by cases h; exact .nil
  | d :: ds, _, h => by
    cases h with
    | cons h1 h2 => exact .cons (Dv.dp d _ h1) (Dv.dpAll ds _ h2)
end
mutual
theorem Dv.map {K : PySem.W.Frag} {H H' : Hp} (hl : ∀ a xs, SqL K H a xs → SqL K H' a xs) (ht : ∀ a xs, SqT K H a xs → SqT K H' a xs) : ∀ (d : D) (v : V), Dv K H v d → Dv K H' v d
  | .none, _, h => by cases h; exact .non
  | .bool _, _, h => by cases h; exact .bl _
  | .int _, _, h => by cases h; exact .int _
  | .str _, _, h => by cases h; exact .str _
  | .list ds, _, h => by
    cases h with
    | lst hs ha => exact .lst (hl _ _ hs) (Dv.mapAll hl ht ds _ ha)
  | .tuple ds, _, h => by
    cases h with
    | tup hs ha => exact .tup (ht _ _ hs) (Dv.mapAll hl ht ds _ ha)
  | .dict _, _, h => by cases h
theorem Dv.mapAll {K : PySem.W.Frag} {H H' : Hp} (hl : ∀ a xs, SqL K H a xs → SqL K H' a xs) (ht : ∀ a xs, SqT K H a xs → SqT K H' a xs) : ∀ (ds : List D) (vs : List V), DvAll K H vs ds → DvAll K H' vs ds
  | [], _, h => by cases h; exact .nil
  | d :: ds, _, h => by
    cases h with
    | cons h1 h2 => exact .cons (Dv.map hl ht d _ h1) (Dv.mapAll hl ht ds _ h2)
end
theorem rd_keep {H H' : Hp} {a : Addr} {u : HO} (hu : ∀ ps, u ≠ .tbl ps) (k : ∀ o, H a = some o → Kp H' a o) (h : Rd H a u) : Rd H' a u := by
  rcases h with h | ⟨o, h⟩
  · have := k _ h
    cases u with
    | tbl ps => exact (hu ps rfl).elim
    | _ => exact .inl this
  · exact .inr ⟨o, k _ h⟩
theorem sql_keep {K : PySem.W.Frag} {H H' : Hp} {a : Addr} {xs : List V} (k : ∀ o, H a = some o → Kp H' a o) (h : SqL K H a xs) : SqL K H' a xs := h.imp (rd_keep (fun _ z => by cases z) k) id
theorem sqt_keep {K : PySem.W.Frag} {H H' : Hp} {a : Addr} {xs : List V} (k : ∀ o, H a = some o → Kp H' a o) (h : SqT K H a xs) : SqT K H' a xs := h.imp (rd_keep (fun _ z => by cases z) k) id
theorem step_msk {W W' : List Addr} {H H' : Hp} (s : Step W H W' H') (a : Addr) (o : HO) (h : msk W H a = some o) : Kp (msk W' H') a o := by
  obtain ⟨n, e⟩ := msk_some h
  have n' : a ∉ W' := fun z => by
    rcases s.grow a z with y | y
    · exact n y
    · rw [e] at y
      cases y
  have q := s.keep a o n e
  cases o with
  | tbl ps =>
    obtain ⟨qs, e', t⟩ := q
    exact ⟨qs, msk_of n' e', t⟩
  | _ => exact msk_of n' q
theorem Dv.step {K : PySem.W.Frag} {W W' : List Addr} {H H' : Hp} {v : V} {d : D} (s : Step W H W' H') (h : Dv K (msk W H) v d) : Dv K (msk W' H') v d :=
  Dv.map (fun a xs => sql_keep fun o e => step_msk s a o e) (fun a xs => sqt_keep fun o e => step_msk s a o e) d v h
theorem DvAll.step {K : PySem.W.Frag} {W W' : List Addr} {H H' : Hp} {vs : List V} {ds : List D} (s : Step W H W' H') (h : DvAll K (msk W H) vs ds) : DvAll K (msk W' H') vs ds :=
  Dv.mapAll (fun a xs => sql_keep fun o e => step_msk s a o e) (fun a xs => sqt_keep fun o e => step_msk s a o e) ds vs h
theorem Dv.full {K : PySem.W.Frag} {W : List Addr} {H : Hp} {v : V} {d : D} (h : Dv K (msk W H) v d) : Dv K H v d :=
  Dv.map (fun a xs => sql_keep fun o e => Kp.refl (msk_some e).2) (fun a xs => sqt_keep fun o e => Kp.refl (msk_some e).2) d v h
theorem DvAll.full {K : PySem.W.Frag} {W : List Addr} {H : Hp} {vs : List V} {ds : List D} (h : DvAll K (msk W H) vs ds) : DvAll K H vs ds :=
  Dv.mapAll (fun a xs => sql_keep fun o e => Kp.refl (msk_some e).2) (fun a xs => sqt_keep fun o e => Kp.refl (msk_some e).2) ds vs h
/-- less owned, more heap -/
theorem msk_less {W W' : List Addr} {H : Hp} (s : ∀ a ∈ W', a ∈ W) (a : Addr) (o : HO) (h : msk W H a = some o) : Kp (msk W' H) a o := by
  obtain ⟨n, e⟩ := msk_some h
  exact Kp.refl (msk_of (fun z => n (s a z)) e)
theorem Dv.less {K : PySem.W.Frag} {W W' : List Addr} {H : Hp} {v : V} {d : D} (s : ∀ a ∈ W', a ∈ W) (h : Dv K (msk W H) v d) : Dv K (msk W' H) v d :=
  Dv.map (fun a xs => sql_keep fun o e => msk_less s a o e) (fun a xs => sqt_keep fun o e => msk_less s a o e) d v h
theorem DvAll.less {K : PySem.W.Frag} {W W' : List Addr} {H : Hp} {vs : List V} {ds : List D} (s : ∀ a ∈ W', a ∈ W) (h : DvAll K (msk W H) vs ds) : DvAll K (msk W' H) vs ds :=
  Dv.mapAll (fun a xs => sql_keep fun o e => msk_less s a o e) (fun a xs => sqt_keep fun o e => msk_less s a o e) ds vs h
theorem DvAll.length {K : PySem.W.Frag} {H : Hp} : ∀ {vs : List V} {ds : List D}, DvAll K H vs ds → vs.length = ds.length
  | _, _, .nil => rfl
  | _, _, .cons _ t => congrArg (· + 1) (DvAll.length t)
theorem DvAll.get {K : PySem.W.Frag} {H : Hp} : ∀ {vs : List V} {ds : List D} {i : Nat} {d : D}, DvAll K H vs ds → ds[i]? = some d → ∃ v, vs[i]? = some v ∧ Dv K H v d
  | _, _, _, _, .nil, e => by simp at e
  | _, _, 0, _, .cons r _, e => by simp at e; subst e; exact ⟨_, rfl, r⟩
  | _, _, i + 1, d, .cons _ t, e => by
    obtain ⟨v, h1, h2⟩ := DvAll.get (i := i) (d := d) t (by simpa using e)
    exact ⟨v, by simpa using h1, h2⟩
theorem DvAll.getv {K : PySem.W.Frag} {H : Hp} : ∀ {vs : List V} {ds : List D} {i : Nat} {v : V}, DvAll K H vs ds → vs[i]? = some v → ∃ d, ds[i]? = some d ∧ Dv K H v d
  | _, _, _, _, .nil, e => by simp at e
  | _, _, 0, _, .cons r _, e => by simp at e; subst e; exact ⟨_, rfl, r⟩
  | _, _, i + 1, v, .cons _ t, e => by
    obtain ⟨d, h1, h2⟩ := DvAll.getv (i := i) (v := v) t (by simpa using e)
    exact ⟨d, by simpa using h1, h2⟩
theorem DvAll.append {K : PySem.W.Frag} {H : Hp} : ∀ {vs ws : List V} {ds es : List D}, DvAll K H vs ds → DvAll K H ws es → DvAll K H (vs ++ ws) (ds ++ es)
  | _, _, _, _, .nil, s => s
  | _, _, _, _, .cons r t, s => .cons r (DvAll.append t s)
theorem DvAll.take {K : PySem.W.Frag} {H : Hp} : ∀ {vs : List V} {ds : List D} (n : Nat), DvAll K H vs ds → DvAll K H (vs.take n) (ds.take n)
  | _, _, 0, _ => .nil
  | _, _, _ + 1, .nil => .nil
  | _, _, n + 1, .cons r t => .cons r (DvAll.take n t)
theorem DvAll.drop {K : PySem.W.Frag} {H : Hp} : ∀ {vs : List V} {ds : List D} (n : Nat), DvAll K H vs ds → DvAll K H (vs.drop n) (ds.drop n)
  | _, _, 0, r => r
  | _, _, _ + 1, .nil => .nil
  | _, _, n + 1, .cons _ t => DvAll.drop n t
theorem DvAll.set {K : PySem.W.Frag} {H : Hp} {v : V} {d : D} (r : Dv K H v d) : ∀ {vs : List V} {ds : List D} (i : Nat), DvAll K H vs ds → DvAll K H (vs.set i v) (ds.set i d)
  | _, _, _, .nil => .nil
  | _, _, 0, .cons _ t => .cons r t
  | _, _, i + 1, .cons q t => .cons q (DvAll.set r i t)
theorem DvAll.one {K : PySem.W.Frag} {H : Hp} {v : V} {d : D} (h : Dv K H v d) : DvAll K H [v] [d] := .cons h .nil
end L2
end
section
set_option Elab.async false
set_option linter.all false
set_option maxRecDepth 100000
set_option maxHeartbeats 2000000
/-! FFCore: contexts of a def, its slots as data, the judgements. -/
namespace FF
open PySem PySem.Spec PyProof.Rows L2

inductive Res (α : Type) where
  | ok (a : α)
  | er (c : String)
abbrev M (α : Type) := Env' → Option (Res α × Env')
def mPure {α : Type} (a : α) : M α := fun δ => some (.ok a, δ)
def mNo {α : Type} : M α := fun _ => none
def mErr {α : Type} (c : String) : M α := fun δ => some (.er c, δ)
def mOpt {α : Type} (o : Option α) : M α := fun δ => o.map fun a => (.ok a, δ)
def mBind {α β : Type} (m : M α) (f : α → M β) : M β := fun δ => match m δ with
  | some (.ok a, δ1) => f a δ1
  | some (.er c, δ1) => some (.er c, δ1)
  | none => none

/-- what a def's contexts have in common -/
structure Kl where
  P : Program
  w : World
  K : PySem.W.Frag
  mg : Str → Option Value
  base : Heap
  N : List Str
  sc : Scope
  k : Nat
  cd : Option Addr
  T : List Addr
  Wx : WX
  cls : String → Value
  hot : Bool
  fnl : Str → Bool
  dfn : Bool
structure Kl.Has (L : Kl) (X : Cx) : Prop where
  P : X.prog = L.P
  w : X.w = L.w
  K : X.K = L.K
  mg : X.mg = L.mg
  base : X.base = L.base
  N : X.N = L.N
  sc : X.env.scope = L.sc
  nd : L.N.Nodup
  calm : L.hot = false → X.calm = true
  room : L.hot = false → Room L.k X.A
  hotc : L.hot = true → L2H.HotC X ∧ L2H.RoomH L.k X.A
  un : X.A.units + 65 < cLine
  code : ∀ c, L.cd = some c → X.env.code = .ref c
  own : PassesOwn (model X.prog X.w) X.A X.env X.xe
  tk : L2N.Takes X L.Wx
  fn : ∀ x, L.fnl x = true → X.fn x = true
  frm : L.dfn = true → X.stack = X.env :: X.outer ∧ X.env.frame = some X.env.locals

/-- around a call: what the caller owns, what of it is handed in, the heap at the entry -/
structure Amb where
  W0 : List Addr
  M : List Addr
  H0 : Hp
  F : List Addr := []
  HF : Hp := fun _ => none

def Ent.own : Ent → Prop
  | .l _ _ => True
  | .k _ _ => True
  | _ => False
/-- an owned address: the caller's, handed in; or new -/
def Ow (Z : Amb) (W : List Addr) (a : Addr) (io : Bool) : Prop := a ∈ W ∧ (if io = true then a ∈ Z.M else Z.H0 a = none)
def EntAt (K : PySem.W.Frag) (Z : Amb) (W : List Addr) (H : Hp) (v : V) : Ent → Prop
  | .u => True
  | .v d => Dv K (msk W H) v d
  | .l io xs => ∃ a vs, v = .ref a ∧ Ow Z W a io ∧ H a = some (.lst vs) ∧ DvAll K (msk W H) vs xs
  | .k io kvs => ∃ a us, v = .ref a ∧ Ow Z W a io ∧ H a = some (.dK us) ∧ us.map (·.1) = kvs.map (·.1) ∧ DvAll K (msk W H) (us.map (·.2)) (kvs.map (·.2))
structure Sg (L : Kl) (Z : Amb) (W : List Addr) (δ : Env') (σ : L2.St) (H : Hp) : Prop where
  len : σ.length = δ.length
  slot : ∀ (i : Nat) (e : Ent), δ[i]? = some e → e ≠ Ent.u → ∃ v, σ[i]? = some (some v) ∧ EntAt L.K Z W H v e
  sep : ∀ (i j : Nat) (e e' : Ent) (a : Addr), i ≠ j → δ[i]? = some e → δ[j]? = some e' → e.own → e'.own → σ[i]? = some (some (V.ref a)) → σ[j]? = some (some (V.ref a)) → False
  sub : ∀ a ∈ Z.W0, a ∈ W
  msub : ∀ a ∈ Z.M, a ∈ Z.W0
  old : ∀ a ∈ Z.W0, ∃ o, Z.H0 a = some o
  all : ∀ a ∈ W, ∃ o, H a = some o
  base : Gr Z.M Z.H0 H
  tabs : ∀ P ∈ L.T, GxR.TabG H P
  fz : ∀ a ∈ Z.F, a ∈ W ∧ ∃ o, (∀ ps, o ≠ HO.tbl ps) ∧ Z.HF a = some o ∧ H a = some o
  fo : ∀ (i : Nat) (e : Ent) (a : Addr), δ[i]? = some e → e.own → σ[i]? = some (some (V.ref a)) → a ∉ Z.F

theorem EntAt.own_ref {K : PySem.W.Frag} {Z : Amb} {W : List Addr} {H : Hp} {v : V} {e : Ent} (h : EntAt K Z W H v e) (o : e.own) : ∃ a, v = .ref a ∧ a ∈ W := by
  cases e with
  | u => exact o.elim
  | v d => exact o.elim
  | l io xs => obtain ⟨a, _, e, w, _⟩ := h; exact ⟨a, e, w.1⟩
  | k io kvs => obtain ⟨a, _, e, w, _⟩ := h; exact ⟨a, e, w.1⟩
/-- what is owned stays as it is, the rest steps -/
theorem EntAt.step {K : PySem.W.Frag} {Z : Amb} {W W' : List Addr} {H H' : Hp} {v : V} {e : Ent} (s : Step W H W' H') (hk : ∀ a o, a ∈ W → e.own → v = .ref a → H a = some o → (∀ ps, o ≠ HO.tbl ps) → H' a = some o ∧ a ∈ W') (h : EntAt K Z W H v e) : EntAt K Z W' H' v e := by
  cases e with
  | u => trivial
  | v d => exact Dv.step s h
  | l io xs =>
    obtain ⟨a, vs, ev, w, e1, e2⟩ := h
    obtain ⟨q1, q2⟩ := hk a _ w.1 trivial ev e1 (fun _ z => by cases z)
    exact ⟨a, vs, ev, ⟨q2, w.2⟩, q1, e2.step s⟩
  | k io kvs =>
    obtain ⟨a, us, ev, w, e1, e2, e3⟩ := h
    obtain ⟨q1, q2⟩ := hk a _ w.1 trivial ev e1 (fun _ z => by cases z)
    exact ⟨a, us, ev, ⟨q2, w.2⟩, q1, e2, e3.step s⟩
section
variable {L : Kl} {Z : Amb} {W W' : List Addr} {δ δ' : Env'} {σ σ' : L2.St} {H H' : Hp} {i : Nat} {v : V} {d : D} {a : Addr}
theorem kp_nt {H' : Hp} {a : Addr} {o : HO} (n : ∀ ps, o ≠ HO.tbl ps) (h : Kp H' a o) : H' a = some o := by
  cases o with
  | tbl ps => exact (n ps rfl).elim
  | _ => exact h
theorem Sg.gr (s : Sg L Z W δ σ H) (g : Gr [] H H') : Sg L Z W δ σ H' where
  len := s.len
  slot := fun i e h n => by
    obtain ⟨v, e1, e2⟩ := s.slot i e h n
    exact ⟨v, e1, e2.step (Step.of_gr g) fun a o w _ _ ho nt => ⟨kp_nt nt (g a o (by simp) ho), w⟩⟩
  sep := s.sep
  sub := s.sub
  msub := s.msub
  old := s.old
  all := fun a h => by
    obtain ⟨o, e⟩ := s.all a h
    exact Kp.ex (g a o (by simp) e)
  base := s.base.trans (g.mono (fun x z => by cases z))
  tabs := fun P h => g.tab (by simp) (s.tabs P h)
  fz := fun a h => by
    obtain ⟨w, o, nt, e1, e2⟩ := s.fz a h
    exact ⟨w, o, nt, e1, kp_nt nt (g a o (by simp) e2)⟩
  fo := s.fo
/-- a slot gets a value -/
theorem Sg.set (s : Sg L Z W δ σ H) (hd : Dv L.K (msk W H) v d) : Sg L Z W (δ.set i (.v d)) (σ.set i (some v)) H where
  len := by rw [List.length_set, List.length_set]; exact s.len
  slot := fun j e h n => by
    by_cases hj : i = j
    · subst hj
      have hl : i < δ.length := by
        have := (List.getElem?_eq_some_iff.mp h).1
        rw [List.length_set] at this
        exact this
      rw [List.getElem?_set_self hl] at h
      cases h
      exact ⟨v, List.getElem?_set_self (by rw [s.len]; exact hl), hd⟩
    · rw [List.getElem?_set_ne hj] at h
      obtain ⟨u, e1, e2⟩ := s.slot j e h n
      exact ⟨u, by rw [List.getElem?_set_ne hj]; exact e1, e2⟩
  sep := fun j k e e' a hjk h1 h2 o1 o2 q1 q2 => by
    have key : ∀ {j : Nat} {e : Ent}, (δ.set i (.v d))[j]? = some e → e.own → i ≠ j := fun {j e} h o z => by
      subst z
      have hl : i < δ.length := by
        have := (List.getElem?_eq_some_iff.mp h).1
        rw [List.length_set] at this
        exact this
      rw [List.getElem?_set_self hl] at h
      cases h
      exact o
    have k1 := key h1 o1
    have k2 := key h2 o2
    rw [List.getElem?_set_ne k1] at h1 q1
    rw [List.getElem?_set_ne k2] at h2 q2
    exact s.sep j k e e' a hjk h1 h2 o1 o2 q1 q2
  sub := s.sub
  msub := s.msub
  old := s.old
  all := s.all
  base := s.base
  tabs := s.tabs
  fz := s.fz
  fo := fun j e a h o q => by
    have k : i ≠ j := fun z => by
      subst z
      have hl : i < δ.length := by
        have := (List.getElem?_eq_some_iff.mp h).1
        rw [List.length_set] at this
        exact this
      rw [List.getElem?_set_self hl] at h
      cases h
      exact o
    rw [List.getElem?_set_ne k] at h q
    exact s.fo j e a h o q
/-- a slot is forgotten -/
theorem Sg.forget (s : Sg L Z W δ σ H) (w : Option V) : Sg L Z W (δ.set i .u) (σ.set i w) H where
  len := by rw [List.length_set, List.length_set]; exact s.len
  slot := fun j e h n => by
    by_cases hj : i = j
    · subst hj
      have hl : i < δ.length := by
        have := (List.getElem?_eq_some_iff.mp h).1
        rw [List.length_set] at this
        exact this
      rw [List.getElem?_set_self hl] at h
      cases h
      exact absurd rfl n
    · rw [List.getElem?_set_ne hj] at h
      obtain ⟨u, e1, e2⟩ := s.slot j e h n
      exact ⟨u, by rw [List.getElem?_set_ne hj]; exact e1, e2⟩
  sep := fun j k e e' a hjk h1 h2 o1 o2 q1 q2 => by
    have key : ∀ {j : Nat} {e : Ent}, (δ.set i Ent.u)[j]? = some e → e.own → i ≠ j := fun {j e} h o z => by
      subst z
      have hl : i < δ.length := by
        have := (List.getElem?_eq_some_iff.mp h).1
        rw [List.length_set] at this
        exact this
      rw [List.getElem?_set_self hl] at h
      cases h
      exact o
    have k1 := key h1 o1
    have k2 := key h2 o2
    rw [List.getElem?_set_ne k1] at h1 q1
    rw [List.getElem?_set_ne k2] at h2 q2
    exact s.sep j k e e' a hjk h1 h2 o1 o2 q1 q2
  sub := s.sub
  msub := s.msub
  old := s.old
  all := s.all
  base := s.base
  tabs := s.tabs
  fz := s.fz
  fo := fun j e a h o q => by
    have k : i ≠ j := fun z => by
      subst z
      have hl : i < δ.length := by
        have := (List.getElem?_eq_some_iff.mp h).1
        rw [List.length_set] at this
        exact this
      rw [List.getElem?_set_self hl] at h
      cases h
      exact o
    rw [List.getElem?_set_ne k] at h q
    exact s.fo j e a h o q
/-- no slot owns it -/
def Unowned (δ : Env') (σ : L2.St) (a : Addr) : Prop := ∀ (i : Nat) (e : Ent), δ[i]? = some e → e.own → σ[i]? ≠ some (some (V.ref a))
/-- something new is laid, owned by no slot -/
theorem Sg.newOwn {o : HO} (s : Sg L Z W δ σ H) (hp : H a = none) : Sg L Z (a :: W) δ σ (upd H a o) where
  len := s.len
  slot := fun j e h n => by
    obtain ⟨u, e1, e2⟩ := s.slot j e h n
    exact ⟨u, e1, e2.step ⟨fun x z => by
      rcases List.mem_cons.mp z with y | y
      · rw [y]; exact .inr hp
      · exact .inl y, Gr.new hp⟩ fun b o' w _ _ ho _ => ⟨by rw [upd_ne (ne_of_none ho hp)]; exact ho, List.mem_cons_of_mem _ w⟩⟩
  sep := s.sep
  sub := fun x h => List.mem_cons_of_mem _ (s.sub x h)
  msub := s.msub
  old := s.old
  all := fun x h => by
    rcases List.mem_cons.mp h with z | z
    · rw [z]; exact ⟨_, upd_same⟩
    · obtain ⟨o', e⟩ := s.all x z
      exact ⟨o', by rw [upd_ne (ne_of_none e hp)]; exact e⟩
  base := s.base.trans (Gr.new hp)
  tabs := fun P h => (Gr.new (W := []) hp).tab (by simp) (s.tabs P h)
  fz := fun x h => by
    obtain ⟨w, o', nt, e1, e2⟩ := s.fz x h
    exact ⟨List.mem_cons_of_mem _ w, o', nt, e1, by rw [upd_ne (ne_of_none e2 hp)]; exact e2⟩
  fo := s.fo
theorem Sg.f_new (s : Sg L Z W δ σ H) (hp : H a = none) : a ∉ Z.F := fun h => by
  obtain ⟨_, o, _, _, e⟩ := s.fz a h
  rw [hp] at e
  cases e
theorem Sg.unowned_new (s : Sg L Z W δ σ H) (hp : H a = none) : Unowned δ σ a := fun i e h o q => by
  obtain ⟨v, e1, e2⟩ := s.slot i e h (fun z => by rw [z] at o; exact o)
  obtain ⟨b, eb, w⟩ := e2.own_ref o
  rw [q] at e1
  cases e1
  cases eb
  obtain ⟨o', e'⟩ := s.all a w
  rw [hp] at e'
  cases e'
theorem Sg.h0_new (s : Sg L Z W δ σ H) (hp : H a = none) : Z.H0 a = none := by
  cases e : Z.H0 a with
  | none => rfl
  | some o =>
    by_cases hm : a ∈ Z.M
    · obtain ⟨o', e'⟩ := s.all a (s.sub a (s.msub a hm))
      rw [hp] at e'
      cases e'
    · obtain ⟨o', e'⟩ := Kp.ex (s.base a o hm e)
      rw [hp] at e'
      cases e'
/-- a slot gets an owned thing that no slot owns -/
theorem Sg.setOwn {e : Ent} (s : Sg L Z W δ σ H) (ha : a ∈ W) (nF : a ∉ Z.F) (un : Unowned δ σ a) (he : EntAt L.K Z W H (.ref a) e) : Sg L Z W (δ.set i e) (σ.set i (some (.ref a))) H where
  len := by rw [List.length_set, List.length_set]; exact s.len
  slot := fun j e' h n => by
    by_cases hj : i = j
    · subst hj
      have hl : i < δ.length := by
        have := (List.getElem?_eq_some_iff.mp h).1
        rw [List.length_set] at this
        exact this
      rw [List.getElem?_set_self hl] at h
      cases h
      exact ⟨.ref a, List.getElem?_set_self (by rw [s.len]; exact hl), he⟩
    · rw [List.getElem?_set_ne hj] at h
      obtain ⟨u, e1, e2⟩ := s.slot j e' h n
      exact ⟨u, by rw [List.getElem?_set_ne hj]; exact e1, e2⟩
  sep := fun j k e1 e2 b hjk h1 h2 o1 o2 q1 q2 => by
    have len : ∀ {j : Nat} {x : Ent}, (δ.set i e)[j]? = some x → j < σ.length := fun {j x} h => by
      have := (List.getElem?_eq_some_iff.mp h).1
      rw [List.length_set] at this
      rw [s.len]
      exact this
    by_cases k1 : i = j
    · have k2 : i ≠ k := fun z => hjk (k1.symm.trans z)
      rw [List.getElem?_set_ne k2] at h2 q2
      subst k1
      rw [List.getElem?_set_self (len h1)] at q1
      cases q1
      exact un k e2 h2 o2 q2
    · rw [List.getElem?_set_ne k1] at h1 q1
      by_cases k2 : i = k
      · subst k2
        rw [List.getElem?_set_self (len h2)] at q2
        cases q2
        exact un j e1 h1 o1 q1
      · rw [List.getElem?_set_ne k2] at h2 q2
        exact s.sep j k e1 e2 b hjk h1 h2 o1 o2 q1 q2
  sub := s.sub
  msub := s.msub
  old := s.old
  all := s.all
  base := s.base
  tabs := s.tabs
  fz := s.fz
  fo := fun j e1 b h o q => by
    by_cases k : i = j
    · subst k
      have hl : i < σ.length := by
        have := (List.getElem?_eq_some_iff.mp h).1
        rw [List.length_set] at this
        rw [s.len]
        exact this
      rw [List.getElem?_set_self hl] at q
      cases q
      exact nF
    · rw [List.getElem?_set_ne k] at h q
      exact s.fo j e1 b h o q
/-- without one owned address -/
def less (W : List Addr) (a : Addr) : List Addr := W.filter fun b => decide (b ≠ a)
theorem mem_less {W : List Addr} {a b : Addr} : b ∈ less W a ↔ b ∈ W ∧ b ≠ a := by
  unfold less
  rw [List.mem_filter]
  exact ⟨fun h => ⟨h.1, of_decide_eq_true h.2⟩, fun h => ⟨h.1, decide_eq_true h.2⟩⟩
theorem step_less {W : List Addr} {a : Addr} {H : Hp} : Step W H (less W a) H := ⟨fun _ h => .inl (mem_less.mp h).1, Gr.refl _ _⟩
/-- a thing that no slot owns is owned no more -/
theorem Sg.letGo (s : Sg L Z W δ σ H) (h0 : Z.H0 a = none) (nF : a ∉ Z.F) (un : Unowned δ σ a) : Sg L Z (less W a) δ σ H where
  len := s.len
  slot := fun j e h n => by
    obtain ⟨u, e1, e2⟩ := s.slot j e h n
    refine ⟨u, e1, e2.step step_less fun b o w eo ev ho _ => ⟨ho, mem_less.mpr ⟨w, fun z => ?_⟩⟩⟩
    subst z
    subst ev
    exact un j e h eo e1
  sep := s.sep
  sub := fun x h => mem_less.mpr ⟨s.sub x h, fun z => by
    obtain ⟨o, e⟩ := s.old x h
    rw [z, h0] at e
    cases e⟩
  msub := s.msub
  old := s.old
  all := fun x h => s.all x (mem_less.mp h).1
  base := s.base
  tabs := s.tabs
  fz := fun x h => ⟨mem_less.mpr ⟨(s.fz x h).1, fun z => nF (z ▸ h)⟩, (s.fz x h).2⟩
  fo := s.fo
/-- an owned thing is changed -/
theorem Sg.change {e e' : Ent} {o o' : HO} (s : Sg L Z W δ σ H) (hi : δ[i]? = some e) (eo : e.own) (hs : σ[i]? = some (some (.ref a))) (hH : H a = some o) (hnt : ∀ ps, o ≠ HO.tbl ps) (aW : a ∈ W) (hOM : a ∈ Z.M ∨ Z.H0 a = none) (he : EntAt L.K Z W (upd H a o') (.ref a) e') (eo' : e'.own) :
    Sg L Z W (δ.set i e') σ (upd H a o') := by
  have hl : i < δ.length := (List.getElem?_eq_some_iff.mp hi).1
  have other : ∀ b, b ≠ a → upd H a o' b = H b := fun b h => upd_ne h
  refine ⟨by rw [List.length_set]; exact s.len, fun j x h n => ?_, fun j k e1 e2 b hjk h1 h2 o1 o2 q1 q2 => ?_, s.sub, s.msub, s.old, fun x h => ?_, fun x u n h => ?_, fun P h => ?_, fun x h => ?_, fun j x b h o q => ?_⟩
  · by_cases hj : i = j
    · subst hj
      rw [List.getElem?_set_self hl] at h
      cases h
      exact ⟨.ref a, hs, he⟩
    · rw [List.getElem?_set_ne hj] at h
      obtain ⟨u, e1, e2⟩ := s.slot j x h n
      refine ⟨u, e1, e2.step ⟨fun _ z => .inl z, fun b w nb hb => Kp.of (other b (fun z => nb (z ▸ aW))) hb⟩ fun b w bw xo ev hb _ => ⟨?_, bw⟩⟩
      rw [other b (fun z => s.sep i j e x a hj hi h eo xo hs (by rw [e1, ev, z]))]
      exact hb
  · have key : ∀ {j : Nat} {x : Ent}, (δ.set i e')[j]? = some x → x.own → ∃ y : Ent, δ[j]? = some y ∧ y.own := fun {j x} h o => by
      by_cases hj : i = j
      · subst hj
        exact ⟨e, hi, eo⟩
      · rw [List.getElem?_set_ne hj] at h
        exact ⟨x, h, o⟩
    obtain ⟨y1, g1, p1⟩ := key h1 o1
    obtain ⟨y2, g2, p2⟩ := key h2 o2
    exact s.sep j k y1 y2 b hjk g1 g2 p1 p2 q1 q2
  · by_cases hx : x = a
    · rw [hx]; exact ⟨_, upd_same⟩
    · rw [other x hx]; exact s.all x h
  · by_cases hx : x = a
    · subst hx
      rcases hOM with z | z
      · exact absurd z n
      · rw [z] at h; cases h
    · exact Kp.trans (s.base x u n h) fun u' h' => Kp.of (other x hx) h'
  · by_cases hx : P = a
    · obtain ⟨ps, e1, _⟩ := s.tabs P h
      rw [hx, hH] at e1
      exact absurd (Option.some.inj e1) (hnt ps)
    · obtain ⟨ps, e1, t⟩ := s.tabs P h
      exact ⟨ps, by rw [other P hx]; exact e1, t⟩
  · obtain ⟨w, o2, nt, e1, e2⟩ := s.fz x h
    exact ⟨w, o2, nt, e1, by rw [other x (fun z => s.fo i e a hi eo hs (z ▸ h))]; exact e2⟩
  · by_cases hj : i = j
    · subst hj
      rw [hs] at q
      cases q
      exact s.fo i e a hi eo hs
    · rw [List.getElem?_set_ne hj] at h
      exact s.fo j x b h o q
/-- a list that no slot owns, and that is not kept frozen, is changed -/
theorem Sg.changeF {xs ys : List V} (s : Sg L Z W δ σ H) (aW : a ∈ W) (h0 : Z.H0 a = none) (nF : a ∉ Z.F) (un : Unowned δ σ a) (hH : H a = some (.lst xs)) : Sg L Z W δ σ (upd H a (.lst ys)) := by
  have other : ∀ b, b ≠ a → upd H a (HO.lst ys) b = H b := fun b h => upd_ne h
  refine ⟨s.len, fun j x h n => ?_, s.sep, s.sub, s.msub, s.old, fun x h => ?_, fun x u n h => ?_, fun P h => ?_, fun x h => ?_, s.fo⟩
  · obtain ⟨u, e1, e2⟩ := s.slot j x h n
    refine ⟨u, e1, e2.step ⟨fun _ z => .inl z, fun b w nb hb => Kp.of (other b (fun z => nb (z ▸ aW))) hb⟩ fun b w bw xo ev hb _ => ⟨?_, bw⟩⟩
    rw [other b (fun z => by
      subst z
      subst ev
      exact un j x h xo e1)]
    exact hb
  · by_cases hx : x = a
    · rw [hx]; exact ⟨_, upd_same⟩
    · rw [other x hx]; exact s.all x h
  · by_cases hx : x = a
    · subst hx
      rw [h0] at h; cases h
    · exact Kp.trans (s.base x u n h) fun u' h' => Kp.of (other x hx) h'
  · by_cases hx : P = a
    · obtain ⟨ps, e1, _⟩ := s.tabs P h
      rw [hx, hH] at e1
      cases e1
    · obtain ⟨ps, e1, t⟩ := s.tabs P h
      exact ⟨ps, by rw [other P hx]; exact e1, t⟩
  · obtain ⟨w, o2, nt, e1, e2⟩ := s.fz x h
    exact ⟨w, o2, nt, e1, by rw [other x (fun z => nF (z ▸ h))]; exact e2⟩
/-- frozen -/
def Amb.fr (Z : Amb) (a : Addr) (o : HO) : Amb := { Z with F := a :: Z.F, HF := upd Z.HF a o }
theorem Sg.freeze {o : HO} (s : Sg L Z W δ σ H) (aW : a ∈ W) (nF : a ∉ Z.F) (un : Unowned δ σ a) (nt : ∀ ps, o ≠ HO.tbl ps) (hH : H a = some o) : Sg L (Z.fr a o) W δ σ H where
  len := s.len
  slot := fun i e h n => by
    obtain ⟨v, e1, e2⟩ := s.slot i e h n
    refine ⟨v, e1, ?_⟩
    cases e with
    | u => trivial
    | v d => exact e2
    | l io xs => exact e2
    | k io kvs => exact e2
  sep := s.sep
  sub := s.sub
  msub := s.msub
  old := s.old
  all := s.all
  base := s.base
  tabs := s.tabs
  fz := fun x h => by
    by_cases hx : x = a
    · subst hx
      exact ⟨aW, o, nt, upd_same, hH⟩
    · obtain ⟨w, o2, n2, e1, e2⟩ := s.fz x ((List.mem_cons.mp h).resolve_left hx)
      exact ⟨w, o2, n2, by show upd Z.HF a o x = _; rw [upd_ne hx]; exact e1, e2⟩
  fo := fun i e b h o q z => by
    rcases List.mem_cons.mp z with y | y
    · subst y
      exact un i e h o q
    · exact s.fo i e b h o q y
theorem Sg.thaw {o : HO} (s : Sg L (Z.fr a o) W δ σ H) (nF : a ∉ Z.F) : Sg L Z W δ σ H where
  len := s.len
  slot := fun i e h n => by
    obtain ⟨v, e1, e2⟩ := s.slot i e h n
    refine ⟨v, e1, ?_⟩
    cases e with
    | u => trivial
    | v d => exact e2
    | l io xs => exact e2
    | k io kvs => exact e2
  sep := s.sep
  sub := s.sub
  msub := s.msub
  old := s.old
  all := s.all
  base := s.base
  tabs := s.tabs
  fz := fun x h => by
    obtain ⟨w, o2, n2, e1, e2⟩ := s.fz x (List.mem_cons_of_mem _ h)
    have hx : x ≠ a := fun z => nF (z ▸ h)
    have e1 : upd Z.HF a o x = some o2 := e1
    rw [upd_ne hx] at e1
    exact ⟨w, o2, n2, e1, e2⟩
  fo := fun i e b h o q z => s.fo i e b h o q (List.mem_cons_of_mem _ z)
theorem Sg.frozen {o : HO} (s : Sg L (Z.fr a o) W δ σ H) : a ∈ W ∧ H a = some o ∧ Unowned δ σ a := by
  obtain ⟨w, o2, n2, e1, e2⟩ := s.fz a List.mem_cons_self
  have e1 : upd Z.HF a o a = some o2 := e1
  rw [upd_same] at e1
  cases e1
  exact ⟨w, e2, fun i e h x q => s.fo i e a h x q List.mem_cons_self⟩
/-- other slots that know as much -/
theorem Sg.slots {σ2 : L2.St} (s : Sg L Z W δ σ H) (hl : σ2.length = σ.length) (hk : ∀ (i : Nat) (e : Ent) (v : V), δ[i]? = some e → e ≠ Ent.u → σ[i]? = some (some v) → σ2[i]? = some (some v)) : Sg L Z W δ σ2 H where
  len := hl.trans s.len
  slot := fun i e h n => by
    obtain ⟨v, e1, e2⟩ := s.slot i e h n
    exact ⟨v, hk i e v h n e1, e2⟩
  sep := fun i j e e' a hij h1 h2 o1 o2 q1 q2 => by
    have back : ∀ {i : Nat} {e : Ent}, δ[i]? = some e → e.own → σ2[i]? = some (some (V.ref a)) → σ[i]? = some (some (V.ref a)) := fun {i e} h o q => by
      have n : e ≠ Ent.u := fun z => by rw [z] at o; exact o
      obtain ⟨v, e1, _⟩ := s.slot i e h n
      have := hk i e v h n e1
      rw [q] at this
      cases this
      exact e1
    exact s.sep i j e e' a hij h1 h2 o1 o2 (back h1 o1 q1) (back h2 o2 q2)
  sub := s.sub
  msub := s.msub
  old := s.old
  all := s.all
  base := s.base
  tabs := s.tabs
  fz := s.fz
  fo := fun i e a h o q => by
    have n : e ≠ Ent.u := fun z => by rw [z] at o; exact o
    obtain ⟨v, e1, _⟩ := s.slot i e h n
    have := hk i e v h n e1
    rw [q] at this
    cases this
    exact s.fo i e a h o e1
end
end FF
end
section
set_option Elab.async false
set_option linter.all false
set_option maxRecDepth 100000
set_option maxHeartbeats 2000000
/-! FFJudge: the judgements and how they are put together. -/
namespace FF
open PySem PySem.Spec PyProof.Rows L2

/-! ### readings -/
def R {α β : Type} (L : Kl) (Z : Amb) (Rel : List Addr → Hp → β → α → Prop) (W : List Addr) (δ' : Env') (σ : L2.St) (H : Hp) (r : Res α) (τ : (β → Hp → Prop) → Prop) : Prop :=
  match r with
  | .ok a => ∀ Q : β → Hp → Prop, (∀ b W' H', Sg L Z W' δ' σ H' → Step W H W' H' → Rel W' H' b a → Q b H') → τ Q
  | .er c => ∀ Q : β → Hp → Prop, (∀ W' H', Sg L Z W' δ' σ H' → Step W H W' H' → L.Wx (L.cls c) none σ H') → τ Q
def RelD (L : Kl) (W : List Addr) (H : Hp) (v : V) (d : D) : Prop := Dv L.K (msk W H) v d
def RelB (_ : List Addr) (_ : Hp) (b b' : Bool) : Prop := b = b'
def RelL (L : Kl) (W : List Addr) (H : Hp) (vs : List V) (ds : List D) : Prop := DvAll L.K (msk W H) vs ds
/-- a list that nobody else knows -/
def RelF (L : Kl) (Z : Amb) (δ : Env') (σ : L2.St) (W : List Addr) (H : Hp) (v : V) (xs : List D) : Prop :=
  ∃ a vs, v = .ref a ∧ a ∈ W ∧ Z.H0 a = none ∧ a ∉ Z.F ∧ H a = some (.lst vs) ∧ DvAll L.K (msk W H) vs xs ∧ Unowned δ σ a

theorem mBind_inv {α β : Type} {m : M α} {k : α → M β} {δ δ' : Env'} {r : Res β} (h : mBind m k δ = some (r, δ')) :
    (∃ c, m δ = some (.er c, δ') ∧ r = .er c) ∨ ∃ a δ1, m δ = some (.ok a, δ1) ∧ k a δ1 = some (r, δ') := by
  unfold mBind at h
  cases e : m δ with
  | none => rw [e] at h; cases h
  | some p =>
    obtain ⟨q, δ1⟩ := p
    rw [e] at h
    cases q with
    | ok a => exact .inr ⟨a, δ1, rfl, h⟩
    | er c =>
      cases h
      exact .inl ⟨c, rfl, rfl⟩
section
variable {α β γ κ : Type} {L : Kl} {Z : Amb} {Rel1 : List Addr → Hp → β → α → Prop} {Rel2 : List Addr → Hp → κ → γ → Prop} {W : List Addr} {δ δ' : Env'} {σ : L2.St} {H : Hp}
theorem R_seq {m : M α} {k : α → M γ} {r : Res γ} {τa : (β → Hp → Prop) → Prop} {τ : β → Hp → (κ → Hp → Prop) → Prop} (ha : ∀ r1 δ1, m δ = some (r1, δ1) → R L Z Rel1 W δ1 σ H r1 τa) (h : mBind m k δ = some (r, δ'))
    (next : ∀ a δ1 b W1 H1, Sg L Z W1 δ1 σ H1 → Step W H W1 H1 → Rel1 W1 H1 b a → k a δ1 = some (r, δ') → R L Z Rel2 W1 δ' σ H1 r (τ b H1)) : R L Z Rel2 W δ' σ H r (fun Q => τa fun b H1 => τ b H1 Q) := by
  rcases mBind_inv h with ⟨c, e, rfl⟩ | ⟨a, δ1, e, e2⟩
  · exact fun Q q => ha _ _ e _ q
  · cases r with
    | ok x => exact fun Q q => ha _ _ e _ fun b W1 H1 s1 st1 hb => next a δ1 b W1 H1 s1 st1 hb e2 Q fun y W2 H2 s2 st2 hy => q y W2 H2 s2 (st1.trans st2) hy
    | er c => exact fun Q q => ha _ _ e _ fun b W1 H1 s1 st1 hb => next a δ1 b W1 H1 s1 st1 hb e2 Q fun W2 H2 s2 st2 => q W2 H2 s2 (st1.trans st2)
theorem R_here {a : α} {b : β} {Rel : List Addr → Hp → β → α → Prop} (s : Sg L Z W δ' σ H) (h : Rel W H b a) : R L Z Rel W δ' σ H (.ok a) (fun Q => Q b H) := fun Q q => q b W H s (Step.refl W H) h
/-- the heap grows -/
theorem R_gr {a : α} {Rel : List Addr → Hp → β → α → Prop} {τ : (β → Hp → Prop) → Prop} (s : Sg L Z W δ' σ H) (h : ∀ Q : β → Hp → Prop, (∀ b H', Gr [] H H' → Rel W H' b a → Q b H') → τ Q) : R L Z Rel W δ' σ H (.ok a) τ :=
  fun Q q => h Q fun b H' g hb => q b W H' (s.gr g) (Step.of_gr g) hb
theorem R_step {W1 : List Addr} {H1 : Hp} {r : Res α} {Rel : List Addr → Hp → β → α → Prop} {τ : (β → Hp → Prop) → Prop} (st : Step W H W1 H1) (h : R L Z Rel W1 δ' σ H1 r τ) : R L Z Rel W δ' σ H r τ := by
  cases r with
  | ok a => exact fun Q q => h Q fun b W2 H2 s2 st2 hb => q b W2 H2 s2 (st.trans st2) hb
  | er c => exact fun Q q => h Q fun W2 H2 s2 st2 => q W2 H2 s2 (st.trans st2)
theorem R_tau {r : Res α} {Rel : List Addr → Hp → β → α → Prop} {τ τ' : (β → Hp → Prop) → Prop} (h : R L Z Rel W δ' σ H r τ) (ht : ∀ Q, τ Q → τ' Q) : R L Z Rel W δ' σ H r τ' := by
  cases r with
  | ok a => exact fun Q q => ht Q (h Q q)
  | er c => exact fun Q q => ht Q (h Q q)
end

/-! ### expressions -/
/-- written without a star -/
def Plain (e : Expr) : Prop := ∀ es env, starEach (e :: es) env = (false, eval e env) :: starEach es env
def ReadsE (L : Kl) (te : TE) (f : M D) : Prop := ∀ Z W δ σ H r δ', Sg L Z W δ σ H → f δ = some (r, δ') → R L Z (RelD L) W δ' σ H r (te σ H)
def ReadsF (L : Kl) (te : TE) (f : M (List D)) : Prop := ∀ Z W δ σ H r δ', Sg L Z W δ σ H → f δ = some (r, δ') → R L Z (RelF L Z δ' σ) W δ' σ H r (te σ H)
def ReadsT (L : Kl) (tt : TT) (f : M Bool) : Prop := ∀ Z W δ σ H r δ', Sg L Z W δ σ H → f δ = some (r, δ') → R L Z RelB W δ' σ H r (tt σ H)
def ReadsL (L : Kl) (ta : TA) (f : M (List D)) : Prop := ∀ Z W δ σ H r δ', Sg L Z W δ σ H → f δ = some (r, δ') → R L Z (RelL L) W δ' σ H r (ta σ H)
structure XD (L : Kl) (e : Expr) (f : M D) : Prop where
  pl : Plain e
  ex : ∃ te, (∀ X, L.Has X → PE X e te) ∧ ReadsE L te f
/-- .. whose value is a new list -/
structure XF (L : Kl) (e : Expr) (f : M (List D)) : Prop where
  pl : Plain e
  ex : ∃ te, (∀ X, L.Has X → PE X e te) ∧ ReadsF L te f
structure XT (L : Kl) (e : Expr) (f : M Bool) : Prop where
  ex : ∃ tt, (∀ X, L.Has X → PT X e tt) ∧ ReadsT L tt f
structure XL (L : Kl) (es : List Expr) (f : M (List D)) : Prop where
  ex : ∃ ta, (∀ X, L.Has X → PA X es ta) ∧ ReadsL L ta f

/-- by values: what a new list is as a value -/
def mList (f : M (List D)) : M D := mBind f fun xs => mPure (.list xs)
theorem xd_of {L : Kl} {e : Expr} {f : M (List D)} (h : XF L e f) : XD L e (mList f) := by
  obtain ⟨pl, te, hp, hr⟩ := h
  refine ⟨pl, te, hp, fun Z W δ σ H r δ' s h => ?_⟩
  rcases mBind_inv h with ⟨c, e1, rfl⟩ | ⟨xs, δ1, e1, e2⟩
  · exact fun Q q => hr Z W δ σ H _ _ s e1 Q q
  · cases e2
    refine fun Q q => hr Z W δ σ H _ _ s e1 Q fun v W1 H1 s1 st1 hf => ?_
    obtain ⟨a, vs, rfl, hw, h0, nF, hH, hd, un⟩ := hf
    exact q _ (less W1 a) H1 (s1.letGo h0 nF un) (st1.trans step_less) (.lst (.inl (.inl (msk_of (fun z => (mem_less.mp z).2 rfl) hH))) (DvAll.step step_less hd))
end FF
end
section
set_option Elab.async false
set_option linter.all false
set_option maxRecDepth 100000
set_option maxHeartbeats 2000000
/-! FFOps: operators over plain data. -/
namespace FF
open PySem PySem.Spec PyProof.Rows L2

abbrev AllIn (W : List Addr) (H : Hp) : Prop := ∀ a ∈ W, ∃ o, H a = some o
theorem nin_new {W : List Addr} {H : Hp} {p : Addr} (hW : AllIn W H) (hp : H p = none) : p ∉ W := fun z => by
  obtain ⟨o, e⟩ := hW p z
  rw [hp] at e
  cases e
theorem dv_newtup {K : PySem.W.Frag} {W : List Addr} {H : Hp} {p : Addr} {vs : List V} {ds : List D} (hW : AllIn W H) (hp : H p = none) (h : DvAll K (msk W H) vs ds) : Dv K (msk W (upd H p (.tup vs))) (.ref p) (.tuple ds) :=
  .tup (.inl (.inl (msk_of (nin_new hW hp) upd_same))) (h.step (Step.of_gr (Gr.new hp)))
theorem dv_gr {K : PySem.W.Frag} {W : List Addr} {H H' : Hp} {v : V} {d : D} (g : Gr [] H H') (h : Dv K (msk W H) v d) : Dv K (msk W H') v d := h.step (Step.of_gr g)

/-- what an operator on values does, over data -/
def OpD (L : Kl) (r : R2) (g : D → D → Option D) : Prop := ∀ (W : List Addr) (H : Hp) (x y : V) (a b d : D), AllIn W H → Dv L.K (msk W H) x a → Dv L.K (msk W H) y b → g a b = some d →
  ∀ Q : VK, (∀ v H', Gr [] H H' → Dv L.K (msk W H') v d → Q v H') → r x y H Q
theorem OpD.or {L : Kl} {r r' : R2} {g g' : D → D → Option D} (h : OpD L r g) (h' : OpD L r' g') : OpD L (fun x y H Q => r x y H Q ∨ r' x y H Q) (fun a b => (g a b).or (g' a b)) := by
  intro W H x y a b d hW hx hy e Q q
  have e : (g a b).or (g' a b) = some d := e
  cases e1 : g a b with
  | some z =>
    rw [e1] at e
    exact .inl (h W H x y a b d hW hx hy (by rw [e1]; exact e) Q q)
  | none =>
    rw [e1] at e
    exact .inr (h' W H x y a b d hW hx hy e Q q)

/-! ### ints -/
def gI (c : Int → Int → Bool) (f : Int → Int → D) : D → D → Option D
  | .int i, .int j => if c i j = true then some (f i j) else none
  | _, _ => none
theorem gI_inv {c : Int → Int → Bool} {f : Int → Int → D} {a b d : D} (h : gI c f a b = some d) : ∃ i j, a = .int i ∧ b = .int j ∧ c i j = true ∧ d = f i j := by
  unfold gI at h
  split at h
  · split at h
    · rename_i c
      cases h
      exact ⟨_, _, rfl, rfl, c, rfl⟩
    · cases h
  · cases h
theorem opd_I {L : Kl} {C : Int → Int → Prop} {g : Int → Int → V} {c : Int → Int → Bool} {f : Int → Int → D} (hc : ∀ i j, c i j = true → C i j) (hf : ∀ i j H, Dv L.K H (g i j) (f i j)) : OpD L (rI C g) (gI c f) := by
  intro W H x y a b d hW hx hy e Q q
  obtain ⟨i, j, rfl, rfl, h, rfl⟩ := gI_inv e
  cases hx
  cases hy
  exact ⟨i, j, rfl, rfl, hc i j h, q _ H (Gr.refl _ _) (hf i j _)⟩
theorem opd_I0 {L : Kl} {g : Int → Int → V} {f : Int → Int → D} (hf : ∀ i j H, Dv L.K H (g i j) (f i j)) : OpD L (rI0 g) (gI (fun _ _ => true) f) := by
  intro W H x y a b d hW hx hy e Q q
  obtain ⟨i, j, rfl, rfl, h, rfl⟩ := gI_inv e
  cases hx
  cases hy
  exact ⟨i, j, rfl, rfl, q _ H (Gr.refl _ _) (hf i j _)⟩
def bMul : D → D → Option D := gI (fun i j => decide ((-(2 ^ 64) < i ∧ i < 2 ^ 64) ∨ (-(2 ^ 64) < j ∧ j < 2 ^ 64))) fun i j => .int (i * j)
def bSub : D → D → Option D := gI (fun _ _ => true) fun i j => .int (i - j)
def bDiv : D → D → Option D := gI (fun _ j => decide (0 < j ∧ j < 1073741824)) fun i j => .int (i / j)
def bMod : D → D → Option D := gI (fun _ j => decide (0 < j)) fun i j => .int (i % j)
def bPow : D → D → Option D := gI (fun i j => decide (0 ≤ j ∧ j ≤ 1000000 ∧ i.natAbs < 2 ^ 64)) fun i j => .int (i ^ j.toNat)
def bShl : D → D → Option D := gI (fun i j => decide (0 ≤ j ∧ j ≤ 1000000 ∧ i.natAbs < 2 ^ 64)) fun i j => .int (i * 2 ^ j.toNat)
def bShr : D → D → Option D := gI (fun _ j => decide (0 ≤ j)) fun i j => .int (i / 2 ^ j.toNat)
def bAnd : D → D → Option D := gI (fun _ _ => true) fun i j => .int (Builtin.bitAnd i j)
def bOr : D → D → Option D := gI (fun _ _ => true) fun i j => .int (Builtin.bitOr i j)
def gStr (f : Str → Str → D) : D → D → Option D
  | .str x, .str y => if x.length + y.length ≤ 1000000 then some (f x y) else none
  | _, _ => none
def gTup : D → D → Option D
  | .tuple xs, .tuple ys => if xs.length + ys.length ≤ 1000000 then some (.tuple (xs ++ ys)) else none
  | _, _ => none
def bAdd (a b : D) : Option D := ((gI (fun _ _ => true) (fun i j => .int (i + j)) a b).or (gStr (fun x y => .str (x ++ y)) a b)).or (gTup a b)
theorem line_of {n : Nat} (h : n ≤ 1000000) : n ≤ sizeLine := Nat.le_trans h (by decide)
theorem opd_addS {L : Kl} : OpD L (fun x y H Q => ∃ i j, x = .str i ∧ y = .str j ∧ i.length + j.length ≤ sizeLine ∧ Q (.str (i ++ j)) H) (gStr fun x y => .str (x ++ y)) := by
  intro W H x y a b d hW hx hy e Q q
  unfold gStr at e
  split at e
  · split at e
    · rename_i hz
      cases e
      cases hx
      cases hy
      exact ⟨_, _, rfl, rfl, line_of hz, q _ H (Gr.refl _ _) (.str _)⟩
    · cases e
  · cases e
theorem opd_catA {L : Kl} : OpD L (rCatA L.K) gTup := by
  intro W H x y a b d hW hx hy e Q q
  unfold gTup at e
  split at e
  · split at e
    · rename_i hz
      cases e
      cases hx with
      | tup h1 h2 =>
        cases hy with
        | tup h3 h4 =>
          have l1 := h2.length
          have l2 := h4.length
          refine ⟨_, _, _, _, rfl, rfl, sqt_keep (fun o e => Kp.refl (msk_some e).2) h1, sqt_keep (fun o e => Kp.refl (msk_some e).2) h3, line_of (by omega), fun e1 => ?_, fun e1 e2 => ?_, fun e1 e2 p hp => ?_⟩
          · subst e1
            cases h2
            exact q _ H (Gr.refl _ _) (.tup h3 h4)
          · subst e2
            cases h4
            exact q _ H (Gr.refl _ _) (.tup h1 (by rw [List.append_nil]; exact h2))
          · exact q _ _ (Gr.new hp) (dv_newtup hW hp (h2.append h4))
    · cases e
  · cases e

/-! ### comparisons -/
def cEq : D → D → Option Bool
  | .none, .none => some true
  | .none, .int _ => some false
  | .int _, .none => some false
  | .none, .bool _ => some false
  | .bool _, .none => some false
  | .none, .str _ => some false
  | .str _, .none => some false
  | .int i, .int j => some (decide (i = j))
  | .bool i, .bool j => some (decide (i = j))
  | .str i, .str j => some (decide (i = j))
  | .int _, .str _ => some false
  | .str _, .int _ => some false
  | .bool _, .str _ => some false
  | .str _, .bool _ => some false
  | a, b => if SeqAt.shaped a = true ∧ SeqAt.shaped b = true then some (PyData.eqv a b) else none
def gB (c : D → D → Option Bool) (f : Bool → Bool) (a b : D) : Option D := (c a b).map fun k => .bool (f k)
theorem eqd_case {L : Kl} {W : List Addr} {H : Hp} {x y : V} {a b : D} {k : Bool} (hx : Dv L.K (msk W H) x a) (hy : Dv L.K (msk W H) y b) (e : cEq a b = some k) :
    (scal x y = true ∧ decide (x = y) = k) ∨ (Dp L.K H x a ∧ Dp L.K H y b ∧ SeqAt.shaped a = true ∧ SeqAt.shaped b = true ∧ PyData.eqv a b = k) := by
  have gen : ((if SeqAt.shaped a = true ∧ SeqAt.shaped b = true then some (PyData.eqv a b) else none) = some k) → (Dp L.K H x a ∧ Dp L.K H y b ∧ SeqAt.shaped a = true ∧ SeqAt.shaped b = true ∧ PyData.eqv a b = k) := fun h => by
    split at h
    · rename_i hs
      cases h
      exact ⟨Dv.dp _ _ hx.full, Dv.dp _ _ hy.full, hs.1, hs.2, rfl⟩
    · cases h
  cases a <;> cases b <;> first
    | exact .inr (gen e)
    | (cases hx; cases hy; cases e; exact .inl ⟨rfl, by first | rfl | simp⟩)
theorem opd_eq {L : Kl} : OpD L (fun x y H Q => rEq x y H Q ∨ rEqD L.K x y H Q) (gB cEq id) := by
  intro W H x y a b d hW hx hy e Q q
  unfold gB at e
  cases ek : cEq a b with
  | none => rw [ek] at e; cases e
  | some k =>
    rw [ek] at e
    cases e
    rcases eqd_case hx hy ek with ⟨h1, h2⟩ | ⟨h1, h2, h3, h4, h5⟩
    · exact .inl ⟨h1, by rw [h2]; exact q _ H (Gr.refl _ _) (.bl _)⟩
    · exact .inr ⟨a, b, h1, h2, h3, h4, by rw [h5]; exact q _ H (Gr.refl _ _) (.bl _)⟩
theorem opd_ne {L : Kl} : OpD L (fun x y H Q => rNe x y H Q ∨ rNeD L.K x y H Q) (gB cEq not) := by
  intro W H x y a b d hW hx hy e Q q
  unfold gB at e
  cases ek : cEq a b with
  | none => rw [ek] at e; cases e
  | some k =>
    rw [ek] at e
    cases e
    rcases eqd_case hx hy ek with ⟨h1, h2⟩ | ⟨h1, h2, h3, h4, h5⟩
    · exact .inl ⟨h1, by rw [h2]; exact q _ H (Gr.refl _ _) (.bl _)⟩
    · exact .inr ⟨a, b, h1, h2, h3, h4, by rw [h5]; exact q _ H (Gr.refl _ _) (.bl _)⟩
def flatD : D → Bool
  | .none => true
  | .bool _ => true
  | .int _ => true
  | .str _ => true
  | _ => false
theorem flat_of {K : PySem.W.Frag} {H : Hp} {v : V} {d : D} (h : Dv K H v d) (f : flatD d = true) : flatV v = true := by
  cases h <;> first | rfl | (unfold flatD at f; cases f)
theorem eqV_of {K : PySem.W.Frag} {H : Hp} {x y : V} {a b : D} (hx : Dv K H x a) (hy : Dv K H y b) (fx : flatD a = true) (fy : flatD b = true) : eqV x y = PyData.eqv a b := by
  cases hx <;> first
    | (unfold flatD at fx; cases fx; done)
    | (cases hy <;> first | (unfold flatD at fy; cases fy; done) | rfl)
theorem inV_of {K : PySem.W.Frag} {H : Hp} {x : V} {a : D} (hx : Dv K H x a) (fx : flatD a = true) : ∀ {vs : List V} {ds : List D}, DvAll K H vs ds → ds.all flatD = true → inV x vs = ds.any (fun z => PyData.eqv z a) ∧ vs.all flatV = true
  | _, _, .nil, _ => ⟨rfl, rfl⟩
  | _, _, .cons (v := v) (vs := vs) (d := d) (ds := ds) r t, f => by
    rw [List.all_cons, Bool.and_eq_true] at f
    obtain ⟨h1, h2⟩ := inV_of hx fx t f.2
    refine ⟨?_, ?_⟩
    · show (eqV v x || inV x vs) = (PyData.eqv d a || ds.any fun z => PyData.eqv z a)
      rw [eqV_of r hx f.1 fx, h1]
    · rw [List.all_cons, flat_of r f.1, h2]
      rfl
def cIn (a b : D) : Option Bool := match b with
  | .tuple ds => if flatD a = true ∧ ds.all flatD = true then some (ds.any fun z => PyData.eqv z a) else none
  | .list ds => if flatD a = true ∧ ds.all flatD = true then some (ds.any fun z => PyData.eqv z a) else if SeqAt.shaped a = true ∧ SeqAt.shaped (.list ds) = true then some (ds.any fun z => PyData.eqv z a) else none
  | .str y => match a with
    | .str x => some (!(Builtin.Str.occurrences y x 0 y.length 1).isEmpty)
    | _ => none
  | _ => none
theorem opd_in {L : Kl} : OpD L (fun x y H Q => (rIn L.K false x y H Q ∨ rInD L.K x y H Q) ∨ ∃ i j, x = .str i ∧ y = .str j ∧ Q (.bl (!(Builtin.Str.occurrences j i 0 j.length 1).isEmpty)) H) (gB cIn id) := by
  intro W H x y a b d hW hx hy e Q q
  unfold gB at e
  cases ek : cIn a b with
  | none => rw [ek] at e; cases e
  | some k =>
    rw [ek] at e
    cases e
    have sq : ∀ {p xs}, SqL L.K (msk W H) p xs → SqL L.K H p xs := fun h => sql_keep (fun o e => Kp.refl (msk_some e).2) h
    have sqT : ∀ {p xs}, SqT L.K (msk W H) p xs → SqT L.K H p xs := fun h => sqt_keep (fun o e => Kp.refl (msk_some e).2) h
    cases hy with
    | tup h1 h2 =>
      dsimp only [cIn] at ek
      split at ek
      · rename_i hf
        cases ek
        obtain ⟨i1, i2⟩ := inV_of hx hf.1 h2 hf.2
        refine .inl (.inl ⟨_, _, rfl, .inr (sqT h1), flat_of hx hf.1, i2, ?_⟩)
        show Q (.bl (inV x _)) H
        rw [i1]
        exact q _ H (Gr.refl _ _) (.bl _)
      · cases ek
    | lst h1 h2 =>
      dsimp only [cIn] at ek
      split at ek
      · rename_i hf
        cases ek
        obtain ⟨i1, i2⟩ := inV_of hx hf.1 h2 hf.2
        refine .inl (.inl ⟨_, _, rfl, .inl (sq h1), flat_of hx hf.1, i2, ?_⟩)
        show Q (.bl (inV x _)) H
        rw [i1]
        exact q _ H (Gr.refl _ _) (.bl _)
      · split at ek
        · rename_i hs
          cases ek
          exact .inl (.inr ⟨a, _, Dv.dp _ _ hx.full, Dv.dp _ _ (Dv.lst h1 h2).full, hs.1, hs.2, q _ H (Gr.refl _ _) (.bl _)⟩)
        · cases ek
    | str y =>
      cases hx <;> first
        | (dsimp only [cIn] at ek; cases ek; done)
        | skip
      case str x =>
        dsimp only [cIn] at ek
        cases ek
        exact .inr ⟨_, _, rfl, rfl, q _ H (Gr.refl _ _) (.bl _)⟩
    | non => (dsimp only [cIn] at ek; cases ek)
    | bl _ => (dsimp only [cIn] at ek; cases ek)
    | int _ => (dsimp only [cIn] at ek; cases ek)
theorem opd_notIn {L : Kl} : OpD L (fun x y H Q => (rIn L.K true x y H Q ∨ rNotInD L.K x y H Q) ∨ ∃ i j, x = .str i ∧ y = .str j ∧ Q (.bl (!(!(Builtin.Str.occurrences j i 0 j.length 1).isEmpty))) H) (gB cIn not) := by
  intro W H x y a b d hW hx hy e Q q
  unfold gB at e
  cases ek : cIn a b with
  | none => rw [ek] at e; cases e
  | some k =>
    rw [ek] at e
    cases e
    have sq : ∀ {p xs}, SqL L.K (msk W H) p xs → SqL L.K H p xs := fun h => sql_keep (fun o e => Kp.refl (msk_some e).2) h
    have sqT : ∀ {p xs}, SqT L.K (msk W H) p xs → SqT L.K H p xs := fun h => sqt_keep (fun o e => Kp.refl (msk_some e).2) h
    cases hy with
    | tup h1 h2 =>
      dsimp only [cIn] at ek
      split at ek
      · rename_i hf
        cases ek
        obtain ⟨i1, i2⟩ := inV_of hx hf.1 h2 hf.2
        refine .inl (.inl ⟨_, _, rfl, .inr (sqT h1), flat_of hx hf.1, i2, ?_⟩)
        show Q (.bl (!inV x _)) H
        rw [i1]
        exact q _ H (Gr.refl _ _) (.bl _)
      · cases ek
    | lst h1 h2 =>
      dsimp only [cIn] at ek
      split at ek
      · rename_i hf
        cases ek
        obtain ⟨i1, i2⟩ := inV_of hx hf.1 h2 hf.2
        refine .inl (.inl ⟨_, _, rfl, .inl (sq h1), flat_of hx hf.1, i2, ?_⟩)
        show Q (.bl (!inV x _)) H
        rw [i1]
        exact q _ H (Gr.refl _ _) (.bl _)
      · split at ek
        · rename_i hs
          cases ek
          exact .inl (.inr ⟨a, _, Dv.dp _ _ hx.full, Dv.dp _ _ (Dv.lst h1 h2).full, hs.1, hs.2, q _ H (Gr.refl _ _) (.bl _)⟩)
        · cases ek
    | str y =>
      cases hx <;> first
        | (dsimp only [cIn] at ek; cases ek; done)
        | skip
      case str x =>
        dsimp only [cIn] at ek
        cases ek
        exact .inr ⟨_, _, rfl, rfl, q _ H (Gr.refl _ _) (.bl _)⟩
    | non => (dsimp only [cIn] at ek; cases ek)
    | bl _ => (dsimp only [cIn] at ek; cases ek)
    | int _ => (dsimp only [cIn] at ek; cases ek)
end FF
end
section
set_option Elab.async false
set_option linter.all false
set_option maxRecDepth 100000
set_option maxHeartbeats 2000000
/-! FFExpr: expressions. -/
namespace FF
open PySem PySem.Spec PyProof.Rows L2

section
variable {L : Kl} {pos : Pos}
theorem reads_c {v : V} {d : D} (h : ∀ H, Dv L.K H v d) : ReadsE L (tC v) (mPure d) := fun Z W δ σ H r δ' s e => by
  cases e
  exact R_here s (h _)
theorem xd_int {i j} : XD L (.Constant (.int i) j pos) (mPure (.int i)) := ⟨fun _ _ => rfl, _, fun _ _ => pe_int, reads_c fun _ => .int i⟩
theorem xd_str {x j} : XD L (.Constant (.str x) j pos) (mPure (.str x)) := ⟨fun _ _ => rfl, _, fun _ _ => pe_str, reads_c fun _ => .str x⟩
theorem xd_bl {b j} : XD L (.Constant (.bool b) j pos) (mPure (.bool b)) := ⟨fun _ _ => rfl, _, fun _ _ => pe_bl, reads_c fun _ => .bl b⟩
theorem xd_non {j} : XD L (.Constant .none j pos) (mPure .none) := ⟨fun _ _ => rfl, _, fun _ _ => pe_non, reads_c fun _ => .non⟩

/-! ### names -/
/-- a name's value; an owned list is owned no more -/
def mVar (i : Nat) : M D := fun δ => match δ[i]? with
  | some (.v d) => some (.ok d, δ)
  | some (.l false xs) => some (.ok (.list xs), δ.set i (.v (.list xs)))
  | _ => none
theorem reads_var (i : Nat) : ReadsE L (tVar i) (mVar i) := fun Z W δ σ H r δ' s e => by
  unfold mVar at e
  split at e
  · rename_i d hd
    cases e
    obtain ⟨v, e1, e2⟩ := s.slot i _ hd (fun z => by cases z)
    exact fun Q q => ⟨v, e1, q v W H s (Step.refl _ _) e2⟩
  · rename_i xs hd
    cases e
    obtain ⟨v, e1, e2⟩ := s.slot i _ hd (fun z => by cases z)
    obtain ⟨a, vs, rfl, w, hH, hx⟩ := e2
    have h0 : Z.H0 a = none := w.2
    have hsi : σ.set i (some (V.ref a)) = σ := by
      obtain ⟨hl, e3⟩ := List.getElem?_eq_some_iff.mp e1
      rw [← e3]
      exact List.set_getElem_self hl
    have un : Unowned (δ.set i .u) σ a := fun j e h o q => by
      by_cases hj : i = j
      · subst hj
        have hl : i < δ.length := (List.getElem?_eq_some_iff.mp hd).1
        rw [List.getElem?_set_self hl] at h
        cases h
        exact o
      · rw [List.getElem?_set_ne hj] at h
        exact s.sep i j _ e a hj hd h trivial o e1 q
    have s1 : Sg L Z W (δ.set i .u) σ H := by
      have := s.forget (i := i) (some (V.ref a))
      rw [hsi] at this
      exact this
    have s2 : Sg L Z (less W a) (δ.set i .u) σ H := s1.letGo h0 (s.fo i _ a hd trivial e1) un
    have hd2 : Dv L.K (msk (less W a) H) (V.ref a) (.list xs) := .lst (.inl (.inl (msk_of (fun z => (mem_less.mp z).2 rfl) hH))) (hx.step step_less)
    have s3 := s2.set (i := i) hd2
    rw [hsi] at s3
    have e4 : (δ.set i Ent.u).set i (.v (.list xs)) = δ.set i (.v (.list xs)) := by simp
    rw [e4] at s3
    exact fun Q q => ⟨_, e1, q _ _ H s3 step_less hd2⟩
  · cases e
theorem xd_var (i : Nat) {x : Str} (hN : L.N[i]? = some x) (hv : Vis L.sc x) (hd : (x == ("__debug__" : Str)) = false := by decide) (hcd : (x == ("__classdict__" : Str)) = false := by decide) : XD L (.Name x pos) (mVar i) :=
  ⟨fun _ _ => rfl, _, fun X h => pe_var (by rw [h.N]; exact hN) (by rw [h.sc]; exact hv) hd hcd, reads_var i⟩

/-! ### lists of expressions, tuples, lists -/
def mNil : M (List D) := mPure []
def mCons (f : M D) (g : M (List D)) : M (List D) := mBind f fun a => mBind g fun r => mPure (a :: r)
theorem xl_nil : XL L [] mNil := ⟨_, fun _ _ => pa_nil, fun Z W δ σ H r δ' s e => by
  cases e
  exact R_here s .nil⟩
theorem xl_cons {e : Expr} {es : List Expr} {f : M D} {g : M (List D)} (h : XD L e f) (t : XL L es g) : XL L (e :: es) (mCons f g) := by
  obtain ⟨pl, te, hp, hr⟩ := h
  obtain ⟨ta, hp2, hr2⟩ := t
  refine ⟨_, fun X hX => pa_cons (hp X hX) (hp2 X hX) (pl _ _), fun Z W δ σ H r δ' s e => ?_⟩
  refine R_seq (τa := te σ H) (τ := fun v H1 Q => ta σ H1 fun vs H2 => Q (v :: vs) H2) (fun r1 δ1 e1 => hr Z W δ σ H r1 δ1 s e1) e fun a δ1 v W1 H1 s1 st1 hv e1 => ?_
  refine R_seq (τa := ta σ H1) (τ := fun vs H2 Q => Q (v :: vs) H2) (fun r1 δ2 e2 => hr2 Z W1 δ1 σ H1 r1 δ2 s1 e2) e1 fun ds δ2 vs W2 H2 s2 st2 hvs e2 => ?_
  cases e2
  exact R_here s2 (.cons (hv.step st2) hvs)
def mTup (f : M (List D)) : M D := mBind f fun ds => mOpt (if ds.length ≤ 1000000 then some (.tuple ds) else none)
def mLst (f : M (List D)) : M (List D) := mBind f fun ds => mOpt (if ds.length ≤ 1000000 then some ds else none)
theorem mOpt_inv {α : Type} {o : Option α} {δ δ' : Env'} {r : Res α} (h : mOpt o δ = some (r, δ')) : ∃ a, o = some a ∧ r = .ok a ∧ δ' = δ := by
  cases o with
  | none => cases h
  | some a =>
    cases h
    exact ⟨a, rfl, rfl, rfl⟩
theorem xd_tup {es : List Expr} {g : M (List D)} {k} (t : XL L es g) : XD L (.Tuple es k pos) (mTup g) := by
  obtain ⟨ta, hp2, hr2⟩ := t
  refine ⟨fun _ _ => rfl, _, fun X hX => pe_tup (hp2 X hX), fun Z W δ σ H r δ' s e => ?_⟩
  refine R_seq (κ := V) (τa := ta σ H) (τ := fun vs H2 Q => vs.length ≤ sizeLine ∧ ∀ p, H2 p = none → Q (.ref p) (upd H2 p (.tup vs))) (fun r1 δ1 e1 => hr2 Z W δ σ H r1 δ1 s e1) e fun ds δ1 vs W1 H1 s1 st1 hv e1 => ?_
  obtain ⟨a, ha, rfl, rfl⟩ := mOpt_inv e1
  split at ha
  · rename_i hz
    cases ha
    refine R_gr s1 fun Q q => ⟨line_of (by have := hv.length; omega), fun p hp => q _ _ (Gr.new hp) (dv_newtup s1.all hp hv)⟩
  · cases ha
theorem xf_lst {es : List Expr} {g : M (List D)} (t : XL L es g) : XF L (.List es pos) (mLst g) := by
  obtain ⟨ta, hp2, hr2⟩ := t
  refine ⟨fun _ _ => rfl, _, fun X hX => pe_lst (hp2 X hX), fun Z W δ σ H r δ' s e => ?_⟩
  refine R_seq (κ := V) (τa := ta σ H) (τ := fun vs H2 Q => vs.length ≤ sizeLine ∧ ∀ p, H2 p = none → Q (.ref p) (upd H2 p (.lst vs))) (fun r1 δ1 e1 => hr2 Z W δ σ H r1 δ1 s e1) e fun ds δ1 vs W1 H1 s1 st1 hv e1 => ?_
  obtain ⟨a, ha, rfl, rfl⟩ := mOpt_inv e1
  split at ha
  · rename_i hz
    cases ha
    refine fun Q q => ⟨line_of (by have := hv.length; omega), fun p hp => ?_⟩
    have st : Step W1 H1 (p :: W1) (upd H1 p (.lst vs)) := ⟨fun x z => by
      rcases List.mem_cons.mp z with y | y
      · rw [y]; exact .inr hp
      · exact .inl y, Gr.new hp⟩
    exact q _ (p :: W1) _ (s1.newOwn hp) st ⟨p, vs, rfl, List.mem_cons_self, s1.h0_new hp, s1.f_new hp, upd_same, hv.step st, s1.unowned_new hp⟩
  · cases ha

/-! ### operators -/
theorem c_mul {i j : Int} (h : decide ((-(2 ^ 64) < i ∧ i < 2 ^ 64) ∨ (-(2 ^ 64) < j ∧ j < 2 ^ 64)) = true) : CMul i j := (of_decide_eq_true h : (-(2 ^ 64) < i ∧ i < 2 ^ 64) ∨ (-(2 ^ 64) < j ∧ j < 2 ^ 64))
theorem c_div {i j : Int} (h : decide (0 < j ∧ j < 1073741824) = true) : CDiv i j := (of_decide_eq_true h : 0 < j ∧ j < 1073741824)
theorem c_mod {j : Int} (h : decide (0 < j) = true) : 0 < j := of_decide_eq_true h
theorem c_pow {i j : Int} (h : decide (0 ≤ j ∧ j ≤ 1000000 ∧ i.natAbs < 2 ^ 64) = true) : CPow i j := (of_decide_eq_true h : 0 ≤ j ∧ j ≤ 1000000 ∧ i.natAbs < 2 ^ 64)
theorem c_shr {j : Int} (h : decide (0 ≤ j) = true) : 0 ≤ j := of_decide_eq_true h
def mOp2 (g : D → D → Option D) (fa fb : M D) : M D := mBind fa fun a => mBind fb fun b => mOpt (g a b)
theorem reads_op {r : R2} {g : D → D → Option D} {ta tb : TE} {fa fb : M D} (hg : OpD L r g) (ha : ReadsE L ta fa) (hb : ReadsE L tb fb) : ReadsE L (tOp r ta tb) (mOp2 g fa fb) := fun Z W δ σ H res δ' s e => by
  refine R_seq (κ := V) (τa := ta σ H) (τ := fun x H1 Q => tb σ H1 fun y H2 => r x y H2 Q) (fun r1 δ1 e1 => ha Z W δ σ H r1 δ1 s e1) e fun a δ1 x W1 H1 s1 st1 hx e1 => ?_
  refine R_seq (κ := V) (τa := tb σ H1) (τ := fun y H2 Q => r x y H2 Q) (fun r1 δ2 e2 => hb Z W1 δ1 σ H1 r1 δ2 s1 e2) e1 fun b δ2 y W2 H2 s2 st2 hy e2 => ?_
  obtain ⟨d, hd, rfl, rfl⟩ := mOpt_inv e2
  exact R_gr s2 fun Q q => hg W2 H2 x y a b d s2.all (hx.step st2) hy hd Q fun v H' g' hv => q v H' g' hv
theorem xd_bin {op : Operator} {r : R2} {g : D → D → Option D} {a b : Expr} {fa fb : M D} (ho : ∀ X, L.Has X → OpR X (binaryOp op) r) (hg : OpD L r g) (ha : XD L a fa) (hb : XD L b fb) : XD L (.BinOp a op b pos) (mOp2 g fa fb) := by
  obtain ⟨_, ta, hp, hr⟩ := ha
  obtain ⟨_, tb, hp2, hr2⟩ := hb
  exact ⟨fun _ _ => rfl, _, fun X hX => pe_op (ho X hX) (hp X hX) (hp2 X hX), reads_op hg hr hr2⟩
theorem opr_add {X : Cx} (h : L.Has X) : OpR X (binaryOp .Add) (fun x y H Q => ((rI0 fun i j => .int (i + j)) x y H Q ∨ (∃ i j, x = .str i ∧ y = .str j ∧ i.length + j.length ≤ sizeLine ∧ Q (.str (i ++ j)) H)) ∨ rCatA L.K x y H Q) :=
  (op_add.or op_add_str).or (h.K ▸ op_catA)
section
variable {a b c : Expr} {fa fb fc : M D}
theorem xd_add (ha : XD L a fa) (hb : XD L b fb) : XD L (.BinOp a .Add b pos) (mOp2 bAdd fa fb) := xd_bin (fun X h => opr_add h) (((opd_I0 fun i j H => .int _).or opd_addS).or opd_catA) ha hb
theorem xd_sub (ha : XD L a fa) (hb : XD L b fb) : XD L (.BinOp a .Sub b pos) (mOp2 bSub fa fb) := xd_bin (fun X h => op_sub) (opd_I0 fun i j H => .int _) ha hb
theorem xd_mul (ha : XD L a fa) (hb : XD L b fb) : XD L (.BinOp a .Mult b pos) (mOp2 bMul fa fb) := xd_bin (fun X h => op_mul) (opd_I (fun i j h => c_mul h) fun i j H => .int _) ha hb
theorem xd_div (ha : XD L a fa) (hb : XD L b fb) : XD L (.BinOp a .FloorDiv b pos) (mOp2 bDiv fa fb) := xd_bin (fun X h => op_fdiv) (opd_I (fun i j h => c_div h) fun i j H => .int _) ha hb
theorem xd_mod (ha : XD L a fa) (hb : XD L b fb) : XD L (.BinOp a .Mod b pos) (mOp2 bMod fa fb) := xd_bin (fun X h => op_mod) (opd_I (fun i j h => c_mod h) fun i j H => .int _) ha hb
theorem xd_pow (ha : XD L a fa) (hb : XD L b fb) : XD L (.BinOp a .Pow b pos) (mOp2 bPow fa fb) := xd_bin (fun X h => op_pow) (opd_I (fun i j h => c_pow h) fun i j H => .int _) ha hb
theorem xd_shl (ha : XD L a fa) (hb : XD L b fb) : XD L (.BinOp a .LShift b pos) (mOp2 bShl fa fb) := xd_bin (fun X h => op_shl) (opd_I (fun i j h => c_pow h) fun i j H => .int _) ha hb
theorem xd_shr (ha : XD L a fa) (hb : XD L b fb) : XD L (.BinOp a .RShift b pos) (mOp2 bShr fa fb) := xd_bin (fun X h => op_shr) (opd_I (fun i j h => c_shr h) fun i j H => .int _) ha hb
theorem xd_band (ha : XD L a fa) (hb : XD L b fb) : XD L (.BinOp a .BitAnd b pos) (mOp2 bAnd fa fb) := xd_bin (fun X h => op_and) (opd_I0 fun i j H => .int _) ha hb
theorem xd_bor (ha : XD L a fa) (hb : XD L b fb) : XD L (.BinOp a .BitOr b pos) (mOp2 bOr fa fb) := xd_bin (fun X h => op_or) (opd_I0 fun i j H => .int _) ha hb

/-! ### comparisons -/
theorem xd_cmp {op : CmpOp} {r : R2} {g : D → D → Option D} (ho : ∀ X, L.Has X → OpR X (compareOp op) r) (hg : OpD L r g) (hm : behindInMarks op b = false) (ha : XD L a fa) (hb : XD L b fb) : XD L (.Compare a [op] [b] pos) (mOp2 g fa fb) := by
  obtain ⟨_, ta, hp, hr⟩ := ha
  obtain ⟨_, tb, hp2, hr2⟩ := hb
  exact ⟨fun _ _ => rfl, _, fun X hX => pe_cmpR (ho X hX) (hp X hX) (hp2 X hX) hm, reads_op hg hr hr2⟩
def cLt : D → D → Option D := gI (fun _ _ => true) fun i j => .bool (decide (i < j))
def cLe : D → D → Option D := gI (fun _ _ => true) fun i j => .bool (decide (i ≤ j))
def cGt : D → D → Option D := gI (fun _ _ => true) fun i j => .bool (decide (j < i))
def cGe : D → D → Option D := gI (fun _ _ => true) fun i j => .bool (decide (j ≤ i))
def cIs (a b : D) : Option D := match b with
  | .none => some (.bool (match a with | .none => true | _ => false))
  | _ => none
def cIsNot (a b : D) : Option D := match b with
  | .none => some (.bool (match a with | .none => false | _ => true))
  | _ => none
theorem opd_is {L : Kl} : OpD L (fun x y H Q => y = .non ∧ Q (.bl (decide (x = .non))) H) cIs := by
  intro W H x y a b d hW hx hy e Q q
  unfold cIs at e
  cases hy <;> first
    | (dsimp only at e; cases e; done)
    | skip
  dsimp only at e
  cases e
  refine ⟨rfl, q _ H (Gr.refl _ _) ?_⟩
  cases hx <;> exact .bl _
theorem opd_isnot {L : Kl} : OpD L (fun x y H Q => y = .non ∧ Q (.bl (!decide (x = .non))) H) cIsNot := by
  intro W H x y a b d hW hx hy e Q q
  unfold cIsNot at e
  cases hy <;> first
    | (dsimp only at e; cases e; done)
    | skip
  dsimp only at e
  cases e
  refine ⟨rfl, q _ H (Gr.refl _ _) ?_⟩
  cases hx <;> exact .bl _
theorem xd_lt (ha : XD L a fa) (hb : XD L b fb) : XD L (.Compare a [.Lt] [b] pos) (mOp2 cLt fa fb) := xd_cmp (fun X h => op_lt) (opd_I0 fun i j H => .bl _) (nomark _) ha hb
theorem xd_le (ha : XD L a fa) (hb : XD L b fb) : XD L (.Compare a [.LtE] [b] pos) (mOp2 cLe fa fb) := xd_cmp (fun X h => op_le) (opd_I0 fun i j H => .bl _) (nomark _) ha hb
theorem xd_gt (ha : XD L a fa) (hb : XD L b fb) : XD L (.Compare a [.Gt] [b] pos) (mOp2 cGt fa fb) := xd_cmp (fun X h => op_gt) (opd_I0 fun i j H => .bl _) (nomark _) ha hb
theorem xd_ge (ha : XD L a fa) (hb : XD L b fb) : XD L (.Compare a [.GtE] [b] pos) (mOp2 cGe fa fb) := xd_cmp (fun X h => op_ge) (opd_I0 fun i j H => .bl _) (nomark _) ha hb
theorem room_u {X : Cx} (h : L.Has X) : X.A.units + 64 < cLine := by have := h.un; omega
theorem room_u1 {X : Cx} (h : L.Has X) : X.A.units + 65 < cLine := h.un
theorem xd_eq (ha : XD L a fa) (hb : XD L b fb) : XD L (.Compare a [.Eq] [b] pos) (mOp2 (gB cEq id) fa fb) := xd_cmp (fun X h => op_eq.or (h.K ▸ op_eqD (room_u h))) opd_eq (nomark _) ha hb
theorem xd_ne (ha : XD L a fa) (hb : XD L b fb) : XD L (.Compare a [.NotEq] [b] pos) (mOp2 (gB cEq not) fa fb) := xd_cmp (fun X h => op_ne.or (h.K ▸ op_neD (room_u h))) opd_ne (nomark _) ha hb
theorem xd_in (hm : behindInMarks .In b = false) (ha : XD L a fa) (hb : XD L b fb) : XD L (.Compare a [.In] [b] pos) (mOp2 (gB cIn id) fa fb) := xd_cmp (fun X h => ((h.K ▸ op_in_seq).or (h.K ▸ op_inD (room_u1 h))).or op_in_str) opd_in hm ha hb
theorem xd_notIn (hm : behindInMarks .NotIn b = false) (ha : XD L a fa) (hb : XD L b fb) : XD L (.Compare a [.NotIn] [b] pos) (mOp2 (gB cIn not) fa fb) := xd_cmp (fun X h => ((h.K ▸ op_notIn_seq).or (h.K ▸ op_notInD (room_u1 h))).or op_notin_str) opd_notIn hm ha hb
theorem xd_is (ha : XD L a fa) (hb : XD L b fb) : XD L (.Compare a [.Is] [b] pos) (mOp2 cIs fa fb) := xd_cmp (fun X h => op_isN) opd_is (nomark _) ha hb
theorem xd_isnot (ha : XD L a fa) (hb : XD L b fb) : XD L (.Compare a [.IsNot] [b] pos) (mOp2 cIsNot fa fb) := xd_cmp (fun X h => op_notN) opd_isnot (nomark _) ha hb
end
end
end FF
end
section
set_option Elab.async false
set_option linter.all false
set_option maxRecDepth 100000
set_option maxHeartbeats 2000000
/-! FFTest: chains, and, or, not, tests, if-expressions, subscripts, slices. -/
namespace FF
open PySem PySem.Spec PyProof.Rows L2

section
variable {L : Kl} {pos : Pos} {a b c : Expr} {fa fb fc : M D}
/-! ### texts in order -/
def gS (f : Str → Str → Bool) : D → D → Option D
  | .str x, .str y => some (.bool (f x y))
  | _, _ => none
theorem opd_S {f : Str → Str → Bool} : OpD L (fun x y H Q => ∃ i j, x = .str i ∧ y = .str j ∧ Q (.bl (f i j)) H) (gS f) := by
  intro W H x y a b d hW hx hy e Q q
  unfold gS at e
  split at e
  · cases e
    cases hx
    cases hy
    exact ⟨_, _, rfl, rfl, q _ H (Gr.refl _ _) (.bl _)⟩
  · cases e
def leS : D → D → Option D := gS fun i j => !decide (j.cps.toList < i.cps.toList)
theorem xd_leS (ha : XD L a fa) (hb : XD L b fb) : XD L (.Compare a [.LtE] [b] pos) (mOp2 leS fa fb) := xd_cmp (fun X h => op_le_str) opd_S (nomark _) ha hb

/-! ### chains -/
def asB : D → Option Bool
  | .bool b => some b
  | _ => none
def mChain (g g' : D → D → Option D) (fa fb fc : M D) : M D := mBind fa fun a => mBind fb fun b => mBind (mOpt ((g a b).bind asB)) fun k => if k = true then mBind fc fun c => mOpt (g' b c) else mPure (.bool false)
theorem reads_chain {r r' : R2} {g g' : D → D → Option D} {ta tb tc : TE} (hg : OpD L r g) (hg' : OpD L r' g') (ha : ReadsE L ta fa) (hb : ReadsE L tb fb) (hc : ReadsE L tc fc) : ReadsE L (tChain r r' ta tb tc) (mChain g g' fa fb fc) := fun Z W δ σ H res δ' s e => by
  refine R_seq (κ := V) (τa := ta σ H) (τ := fun x H1 Q => tb σ H1 fun y H2 => r x y H2 fun z H3 => ∃ k, z = .bl k ∧ (if k = true then tc σ H3 fun w' H4 => r' y w' H4 Q else Q (.bl false) H3)) (fun r1 δ1 e1 => ha Z W δ σ H r1 δ1 s e1) e fun a δ1 x W1 H1 s1 st1 hx e1 => ?_
  refine R_seq (κ := V) (τa := tb σ H1) (τ := fun y H2 Q => r x y H2 fun z H3 => ∃ k, z = .bl k ∧ (if k = true then tc σ H3 fun w' H4 => r' y w' H4 Q else Q (.bl false) H3)) (fun r1 δ2 e2 => hb Z W1 δ1 σ H1 r1 δ2 s1 e2) e1 fun b δ2 y W2 H2 s2 st2 hy e2 => ?_
  rcases mBind_inv e2 with ⟨c, e3, rfl⟩ | ⟨k, δ3, e3, e4⟩
  · obtain ⟨_, _, z, _⟩ := mOpt_inv e3
    cases z
  · obtain ⟨k', hk, z, rfl⟩ := mOpt_inv e3
    cases z
    obtain ⟨d, hd, hk2⟩ := Option.bind_eq_some_iff.mp hk
    cases d <;> first
      | (cases hk2; done)
      | skip
    case bool kk =>
      cases hk2
      cases k with
      | false =>
        cases e4
        refine R_gr s2 fun Q q => hg W2 H2 x y a b _ s2.all (hx.step st2) hy hd _ fun v H' g' hv => ?_
        cases hv
        exact ⟨false, rfl, by rw [if_neg Bool.false_ne_true]; exact q _ H' g' (.bl _)⟩
      | true =>
        rw [if_pos rfl] at e4
        -- the second comparison, behind the first one's value
        have key : ∀ H3, Gr [] H2 H3 → R L Z (RelD L) W2 δ' σ H3 res (fun Q => tc σ H3 fun w' H4 => r' y w' H4 Q) := fun H3 g3 => by
          refine R_seq (κ := V) (τa := tc σ H3) (τ := fun w' H4 Q => r' y w' H4 Q) (fun r1 δ4 e5 => hc Z W2 _ σ H3 r1 δ4 (s2.gr g3) e5) e4 fun c δ4 w' W4 H4 s4 st4 hw e5 => ?_
          obtain ⟨d', hd', rfl, rfl⟩ := mOpt_inv e5
          exact R_gr s4 fun Q q => hg' W4 H4 y w' b c d' s4.all ((dv_gr g3 hy).step st4) hw hd' Q fun v H' g' hv => q v H' g' hv
        have fin : ∀ {Q : VK}, (∀ H3, Gr [] H2 H3 → tc σ H3 fun w' H4 => r' y w' H4 Q) → r x y H2 fun z H3 => ∃ k, z = .bl k ∧ (if k = true then tc σ H3 fun w' H4 => r' y w' H4 Q else Q (.bl false) H3) := fun {Q} h =>
          hg W2 H2 x y a b _ s2.all (hx.step st2) hy hd _ fun v H' g' hv => by
            cases hv
            exact ⟨true, rfl, by rw [if_pos rfl]; exact h H' g'⟩
        cases res with
        | ok d => exact fun Q q => fin fun H3 g3 => key H3 g3 Q fun v W' H' s' st' hv => q v W' H' s' ((Step.of_gr g3).trans st') hv
        | er c => exact fun Q q => fin fun H3 g3 => key H3 g3 Q fun W' H' s' st' => q W' H' s' ((Step.of_gr g3).trans st')
theorem xd_chain {op op' : CmpOp} {r r' : R2} {g g' : D → D → Option D} (ho : ∀ X, L.Has X → OpR X (compareOp op) r) (hg : OpD L r g) (ho' : ∀ X, L.Has X → OpR X (compareOp op') r') (hg' : OpD L r' g') (hm : lastMarks [op, op'] [b, c] = false) (ha : XD L a fa) (hb : XD L b fb) (hc : XD L c fc) :
    XD L (.Compare a [op, op'] [b, c] pos) (mChain g g' fa fb fc) := by
  obtain ⟨_, ta, hp, hr⟩ := ha
  obtain ⟨_, tb, hp2, hr2⟩ := hb
  obtain ⟨_, tc, hp3, hr3⟩ := hc
  exact ⟨fun _ _ => rfl, _, fun X hX => pe_chain (ho X hX) (ho' X hX) (hp X hX) (hp2 X hX) (hp3 X hX) hm, reads_chain hg hg' hr hr2 hr3⟩
theorem lm_le : lastMarks [.LtE, .LtE] [b, c] = false := nomark _
theorem lm_lt : lastMarks [.LtE, .Lt] [b, c] = false := nomark _
theorem lm_ltle : lastMarks [.Lt, .LtE] [b, c] = false := nomark _
theorem xd_lele (ha : XD L a fa) (hb : XD L b fb) (hc : XD L c fc) : XD L (.Compare a [.LtE, .LtE] [b, c] pos) (mChain cLe cLe fa fb fc) :=
  xd_chain (fun X h => op_le) (opd_I0 fun i j H => .bl _) (fun X h => op_le) (opd_I0 fun i j H => .bl _) lm_le ha hb hc
theorem xd_leleS (ha : XD L a fa) (hb : XD L b fb) (hc : XD L c fc) : XD L (.Compare a [.LtE, .LtE] [b, c] pos) (mChain leS leS fa fb fc) :=
  xd_chain (fun X h => op_le_str) opd_S (fun X h => op_le_str) opd_S lm_le ha hb hc
theorem xd_lelt (ha : XD L a fa) (hb : XD L b fb) (hc : XD L c fc) : XD L (.Compare a [.LtE, .Lt] [b, c] pos) (mChain cLe cLt fa fb fc) :=
  xd_chain (fun X h => op_le) (opd_I0 fun i j H => .bl _) (fun X h => op_lt) (opd_I0 fun i j H => .bl _) lm_lt ha hb hc
theorem xd_ltle (ha : XD L a fa) (hb : XD L b fb) (hc : XD L c fc) : XD L (.Compare a [.Lt, .LtE] [b, c] pos) (mChain cLt cLe fa fb fc) :=
  xd_chain (fun X h => op_lt) (opd_I0 fun i j H => .bl _) (fun X h => op_le) (opd_I0 fun i j H => .bl _) lm_ltle ha hb hc

/-! ### and, or, not as values -/
def mAnd (fa fb : M D) : M D := mBind fa fun a => match a with
  | .bool true => fb
  | .bool false => mPure (.bool false)
  | _ => mNo
def mOr (fa fb : M D) : M D := mBind fa fun a => match a with
  | .bool false => fb
  | .bool true => mPure (.bool true)
  | _ => mNo
def mNot (fa : M D) : M D := mBind fa fun a => match a with
  | .bool k => mPure (.bool (!k))
  | _ => mNo
def XB (L : Kl) (op : BoolOp) (es : List Expr) (f : M D) : Prop := ∃ te, (∀ X, L.Has X → ∀ pos, PE X (.BoolOp op es pos) te) ∧ ReadsE L te f
theorem xb_one {op : BoolOp} (h : XD L a fa) : XB L op [a] fa := by
  obtain ⟨_, te, hp, hr⟩ := h
  exact ⟨te, fun X hX pos => pe_one (hp X hX), hr⟩
theorem xb_and {rest : List Expr} (ha : XD L a fa) (hb : XB L .And (b :: rest) fb) : XB L .And (a :: b :: rest) (mAnd fa fb) := by
  obtain ⟨_, ta, hp, hr⟩ := ha
  obtain ⟨tb, hp2, hr2⟩ := hb
  refine ⟨_, fun X hX pos => pe_and (hp X hX) (hp2 X hX pos), fun Z W δ σ H res δ' s e => ?_⟩
  refine R_seq (κ := V) (τa := ta σ H) (τ := fun x H1 Q => ∃ c, x = .bl c ∧ if c = true then tb σ H1 Q else Q (.bl false) H1) (fun r1 δ1 e1 => hr Z W δ σ H r1 δ1 s e1) e fun a δ1 x W1 H1 s1 st1 hx e1 => ?_
  cases hx <;> first
    | (cases e1; done)
    | skip
  case bl k =>
    cases k with
    | true => exact R_tau (hr2 Z W1 δ1 σ H1 res δ' s1 e1) fun Q q => ⟨true, rfl, by rw [if_pos rfl]; exact q⟩
    | false =>
      cases e1
      exact R_tau (R_here s1 (Rel := RelD L) (.bl false)) fun Q q => ⟨false, rfl, by rw [if_neg Bool.false_ne_true]; exact q⟩
theorem xb_or {rest : List Expr} (ha : XD L a fa) (hb : XB L .Or (b :: rest) fb) : XB L .Or (a :: b :: rest) (mOr fa fb) := by
  obtain ⟨_, ta, hp, hr⟩ := ha
  obtain ⟨tb, hp2, hr2⟩ := hb
  refine ⟨_, fun X hX pos => pe_or (hp X hX) (hp2 X hX pos), fun Z W δ σ H res δ' s e => ?_⟩
  refine R_seq (κ := V) (τa := ta σ H) (τ := fun x H1 Q => ∃ c, x = .bl c ∧ if c = true then Q (.bl true) H1 else tb σ H1 Q) (fun r1 δ1 e1 => hr Z W δ σ H r1 δ1 s e1) e fun a δ1 x W1 H1 s1 st1 hx e1 => ?_
  cases hx <;> first
    | (cases e1; done)
    | skip
  case bl k =>
    cases k with
    | false => exact R_tau (hr2 Z W1 δ1 σ H1 res δ' s1 e1) fun Q q => ⟨false, rfl, by rw [if_neg Bool.false_ne_true]; exact q⟩
    | true =>
      cases e1
      exact R_tau (R_here s1 (Rel := RelD L) (.bl true)) fun Q q => ⟨true, rfl, by rw [if_pos rfl]; exact q⟩
theorem xd_bool {op : BoolOp} {es : List Expr} (h : XB L op es fa) : XD L (.BoolOp op es pos) fa := by
  obtain ⟨te, hp, hr⟩ := h
  exact ⟨fun _ _ => rfl, te, fun X hX => hp X hX pos, hr⟩
theorem xd_not (ha : XD L a fa) : XD L (.UnaryOp .Not a pos) (mNot fa) := by
  obtain ⟨_, ta, hp, hr⟩ := ha
  refine ⟨fun _ _ => rfl, _, fun X hX => pe_not (hp X hX), fun Z W δ σ H res δ' s e => ?_⟩
  refine R_seq (κ := V) (τa := ta σ H) (τ := fun x H1 Q => ∃ c, x = .bl c ∧ Q (.bl (!c)) H1) (fun r1 δ1 e1 => hr Z W δ σ H r1 δ1 s e1) e fun a δ1 x W1 H1 s1 st1 hx e1 => ?_
  cases hx <;> first
    | (cases e1; done)
    | skip
  case bl k =>
    cases e1
    exact R_tau (R_here s1 (Rel := RelD L) (.bl (!k))) fun Q q => ⟨k, rfl, q⟩

/-! ### tests -/
def cTru : D → Option Bool
  | .none => some false
  | .bool k => some k
  | .int i => some (i != 0)
  | .str y => if y.length ≤ 1000000 then some ((y.length : Int) != 0) else none
  | .tuple xs => some (!xs.isEmpty)
  | .list xs => some (!xs.isEmpty)
  | .dict _ => none
def mTru (f : M D) : M Bool := mBind f fun d => mOpt (cTru d)
theorem dvall_empty {K : PySem.W.Frag} {H : Hp} {vs : List V} {ds : List D} (h : DvAll K H vs ds) : ds.isEmpty = vs.isEmpty := by cases h <;> rfl
theorem truV_of {W : List Addr} {H : Hp} {v : V} {d : D} {k : Bool} (h : Dv L.K (msk W H) v d) (e : cTru d = some k) : TruV L.K v H k := by
  cases h with
  | non => cases e; rfl
  | bl b => cases e; rfl
  | int i => cases e; rfl
  | str y =>
    dsimp only [cTru] at e
    split at e
    · rename_i hz
      cases e
      exact ⟨line_of hz, rfl⟩
    · cases e
  | lst h1 h2 =>
    cases e
    exact .inl ⟨_, sql_keep (fun o e => Kp.refl (msk_some e).2) h1, by rw [dvall_empty h2]⟩
  | tup h1 h2 =>
    cases e
    exact .inr (.inl ⟨_, sqt_keep (fun o e => Kp.refl (msk_some e).2) h1, by rw [dvall_empty h2]⟩)
theorem xt_val (ha : XD L a fa) (he : ∀ env whole, isTrue a env whole = (do let v ← whole; standAt a.pos; holding [v] (truthy v)) := by intros; rfl) : XT L a (mTru fa) := by
  obtain ⟨_, ta, hp, hr⟩ := ha
  refine ⟨fun σ H Q => ta σ H fun x H' => ∃ k, TruV L.K x H' k ∧ Q k H', fun X hX => ?_, fun Z W δ σ H res δ' s e => ?_⟩
  · have := pt_truth (hp X hX) (he X.env)
    rw [hX.K] at this
    exact this
  · refine R_seq (κ := Bool) (τa := ta σ H) (τ := fun x H' Q => ∃ k, TruV L.K x H' k ∧ Q k H') (fun r1 δ1 e1 => hr Z W δ σ H r1 δ1 s e1) e fun a δ1 x W1 H1 s1 st1 hx e1 => ?_
    obtain ⟨k, hk, rfl, rfl⟩ := mOpt_inv e1
    exact R_tau (R_here s1 (Rel := RelB) rfl) fun Q q => ⟨k, truV_of hx hk, q⟩
/-- a comparison as a test -/
def mB (f : M D) : M Bool := mBind f fun d => mOpt (asB d)
theorem reads_tB {te : TE} (hr : ReadsE L te fa) : ReadsT L (tTest te) (mB fa) := fun Z W δ σ H res δ' s e => by
  refine R_seq (κ := Bool) (τa := te σ H) (τ := fun x H' Q => ∃ k, x = .bl k ∧ Q k H') (fun r1 δ1 e1 => hr Z W δ σ H r1 δ1 s e1) e fun a δ1 x W1 H1 s1 st1 hx e1 => ?_
  obtain ⟨k, hk, rfl, rfl⟩ := mOpt_inv e1
  cases hx <;> first
    | (cases hk; done)
    | skip
  case bl k' =>
    cases hk
    exact R_tau (R_here s1 (Rel := RelB) rfl) fun Q q => ⟨k, rfl, q⟩
theorem xt_cmp {op : CmpOp} {r : R2} {g : D → D → Option D} (ho : ∀ X, L.Has X → OpR X (compareOp op) r) (hg : OpD L r g) (hm : behindInMarks op b = false) (ha : XD L a fa) (hb : XD L b fb) : XT L (.Compare a [op] [b] pos) (mB (mOp2 g fa fb)) := by
  obtain ⟨_, ta, hp, hr⟩ := ha
  obtain ⟨_, tb, hp2, hr2⟩ := hb
  exact ⟨_, fun X hX => pt_cmpR (ho X hX) (hp X hX) (hp2 X hX) hm, reads_tB (reads_op hg hr hr2)⟩
theorem xt_lt (ha : XD L a fa) (hb : XD L b fb) : XT L (.Compare a [.Lt] [b] pos) (mB (mOp2 cLt fa fb)) := xt_cmp (fun X h => op_lt) (opd_I0 fun i j H => .bl _) (nomark _) ha hb
theorem xt_le (ha : XD L a fa) (hb : XD L b fb) : XT L (.Compare a [.LtE] [b] pos) (mB (mOp2 cLe fa fb)) := xt_cmp (fun X h => op_le) (opd_I0 fun i j H => .bl _) (nomark _) ha hb
theorem xt_gt (ha : XD L a fa) (hb : XD L b fb) : XT L (.Compare a [.Gt] [b] pos) (mB (mOp2 cGt fa fb)) := xt_cmp (fun X h => op_gt) (opd_I0 fun i j H => .bl _) (nomark _) ha hb
theorem xt_ge (ha : XD L a fa) (hb : XD L b fb) : XT L (.Compare a [.GtE] [b] pos) (mB (mOp2 cGe fa fb)) := xt_cmp (fun X h => op_ge) (opd_I0 fun i j H => .bl _) (nomark _) ha hb
theorem xt_eq (ha : XD L a fa) (hb : XD L b fb) : XT L (.Compare a [.Eq] [b] pos) (mB (mOp2 (gB cEq id) fa fb)) := xt_cmp (fun X h => op_eq.or (h.K ▸ op_eqD (room_u h))) opd_eq (nomark _) ha hb
theorem xt_ne (ha : XD L a fa) (hb : XD L b fb) : XT L (.Compare a [.NotEq] [b] pos) (mB (mOp2 (gB cEq not) fa fb)) := xt_cmp (fun X h => op_ne.or (h.K ▸ op_neD (room_u h))) opd_ne (nomark _) ha hb
theorem xt_in (hm : behindInMarks .In b = false) (ha : XD L a fa) (hb : XD L b fb) : XT L (.Compare a [.In] [b] pos) (mB (mOp2 (gB cIn id) fa fb)) := xt_cmp (fun X h => ((h.K ▸ op_in_seq).or (h.K ▸ op_inD (room_u1 h))).or op_in_str) opd_in hm ha hb
theorem xt_notIn (hm : behindInMarks .NotIn b = false) (ha : XD L a fa) (hb : XD L b fb) : XT L (.Compare a [.NotIn] [b] pos) (mB (mOp2 (gB cIn not) fa fb)) := xt_cmp (fun X h => ((h.K ▸ op_notIn_seq).or (h.K ▸ op_notInD (room_u1 h))).or op_notin_str) opd_notIn hm ha hb
theorem xt_is (ha : XD L a fa) (hb : XD L b fb) : XT L (.Compare a [.Is] [b] pos) (mB (mOp2 cIs fa fb)) := xt_cmp (fun X h => op_isN) opd_is (nomark _) ha hb
theorem xt_isnot (ha : XD L a fa) (hb : XD L b fb) : XT L (.Compare a [.IsNot] [b] pos) (mB (mOp2 cIsNot fa fb)) := xt_cmp (fun X h => op_notN) opd_isnot (nomark _) ha hb
theorem xt_chain {op op' : CmpOp} {r r' : R2} {g g' : D → D → Option D} (ho : ∀ X, L.Has X → OpR X (compareOp op) r) (hg : OpD L r g) (ho' : ∀ X, L.Has X → OpR X (compareOp op') r') (hg' : OpD L r' g') (hm : lastMarks [op, op'] [b, c] = false) (ha : XD L a fa) (hb : XD L b fb) (hc : XD L c fc) :
    XT L (.Compare a [op, op'] [b, c] pos) (mB (mChain g g' fa fb fc)) := by
  obtain ⟨_, ta, hp, hr⟩ := ha
  obtain ⟨_, tb, hp2, hr2⟩ := hb
  obtain ⟨_, tc, hp3, hr3⟩ := hc
  exact ⟨_, fun X hX => pt_chain (ho X hX) (ho' X hX) (hp X hX) (hp2 X hX) (hp3 X hX) hm, reads_tB (reads_chain hg hg' hr hr2 hr3)⟩
theorem xt_lele (ha : XD L a fa) (hb : XD L b fb) (hc : XD L c fc) : XT L (.Compare a [.LtE, .LtE] [b, c] pos) (mB (mChain cLe cLe fa fb fc)) :=
  xt_chain (fun X h => op_le) (opd_I0 fun i j H => .bl _) (fun X h => op_le) (opd_I0 fun i j H => .bl _) lm_le ha hb hc
theorem xt_leleS (ha : XD L a fa) (hb : XD L b fb) (hc : XD L c fc) : XT L (.Compare a [.LtE, .LtE] [b, c] pos) (mB (mChain leS leS fa fb fc)) :=
  xt_chain (fun X h => op_le_str) opd_S (fun X h => op_le_str) opd_S lm_le ha hb hc
theorem xt_lelt (ha : XD L a fa) (hb : XD L b fb) (hc : XD L c fc) : XT L (.Compare a [.LtE, .Lt] [b, c] pos) (mB (mChain cLe cLt fa fb fc)) :=
  xt_chain (fun X h => op_le) (opd_I0 fun i j H => .bl _) (fun X h => op_lt) (opd_I0 fun i j H => .bl _) lm_lt ha hb hc
theorem xt_ltle (ha : XD L a fa) (hb : XD L b fb) (hc : XD L c fc) : XT L (.Compare a [.Lt, .LtE] [b, c] pos) (mB (mChain cLt cLe fa fb fc)) :=
  xt_chain (fun X h => op_lt) (opd_I0 fun i j H => .bl _) (fun X h => op_le) (opd_I0 fun i j H => .bl _) lm_ltle ha hb hc
/-! and, or, not -/
variable {ga gb : M Bool}
def tAndM (fa fb : M Bool) : M Bool := mBind fa fun a => if a = true then fb else mPure false
def tOrM (fa fb : M Bool) : M Bool := mBind fa fun a => if a = true then mPure true else fb
def tNotM (fa : M Bool) : M Bool := mBind fa fun a => mPure (!a)
def XW (L : Kl) (op : BoolOp) (es : List Expr) (f : M Bool) : Prop := ∃ tt, (∀ X, L.Has X → ∀ pos, PW X (.BoolOp op es pos) tt) ∧ ReadsT L tt f
theorem xw_and1 (h : XT L a ga) : XW L .And [a] ga := by
  obtain ⟨te, hp, hr⟩ := h
  exact ⟨te, fun X hX pos => pw_and1 (hp X hX), hr⟩
theorem xw_or1 (h : XT L a ga) : XW L .Or [a] ga := by
  obtain ⟨te, hp, hr⟩ := h
  exact ⟨te, fun X hX pos => pw_or1 (hp X hX), hr⟩
theorem xw_and {rest : List Expr} (ha : XT L a ga) (hb : XW L .And (b :: rest) gb) : XW L .And (a :: b :: rest) (tAndM ga gb) := by
  obtain ⟨ta, hp, hr⟩ := ha
  obtain ⟨tb, hp2, hr2⟩ := hb
  refine ⟨_, fun X hX pos => pw_and (hp X hX) (hp2 X hX pos), fun Z W δ σ H res δ' s e => ?_⟩
  refine R_seq (κ := Bool) (τa := ta σ H) (τ := fun c H1 Q => if c = true then tb σ H1 Q else Q false H1) (fun r1 δ1 e1 => hr Z W δ σ H r1 δ1 s e1) e fun k δ1 x W1 H1 s1 st1 hx e1 => ?_
  obtain rfl : x = k := hx
  cases x with
  | true => exact R_tau (hr2 Z W1 δ1 σ H1 res δ' s1 e1) fun Q q => by rw [if_pos rfl]; exact q
  | false =>
    cases e1
    exact R_tau (R_here s1 (Rel := RelB) rfl) fun Q q => by rw [if_neg Bool.false_ne_true]; exact q
theorem xw_or {rest : List Expr} (ha : XT L a ga) (hb : XW L .Or (b :: rest) gb) : XW L .Or (a :: b :: rest) (tOrM ga gb) := by
  obtain ⟨ta, hp, hr⟩ := ha
  obtain ⟨tb, hp2, hr2⟩ := hb
  refine ⟨_, fun X hX pos => pw_or (hp X hX) (hp2 X hX pos), fun Z W δ σ H res δ' s e => ?_⟩
  refine R_seq (κ := Bool) (τa := ta σ H) (τ := fun c H1 Q => if c = true then Q true H1 else tb σ H1 Q) (fun r1 δ1 e1 => hr Z W δ σ H r1 δ1 s e1) e fun k δ1 x W1 H1 s1 st1 hx e1 => ?_
  obtain rfl : x = k := hx
  cases x with
  | false => exact R_tau (hr2 Z W1 δ1 σ H1 res δ' s1 e1) fun Q q => by rw [if_neg Bool.false_ne_true]; exact q
  | true =>
    cases e1
    exact R_tau (R_here s1 (Rel := RelB) rfl) fun Q q => by rw [if_pos rfl]; exact q
theorem xt_bool {op : BoolOp} {es : List Expr} (h : XW L op es ga) : XT L (.BoolOp op es pos) ga := by
  obtain ⟨te, hp, hr⟩ := h
  exact ⟨te, fun X hX => (hp X hX pos).pt, hr⟩
theorem xt_not (ha : XT L a ga) : XT L (.UnaryOp .Not a pos) (tNotM ga) := by
  obtain ⟨ta, hp, hr⟩ := ha
  refine ⟨_, fun X hX => pt_not (hp X hX), fun Z W δ σ H res δ' s e => ?_⟩
  refine R_seq (κ := Bool) (τa := ta σ H) (τ := fun c H1 Q => Q (!c) H1) (fun r1 δ1 e1 => hr Z W δ σ H r1 δ1 s e1) e fun k δ1 x W1 H1 s1 st1 hx e1 => ?_
  cases e1
  obtain rfl : x = k := hx
  exact R_here s1 (Rel := RelB) rfl
/-! ### a if t else b -/
def mIf {α : Type} (t : M Bool) (fa fb : M α) : M α := mBind t fun k => if k = true then fa else fb
theorem xd_if {t : Expr} (ht : XT L t ga) (ha : XD L a fa) (hb : XD L b fb) : XD L (.IfExp t a b pos) (mIf ga fa fb) := by
  obtain ⟨tt, hp0, hr0⟩ := ht
  obtain ⟨_, ta, hp, hr⟩ := ha
  obtain ⟨_, tb, hp2, hr2⟩ := hb
  refine ⟨fun _ _ => rfl, _, fun X hX => pe_ifExp (hp0 X hX) (hp X hX) (hp2 X hX), fun Z W δ σ H res δ' s e => ?_⟩
  refine R_seq (κ := V) (τa := tt σ H) (τ := fun c H1 Q => if c = true then ta σ H1 Q else tb σ H1 Q) (fun r1 δ1 e1 => hr0 Z W δ σ H r1 δ1 s e1) e fun k δ1 x W1 H1 s1 st1 hx e1 => ?_
  obtain rfl : x = k := hx
  cases x with
  | true => exact R_tau (hr Z W1 δ1 σ H1 res δ' s1 e1) fun Q q => by rw [if_pos rfl]; exact q
  | false => exact R_tau (hr2 Z W1 δ1 σ H1 res δ' s1 e1) fun Q q => by rw [if_neg Bool.false_ne_true]; exact q
end
end FF
end
section
set_option Elab.async false
set_option linter.all false
set_option maxRecDepth 100000
set_option maxHeartbeats 2000000
/-! FFSub: subscripts, slices, constants of the module, built-ins. -/
namespace FF
open PySem PySem.Spec PyProof.Rows L2

section
variable {L : Kl} {pos : Pos} {a b c : Expr} {fa fb fc : M D}
theorem rd_full {W : List Addr} {H : Hp} {a : Addr} {xs : List V} (h : Rd (msk W H) a (.lst xs)) : Rd H a (.lst xs) := rd_keep (fun _ z => by cases z) (fun o e => Kp.refl (msk_some e).2) h
theorem sql_full {K : PySem.W.Frag} {W : List Addr} {H : Hp} {a : Addr} {xs : List V} (h : SqL K (msk W H) a xs) : SqL K H a xs := sql_keep (fun o e => Kp.refl (msk_some e).2) h
theorem sqt_full {K : PySem.W.Frag} {W : List Addr} {H : Hp} {a : Addr} {xs : List V} (h : SqT K (msk W H) a xs) : SqT K H a xs := sqt_keep (fun o e => Kp.refl (msk_some e).2) h

/-! ### a[i] -/
theorem atI_all {K : PySem.W.Frag} {H : Hp} {vs : List V} {ds : List D} {i : Int} {d : D} (h : DvAll K H vs ds) (e : atI ds i = some d) : ∃ v, atI vs i = some v ∧ Dv K H v d := by
  unfold atI at e ⊢
  rw [← h.length] at e
  obtain ⟨j, e1, e2⟩ := Option.bind_eq_some_iff.mp e
  obtain ⟨v, e3, e4⟩ := h.get e2
  exact ⟨v, by rw [e1]; exact e3, e4⟩
def gIdx : D → D → Option D
  | .tuple ds, .int i => atI ds i
  | .list ds, .int i => atI ds i
  | .str z, .int i => if z.length ≤ 1000000 then (atI z.cps.toList i).map fun c => .str ⟨#[c]⟩ else none
  | _, _ => none
theorem opd_idx : OpD L (fun x y H Q => (rIxT L.K x y H Q ∨ rIxL L.K x y H Q) ∨ rIxS x y H Q) gIdx := by
  intro W H x y a b d hW hx hy e Q q
  unfold gIdx at e
  split at e
  · cases hx with
    | tup h1 h2 =>
      cases hy
      obtain ⟨v, e3, e4⟩ := atI_all h2 e
      exact .inl (.inl ⟨_, _, _, v, rfl, rfl, sqt_full h1, e3, q v H (Gr.refl _ _) e4⟩)
  · cases hx with
    | lst h1 h2 =>
      cases hy
      obtain ⟨v, e3, e4⟩ := atI_all h2 e
      exact .inl (.inr ⟨_, _, _, v, rfl, rfl, sql_full h1, e3, q v H (Gr.refl _ _) e4⟩)
  · split at e
    · rename_i hz
      cases hx
      cases hy
      obtain ⟨c, e3, rfl⟩ := Option.map_eq_some_iff.mp e
      exact .inr ⟨_, _, c, rfl, rfl, line_of hz, e3, q _ H (Gr.refl _ _) (.str _)⟩
    · cases e
  · cases e
theorem xd_idx (hs : PlainIx b) (ha : XD L a fa) (hb : XD L b fb) : XD L (.Subscript a b pos) (mOp2 gIdx fa fb) := by
  obtain ⟨_, ta, hp, hr⟩ := ha
  obtain ⟨_, tb, hp2, hr2⟩ := hb
  refine ⟨fun _ _ => rfl, _, fun X hX => ?_, reads_op opd_idx hr hr2⟩
  have h1 : IxR X (rIxT L.K) := hX.K ▸ ix_tup
  have h2 : IxR X (rIxL L.K) := hX.K ▸ ix_list
  exact pe_ix ((h1.or h2).or ix_str) (hp X hX) (hp2 X hX) hs
/-- xs[i], xs an owned list that stays owned -/
def mIdxOwn (i : Nat) (fb : M D) : M D := mBind fb fun b => fun δ => match δ[i]?, b with
  | some (.l _ xs), .int k => (atI xs k).map fun d => (.ok d, δ)
  | _, _ => none
theorem xd_idxOwn (i : Nat) {x : Str} {p : Pos} (hs : PlainIx b) (hN : L.N[i]? = some x) (hv : Vis L.sc x) (hb : XD L b fb) (hd : (x == ("__debug__" : Str)) = false := by decide) (hcd : (x == ("__classdict__" : Str)) = false := by decide) :
    XD L (.Subscript (.Name x p) b pos) (mBind (fun δ => match δ[i]? with | some (.l _ _) => some (.ok (), δ) | _ => none) fun _ => mIdxOwn i fb) := by
  obtain ⟨_, tb, hp2, hr2⟩ := hb
  refine ⟨fun _ _ => rfl, tOp (rIxL L.K) (tVar i) tb, fun X hX => ?_, fun Z W δ σ H res δ' s e => ?_⟩
  · have h2 : IxR X (rIxL L.K) := hX.K ▸ ix_list
    exact pe_ix h2 (pe_var (by rw [hX.N]; exact hN) (by rw [hX.sc]; exact hv) hd hcd) (hp2 X hX) hs
  · rcases mBind_inv e with ⟨c, e1, rfl⟩ | ⟨_, δ0, e1, e2⟩
    · split at e1 <;> cases e1
    · split at e1
      · rename_i io xs hi
        cases e1
        obtain ⟨v, e3, a, vs, rfl, _⟩ := s.slot i _ hi (fun z => by cases z)
        have key : R L Z (RelD L) W δ' σ H res (fun Q => tb σ H fun y H2 => rIxL L.K (.ref a) y H2 Q) := by
          refine R_seq (κ := V) (τa := tb σ H) (τ := fun y H2 Q => rIxL L.K (.ref a) y H2 Q) (fun r1 δ2 e2 => hr2 Z W δ σ H r1 δ2 s e2) e2 fun b δ2 y W2 H2 s2 st2 hy e4 => ?_
          split at e4
          · rename_i io' xs' k hi2
            obtain ⟨d, hd', ed⟩ := Option.map_eq_some_iff.mp e4
            cases ed
            obtain ⟨v', e5, e6⟩ := s2.slot i _ hi2 (fun z => by cases z)
            rw [e3] at e5
            cases e5
            obtain ⟨a', vs', ea, _, hH, hx⟩ := e6
            cases ea
            cases hy
            obtain ⟨v, e7, e8⟩ := atI_all hx hd'
            exact R_gr s2 fun Q q => ⟨_, _, _, v, rfl, rfl, SqL.of hH, e7, q v H2 (Gr.refl _ _) e8⟩
          · cases e4
        exact R_tau key fun Q q => ⟨_, e3, q⟩
      · cases e1

/-! ### slices -/
def cutG {α : Type} (xs : List α) (lo hi : Option Int) : List α := (xs.drop (HT.sIx xs.length 0 lo)).take (HT.sIx xs.length xs.length hi - HT.sIx xs.length 0 lo)
theorem cut_all {K : PySem.W.Frag} {H : Hp} {vs : List V} {ds : List D} (lo hi : Option Int) (h : DvAll K H vs ds) : DvAll K H (cutV vs lo hi) (cutG ds lo hi) := by
  unfold cutV cutG
  rw [h.length]
  exact (h.drop _).take _
def XO (L : Kl) (e : Option Expr) (f : M (Option Int)) : Prop := ∃ to, (∀ X, L.Has X → PO X e to) ∧ ∀ Z W δ σ H r δ', Sg L Z W δ σ H → f δ = some (r, δ') → R L Z (fun _ _ (b b' : Option Int) => b = b') W δ' σ H r (to σ H)
theorem xo_none : XO L none (mPure none) := ⟨_, fun _ _ => po_none, fun Z W δ σ H r δ' s e => by
  cases e
  exact R_here s (Rel := fun _ _ (b b' : Option Int) => b = b') rfl⟩
def asI : D → Option Int
  | .int i => some i
  | _ => none
def mPart (f : M D) : M (Option Int) := mBind f fun d => mOpt ((asI d).map some)
theorem xo_some (ha : XD L a fa) : XO L (some a) (mPart fa) := by
  obtain ⟨_, ta, hp, hr⟩ := ha
  refine ⟨_, fun X hX => po_some (hp X hX), fun Z W δ σ H r δ' s e => ?_⟩
  refine R_seq (κ := Option Int) (τa := ta σ H) (τ := fun x H1 Q => ∃ i, x = .int i ∧ Q (some i) H1) (fun r1 δ1 e1 => hr Z W δ σ H r1 δ1 s e1) e fun a δ1 x W1 H1 s1 st1 hx e1 => ?_
  obtain ⟨k, hk, rfl, rfl⟩ := mOpt_inv e1
  cases hx <;> first
    | (cases hk; done)
    | skip
  case int i =>
    cases hk
    exact R_tau (R_here s1 (Rel := fun _ _ (b b' : Option Int) => b = b') rfl) fun Q q => ⟨i, rfl, q⟩
def SlD (L : Kl) (r : V → Option Int → Option Int → Hp → VK → Prop) (g : D → Option Int → Option Int → Option D) : Prop := ∀ (W : List Addr) (H : Hp) (x : V) (a d : D) (lo hi : Option Int), AllIn W H → Dv L.K (msk W H) x a → g a lo hi = some d →
  ∀ Q : VK, (∀ v H', Gr [] H H' → Dv L.K (msk W H') v d → Q v H') → r x lo hi H Q
def gSl : D → Option Int → Option Int → Option D
  | .tuple ds, lo, hi => some (.tuple (cutG ds lo hi))
  | .list ds, lo, hi => some (.list (cutG ds lo hi))
  | .str z, lo, hi => if z.length ≤ 1000000 then some (.str (cutS z lo hi)) else none
  | _, _, _ => none
theorem dv_newlst {K : PySem.W.Frag} {W : List Addr} {H : Hp} {p : Addr} {vs : List V} {ds : List D} (hW : AllIn W H) (hp : H p = none) (h : DvAll K (msk W H) vs ds) : Dv K (msk W (upd H p (.lst vs))) (.ref p) (.list ds) :=
  .lst (.inl (.inl (msk_of (nin_new hW hp) upd_same))) (h.step (Step.of_gr (Gr.new hp)))
theorem sld : SlD L (fun x lo hi H Q => (rSlA L.K x lo hi H Q ∨ rSlL L.K x lo hi H Q) ∨ rSlS x lo hi H Q) gSl := by
  intro W H x a d lo hi hW hx e Q q
  cases hx with
  | tup h1 h2 =>
    cases e
    refine .inl (.inl ⟨_, _, rfl, sqt_full h1, fun hw => ?_, fun hw p hp => ?_⟩)
    · refine q _ H (Gr.refl _ _) (.tup h1 ?_)
      have := cut_all lo hi h2
      rw [show cutV _ lo hi = _ from (by
        unfold cutV
        rw [hw.1, hw.2, List.drop_zero, Nat.sub_zero, List.take_length])] at this
      exact this
    · exact q _ _ (Gr.new hp) (dv_newtup hW hp (cut_all lo hi h2))
  | lst h1 h2 =>
    cases e
    exact .inl (.inr ⟨_, _, rfl, sql_full h1, fun p hp => q _ _ (Gr.new hp) (dv_newlst hW hp (cut_all lo hi h2))⟩)
  | str z =>
    dsimp only [gSl] at e
    split at e
    · rename_i hz
      cases e
      exact .inr ⟨z, rfl, line_of hz, q _ H (Gr.refl _ _) (.str _)⟩
    · cases e
  | non => cases e
  | bl _ => cases e
  | int _ => cases e
def mSl (fa : M D) (fl fh : M (Option Int)) : M D := mBind fa fun a => mBind fl fun lo => mBind fh fun hi => mOpt (gSl a lo hi)
theorem xd_slice {lo hi : Option Expr} {fl fh : M (Option Int)} {p2 : Pos} (ha : XD L a fa) (hl : XO L lo fl) (hh : XO L hi fh) : XD L (.Subscript a (.Slice lo hi none p2) pos) (mSl fa fl fh) := by
  obtain ⟨_, ta, hp, hr⟩ := ha
  obtain ⟨tl, hp2, hr2⟩ := hl
  obtain ⟨th, hp3, hr3⟩ := hh
  refine ⟨fun _ _ => rfl, tSl (fun x lo hi H Q => (rSlA L.K x lo hi H Q ∨ rSlL L.K x lo hi H Q) ∨ rSlS x lo hi H Q) ta tl th, fun X hX => ?_, fun Z W δ σ H r δ' s e => ?_⟩
  · have h1 : SlR X (rSlA L.K) := hX.K ▸ sl_tupA
    have h2 : SlR X (rSlL L.K) := hX.K ▸ sl_list
    exact pe_slice ((h1.or h2).or sl_str) (hp X hX) (hp2 X hX) (hp3 X hX)
  · refine R_seq (κ := V) (τa := ta σ H) (τ := fun x H1 Q => tl σ H1 fun l H2 => th σ H2 fun u H3 => (rSlA L.K x l u H3 Q ∨ rSlL L.K x l u H3 Q) ∨ rSlS x l u H3 Q) (fun r1 δ1 e1 => hr Z W δ σ H r1 δ1 s e1) e fun a δ1 x W1 H1 s1 st1 hx e1 => ?_
    refine R_seq (κ := V) (τa := tl σ H1) (τ := fun l H2 Q => th σ H2 fun u H3 => (rSlA L.K x l u H3 Q ∨ rSlL L.K x l u H3 Q) ∨ rSlS x l u H3 Q) (fun r1 δ2 e2 => hr2 Z W1 δ1 σ H1 r1 δ2 s1 e2) e1 fun lo δ2 l W2 H2 s2 st2 hl e2 => ?_
    refine R_seq (κ := V) (τa := th σ H2) (τ := fun u H3 Q => (rSlA L.K x l u H3 Q ∨ rSlL L.K x l u H3 Q) ∨ rSlS x l u H3 Q) (fun r1 δ3 e3 => hr3 Z W2 δ2 σ H2 r1 δ3 s2 e3) e2 fun hi δ3 u W3 H3 s3 st3 hh e3 => ?_
    obtain ⟨d, hd, rfl, rfl⟩ := mOpt_inv e3
    subst hl hh
    exact R_gr s3 fun Q q => sld W3 H3 x a d l u s3.all ((hx.step st2).step st3) hd Q fun v H' g' hv => q v H' g' hv

/-! ### constants of the module -/
def GConstP (K : PySem.W.Frag) (mg : Str → Option Value) (x : Str) (d : D) : Prop := ∃ v u, mg x = some u ∧ RelV v u ∧ ∀ H, Dv K H v d
structure GConst (L : Kl) (x : Str) (d : D) : Prop where
  ex : ∃ v u, L.mg x = some u ∧ RelV v u ∧ ∀ H, Dv L.K H v d
theorem xd_glob {x : Str} {d : D} (hg : L.sc.names.lookup x = some .globalImplicit) (h : GConst L x d) (hd : (x == ("__debug__" : Str)) = false := by decide) : XD L (.Name x pos) (mPure d) := by
  obtain ⟨v, u, h1, h2, h3⟩ := h
  exact ⟨fun _ _ => rfl, _, fun X hX => pe_glob (by show X.env.scope.names.lookup x = _; rw [hX.sc]; exact hg) (by rw [hX.mg]; exact h1) h2 hd, reads_c h3⟩

/-! ### built-ins -/
def CallD (L : Kl) (r : List V → Hp → VK → Prop) (g : List D → Option D) : Prop := ∀ (W : List Addr) (H : Hp) (vs : List V) (ds : List D) (d : D), AllIn W H → DvAll L.K (msk W H) vs ds → g ds = some d →
  ∀ Q : VK, (∀ v H', Gr [] H H' → Dv L.K (msk W H') v d → Q v H') → r vs H Q
def mB1 (g : List D → Option D) (f : M (List D)) : M D := mBind f fun ds => mOpt (g ds)
theorem reads_CB {r : List V → Hp → VK → Prop} {g : List D → Option D} {ta : TA} {f : M (List D)} (hg : CallD L r g) (hr : ReadsL L ta f) : ReadsE L (tCB r ta) (mB1 g f) := fun Z W δ σ H res δ' s e => by
  refine R_seq (κ := V) (τa := ta σ H) (τ := fun vs H1 Q => r vs H1 Q) (fun r1 δ1 e1 => hr Z W δ σ H r1 δ1 s e1) e fun ds δ1 vs W1 H1 s1 st1 hx e1 => ?_
  obtain ⟨d, hd, rfl, rfl⟩ := mOpt_inv e1
  exact R_gr s1 fun Q q => hg W1 H1 vs ds d s1.all hx hd Q fun v H' g' hv => q v H' g' hv
/-- no star, no splice -/
structure PlainA (e : Expr) (es : List Expr) : Prop where
  ok : ∀ pos env, (backTo pos (starEach es env)).any (·.1) = false
theorem xd_callB {x : Str} {id : String} {p : Pos} {e : Expr} {es : List Expr} {r : List V → Hp → VK → Prop} {g : List D → Option D} {f : M (List D)} (hc : ∀ X, L.Has X → CallR X (.builtin id) r) (hgd : CallD L r g) (hg : L.sc.names.lookup x = some .globalImplicit) (hm : L.mg x = none) (hv : bootBuiltins x = some (.builtin id))
    (he : XL L (e :: es) f) (pl : Plain e) (hpl : ∀ pos env, (backTo pos (starEach es env)).any (·.1) = false) (hn : x ≠ ("__name__" : Str) := by decide) (hdb : (x == ("__debug__" : Str)) = false := by decide) : XD L (.Call (.Name x p) (e :: es) [] pos) (mB1 g f) := by
  obtain ⟨ta, hp, hr⟩ := he
  exact ⟨fun _ _ => rfl, _, fun X hX => pe_callB (hc X hX) (by show X.env.scope.names.lookup x = _; rw [hX.sc]; exact hg) (by rw [hX.mg]; exact hm) hv (hp X hX) hn hdb (pl _ _) (hpl _ _), reads_CB hgd hr⟩
theorem xd_callTy {x : Str} {T : String} {p : Pos} {e : Expr} {es : List Expr} {r : List V → Hp → VK → Prop} {g : List D → Option D} {f : M (List D)} (hc : ∀ X, L.Has X → CallR X (.type T) r) (hgd : CallD L r g) (hg : L.sc.names.lookup x = some .globalImplicit) (hm : L.mg x = none) (hv : bootBuiltins x = some (.type T))
    (he : XL L (e :: es) f) (pl : Plain e) (hpl : ∀ pos env, (backTo pos (starEach es env)).any (·.1) = false) (hn : x ≠ ("__name__" : Str) := by decide) (hdb : (x == ("__debug__" : Str)) = false := by decide) : XD L (.Call (.Name x p) (e :: es) [] pos) (mB1 g f) := by
  obtain ⟨ta, hp, hr⟩ := he
  exact ⟨fun _ _ => rfl, _, fun X hX => pe_callTy (hc X hX) (by show X.env.scope.names.lookup x = _; rw [hX.sc]; exact hg) (by rw [hX.mg]; exact hm) hv (hp X hX) hn hdb (pl _ _) (hpl _ _), reads_CB hgd hr⟩
theorem one_arg {pos : Pos} {env : Env} : (backTo pos (starEach [] env)).any (·.1) = false := rfl
theorem two_arg {e : Expr} (pl : Plain e) {pos : Pos} {env : Env} : (backTo pos (starEach [e] env)).any (·.1) = false := by
  rw [pl [] env]
  rfl

def gLen : List D → Option D
  | [.str y] => if y.length ≤ 1000000 then some (.int y.length) else none
  | [.list xs] => some (.int xs.length)
  | [.tuple xs] => some (.int xs.length)
  | _ => none
theorem calld_len : CallD L (fun xs H Q => ∃ x n, xs = [x] ∧ LenV L.K x H n ∧ Q (.int n) H) gLen := by
  intro W H vs ds d hW hv e Q q
  cases hv with
  | nil => cases e
  | cons h1 h2 =>
    cases h2 with
    | cons _ _ => cases h1 <;> cases e
    | nil =>
      cases h1 with
      | str y =>
        dsimp only [gLen] at e
        split at e
        · rename_i hz
          cases e
          exact ⟨_, _, rfl, ⟨line_of hz, rfl⟩, q _ H (Gr.refl _ _) (.int _)⟩
        · cases e
      | lst h3 h4 =>
        cases e
        exact ⟨_, _, rfl, .inl ⟨_, sql_full h3, rfl⟩, by rw [h4.length]; exact q _ H (Gr.refl _ _) (.int _)⟩
      | tup h3 h4 =>
        cases e
        exact ⟨_, _, rfl, .inr ⟨_, sqt_full h3, rfl⟩, by rw [h4.length]; exact q _ H (Gr.refl _ _) (.int _)⟩
      | _ => cases e
theorem xd_len {p : Pos} (hg : L.sc.names.lookup ("len" : Str) = some NameKind.globalImplicit) (hm : L.mg "len" = none) (ha : XD L a fa) : XD L (.Call (.Name "len" p) [a] [] pos) (mB1 gLen (mCons fa mNil)) :=
  xd_callB (fun X h => h.K ▸ call_len) calld_len hg hm PySem.boot_len (xl_cons ha xl_nil) ha.pl fun _ _ => one_arg
def gInt : List D → Option D
  | [.int i] => some (.int i)
  | [.bool k] => some (.int (if k then 1 else 0))
  | _ => none
theorem calld_int : CallD L (fun xs H Q => (∃ i, xs = [.int i] ∧ Q (.int i) H) ∨ ∃ k, xs = [.bl k] ∧ Q (.int (if k then 1 else 0)) H) gInt := by
  intro W H vs ds d hW hv e Q q
  cases hv with
  | nil => cases e
  | cons h1 h2 =>
    cases h2 with
    | cons _ _ => cases h1 <;> cases e
    | nil =>
      cases h1 with
      | int i =>
        cases e
        exact .inl ⟨i, rfl, q _ H (Gr.refl _ _) (.int _)⟩
      | bl k =>
        cases e
        exact .inr ⟨k, rfl, q _ H (Gr.refl _ _) (.int _)⟩
      | _ => cases e
theorem xd_int1 {p : Pos} (hg : L.sc.names.lookup ("int" : Str) = some NameKind.globalImplicit) (hm : L.mg "int" = none) (hv : bootBuiltins "int" = some (.type "int")) (ha : XD L a fa) : XD L (.Call (.Name "int" p) [a] [] pos) (mB1 gInt (mCons fa mNil)) :=
  xd_callTy (fun X h => call_int1) calld_int hg hm hv (xl_cons ha xl_nil) ha.pl fun _ _ => one_arg
def gMin : List D → Option D
  | [.int i, .int j] => some (.int (if j < i then j else i))
  | _ => none
theorem calld_min : CallD L (fun xs H Q => ∃ i j, xs = [.int i, .int j] ∧ Q (.int (if j < i then j else i)) H) gMin := by
  intro W H vs ds d hW hv e Q q
  cases hv with
  | nil => cases e
  | cons h1 h2 =>
    cases h2 with
    | nil => cases h1 <;> cases e
    | cons h3 h4 =>
      cases h4 with
      | cons _ _ => cases h1 <;> cases h3 <;> cases e
      | nil =>
        cases h1 <;> cases h3 <;> first
          | (cases e; done)
          | skip
        cases e
        exact ⟨_, _, rfl, q _ H (Gr.refl _ _) (.int _)⟩
theorem xd_min2 {p : Pos} (hL : L.hot = false) (hg : L.sc.names.lookup ("min" : Str) = some NameKind.globalImplicit) (hm : L.mg "min" = none) (hv : bootBuiltins "min" = some (.builtin "min")) (ha : XD L a fa) (hb : XD L b fb) : XD L (.Call (.Name "min" p) [a, b] [] pos) (mB1 gMin (mCons fa (mCons fb mNil))) :=
  xd_callB (fun X h => call_min2 (h.calm hL)) calld_min hg hm hv (xl_cons ha (xl_cons hb xl_nil)) ha.pl fun _ _ => two_arg hb.pl
def gTuple : List D → Option D
  | [.list xs] => some (.tuple xs)
  | [.tuple xs] => some (.tuple xs)
  | _ => none
theorem calld_tuple : CallD L (fun xs H Q => ∃ p ys, xs = [.ref p] ∧ ((SqL L.K H p ys ∧ ∀ l, H l = none → Q (.ref l) (upd H l (.tup ys))) ∨ (SqT L.K H p ys ∧ Q (.ref p) H))) gTuple := by
  intro W H vs ds d hW hv e Q q
  cases hv with
  | nil => cases e
  | cons h1 h2 =>
    cases h2 with
    | cons _ _ => cases h1 <;> cases e
    | nil =>
      cases h1 with
      | lst h3 h4 =>
        cases e
        exact ⟨_, _, rfl, .inl ⟨sql_full h3, fun l hl => q _ _ (Gr.new hl) (dv_newtup hW hl h4)⟩⟩
      | tup h3 h4 =>
        cases e
        exact ⟨_, _, rfl, .inr ⟨sqt_full h3, q _ H (Gr.refl _ _) (.tup h3 h4)⟩⟩
      | _ => cases e
theorem xd_tuple {p : Pos} (hg : L.sc.names.lookup ("tuple" : Str) = some NameKind.globalImplicit) (hm : L.mg "tuple" = none) (hv : bootBuiltins "tuple" = some (.type "tuple")) (ha : XD L a fa) : XD L (.Call (.Name "tuple" p) [a] [] pos) (mB1 gTuple (mCons fa mNil)) :=
  xd_callTy (fun X h => h.K ▸ call_tuple_of) calld_tuple hg hm hv (xl_cons ha xl_nil) ha.pl fun _ _ => one_arg
def intsOf : List D → Option (List Int)
  | [] => some []
  | .int i :: r => (intsOf r).map (i :: ·)
  | _ :: _ => none
theorem ints_all {K : PySem.W.Frag} {H : Hp} : ∀ {vs : List V} {ds : List D} {ns : List Int}, DvAll K H vs ds → intsOf ds = some ns → vs = ns.map V.int
  | _, _, _, .nil, e => by cases e; rfl
  | _, _, _, .cons (d := d) r t, e => by
    cases r <;> first
      | (cases e; done)
      | skip
    obtain ⟨ns', e1, e2⟩ := Option.map_eq_some_iff.mp e
    subst e2
    rw [ints_all t e1]
    rfl
def gSum : List D → Option D
  | [.list xs] => (intsOf xs).map fun ns => .int ns.sum
  | _ => none
theorem calld_sum : CallD L (rSum L.K) gSum := by
  intro W H vs ds d hW hv e Q q
  cases hv with
  | nil => cases e
  | cons h1 h2 =>
    cases h2 with
    | cons _ _ => cases h1 <;> cases e
    | nil =>
      cases h1 with
      | lst h3 h4 =>
        obtain ⟨ns, e1, rfl⟩ := Option.map_eq_some_iff.mp e
        have := ints_all h4 e1
        subst this
        exact ⟨_, ns, rfl, sql_full h3, q _ H (Gr.refl _ _) (.int _)⟩
      | _ => cases e
theorem xd_sum {p : Pos} (hL : L.hot = false) (hg : L.sc.names.lookup ("sum" : Str) = some NameKind.globalImplicit) (hm : L.mg "sum" = none) (hv : bootBuiltins "sum" = some (.builtin "sum")) (ha : XD L a fa) : XD L (.Call (.Name "sum" p) [a] [] pos) (mB1 gSum (mCons fa mNil)) :=
  xd_callB (fun X h => h.K ▸ cr_sum (h.calm hL)) calld_sum hg hm hv (xl_cons ha xl_nil) ha.pl fun _ _ => one_arg
end
end FF
end
section
set_option Elab.async false
set_option linter.all false
set_option maxRecDepth 100000
set_option maxHeartbeats 2000000
/-! FFIter: what a loop walks, as a list of data. -/
namespace FF
open PySem PySem.Spec PyProof.Rows L2 RZ

/-- the walk J gives the items ds, wherever the heap went -/
def IterOk (K : PySem.W.Frag) (J : It) (ds : List D) (W : List Addr) (H : Hp) : Prop := ∀ W' H', Step W H W' H' → AllIn W' H' →
  (∀ i, i < ds.length → J.go i H') ∧ J.stop ds.length H' ∧ ∀ i x H'', i < ds.length → J.yld i H' x H'' → Gr [] H' H'' ∧ ∃ d, ds[i]? = some d ∧ Dv K (msk W' H'') x d
theorem IterOk.step {K : PySem.W.Frag} {J : It} {ds : List D} {W W' : List Addr} {H H' : Hp} (h : IterOk K J ds W H) (s : Step W H W' H') : IterOk K J ds W' H' := fun W2 H2 s2 a => h W2 H2 (s.trans s2) a
def ReadsI (L : Kl) (wi : TI) (f : M (List D)) : Prop := ∀ Z W δ σ H r δ', Sg L Z W δ σ H → f δ = some (r, δ') → R L Z (fun W' H' (J : It) ds => IterOk L.K J ds W' H') W δ' σ H r (wi σ H)
structure XI (L : Kl) (tg iter : Expr) (f : M (List D)) : Prop where
  fs : ∀ env x, foldedSetIterable iter env x = pure x
  gf : ∀ env v, genFold iter env v = pure v
  ex : ∃ wi, (∀ X, L.Has X → (L.hot = false → PI X tg iter wi) ∧ (L.hot = true → L2H.PIH X tg iter wi)) ∧ ReadsI L wi f
theorem pi_or {X : Cx} {tg iter : Expr} {w1 w2 : TI} (h1 : PI X tg iter w1) (h2 : PI X tg iter w2) : PI X tg iter (fun σ H R => w1 σ H R ∨ w2 σ H R) :=
  ⟨fun pins s σ H R I h => h.elim (h1.run pins s σ H R I) (h2.run pins s σ H R I)⟩

section
variable {L : Kl} {pos : Pos} {a b tg : Expr} {fa fb : M D}
theorem iter_list {K : PySem.W.Frag} {p : Addr} {vs : List V} {ds : List D} {W : List Addr} {H : Hp} (h : SqL K (msk W H) p vs) (ha : DvAll K (msk W H) vs ds) : IterOk K (Itl K p) ds W H := fun W' H' s _ => by
  have h1 : SqL K (msk W' H') p vs := sql_keep (fun o e => step_msk s p o e) h
  have hq : SqL K H' p vs := sql_full h1
  have w := walk_list (K := K) (a := p) (xs := vs)
  have hl := ha.length
  refine ⟨fun i hi => w.goes i H' (by omega) hq, by rw [← hl]; exact w.stops H' hq, fun i x H'' hi y => ?_⟩
  obtain ⟨rfl, e⟩ := w.yields i H' x H'' (by omega) hq y
  refine ⟨Gr.refl _ _, ?_⟩
  exact (ha.step s).getv e
theorem iter_tup {K : PySem.W.Frag} {p : Addr} {vs : List V} {ds : List D} {W : List Addr} {H : Hp} (h : SqT K (msk W H) p vs) (ha : DvAll K (msk W H) vs ds) : IterOk K (Itt K p) ds W H := fun W' H' s _ => by
  have h1 : SqT K (msk W' H') p vs := sqt_keep (fun o e => step_msk s p o e) h
  have hq : SqT K H' p vs := sqt_full h1
  have w := walk_tup (K := K) (a := p) (xs := vs)
  have hl := ha.length
  refine ⟨fun i hi => w.goes i H' (by omega) hq, by rw [← hl]; exact w.stops H' hq, fun i x H'' hi y => ?_⟩
  obtain ⟨rfl, e⟩ := w.yields i H' x H'' (by omega) hq y
  refine ⟨Gr.refl _ _, ?_⟩
  exact (ha.step s).getv e
def signsOf (z : Str) : List D := z.cps.toList.map fun c => .str ⟨#[c]⟩
theorem iter_str {K : PySem.W.Frag} {z : Str} {W : List Addr} {H : Hp} : IterOk K (Its z) (signsOf z) W H := fun W' H' s _ => by
  have w := walk_str (z := z)
  have hl : (signsOf z).length = z.cps.size := by unfold signsOf; rw [List.length_map, Array.length_toList]
  refine ⟨fun i hi => w.goes i H' (by omega) trivial, by rw [hl]; exact w.stops H' trivial, fun i x H'' hi y => ?_⟩
  obtain ⟨rfl, c, e, rfl⟩ := w.yields i H' x H'' (by omega) trivial y
  refine ⟨Gr.refl _ _, .str ⟨#[c]⟩, ?_, .str _⟩
  unfold signsOf
  rw [List.getElem?_map, Array.getElem?_toList, e]
  rfl
def itemsOf : D → Option (List D)
  | .list ds => some ds
  | .tuple ds => some ds
  | .str z => some (signsOf z)
  | _ => none
def mItems (f : M D) : M (List D) := mBind f fun d => mOpt (itemsOf d)
/-- over a list, a tuple or a text -/
theorem xi_val (hL : L.hot = false) (ha : XD L a fa) (fs : ∀ env x, foldedSetIterable a env x = pure x := by intros; rfl) (gf : ∀ env v, genFold a env v = pure v := by intros; rfl) : XI L tg a (mItems fa) := by
  obtain ⟨_, ta, hp, hr⟩ := ha
  refine ⟨fs, gf, fun σ H R => (iList L.K ta σ H R ∨ iTup L.K ta σ H R) ∨ iStr ta σ H R, fun X hX => ⟨fun _ => ?_, fun z => by rw [hL] at z; cases z⟩, fun Z W δ σ H r δ' s e => ?_⟩
  · have h1 := pi_list (tg := tg) (hp X hX)
    have h2 := pi_tup (tg := tg) (hp X hX)
    rw [hX.K] at h1 h2
    exact pi_or (pi_or h1 h2) (pi_str (hp X hX))
  · rcases mBind_inv e with ⟨c, e1, rfl⟩ | ⟨d, δ1, e1, e2⟩
    · exact fun Q q => .inl (.inl (hr Z W δ σ H _ _ s e1 _ q))
    · obtain ⟨ds, hd, rfl, rfl⟩ := mOpt_inv e2
      cases d with
      | list xs =>
        cases hd
        refine fun Q q => .inl (.inl (hr Z W δ σ H _ _ s e1 _ fun v W1 H1 s1 st1 hv => ?_))
        cases hv with
        | lst h1 h2 => exact ⟨_, rfl, ⟨_, sql_full h1⟩, q _ W1 H1 s1 st1 (iter_list h1 h2)⟩
      | tuple xs =>
        cases hd
        refine fun Q q => .inl (.inr (hr Z W δ σ H _ _ s e1 _ fun v W1 H1 s1 st1 hv => ?_))
        cases hv with
        | tup h1 h2 => exact ⟨_, rfl, ⟨_, sqt_full h1⟩, q _ W1 H1 s1 st1 (iter_tup h1 h2)⟩
      | str z =>
        cases hd
        refine fun Q q => .inr (hr Z W δ σ H _ _ s e1 _ fun v W1 H1 s1 st1 hv => ?_)
        cases hv
        exact ⟨_, rfl, q _ W1 H1 s1 st1 iter_str⟩
      | none => cases hd
      | bool _ => cases hd
      | int _ => cases hd
      | dict _ => cases hd
/-! ### range -/
def rangeD (lo : Int) (n : Nat) : List D := (List.range n).map fun i : Nat => .int (lo + (i : Int))
theorem iter_range {K : PySem.W.Frag} {lo : Int} {n : Nat} {W : List Addr} {H : Hp} : IterOk K (Itr lo n) (rangeD lo n) W H := fun W' H' s _ => by
  have w := walk_range (lo := lo) (n := n)
  have hl : (rangeD lo n).length = n := by unfold rangeD; simp
  refine ⟨fun i hi => w.goes i H' (by omega) trivial, by rw [hl]; exact w.stops H' trivial, fun i x H'' hi y => ?_⟩
  obtain ⟨rfl, rfl⟩ := w.yields i H' x H'' (by omega) trivial y
  refine ⟨Gr.refl _ _, .int (lo + i), ?_, .int _⟩
  unfold rangeD
  rw [List.getElem?_map, List.getElem?_range (by omega)]
  rfl
def inRg (i : Int) : Bool := decide (-(2 ^ 62) ≤ i ∧ i < 2 ^ 62)
def rg1 : List D → Option (List D)
  | [.int j] => if inRg j = true then some (rangeD 0 j.toNat) else none
  | _ => none
def rg2 : List D → Option (List D)
  | [.int i, .int j] => if inRg i = true ∧ inRg j = true then some (rangeD i (j - i).toNat) else none
  | _ => none
def mRg (g : List D → Option (List D)) (f : M (List D)) : M (List D) := mBind f fun ds => mOpt (g ds)
theorem dv_one {K : PySem.W.Frag} {H : Hp} {vs : List V} {i : Int} (h : DvAll K H vs [.int i]) : vs = [.int i] := by
  cases h with
  | cons h1 h2 => cases h1; cases h2; rfl
theorem dv_two {K : PySem.W.Frag} {H : Hp} {vs : List V} {i j : Int} (h : DvAll K H vs [.int i, .int j]) : vs = [.int i, .int j] := by
  cases h with
  | cons h1 h2 =>
    cases h2 with
    | cons h3 h4 => cases h1; cases h3; cases h4; rfl
theorem xi_range1 {p : Pos} (hg : L.sc.names.lookup ("range" : Str) = some NameKind.globalImplicit) (hm : L.mg "range" = none) (ha : XD L a fa) : XI L tg (.Call (.Name "range" p) [a] [] pos) (mRg rg1 (mCons fa mNil)) := by
  obtain ⟨ta, hp, hr⟩ := (xl_cons ha xl_nil).ex
  refine ⟨fun _ _ => rfl, fun _ _ => rfl, iRng1 ta, fun X hX => ⟨fun _ => ?_, fun _ => ?_⟩, fun Z W δ σ H r δ' s e => ?_⟩
  · exact pi_range1 (by show X.env.scope.names.lookup ("range" : Str) = _; rw [hX.sc]; exact hg) (by rw [hX.mg]; exact hm) (hp X hX) (ha.pl [] _)
  · exact L2H.pi_range1H (by show X.env.scope.names.lookup ("range" : Str) = _; rw [hX.sc]; exact hg) (by rw [hX.mg]; exact hm) (hp X hX) (ha.pl [] _)
  · refine R_seq (κ := It) (τa := ta σ H) (τ := fun vs H1 R => ∃ j : Int, vs = [.int j] ∧ -(2 ^ 62) ≤ j ∧ j < 2 ^ 62 ∧ R (Itr 0 j.toNat) H1) (fun r1 δ1 e1 => hr Z W δ σ H r1 δ1 s e1) e fun ds δ1 vs W1 H1 s1 st1 hx e1 => ?_
    obtain ⟨d, hd, rfl, rfl⟩ := mOpt_inv e1
    unfold rg1 at hd
    split at hd
    · split at hd
      · rename_i j hj
        cases hd
        have hj := of_decide_eq_true hj
        rw [dv_one hx]
        exact R_tau (R_here s1 (Rel := fun W' H' (J : It) ds => IterOk L.K J ds W' H') iter_range) fun Q q => ⟨_, rfl, hj.1, hj.2, q⟩
      · cases hd
    · cases hd
theorem xi_range2 {p : Pos} (hL : L.hot = false) (hg : L.sc.names.lookup ("range" : Str) = some NameKind.globalImplicit) (hm : L.mg "range" = none) (ha : XD L a fa) (hb : XD L b fb) : XI L tg (.Call (.Name "range" p) [a, b] [] pos) (mRg rg2 (mCons fa (mCons fb mNil))) := by
  obtain ⟨ta, hp, hr⟩ := (xl_cons ha (xl_cons hb xl_nil)).ex
  refine ⟨fun _ _ => rfl, fun _ _ => rfl, iRng2 ta, fun X hX => ⟨fun _ => ?_, fun z => by rw [hL] at z; cases z⟩, fun Z W δ σ H r δ' s e => ?_⟩
  · exact pi_range2 (by show X.env.scope.names.lookup ("range" : Str) = _; rw [hX.sc]; exact hg) (by rw [hX.mg]; exact hm) (hp X hX) ((ha.pl [b] _).trans (by rw [hb.pl [] _]; rfl)) (hb.pl [] _)
  · refine R_seq (κ := It) (τa := ta σ H) (τ := fun vs H1 R => ∃ i j : Int, vs = [.int i, .int j] ∧ (-(2 ^ 62) ≤ i ∧ i < 2 ^ 62 ∧ -(2 ^ 62) ≤ j ∧ j < 2 ^ 62) ∧ R (Itr i (j - i).toNat) H1) (fun r1 δ1 e1 => hr Z W δ σ H r1 δ1 s e1) e fun ds δ1 vs W1 H1 s1 st1 hx e1 => ?_
    obtain ⟨d, hd, rfl, rfl⟩ := mOpt_inv e1
    unfold rg2 at hd
    split at hd
    · split at hd
      · rename_i hj
        cases hd
        have h1 := of_decide_eq_true hj.1
        have h2 := of_decide_eq_true hj.2
        rw [dv_two hx]
        exact R_tau (R_here s1 (Rel := fun W' H' (J : It) ds => IterOk L.K J ds W' H') iter_range) fun Q q => ⟨_, _, rfl, ⟨h1.1, h1.2, h2.1, h2.2⟩, q⟩
      · cases hd
    · cases hd
/-! ### zip of two lists or of two tuples -/
def zipD : List D → List D → List D
  | x :: xs, y :: ys => .tuple [x, y] :: zipD xs ys
  | _, _ => []
theorem zipD_len : ∀ xs ys : List D, (zipD xs ys).length = min xs.length ys.length
  | [], _ => by simp [zipD]
  | _ :: _, [] => by simp [zipD]
  | x :: xs, y :: ys => by
    have := zipD_len xs ys
    simp only [zipD, List.length_cons]
    omega
theorem zipD_get : ∀ (xs ys : List D) (i : Nat) (x y : D), xs[i]? = some x → ys[i]? = some y → (zipD xs ys)[i]? = some (.tuple [x, y])
  | [], _, i, x, y, h, _ => by simp at h
  | _ :: _, [], i, x, y, _, h => by simp at h
  | x :: xs, y :: ys, 0, a, b, h1, h2 => by simp at h1 h2; subst h1 h2; rfl
  | x :: xs, y :: ys, i + 1, a, b, h1, h2 => zipD_get xs ys i a b (by simpa using h1) (by simpa using h2)
def gZip : List D → Option (List D)
  | [.list xs, .list ys] => some (zipD xs ys)
  | [.tuple xs, .tuple ys] => some (zipD xs ys)
  | _ => none
theorem pair_ok {K : PySem.W.Frag} {vs us : List V} {xs ys : List D} {i : Nat} {W' : List Addr} {H' H'' : Hp} {v : V} (hA : AllIn W' H') (ha : DvAll K (msk W' H') vs xs) (hb : DvAll K (msk W' H') us ys)
    (y : YPair (fun i => vs[i]?) (fun i => us[i]?) i H' v H'') : Gr [] H' H'' ∧ ∃ d, (zipD xs ys)[i]? = some d ∧ Dv K (msk W' H'') v d := by
  obtain ⟨T, x, z, rfl, hT, rfl, e1, e2⟩ := y
  obtain ⟨d1, f1, g1⟩ := ha.getv e1
  obtain ⟨d2, f2, g2⟩ := hb.getv e2
  exact ⟨Gr.new hT, _, zipD_get xs ys i d1 d2 f1 f2, dv_newtup hA hT (.cons g1 (.cons g2 .nil))⟩
theorem walk_zipT {K : PySem.W.Frag} {a b : Addr} {xs ys : List V} {n : Nat} (hn : n = min xs.length ys.length) : Walk (ItzT K a b) n (fun H => SqT K H a xs ∧ SqT K H b ys) (YPair (fun i => xs[i]?) (fun i => ys[i]?)) := by
  subst hn
  refine ⟨fun i _ hi q => ?_, fun _ q => ⟨xs, ys, q.1, q.2, by omega⟩, fun i H v H' _ q y => ?_⟩
  · have h1 : i < xs.length := by omega
    have h2 : i < ys.length := by omega
    exact ⟨xs, ys, xs[i], ys[i], q.1, q.2, by simp [h1], by simp [h2]⟩
  · obtain ⟨T, x, z, h1, h2, h3, h4, h5⟩ := y
    exact ⟨T, x, z, h1, h2, h3, h4 xs q.1, h5 ys q.2⟩
theorem xi_zip {p tp : Pos} {elts : List Expr} {kk : Nat} (hL : L.hot = false) (hg : L.sc.names.lookup ("zip" : Str) = some NameKind.globalImplicit) (hm : L.mg "zip" = none) (ha : XD L a fa) (hb : XD L b fb) : XI L (.Tuple elts kk tp) (.Call (.Name "zip" p) [a, b] [] pos) (mRg gZip (mCons fa (mCons fb mNil))) := by
  obtain ⟨ta, hp, hr⟩ := (xl_cons ha (xl_cons hb xl_nil)).ex
  refine ⟨fun _ _ => rfl, fun _ _ => rfl, iZipA L.K ta, fun X hX => ⟨fun _ => ?_, fun z => by rw [hL] at z; cases z⟩, fun Z W δ σ H r δ' s e => ?_⟩
  · have := pi_zipA (X := X) (elts := elts) (kk := kk) (tpos := tp) (p := p) (pos := pos) (by show X.env.scope.names.lookup ("zip" : Str) = _; rw [hX.sc]; exact hg) (by rw [hX.mg]; exact hm) (hp X hX) (ha.pl [b] _) (two_arg hb.pl)
    rw [hX.K] at this
    exact this
  · refine R_seq (κ := It) (τa := ta σ H) (τ := fun vs H1 R => ∃ a b xs ys, vs = [.ref a, .ref b] ∧ ((SqL L.K H1 a xs ∧ SqL L.K H1 b ys ∧ R (Itz L.K a b) H1) ∨ (SqT L.K H1 a xs ∧ SqT L.K H1 b ys ∧ R (ItzT L.K a b) H1))) (fun r1 δ1 e1 => hr Z W δ σ H r1 δ1 s e1) e fun ds δ1 vs W1 H1 s1 st1 hx e1 => ?_
    obtain ⟨d, hd, rfl, rfl⟩ := mOpt_inv e1
    unfold gZip at hd
    split at hd
    · rename_i xs ys
      cases hd
      cases hx with
      | cons h1 h2 =>
        cases h2 with
        | cons h3 h4 =>
          cases h4
          cases h1 with
          | lst p1 q1 =>
            cases h3 with
            | lst p2 q2 =>
              rename_i A xv B yv
              refine R_tau (R_here (b := Itz L.K A B) s1 (Rel := fun W' H' (J : It) ds => IterOk L.K J ds W' H') fun W' H' sp hA => ?_) fun Q q => ⟨A, B, xv, yv, rfl, .inl ⟨sql_full p1, sql_full p2, q⟩⟩
              have k1 : SqL L.K H' A xv := sql_full (sql_keep (fun o e => step_msk sp A o e) p1)
              have k2 : SqL L.K H' B yv := sql_full (sql_keep (fun o e => step_msk sp B o e) p2)
              have w := walk_zip (K := L.K) (a := A) (b := B) (xs := xv) (ys := yv) rfl
              have hl := zipD_len xs ys
              have l1 := q1.length
              have l2 := q2.length
              refine ⟨fun i hi => w.goes i H' (by omega) ⟨k1, k2⟩, by rw [hl, ← l1, ← l2]; exact w.stops H' ⟨k1, k2⟩, fun i x H'' hi y => pair_ok hA (q1.step sp) (q2.step sp) (w.yields i H' x H'' (by omega) ⟨k1, k2⟩ y)⟩
    · rename_i xs ys
      cases hd
      cases hx with
      | cons h1 h2 =>
        cases h2 with
        | cons h3 h4 =>
          cases h4
          cases h1 with
          | tup p1 q1 =>
            cases h3 with
            | tup p2 q2 =>
              rename_i A xv B yv
              refine R_tau (R_here (b := ItzT L.K A B) s1 (Rel := fun W' H' (J : It) ds => IterOk L.K J ds W' H') fun W' H' sp hA => ?_) fun Q q => ⟨A, B, xv, yv, rfl, .inr ⟨sqt_full p1, sqt_full p2, q⟩⟩
              have k1 : SqT L.K H' A xv := sqt_full (sqt_keep (fun o e => step_msk sp A o e) p1)
              have k2 : SqT L.K H' B yv := sqt_full (sqt_keep (fun o e => step_msk sp B o e) p2)
              have w := walk_zipT (K := L.K) (a := A) (b := B) (xs := xv) (ys := yv) rfl
              have hl := zipD_len xs ys
              have l1 := q1.length
              have l2 := q2.length
              refine ⟨fun i hi => w.goes i H' (by omega) ⟨k1, k2⟩, by rw [hl, ← l1, ← l2]; exact w.stops H' ⟨k1, k2⟩, fun i x H'' hi y => pair_ok hA (q1.step sp) (q2.step sp) (w.yields i H' x H'' (by omega) ⟨k1, k2⟩ y)⟩
    · cases hd
end
end FF
end
section
set_option Elab.async false
set_option linter.all false
set_option maxRecDepth 100000
set_option maxHeartbeats 2000000
/-! FFComp: targets, list comprehensions. -/
namespace FF
open PySem PySem.Spec PyProof.Rows L2 RZ

/-! ### targets -/
theorem wipe_set {σ : L2.St} {i : Nat} {v : Option V} : ∀ {vs : List Nat}, i ∈ vs → wipe (σ.set i v) vs = wipe σ vs
  | [], h => by cases h
  | j :: vs, h => by
    show (wipe (σ.set i v) vs).set j none = (wipe σ vs).set j none
    by_cases hi : i ∈ vs
    · rw [wipe_set hi]
    · have e : i = j := (List.mem_cons.mp h).resolve_right hi
      subst e
      apply List.ext_getElem?
      intro k
      by_cases hk : i = k
      · subst hk
        rw [List.getElem?_set, List.getElem?_set]
        simp [wipe_length]
      · rw [List.getElem?_set_ne hk, List.getElem?_set_ne hk]
        by_cases hkv : k ∈ vs
        · have key : ∀ (σ : L2.St) (vs : List Nat), k ∈ vs → k < σ.length → (wipe σ vs)[k]? = some none := fun σ vs => by
            induction vs with
            | nil => intro h; cases h
            | cons j vs ih =>
              intro h hl
              show ((wipe σ vs).set j none)[k]? = some none
              by_cases hj : j = k
              · subst hj
                rw [List.getElem?_set_self (by rw [wipe_length]; exact hl)]
              · rw [List.getElem?_set_ne hj]
                exact ih ((List.mem_cons.mp h).resolve_left (fun z => hj z.symm)) hl
          by_cases hl : k < σ.length
          · rw [key _ _ hkv (by rw [List.length_set]; exact hl), key _ _ hkv hl]
          · rw [List.getElem?_eq_none (by rw [wipe_length, List.length_set]; omega), List.getElem?_eq_none (by rw [wipe_length]; omega)]
        · rw [wipe_out hkv, wipe_out hkv, List.getElem?_set_ne hk]
def wipeD (δ : Env') : List Nat → Env'
  | [] => δ
  | v :: vs => (wipeD δ vs).set v .u
theorem wipeD_length (δ : Env') : ∀ vs : List Nat, (wipeD δ vs).length = δ.length
  | [] => rfl
  | v :: vs => by unfold wipeD; rw [List.length_set, wipeD_length δ vs]
theorem wipeD_in {δ : Env'} {i : Nat} : ∀ {vs : List Nat} {e : Ent}, i ∈ vs → (wipeD δ vs)[i]? = some e → e = .u
  | [], _, h, _ => by cases h
  | j :: vs, e, h, he => by
    unfold wipeD at he
    by_cases hj : j = i
    · subst hj
      have hl : j < (wipeD δ vs).length := by
        have := (List.getElem?_eq_some_iff.mp he).1
        rw [List.length_set] at this
        exact this
      rw [List.getElem?_set_self hl] at he
      cases he
      rfl
    · rw [List.getElem?_set_ne hj] at he
      exact wipeD_in ((List.mem_cons.mp h).resolve_left (fun z => hj z.symm)) he
theorem Sg.wipe {L : Kl} {Z : Amb} {W : List Addr} {δ : Env'} {σ : L2.St} {H : Hp} (s : Sg L Z W δ σ H) : ∀ vs : List Nat, Sg L Z W (wipeD δ vs) (wipe σ vs) H
  | [] => s
  | _ :: vs => (s.wipe vs).forget _
/-- back from a block -/
theorem Sg.unwipe {L : Kl} {Z : Amb} {W : List Addr} {δ : Env'} {σ σ2 : L2.St} {H : Hp} {vs : List Nat} (s : Sg L Z W δ σ2 H) (h : L2.wipe σ2 vs = L2.wipe σ vs) : Sg L Z W (wipeD δ vs) σ H := by
  refine (s.wipe vs).slots ?_ fun i e v h1 h2 h3 => ?_
  · rw [h, wipe_length]
  · rw [h] at h3
    exact (wipe_some h3).1
abbrev AsD := D → Env' → Option Env'
def GrdT (L : Kl) (is : List Nat) (t : TG) (g : AsD) : Prop := ∀ Z W δ σ H v d δ', Sg L Z W δ σ H → Dv L.K (msk W H) v d → g d δ = some δ' → ∀ Q : L2.St → Hp → Prop, (∀ σ', Sg L Z W δ' σ' H → (∀ vs, (∀ i ∈ is, i ∈ vs) → wipe σ' vs = wipe σ vs) → Q σ' H) → t v σ H Q
structure XG (L : Kl) (tg : Expr) (is : List Nat) (g : AsD) : Prop where
  ex : ∃ t, (∀ X, L.Has X → PG X tg t) ∧ GrdT L is t g
  one : ∀ env, (assignEach [tg] env).map (·.2) = [assign tg env] ∧ (∀ es, (assignEach (tg :: es) env).map (·.2) = assign tg env :: (assignEach es env).map (·.2)) ∧ (∀ es, (assignEach (tg :: es) env).findIdx? (·.1) = ((assignEach es env).findIdx? (·.1)).map (· + 1)) ∧ ∀ es, (assignEach (tg :: es) env).length = (assignEach es env).length + 1
section
variable {L : Kl} {pos : Pos}
def aName (i : Nat) : AsD := fun d δ => some (δ.set i (.v d))
theorem grd_name (i : Nat) : GrdT L [i] (gName i) (aName i) := fun Z W δ σ H v d δ' s hd e Q q => by
  cases e
  exact q _ (s.set hd) fun vs hv => wipe_set (hv i (List.mem_singleton.mpr rfl))
theorem xg_name (i : Nat) {x : Str} (hN : L.N[i]? = some x) (hx : Loc L.sc x) (hf : L.fnl x = true ∨ L.sc.names.lookup x = some .local) : XG L (.Name x pos) [i] (aName i) :=
  ⟨⟨_, fun X h => pg_name (by rw [h.N]; exact h.nd) (by rw [h.N]; exact hN) (by rw [h.sc]; exact hx) (by rw [h.sc]; exact hf.imp (h.fn x) id), grd_name i⟩, fun env => ⟨rfl, fun _ => rfl, fun es => by show List.findIdx? _ (_ :: _) = _; rw [List.findIdx?_cons]; rfl, fun _ => rfl⟩⟩
structure XGs (L : Kl) (ts : List Expr) (is : List Nat) (g : List D → Env' → Option Env') : Prop where
  ex : ∃ t, (∀ X, L.Has X → PGs X ts t) ∧ ∀ Z W δ σ H vs ds δ', Sg L Z W δ σ H → DvAll L.K (msk W H) vs ds → g ds δ = some δ' → ∀ Q : L2.St → Hp → Prop, (∀ σ', Sg L Z W δ' σ' H → (∀ vs, (∀ i ∈ is, i ∈ vs) → wipe σ' vs = wipe σ vs) → Q σ' H) → t vs σ H Q
  ns : ∀ env, (assignEach ts env).findIdx? (·.1) = none ∧ (assignEach ts env).length = ts.length
def aNil : List D → Env' → Option Env'
  | [], δ => some δ
  | _, _ => none
def aCons (g : AsD) (gs : List D → Env' → Option Env') : List D → Env' → Option Env'
  | d :: ds, δ => (g d δ).bind (gs ds)
  | _, _ => none
theorem xgs_nil : XGs L [] [] aNil := ⟨⟨_, fun _ _ => pgs_nil, fun Z W δ σ H vs ds δ' s hd e Q q => by
  cases hd with
  | nil =>
    cases e
    exact ⟨rfl, q σ s fun _ _ => rfl⟩
  | cons _ _ => cases e⟩, fun _ => ⟨rfl, rfl⟩⟩
theorem xgs_cons {tg : Expr} {ts : List Expr} {i1 i2 : List Nat} {g : AsD} {gs : List D → Env' → Option Env'} (h : XG L tg i1 g) (hs : XGs L ts i2 gs) : XGs L (tg :: ts) (i1 ++ i2) (aCons g gs) := by
  obtain ⟨⟨t, hp, hr⟩, one⟩ := h
  obtain ⟨⟨u, hp2, hr2⟩, ns⟩ := hs
  refine ⟨⟨_, fun X hX => pgs_cons (hp X hX) (hp2 X hX) ((one _).2.1 ts), fun Z W δ σ H vs ds δ' s hd e Q q => ?_⟩, fun env => ⟨?_, ?_⟩⟩
  · cases hd with
    | nil => cases e
    | cons h1 h2 =>
      obtain ⟨δ1, e1, e2⟩ := Option.bind_eq_some_iff.mp e
      refine ⟨_, _, rfl, hr Z W δ σ H _ _ δ1 s h1 e1 _ fun σ1 s1 w1 => ?_⟩
      refine hr2 Z W δ1 σ1 H _ _ δ' s1 h2 e2 _ fun σ2 s2 w2 => ?_
      exact q σ2 s2 fun vs hv => (w2 vs fun i hi => hv i (List.mem_append_right _ hi)).trans (w1 vs fun i hi => hv i (List.mem_append_left _ hi))
  · rw [(one env).2.2.1 ts, (ns env).1]; rfl
  · rw [(one env).2.2.2 ts, (ns env).2]; rfl
def aTup (gs : List D → Env' → Option Env') : AsD := fun d δ => match d with
  | .tuple ds => gs ds δ
  | _ => none
theorem xg_tup {ts : List Expr} {k : Nat} {is : List Nat} {gs : List D → Env' → Option Env'} (hL : L.hot = false) (h : XGs L ts is gs) (hlen : ∀ ds δ δ', gs ds δ = some δ' → ds.length = ts.length) : XG L (.Tuple ts k pos) is (aTup gs) := by
  obtain ⟨⟨t, hp, hr⟩, ns⟩ := h
  refine ⟨⟨L2.gTup L.K ts.length t, fun X hX => ?_, fun Z W δ σ H v d δ' s hd e Q q => ?_⟩, fun env => ⟨rfl, fun _ => rfl, fun es => by show List.findIdx? _ (_ :: _) = _; rw [List.findIdx?_cons]; rfl, fun _ => rfl⟩⟩
  · have := pg_tup (X := X) (k := k) (pos := pos) (n := ts.length) (hX.calm hL) (hp X hX) (ns _).2 (ns _).1
    rw [hX.K] at this
    exact this
  · unfold aTup at e
    split at e
    · cases hd with
      | tup h1 h2 =>
        exact ⟨_, _, rfl, sqt_full h1, by rw [h2.length]; exact hlen _ _ _ e, hr Z W δ σ H _ _ δ' s h2 e Q q⟩
    · cases e
theorem aNil_len {ds : List D} {δ δ' : Env'} (h : aNil ds δ = some δ') : ds.length = 0 := by
  cases ds with
  | nil => rfl
  | cons _ _ => cases h
theorem aCons_len {g : AsD} {gs : List D → Env' → Option Env'} {n : Nat} (hs : ∀ ds δ δ', gs ds δ = some δ' → ds.length = n) : ∀ ds δ δ', aCons g gs ds δ = some δ' → ds.length = n + 1 := fun ds δ δ' h => by
  cases ds with
  | nil => cases h
  | cons d ds =>
    obtain ⟨δ1, _, e2⟩ := Option.bind_eq_some_iff.mp h
    rw [List.length_cons, hs _ _ _ e2]
end

/-! ### the block's context -/
def Kl.blk (L : Kl) (scope : Scope) : Kl := { L with sc := relS scope L.sc, Wx := fun _ _ _ _ => False, fnl := fun x => scope.names.lookup x == some .cell, dfn := false }
theorem takesF {X : Cx} : L2N.Takes X (fun _ _ _ _ => False) := fun _ _ x => by
  obtain ⟨_, _, _, _, _, _, _, _, _, _, _, _, _, _, _, _, z⟩ := x
  exact z.elim
theorem has_blk {L : Kl} {X : Cx} {scope : Scope} (hL : L.hot = false) (h : L.Has X) (s : Shared) (H : Hp) (C : Addr) (cl : List (Str × Addr)) (fp : List Addr) : (L.blk scope).Has (X.blk s H scope (compEnvC scope cl C X.env) fp) where
  P := h.P
  w := h.w
  K := h.K
  mg := h.mg
  base := h.base
  N := h.N
  sc := by show relS scope X.env.scope = _; rw [h.sc]; rfl
  nd := h.nd
  calm := h.calm
  room := h.room
  hotc := fun z => by rw [show (L.blk scope).hot = L.hot from rfl, hL] at z; cases z
  un := h.un
  code := h.code
  own := PassesOwn.never
  tk := takesF
  fn := fun _ e => e
  frm := fun z => by cases z

/-! ### one clause -/
/-- the tests of a clause -/
structure XIfs (L : Kl) (ifs : List Expr) (f : M Bool) : Prop where
  ex : ∃ t, (∀ X, L.Has X → PTs X ifs t) ∧ ReadsT L t f
theorem xifs_nil {L : Kl} : XIfs L [] (mPure true) := ⟨⟨_, fun _ _ => pts_nil, fun Z W δ σ H r δ' s e => by
  cases e
  exact R_here s (Rel := RelB) rfl⟩⟩
theorem xifs_one {L : Kl} {c : Expr} {f : M Bool} (h : XT L c f) : XIfs L [c] f := by
  obtain ⟨tt, hp, hr⟩ := h
  exact ⟨tt, fun X hX => pts_one (hp X hX), hr⟩
/-- a turn: the target, the tests, the item -/
def turnD (g : AsD) (ft : M Bool) (fe : M D) (d : D) (δ : Env') : Option (Option D × Env') :=
  (g d δ).bind fun δ1 => match ft δ1 with
    | some (.ok true, δ2) => (match fe δ2 with
      | some (.ok y, δ3) => some (some y, δ3)
      | _ => none)
    | some (.ok false, δ2) => some (none, δ2)
    | _ => none
def turnsD (vs : List Nat) (g : AsD) (ft : M Bool) (fe : M D) : List D → List D → Env' → Option (List D × Env')
  | [], acc, δ => some (acc, δ)
  | d :: ds, acc, δ => match turnD g ft fe d δ with
    | some (some y, δ1) => if acc.length < 1000000 then turnsD vs g ft fe ds (acc ++ [y]) (wipeD δ1 vs) else none
    | some (none, δ1) => turnsD vs g ft fe ds acc (wipeD δ1 vs)
    | none => none
def mLc (vs : List Nat) (fi : M (List D)) (g : AsD) (ft : M Bool) (fe : M D) : M (List D) := mBind fi fun ds δ => (turnsD vs g ft fe ds [] (wipeD δ vs)).map fun p => (.ok p.1, wipeD p.2 vs)
theorem step_new {W : List Addr} {H : Hp} {p : Addr} {o : HO} (hp : H p = none) : Step W H (p :: W) (upd H p o) := ⟨fun x z => by
  rcases List.mem_cons.mp z with y | y
  · rw [y]; exact .inr hp
  · exact .inl y, Gr.new hp⟩
theorem step_upd {W : List Addr} {H : Hp} {p : Addr} {o : HO} (hp : p ∈ W) : Step W H W (upd H p o) := ⟨fun _ z => .inl z, fun a u n e => Kp.of (upd_ne (fun z => n (z ▸ hp))) e⟩
theorem wipe_get {σ : L2.St} {k : Nat} : ∀ {vs : List Nat}, k ∈ vs → k < σ.length → (L2.wipe σ vs)[k]? = some none
  | [], h, _ => by cases h
  | j :: vs, h, hl => by
    show ((L2.wipe σ vs).set j none)[k]? = some none
    by_cases hj : j = k
    · subst hj
      rw [List.getElem?_set_self (by rw [wipe_length]; exact hl)]
    · rw [List.getElem?_set_ne hj]
      exact wipe_get ((List.mem_cons.mp h).resolve_left (fun z => hj z.symm)) hl
theorem wipe_idem (σ : L2.St) (vs : List Nat) : L2.wipe (L2.wipe σ vs) vs = L2.wipe σ vs := by
  apply List.ext_getElem?
  intro k
  by_cases hk : k ∈ vs
  · by_cases hl : k < σ.length
    · rw [wipe_get hk (by rw [wipe_length]; exact hl), wipe_get hk hl]
    · rw [List.getElem?_eq_none (by rw [wipe_length, wipe_length]; omega), List.getElem?_eq_none (by rw [wipe_length]; omega)]
  · rw [wipe_out hk]
theorem Sg.to {L L' : Kl} {Z : Amb} {W : List Addr} {δ : Env'} {σ : L2.St} {H : Hp} (s : Sg L Z W δ σ H) (hK : L'.K = L.K) (hT : L'.T = L.T) : Sg L' Z W δ σ H := by
  refine ⟨s.len, ?_, s.sep, s.sub, s.msub, s.old, s.all, s.base, ?_, s.fz, s.fo⟩
  · rw [hK]; exact s.slot
  · rw [hT]; exact s.tabs
theorem turnD_inv {g : AsD} {ft : M Bool} {fe : M D} {d : D} {δ : Env'} {o : Option D} {δ' : Env'} (h : turnD g ft fe d δ = some (o, δ')) :
    ∃ δ1, g d δ = some δ1 ∧ ((∃ y δ2, o = some y ∧ ft δ1 = some (.ok true, δ2) ∧ fe δ2 = some (.ok y, δ')) ∨ (o = none ∧ ft δ1 = some (.ok false, δ'))) := by
  obtain ⟨δ1, e1, e2⟩ := Option.bind_eq_some_iff.mp h
  refine ⟨δ1, e1, ?_⟩
  split at e2
  · rename_i δ2 h1
    split at e2
    · rename_i y δ3 h2
      cases e2
      exact .inl ⟨y, δ2, rfl, h1, h2⟩
    · cases e2
  · rename_i δ2 h1
    cases e2
    exact .inr ⟨rfl, h1⟩
  · cases e2
theorem turns_gen {L : Kl} {vs : List Nat} {is : List Nat} {gt : TG} {tt : TT} {te : TE} {g : AsD} {ft : M Bool} {fe : M D} (hvs : ∀ i ∈ is, i ∈ vs) (hg : GrdT L is gt g) (ht : ReadsT L tt ft) (he : ReadsE L te fe)
    {Z : Amb} {W0 : List Addr} {σ : L2.St} {H0 : Hp} {J : It} {all : List D} {δe : Env'} {out : List D} {D0 : Addr} (hJ : IterOk L.K J all W0 H0) (hZF : D0 ∉ Z.F) (hZ0 : Z.H0 D0 = none) {Qf : Hp → Prop}
    (q : ∀ W' H' vs', Sg L (Z.fr D0 (.lst vs')) W' δe (L2.wipe σ vs) H' → Step W0 H0 W' H' → DvAll L.K (msk W' H') vs' out → Qf H')
    {δ : Env'} {W1 : List Addr} {H1 : Hp} {a0v : List V} {a0d : List D} (ha0 : DvAll L.K (msk W1 H1) a0v a0d) (ht0 : turnsD vs g ft fe all a0d δ = some (out, δe)) (s0 : Sg L (Z.fr D0 (.lst a0v)) W1 δ (L2.wipe σ vs) H1) (st0 : Step W0 H0 W1 H1) :
    ∃ W : Nat → Nat → Hp → Prop, (∃ m, W 0 m H1) ∧ ∀ i m H, W i m H →
      (J.stop i H ∧ Qf H) ∨ (J.go i H ∧ ∃ Nx : Hp → Prop, (∀ H', Nx H' → ∃ m', m' < m ∧ W (i + 1) m' H') ∧ ∀ x H', J.yld i H x H' → gt x (L2.wipe σ vs) H' fun σ2 H2 => L2.wipe σ2 vs = L2.wipe σ vs ∧ tt σ2 H2 fun b H3 =>
        if b = true then te σ2 H3 fun y H4 => ∃ acc, H4 D0 = some (.lst acc) ∧ acc.length < sizeLine ∧ Nx (upd H4 D0 (.lst (acc ++ [y]))) else Nx H3) := by
  refine ⟨fun i m H => m = all.length - i ∧ i ≤ all.length ∧ ∃ W' δ' accv accd, Sg L (Z.fr D0 (.lst accv)) W' δ' (L2.wipe σ vs) H ∧ Step W0 H0 W' H ∧ DvAll L.K (msk W' H) accv accd ∧ turnsD vs g ft fe (all.drop i) accd δ' = some (out, δe), ⟨_, rfl, Nat.zero_le _, W1, δ, a0v, a0d, s0, st0, ha0, ht0⟩, ?_⟩
  rintro i m H ⟨rfl, hi, W', δ', accv, accd, s, st, ha, htd⟩
  obtain ⟨go, stop, yld⟩ := hJ W' H st s.all
  by_cases hlt : i < all.length
  · refine .inr ⟨go i hlt, fun H' => ∃ W' δ' accv accd, Sg L (Z.fr D0 (.lst accv)) W' δ' (L2.wipe σ vs) H' ∧ Step W0 H0 W' H' ∧ DvAll L.K (msk W' H') accv accd ∧ turnsD vs g ft fe (all.drop (i + 1)) accd δ' = some (out, δe), fun H' h => ⟨all.length - (i + 1), by omega, rfl, hlt, h⟩, fun x H' y => ?_⟩
    obtain ⟨gr, d, hd, hx⟩ := yld i x H' hlt y
    have hdrop : all.drop i = d :: all.drop (i + 1) := by
      rw [List.getElem?_eq_some_iff] at hd
      obtain ⟨_, e⟩ := hd
      rw [List.drop_eq_getElem_cons hlt, e]
    rw [hdrop] at htd
    unfold turnsD at htd
    have s' := s.gr gr
    have stx : Step W' H W' H' := Step.of_gr gr
    split at htd
    · rename_i yd δ1 e1
      split at htd
      · rename_i hz
        obtain ⟨δa, ea, eb⟩ := turnD_inv e1
        rcases eb with ⟨y', δ2, e0, e2, e3⟩ | ⟨e0, _⟩
        · cases e0
          refine hg _ W' δ' _ H' x d δa s' hx ea _ fun σ2 s2 w2 => ⟨(w2 vs hvs).trans (wipe_idem σ vs), ?_⟩
          refine ht _ W' δa σ2 H' _ _ s2 e2 _ fun b W2 H2 s3 st3 hb => ?_
          subst hb
          rw [if_pos rfl]
          refine he _ W2 δ2 σ2 H2 _ _ s3 e3 _ fun yv W3 H3 s4 st4 hy => ?_
          obtain ⟨fW, fH, fu⟩ := s4.frozen
          have hacc := (ha.step stx).step (st3.trans st4)
          have hlen := hacc.length
          refine ⟨accv, fH, Nat.lt_of_lt_of_le (by omega : accv.length < 1000000) (by decide), W3, wipeD δ1 vs, accv ++ [yv], accd ++ [yd], ?_, ((st.trans stx).trans (st3.trans st4)).trans (step_upd fW), (hacc.append (.cons hy .nil)).step (step_upd fW), htd⟩
          have s5 : Sg L (Z.fr D0 (.lst (accv ++ [yv]))) W3 δ1 σ2 (upd H3 D0 (.lst (accv ++ [yv]))) := ((s4.thaw hZF).changeF fW hZ0 hZF fu fH).freeze fW hZF fu (fun _ z => by cases z) upd_same
          have s6 := s5.wipe vs
          rw [(w2 vs hvs).trans (wipe_idem σ vs)] at s6
          exact s6
        · cases e0
      · cases htd
    · rename_i δ1 e1
      obtain ⟨δa, ea, eb⟩ := turnD_inv e1
      rcases eb with ⟨y', δ2, e0, e2, e3⟩ | ⟨_, e2⟩
      · cases e0
      · refine hg _ W' δ' _ H' x d δa s' hx ea _ fun σ2 s2 w2 => ⟨(w2 vs hvs).trans (wipe_idem σ vs), ?_⟩
        refine ht _ W' δa σ2 H' _ _ s2 e2 _ fun b W2 H2 s3 st3 hb => ?_
        subst hb
        rw [if_neg Bool.false_ne_true]
        have s6 := s3.wipe vs
        rw [(w2 vs hvs).trans (wipe_idem σ vs)] at s6
        exact ⟨W2, wipeD δ1 vs, accv, accd, s6, (st.trans stx).trans st3, (ha.step stx).step st3, htd⟩
    · cases htd
  · have hie : i = all.length := by omega
    subst hie
    rw [List.drop_length] at htd
    cases htd
    exact .inl ⟨stop, q W' H accv s st ha⟩
theorem turns_ok {L : Kl} {vs : List Nat} {is : List Nat} {gt : TG} {tt : TT} {te : TE} {g : AsD} {ft : M Bool} {fe : M D} (hvs : ∀ i ∈ is, i ∈ vs) (hg : GrdT L is gt g) (ht : ReadsT L tt ft) (he : ReadsE L te fe)
    {Z : Amb} {W0 : List Addr} {σ : L2.St} {H0 : Hp} {J : It} {all : List D} {δe : Env'} {out : List D} {D0 : Addr} (hJ : IterOk L.K J all W0 H0) (hZF : D0 ∉ Z.F) (hZ0 : Z.H0 D0 = none) {Qf : Hp → Prop}
    (q : ∀ W' H' vs', Sg L Z W' (wipeD δe vs) σ H' → Step W0 H0 W' H' → D0 ∈ W' → H' D0 = some (.lst vs') → DvAll L.K (msk W' H') vs' out → Unowned (wipeD δe vs) σ D0 → Qf H')
    {δ : Env'} {W1 : List Addr} {H1 : Hp} (ht0 : turnsD vs g ft fe all [] δ = some (out, δe)) (s0 : Sg L (Z.fr D0 (.lst [])) W1 δ (L2.wipe σ vs) H1) (st0 : Step W0 H0 W1 H1) :
    ∃ W : Nat → Nat → Hp → Prop, (∃ m, W 0 m H1) ∧ ∀ i m H, W i m H →
      (J.stop i H ∧ Qf H) ∨ (J.go i H ∧ ∃ Nx : Hp → Prop, (∀ H', Nx H' → ∃ m', m' < m ∧ W (i + 1) m' H') ∧ ∀ x H', J.yld i H x H' → gt x (L2.wipe σ vs) H' fun σ2 H2 => L2.wipe σ2 vs = L2.wipe σ vs ∧ tt σ2 H2 fun b H3 =>
        if b = true then te σ2 H3 fun y H4 => ∃ acc, H4 D0 = some (.lst acc) ∧ acc.length < sizeLine ∧ Nx (upd H4 D0 (.lst (acc ++ [y]))) else Nx H3) := by
  refine turns_gen hvs hg ht he hJ hZF hZ0 (fun W' H' vs' s st ha => ?_) .nil ht0 s0 st0
  have s' := s.unwipe (σ := σ) (wipe_idem σ vs)
  obtain ⟨fW, fH, fu⟩ := s'.frozen
  exact q W' H' vs' (s'.thaw hZF) st fW fH ha fu
section
variable {L : Kl} {pos : Pos}
theorem reads_lc {elt tg iter : Expr} {scope : Scope} {vs is : List Nat} {wi : TI} {gt : TG} {tt : TT} {te : TE} {fi : M (List D)} {g : AsD} {ft : M Bool} {fe : M D} (hri : ReadsI L wi fi) (hvs : ∀ i ∈ is, i ∈ vs) (hrg : GrdT (L.blk scope) is gt g) (hrt : ReadsT (L.blk scope) tt ft) (hre : ReadsE (L.blk scope) te fe) : ReadsF L (tLc wi gt tt te vs) (mLc vs fi g ft fe) := fun Z W δ σ H r δ' s e => by
  refine R_seq (κ := V) (τa := wi σ H) (fun r1 δ1 e1 => hri Z W δ σ H r1 δ1 s e1) e fun ds δ1 J W1 H1 s1 st1 hJ e1 => ?_
  obtain ⟨⟨out, δe⟩, e2, e3⟩ := Option.map_eq_some_iff.mp e1
  cases e3
  intro Q q D0 hD0
  have sN := s1.newOwn (o := .lst []) hD0
  have nF := s1.f_new hD0
  have h0 := s1.h0_new hD0
  have s2 := (sN.freeze (List.mem_cons_self) nF (s1.unowned_new hD0) (fun _ z => by cases z) upd_same).wipe vs
  refine turns_ok (L := L.blk scope) hvs hrg hrt hre (D0 := D0) (hJ.step (step_new hD0)) nF h0 (fun W' H' vs' s3 st3 fW fH fd fu => ?_) e2 (s2.to rfl rfl) (Step.refl _ _)
  exact q _ W' H' (s3.to rfl rfl) ((step_new hD0).trans st3) ⟨D0, vs', rfl, fW, h0, nF, fH, fd, fu⟩
theorem xf_lc {elt tg iter : Expr} {ifs : List Expr} {scope : Scope} {own : List (Str × Nat)} {is : List Nat} {fi : M (List D)} {g : AsD} {ft : M Bool} {fe : M D} (hL : L.hot = false) (hi : XI L tg iter fi) (ok : BlkOk L.N L.sc scope own) (hvs : ∀ i ∈ is, i ∈ own.map (·.2))
    (hg : XG (L.blk scope) tg is g) (ht : XIfs (L.blk scope) ifs ft) (he : XD (L.blk scope) elt fe) : XF L (.ListComp elt [⟨tg, iter, ifs, 0⟩] scope pos) (mLc (own.map (·.2)) fi g ft fe) := by
  obtain ⟨fs, _, wi, hpi, hri⟩ := hi
  obtain ⟨⟨gt, hpg, hrg⟩, _⟩ := hg
  obtain ⟨tt, hpt, hrt⟩ := ht
  obtain ⟨_, te, hpe, hre⟩ := he
  exact ⟨fun _ _ => rfl, tLc wi gt tt te (own.map (·.2)), fun X hX => pe_lc (hX.calm hL) (by rw [hX.N]; exact hX.nd) ((hpi X hX).1 hL) (by rw [hX.N, hX.sc]; exact ok) (fun s H C cl fp => hpg _ (has_blk hL hX s H C cl fp)) (fun s H C cl fp => hpt _ (has_blk hL hX s H C cl fp)) (fun s H C cl fp => hpe _ (has_blk hL hX s H C cl fp)) (fs _), reads_lc (elt := elt) (tg := tg) (iter := iter) (scope := scope) hri hvs hrg hrt hre⟩
end
end FF
end
section
set_option Elab.async false
set_option linter.all false
set_option maxRecDepth 100000
set_option maxHeartbeats 2000000
/-! FFAll: all(generator expression), isinstance, bit_length, list + list. -/
namespace FF
open PySem PySem.Spec PyProof.Rows L2 RZ

/-- a generator expression's context over a def's -/
def Kl.gen (L : Kl) (scope : Scope) (k : Nat) : Kl := { L with k := k, sc := scope, cd := none, Wx := fun _ _ _ _ => False, fnl := fun x => scope.names.lookup x == some .cell, dfn := false }
theorem has_gen {L : Kl} {X : Cx} {scope : Scope} {k : Nat} (hL : L.hot = false) (h : L.Has X) (A : Around) (s : Shared) (H : Hp) (C : Addr) (cl : List (Str × Addr)) (code : Value) (bi : Addr) (fp : List Addr) (pn : List (Addr × Obj)) (hr : Room k A) :
    (L.gen scope k).Has (gcx X A s H scope (genEnv scope cl C code bi X.env) fp pn) where
  P := h.P
  w := h.w
  K := h.K
  mg := h.mg
  base := h.base
  N := h.N
  sc := rfl
  nd := h.nd
  calm := h.calm
  room := fun _ => hr
  hotc := fun z => by rw [show (L.gen scope k).hot = L.hot from rfl, hL] at z; cases z
  un := by have := hr.un; show A.units + 65 < _; omega
  code := fun c z => by cases z
  own := PassesOwn.never
  tk := takesF
  fn := fun _ e => e
  frm := fun z => by cases z
def allD (g : AsD) (fe : M D) : List D → Env' → Option (Bool × Env')
  | [], δ => some (true, δ)
  | d :: ds, δ => (g d δ).bind fun δ1 => match fe δ1 with
    | some (.ok (.bool true), δ2) => allD g fe ds δ2
    | some (.ok (.bool false), δ2) => some (false, δ2)
    | _ => none
def mAll (vs : List Nat) (fi : M (List D)) (g : AsD) (fe : M D) : M D := mBind fi fun ds δ => (allD g fe ds (wipeD δ vs)).map fun p => (.ok (.bool p.1), wipeD p.2 vs)
section
variable {L : Kl} {pos : Pos} {a b : Expr} {fa fb : M D}
theorem gr_tabbed {P : Addr} {H H' : Hp} (t : GxR.TabG H P) (h : GxR.Tabbed P H H') : Gr [] H H' := fun b o _ e => by
  by_cases hb : b = P
  · subst hb
    obtain ⟨⟨qs, e2, t2⟩, _⟩ := h
    obtain ⟨ps, e1, _⟩ := t
    rw [e1] at e
    cases e
    exact ⟨qs, e2, fun _ => t2⟩
  · exact Kp.of (h.2 b hb) e
theorem xd_all {c P : Addr} {elt tg iter : Expr} {p gpos : Pos} {scope : Scope} {own : List (Str × Nat)} {is : List Nat} {fi : M (List D)} {g : AsD} {fe : M D} {k : Nat} (hL : L.hot = false) (hk : L.k = k + 1) (hg : L.sc.names.lookup ("all" : Str) = some NameKind.globalImplicit) (hm : L.mg "all" = none)
    (hb : bootBuiltins "all" = some (.builtin "all")) (TB : GxR.TabB L.base L.mg c P) (hcd : L.cd = some c) (hP : P ∈ L.T) (S : GSc L.N L.sc scope own) (hi : XI L tg iter fi) (hvs : ∀ i ∈ is, i ∈ own.map (·.2)) (hgt : XG (L.gen scope k) tg is g) (he : XD (L.gen scope k) elt fe) :
    XD L (.Call (.Name "all" p) [.GeneratorExp elt [⟨tg, iter, [], 0⟩] scope gpos] [] pos) (mAll (own.map (·.2)) fi g fe) := by
  obtain ⟨_, gf, wi, hpi, hri⟩ := hi
  obtain ⟨⟨gt, hpg, hrg⟩, _⟩ := hgt
  obtain ⟨_, te, hpe, hre⟩ := he
  refine ⟨fun _ _ => rfl, tAllG P wi gt te (own.map (·.2)), fun X hX => ?_, fun Z W δ σ H r δ' s e => ?_⟩
  · exact pe_allG (hX.calm hL) (by rw [hX.N]; exact hX.nd) (by rw [← hk]; exact hX.room hL) (by show X.env.scope.names.lookup ("all" : Str) = _; rw [hX.sc]; exact hg) (by rw [hX.mg]; exact hm) hb (by rw [hX.base, hX.mg]; exact TB) (hX.code c hcd) (by rw [hX.N, hX.sc]; exact S) ((hpi X hX).1 hL)
      (fun A s H C cl code bi fp pn hr => hpg _ (has_gen hL hX A s H C cl code bi fp pn hr)) (fun A s H C cl code bi fp pn hr => hpe _ (has_gen hL hX A s H C cl code bi fp pn hr)) (gf _)
  · refine R_seq (κ := V) (τa := wi σ H) (fun r1 δ1 e1 => hri Z W δ σ H r1 δ1 s e1) e fun ds δ1 J W1 H1 s1 st1 hJ e1 => ?_
    obtain ⟨⟨b, δe⟩, e2, e3⟩ := Option.map_eq_some_iff.mp e1
    cases e3
    intro Q q
    refine ⟨s1.tabs P hP, ds.length, fun i σ' H' => ∃ W' δ', Sg L Z W' δ' σ' H' ∧ L2.wipe σ' (own.map (·.2)) = L2.wipe σ (own.map (·.2)) ∧ Step W1 H1 W' H' ∧ allD g fe (ds.drop i) δ' = some (b, δe), fun H2 tb => ?_, fun i σ' H' hi hw => ?_⟩
    · have gr := gr_tabbed (s1.tabs P hP) tb
      exact ⟨W1, wipeD δ1 (own.map (·.2)), (s1.gr gr).wipe _, wipe_idem _ _, Step.of_gr gr, by rw [List.drop_zero]; exact e2⟩
    · obtain ⟨W', δ', s2, hw2, st2, ht⟩ := hw
      obtain ⟨go, stop, yld⟩ := hJ W' H' st2 s2.all
      have fin : ∀ {W3 δ3 σ3 H3} {b3 : Bool}, Sg L Z W3 δ3 σ3 H3 → L2.wipe σ3 (own.map (·.2)) = L2.wipe σ (own.map (·.2)) → Step W1 H1 W3 H3 → b3 = b → δ3 = δe → Q (.bl b3) H3 := fun {W3 δ3 σ3 H3 b3} s3 w3 st3 hb he => by
        subst hb he
        exact q _ W3 H3 (s3.unwipe w3) st3 (.bl _)
      by_cases hlt : i < ds.length
      · refine .inr ⟨hlt, go i hlt, fun x H'' y => ?_⟩
        obtain ⟨gr, d, hd, hx⟩ := yld i x H'' hlt y
        have hdrop : ds.drop i = d :: ds.drop (i + 1) := by
          rw [List.getElem?_eq_some_iff] at hd
          obtain ⟨_, e⟩ := hd
          rw [List.drop_eq_getElem_cons hlt, e]
        rw [hdrop] at ht
        obtain ⟨δa, ea, eb⟩ := Option.bind_eq_some_iff.mp ht
        have s3 := s2.gr gr
        refine hrg Z W' δ' σ' H'' x d δa (s3.to rfl rfl) hx ea _ fun σ2 s4 w2 => ?_
        split at eb
        · rename_i δ2 e4
          refine hre Z W' δa σ2 H'' _ _ s4 e4 _ fun v W5 H5 s5 st5 hv => ?_
          cases hv
          refine ⟨true, rfl, ?_⟩
          rw [if_pos rfl]
          exact ⟨W5, δ2, s5.to rfl rfl, (w2 _ hvs).trans hw2, (st2.trans (Step.of_gr gr)).trans st5, eb⟩
        · rename_i δ2 e4
          cases eb
          refine hre Z W' δa σ2 H'' _ _ s4 e4 _ fun v W5 H5 s5 st5 hv => ?_
          cases hv
          refine ⟨false, rfl, ?_⟩
          rw [if_neg Bool.false_ne_true]
          exact fin (s5.to rfl rfl) ((w2 _ hvs).trans hw2) ((st2.trans (Step.of_gr gr)).trans st5) rfl rfl
        · cases eb
      · have hie : i = ds.length := by omega
        subst hie
        rw [List.drop_length] at ht
        cases ht
        exact .inl ⟨stop, fin s2 hw2 st2 rfl rfl⟩

/-! ### isinstance with a class of the language -/
def tyName : D → Option String
  | .none => some "NoneType"
  | .bool _ => some "bool"
  | .int _ => some "int"
  | .str _ => some "str"
  | .list _ => some "list"
  | .tuple _ => some "tuple"
  | .dict _ => none
end
end FF
end
section
set_option Elab.async false
set_option linter.all false
set_option maxRecDepth 100000
set_option maxHeartbeats 2000000
/-! FFMore: isinstance, bit_length, new lists: list + list, list(..). -/
namespace FF
open PySem PySem.Spec PyProof.Rows L2 RZ

section
variable {L : Kl} {pos : Pos} {a b : Expr} {fa fb : M D}
/-- a new list is a list that nobody else knows -/
theorem R_newl {Z : Amb} {W : List Addr} {δ : Env'} {σ : L2.St} {H : Hp} {vs : List V} {ds : List D} {τ : (V → Hp → Prop) → Prop} (s : Sg L Z W δ σ H) (hv : DvAll L.K (msk W H) vs ds) (h : ∀ Q : V → Hp → Prop, (∀ p, H p = none → Q (.ref p) (upd H p (.lst vs))) → τ Q) : R L Z (RelF L Z δ σ) W δ σ H (.ok ds) τ :=
  fun Q q => h Q fun p hp => q _ (p :: W) _ (s.newOwn hp) (step_new hp) ⟨p, vs, rfl, List.mem_cons_self, s.h0_new hp, s.f_new hp, upd_same, hv.step (step_new hp), s.unowned_new hp⟩
def rCatR (K : PySem.W.Frag) : R2 := fun x y H Q => ∃ l b xs zs, x = .ref l ∧ y = .ref b ∧ SqL K H l xs ∧ SqL K H b zs ∧ xs.length + zs.length ≤ sizeLine ∧ ∀ p, H p = none → Q (.ref p) (upd H p (.lst (xs ++ zs)))
theorem op_catR {X : Cx} : OpR X (binaryOp .Add) (rCatR X.K) := by
  intro pins s σ H x y v u Q I rx ry h
  obtain ⟨l, b, xs, zs, rfl, rfl, hH, hB, hz, q⟩ := h
  cases rx
  cases ry
  obtain ⟨its, r, pl, _⟩ := I.list hH
  obtain ⟨its2, r2, pl2, _⟩ := I.list hB
  have hl := r.length
  have hl2 := r2.length
  obtain ⟨⟨cls, dd, data, sl⟩, ho, hc, n, hd⟩ := pl.isList
  obtain ⟨⟨cls2, dd2, data2, sl2⟩, ho2, hc2, n2, hd2⟩ := pl2.isList
  simp only at hc hd hc2 hd2
  subst hc hd hc2 hd2
  refine concat_meets ⟨_, ho, rfl⟩ ⟨_, ho2, rfl⟩ noFill_list_add seq_list_add PySem.F.slot_list_add PySem.F.entry_list_add (PySem.F.args_list_add_2 _ _) (list_addW l b its.toArray its2.toArray n n2 dd dd2 sl sl2 (by rw [List.size_toArray, List.size_toArray]; omega)) ⟨ho, ho2, ?_⟩
  have ea : its.toArray ++ its2.toArray = (its ++ its2).toArray := by simp
  rw [ea]
  exact ⟨.ref _, _, I.lnew (t' := s.toks) (r.append r2) (by rw [List.length_append]; omega), rfl, q _ I.fresh⟩
def gCatL : D → D → Option (List D)
  | .list xs, .list ys => if xs.length + ys.length ≤ 1000000 then some (xs ++ ys) else none
  | _, _ => none
def mOp2L (g : D → D → Option (List D)) (fa fb : M D) : M (List D) := mBind fa fun a => mBind fb fun b => mOpt (g a b)
/-- list + list -/
theorem xf_catL (ha : XD L a fa) (hb : XD L b fb) : XF L (.BinOp a .Add b pos) (mOp2L gCatL fa fb) := by
  obtain ⟨_, ta, hp, hr⟩ := ha
  obtain ⟨_, tb, hp2, hr2⟩ := hb
  refine ⟨fun _ _ => rfl, tOp (rCatR L.K) ta tb, fun X hX => pe_op (hX.K ▸ op_catR) (hp X hX) (hp2 X hX), fun Z W δ σ H res δ' s e => ?_⟩
  refine R_seq (κ := V) (τa := ta σ H) (τ := fun x H1 Q => tb σ H1 fun y H2 => rCatR L.K x y H2 Q) (fun r1 δ1 e1 => hr Z W δ σ H r1 δ1 s e1) e fun a δ1 x W1 H1 s1 st1 hx e1 => ?_
  refine R_seq (κ := V) (τa := tb σ H1) (τ := fun y H2 Q => rCatR L.K x y H2 Q) (fun r1 δ2 e2 => hr2 Z W1 δ1 σ H1 r1 δ2 s1 e2) e1 fun b δ2 y W2 H2 s2 st2 hy e2 => ?_
  obtain ⟨d, hd, rfl, rfl⟩ := mOpt_inv e2
  unfold gCatL at hd
  split at hd
  · split at hd
    · rename_i hz
      cases hd
      have hx := hx.step st2
      cases hx with
      | lst h1 h2 =>
        cases hy with
        | lst h3 h4 =>
          have l1 := h2.length
          have l2 := h4.length
          exact R_newl s2 (h2.append h4) fun Q q => ⟨_, _, _, _, rfl, rfl, sql_full h1, sql_full h3, line_of (by omega), q⟩
    · cases hd
  · cases hd
def gListOf : List D → Option (List D)
  | [.list xs] => some xs
  | [.tuple xs] => some xs
  | _ => none
def mCL (g : List D → Option (List D)) (f : M (List D)) : M (List D) := mBind f fun ds => mOpt (g ds)
/-- list(a list or a tuple) -/
theorem xf_listOf {p : Pos} (hg : L.sc.names.lookup ("list" : Str) = some NameKind.globalImplicit) (hm : L.mg "list" = none) (hv : bootBuiltins "list" = some (.type "list")) (ha : XD L a fa) : XF L (.Call (.Name "list" p) [a] [] pos) (mCL gListOf (mCons fa mNil)) := by
  obtain ⟨ta, hp, hr⟩ := (xl_cons ha xl_nil).ex
  refine ⟨fun _ _ => rfl, tCB (fun xs H Q => ∃ p ys, xs = [.ref p] ∧ (SqL L.K H p ys ∨ SqT L.K H p ys) ∧ ∀ l, H l = none → Q (.ref l) (upd H l (.lst ys))) ta, fun X hX => ?_, fun Z W δ σ H r δ' s e => ?_⟩
  · exact pe_callTy (hX.K ▸ call_list_of) (by show X.env.scope.names.lookup ("list" : Str) = _; rw [hX.sc]; exact hg) (by rw [hX.mg]; exact hm) hv (hp X hX) (by decide) (by decide) (ha.pl [] _) one_arg
  · refine R_seq (κ := V) (τa := ta σ H) (τ := fun xs H Q => ∃ p ys, xs = [.ref p] ∧ (SqL L.K H p ys ∨ SqT L.K H p ys) ∧ ∀ l, H l = none → Q (.ref l) (upd H l (.lst ys))) (fun r1 δ1 e1 => hr Z W δ σ H r1 δ1 s e1) e fun ds δ1 vs W1 H1 s1 st1 hx e1 => ?_
    obtain ⟨d, hd, rfl, rfl⟩ := mOpt_inv e1
    unfold gListOf at hd
    split at hd
    · cases hd
      cases hx with
      | cons h1 h2 =>
        cases h2
        cases h1 with
        | lst h3 h4 => exact R_newl s1 h4 fun Q q => ⟨_, _, rfl, .inl (sql_full h3), q⟩
    · cases hd
      cases hx with
      | cons h1 h2 =>
        cases h2
        cases h1 with
        | tup h3 h4 => exact R_newl s1 h4 fun Q q => ⟨_, _, rfl, .inr (sqt_full h3), q⟩
    · cases hd

/-! ### isinstance with a class of the language -/
theorem tyx_of {K : PySem.W.Frag} {W : List Addr} {H : Hp} {v : V} {d : D} {n : String} (h : Dv K (msk W H) v d) (e : tyName d = some n) : TyX K H v (.type n) := by
  cases h with
  | non => cases e; exact .base .non
  | bl b => cases e; exact .base (.bl b)
  | int i => cases e; exact .base (.int i)
  | str x => cases e; exact .base (.str x)
  | lst h1 _ =>
    cases e
    rcases sql_full h1 with h | ⟨o, its, n, h, hc, _⟩
    · rcases h with h | ⟨o, h⟩
      · exact .base (.lst h)
      · exact .base (.frz h)
    · exact .kList h hc
  | tup h1 _ =>
    cases e
    rcases sqt_full h1 with h | ⟨o, its, n, h, hc, _⟩
    · rcases h with h | ⟨o, h⟩
      · exact .base (.tup h)
      · exact .fTuple h
    · exact .kTuple h hc
def gIsi (T : String) (d : D) : Option D := (tyName d).bind fun n => (kitB n T).map .bool
def mIsi (T : String) (f : M D) : M D := mBind f fun d => mOpt (gIsi T d)
theorem xd_isi {T : String} {x : Str} {p p2 : Pos} (hg : L.sc.names.lookup ("isinstance" : Str) = some NameKind.globalImplicit) (hm : L.mg "isinstance" = none) (hv : bootBuiltins "isinstance" = some (.builtin "isinstance")) (hg2 : L.sc.names.lookup x = some NameKind.globalImplicit) (hm2 : L.mg x = none) (hv2 : bootBuiltins x = some (.type T)) (ha : XD L a fa)
    (hn : x ≠ ("__name__" : Str) := by decide) (hdb : (x == ("__debug__" : Str)) = false := by decide) : XD L (.Call (.Name "isinstance" p) [a, .Name x p2] [] pos) (mIsi T fa) := by
  obtain ⟨pl, ta, hp, hr⟩ := ha
  refine ⟨fun _ _ => rfl, tCB (rIsi L.K) (tCons ta (tCons (tC (.ty T)) tNil)), fun X hX => ?_, fun Z W δ σ H r δ' s e => ?_⟩
  · have gl : ∀ {y : Str}, L.sc.names.lookup y = some NameKind.globalImplicit → Gl X y := fun h => by show X.env.scope.names.lookup _ = _; rw [hX.sc]; exact h
    refine pe_callB (hX.K ▸ call_isi) (gl hg) (by rw [hX.mg]; exact hm) hv (pa_cons (hp X hX) (pa_cons (pe_bltn (gl hg2) (by rw [hX.mg]; exact hm2) hv2 rfl hn hdb) pa_nil) (pl _ _)) (by decide) (by decide) (pl _ _) rfl
  · refine R_seq (κ := V) (τa := ta σ H) (τ := fun x H1 Q => rIsi L.K [x, .ty T] H1 Q) (fun r1 δ1 e1 => hr Z W δ σ H r1 δ1 s e1) e fun d δ1 x W1 H1 s1 st1 hx e1 => ?_
    obtain ⟨d2, hd, rfl, rfl⟩ := mOpt_inv e1
    obtain ⟨n, hn, hk⟩ := Option.bind_eq_some_iff.mp hd
    obtain ⟨k, hk2, rfl⟩ := Option.map_eq_some_iff.mp hk
    exact R_gr s1 fun Q q => ⟨x, .ty T, .type n, .type T, k, rfl, .ty T, tyx_of hx hn, kit_ty hk2, q _ H1 (Gr.refl _ _) (.bl _)⟩
def gBits : D → Option D
  | .int i => some (.int (Builtin.Int.intBits i : Nat))
  | _ => none
def mBits (f : M D) : M D := mBind f fun d => mOpt (gBits d)
theorem xd_bits {apos : Pos} (ha : XD L a fa) (hbase : ∀ env, attributeBase a "bit_length" env (eval a env) = eval a env := by intros; rfl) (hline : (apos.endLine == pos.line) = true := by rfl) : XD L (.Call (.Attribute a "bit_length" apos) [] [] pos) (mBits fa) := by
  obtain ⟨pl, ta, hp, hr⟩ := ha
  refine ⟨fun _ _ => rfl, tBits ta, fun X hX => pe_bits (hp X hX) (hbase _) hline, fun Z W δ σ H r δ' s e => ?_⟩
  refine R_seq (κ := V) (τa := ta σ H) (τ := fun x H1 Q => ∃ i, x = .int i ∧ Q (.int (Builtin.Int.intBits i : Nat)) H1) (fun r1 δ1 e1 => hr Z W δ σ H r1 δ1 s e1) e fun d δ1 x W1 H1 s1 st1 hx e1 => ?_
  obtain ⟨d2, hd, rfl, rfl⟩ := mOpt_inv e1
  unfold gBits at hd
  split at hd
  · cases hd
    cases hx
    exact R_gr s1 fun Q q => ⟨_, rfl, q _ H1 (Gr.refl _ _) (.int _)⟩
  · cases hd
end
end FF
end
section
set_option Elab.async false
set_option linter.all false
set_option maxRecDepth 100000
set_option maxHeartbeats 2000000
/-! FFStmt: statements over plain data. -/
namespace FF
open PySem PySem.Spec PyProof.Rows L2 RZ

inductive Out where
  | nx
  | rt (d : D)
  | bk
  | ct
  | er (c : String)
abbrev SM := Env' → Option (Out × Env')
def Post (L : Kl) (Z : Amb) (W : List Addr) (H : Hp) (δ' : Env') (o : Out) (E : Ends) : Prop :=
  match o with
  | .nx => ∀ W' σ' H', Sg L Z W' δ' σ' H' → Step W H W' H' → E.nx σ' H'
  | .bk => ∀ W' σ' H', Sg L Z W' δ' σ' H' → Step W H W' H' → E.bk σ' H'
  | .ct => ∀ W' σ' H', Sg L Z W' δ' σ' H' → Step W H W' H' → E.ct σ' H'
  | .rt d => ∀ v W' σ' H', Sg L Z W' δ' σ' H' → Step W H W' H' → Dv L.K (msk W' H') v d → E.rt v H'
  | .er c => ∀ W' σ' H', Sg L Z W' δ' σ' H' → Step W H W' H' → L.Wx (L.cls c) none σ' H'
theorem Post.step {L : Kl} {Z : Amb} {W W1 : List Addr} {H H1 : Hp} {δ' : Env'} {o : Out} {E : Ends} (st : Step W H W1 H1) (p : Post L Z W H δ' o E) : Post L Z W1 H1 δ' o E := by
  cases o with
  | nx => exact fun W' σ' H' s t => p W' σ' H' s (st.trans t)
  | bk => exact fun W' σ' H' s t => p W' σ' H' s (st.trans t)
  | ct => exact fun W' σ' H' s t => p W' σ' H' s (st.trans t)
  | rt d => exact fun v W' σ' H' s t h => p v W' σ' H' s (st.trans t) h
  | er c => exact fun W' σ' H' s t => p W' σ' H' s (st.trans t)
def ReadsS (L : Kl) (ts : TS) (f : SM) : Prop := ∀ Z W δ σ H o δ' E, Sg L Z W δ σ H → f δ = some (o, δ') → Post L Z W H δ' o E → ts E σ H
structure XS (L : Kl) (st : Stmt) (f : SM) : Prop where
  ex : ∃ ts, (∀ X, L.Has X → PS X st ts) ∧ ReadsS L ts f
structure XSs (L : Kl) (st : List Stmt) (f : SM) : Prop where
  ex : ∃ ts, (∀ X, L.Has X → PSs X st ts) ∧ ReadsS L ts f
def sNil : SM := fun δ => some (.nx, δ)
def sSeq (f g : SM) : SM := fun δ => match f δ with
  | some (.nx, δ1) => g δ1
  | r => r
section
variable {L : Kl} {pos : Pos} {st : Stmt} {rest : List Stmt} {f g : SM} {e : Expr} {fe : M D} {fl : M (List D)}
theorem xss_nil : XSs L [] sNil := ⟨⟨_, fun _ _ => pss_nil, fun Z W δ σ H o δ' E s h p => by
  cases h
  exact p W σ H s (Step.refl _ _)⟩⟩
theorem xss_cons (h1 : XS L st f) (h2 : XSs L rest g) : XSs L (st :: rest) (sSeq f g) := by
  obtain ⟨t, hp, hr⟩ := h1
  obtain ⟨u, hp2, hr2⟩ := h2
  refine ⟨⟨tSeq t u, fun X hX => pss_cons (hp X hX) (hp2 X hX), fun Z W δ σ H o δ' E s h p => ?_⟩⟩
  unfold sSeq at h
  cases e1 : f δ with
  | none => rw [e1] at h; cases h
  | some q =>
    obtain ⟨o1, δ1⟩ := q
    rw [e1] at h
    cases o1 with
    | nx => exact hr Z W δ σ H .nx δ1 _ s e1 fun W' σ' H' s' t => hr2 Z W' δ1 σ' H' o δ' E s' h (p.step t)
    | _ =>
      cases h
      exact hr Z W δ σ H _ δ' _ s e1 p
/-! ### return, raise, expressions -/
def sRet (f : M D) : SM := fun δ => match f δ with
  | some (.ok d, δ1) => some (.rt d, δ1)
  | some (.er c, δ1) => some (.er c, δ1)
  | none => none
theorem xs_ret (h : XD L e fe) : XS L (.Return (some e) pos) (sRet fe) := by
  obtain ⟨_, te, hp, hr⟩ := h
  refine ⟨⟨_, fun X hX => ps_ret (hp X hX), fun Z W δ σ H o δ' E s h p => ?_⟩⟩
  unfold sRet at h
  split at h
  · rename_i d δ1 e1
    cases h
    exact hr Z W δ σ H _ _ s e1 _ fun v W' H' s' t hv => p v W' σ H' s' t hv
  · rename_i c δ1 e1
    cases h
    exact hr Z W δ σ H _ _ s e1 _ fun W' H' s' t => p W' σ H' s' t
  · cases h
def sRetN : SM := fun δ => some (.rt .none, δ)
theorem xs_retN : XS L (.Return none pos) sRetN := ⟨⟨_, fun _ _ => ps_retN, fun Z W δ σ H o δ' E s h p => by
  cases h
  exact p .non W σ H s (Step.refl _ _) .non⟩⟩
def sDrop (f : M D) : SM := fun δ => match f δ with
  | some (.ok _, δ1) => some (.nx, δ1)
  | some (.er c, δ1) => some (.er c, δ1)
  | none => none
theorem xs_expr (h : XD L e fe) (hs : ∀ env, swapsWith e none pos.line env = pure false := by intros; rfl) : XS L (.Expr e pos) (sDrop fe) := by
  obtain ⟨_, te, hp, hr⟩ := h
  refine ⟨⟨_, fun X hX => ps_expr (hp X hX) (hs _), fun Z W δ σ H o δ' E s h p => ?_⟩⟩
  unfold sDrop at h
  split at h
  · rename_i d δ1 e1
    cases h
    exact hr Z W δ σ H _ _ s e1 _ fun v W' H' s' t hv => p W' σ H' s' t
  · rename_i c δ1 e1
    cases h
    exact hr Z W δ σ H _ _ s e1 _ fun W' H' s' t => p W' σ H' s' t
  · cases h
theorem xs_pass : XS L (.Pass pos) sNil := ⟨⟨_, fun _ _ => ps_pass, fun Z W δ σ H o δ' E s h p => by
  cases h
  exact p W σ H s (Step.refl _ _)⟩⟩
def sBk : SM := fun δ => some (.bk, δ)
def sCt : SM := fun δ => some (.ct, δ)
theorem xs_break : XS L (.Break pos) sBk := ⟨⟨_, fun _ _ => ps_break, fun Z W δ σ H o δ' E s h p => by
  cases h
  exact p W σ H s (Step.refl _ _)⟩⟩
theorem xs_continue : XS L (.Continue pos) sCt := ⟨⟨_, fun _ _ => ps_continue, fun Z W δ σ H o δ' E s h p => by
  cases h
  exact p W σ H s (Step.refl _ _)⟩⟩
/-- an own exception class that a text is given to -/
def ExcCP (K : PySem.W.Frag) (mg : Str → Option Value) (cls : String → Value) (x : Str) (c : String) : Prop := ∃ (C : Addr) (B newId initId : String) (bmB : List Value), ExcBaseFacts B newId initId bmB ∧ PySem.W.excIn K C bmB newId = true ∧ mg x = some (.ref C) ∧ PySem.W.keepIn K (.ref C) = true ∧ PySem.W.subIn K (.ref C) (.type "BaseException") = some true ∧ PySem.W.typeIn K (.ref C) = some (.type "type") ∧ cls c = .ref C
structure ExcC (L : Kl) (x : Str) (c : String) : Prop where
  ex : ∃ (C : Addr) (B newId initId : String) (bmB : List Value), ExcBaseFacts B newId initId bmB ∧ PySem.W.excIn L.K C bmB newId = true ∧ L.mg x = some (.ref C) ∧ PySem.W.keepIn L.K (.ref C) = true ∧ PySem.W.subIn L.K (.ref C) (.type "BaseException") = some true ∧ PySem.W.typeIn L.K (.ref C) = some (.type "type") ∧ L.cls c = .ref C
def sRaise (c : String) : SM := fun δ => some (.er c, δ)
theorem xs_raise {x m : Str} {j : Nat} {p p2 q : Pos} {c : String} (hL : L.hot = false) (h : ExcC L x c) (hg : L.sc.names.lookup x = some NameKind.globalImplicit) (hdb : (x == ("__debug__" : Str)) = false := by decide) : XS L (.Raise (some (.Call (.Name x p) [.Constant (.str m) j p2] [] q)) none pos) (sRaise c) := by
  obtain ⟨C, B, newId, initId, bmB, F, h1, h2, h3, h4, h5, h6⟩ := h
  refine ⟨⟨fun _ σ H => L.Wx (.ref C) none σ H, fun X hX => ?_, fun Z W δ σ H o δ' E s h p => ?_⟩⟩
  · have hK := hX.K
    exact L2N.ps_raise (hX.calm hL) hX.tk (L2N.pmk_own F (by rw [hK]; exact h1) (by rw [hX.mg]; exact h2) (by rw [hK]; exact h3) (raises_own (by rw [hK]; exact h4) (by rw [hK]; exact h5)) (by show X.env.scope.names.lookup x = _; rw [hX.sc]; exact hg) hdb)
  · cases h
    rw [← h6]
    exact p W σ H s (Step.refl _ _)
/-- a statement that is not come to -/
def sNo : SM := fun _ => none
theorem xs_never : XS L st sNo := ⟨⟨tNever, fun _ _ => ps_never, fun Z W δ σ H o δ' E s h p => by cases h⟩⟩

theorem xss_never {sts : List Stmt} : XSs L sts sNo := ⟨⟨tNever, fun _ _ => pss_never, fun Z W δ σ H o δ' E s h p => by cases h⟩⟩
/-! ### stores -/
def sSetV (i : Nat) (f : M D) : SM := fun δ => match f δ with
  | some (.ok d, δ1) => some (.nx, δ1.set i (.v d))
  | some (.er c, δ1) => some (.er c, δ1)
  | none => none
def sSetL (i : Nat) (f : M (List D)) : SM := fun δ => match f δ with
  | some (.ok xs, δ1) => some (.nx, δ1.set i (.l false xs))
  | some (.er c, δ1) => some (.er c, δ1)
  | none => none
def Sto (L : Kl) (x : Str) : Prop := Loc L.sc x ∧ (L.fnl x = true ∨ L.sc.names.lookup x = some .local)
theorem xs_setV (i : Nat) {x : Str} {p : Pos} (hN : L.N[i]? = some x) (hx : Sto L x) (h : XD L e fe) (hs : ∀ env, swapsWith e (some (.Name x p)) pos.line env = pure false := by intros; rfl) : XS L (.Assign [.Name x p] e pos) (sSetV i fe) := by
  obtain ⟨_, te, hp, hr⟩ := h
  refine ⟨⟨_, fun X hX => ps_set (i := i) (by rw [hX.N]; exact hX.nd) (by rw [hX.N]; exact hN) (by rw [hX.sc]; exact hx.1) (hp X hX) (hs _) (by rw [hX.sc]; exact hx.2.imp (hX.fn x) id), fun Z W δ σ H o δ' E s h p => ?_⟩⟩
  unfold sSetV at h
  split at h
  · rename_i d δ1 e1
    cases h
    exact hr Z W δ σ H _ _ s e1 _ fun v W' H' s' t hv => p W' _ H' (s'.set hv) t
  · rename_i c δ1 e1
    cases h
    exact hr Z W δ σ H _ _ s e1 _ fun W' H' s' t => p W' σ H' s' t
  · cases h
theorem post_setL {te : TE} {i : Nat} (hr : ReadsF L te fl) : ReadsS L (tAsg te (gName i)) (sSetL i fl) := fun Z W δ σ H o δ' E s h p => by
  unfold sSetL at h
  split at h
  · rename_i d δ1 e1
    cases h
    refine hr Z W δ σ H _ _ s e1 _ fun v W' H' s' t hv => ?_
    obtain ⟨a, vs, rfl, hw, h0, nF, hH, hd, un⟩ := hv
    exact p W' _ H' (s'.setOwn hw nF un ⟨a, vs, rfl, ⟨hw, by rw [if_neg Bool.false_ne_true]; exact h0⟩, hH, hd⟩) t
  · rename_i c δ1 e1
    cases h
    exact hr Z W δ σ H _ _ s e1 _ fun W' H' s' t => p W' σ H' s' t
  · cases h
theorem xs_setL (i : Nat) {x : Str} {p : Pos} (hN : L.N[i]? = some x) (hx : Sto L x) (h : XF L e fl) (hs : ∀ env : Env, env.scope = L.sc → swapsWith e (some (.Name x p)) pos.line env = pure false := by intros; rfl) : XS L (.Assign [.Name x p] e pos) (sSetL i fl) := by
  obtain ⟨_, te, hp, hr⟩ := h
  exact ⟨⟨_, fun X hX => ps_set (i := i) (by rw [hX.N]; exact hX.nd) (by rw [hX.N]; exact hN) (by rw [hX.sc]; exact hx.1) (hp X hX) (hs _ hX.sc) (by rw [hX.sc]; exact hx.2.imp (hX.fn x) id), post_setL hr⟩⟩
/-- x = [.. for ..], stored as the block ends -/
theorem xs_setLc (i : Nat) {x : Str} {py : Pos} {elt tg iter : Expr} {ifs : List Expr} {scope : Scope} {own : List (Str × Nat)} {is : List Nat} {lpos : Pos} {fi : M (List D)} {g : AsD} {ft : M Bool} {fe : M D} (hN : L.N[i]? = some x) (hx : L.sc.names.lookup x = some .local)
    (hsw : ∀ env : Env, env.scope = L.sc → swapsWith (.ListComp elt [⟨tg, iter, ifs, 0⟩] scope lpos) (some (.Name x py)) pos.line env = pure true) (hL : L.hot = false) (hi : XI L tg iter fi) (ok : BlkOk L.N L.sc scope own) (hvs : ∀ i ∈ is, i ∈ own.map (·.2))
    (hg : XG (L.blk scope) tg is g) (ht : XIfs (L.blk scope) ifs ft) (he : XD (L.blk scope) elt fe) : XS L (.Assign [.Name x py] (.ListComp elt [⟨tg, iter, ifs, 0⟩] scope lpos) pos) (sSetL i (mLc (own.map (·.2)) fi g ft fe)) := by
  obtain ⟨fs, _, wi, hpi, hri⟩ := hi
  obtain ⟨⟨gt, hpg, hrg⟩, _⟩ := hg
  obtain ⟨tt, hpt, hrt⟩ := ht
  obtain ⟨_, te, hpe, hre⟩ := he
  exact ⟨⟨_, fun X hX => ps_setLc (i := i) (hX.calm hL) (by rw [hX.N]; exact hX.nd) (by rw [hX.N]; exact hN) (by rw [hX.sc]; exact hx) (hsw _ hX.sc) ((hpi X hX).1 hL) (by rw [hX.N, hX.sc]; exact ok) (fun s H C cl fp => hpg _ (has_blk hL hX s H C cl fp)) (fun s H C cl fp => hpt _ (has_blk hL hX s H C cl fp)) (fun s H C cl fp => hpe _ (has_blk hL hX s H C cl fp)) (fs _),
    post_setL (reads_lc (elt := elt) (tg := tg) (iter := iter) (scope := scope) hri hvs hrg hrt hre)⟩⟩
/-- a target of any form -/
def sAsg (g : AsD) (f : M D) : SM := fun δ => match f δ with
  | some (.ok d, δ1) => (g d δ1).map fun δ2 => (.nx, δ2)
  | some (.er c, δ1) => some (.er c, δ1)
  | none => none
theorem xs_asg {tg : Expr} {is : List Nat} {ga : AsD} (hg : XG L tg is ga) (h : XD L e fe) (hs : ∀ env, swapsWithSole [tg] e pos.line env = pure false := by intros; rfl) (hw : ∀ env : Env, env.scope = L.sc → swappedStores [tg] e env = pure none := by intros; rfl) : XS L (.Assign [tg] e pos) (sAsg ga fe) := by
  obtain ⟨_, te, hp, hr⟩ := h
  obtain ⟨⟨gt, hpg, hrg⟩, one⟩ := hg
  refine ⟨⟨_, fun X hX => ps_asg (hp X hX) (hpg X hX) (hs _) (hw _ hX.sc) (one _).1, fun Z W δ σ H o δ' E s h p => ?_⟩⟩
  unfold sAsg at h
  split at h
  · rename_i d δ1 e1
    obtain ⟨δ2, e2, e3⟩ := Option.map_eq_some_iff.mp h
    cases e3
    exact hr Z W δ σ H _ _ s e1 _ fun v W' H' s' t hv => hrg Z W' δ1 σ H' v d _ s' hv e2 _ fun σ' s'' _ => p W' σ' H' s'' t
  · rename_i c δ1 e1
    cases h
    exact hr Z W δ σ H _ _ s e1 _ fun W' H' s' t => p W' σ H' s' t
  · cases h
/-- a, b = x, y with plain local names -/
def sPar (i j : Nat) (f : M (List D)) : SM := fun δ => match f δ with
  | some (.ok [d1, d2], δ1) => some (.nx, (δ1.set i (.v d1)).set j (.v d2))
  | some (.er c, δ1) => some (.er c, δ1)
  | _ => none
theorem xs_par (i j : Nat) {x y : Str} {a b : Expr} {px py pt : Pos} {kt k2 pt2} (hL : L.hot = false) (hi : L.N[i]? = some x) (hj : L.N[j]? = some y) (hij : i ≠ j) (hx : L.sc.names.lookup x = some .local) (hy : L.sc.names.lookup y = some .local) (ha : XL L [a, b] fl)
    (hw : ∀ env : Env, env.scope = L.sc → swappedStores [.Tuple [.Name x px, .Name y py] kt pt] (.Tuple [a, b] k2 pt2) env = pure (some [x, y])) (hs : ∀ env, swapsWithSole [.Tuple [.Name x px, .Name y py] kt pt] (.Tuple [a, b] k2 pt2) pos.line env = pure false := by intros; rfl) :
    XS L (.Assign [.Tuple [.Name x px, .Name y py] kt pt] (.Tuple [a, b] k2 pt2) pos) (sPar i j fl) := by
  obtain ⟨ta, hp, hr⟩ := ha
  refine ⟨⟨_, fun X hX => ps_par (i := i) (j := j) (hX.calm hL) (by rw [hX.N]; exact hX.nd) (by rw [hX.N]; exact hi) (by rw [hX.N]; exact hj) hij (by rw [hX.sc]; exact hx) (by rw [hX.sc]; exact hy) (hp X hX) (hw _ hX.sc) (hs _), fun Z W δ σ H o δ' E s h p => ?_⟩⟩
  unfold sPar at h
  split at h
  · rename_i d1 d2 δ1 e1
    cases h
    refine hr Z W δ σ H _ _ s e1 _ fun vs W' H' s' t hv => ?_
    cases hv with
    | cons h1 h2 =>
      cases h2 with
      | cons h3 h4 =>
        cases h4
        exact ⟨_, _, rfl, p W' _ H' ((s'.set h1).set h3) t⟩
  · rename_i c δ1 e1
    cases h
    exact hr Z W δ σ H _ _ s e1 _ fun W' H' s' t => p W' σ H' s' t
  · cases h
/-! ### xs.append(e) -/
def sApp (i : Nat) (f : M D) : SM := fun δ => match δ[i]? with
  | some (.l _ _) => (match f δ with
    | some (.ok d, δ1) => (match δ1[i]? with
      | some (.l io xs) => if xs.length < 1000000 then some (.nx, δ1.set i (.l io (xs ++ [d]))) else none
      | _ => none)
    | some (.er c, δ1) => some (.er c, δ1)
    | none => none)
  | _ => none
theorem few_ok {e : Expr} (pl : Plain e) {cpos : Pos} {env : Env} : ((backTo cpos (starEach [e] env)).all (fun x => !x.1) && (backToKw cpos (keywordEach [] env)).all (fun x => x.1.isSome)
      && decide ([e].length + ([] : List Keyword).length + (if ([] : List Keyword).isEmpty then 0 else 1) < 30)) = true := by
  rw [pl [] env]
  rfl
theorem xs_append (i : Nat) {x : Str} {px apos cpos : Pos} (hN : L.N[i]? = some x) (hv : Vis L.sc x) (h : XD L e fe) (hline : (apos.endLine == cpos.line) = true := by rfl) (hd : (x == ("__debug__" : Str)) = false := by decide) (hcd : (x == ("__classdict__" : Str)) = false := by decide)
    (hs : ∀ env, swapsWith (.Call (.Attribute (.Name x px) "append" apos) [e] [] cpos) none pos.line env = pure false := by intros; rfl) :
    XS L (.Expr (.Call (.Attribute (.Name x px) "append" apos) [e] [] cpos) pos) (sApp i fe) := by
  obtain ⟨pl, te, hp, hr⟩ := h
  refine ⟨⟨tDrop (tBM L.K "list" rAppend (tVar i) (tCons te tNil)), fun X hX => ?_, fun Z W δ σ H o δ' E s h p => ?_⟩⟩
  · have := pe_bm (X := X) (cpos := cpos) (apos := apos) PySem.F.plainAttrs_list PySem.F.slot_list_append PySem.F.type_list_append mt_append (pe_var (pos := px) (by rw [hX.N]; exact hN) (by rw [hX.sc]; exact hv) hd hcd) (pa_cons (hp X hX) pa_nil (pl [] _)) rfl (few_ok pl) hline (pl [] _) rfl
    rw [hX.K] at this
    exact ps_expr this (hs _)
  · unfold sApp at h
    split at h
    · rename_i io0 xs0 h0
      obtain ⟨v0, e0, a, vs0, rfl, ow0, hH0, hx0⟩ := s.slot i _ h0 (fun z => by cases z)
      refine ⟨_, e0, .inl ⟨rfl, _, SqL.of hH0⟩, ?_⟩
      split at h
      · rename_i d δ1 e1
        split at h
        · rename_i io xs h1
          split at h
          · rename_i hz
            cases h
            refine hr Z W δ σ H _ _ s e1 _ fun v W' H' s' t hv => ?_
            obtain ⟨v1, e2, a1, vs1, rfl, ow, hH, hx⟩ := s'.slot i _ h1 (fun z => by cases z)
            rw [e0] at e2
            cases e2
            have hl := hx.length
            refine ⟨a, vs1, v, rfl, rfl, hH, Nat.lt_of_lt_of_le (by omega : vs1.length < 1000000) (by decide), ?_⟩
            refine p W' σ _ (s'.change (e' := .l io (xs ++ [d])) h1 trivial e0 hH (fun _ z => by cases z) ow.1 ?_ ⟨a, vs1 ++ [v], rfl, ow, upd_same, (hx.append (.cons hv .nil)).step (step_upd ow.1)⟩ trivial) (t.trans (step_upd ow.1))
            have := ow.2
            cases io
            · exact .inr (by simpa using this)
            · exact .inl (by simpa using this)
          · cases h
        · cases h
      · rename_i c δ1 e1
        cases h
        exact hr Z W δ σ H _ _ s e1 _ fun W' H' s' t => p W' σ H' s' t
      · cases h
    · cases h
/-! ### if -/
def sIf (t : M Bool) (f g : SM) : SM := fun δ => match t δ with
  | some (.ok true, δ1) => f δ1
  | some (.ok false, δ1) => g δ1
  | some (.er c, δ1) => some (.er c, δ1)
  | none => none
theorem xs_if {c : Expr} {b1 b2 : List Stmt} {fc : M Bool} (hc : XT L c fc) (h1 : XSs L b1 f) (h2 : XSs L b2 g) : XS L (.If c b1 b2 pos) (sIf fc f g) := by
  obtain ⟨tc, hp, hr⟩ := hc
  obtain ⟨t, hp1, hr1⟩ := h1
  obtain ⟨u, hp2, hr2⟩ := h2
  refine ⟨⟨_, fun X hX => ps_if (hp X hX) (hp1 X hX) (hp2 X hX), fun Z W δ σ H o δ' E s h p => ?_⟩⟩
  unfold sIf at h
  split at h
  · rename_i δ1 e1
    refine hr Z W δ σ H _ _ s e1 _ fun b W' H' s' t' hb => ?_
    subst hb
    rw [if_pos rfl]
    exact hr1 Z W' δ1 σ H' o δ' E s' h (p.step t')
  · rename_i δ1 e1
    refine hr Z W δ σ H _ _ s e1 _ fun b W' H' s' t' hb => ?_
    subst hb
    rw [if_neg Bool.false_ne_true]
    exact hr2 Z W' δ1 σ H' o δ' E s' h (p.step t')
  · rename_i c δ1 e1
    cases h
    exact hr Z W δ σ H _ _ s e1 _ fun W' H' s' t => p W' σ H' s' t
  · cases h
/-! ### for -/
def forD (g : AsD) (fb : SM) : List D → SM
  | [], δ => some (.nx, δ)
  | d :: ds, δ => (g d δ).bind fun δ1 => match fb δ1 with
    | some (.nx, δ2) => forD g fb ds δ2
    | some (.ct, δ2) => forD g fb ds δ2
    | some (.bk, δ2) => some (.nx, δ2)
    | some (.rt d, δ2) => some (.rt d, δ2)
    | some (.er c, δ2) => some (.er c, δ2)
    | none => none
def sFor (fi : M (List D)) (g : AsD) (fb : SM) : SM := fun δ => match fi δ with
  | some (.ok ds, δ1) => forD g fb ds δ1
  | some (.er c, δ1) => some (.er c, δ1)
  | none => none
theorem xs_for {tg iter : Expr} {body : List Stmt} {fi : M (List D)} {is : List Nat} {ga : AsD} {fb : SM} (hi : XI L tg iter fi) (hg : XG L tg is ga) (hb : XSs L body fb) : XS L (.For tg iter body [] pos) (sFor fi ga fb) := by
  obtain ⟨fs, _, wi, hpi, hri⟩ := hi
  obtain ⟨⟨gt, hpg, hrg⟩, _⟩ := hg
  obtain ⟨tb, hpb, hrb⟩ := hb
  refine ⟨⟨tFor wi gt tb, fun X hX => ?_, fun Z W δ σ H o δ' E s h p => ?_⟩⟩
  · cases hL : L.hot with
    | false => exact ps_for hX.own (hX.calm hL) ((hpi X hX).1 hL) (hpg X hX) (hpb X hX) (fs _)
    | true => exact L2H.ps_forH hX.own (hX.hotc hL).1 ((hpi X hX).2 hL) (hpg X hX) (hpb X hX) (fs _)
  · unfold sFor at h
    split at h
    · rename_i ds δ1 e1
      refine hri Z W δ σ H _ _ s e1 _ fun J W1 H1 s1 st1 hJ => ?_
      refine ⟨fun i m σ' H' => m = ds.length - i ∧ i ≤ ds.length ∧ ∃ W' δ'', Sg L Z W' δ'' σ' H' ∧ Step W1 H1 W' H' ∧ forD ga fb (ds.drop i) δ'' = some (o, δ'), ⟨_, rfl, Nat.zero_le _, W1, δ1, s1, Step.refl _ _, by rw [List.drop_zero]; exact h⟩, ?_⟩
      rintro i m σ' H' ⟨rfl, hi, W', δ'', s2, st2, hf⟩
      obtain ⟨go, stop, yld⟩ := hJ W' H' st2 s2.all
      by_cases hlt : i < ds.length
      · refine .inr ⟨go i hlt, fun σ' H' => ∃ W' δ'', Sg L Z W' δ'' σ' H' ∧ Step W1 H1 W' H' ∧ forD ga fb (ds.drop (i + 1)) δ'' = some (o, δ'), fun σ' H' h => ⟨ds.length - (i + 1), by omega, rfl, hlt, h⟩, fun x H'' y => ?_⟩
        obtain ⟨gr, d, hd, hx⟩ := yld i x H'' hlt y
        have hdrop : ds.drop i = d :: ds.drop (i + 1) := by
          rw [List.getElem?_eq_some_iff] at hd
          obtain ⟨_, e⟩ := hd
          rw [List.drop_eq_getElem_cons hlt, e]
        rw [hdrop] at hf
        obtain ⟨δa, ea, eb⟩ := Option.bind_eq_some_iff.mp hf
        have stx : Step W1 H1 W' H'' := st2.trans (Step.of_gr gr)
        refine hrg Z W' δ'' σ' H'' x d δa (s2.gr gr) hx ea _ fun σ3 s3 _ => ?_
        split at eb
        · rename_i δ2 e2
          exact hrb Z W' δa σ3 H'' _ _ _ s3 e2 fun W4 σ4 H4 s4 st4 => ⟨W4, δ2, s4, stx.trans st4, eb⟩
        · rename_i δ2 e2
          exact hrb Z W' δa σ3 H'' _ _ _ s3 e2 fun W4 σ4 H4 s4 st4 => ⟨W4, δ2, s4, stx.trans st4, eb⟩
        · rename_i δ2 e2
          cases eb
          exact hrb Z W' δa σ3 H'' _ _ _ s3 e2 fun W4 σ4 H4 s4 st4 => p W4 σ4 H4 s4 ((st1.trans stx).trans st4)
        · rename_i dr δ2 e2
          cases eb
          exact hrb Z W' δa σ3 H'' _ _ _ s3 e2 fun v W4 σ4 H4 s4 st4 hv => p v W4 σ4 H4 s4 ((st1.trans stx).trans st4) hv
        · rename_i c δ2 e2
          cases eb
          exact hrb Z W' δa σ3 H'' _ _ _ s3 e2 fun W4 σ4 H4 s4 st4 => p W4 σ4 H4 s4 ((st1.trans stx).trans st4)
        · cases eb
      · have hie : i = ds.length := by omega
        subst hie
        rw [List.drop_length] at hf
        cases hf
        exact .inl ⟨stop, p W' σ' H' s2 (st1.trans st2)⟩
    · rename_i c δ1 e1
      cases h
      exact hri Z W δ σ H _ _ s e1 _ fun W' H' s' t => p W' σ H' s' t
    · cases h
/-! ### while -/
def whileD (ft : M Bool) (fb : SM) : Nat → SM
  | 0, _ => none
  | k + 1, δ => match ft δ with
    | some (.ok true, δ1) => (match fb δ1 with
      | some (.nx, δ2) => whileD ft fb k δ2
      | some (.ct, δ2) => whileD ft fb k δ2
      | some (.bk, δ2) => some (.nx, δ2)
      | some (.rt d, δ2) => some (.rt d, δ2)
      | some (.er c, δ2) => some (.er c, δ2)
      | none => none)
    | some (.ok false, δ1) => some (.nx, δ1)
    | some (.er c, δ1) => some (.er c, δ1)
    | none => none
theorem xs_while (k : Nat) {c : Expr} {body : List Stmt} {fc : M Bool} {fb : SM} (hc : XT L c fc) (hb : XSs L body fb) : XS L (.While c body [] pos) (whileD fc fb k) := by
  obtain ⟨tc, hpc, hrc⟩ := hc
  obtain ⟨tb, hpb, hrb⟩ := hb
  refine ⟨⟨tWhile tc tb, fun X hX => ps_while hX.own (hpc X hX) (hpb X hX), fun Z W δ σ H o δ' E s h p => ?_⟩⟩
  refine ⟨fun m σ' H' => ∃ W' δ'', Sg L Z W' δ'' σ' H' ∧ Step W H W' H' ∧ whileD fc fb m δ'' = some (o, δ'), ⟨k, W, δ, s, Step.refl _ _, h⟩, ?_⟩
  rintro m σ' H' ⟨W', δ'', s2, st2, hf⟩
  cases m with
  | zero => cases hf
  | succ m =>
    unfold whileD at hf
    split at hf
    · rename_i δ1 e1
      refine hrc Z W' δ'' σ' H' _ _ s2 e1 _ fun b W3 H3 s3 st3 hb => ?_
      subst hb
      rw [if_pos rfl]
      refine ⟨fun σ' H' => ∃ W' δ'', Sg L Z W' δ'' σ' H' ∧ Step W H W' H' ∧ whileD fc fb m δ'' = some (o, δ'), fun σ' H' h => ⟨m, Nat.lt_succ_self m, h⟩, ?_⟩
      have stx := st2.trans st3
      split at hf
      · rename_i δ2 e2
        exact hrb Z W3 δ1 σ' H3 _ _ _ s3 e2 fun W4 σ4 H4 s4 st4 => ⟨W4, δ2, s4, stx.trans st4, hf⟩
      · rename_i δ2 e2
        exact hrb Z W3 δ1 σ' H3 _ _ _ s3 e2 fun W4 σ4 H4 s4 st4 => ⟨W4, δ2, s4, stx.trans st4, hf⟩
      · rename_i δ2 e2
        cases hf
        exact hrb Z W3 δ1 σ' H3 _ _ _ s3 e2 fun W4 σ4 H4 s4 st4 => p W4 σ4 H4 s4 (stx.trans st4)
      · rename_i dr δ2 e2
        cases hf
        exact hrb Z W3 δ1 σ' H3 _ _ _ s3 e2 fun v W4 σ4 H4 s4 st4 hv => p v W4 σ4 H4 s4 (stx.trans st4) hv
      · rename_i c δ2 e2
        cases hf
        exact hrb Z W3 δ1 σ' H3 _ _ _ s3 e2 fun W4 σ4 H4 s4 st4 => p W4 σ4 H4 s4 (stx.trans st4)
      · cases hf
    · rename_i δ1 e1
      cases hf
      refine hrc Z W' δ'' σ' H' _ _ s2 e1 _ fun b W3 H3 s3 st3 hb => ?_
      subst hb
      rw [if_neg Bool.false_ne_true]
      exact p W3 σ' H3 s3 (st2.trans st3)
    · rename_i c δ1 e1
      cases hf
      exact hrc Z W' δ'' σ' H' _ _ s2 e1 _ fun W3 H3 s3 st3 => p W3 σ' H3 s3 (st2.trans st3)
    · cases hf
end
end FF
end
section
set_option Elab.async false
set_option linter.all false
set_option maxRecDepth 100000
set_option maxHeartbeats 2000000
/-! FFComp2: list comprehensions of two clauses. -/
namespace FF
open PySem PySem.Spec PyProof.Rows L2 RZ
theorem wipe_sub {σ : L2.St} {vs vs1 : List Nat} (h : ∀ i ∈ vs1, i ∈ vs) : L2.wipe (L2.wipe σ vs1) vs = L2.wipe σ vs := by
  apply List.ext_getElem?
  intro k
  by_cases hk : k ∈ vs
  · by_cases hl : k < σ.length
    · rw [wipe_get hk (by rw [wipe_length]; exact hl), wipe_get hk hl]
    · rw [List.getElem?_eq_none (by rw [wipe_length, wipe_length]; omega), List.getElem?_eq_none (by rw [wipe_length]; omega)]
  · rw [wipe_out hk, wipe_out hk, wipe_out fun z => hk (h k z)]
def turns2D (vs vs1 : List Nat) (g : AsD) (ft : M Bool) (fi1 : M (List D)) (g1 : AsD) (ft1 : M Bool) (fe : M D) : List D → List D → Env' → Option (List D × Env')
  | [], acc, δ => some (acc, δ)
  | d :: ds, acc, δ => (g d δ).bind fun δ1 => match ft δ1 with
    | some (.ok true, δ2) => (match fi1 δ2 with
      | some (.ok ds1, δ3) => (turnsD vs1 g1 ft1 fe ds1 acc (wipeD δ3 vs1)).bind fun p => turns2D vs vs1 g ft fi1 g1 ft1 fe ds p.1 (wipeD p.2 vs)
      | _ => none)
    | some (.ok false, δ2) => turns2D vs vs1 g ft fi1 g1 ft1 fe ds acc (wipeD δ2 vs)
    | _ => none
def mLc2 (vs vs1 : List Nat) (fi : M (List D)) (g : AsD) (ft : M Bool) (fi1 : M (List D)) (g1 : AsD) (ft1 : M Bool) (fe : M D) : M (List D) := mBind fi fun ds δ => (turns2D vs vs1 g ft fi1 g1 ft1 fe ds [] (wipeD δ vs)).map fun p => (.ok p.1, wipeD p.2 vs)
section
variable {L : Kl} {pos : Pos}
theorem reads_lc2 {scope : Scope} {vs vs1 is is1 : List Nat} {wi wi1 : TI} {gt gt1 : TG} {tt tt1 : TT} {te : TE} {fi fi1 : M (List D)} {g g1 : AsD} {ft ft1 : M Bool} {fe : M D} (hri : ReadsI L wi fi) (hvs : ∀ i ∈ is, i ∈ vs) (hrg : GrdT (L.blk scope) is gt g) (hrt : ReadsT (L.blk scope) tt ft)
    (hri1 : ReadsI (L.blk scope) wi1 fi1) (hvs1 : ∀ i ∈ is1, i ∈ vs1) (hv : ∀ i ∈ vs1, i ∈ vs) (hrg1 : GrdT (L.blk scope) is1 gt1 g1) (hrt1 : ReadsT (L.blk scope) tt1 ft1) (hre : ReadsE (L.blk scope) te fe) : ReadsF L (tLc2 wi gt tt wi1 gt1 tt1 te vs vs1) (mLc2 vs vs1 fi g ft fi1 g1 ft1 fe) := fun Z W δ σ H r δ' s e => by
  refine R_seq (κ := V) (τa := wi σ H) (fun r1 δ1 e1 => hri Z W δ σ H r1 δ1 s e1) e fun all δ1 J W1 H1 s1 st1 hJ0 e1 => ?_
  obtain ⟨⟨out, δe⟩, e2, e3⟩ := Option.map_eq_some_iff.mp e1
  cases e3
  intro Q q D0 hD0
  have sN := s1.newOwn (o := .lst []) hD0
  have nF := s1.f_new hD0
  have h0 := s1.h0_new hD0
  have s2 : Sg (L.blk scope) (Z.fr D0 (.lst [])) (D0 :: W1) (wipeD δ1 vs) (L2.wipe σ vs) (upd H1 D0 (.lst [])) := ((sN.freeze (List.mem_cons_self) nF (s1.unowned_new hD0) (fun _ z => by cases z) upd_same).wipe vs).to rfl rfl
  have hJ : IterOk L.K J all (D0 :: W1) (upd H1 D0 (.lst [])) := hJ0.step (step_new hD0)
  generalize hW0 : D0 :: W1 = W0 at s2 hJ
  generalize hH0 : upd H1 D0 (HO.lst []) = H0 at s2 hJ
  have stN : Step W1 H1 W0 H0 := by rw [← hW0, ← hH0]; exact step_new hD0
  refine ⟨fun i m H => m = all.length - i ∧ i ≤ all.length ∧ ∃ W' δ' accv accd, Sg (L.blk scope) (Z.fr D0 (.lst accv)) W' δ' (L2.wipe σ vs) H ∧ Step W0 H0 W' H ∧ DvAll L.K (msk W' H) accv accd ∧ turns2D vs vs1 g ft fi1 g1 ft1 fe (all.drop i) accd δ' = some (out, δe), ⟨_, rfl, Nat.zero_le _, W0, _, [], [], s2, Step.refl _ _, .nil, e2⟩, ?_⟩
  rintro i m H ⟨rfl, hi, W', δ', accv, accd, s, st, ha, htd⟩
  obtain ⟨go, stop, yld⟩ := hJ W' H st s.all
  by_cases hlt : i < all.length
  · refine .inr ⟨go i hlt, fun H' => ∃ W' δ' accv accd, Sg (L.blk scope) (Z.fr D0 (.lst accv)) W' δ' (L2.wipe σ vs) H' ∧ Step W0 H0 W' H' ∧ DvAll L.K (msk W' H') accv accd ∧ turns2D vs vs1 g ft fi1 g1 ft1 fe (all.drop (i + 1)) accd δ' = some (out, δe), fun H' h => ⟨all.length - (i + 1), by omega, rfl, hlt, h⟩, fun x H' y => ?_⟩
    obtain ⟨gr, d, hd, hx⟩ := yld i x H' hlt y
    have hdrop : all.drop i = d :: all.drop (i + 1) := by
      rw [List.getElem?_eq_some_iff] at hd
      obtain ⟨_, e⟩ := hd
      rw [List.drop_eq_getElem_cons hlt, e]
    rw [hdrop] at htd
    have s' := s.gr gr
    have stx : Step W' H W' H' := Step.of_gr gr
    obtain ⟨δa, ea, eb⟩ := Option.bind_eq_some_iff.mp htd
    refine hrg _ W' δ' _ H' x d δa s' hx ea _ fun σ2 s2 w2 => ⟨(w2 vs hvs).trans (wipe_idem σ vs), ?_⟩
    have w3 : L2.wipe σ2 vs = L2.wipe σ vs := (w2 vs hvs).trans (wipe_idem σ vs)
    split at eb
    · rename_i δ2 e4
      refine hrt _ W' δa σ2 H' _ _ s2 e4 _ fun b W2 H2 s3 st3 hb => ?_
      subst hb
      rw [if_pos rfl]
      split at eb
      · rename_i ds1 δ3 e5
        obtain ⟨⟨acc1, δe1⟩, e6, e7⟩ := Option.bind_eq_some_iff.mp eb
        refine hri1 _ W2 δ2 σ2 H2 _ _ s3 e5 _ fun J1 W3 H3 s4 st4 hJ1 => ?_
        have stA := (st.trans stx).trans (st3.trans st4)
        refine turns_gen (L := L.blk scope) (Z := Z) hvs1 hrg1 hrt1 hre hJ1 nF h0 (fun W5 H5 vs5 s5 st5 ha5 => ?_) ((ha.step stx).step (st3.trans st4)) e6 (s4.wipe vs1) (Step.refl _ _)
        have s6 := s5.wipe vs
        rw [wipe_sub hv, w3] at s6
        exact ⟨W5, wipeD δe1 vs, vs5, acc1, s6, stA.trans st5, ha5, e7⟩
      · cases eb
    · rename_i δ2 e4
      refine hrt _ W' δa σ2 H' _ _ s2 e4 _ fun b W2 H2 s3 st3 hb => ?_
      subst hb
      rw [if_neg Bool.false_ne_true]
      have s6 := s3.wipe vs
      rw [w3] at s6
      exact ⟨W2, wipeD δ2 vs, accv, accd, s6, (st.trans stx).trans st3, (ha.step stx).step st3, eb⟩
    · cases eb
  · have hie : i = all.length := by omega
    subst hie
    rw [List.drop_length] at htd
    cases htd
    have s' := s.unwipe (σ := σ) (wipe_idem σ vs)
    obtain ⟨fW, fH, fu⟩ := s'.frozen
    have s3 : Sg L Z W' (wipeD _ vs) σ H := (s'.thaw nF).to rfl rfl
    exact .inl ⟨stop, q _ W' H s3 (stN.trans st) ⟨D0, accv, rfl, fW, h0, nF, fH, ha, fu⟩⟩
theorem xf_lc2 {elt tg iter tg1 iter1 : Expr} {ifs ifs1 : List Expr} {scope : Scope} {own : List (Str × Nat)} {vs1 is is1 : List Nat} {fi fi1 : M (List D)} {g g1 : AsD} {ft ft1 : M Bool} {fe : M D} (hL : L.hot = false) (hi : XI L tg iter fi) (ok : BlkOk L.N L.sc scope own) (hv : ∀ i ∈ vs1, i ∈ own.map (·.2)) (hvs : ∀ i ∈ is, i ∈ own.map (·.2)) (hvs1 : ∀ i ∈ is1, i ∈ vs1)
    (hg : XG (L.blk scope) tg is g) (ht : XIfs (L.blk scope) ifs ft) (hi1 : XI (L.blk scope) tg1 iter1 fi1) (hg1 : XG (L.blk scope) tg1 is1 g1) (ht1 : XIfs (L.blk scope) ifs1 ft1) (he : XD (L.blk scope) elt fe) : XF L (.ListComp elt [⟨tg, iter, ifs, 0⟩, ⟨tg1, iter1, ifs1, 0⟩] scope pos) (mLc2 (own.map (·.2)) vs1 fi g ft fi1 g1 ft1 fe) := by
  obtain ⟨fs, _, wi, hpi, hri⟩ := hi
  obtain ⟨fs1, _, wi1, hpi1, hri1⟩ := hi1
  obtain ⟨⟨gt, hpg, hrg⟩, _⟩ := hg
  obtain ⟨⟨gt1, hpg1, hrg1⟩, _⟩ := hg1
  obtain ⟨tt, hpt, hrt⟩ := ht
  obtain ⟨tt1, hpt1, hrt1⟩ := ht1
  obtain ⟨_, te, hpe, hre⟩ := he
  exact ⟨fun _ _ => rfl, tLc2 wi gt tt wi1 gt1 tt1 te (own.map (·.2)) vs1, fun X hX => pe_lc2 (hX.calm hL) (by rw [hX.N]; exact hX.nd) ((hpi X hX).1 hL) (by rw [hX.N, hX.sc]; exact ok) hv (fun s H C cl fp => hpg _ (has_blk hL hX s H C cl fp)) (fun s H C cl fp => hpt _ (has_blk hL hX s H C cl fp)) (fun s H C cl fp => (hpi1 _ (has_blk hL hX s H C cl fp)).1 hL) (fun s H C cl fp => hpg1 _ (has_blk hL hX s H C cl fp)) (fun s H C cl fp => hpt1 _ (has_blk hL hX s H C cl fp)) (fun s H C cl fp => hpe _ (has_blk hL hX s H C cl fp)) (fs _) (fun env => fs1 env), reads_lc2 hri hvs hrg hrt hri1 hvs1 hv hrg1 hrt1 hre⟩
theorem xs_setLc2 (i : Nat) {x : Str} {py : Pos} {elt tg iter tg1 iter1 : Expr} {ifs ifs1 : List Expr} {scope : Scope} {own : List (Str × Nat)} {vs1 is is1 : List Nat} {lpos : Pos} {fi fi1 : M (List D)} {g g1 : AsD} {ft ft1 : M Bool} {fe : M D} (hN : L.N[i]? = some x) (hx : L.sc.names.lookup x = some .local)
    (hsw : ∀ env : Env, env.scope = L.sc → swapsWith (.ListComp elt [⟨tg, iter, ifs, 0⟩, ⟨tg1, iter1, ifs1, 0⟩] scope lpos) (some (.Name x py)) pos.line env = pure true) (hL : L.hot = false) (hi : XI L tg iter fi) (ok : BlkOk L.N L.sc scope own) (hv : ∀ i ∈ vs1, i ∈ own.map (·.2)) (hvs : ∀ i ∈ is, i ∈ own.map (·.2)) (hvs1 : ∀ i ∈ is1, i ∈ vs1)
    (hg : XG (L.blk scope) tg is g) (ht : XIfs (L.blk scope) ifs ft) (hi1 : XI (L.blk scope) tg1 iter1 fi1) (hg1 : XG (L.blk scope) tg1 is1 g1) (ht1 : XIfs (L.blk scope) ifs1 ft1) (he : XD (L.blk scope) elt fe) : XS L (.Assign [.Name x py] (.ListComp elt [⟨tg, iter, ifs, 0⟩, ⟨tg1, iter1, ifs1, 0⟩] scope lpos) pos) (sSetL i (mLc2 (own.map (·.2)) vs1 fi g ft fi1 g1 ft1 fe)) := by
  obtain ⟨fs, _, wi, hpi, hri⟩ := hi
  obtain ⟨fs1, _, wi1, hpi1, hri1⟩ := hi1
  obtain ⟨⟨gt, hpg, hrg⟩, _⟩ := hg
  obtain ⟨⟨gt1, hpg1, hrg1⟩, _⟩ := hg1
  obtain ⟨tt, hpt, hrt⟩ := ht
  obtain ⟨tt1, hpt1, hrt1⟩ := ht1
  obtain ⟨_, te, hpe, hre⟩ := he
  exact ⟨⟨_, fun X hX => ps_setLc2 (i := i) (hX.calm hL) (by rw [hX.N]; exact hX.nd) (by rw [hX.N]; exact hN) (by rw [hX.sc]; exact hx) (hsw _ hX.sc) ((hpi X hX).1 hL) (by rw [hX.N, hX.sc]; exact ok) hv (fun s H C cl fp => hpg _ (has_blk hL hX s H C cl fp)) (fun s H C cl fp => hpt _ (has_blk hL hX s H C cl fp)) (fun s H C cl fp => (hpi1 _ (has_blk hL hX s H C cl fp)).1 hL) (fun s H C cl fp => hpg1 _ (has_blk hL hX s H C cl fp)) (fun s H C cl fp => hpt1 _ (has_blk hL hX s H C cl fp)) (fun s H C cl fp => hpe _ (has_blk hL hX s H C cl fp)) (fs _) (fun env => fs1 env),
    post_setL (reads_lc2 hri hvs hrg hrt hri1 hvs1 hv hrg1 hrt1 hre)⟩⟩
end
end FF
end
section
set_option Elab.async false
set_option linter.all false
set_option maxRecDepth 100000
set_option maxHeartbeats 2000000
/-! FFCall: calls of defs, what a def promises, try. -/
namespace FF
open PySem PySem.Spec PyProof.Rows L2 RZ

/-- a def's promise, by values: its mirror g -/
def spV (K : PySem.W.Frag) (T : List Addr) (cls : String → Value) (n : Nat) (g : List D → Option (Res D)) : Sp := fun vs H Q E => vs.length = n ∧ ∃ (W : List Addr) (ds : List D) (r : Res D), AllIn W H ∧ DvAll K (msk W H) vs ds ∧ (∀ P ∈ T, GxR.TabG H P) ∧ g ds = some r ∧
  match r with
  | .ok d => ∀ v H', Gr [] H H' → Dv K (msk W H') v d → Q v H'
  | .er c => ∀ H', Gr [] H H' → E (cls c) none H'
/-- .. where an exception is handled: none leaves -/
def spH (K : PySem.W.Frag) (T : List Addr) (n : Nat) (g : List D → Option (Res D)) : Sp := fun vs H Q _ => vs.length = n ∧ ∃ (W : List Addr) (ds : List D) (d : D), AllIn W H ∧ DvAll K (msk W H) vs ds ∧ (∀ P ∈ T, GxR.TabG H P) ∧ g ds = some (.ok d) ∧
  ∀ v H', Gr [] H H' → Dv K (msk W H') v d → Q v H'
def start0 (n : Nat) (ds : List D) : Env' := ds.map .v ++ List.replicate (n - ds.length) .u
def runB (n : Nat) (f : SM) (ds : List D) : Option (Res D) := match f (start0 n ds) with
  | some (.nx, _) => some (.ok .none)
  | some (.rt d, _) => some (.ok d)
  | some (.er c, _) => some (.er c)
  | _ => none
theorem start_get {ds : List D} {n i : Nat} {e : Ent} (h : (start0 n ds)[i]? = some e) (ne : e ≠ .u) : ∃ d, ds[i]? = some d ∧ e = .v d := by
  unfold start0 at h
  by_cases hi : i < ds.length
  · rw [List.getElem?_append_left (by simpa using hi), List.getElem?_map, List.getElem?_eq_getElem hi] at h
    cases h
    exact ⟨_, List.getElem?_eq_getElem hi, rfl⟩
  · rw [List.getElem?_append_right (by simpa using hi), List.getElem?_replicate] at h
    split at h
    · cases h; exact absurd rfl ne
    · cases h
theorem sg_start {L : Kl} {W : List Addr} {H : Hp} {vs : List V} {ds : List D} (hW : AllIn W H) (hv : DvAll L.K (msk W H) vs ds) (hT : ∀ P ∈ L.T, GxR.TabG H P) : Sg L ⟨W, [], H, [], fun _ => none⟩ W (start0 L.N.length ds) (L2.start L.N vs) H := by
  have no : ∀ {i : Nat} {e : Ent}, (start0 L.N.length ds)[i]? = some e → e.own → False := fun {i e} h o => by
    obtain ⟨d, _, rfl⟩ := start_get h (fun z => by rw [z] at o; exact o)
    exact o
  have hl := hv.length
  refine ⟨?_, fun i e h n => ?_, fun i j e e' a hij h1 h2 o1 o2 q1 q2 => no h1 o1, fun _ h => h, fun _ h => (by cases h), hW, hW, Gr.refl _ _, hT, fun _ h => (by cases h), fun i e a h o _ _ => no h o⟩
  · unfold L2.start start0
    rw [List.length_append, List.length_append, List.length_map, List.length_map, List.length_replicate, List.length_replicate, hl]
  · obtain ⟨d, hd, rfl⟩ := start_get h n
    obtain ⟨v, e1, e2⟩ := hv.get hd
    refine ⟨v, ?_, e2⟩
    unfold L2.start
    have hi : i < vs.length := (List.getElem?_eq_some_iff.mp e1).1
    rw [List.getElem?_append_left (by simpa using hi), List.getElem?_map, e1]
    rfl
theorem room_un {k : Nat} {A : Around} (r : Room k A) : A.units + 65 < cLine := by have := r.un; omega
theorem roomH_un {k : Nat} {A : Around} (r : L2H.RoomH k A) : A.units + 65 < cLine := by have := r.un; omega
/-- what the entry of a def gives -/
structure FnAt (P : Program) (w : World) (K : PySem.W.Frag) (x qual : Str) (st : Stmt) (f : Addr) (fd : FuncData) : Prop where
  ex : ∃ (oc : Value) (od : Option Addr) (dV kV doc pm : Value) (an : Option Addr) (cdv ct : Value) (osl : Array (Option Value)),
    fd = PySem.W.fnOf x qual (defArgs st) (defBody st) (defScope st) dV kV doc pm an cdv ct ∧ K.lookup f = some ⟨oc, od, .func fd, osl⟩ ∧ PySem.W.codeIn K cdv qual = true
/-- the context class of a def's body -/
def klOf (P : Program) (w : World) (K : PySem.W.Frag) (mg : Str → Option Value) (base : Heap) (N : List Str) (sc : Scope) (k : Nat) (cd : Option Addr) (T : List Addr) (cls : String → Value) (Wx : WX) : Kl :=
  { P := P, w := w, K := K, mg := mg, base := base, N := N, sc := sc, k := k, cd := cd, T := T, Wx := Wx, cls := cls, hot := false, fnl := fun _ => true, dfn := true }
def klHot (P : Program) (w : World) (K : PySem.W.Frag) (mg : Str → Option Value) (base : Heap) (N : List Str) (sc : Scope) (k : Nat) (cd : Option Addr) (T : List Addr) (cls : String → Value) : Kl :=
  { P := P, w := w, K := K, mg := mg, base := base, N := N, sc := sc, k := k, cd := cd, T := T, Wx := fun _ _ _ _ => False, cls := cls, hot := true, fnl := fun _ => true, dfn := true }
section
variable {P : Program} {w : World} {K : PySem.W.Frag} {mg : Str → Option Value} {base : Heap}
theorem fn_val {x qual : Str} {st : Stmt} {f : Addr} {fd : FuncData} {N ps : List Str} {k : Nat} {cd : Option Addr} {T : List Addr} {cls : String → Value} {body : SM} (F : FnAt P w K x qual st f fd) (S : FnScope N ps (defScope st)) (hcd : ∀ c, cd = some c → fd.code = .ref c)
    (hbody : ∀ Wx, XSs (klOf P w K mg base N (defScope st) k cd T cls Wx) (defBody st) body) : FnOk P w K mg base (L2N.CX P w) (k + 1) f fd ps (spV K T cls ps.length (runB N.length body)) := by
  obtain ⟨oc, od, dV, kV, doc, pm, an, cdv, ct, osl, rfl, lk, hc⟩ := F.ex
  refine fn_of lk hc S (fun vs H Q E h => h.1) fun A outer s H vs Q E hr hsp => ?_
  obtain ⟨_, W, ds, r, hW, hv, hT, hg, hr2⟩ := hsp
  obtain ⟨ts, hp, hrd⟩ := hbody (fun cls d _ H => E cls d H)
  refine ⟨ts, hp _ ⟨rfl, rfl, rfl, rfl, rfl, rfl, rfl, S.nd, fun _ => rfl, fun _ => hr, fun z => (by cases z), room_un hr, fun c e => hcd c e, PassesOwn.leaving, L2N.takes_of rfl rfl rfl rfl, fun _ _ => rfl, fun _ => ⟨rfl, rfl⟩⟩, ?_⟩
  unfold runB at hg
  have s0 := sg_start (L := klOf P w K mg base N (defScope st) k cd T cls (fun cls d _ H => E cls d H)) hW hv hT
  split at hg
  · rename_i δ' e1
    cases hg
    exact hrd _ W _ _ H .nx δ' _ s0 e1 fun W' σ' H' s' st' => hr2 _ _ s'.base .non
  · rename_i d δ' e1
    cases hg
    exact hrd _ W _ _ H _ δ' _ s0 e1 fun v W' σ' H' s' st' hv' => hr2 _ _ s'.base (hv'.less s'.sub)
  · rename_i c δ' e1
    cases hg
    exact hrd _ W _ _ H _ δ' _ s0 e1 fun W' σ' H' s' st' => hr2 _ s'.base
  · cases hg
theorem fn_hot {CX : CXT} {x qual : Str} {st : Stmt} {f : Addr} {fd : FuncData} {N ps : List Str} {k : Nat} {cd : Option Addr} {T : List Addr} {cls : String → Value} {body : SM} (F : FnAt P w K x qual st f fd) (S : FnScope N ps (defScope st)) (hcd : ∀ c, cd = some c → fd.code = .ref c)
    (hbody : XSs (klHot P w K mg base N (defScope st) k cd T cls) (defBody st) body) : L2H.FnH P w K mg base CX (k + 1) f fd ps (spH K T ps.length (runB N.length body)) := by
  obtain ⟨oc, od, dV, kV, doc, pm, an, cdv, ct, osl, rfl, lk, hc⟩ := F.ex
  refine L2H.fn_ofH lk hc S (fun vs H Q E h => h.1) fun A outer s H vs Q E p hot hr hsp => ?_
  obtain ⟨_, W, ds, d, hW, hv, hT, hg, hr2⟩ := hsp
  obtain ⟨ts, hp, hrd⟩ := hbody
  refine ⟨ts, hp _ ⟨rfl, rfl, rfl, rfl, rfl, rfl, rfl, S.nd, fun z => (by cases z), fun z => (by cases z), fun _ => ⟨⟨p, hot, List.mem_singleton.mpr rfl⟩, hr⟩, roomH_un hr, fun c e => hcd c e, PassesOwn.leaving, takesF, fun _ _ => rfl, fun _ => ⟨rfl, rfl⟩⟩, ?_⟩
  unfold runB at hg
  have s0 := sg_start (L := klHot P w K mg base N (defScope st) k cd T cls) hW hv hT
  split at hg
  · rename_i δ' e1
    cases hg
    exact hrd _ W _ _ H .nx δ' _ s0 e1 fun W' σ' H' s' st' => hr2 _ _ s'.base .non
  · rename_i d δ' e1
    cases hg
    exact hrd _ W _ _ H _ δ' _ s0 e1 fun v W' σ' H' s' st' hv' => hr2 _ _ s'.base (hv'.less s'.sub)
  · cases hg
  · cases hg
end
/-- a def that can be called -/
structure Callee (L : Kl) (x : Str) (n : Nat) (dflt : List D) (g : List D → Option (Res D)) : Prop where
  ex : ∃ (j : Nat) (f : Addr) (fd : FuncData) (ps : List Str) (dvs : List V) (dss : List Value), ps.length = n ∧ FnOk L.P L.w L.K L.mg L.base (L2N.CX L.P L.w) j f fd ps (spV L.K L.T L.cls n g) ∧ j ≤ L.k ∧ L.mg x = some (.ref f) ∧ PySem.W.keepIn L.K (.ref f) = true ∧ Binds L.K fd ps dss ∧ Vals dvs dss ∧ ∀ H, DvAll L.K H dvs dflt
structure CalleeH (L : Kl) (x : Str) (n : Nat) (g : List D → Option (Res D)) : Prop where
  ex : ∃ (CX : CXT) (j : Nat) (f : Addr) (fd : FuncData) (ps : List Str), ps.length = n ∧ L2H.FnH L.P L.w L.K L.mg L.base CX j f fd ps (spH L.K L.T n g) ∧ j ≤ L.k ∧ L.mg x = some (.ref f) ∧ PySem.W.keepIn L.K (.ref f) = true ∧ Binds L.K fd ps [] ∧ ∀ outer H s e s', CX outer H s E0 e s' → False
/-- the same over the base alone -/
structure CalleeB (P : Program) (w : World) (K : PySem.W.Frag) (mg : Str → Option Value) (base : Heap) (T : List Addr) (cls : String → Value) (j : Nat) (x : Str) (n : Nat) (dflt : List D) (g : List D → Option (Res D)) : Prop where
  ex : ∃ (f : Addr) (fd : FuncData) (ps : List Str) (dvs : List V) (dss : List Value), ps.length = n ∧ FnOk P w K mg base (L2N.CX P w) j f fd ps (spV K T cls n g) ∧ mg x = some (.ref f) ∧ PySem.W.keepIn K (.ref f) = true ∧ Binds K fd ps dss ∧ Vals dvs dss ∧ ∀ H, DvAll K H dvs dflt
theorem CalleeB.of {L : Kl} {j : Nat} {x : Str} {n : Nat} {dflt : List D} {g : List D → Option (Res D)} (c : CalleeB L.P L.w L.K L.mg L.base L.T L.cls j x n dflt g) (h : j ≤ L.k) : Callee L x n dflt g := by
  obtain ⟨f, fd, ps, dvs, dss, h1, h2, h3, h4, h5, h6, h7⟩ := c
  exact ⟨j, f, fd, ps, dvs, dss, h1, h2, h, h3, h4, h5, h6, h7⟩
structure CalleeHB (P : Program) (w : World) (K : PySem.W.Frag) (mg : Str → Option Value) (base : Heap) (T : List Addr) (j : Nat) (x : Str) (n : Nat) (g : List D → Option (Res D)) : Prop where
  ex : ∃ (CX : CXT) (f : Addr) (fd : FuncData) (ps : List Str), ps.length = n ∧ L2H.FnH P w K mg base CX j f fd ps (spH K T n g) ∧ mg x = some (.ref f) ∧ PySem.W.keepIn K (.ref f) = true ∧ Binds K fd ps [] ∧ ∀ outer H s e s', CX outer H s E0 e s' → False
theorem CalleeHB.of {L : Kl} {j : Nat} {x : Str} {n : Nat} {g : List D → Option (Res D)} (c : CalleeHB L.P L.w L.K L.mg L.base L.T j x n g) (h : j ≤ L.k) : CalleeH L x n g := by
  obtain ⟨CX, f, fd, ps, h1, h2, h3, h4, h5, h6⟩ := c
  exact ⟨CX, j, f, fd, ps, h1, h2, h, h3, h4, h5, h6⟩
def mCall (n : Nat) (g : List D → Option (Res D)) (dflt : List D) (f : M (List D)) : M D := mBind f fun ds δ => if (ds ++ dflt).length = n then (g (ds ++ dflt)).map fun r => (r, δ) else none
def mCallH (n : Nat) (g : List D → Option (Res D)) (f : M (List D)) : M D := mBind f fun ds δ => if ds.length = n then (match g ds with
  | some (.ok d) => some (.ok d, δ)
  | _ => none) else none
section
variable {L : Kl} {pos : Pos} {e : Expr} {es : List Expr} {fs : M (List D)}
theorem xd_call {x : Str} {p : Pos} {n : Nat} {dflt : List D} {g : List D → Option (Res D)} (hL : L.hot = false) (c : Callee L x n dflt g) (hg : L.sc.names.lookup x = some NameKind.globalImplicit) (ha : XL L (e :: es) fs) (pl : Plain e) (hpl : ∀ pos env, (backTo pos (starEach es env)).any (·.1) = false) (hdb : (x == ("__debug__" : Str)) = false := by decide) :
    XD L (.Call (.Name x p) (e :: es) [] pos) (mCall n g dflt fs) := by
  obtain ⟨j, f, fd, ps, dvs, dss, hn, F, hj, hm, hk, hb, hv, hd⟩ := c
  obtain ⟨ta, hp, hr⟩ := ha
  refine ⟨fun _ _ => rfl, tCallSD (spV L.K L.T L.cls n g) dvs (fun σ => WE L.Wx σ) ta, fun X hX => ?_, fun Z W δ σ H r δ' s e => ?_⟩
  · refine pe_callSD (CX := L2N.CX X.prog X.w) (k := j) (f := f) (fd := fd) (ps := ps) (ds := dss) ?_ ((hX.room hL).mono hj) (by show X.env.scope.names.lookup x = _; rw [hX.sc]; exact hg) (by rw [hX.mg]; exact hm) (by rw [hX.K]; exact hk) (by rw [hX.K]; exact hb) hv (fun σ => L2N.passAt hX.tk σ) (hp X hX) hdb (pl _ _) (hpl _ _)
    rw [hX.P, hX.w, hX.K, hX.mg, hX.base]
    exact F
  · refine R_seq (κ := V) (τa := ta σ H) (τ := fun vs H1 Q => spV L.K L.T L.cls n g (vs ++ dvs) H1 Q (WE L.Wx σ)) (fun r1 δ1 e1 => hr Z W δ σ H r1 δ1 s e1) e fun ds δ1 vs W1 H1 s1 st1 hx e1 => ?_
    have e1 : (if (ds ++ dflt).length = n then (g (ds ++ dflt)).map fun r => (r, δ1) else none) = some (r, δ') := e1
    split at e1
    · rename_i hlen
      obtain ⟨r0, e2, e3⟩ := Option.map_eq_some_iff.mp e1
      cases e3
      have hall := hx.append (hd (msk W1 H1))
      cases r with
      | ok d => exact fun Q q => ⟨by rw [hall.length]; exact hlen, W1, ds ++ dflt, .ok d, s1.all, hall, s1.tabs, e2, fun v H' gr hv => q v W1 H' (s1.gr gr) (Step.of_gr gr) hv⟩
      | er c => exact fun Q q => ⟨by rw [hall.length]; exact hlen, W1, ds ++ dflt, .er c, s1.all, hall, s1.tabs, e2, fun H' gr => q W1 H' (s1.gr gr) (Step.of_gr gr)⟩
    · cases e1
theorem xd_callH {x : Str} {p : Pos} {n : Nat} {g : List D → Option (Res D)} (hL : L.hot = true) (c : CalleeH L x n g) (hg : L.sc.names.lookup x = some NameKind.globalImplicit) (ha : XL L (e :: es) fs) (pl : Plain e) (hpl : ∀ pos env, (backTo pos (starEach es env)).any (·.1) = false) (hdb : (x == ("__debug__" : Str)) = false := by decide) :
    XD L (.Call (.Name x p) (e :: es) [] pos) (mCallH n g fs) := by
  obtain ⟨CX, j, f, fd, ps, hn, F, hj, hm, hk, hb, hc⟩ := c
  obtain ⟨ta, hp, hr⟩ := ha
  refine ⟨fun _ _ => rfl, tCallS (spH L.K L.T n g) (fun _ => E0) ta, fun X hX => ?_, fun Z W δ σ H r δ' s e => ?_⟩
  · refine L2H.pe_callH (CX := CX) (k := j) (f := f) (fd := fd) (ps := ps) ?_ ((hX.hotc hL).2.mono hj) (hX.hotc hL).1 (by show X.env.scope.names.lookup x = _; rw [hX.sc]; exact hg) (by rw [hX.mg]; exact hm) (by rw [hX.K]; exact hk) (by rw [hX.K]; exact hb) (fun σ pins H s e s' I z => (hc _ _ _ _ _ z).elim) (hp X hX) hdb (pl _ _) (hpl _ _)
    rw [hX.P, hX.w, hX.K, hX.mg, hX.base]
    exact F
  · refine R_seq (κ := V) (τa := ta σ H) (τ := fun vs H1 Q => spH L.K L.T n g vs H1 Q E0) (fun r1 δ1 e1 => hr Z W δ σ H r1 δ1 s e1) e fun ds δ1 vs W1 H1 s1 st1 hx e1 => ?_
    have e1 : (if ds.length = n then (match g ds with | some (.ok d) => some (.ok d, δ1) | _ => none) else none) = some (r, δ') := e1
    split at e1
    · rename_i hlen
      split at e1
      · rename_i d e2
        cases e1
        exact fun Q q => ⟨by rw [hx.length]; exact hlen, W1, ds, d, s1.all, hx, s1.tabs, e2, fun v H' gr hv => q v W1 H' (s1.gr gr) (Step.of_gr gr) hv⟩
      · cases e1
    · cases e1
/-! ### try: body except x: suite -/
def Kl.wish (L : Kl) (Wx : WX) : Kl := { L with Wx := Wx }
def Kl.suite (L : Kl) : Kl := { L with Wx := fun _ _ _ _ => False, hot := true, dfn := false }
def sTry (fb : SM) (catch_ : String → Option Bool) (fs : SM) : SM := fun δ => match fb δ with
  | some (.er c, δ1) => (match catch_ c with
    | some true => (match fs δ1 with
      | some (.er _, _) => none
      | r => r)
    | some false => some (.er c, δ1)
    | none => none)
  | r => r
theorem Post.to {L L' : Kl} {Z : Amb} {W : List Addr} {H : Hp} {δ' : Env'} {o : Out} {E : Ends} (hK : L'.K = L.K) (hT : L'.T = L.T) (ho : ∀ c, o ≠ .er c) (p : Post L Z W H δ' o E) : Post L' Z W H δ' o E := by
  cases o with
  | nx => exact fun W' σ' H' s t => p W' σ' H' (s.to hK.symm hT.symm) t
  | bk => exact fun W' σ' H' s t => p W' σ' H' (s.to hK.symm hT.symm) t
  | ct => exact fun W' σ' H' s t => p W' σ' H' (s.to hK.symm hT.symm) t
  | rt d => exact fun v W' σ' H' s t h => p v W' σ' H' (s.to hK.symm hT.symm) t (by rw [← hK]; exact h)
  | er c => exact absurd rfl (ho c)
theorem xs_try {x : Str} {C : Addr} {np pos' : Pos} {body suite : List Stmt} {b₀ : Stmt} {fb fs : SM} {catch_ : String → Option Bool} (hL : L.hot = false) (hD : L.dfn = true) (hg : L.sc.names.lookup x = some NameKind.globalImplicit) (hdb : (x == ("__debug__" : Str)) = false) (hm : L.mg x = some (.ref C))
    (hc : ∀ c b, catch_ c = some b → PySem.W.exmOne L.K (L.cls c) (.ref C) = some b) (hb : ∀ Wx, XSs (L.wish Wx) body fb) (hs : XSs L.suite (b₀ :: suite) fs) : XS L (.Try body [.ExceptHandler (some (.Name x np)) none (b₀ :: suite) pos'] [] [] pos) (sTry fb catch_ fs) := by
  obtain ⟨us, hpu, hru⟩ := hs
  let tb : WX → TS := fun Wx => Classical.choose (hb Wx).ex
  have hpb : ∀ Wx, (∀ X, (L.wish Wx).Has X → PSs X body (tb Wx)) ∧ ReadsS (L.wish Wx) (tb Wx) fb := fun Wx => Classical.choose_spec (hb Wx).ex
  refine ⟨⟨fun E σ H => tb (wMany L.K L.Wx E [(.ref C, fun _ _ _ => us)]) E σ H, fun X hX => ?_, fun Z W δ σ H o δ' E s h p => ?_⟩⟩
  · have key := L2N.ps_try_many (X := X) (body := body) (h₀ := .ExceptHandler (some (.Name x np)) none (b₀ :: suite) pos') (hds := []) (l := [(.ref C, fun _ _ _ => us)]) (pos := pos) (tb := tb) (Wout := L.Wx) (hX.frm hD).1 (hX.frm hD).2 hX.tk
      (fun W pn xe tk own => (hpb W).1 _ ⟨hX.P, hX.w, hX.K, hX.mg, hX.base, hX.N, hX.sc, hX.nd, hX.calm, hX.room, fun z => absurd (hL.symm.trans z) (by decide), hX.un, hX.code, own, tk, hX.fn, hX.frm⟩)
      (.cons ⟨by show X.env.scope.names.lookup x = _; rw [hX.sc]; exact hg, hdb, .inl (by rw [hX.mg]; exact hm)⟩ (fun a oe cls d pn hz hd => by
        have hr := hX.room hL
        refine hpu _ ⟨hX.P, hX.w, hX.K, hX.mg, hX.base, hX.N, hX.sc, hX.nd, fun z => (by cases z), fun z => (by cases z), fun _ => ⟨⟨(a, oe), ⟨rfl, ?_⟩, List.mem_cons_self⟩, ⟨hr.dp, hr.un⟩⟩, hX.un, hX.code, PassesOwn.never, takesF, hX.fn, fun z => (by cases z)⟩
        obtain ⟨vs, e⟩ := hd
        exact ⟨vs, e, hz.2.2 vs e⟩) .nil)
    rw [hX.K] at key
    exact key
  · unfold sTry at h
    refine (fun (k : ∀ o1 δ1, fb δ = some (o1, δ1) → Post (L.wish (wMany L.K L.Wx E [(.ref C, fun _ _ _ => us)])) Z W H δ1 o1 E) => ?_) ?_
    · cases e1 : fb δ with
      | none => rw [e1] at h; cases h
      | some q => exact (hpb _).2 Z W δ σ H q.1 q.2 E (s.to rfl rfl) e1 (k q.1 q.2 e1)
    · intro o1 δ1 e1
      rw [e1] at h
      cases o1 with
      | er c =>
        intro W' σ' H' s' t'
        have s'' : Sg L Z W' δ1 σ' H' := s'.to rfl rfl
        dsimp only at h
        cases ec : catch_ c with
        | none => rw [ec] at h; cases h
        | some b =>
          refine ⟨b, hc c b ec, fun hb a na => ?_, fun hb => ?_⟩
          · subst hb
            rw [ec] at h
            dsimp only at h
            cases e2 : fs δ1 with
            | none => rw [e2] at h; cases h
            | some q =>
              obtain ⟨o2, δ2⟩ := q
              rw [e2] at h
              cases o2 with
              | er c2 => cases h
              | _ =>
                cases h
                exact hru Z W' δ1 σ' H' _ _ E (s'.to rfl rfl) e2 (Post.to (L := L) (L' := L.suite) rfl rfl (fun _ z => by cases z) (p.step t'))
          · subst hb
            rw [ec] at h
            cases h
            exact p W' σ' H' s'' t'
      | _ =>
        cases h
        exact Post.to (L := L) (L' := L.wish (wMany L.K L.Wx E [(.ref C, fun _ _ _ => us)])) rfl rfl (fun _ z => by cases z) p
end
end FF
end
section
set_option Elab.async false
set_option linter.all false
set_option maxRecDepth 100000
set_option maxHeartbeats 2000000
/-! FFHot: a list comprehension while an exception is handled (the proof follows HandS.Comp's lc_core, the iterator's end as in HandS.HotCalls). -/
namespace FF
open PySem PySem.Spec PyProof.Rows L2 RZ
section
variable {X : Cx}
theorem lcH_core {pins : List (Addr × Obj)} {s : Shared} {σ : L2.St} {H : Hp} {Q : VK} {elt tg iter : Expr} {ifs : List Expr} {scope : Scope} {own : List (Str × Nat)} {pos pos' : Pos} {wi : TI} {g : TG} {tt : TT} {te : TE} {use : Option (Value → Sem Unit)} {Qf : Value → Shared → Prop}
    (hc : L2H.HotC X) (hN : X.N.Nodup) (I : Inv X pins σ H s) (hi : L2H.PIH X tg iter wi) (ok : BlkOk X.N X.env.scope scope own)
    (hg : ∀ (s : Shared) (H : Hp) (C : Addr) (cl : List (Str × Addr)) (fp : List Addr) (pn : List (Addr × Obj)), (∀ q ∈ X.pn, q ∈ pn) → PG ((X.blk s H scope (compEnvC scope cl C X.env) fp).tr pn (fun _ _ => False)) tg g) (ht : ∀ (s : Shared) (H : Hp) (C : Addr) (cl : List (Str × Addr)) (fp : List Addr) (pn : List (Addr × Obj)), (∀ q ∈ X.pn, q ∈ pn) → PTs ((X.blk s H scope (compEnvC scope cl C X.env) fp).tr pn (fun _ _ => False)) ifs tt)
    (he : ∀ (s : Shared) (H : Hp) (C : Addr) (cl : List (Str × Addr)) (fp : List Addr) (pn : List (Addr × Obj)), (∀ q ∈ X.pn, q ∈ pn) → PE ((X.blk s H scope (compEnvC scope cl C X.env) fp).tr pn (fun _ _ => False)) elt te) (hs : ∀ x, foldedSetIterable iter X.env x = pure x)
    (h : tLc wi g tt te (own.map (·.2)) σ H Q)
    (hRR : ∀ D C s' m H', Inv X pins σ H' s' → Q (.ref D) H' → s'.heap.Ns C m → FpOk X pins H' C → compPost (model X.prog X.w) X.A X.xe use Qf (.ref D) C (.ok .next) s') :
    wpAny (model X.prog X.w) X.A (comprehension (.ListComp elt [⟨tg, iter, ifs, 0⟩] scope pos) scope X.env pos' (newList []) false (eval iter X.env) use) Qf X.xe s := by
  have hfree : ∀ y ∈ scope.names, y.2 = .free → ∃ c, X.env.cells.lookup y.1 = some c := fun y hy e => by
    rcases ok.free y hy e with k | k
    · exact I.ok.has _ (.inl k)
    · exact I.ok.has _ (.inr k)
  refine wpAny_comprehension_free (use := use) rfl hs (closure_ok hfree) ok.kind (fun y hy e => by rw [ok.uniq y hy, e])
    (thn (hi.run pins s σ H _ I h) fun xv s1 hx => thn hx fun itv s2 h2 => ?_)
  obtain ⟨it, fp, tn, J, H2, e, I2, T, st2, f2, q⟩ := h2
  subst e
  refine wpAny_newObj_type (newEnv_comp ?_) (by show 0 ≤ sizeLine; decide)
  generalize hD : s2.heap.objs.size = D
  have hDn : H2 D = none := I2.hok.fresh (Nat.le_of_eq hD)
  obtain ⟨W, ⟨m0, w0⟩, turn⟩ := q D hDn
  -- the new list
  generalize hs3 : ({ s2 with heap := s2.heap.push { cls := .type "list", data := .seq ([] : List Value).toArray } } : Shared) = s3
  have I3 : Inv X pins σ (upd H2 D (.lst [])) s3 := by
    rw [← hs3]
    refine I2.laid (t' := s2.toks) (fun b o e => Heap.get?_push_of_some _ e) (Nat.le_of_eq hD) ⟨Nat.zero_le _, [], 0, .nil, ?_⟩
    rw [← hD]
    exact Heap.get?_push_size _ rfl
  have h3 : s3.heap = s2.heap.push { cls := .type "list", data := .seq ([] : List Value).toArray } := by rw [← hs3]
  have sz : ∀ b ∈ fp, b < s2.heap.objs.size := fun b hb => by
    obtain ⟨o, e, _⟩ := T.obj _ _ st2 b hb
    exact Heap.lt_size e
  have f3 : ∀ b ∈ fp, FpOk X pins (upd H2 D (.lst [])) b ∧ b < s3.heap.objs.size := fun b hb => by
    have hlt := sz b hb
    refine ⟨⟨?_, (f2 b hb).2⟩, by rw [h3, Heap.size_push]; exact Nat.lt_succ_of_lt hlt⟩
    rw [upd_ne (by rw [← hD]; exact Nat.ne_of_lt hlt)]
    exact (f2 b hb).1
  have st3 : tn 0 s3.heap := T.keep _ _ _ st2 fun b _ o e => by rw [h3]; exact Heap.get?_push_of_some _ e
  have I4' := block_start I3 ok hN f3
  have I4b := I4'.pins_of (pins' := X.pn ++ pins) fun p hp => by
    have hp : p ∈ X.pn ++ pins := by simpa using hp
    obtain ⟨q1, q2, q3, q4, q5⟩ := I3.pin p hp
    refine ⟨pushCells_keeps _ _ _ _ (Heap.get?_push_of_some _ q1), q2, Nat.ne_of_lt (Heap.lt_size q1), fun hm => (List.mem_cons.mp (I3.stkSub p.1 hm)).elim q3 q4, q5⟩
  have I4 := I4b.toTry (fun _ _ => False)
  have hsub : ∀ q ∈ X.pn, q ∈ ([] : List (Addr × Obj)) ++ (X.pn ++ pins) := fun q hq => List.mem_append_right _ (List.mem_append_left _ hq)
  have pg := hg s3 (upd H2 D (.lst [])) s3.heap.objs.size (cellsFrom (s3.heap.objs.size + 1) scope.names (cloFrom X.env.cells scope.names [])) fp _ hsub
  have pt := ht s3 (upd H2 D (.lst [])) s3.heap.objs.size (cellsFrom (s3.heap.objs.size + 1) scope.names (cloFrom X.env.cells scope.names [])) fp _ hsub
  have pe := he s3 (upd H2 D (.lst [])) s3.heap.objs.size (cellsFrom (s3.heap.objs.size + 1) scope.names (cloFrom X.env.cells scope.names [])) fp _ hsub
  show codeAny _ _ (.compStart (.ListComp elt [⟨tg, iter, ifs, 0⟩] scope pos) 0 (.ref it) (.ref D) (compEnvC scope (cellsFrom (s3.heap.objs.size + 1) scope.names (cloFrom X.env.cells scope.names [])) s3.heap.objs.size X.env)) (compPost (model X.prog X.w) X.A X.xe use Qf (.ref D) s3.heap.objs.size) { s3 with heap := pushCells (s3.heap.push { cls := .type "dict", data := .dict #[] }) scope.names }
  have nfp : ∀ b ∈ fp, (upd H2 D (.lst [])) b = none := fun b hb => (f3 b hb).1.1
  generalize hce : compEnvC scope (cellsFrom (s3.heap.objs.size + 1) scope.names (cloFrom X.env.cells scope.names [])) s3.heap.objs.size X.env = ce at I4 pg pt pe ⊢
  have cL : ce.locals = s3.heap.objs.size := by subst hce; rfl
  generalize hH3 : upd H2 D (.lst []) = H3 at I3 I4 pg pt pe w0 nfp f3
  generalize hs4 : ({ s3 with heap := pushCells (s3.heap.push { cls := .type "dict", data := .dict #[] }) scope.names } : Shared) = s4 at I4 ⊢
  have st4 : tn 0 s4.heap := T.keep _ _ _ st3 fun b _ o e => by rw [← hs4]; exact pushCells_keeps _ _ _ _ (Heap.get?_push_of_some _ e)
  have stat : ∀ {σ' : L2.St} {H' : Hp} {s' : Shared}, Inv ((X.blk s3 H3 scope ce fp).tr ([] ++ (X.pn ++ pins)) (fun _ _ => False)) [] σ' H' s' → (∀ b ∈ fp, H' b = none) → ∀ b ∈ fp, FpOk ((X.blk s3 H3 scope ce fp).tr ([] ++ (X.pn ++ pins)) (fun _ _ => False)) [] H' b := fun {σ' H' s'} I' hn b hb =>
    ⟨hn b hb, (I'.ok.exf b hb).1, I'.ok.exfs b hb, .inl hb, fun x c e => (I'.ok.exf b hb).2 x c e, fun p hp => (f3 b hb).1.2.2.2.2.2 p (by simpa using hp)⟩
  have hcb : L2H.HotC ((X.blk s3 H3 scope ce fp).tr ([] ++ (X.pn ++ pins)) (fun _ _ => False)) := by
    obtain ⟨p, h1, h2⟩ := hc
    exact ⟨p, h1, hsub p h2⟩
  have loop : codeAny (model X.prog X.w) X.A (.compLoop (.ListComp elt [⟨tg, iter, ifs, 0⟩] scope pos) 0 (.ref it) (.ref D) ce) (compPost (model X.prog X.w) X.A X.xe use Qf (.ref D) s3.heap.objs.size) s4 := by
    refine compLoop_any (fun n s' => ∃ i H', Inv ((X.blk s3 H3 scope ce fp).tr ([] ++ (X.pn ++ pins)) (fun _ _ => False)) [] (wipe σ (own.map (·.2))) H' s' ∧ tn i s'.heap ∧ (∀ b ∈ fp, H' b = none) ∧ W i n H') ?_ m0 ⟨0, H3, I4, st4, nfp, w0⟩
    rintro n s5 ⟨i, H5, I5, st5, n5, w5⟩
    rcases turn i n H5 w5 with ⟨stop, qq⟩ | ⟨go, Nx, hNx, step⟩
    · have td := T.done ((X.blk s3 H3 scope ce fp).tr ([] ++ (X.pn ++ pins)) (fun _ _ => False)) rfl rfl rfl hcb i [] s5 _ H5 (fun _ _ => False) I5 (stat I5 n5) st5 stop
      refine thnF td fun r s6 ⟨hr, I6⟩ => ?_
      subst hr
      -- back in the def's context
      have I7 : Inv X pins σ H5 s6 := I3.call' (ch := fp) I6.os I6.base I6.hok I6.bare fun b hb => ⟨(f3 b hb).1.2.2.2.1, (f3 b hb).1.2.1, (f3 b hb).1.2.2.2.2.1, (f3 b hb).1.2.2.2.2.2⟩
      have nC : H5 s3.heap.objs.size = none := by
        have z : H5 ce.locals = none := I6.free
        rw [cL] at z
        exact z
      obtain ⟨m, hn, _⟩ := I6.loc
      have hn : s6.heap.Ns ce.locals m := hn
      rw [cL] at hn
      exact hRR D s3.heap.objs.size s6 m H5 I7 qq hn (I3.fpOk (Nat.le_refl _) nC)
    · have ti := T.item ((X.blk s3 H3 scope ce fp).tr ([] ++ (X.pn ++ pins)) (fun _ _ => False)) rfl rfl rfl hcb i [] s5 _ H5 (fun _ _ => False) I5 (stat I5 n5) st5 go
      refine thnF ti fun r s6 ⟨u, hr, h6⟩ => ?_
      subst hr
      refine thnF h6 fun _ s7 ⟨x, H7, I7, r7, y7, st7, n7⟩ => ?_
      have I7' := I7.pinned (stat I7 n7) (T.obj _ _ st7)
      refine thnF (pg.run _ s7 _ H7 x u _ I7' r7 (step x H7 y7)) fun _ s8 ⟨σ8, H8, I8, hw8, q8⟩ => ?_
      refine thnF (pt.run _ s8 σ8 H8 _ I8 q8) fun b s9 ⟨H9, I9, q9⟩ => ?_
      -- the turn's end
      have fin : ∀ {s' : Shared} {H' : Hp}, Inv ((X.blk s3 H3 scope ce fp).tr ([] ++ (X.pn ++ pins)) (fun _ _ => False)) ([] ++ pinsAt fp s7.heap) σ8 H' s' → Nx H' → ∃ m, m < n ∧ ∃ i H', Inv ((X.blk s3 H3 scope ce fp).tr ([] ++ (X.pn ++ pins)) (fun _ _ => False)) [] (wipe σ (own.map (·.2))) H' s' ∧ tn i s'.heap ∧ (∀ b ∈ fp, H' b = none) ∧ W i m H' := fun {s' H'} I' nx => by
        obtain ⟨m', hm, w'⟩ := hNx H' nx
        have pin' : ∀ b ∈ fp, ∀ o, s7.heap.get? b = some o → s'.heap.get? b = some o ∧ H' b = none := fun b hb o e =>
          let z := I'.pin (b, o) (List.mem_append_right _ (List.mem_append_right _ (mem_pinsAt hb e)))
          ⟨z.1, z.2.1⟩
        have hl : (wipe σ (own.map (·.2))).length = σ8.length := by rw [← hw8, wipe_length]
        refine ⟨m', hm, i + 1, H', (I'.unpinned (pins := [])).weak hl (fun j v e => ?_), T.keep _ _ _ st7 fun b hb o e => (pin' b hb o e).1, fun b hb => ?_, w'⟩
        · rw [← hw8] at e
          exact (wipe_some e).1
        · obtain ⟨o, e, _⟩ := T.obj _ _ st7 b hb
          exact (pin' b hb o e).2
      cases b with
      | false =>
        simp only [Bool.false_eq_true, if_false] at q9 ⊢
        exact fin I9 q9
      | true =>
        simp only [if_true] at q9 ⊢
        refine thnF (pe.run _ s9 σ8 H9 _ I9 q9) fun z s10 ⟨yv, H10, I10, r10, acc, hD10, hz10, nx⟩ => ?_
        exact app_ok (X := (X.blk s3 H3 scope ce fp).tr ([] ++ (X.pn ++ pins)) (fun _ _ => False)) I10 hD10 hz10 r10 fun s11 I11 => fin I11 nx
  exact codeAny_compStart_list loop (T.self X.A 0 _ _ _ st4 loop)
/-- as a value -/
theorem pe_lcH {elt tg iter : Expr} {ifs : List Expr} {scope : Scope} {own : List (Str × Nat)} {pos : Pos} {wi : TI} {g : TG} {tt : TT} {te : TE} (hc : L2H.HotC X) (hN : X.N.Nodup) (hi : L2H.PIH X tg iter wi) (ok : BlkOk X.N X.env.scope scope own)
    (hg : ∀ (s : Shared) (H : Hp) (C : Addr) (cl : List (Str × Addr)) (fp : List Addr) (pn : List (Addr × Obj)), (∀ q ∈ X.pn, q ∈ pn) → PG ((X.blk s H scope (compEnvC scope cl C X.env) fp).tr pn (fun _ _ => False)) tg g) (ht : ∀ (s : Shared) (H : Hp) (C : Addr) (cl : List (Str × Addr)) (fp : List Addr) (pn : List (Addr × Obj)), (∀ q ∈ X.pn, q ∈ pn) → PTs ((X.blk s H scope (compEnvC scope cl C X.env) fp).tr pn (fun _ _ => False)) ifs tt)
    (he : ∀ (s : Shared) (H : Hp) (C : Addr) (cl : List (Str × Addr)) (fp : List Addr) (pn : List (Addr × Obj)), (∀ q ∈ X.pn, q ∈ pn) → PE ((X.blk s H scope (compEnvC scope cl C X.env) fp).tr pn (fun _ _ => False)) elt te) (hs : ∀ x, foldedSetIterable iter X.env x = pure x := by intro _; rfl) :
    PE X (.ListComp elt [⟨tg, iter, ifs, 0⟩] scope pos) (tLc wi g tt te (own.map (·.2))) := by
  refine ⟨fun pins s σ H Q I h => ?_⟩
  rw [eval_ListComp]
  refine lcH_core hc hN I hi ok hg ht he hs h fun D C s' m H' I' q hn f => ⟨m, hn, fun h'' sb => ?_⟩
  obtain ⟨f0, f1, f2, f3, f4, f5⟩ := f
  exact ⟨.ref D, H', I'.turned (t' := s'.toks) (fun b o hb e => (sb.2 b hb).trans e) f0 f1 f3 f4 f5, rfl, q⟩
end
theorem has_blkH {L : Kl} {X : Cx} {scope : Scope} (hL : L.hot = true) (h : L.Has X) (s : Shared) (H : Hp) (C : Addr) (cl : List (Str × Addr)) (fp : List Addr) (pn : List (Addr × Obj)) (hp : ∀ q ∈ X.pn, q ∈ pn) : (L.blk scope).Has ((X.blk s H scope (compEnvC scope cl C X.env) fp).tr pn (fun _ _ => False)) where
  P := h.P
  w := h.w
  K := h.K
  mg := h.mg
  base := h.base
  N := h.N
  sc := by show relS scope X.env.scope = _; rw [h.sc]; rfl
  nd := h.nd
  calm := h.calm
  room := h.room
  hotc := fun z => by
    obtain ⟨⟨p, h1, h2⟩, h3⟩ := h.hotc hL
    exact ⟨⟨p, h1, hp p h2⟩, h3⟩
  un := h.un
  code := h.code
  own := PassesOwn.never
  tk := takesF
  fn := fun _ e => e
  frm := fun z => by cases z
theorem xf_lcH {L : Kl} {pos : Pos} {elt tg iter : Expr} {ifs : List Expr} {scope : Scope} {own : List (Str × Nat)} {is : List Nat} {fi : M (List D)} {g : AsD} {ft : M Bool} {fe : M D} (hL : L.hot = true) (hi : XI L tg iter fi) (ok : BlkOk L.N L.sc scope own) (hvs : ∀ i ∈ is, i ∈ own.map (·.2))
    (hg : XG (L.blk scope) tg is g) (ht : XIfs (L.blk scope) ifs ft) (he : XD (L.blk scope) elt fe) : XF L (.ListComp elt [⟨tg, iter, ifs, 0⟩] scope pos) (mLc (own.map (·.2)) fi g ft fe) := by
  obtain ⟨fs, _, wi, hpi, hri⟩ := hi
  obtain ⟨⟨gt, hpg, hrg⟩, _⟩ := hg
  obtain ⟨tt, hpt, hrt⟩ := ht
  obtain ⟨_, te, hpe, hre⟩ := he
  exact ⟨fun _ _ => rfl, tLc wi gt tt te (own.map (·.2)), fun X hX => pe_lcH (hX.hotc hL).1 (by rw [hX.N]; exact hX.nd) ((hpi X hX).2 hL) (by rw [hX.N, hX.sc]; exact ok) (fun s H C cl fp pn hp => hpg _ (has_blkH hL hX s H C cl fp pn hp)) (fun s H C cl fp pn hp => hpt _ (has_blkH hL hX s H C cl fp pn hp)) (fun s H C cl fp pn hp => hpe _ (has_blkH hL hX s H C cl fp pn hp)) (fs _), reads_lc (elt := elt) (tg := tg) (iter := iter) (scope := scope) hri hvs hrg hrt hre⟩
end FF
end
section
set_option Elab.async false
set_option linter.all false
set_option maxRecDepth 100000
set_option maxHeartbeats 2000000
/-! GenAll0: all(.. for tg in iter for ..) where the first walk is empty. -/
namespace FF
open PySem PySem.Spec PyProof.Rows L2 GenW
theorem eval_GeneratorExp2 (elt target iter : Expr) (ifs : List Expr) (c1 : Comprehension) (scope : Scope) (pos : Pos) (env : Env) (hco : scope.isCoroutine = false) :
    eval (.GeneratorExp elt [⟨target, iter, ifs, 0⟩, c1] scope pos) env = (do
      let x ← eval iter env
      standAt iter.pos
      let x ← genFold iter env x
      let it ← holding [x] (pyIter x)
      enterFrame
      let cl ← closureFor scope env
      let code ← genexprCode env pos (env.qual ++ "<genexpr>") scope
      let bi ← builtinsFor env.globals env.builtins
      let cenv ← newFunctionEnv scope env.globals cl [(".0", it)] (env.qual ++ "<genexpr>.") none code none bi
      newGenerator (.compStart (.GeneratorExp elt [⟨target, iter, ifs, 0⟩, c1] scope pos) 0 it .none cenv) "<genexpr>" (env.qual ++ "<genexpr>")) := by
  rw [arm_eval_GeneratorExp]
  simp only [hco, Bool.false_eq_true, if_false]
  cases iter <;> rfl

section
variable {M : Model} {A : Around} {E : Value → Shared → Prop} {s : Shared}
theorem wpAny_GeneratorExp_make2 {env : Env} {elt target iter : Expr} {ifs : List Expr} {c1 : Comprehension} {scope : Scope} {cl : List (Str × Addr)} {pos : Pos} {Q : Value → Shared → Prop}
    (hco : scope.isCoroutine = false) (hclos : closureFor scope env = pure cl) (hcell : ∀ y ∈ scope.names, y.2 ≠ .cell) (h0 : scope.names.lookup (".0" : Str) = some NameKind.local) (hkind : scope.kind = .function)
    (hroom : A.depth < recursionLimit)
    (h : wpAny M A (eval iter env) (fun xv s₁ => wpAny M A (pyIter xv) (fun it s₂ => s₂.heap.NoLimit ∧
      wpAny M A (genexprCode env pos (env.qual ++ "<genexpr>") scope) (fun code s₃ => wpAny M A (builtinsFor env.globals env.builtins) (fun bi s₄ =>
        ∀ h', h'.Ns s₄.heap.objs.size (fun y => if y = ".0" then some it else none) → Heap.SameBut s₄.heap.objs.size (s₄.heap.push { cls := .type "frame", data := .dict #[] }) h' →
          Q (.ref h'.objs.size) { s₄ with
            gens := s₄.gens.push (.fresh (.compStart (.GeneratorExp elt [⟨target, iter, ifs, 0⟩, c1] scope pos) 0 it .none (genEnv scope cl s₄.heap.objs.size code bi env))),
            toks := s₄.toks + 1 + 1 + 1,
            heap := h'.push { cls := .type "generator", data := .fields #[.int s₄.gens.size 0, .str "<genexpr>" (s₄.toks + 1), .str (env.qual ++ "<genexpr>") (s₄.toks + 1 + 1)] } }) E s₃) E s₂) E s₁) E s)
    (hs : ∀ x, genFold iter env x = pure x) :
    wpAny M A (eval (.GeneratorExp elt [⟨target, iter, ifs, 0⟩, c1] scope pos) env) Q E s := by
  rw [eval_GeneratorExp2 _ _ _ _ _ _ _ _ hco, hclos]
  refine wpAny_bind (wpAny_mono h (fun xv s₁ h₁ => ?_) fun _ _ e => e)
  refine wpAny_bind (wpAny_standAt ?_)
  refine wpAny_bind (wpAny_of_eq (hs xv) ?_)
  refine wpAny_bind (wpAny_holding (wpAny_mono h₁ (fun it s₂ h₂ => ?_) fun _ _ e => e))
  refine wpAny_bind (wpAny_enterFrame h₂.1 hroom ?_)
  refine wpAny_bind (wpAny_pure ?_)
  refine wpAny_bind (wpAny_mono h₂.2 (fun code s₃ h₃ => ?_) fun _ _ e => e)
  refine wpAny_bind (wpAny_mono h₃ (fun bi s₄ h₄ => ?_) fun _ _ e => e)
  have hbinds : ∀ y ∈ ([((".0" : Str), it)] : List (Str × Value)), scope.names.lookup y.1 = some NameKind.local := by
    intro y hy
    rcases List.mem_cons.mp hy with rfl | hy
    · exact h0
    · cases hy
  refine wpAny_bind (wpAny_newFunctionEnv hcell hbinds (fun h' hn' hs' => ?_) hkind)
  have e : (fun y : Str => ([((".0" : Str), it)] : List (Str × Value)).reverse.lookup y) = fun y : Str => if y = (".0" : Str) then some it else none := by
    funext y
    by_cases hy : y = ".0"
    · subst hy; simp
    · have : (y == (".0" : Str)) = false := by simpa using hy
      simp [List.lookup, this, hy]
  rw [e] at hn'
  simp only [newGenerator, newFields]
  refine wpAny_bind (wpAny_newGen (wpAny_bind (wpAny_mkText (wpAny_bind (wpAny_mkText (wpAny_newObj_type ?_ (by size_fits)))))))
  exact h₄ h' hn' hs'
end
theorem compTurn_gen0 (elt target iter : Expr) (c1 : Comprehension) (scope : Scope) (pos : Pos) (it acc : Value) (env : Env) :
    ∃ K : Value → Sem Fin, compTurn (.GeneratorExp elt [⟨target, iter, [], 0⟩, c1] scope pos) 0 it acc env = (do
      standAt iter.pos
      match ← pyNext it with
      | none => pure (.done .next)
      | some v => K v) := ⟨_, by unfold compTurn; rfl⟩
section
variable {Xg : Cx} {A : Around} {elt tg iter : Expr} {c1 : Comprehension} {scope : Scope} {pos : Pos} {it : Addr} {fp : List Addr} {tn : Nat → Heap → Prop} {J : It} {QF : Bool → Hp → Prop}
theorem seg_allLoop0 (hXA : A.over (.compLoop (.GeneratorExp elt [⟨tg, iter, [], 0⟩, c1] scope pos) 0 (.ref it) .none Xg.env) [] = Xg.A) (hc : Xg.calm = true)
    (T : Turn Xg.prog Xg.w Xg.K tg J fp it tn) (stat : ∀ H', (∀ b ∈ fp, H' b = none) → ∀ b ∈ fp, FpOk Xg [] H' b) {s₀ s : Shared} {σ : L2.St} {H : Hp} (I : Inv Xg [] σ H s) (st : tn 0 s.heap) (fr : ∀ b ∈ fp, H b = none) (stop : J.stop 0 H) (q : QF true H) :
    Seg (model Xg.prog Xg.w) A (RAll Xg QF) (YAll Xg QF) 0 s₀ (.compLoop (.GeneratorExp elt [⟨tg, iter, [], 0⟩, c1] scope pos) 0 (.ref it) .none Xg.env)
        ((model Xg.prog Xg.w).den (.compLoop (.GeneratorExp elt [⟨tg, iter, [], 0⟩, c1] scope pos) 0 (.ref it) .none Xg.env)) [] s := by
  show Seg _ A _ _ _ s₀ _ ((compTurn (.GeneratorExp elt [⟨tg, iter, [], 0⟩, c1] scope pos) 0 (.ref it) .none Xg.env).onRaise (leaving Xg.env)) [] s
  obtain ⟨K, hK⟩ := compTurn_gen0 elt tg iter c1 scope pos (.ref it) .none Xg.env
  rw [hK, Sem.onRaise_eq_wrap]
  refine seg_bind_wrap (wpAny_standAt ?_)
  refine seg_bind_wrap ?_
  rw [hXA]
  refine wpAny_mono (T.done Xg rfl rfl rfl hc 0 [] s σ H (fun _ _ => False) I (stat H fr) st stop) (fun r s1 h1 => ?_) fun _ _ z => z.elim
  obtain ⟨hr, I1⟩ := h1
  subst hr
  exact seg_end (.ok .next) ⟨rfl, σ, H, I1, q⟩
theorem seg_allStart0 (hXA : A.over (.compLoop (.GeneratorExp elt [⟨tg, iter, [], 0⟩, c1] scope pos) 0 (.ref it) .none Xg.env) [] = Xg.A)
    (T : Turn Xg.prog Xg.w Xg.K tg J fp it tn) {R : GenEnd} {Y : Protocol} {n : Nat} {s₀ s : Shared} (st : tn 0 s.heap)
    (h : Seg (model Xg.prog Xg.w) A R Y n s₀ (.compLoop (.GeneratorExp elt [⟨tg, iter, [], 0⟩, c1] scope pos) 0 (.ref it) .none Xg.env)
        ((model Xg.prog Xg.w).den (.compLoop (.GeneratorExp elt [⟨tg, iter, [], 0⟩, c1] scope pos) 0 (.ref it) .none Xg.env)) [] s) :
    Seg (model Xg.prog Xg.w) A R Y n s₀ (.compStart (.GeneratorExp elt [⟨tg, iter, [], 0⟩, c1] scope pos) 0 (.ref it) .none Xg.env)
        ((model Xg.prog Xg.w).den (.compStart (.GeneratorExp elt [⟨tg, iter, [], 0⟩, c1] scope pos) 0 (.ref it) .none Xg.env)) [] s := by
  show Seg _ A _ _ _ s₀ _ ((compStart (.GeneratorExp elt [⟨tg, iter, [], 0⟩, c1] scope pos) 0 (.ref it) .none Xg.env).onRaise (leaving Xg.env)) [] s
  unfold compStart
  rw [Sem.onRaise_eq_wrap]
  show Seg _ A _ _ _ s₀ _ ((ask >>= _).wrap _ _ _ _) [] s
  refine seg_bind_wrap (wpAny_askSetting ?_)
  split
  · exact seg_again rfl h
  · refine seg_bind_wrap (wpAny_rule ?_)
    show Seg _ A _ _ _ s₀ _ ((standAt iter.pos >>= _).wrap _ _ _ _) [] s
    exact seg_bind_wrap (wpAny_standAt (seg_bind_wrap (T.self _ 0 s _ _ st (seg_again rfl h))))
end
theorem over_gen0 {A : Around} {elt tg iter : Expr} {scope : Scope} {c1 : Comprehension} {pos : Pos} {it acc : Value} {env : Env} :
    A.over (.compLoop (.GeneratorExp elt [⟨tg, iter, [], 0⟩, c1] scope pos) 0 it acc env) [] = A.deeper env := by
  first
    | rfl
    | (obtain ⟨hd, d, fr, gs, u⟩ := A; simp [Around.over, Around.deeper, marksOver, frameCount, unitsOf, envsOf, guardsOf, pushEnvs, pushGuards, Code.envs, Code.env?, Code.isFrame, Code.guards, Code.isGuard, Code.weight, Code.frames, Code.isCreation, Code.isCaller, Code.cUnits])
def tAll0 (P : Addr) (wi : TI) : TE := fun σ H Q => wi σ H fun J H1 => GxR.TabG H1 P ∧ ∀ H2, GxR.Tabbed P H1 H2 → J.stop 0 H2 ∧ Q (.bl true) H2
section
variable {X : Cx}
theorem pe_allG0 {c P : Addr} {elt tg iter : Expr} {p pos gpos : Pos} {scope : Scope} {own : List (Str × Nat)} {wi : TI} {c1 : Comprehension} {k : Nat}
    (hc : X.calm = true) (hN : X.N.Nodup) (hr : Room (k + 1) X.A) (hg : Gl X "all") (hm : X.mg "all" = none) (hb : bootBuiltins "all" = some (.builtin "all")) (TB : GxR.TabB X.base X.mg c P) (hcode : X.env.code = .ref c) (S : GSc X.N X.env.scope scope own)
    (hi : PI X tg iter wi)
    (hs : ∀ v, genFold iter X.env v = pure v)
    (he : starEach [.GeneratorExp elt [⟨tg, iter, [], 0⟩, c1] scope gpos] X.env = (false, eval (.GeneratorExp elt [⟨tg, iter, [], 0⟩, c1] scope gpos) X.env) :: starEach [] X.env := by rfl) :
    PE X (.Call (.Name "all" p) [.GeneratorExp elt [⟨tg, iter, [], 0⟩, c1] scope gpos] [] pos) (tAll0 P wi) := by
  refine ⟨fun pins s σ H Q I h => ?_⟩
  refine wpAny_Call_Name_kw (ld_blt I hg hm hb ?_)
  refine PyProof.Rows.callWith_builtin1 ?_ he (by rfl)
  rw [he]
  show wpAny _ _ (spliced ((false, eval (.GeneratorExp elt [⟨tg, iter, [], 0⟩, c1] scope gpos) X.env) :: backTo pos (starEach [] X.env))) _ _ s
  have hfree : ∀ y ∈ scope.names, y.2 = .free → ∃ c, X.env.cells.lookup y.1 = some c := fun y hy e => by
    rcases S.blk.free y hy e with k | k
    · exact I.ok.has _ (.inl k)
    · exact I.ok.has _ (.inr k)
  refine Calls.spliced_cons ?_
  refine wpAny_GeneratorExp_make2 S.co (closure_ok hfree) S.cell S.dot S.blk.kind (by have := hr.dp; omega) ?_ hs
  refine thn (hi.run pins s σ H _ I h) fun xv s1 hx => thn hx fun itv s2 h2 => ?_
  obtain ⟨it, fp, tn, J, H2, e, I2, T, st2, f2, ⟨ps, hP, ht⟩, h0⟩ := h2
  subst e
  refine ⟨I2.nolimit, ?_⟩
  have hPs : s2.heap.get? P = some { cls := .none, data := .fields ps } := I2.hok P _ hP
  have cd : PySem.W.CodeHd s2.heap c P := TB.code.keeps fun b u e => I2.bk b u e
  have f2' : ∀ b ∈ fp, FpOk X pins H2 b ∧ b ≠ P := fun b hb => ⟨f2 b hb, fun z => by
    have := (f2 b hb).1
    rw [z, hP] at this
    cases this⟩
  have cont : ∀ (code : Value) (h3 : Heap) (tk : Nat) (ps' : Array Value), Heap.ExtBut P s2.heap h3 → s2.heap.objs.size ≤ h3.objs.size → h3.get? P = some { cls := .none, data := .fields ps' } → (∃ more, ps' = ps ++ more) → TriplesOk ps'.toList →
      wpAny (model X.prog X.w) X.A (builtinsFor X.env.globals X.env.builtins) (fun bi s₄ =>
        ∀ h', h'.Ns s₄.heap.objs.size (fun y => if y = ".0" then some (Value.ref it) else none) → Heap.SameBut s₄.heap.objs.size (s₄.heap.push { cls := .type "frame", data := .dict #[] }) h' →
          wpAny (model X.prog X.w) X.A (spliced (backTo pos (starEach [] X.env))) (fun us s' => wpAny (model X.prog X.w) X.A (call (.builtin "all") (Value.ref h'.objs.size :: us)) (EP X pins σ Q) X.xe s') X.xe { s₄ with
            gens := s₄.gens.push (.fresh (.compStart (.GeneratorExp elt [⟨tg, iter, [], 0⟩, c1] scope gpos) 0 (.ref it) .none (genEnv scope (cloFrom X.env.cells scope.names []) s₄.heap.objs.size code bi X.env))),
            toks := s₄.toks + 1 + 1 + 1,
            heap := h'.push { cls := .type "generator", data := .fields #[.int s₄.gens.size 0, .str "<genexpr>" (s₄.toks + 1), .str (X.env.qual ++ "<genexpr>") (s₄.toks + 1 + 1)] } }) X.xe { s2 with heap := h3, toks := tk } := by
    intro code h3 tk ps' hx hsz hP3 hmore ht3
    obtain ⟨bm, ob, e1, e2, e3, e4, e5, e6, e7, e8⟩ := TB.bm
    obtain ⟨more, em⟩ := hmore
    have keep3 : ∀ b u, b ≠ P → s2.heap.get? b = some u → h3.get? b = some u := fun b u hb e => hx b u hb e
    have I3 : Inv X pins σ (upd H2 P (.tbl (ps ++ more))) { s2 with heap := h3, toks := tk } := GxR.inv_tab (more := more) (h' := h3) (g' := s2.gens) (d' := s2.drawn) (t' := tk) I2 hP keep3 (by rw [← em]; exact hP3) I2.bare
    refine wpAny_builtinsFor (m := X.mg) (by rw [I2.ok.glob]; exact (I2.mod.glob.keeps I2.bk).extBut hx TB.gP) e1 e2 (keep3 _ _ e4 (I2.bk _ _ e5)) e6 e7 e8 ?_
    intro h' hn' hs'
    refine Calls.spliced_nil ?_
    have f3 : ∀ b ∈ fp, FpOk X pins (upd H2 P (.tbl (ps ++ more))) b ∧ b < h3.objs.size := fun b hb => by
      refine ⟨⟨by rw [upd_ne (f2' b hb).2]; exact (f2 b hb).1, (f2 b hb).2⟩, ?_⟩
      obtain ⟨o, e, _⟩ := T.obj _ _ st2 b hb
      exact Nat.lt_of_lt_of_le (Heap.lt_size e) hsz
    have hsz' : h'.objs.size = h3.objs.size + 1 := by rw [hs'.1]; exact Heap.size_push ..
    have keep' : ∀ b o, h3.get? b = some o → h'.get? b = some o := fun b o e => hs'.extBut b o (Nat.ne_of_lt (Heap.lt_size e)) (Heap.get?_push_of_some _ e)
    generalize hgo : ({ cls := .type "generator", data := .fields #[.int s2.gens.size 0, .str "<genexpr>" (tk + 1), .str (X.env.qual ++ "<genexpr>") (tk + 1 + 1)] } : Obj) = go
    have hgen : ∀ h : Heap, h.get? h'.objs.size = some go → h.IsGen h'.objs.size s2.gens.size := fun h e => by
      rw [← hgo] at e
      exact ⟨_, _, _, e, rfl, rfl, rfl⟩
    have hpushed : (h'.push go).get? h'.objs.size = some go := by
      rw [← hgo]
      exact Heap.get?_push_size _ rfl
    have keep5 : ∀ b o, h3.get? b = some o → (h'.push go).get? b = some o := fun b o e => Heap.get?_push_of_some _ (keep' b o e)
    have hgd : ∀ v, go.data ≠ .cell v := fun v q => by
      rw [← hgo] at q
      cases q
    have hTab : GxR.Tabbed P H2 (upd H2 P (.tbl (ps ++ more))) := ⟨⟨ps ++ more, upd_same, by rw [← em]; exact ht3⟩, fun b hb => upd_ne hb⟩
    -- the generator's context
    have hA : (X.A.in1.in1.deeper (genEnv scope (cloFrom X.env.cells scope.names []) h3.objs.size code builtinsNs X.env)).handled = none := hr.hd
    have hAf : (X.A.in1.in1.deeper (genEnv scope (cloFrom X.env.cells scope.names []) h3.objs.size code builtinsNs X.env)).frames = some (genEnv scope (cloFrom X.env.cells scope.names []) h3.objs.size code builtinsNs X.env :: X.stack) := Around.frames_deeper I3.ok.frames
    have Ig := gen_inv (s := { s2 with heap := h3, toks := tk }) (s' := { s2 with gens := s2.gens.push (.fresh (.compStart (.GeneratorExp elt [⟨tg, iter, [], 0⟩, c1] scope gpos) 0 (.ref it) .none (genEnv scope (cloFrom X.env.cells scope.names []) h3.objs.size code builtinsNs X.env))), toks := tk + 1 + 1 + 1, heap := h'.push go })
      (fp := fp) (a := h'.objs.size) (go := go) (code := code) I3 S.blk hN S.cell f3 hA hAf keep5 ⟨_, hn'.push _⟩ rfl (AllBare.push I2.bare rfl) hpushed (by show h3.objs.size < h'.objs.size; omega) hgd
    have tn5 : tn 0 (h'.push go) := T.keep _ _ _ st2 fun b hb o e => keep5 b o (keep3 b o (f2' b hb).2 e)
    have stat : ∀ H', (∀ b ∈ fp, H' b = none) → ∀ b ∈ fp, FpOk (gcx X (X.A.in1.in1.deeper (genEnv scope (cloFrom X.env.cells scope.names []) h3.objs.size code builtinsNs X.env)) { s2 with heap := h3, toks := tk } (upd H2 P (.tbl (ps ++ more))) scope (genEnv scope (cloFrom X.env.cells scope.names []) h3.objs.size code builtinsNs X.env) fp [(h'.objs.size, go)]) [] H' b := fun H' hn b hb => by
      refine ⟨hn b hb, Nat.ne_of_lt (f3 b hb).2, fun z => Ig.ok.exfs b hb z, .inl hb, fun x c e => (Ig.ok.exf b hb).2 x c e, fun q hq => ?_⟩
      have hq' : q = (h'.objs.size, go) := by simpa using hq
      subst hq'
      exact Nat.ne_of_gt (Nat.lt_trans (f3 b hb).2 (by omega : h3.objs.size < h'.objs.size))
    -- the call of all
    refine call_function_tree F.kind_all F.plain_all F.entry_all (F.args_all1 _) ?_
    unfold Builtin.«all»
    refine wpAny_bind (m := oneArg "all" _) (wpAny_pure ?_)
    refine wpAny_bind (wpAny_pyIter_gen (s := { s2 with gens := _, toks := _, heap := _ }) (hgen _ hpushed) ?_)
    refine wpAny_pure ⟨plainId_quiet F.plain_all_loop _, ?_⟩
    obtain ⟨hstop, hq0⟩ := h0 _ hTab
    refine all_drain (Xg := (gcx X (X.A.in1.in1.deeper (genEnv scope (cloFrom X.env.cells scope.names []) h3.objs.size code builtinsNs X.env)) { s2 with heap := h3, toks := tk } (upd H2 P (.tbl (ps ++ more))) scope (genEnv scope (cloFrom X.env.cells scope.names []) h3.objs.size code builtinsNs X.env) fp [(h'.objs.size, go)])) (A := X.A) (go := go) (QF := fun b H' => Q (.bl b) H') hr.hd (by have := hr.dp; omega) (fun h e => hgen h e) (List.mem_singleton.mpr rfl) (fun b s' hq => ?_) 0 _ (hgen _ hpushed) (Ig.nolimit) Ig.bare
      ⟨_, Array.getElem?_push_size .., rfl, seg_allStart0 (Xg := (gcx X (X.A.in1.in1.deeper (genEnv scope (cloFrom X.env.cells scope.names []) h3.objs.size code builtinsNs X.env)) { s2 with heap := h3, toks := tk } (upd H2 P (.tbl (ps ++ more))) scope (genEnv scope (cloFrom X.env.cells scope.names []) h3.objs.size code builtinsNs X.env) fp [(h'.objs.size, go)])) (A := X.A.in1.in1) over_gen0 T tn5 (seg_allLoop0 (Xg := (gcx X (X.A.in1.in1.deeper (genEnv scope (cloFrom X.env.cells scope.names []) h3.objs.size code builtinsNs X.env)) { s2 with heap := h3, toks := tk } (upd H2 P (.tbl (ps ++ more))) scope (genEnv scope (cloFrom X.env.cells scope.names []) h3.objs.size code builtinsNs X.env) fp [(h'.objs.size, go)])) over_gen0 hc T stat (Inv.keptS Ig ⟨rfl, allBare_setGen Ig.bare rfl, fun _ _ e => e⟩) tn5 (fun b hb => (f3 b hb).1.1) hstop hq0)⟩
    obtain ⟨σg, H', Ig', q⟩ := hq
    exact ⟨.bl b, H', gen_back I3 f3 Ig', rfl, q⟩
  cases hf : codeAmong gpos ps.toList with
  | none =>
    refine wpAny_genexprCodeX hcode (cd.code hPs ht) (cd.tab hPs) hf fun c' h' tk hx hge hlt hco' _ htab' _ => ?_
    obtain ⟨o1, vs, f1, tf, fl, tg', inF, tx, tt, op, _, _, _, _, _, _, _, _, _, htr, _⟩ := hco'
    exact cont _ h' tk _ hx (Nat.le_trans hge (Nat.le_of_lt hlt)) htab'.2 ⟨_, rfl⟩ htr
  | some cv =>
    refine wpAny_genexprCode_hit hcode (cd.code hPs ht) hf ?_
    exact cont cv s2.heap s2.toks ps (Heap.ExtBut.refl _ _) (Nat.le_refl _) hPs ⟨#[], by simp⟩ ht
end
end FF
end
section
set_option Elab.async false
set_option linter.all false
set_option maxRecDepth 100000
set_option maxHeartbeats 2000000
namespace FF
open PySem PySem.Spec PyProof.Rows L2 RZ
def mAll0 (fi : M (List D)) : M D := mBind fi fun ds => mOpt (if ds.isEmpty = true then some (.bool true) else none)
theorem xd_all0 {L : Kl} {pos : Pos} {c P : Addr} {elt tg iter : Expr} {c1 : Comprehension} {p gpos : Pos} {scope : Scope} {own : List (Str × Nat)} {fi : M (List D)} {k : Nat} (hL : L.hot = false) (hk : L.k = k + 1) (hg : L.sc.names.lookup ("all" : Str) = some NameKind.globalImplicit) (hm : L.mg "all" = none)
    (hb : bootBuiltins "all" = some (.builtin "all")) (TB : GxR.TabB L.base L.mg c P) (hcd : L.cd = some c) (hP : P ∈ L.T) (S : GSc L.N L.sc scope own) (hi : XI L tg iter fi) :
    XD L (.Call (.Name "all" p) [.GeneratorExp elt [⟨tg, iter, [], 0⟩, c1] scope gpos] [] pos) (mAll0 fi) := by
  obtain ⟨_, gf, wi, hpi, hri⟩ := hi
  refine ⟨fun _ _ => rfl, tAll0 P wi, fun X hX => ?_, fun Z W δ σ H r δ' s e => ?_⟩
  · exact pe_allG0 (k := k) (hX.calm hL) (by rw [hX.N]; exact hX.nd) (by rw [← hk]; exact hX.room hL) (by show X.env.scope.names.lookup ("all" : Str) = _; rw [hX.sc]; exact hg) (by rw [hX.mg]; exact hm) hb (by rw [hX.base, hX.mg]; exact TB) (hX.code c hcd) (by rw [hX.N, hX.sc]; exact S) ((hpi X hX).1 hL) (gf _)
  · refine R_seq (κ := V) (τa := wi σ H) (fun r1 δ1 e1 => hri Z W δ σ H r1 δ1 s e1) e fun ds δ1 J W1 H1 s1 st1 hJ e1 => ?_
    obtain ⟨d, hd, rfl, rfl⟩ := mOpt_inv e1
    split at hd
    · rename_i he
      cases hd
      have e0 : ds = [] := by cases ds <;> first | rfl | cases he
      subst e0
      intro Q q
      refine ⟨s1.tabs P hP, fun H2 tb => ?_⟩
      have gr := gr_tabbed (s1.tabs P hP) tb
      have s2 := s1.gr gr
      exact ⟨(hJ W1 H2 (Step.of_gr gr) s2.all).2.1, q _ W1 H2 s2 (Step.of_gr gr) (.bl _)⟩
    · cases hd
end FF
end
section
set_option Elab.async false
set_option linter.all false
set_option maxRecDepth 100000
set_option maxHeartbeats 2000000
/-! FFHot2: a, b = x, y while an exception is handled (the proofs follow PyProof.Rows.TupIter and HandS.Base's ps_par, the iterator's end as HandS.Hot); a, b = [..], y. -/
namespace FF
open PySem PySem.Spec PyProof.Rows L2
section
variable {prog : Program} {w : World} {A : Around} {E : Value → Shared → Prop} {s : Shared}
theorem next_tuple_endH {it t : Addr} {i : Nat} {items} {Q : Option Value → Shared → Prop} {x1 : Addr} (hot : HotX.HotAt A x1 s.heap) (hx1 : x1 ≠ it)
    (hit : IsTupIter s.heap it t i) (ht : IsTup s.heap t items) (hx : items[i]? = none)
    (hQ : ∀ h', Heap.ExtBut it s.heap h' → Q none { s with heap := h' }) : wpAny (model prog w) A (pyNext (.ref it)) Q E s := by
  obtain ⟨o, ho, hc, hd⟩ := id hit
  obtain ⟨ol, hol, _, nl, hdl⟩ := ht
  unfold pyNext
  refine wpAny_bind (wpAny_attempt (wpAny_callSpecial?_slot (name := Str.ofString "__next__") hit.typeIs slot_tupleiter_next
    (wpAny_call_entry slot_tupleiter_next hit.typeIs entry_tupleiter_next ?_ (args_tupleiter_next _))))
  show wpAny _ _ (field (.ref it) 0 >>= _) _ _ s
  refine wpAny_bind (wpAny_field ho hd (x := .ref t) rfl ?_)
  show wpAny _ _ (if (Value.ref t == Value.none) = true then _ else _) _ _ s
  rw [if_neg (show ¬ ((Value.ref t == Value.none) = true) from Bool.false_ne_true)]
  show wpAny _ _ (field (.ref it) 1 >>= _) _ _ s
  refine wpAny_bind (wpAny_field ho hd (x := .int i 0) rfl ?_)
  show wpAny _ _ (seqItems? (.ref t) >>= _) _ _ s
  refine wpAny_bind (wpAny_seqItems hol hdl ?_)
  simp only [Int.toNat_natCast, hx]
  refine wpAny_bind (wpAny_rule (wpAny_bind (wpAny_setField ho hd (by simp) ?_)))
  show wpAny _ _ (newExc (.type "StopIteration") [] >>= _) _ _ _
  refine wpAny_bind ?_
  simp only [newExc, newTuple]
  refine wpAny_bind (wpAny_newObj_type ?_ (by size_fits))
  refine wpAny_bind (m := firstArgMember _ _) (wpAny_of_eq (a := Value.none) (by first | rfl | (simp only [firstArgMember]; rfl)) ?_)
  refine wpAny_newObj_type ?_ (by size_fits)
  obtain ⟨hh, o1, vs1, h1, d1, c1⟩ := hot
  have sb : Heap.SameBut it s.heap (s.heap.update it (Obj.mapFields (·.setIfInBounds 0 .none))) := Heap.SameBut.update ..
  have h1' := (sb.2 x1 hx1).trans h1
  refine HotX.raiseNew_hot ⟨hh, o1, vs1, Heap.get?_push_of_some _ (Heap.get?_push_of_some _ h1'), d1, c1⟩ (Nat.ne_of_lt (Heap.lt_size (Heap.get?_push_of_some _ h1'))) (Heap.get?_push_size _ rfl) rfl (by first | (simp; done) | (simp; omega) | (simp only [Array.size_append]; simp; omega)) ?_
  refine wpAny_bind (wpAny_isInstance (T := "StopIteration") (b := true) ⟨_, Heap.get?_update_self _ (Heap.get?_push_size _ rfl) rfl, rfl⟩ isSubtype_stop ?_)
  refine wpAny_pure (hQ _ fun b o hb e => ?_)
  have e' := (sb.2 b hb).trans e
  rw [Heap.get?_update_other _ _ (Nat.ne_of_gt (Heap.lt_size (Heap.get?_push_of_some _ e')))]
  exact Heap.get?_push_of_some _ (Heap.get?_push_of_some _ e')
theorem unpackItems_tupleH {t : Addr} {items : Array Value} {Q : List Value → Shared → Prop} {x1 : Addr} (hot : HotX.HotAt A x1 s.heap) (ht : IsTup s.heap t items)
    (hQ : ∀ h', Heap.ExtBut s.heap.objs.size s.heap h' → Q items.toList { s with heap := h' }) : wpAny (model prog w) A (unpackItems (.ref t) items.size none) Q E s := by
  have hlt : t ≠ s.heap.objs.size := by obtain ⟨o, ho, _⟩ := ht; exact Nat.ne_of_lt (Heap.lt_size ho)
  unfold unpackItems
  refine wpAny_bind ?_
  · unfold notIterableAtAll
    refine wpAny_bind (wpAny_specialOf ht.typeIs slot_tuple_iter.lookup ?_)
    refine wpAny_pure ?_
    simp only [Bool.false_eq_true, if_false]
    refine wpAny_bind (wpAny_holding (iter_tuple ht ?_))
    refine wpAny_bind (wpAny_holding (draw_tuple hlt items.size 0 _ _ ⟨_, Heap.get?_push_size _ rfl, rfl, rfl⟩ (ht.push _) (by omega) fun h₁ hit₁ hs₁ => ?_))
    have hall : List.take items.size (List.drop 0 items.toList) = items.toList := by
      rw [List.drop_zero]; exact List.take_of_length_le (by simp)
    rw [hall]
    rw [if_neg (by simp)]
    have ht₁ : IsTup h₁ t items := (ht.push _).extBut hs₁.extBut hlt
    refine wpAny_bind (wpAny_holding (next_tuple_endH (x1 := x1) ?hotA ?hotB hit₁ ht₁ (by simp) fun h₂ he₂ => ?_))
    case hotA =>
      obtain ⟨q1, o1, v1, q2, q3, q4⟩ := hot
      exact ⟨q1, o1, v1, hs₁.extBut x1 o1 (Nat.ne_of_lt (Heap.lt_size q2)) (Heap.get?_push_of_some _ q2), q3, q4⟩
    case hotB =>
      obtain ⟨q1, o1, v1, q2, q3, q4⟩ := hot
      exact Nat.ne_of_lt (Heap.lt_size q2)
    simp only [Option.isSome_none, Bool.false_eq_true, if_false]
    refine wpAny_pure (hQ h₂ fun b o hb e => he₂ b o hb (hs₁.extBut b o hb (Heap.get?_push_of_some _ e)))

end
section
variable {X : Cx} {pos : Pos}
theorem ps_parH {i j : Nat} {x y : Str} {a b : Expr} {ta : TA} {px py pt : Pos} {kt k2 pt2} (hc : L2H.HotC X) (hN : X.N.Nodup) (hi : X.N[i]? = some x) (hj : X.N[j]? = some y) (hij : i ≠ j)
    (hx : X.env.scope.names.lookup x = some .local) (hy : X.env.scope.names.lookup y = some .local) (ha : PA X [a, b] ta)
    (hw : swappedStores [.Tuple [.Name x px, .Name y py] kt pt] (.Tuple [a, b] k2 pt2) X.env = pure (some [x, y]))
    (hs : swapsWithSole [.Tuple [.Name x px, .Name y py] kt pt] (.Tuple [a, b] k2 pt2) pos.line X.env = pure false := by rfl) :
    PS X (.Assign [.Tuple [.Name x px, .Name y py] kt pt] (.Tuple [a, b] k2 pt2) pos) (tPar i j ta) := by
  refine ⟨fun pins s σ H D I h => ?_⟩
  rw [exec_Assign_arm]
  refine wpAny_bind (wpAny_standAt ?_)
  rw [hs]
  refine wpAny_bind (wpAny_pure ?_)
  rw [if_neg (by decide)]
  refine wpAny_bind (Tuple_ (thn (ha.run _ pins s σ H _ I h) fun us s1 ⟨vs, H1, I1, r1, q1⟩ => ?_))
  obtain ⟨v, w, e1, q1⟩ := q1
  subst e1
  obtain ⟨u1, u2, rfl, rv, rw'⟩ : ∃ u1 u2, us = [u1, u2] ∧ RelV v u1 ∧ RelV w u2 := by
    cases r1 with
    | cons p q =>
      cases q with
      | cons p' q' =>
        cases q'
        exact ⟨_, _, rfl, p, p'⟩
  refine wpAny_newObj_type ?_ (by show 2 ≤ sizeLine; decide)
  have I2 : Inv X pins σ H1 { s1 with heap := s1.heap.push { cls := .type "tuple", data := .seq [u1, u2].toArray } } := I1.kept (t' := s1.toks) fun b o e => Heap.get?_push_of_some _ e
  rw [hw]
  refine wpAny_bind (wpAny_pure ?_)
  show wpAny (model X.prog X.w) X.A (do rule "assign.swapped-stores"; let items ← unpackItems (.ref s1.heap.objs.size) 2 none; assignInOrder [fun v => bindName X.env y v, fun v => bindName X.env x v] items.reverse; pure Flow.next) _ _ _
  refine wpAny_bind (wpAny_rule (wpAny_bind (unpackItems_tupleH (items := #[u1, u2]) (hc.at I2).choose_spec (IsTup.new s1.heap _) fun h' hx' => ?_)))
  have I3 := I2.kept (h' := h') (t' := s1.toks) fun b o e => hx' b o (Nat.ne_of_lt (Heap.lt_size e)) e
  show wpAny _ _ (assignInOrder [fun v => bindName X.env y v, fun v => bindName X.env x v] [u2, u1] >>= fun _ => pure Flow.next) _ _ _
  refine wpAny_bind (assignInOrder_cons (wpAny_bindName (store_ok I3 hN hj (.inl hy) rw' (fun s2 I4 => ?_) (.inr hy))))
  refine assignInOrder_cons (wpAny_bindName (store_ok I4 hN hi (.inl hx) rv (fun s3 I5 => assignInOrder_nil (wpAny_pure ?_)) (.inr hx)))
  rw [List.set_comm _ _ (Ne.symm hij)] at I5
  exact ⟨_, H1, I5, q1⟩
end
section
variable {L : Kl} {pos : Pos}
def sParL (i j : Nat) (fl : M (List D)) (fb : M D) : SM := fun δ => match fl δ with
  | some (.ok xs, δ1) => (match fb δ1 with
    | some (.ok d, δ2) => some (.nx, (δ2.set i (.l false xs)).set j (.v d))
    | _ => none)
  | _ => none
/-- a, b = [..], y with plain local names -/
theorem xs_parL (i j : Nat) {x y : Str} {a b : Expr} {px py pt : Pos} {kt k2 pt2} {fl : M (List D)} {fb : M D} (hi : L.N[i]? = some x) (hj : L.N[j]? = some y) (hij : i ≠ j) (hx : L.sc.names.lookup x = some .local) (hy : L.sc.names.lookup y = some .local) (ha : XF L a fl) (hb : XD L b fb)
    (hw : ∀ env : Env, env.scope = L.sc → swappedStores [.Tuple [.Name x px, .Name y py] kt pt] (.Tuple [a, b] k2 pt2) env = pure (some [x, y])) (hs : ∀ env, swapsWithSole [.Tuple [.Name x px, .Name y py] kt pt] (.Tuple [a, b] k2 pt2) pos.line env = pure false := by intros; rfl) :
    XS L (.Assign [.Tuple [.Name x px, .Name y py] kt pt] (.Tuple [a, b] k2 pt2) pos) (sParL i j fl fb) := by
  obtain ⟨pl, ta, hp, hr⟩ := ha
  obtain ⟨pl2, tb, hp2, hr2⟩ := hb
  refine ⟨⟨tPar i j (tCons ta (tCons tb tNil)), fun X hX => ?_, fun Z W δ σ H o δ' E s h p => ?_⟩⟩
  · have pa := pa_cons (hp X hX) (pa_cons (hp2 X hX) pa_nil (pl2 _ _)) (pl _ _)
    cases hL : L.hot with
    | false => exact ps_par (i := i) (j := j) (hX.calm hL) (by rw [hX.N]; exact hX.nd) (by rw [hX.N]; exact hi) (by rw [hX.N]; exact hj) hij (by rw [hX.sc]; exact hx) (by rw [hX.sc]; exact hy) pa (hw _ hX.sc) (hs _)
    | true => exact ps_parH (i := i) (j := j) (hX.hotc hL).1 (by rw [hX.N]; exact hX.nd) (by rw [hX.N]; exact hi) (by rw [hX.N]; exact hj) hij (by rw [hX.sc]; exact hx) (by rw [hX.sc]; exact hy) pa (hw _ hX.sc) (hs _)
  · unfold sParL at h
    split at h
    · rename_i xs δ1 e1
      split at h
      · rename_i d δ2 e2
        cases h
        refine hr Z W δ σ H _ _ s e1 _ fun v W' H' s' t hv => ?_
        obtain ⟨q, vs, rfl, hw', h0, nF, hH, hd, un⟩ := hv
        refine hr2 (Z.fr q (.lst vs)) W' δ1 σ H' _ _ (s'.freeze hw' nF un (fun _ z => by cases z) hH) e2 _ fun v2 W2 H2 s2 t2 hv2 => ?_
        obtain ⟨fW, fH, fu⟩ := s2.frozen
        refine ⟨_, _, rfl, p W2 _ H2 (((s2.thaw nF).setOwn (e := .l false xs) fW nF fu ⟨q, vs, rfl, ⟨fW, by rw [if_neg Bool.false_ne_true]; exact h0⟩, fH, hd.step t2⟩).set hv2) (t.trans t2)⟩
      · cases h
    · cases h
end
end FF
end
section
set_option Elab.async false
set_option linter.all false
set_option maxRecDepth 100000
set_option maxHeartbeats 3200000
/-! FFSet: set(list of ints), set(list of texts). The two proofs follow HandS.SetFor (set of a tuple of ints) and HandS.Strs (set of at most one text). -/
namespace FF
open PySem PySem.Spec PyProof.Rows L2 RZ SS

def dedStep (acc : List Str) (x : Str) : List Str := if acc.any (· == x) = true then acc else acc ++ [x]
def ded (xs : List Str) : List Str := xs.foldl dedStep []
theorem ded_snoc (xs : List Str) (x : Str) : ded (xs ++ [x]) = dedStep (ded xs) x := by unfold ded; rw [List.foldl_append]; rfl
theorem dedStep_any (acc : List Str) (x k : Str) : (acc.any (· == k) || decide (k = x)) = (dedStep acc x).any (· == k) := by
  unfold dedStep
  split
  · rename_i h
    by_cases e : k = x
    · subst e; rw [h]; rfl
    · rw [decide_eq_false e, Bool.or_false]
  · rw [List.any_append]
    by_cases e : k = x
    · subst e; simp
    · have hb : (x == k) = false := by simpa [beq_iff_eq] using (fun h' : x = k => e h'.symm)
      simp [hb, e]
theorem dedStep_len (acc : List Str) (x : Str) : (if acc.any (· == x) = true then acc.length else acc.length + 1) = (dedStep acc x).length := by
  unfold dedStep
  split
  · rfl
  · simp
theorem dedStep_le (acc : List Str) (x : Str) : (dedStep acc x).length ≤ acc.length + 1 := by
  rw [← dedStep_len]
  split <;> omega
theorem foldl_ded_le : ∀ (xs acc : List Str), (xs.foldl dedStep acc).length ≤ acc.length + xs.length
  | [], acc => by simp
  | x :: xs, acc => by
    have h1 := foldl_ded_le xs (dedStep acc x)
    have h2 := dedStep_le acc x
    simp only [List.foldl_cons, List.length_cons]
    omega
theorem ded_le (xs : List Str) : (ded xs).length ≤ xs.length := by
  have := foldl_ded_le xs []
  show (xs.foldl dedStep []).length ≤ _
  simpa using this
section
variable {prog : Program} {w : World} {A : Around} {R : Result → Shared → Prop} {I : Addr} {fp wr : List Addr} {G : Array GenState → Array GenState → Prop} {n : Nat} {P : Nat → Value → Prop} {St : Nat → Shared → Prop}
theorem loopTxt (W : WalksS prog w A.in1 I fp wr G n P St) (S : Addr) (hSf : S ∉ fp) (xs : List Str) (hsz : xs.length = n) (hn1 : n + 1 < scanBound)
    (hval : ∀ i v, P i v → ∃ t, v = .str (xs.getD i Str.empty) t) :
    ∀ (k i : Nat) (s : Shared), n - i = k → i ≤ n → St i s →
      s.heap.SetOf (PySem.strKind prog w) S (fun k' => (ded (xs.take i)).any (· == k')) (ded (xs.take i)).length →
      (∀ s', Moved (S :: wr) G s s' → s'.heap.SetOf (PySem.strKind prog w) S (fun k' => (ded (xs.take n)).any (· == k')) (ded (xs.take n)).length → R (.ok (.ret .none)) s') →
      codeAny (model prog w) A (.builtin "set.update.loop" ⟨[.ref S, .ref I], []⟩) R s := by
  have hSw : S ∉ wr := fun h => hSf (W.sub _ h)
  have hsub : ∀ b ∈ wr, b ∈ S :: wr := fun b hb => List.mem_cons_of_mem _ hb
  intro k
  induction k with
  | zero =>
    intro i s hk hi hst hS hR
    have hin : i = n := by omega
    subst hin
    refine codeAny_builtin PyProof.Rows.F.entry_set_update_loop ?_
    rw [Around.under_plainId PyProof.Rows.F.plain_set_update_loop _]
    show wpAny _ A.in1 (pyNext (.ref I) >>= _) _ _ s
    refine wpAny_bind (W.done s _ _ hst fun s' hm => ?_)
    show wpAny _ A.in1 (ret Value.none) _ _ s'
    exact wpAny_pure (hR s' (hm.mono hsub) (by
      obtain ⟨o, es, ep, t, ho, rest⟩ := hS
      exact ⟨o, es, ep, t, hm.heap S _ hSw ho, rest⟩))
  | succ k ih =>
    intro i s hk hi hst hS hR
    have hlt : i < n := by omega
    refine codeAny_builtin PyProof.Rows.F.entry_set_update_loop ?_
    rw [Around.under_plainId PyProof.Rows.F.plain_set_update_loop _]
    show wpAny _ A.in1 (pyNext (.ref I) >>= _) _ _ s
    refine wpAny_bind (W.item i s _ _ hlt hst fun v s' hP hst' hm => ?_)
    obtain ⟨t, rfl⟩ := hval i v hP
    have hS' : s'.heap.SetOf (PySem.strKind prog w) S (fun k' => (ded (xs.take i)).any (· == k')) (ded (xs.take i)).length := by
      obtain ⟨o, es, ep, tb, ho, rest⟩ := hS
      exact ⟨o, es, ep, tb, hm.heap S _ hSw ho, rest⟩
    show wpAny _ A.in1 (holding [Value.str (xs.getD i Str.empty) t] (setAdd S (.str (xs.getD i Str.empty) t)) >>= _) _ _ s'
    refine wpAny_bind (wpAny_holding ?_)
    unfold setAdd
    refine wpAny_holding ?_
    refine wpAny_bind ((PySem.strKind prog w).pyHash (k := xs.getD i Str.empty) (strKind_is _ _ _ _) ?_)
    refine wpAny_setAddHashed_of (knd := PySem.strKind prog w) (s := { s' with toks := s'.toks + 1 }) (strKind_is _ _ _ _) rfl hS' (by have := ded_le (xs.take i); rw [List.length_take] at this; omega) fun h' hsb hS2 => ?_
    have hSi : h'.SetOf (PySem.strKind prog w) S (fun k' => (ded (xs.take (i + 1))).any (· == k')) (ded (xs.take (i + 1))).length := by
      have hi' : i < xs.length := by omega
      have e0 : xs.getD i Str.empty = xs[i] := by rw [List.getD_eq_getElem?_getD, List.getElem?_eq_getElem hi'] <;> rfl
      rw [e0] at hS2
      rw [List.take_succ_eq_append_getElem hi', ded_snoc]
      exact SetOf_congr hS2 (fun k' => dedStep_any _ _ _) (dedStep_len _ _)
    refine wpAny_pure ⟨plainId_quiet PyProof.Rows.F.plain_set_update_loop _, ih (i + 1) _ (by omega) hlt (W.frame _ s' _ _ hst' (Nat.le_succ _) fun b hb o e => ?_) hSi fun s'' hm'' hS'' => ?_⟩
    · rw [hsb.2 b (fun h : b = S => hSf (by rw [← h]; exact hb))]; exact e
    · refine hR s'' (Moved.trans W.gtrans ((hm.mono hsub).then_heap (Nat.le_succ _) fun b o hb e => ?_) hm'') hS''
      rw [hsb.2 b (fun h : b = S => hb (by rw [h]; exact List.mem_cons_self))]; exact e
end

section
variable {prog : Program} {w : World} {A : Around} {E : Value → Shared → Prop} {s : Shared}
set_option maxHeartbeats 3200000 in
theorem call_set_listT {l : Addr} {items : Array Value} {xs : List Str} {Q : Value → Shared → Prop}
    (hh : A.handled = none) (hl : s.heap.IsList l items) (hi : PyProof.Rows.StrsAre items.toList xs) (hn1 : xs.length + 1 < scanBound)
    (h : ∀ (h' : Heap) (tk : Nat), h'.SetOf (PySem.strKind prog w) s.heap.objs.size (fun k' => (ded xs).any (· == k')) (ded xs).length →
      (∀ b o, b < s.heap.objs.size → s.heap.get? b = some o → h'.get? b = some o) → Q (.ref s.heap.objs.size) { s with heap := h', toks := tk }) :
    wpAny (model prog w) A (call (.type "set") [.ref l]) Q E s := by
  obtain ⟨c, tl, hmro⟩ := PySem.F.called_set.mro
  have hmade := PySem.F.called_set.made
  have hsub := PySem.F.called_set.sub
  refine wpAny_call (codeAny_of_tree ?_)
  show wpAny _ _ (callAny (.type "set") _) _ _ _
  refine wpAny_pure ⟨Code.quiet_builtin _ (by decide +kernel), codeAny_builtin PySem.F.entry_type_call ?_⟩
  rw [Around.under_plain (weight_type_call_type "set" [.ref l] []) rfl]
  have h1 := PySem.F.called_set.notType
  have h2 := PySem.F.called_set.canCreate
  have hct := PySem.F.typeCall_set_1 (.ref l)
  repeat (any_goals (first | assumption | wp_step))

  refine codeAny_mono (code_set_new_1 (.ref l) (E := E) (Q₁ := fun obj s₁ => ∃ led : Bool, obj = .ref s.heap.objs.size ∧ s₁ = { s with heap := s.heap.push { cls := .type "set", dict := none, data := .set #[] 0 (.fresh 0 0 led) } }) fun led => ⟨led, rfl, rfl⟩) fun r s₁ hr => ?_
  cases r with
  | error e => exact hr
  | ok fl =>
    cases fl with
    | ret obj =>
      obtain ⟨led, rfl, rfl⟩ := hr
      have hS : (s.heap.push { cls := .type "set", dict := none, data := .set #[] 0 (.fresh 0 0 led) }).get? s.heap.objs.size = some { cls := .type "set", dict := none, data := .set #[] 0 (.fresh 0 0 led) } := Heap.get?_push_size _ rfl
      have hT : Shared.TypeIs { s with heap := s.heap.push { cls := .type "set", dict := none, data := .set #[] 0 (.fresh 0 0 led) } } (.ref s.heap.objs.size) "set" := ⟨_, hS, rfl⟩
      have hli := PySem.F.called_set.init.lookup
      have hbi := PySem.F.called_set.init.bind (.ref s.heap.objs.size)
      repeat (any_goals (first | assumption | wp_step))

      refine codeAny_mono (codeAny_call_builtin (R := wants (fun r s₂ => r = .none ∧ ∃ h' tk, s₂ = { s with heap := h', toks := tk } ∧
          h'.SetOf (PySem.strKind prog w) s.heap.objs.size (fun k' => (ded xs).any (· == k')) (ded xs).length ∧
          (∀ b o, b < s.heap.objs.size → s.heap.get? b = some o → h'.get? b = some o)) E) PySem.F.called_set.init.plain PySem.F.entry_set_init (check_set_init_1 hT ?_)) fun r₂ s₂ hr₂ => ?_
      · obtain ⟨ol, hol, hcl, nl, hdl⟩ := hl
        obtain ⟨ocls, odict, odata, oslots⟩ := ol
        simp only at hcl hdl
        subst hcl; subst hdl
        have hol' : (s.heap.push { cls := .type "set", dict := none, data := .set #[] 0 (.fresh 0 0 led) }).get? l = some { cls := .type "list", dict := odict, data := .seq items nl, slots := oslots } := Heap.get?_push_of_some _ hol
        have hsls := PySem.F.sub_list_set
        have hslf := PySem.F.sub_list_frozenset
        have hne : (Value.type "list" == Value.type "dict") = false := by decide
        have hl1 : (s.heap.push { cls := .type "set", dict := none, data := .set #[] 0 (.fresh 0 0 led) }).IsList l items := ⟨_, hol', rfl, nl, rfl⟩
        unfold Builtin.«set.__init__» noKeywords Builtin.Frozenset.updateFrom
        generalize hPI : pyIter = PI
        wp_walk
        subst hPI

        refine wpAny_pyIter_list hl1 ?_
        refine wpAny_bind (wpAny_runValue ?_)
        have hlS : l < s.heap.objs.size := Heap.lt_size hol
        have hh3 : A.in1.in1.in1.handled = none := by simp [hh]
        have hneI : l ≠ (s.heap.push { cls := .type "set", dict := none, data := .set #[] 0 (.fresh 0 0 led) }).objs.size := by
          rw [Heap.size_push]; exact Nat.ne_of_lt (Nat.lt_succ_of_lt hlS)
        have hSf : s.heap.objs.size ∉ [(s.heap.push { cls := .type "set", dict := none, data := .set #[] 0 (.fresh 0 0 led) }).objs.size, l] := by
          rw [Heap.size_push]; simp only [List.mem_cons, List.mem_singleton, List.not_mem_nil, or_false, not_or]
          exact ⟨Nat.ne_of_lt (Nat.lt_succ_self _), Nat.ne_of_gt hlS⟩
        have hsz : xs.length = items.size := by rw [← StrsAre.len_eq hi, Array.length_toList]
        have hval : ∀ (i : Nat) (v : Value), items[i]? = some v → ∃ t, v = .str (xs.getD i Str.empty) t := fun i v hv => strs_at hi i v (by rw [Array.getElem?_toList]; exact hv)
        refine loopTxt ((Walks.list hh3 _ l hneI items).toS) s.heap.objs.size
          hSf xs hsz (by rw [← hsz]; exact hn1) hval (items.size - 0) 0 _ (by omega) (Nat.zero_le _)
          ⟨⟨_, Heap.get?_push_size _ rfl, rfl, rfl⟩, (hl1.push _)⟩ ?hS0 ?hR
        case hS0 =>
          have hget : ((s.heap.push { cls := .type "set", dict := none, data := .set #[] 0 (.fresh 0 0 led) }).push { cls := .type "list_iterator", data := .fields #[.ref l, .int 0 0] }).get? s.heap.objs.size
              = some { cls := .type "set", dict := none, data := .set #[] 0 (.fresh 0 0 led) } := Heap.get?_push_of_some _ hS
          exact PyProof.Rows.SetOf_congr ((PyProof.Rows.setObjOf_fresh (knd := PySem.strKind prog w) led).setOf hget (by unfold scanBound; omega)) (fun _ => rfl) rfl
        case hR =>
          intro s' hm hS'
          rw [← hsz, List.take_length] at hS'
          obtain ⟨h', g', d', tk', os'⟩ := s'
          have eg : g' = s.gens := hm.gens
          have ed : d' = s.drawn := hm.drawn
          have eo : os' = s.os := hm.os
          subst eg; subst ed; subst eo
          show wpAny _ _ _ _ _ _
          refine wpAny_pure ?_
          show wpAny _ _ (ret Value.none) _ _ _
          refine wpAny_pure ⟨rfl, h', tk', rfl, hS', fun b o hb e => ?_⟩
          have hb1 : b ≠ s.heap.objs.size := Nat.ne_of_lt hb
          have hb2 : b ≠ (s.heap.push { cls := .type "set", dict := none, data := .set #[] 0 (.fresh 0 0 led) }).objs.size := by
            rw [Heap.size_push]; exact Nat.ne_of_lt (Nat.lt_succ_of_lt hb)
          exact hm.heap b o (by simp only [List.mem_cons, List.mem_singleton, List.not_mem_nil, or_false, not_or]; exact ⟨hb1, hb2⟩) (Heap.get?_push_of_some _ (Heap.get?_push_of_some _ e))

      · cases r₂ with
        | error e => exact hr₂
        | ok fl₂ =>
          cases fl₂ with
          | ret r =>
            obtain ⟨rfl, h', tk, rfl, hS', hk'⟩ := hr₂
            repeat (any_goals (first | assumption | wp_step))
            exact h _ _ hS' hk'
          | _ => exact hr₂.elim
    | _ => exact hr.elim

end
section
variable {P : Program} {w : World} {A : Around} {E : Value → Shared → Prop} {s : Shared}
set_option maxRecDepth 100000 in
set_option maxHeartbeats 3200000 in
theorem call_set_listI {l : Addr} {items : Array Value} (ns : List Int) {Q : Value → Shared → Prop} (hh : A.handled = none) (hl : s.heap.IsList l items) (hit : IntsAre items.toList ns) (hb : ns.length + 1 < scanBound)
    (h : ∀ (h' : Heap) (tk c : Nat), SetR w h' s.heap.objs.size (fun j => decide (j ∈ ns)) c → c ≤ ns.length → (∀ b o, s.heap.get? b = some o → h'.get? b = some o) → Q (.ref s.heap.objs.size) { s with heap := h', toks := tk }) :
    wpAny (model P w) A (call (.type "set") [.ref l]) Q E s := by
  have hisz : items.size = ns.length := by
    have q := IntsAre.length hit
    rw [Array.length_toList] at q
    exact q
  obtain ⟨c, tl, hmro⟩ := F.called_set.mro
  have hmade := F.called_set.made
  have hsub := F.called_set.sub
  refine wpAny_call (codeAny_of_tree ?_)
  show wpAny _ _ (callAny (.type "set") _) _ _ _
  refine wpAny_pure ⟨Code.quiet_builtin _ (by decide +kernel), codeAny_builtin F.entry_type_call ?_⟩
  rw [Around.under_plain (weight_type_call_type "set" [.ref l] []) rfl]
  have h1 := F.called_set.notType
  have h2 := F.called_set.canCreate
  have hct := F.typeCall_set_1 (.ref l)
  repeat (any_goals (first | assumption | wp_step))

  refine codeAny_mono (code_set_led1 (.ref l) (E := E) (Q₁ := fun obj s₁ => obj = .ref s.heap.objs.size ∧ s₁ = { s with heap := s.heap.push { cls := .type "set", dict := none, data := .set #[] 0 (.fresh 0 0 (!w.params.followText "set-order")) } }) ⟨rfl, rfl⟩) fun r s₁ hr => ?_
  cases r with
  | error e => exact hr
  | ok fl =>
    cases fl with
    | ret obj =>
      obtain ⟨rfl, rfl⟩ := hr
      have hS : (s.heap.push { cls := .type "set", dict := none, data := .set #[] 0 (.fresh 0 0 (!w.params.followText "set-order")) }).get? s.heap.objs.size = some { cls := .type "set", dict := none, data := .set #[] 0 (.fresh 0 0 (!w.params.followText "set-order")) } := Heap.get?_push_size _ rfl
      have hT : Shared.TypeIs { s with heap := s.heap.push { cls := .type "set", dict := none, data := .set #[] 0 (.fresh 0 0 (!w.params.followText "set-order")) } } (.ref s.heap.objs.size) "set" := ⟨_, hS, rfl⟩
      have hli := F.called_set.init.lookup
      have hbi := F.called_set.init.bind (.ref s.heap.objs.size)
      repeat (any_goals (first | assumption | wp_step))

      refine codeAny_mono (codeAny_call_builtin (R := wants (fun r s₂ => r = .none ∧ ∃ h' tk c, s₂ = { s with heap := h', toks := tk } ∧ SetR w h' s.heap.objs.size (fun j => decide (j ∈ ns)) c ∧ c ≤ ns.length ∧
          (∀ b o, s.heap.get? b = some o → h'.get? b = some o)) E) F.called_set.init.plain F.entry_set_init (check_set_init_1 hT ?_)) fun r₂ s₂ hr₂ => ?_
      · obtain ⟨ol, hol, hcl, nl, hdl⟩ := hl
        obtain ⟨ocls, odict, odata, oslots⟩ := ol
        simp only at hcl hdl
        subst hcl; subst hdl
        have hol' : (s.heap.push { cls := .type "set", dict := none, data := .set #[] 0 (.fresh 0 0 (!w.params.followText "set-order")) }).get? l = some { cls := .type "list", dict := odict, data := .seq items nl, slots := oslots } := Heap.get?_push_of_some _ hol
        have hsls := F.sub_list_set
        have hslf := F.sub_list_frozenset
        have hne : (Value.type "list" == Value.type "dict") = false := by decide
        have hl1 : (s.heap.push { cls := .type "set", dict := none, data := .set #[] 0 (.fresh 0 0 (!w.params.followText "set-order")) }).IsList l items := ⟨_, hol', rfl, nl, rfl⟩
        unfold Builtin.«set.__init__» noKeywords Builtin.Frozenset.updateFrom
        generalize hPI : pyIter = PI
        wp_walk
        subst hPI

        refine wpAny_pyIter_list hl1 ?_
        refine wpAny_bind (wpAny_runValue ?_)
        have hlS : l < s.heap.objs.size := Heap.lt_size hol
        have hh3 : A.in1.in1.in1.handled = none := by simp [hh]
        have hz1 : (s.heap.push { cls := .type "set", dict := none, data := .set #[] 0 (.fresh 0 0 (!w.params.followText "set-order")) }).objs.size = s.heap.objs.size + 1 := Heap.size_push ..
        have hneI : l ≠ (s.heap.push { cls := .type "set", dict := none, data := .set #[] 0 (.fresh 0 0 (!w.params.followText "set-order")) }).objs.size := by
          rw [Heap.size_push]; exact Nat.ne_of_lt (Nat.lt_succ_of_lt hlS)
        have hSf : s.heap.objs.size ∉ [(s.heap.push { cls := .type "set", dict := none, data := .set #[] 0 (.fresh 0 0 (!w.params.followText "set-order")) }).objs.size, l] := by
          rw [Heap.size_push]; simp only [List.mem_cons, List.mem_singleton, List.not_mem_nil, or_false, not_or]
          exact ⟨Nat.ne_of_lt (Nat.lt_succ_self _), Nat.ne_of_gt hlS⟩
        have hval : ∀ (i : Nat) (v : Value), items[i]? = some v → ∃ k t, ns[i]? = some k ∧ v = .int k t := fun i v hv => by
          have hi : i < ns.length := by rw [← hisz]; exact (Array.getElem?_eq_some_iff.mp hv).1
          obtain ⟨t, e⟩ := PyProof.Rows.IntsAre.int_at hit i v (by rw [Array.getElem?_toList]; exact hv)
          refine ⟨ns[i], t, List.getElem?_eq_getElem hi, ?_⟩
          rw [e, List.getD_eq_getElem?_getD, List.getElem?_eq_getElem hi] <;> rfl
        refine set_update_ints ((Walks.list hh3 _ l hneI items).toS) s.heap.objs.size
          hSf ns hisz hb hval (items.size - 0) 0 _ (by omega) (Nat.zero_le _)
          ⟨⟨_, Heap.get?_push_size _ rfl, rfl, rfl⟩, (hl1.push _)⟩ ?hS0 ?hR
        case hS0 =>
          have hget : ((s.heap.push { cls := .type "set", dict := none, data := .set #[] 0 (.fresh 0 0 (!w.params.followText "set-order")) }).push { cls := .type "list_iterator", data := .fields #[.ref l, .int 0 0] }).get? s.heap.objs.size
              = some { cls := .type "set", dict := none, data := .set #[] 0 (.fresh 0 0 (!w.params.followText "set-order")) } := Heap.get?_push_of_some _ hS
          exact ⟨0, Nat.le_refl 0, setR_new_at hget⟩
        case hR =>
          intro s' c' hm hc' hS'
          obtain ⟨h', g2, d', tk', os'⟩ := s'
          have eg : g2 = s.gens := hm.gens
          have ed : d' = s.drawn := hm.drawn
          have eo : os' = s.os := hm.os
          subst eg; subst ed; subst eo
          show wpAny _ _ _ _ _ _
          refine wpAny_pure ?_
          show wpAny _ _ (ret Value.none) _ _ _
          rw [hisz] at hc'
          refine wpAny_pure ⟨rfl, h', tk', c', rfl, hS', hc', fun b o e => ?_⟩
          have hb0 : b < s.heap.objs.size := Heap.lt_size e
          have hb1 : b ≠ s.heap.objs.size := Nat.ne_of_lt hb0
          have hb2 : b ≠ (s.heap.push { cls := .type "set", dict := none, data := .set #[] 0 (.fresh 0 0 (!w.params.followText "set-order")) }).objs.size := by
            rw [Heap.size_push]; exact Nat.ne_of_lt (Nat.lt_succ_of_lt hb0)
          exact hm.heap b o (by simp only [List.mem_cons, List.mem_singleton, List.not_mem_nil, or_false, not_or]; exact ⟨hb1, hb2⟩) (Heap.get?_push_of_some _ (Heap.get?_push_of_some _ e))

      · cases r₂ with
        | error e => exact hr₂
        | ok fl₂ =>
          cases fl₂ with
          | ret r =>
            obtain ⟨rfl, h', tk, c', rfl, hS', hc', hk'⟩ := hr₂
            repeat (any_goals (first | assumption | wp_step))
            exact h _ _ _ hS' hc' hk'
          | _ => exact hr₂.elim
    | _ => exact hr.elim

end
end FF
end
section
set_option Elab.async false
set_option linter.all false
set_option maxRecDepth 100000
set_option maxHeartbeats 2000000
/-! FFSet2: sorted(set(list of ints)), len(set(list of texts)). -/
namespace FF
open PySem PySem.Spec PyProof.Rows L2 RZ

/-- a list of ints without repetition, rising -/
def insU (x : Int) : List Int → List Int
  | [] => [x]
  | y :: ys => if x < y then x :: y :: ys else if x = y then y :: ys else y :: insU x ys
def sortU (ns : List Int) : List Int := ns.foldr insU []
theorem mem_insU (x k : Int) : ∀ ys : List Int, k ∈ insU x ys ↔ k = x ∨ k ∈ ys
  | [] => by simp [insU]
  | y :: ys => by
    unfold insU
    split
    · simp
    · split
      · rename_i h
        subst h
        simp
      · simp only [List.mem_cons, mem_insU x k ys]
        constructor
        · rintro (h | h | h)
          · exact .inr (.inl h)
          · exact .inl h
          · exact .inr (.inr h)
        · rintro (h | h | h)
          · exact .inr (.inl h)
          · exact .inl h
          · exact .inr (.inr h)
theorem insU_pw (x : Int) : ∀ ys : List Int, ys.Pairwise (· < ·) → (insU x ys).Pairwise (· < ·)
  | [], _ => by simp [insU]
  | y :: ys, h => by
    obtain ⟨h1, h2⟩ := List.pairwise_cons.mp h
    unfold insU
    split
    · rename_i hl
      exact List.pairwise_cons.mpr ⟨fun z hz => by
        rcases List.mem_cons.mp hz with e | hz
        · rw [e]; exact hl
        · have := h1 z hz; omega, h⟩
    · split
      · exact h
      · rename_i n1 n2
        refine List.pairwise_cons.mpr ⟨fun z hz => ?_, insU_pw x ys h2⟩
        rcases (mem_insU x z ys).mp hz with e | hz
        · rw [e]; omega
        · exact h1 z hz
theorem mem_sortU (k : Int) : ∀ ns : List Int, k ∈ sortU ns ↔ k ∈ ns
  | [] => by simp [sortU]
  | n :: ns => by
    show k ∈ insU n (sortU ns) ↔ _
    rw [mem_insU, mem_sortU k ns, List.mem_cons]
theorem sortU_pw : ∀ ns : List Int, (sortU ns).Pairwise (· < ·)
  | [] => by simp [sortU]
  | n :: ns => insU_pw n _ (sortU_pw ns)
theorem rising_eq : ∀ (xs ys : List Int), xs.Pairwise (· < ·) → ys.Pairwise (· < ·) → (∀ k, k ∈ xs ↔ k ∈ ys) → xs = ys
  | [], [], _, _, _ => rfl
  | [], y :: ys, _, _, h => absurd ((h y).mpr List.mem_cons_self) (by simp)
  | x :: xs, [], _, _, h => absurd ((h x).mp List.mem_cons_self) (by simp)
  | x :: xs, y :: ys, h1, h2, h => by
    obtain ⟨a1, b1⟩ := List.pairwise_cons.mp h1
    obtain ⟨a2, b2⟩ := List.pairwise_cons.mp h2
    have e : x = y := by
      rcases List.mem_cons.mp ((h x).mp List.mem_cons_self) with e | hx
      · exact e
      · rcases List.mem_cons.mp ((h y).mpr List.mem_cons_self) with e | hy
        · exact e.symm
        · have := a1 y hy
          have := a2 x hx
          omega
    subst e
    rw [rising_eq xs ys b1 b2 fun k => ⟨fun hk => ?_, fun hk => ?_⟩]
    · rcases List.mem_cons.mp ((h k).mp (List.mem_cons_of_mem _ hk)) with e | z
      · subst e; exact absurd (a1 k hk) (by omega)
      · exact z
    · rcases List.mem_cons.mp ((h k).mpr (List.mem_cons_of_mem _ hk)) with e | z
      · subst e; exact absurd (a2 k hk) (by omega)
      · exact z
/-- set(list of ints) -/
def rSetL (K : PySem.W.Frag) (w : World) : List V → Hp → VK → Prop := fun vs H Q => ∃ (a : Addr) (ns : List Int), vs = [V.ref a] ∧ SqL K H a (ns.map V.int) ∧ ns.length + 1 < scanBound ∧
  ∀ (p : Addr) (c : Nat), c ≤ ns.length → H p = none → Q (.ref p) (upd H p (SetO w p (fun j => decide (j ∈ ns)) c))
theorem cr_setL {X : Cx} (hc : X.calm = true) : CallR X (.type "set") (rSetL X.K X.w) := by
  intro pins s σ H vs us Q I r h
  obtain ⟨a, ns, rfl, hq, hb, q⟩ := h
  rw [Vals.ref1 r]
  obtain ⟨its, rv, pl, hz⟩ := I.list hq
  refine call_set_listI ns (I.ok.hd hc) pl.isList (by simpa using rv.ints) hb fun h' tk c hR hcl hk => ?_
  exact ⟨.ref _, upd H s.heap.objs.size (SetO X.w s.heap.objs.size (fun j => decide (j ∈ ns)) c), I.laid (t' := tk) hk (Nat.le_refl _) (setO_new hR), rfl, q _ c hcl (I.hok.fresh (Nat.le_refl _))⟩
section
variable {L : Kl} {pos : Pos} {a b : Expr} {fa fb : M D}
def gSortU : D → Option (List D)
  | .list xs => (intsOf xs).bind fun ns => if ns.length < 64 then some ((sortU ns).map .int) else none
  | _ => none
def mSortU (f : M D) : M (List D) := mBind f fun d => mOpt (gSortU d)
theorem dvall_ints {K : PySem.W.Frag} {H : Hp} : ∀ ns : List Int, DvAll K H (ns.map V.int) (ns.map .int)
  | [] => .nil
  | n :: ns => .cons (.int n) (dvall_ints ns)
/-- sorted(set(list of ints)) -/
theorem xf_sortedSet {p p2 q : Pos} (hL : L.hot = false) (hg : L.sc.names.lookup ("sorted" : Str) = some NameKind.globalImplicit) (hm : L.mg "sorted" = none) (hv : bootBuiltins "sorted" = some (.builtin "sorted")) (hg2 : L.sc.names.lookup ("set" : Str) = some NameKind.globalImplicit) (hm2 : L.mg "set" = none) (hv2 : bootBuiltins "set" = some (.type "set")) (ha : XD L a fa) :
    XF L (.Call (.Name "sorted" p) [.Call (.Name "set" p2) [a] [] q] [] pos) (mSortU fa) := by
  obtain ⟨pl, ta, hp, hr⟩ := ha
  refine ⟨fun _ _ => rfl, tCB (rSortedSet L.w) (tCons (tCB (rSetL L.K L.w) (tCons ta tNil)) tNil), fun X hX => ?_, fun Z W δ σ H r δ' s e => ?_⟩
  · have gl : ∀ {y : Str}, L.sc.names.lookup y = some NameKind.globalImplicit → Gl X y := fun h => by show X.env.scope.names.lookup _ = _; rw [hX.sc]; exact h
    have h1 := cr_sortedSet (hX.calm hL)
    have h2 := cr_setL (hX.calm hL)
    rw [hX.w] at h1
    rw [hX.K, hX.w] at h2
    have inner : PE X (.Call (.Name "set" p2) [a] [] q) (tCB (rSetL L.K L.w) (tCons ta tNil)) := pe_callTy h2 (gl hg2) (by rw [hX.mg]; exact hm2) hv2 (pa_cons (hp X hX) pa_nil (pl _ _)) (by decide) (by decide) (pl _ _) rfl
    exact pe_callB h1 (gl hg) (by rw [hX.mg]; exact hm) hv (pa_cons inner pa_nil) (by decide) (by decide) rfl rfl
  · refine R_seq (κ := V) (τa := ta σ H) (τ := fun x H1 Q => rSetL L.K L.w [x] H1 fun y H2 => rSortedSet L.w [y] H2 Q) (fun r1 δ1 e1 => hr Z W δ σ H r1 δ1 s e1) e fun d δ1 x W1 H1 s1 st1 hx e1 => ?_
    obtain ⟨out, hd, rfl, rfl⟩ := mOpt_inv e1
    unfold gSortU at hd
    split at hd
    · obtain ⟨ns, hn, hd⟩ := Option.bind_eq_some_iff.mp hd
      split at hd
      · rename_i h64
        cases hd
        cases hx with
        | lst h1 h2 =>
          have ev := ints_all h2 hn
          subst ev
          intro Q qq
          refine ⟨_, ns, rfl, sql_full h1, by unfold scanBound; omega, fun p0 c hc hp0 => ⟨p0, _, c, rfl, upd_same, by omega, fun ns' p1 hpw hmem hlen hp1 => ?_⟩⟩
          have ens : ns' = sortU ns := rising_eq _ _ hpw (sortU_pw ns) fun k => by rw [hmem k, mem_sortU, decide_eq_true_iff]
          subst ens
          have s2 := s1.gr (H' := upd H1 p0 (SetO L.w p0 (fun j => decide (j ∈ ns)) c)) (Gr.new hp0)
          have st2 : Step W1 H1 W1 (upd H1 p0 (SetO L.w p0 (fun j => decide (j ∈ ns)) c)) := Step.of_gr (Gr.new hp0)
          exact R_newl s2 (dvall_ints (sortU ns)) (τ := fun Q => Q (.ref p1) (upd (upd H1 p0 (SetO L.w p0 (fun j => decide (j ∈ ns)) c)) p1 (.lst ((sortU ns).map V.int)))) (fun Q h => h p1 hp1) Q fun v W' H' s3 st3 hv => qq v W' H' s3 (st2.trans st3) hv
      · cases hd
    · cases hd
/-! ### len(set(list of texts)) -/
def tLenT (K : PySem.W.Frag) (ta : TE) : TE := fun σ H Q => ta σ H fun x H1 => ∃ (l : Addr) (xs : List Str), x = .ref l ∧ SqL K H1 l (xs.map V.str) ∧ xs.length + 1 < scanBound ∧ Q (.int ((ded xs).length : Nat)) H1
theorem pe_lenT {X : Cx} {a : Expr} {ta : TE} {p p2 q pos : Pos} (hc : X.calm = true) (hg : Gl X "len") (hm : X.mg "len" = none) (hg2 : Gl X "set") (hm2 : X.mg "set" = none) (ha : PE X a ta)
    (na : starEach [a] X.env = (false, eval a X.env) :: starEach [] X.env) : PE X (.Call (.Name "len" p) [.Call (.Name "set" p2) [a] [] q] [] pos) (tLenT X.K ta) := by
  refine ⟨fun pins s σ H Q I h => ?_⟩
  refine Call_ (ld_blt I hg hm boot_len ?_)
  refine PyProof.Rows.callWith_builtin1 (PyProof.Rows.args_cons ?_ rfl) rfl rfl
  refine Call_ (ld_blt I hg2 hm2 boot_set ?_)
  refine PyProof.Rows.callWith_type1 (PyProof.Rows.args_cons (thn (ha.run pins s σ H _ I h) fun v s1 ⟨x, H1, I1, r1, q1⟩ => PyProof.Rows.args_nil ?_) na) na rfl
  obtain ⟨l, xs, rfl, hq, hb, q1⟩ := q1
  cases r1
  obtain ⟨its, r, pl, hz⟩ := I1.list hq
  refine call_set_listT (I1.ok.hd hc) pl.isList (by simpa using strsAre_of r) hb fun h' tk hS hk => ?_
  refine PyProof.Rows.args_nil ?_
  obtain ⟨o, es, ep, t, ho, hex, hd, _, _, _, hf, hn⟩ := hS
  have I2 : Inv X pins σ H1 { s1 with heap := h', toks := tk } := I1.kept fun b o e => hk b o (Heap.lt_size e) e
  have := ded_le xs
  exact call_len_set ho hex hd hf (by rw [hn]; unfold scanBound at hb; omega) ⟨.int ((ded xs).length : Nat), H1, I2.tok _, ⟨_, by rw [hn]⟩, q1⟩
def strsOf : List D → Option (List Str)
  | [] => some []
  | .str x :: r => (strsOf r).map (x :: ·)
  | _ :: _ => none
theorem strs_all {K : PySem.W.Frag} {H : Hp} : ∀ {vs : List V} {ds : List D} {ns : List Str}, DvAll K H vs ds → strsOf ds = some ns → vs = ns.map V.str
  | _, _, _, .nil, e => by cases e; rfl
  | _, _, _, .cons (d := d) r t, e => by
    cases r <;> first
      | (cases e; done)
      | skip
    obtain ⟨ns', e1, e2⟩ := Option.map_eq_some_iff.mp e
    subst e2
    rw [strs_all t e1]
    rfl
def gLenT : D → Option D
  | .list xs => (strsOf xs).bind fun ns => if ns.length < 1000 then some (.int ((ded ns).length : Nat)) else none
  | _ => none
def mLenT (f : M D) : M D := mBind f fun d => mOpt (gLenT d)
theorem xd_lenT {p p2 q : Pos} (hL : L.hot = false) (hg : L.sc.names.lookup ("len" : Str) = some NameKind.globalImplicit) (hm : L.mg "len" = none) (hg2 : L.sc.names.lookup ("set" : Str) = some NameKind.globalImplicit) (hm2 : L.mg "set" = none) (ha : XD L a fa) :
    XD L (.Call (.Name "len" p) [.Call (.Name "set" p2) [a] [] q] [] pos) (mLenT fa) := by
  obtain ⟨pl, ta, hp, hr⟩ := ha
  refine ⟨fun _ _ => rfl, tLenT L.K ta, fun X hX => ?_, fun Z W δ σ H r δ' s e => ?_⟩
  · have gl : ∀ {y : Str}, L.sc.names.lookup y = some NameKind.globalImplicit → Gl X y := fun h => by show X.env.scope.names.lookup _ = _; rw [hX.sc]; exact h
    exact hX.K ▸ pe_lenT (hX.calm hL) (gl hg) (by rw [hX.mg]; exact hm) (gl hg2) (by rw [hX.mg]; exact hm2) (hp X hX) (pl _ _)
  · refine R_seq (κ := V) (τa := ta σ H) (τ := fun x H1 Q => ∃ (l : Addr) (xs : List Str), x = .ref l ∧ SqL L.K H1 l (xs.map V.str) ∧ xs.length + 1 < scanBound ∧ Q (.int ((ded xs).length : Nat)) H1) (fun r1 δ1 e1 => hr Z W δ σ H r1 δ1 s e1) e fun d δ1 x W1 H1 s1 st1 hx e1 => ?_
    obtain ⟨out, hd, rfl, rfl⟩ := mOpt_inv e1
    unfold gLenT at hd
    split at hd
    · obtain ⟨ns, hn, hd⟩ := Option.bind_eq_some_iff.mp hd
      split at hd
      · rename_i h64
        cases hd
        cases hx with
        | lst h1 h2 =>
          have ev := strs_all h2 hn
          subst ev
          exact R_gr s1 fun Q qq => ⟨_, ns, rfl, sql_full h1, by unfold scanBound; omega, qq _ H1 (Gr.refl _ _) (.int _)⟩
      · cases hd
    · cases hd
end
end FF
end
section
set_option Elab.async false
set_option linter.all false
set_option maxRecDepth 100000
set_option maxHeartbeats 4000000
namespace K40
open PySem PySem.Spec PyProof.Rows L2 RZ FF
abbrev top (i : Nat) : Stmt := PySem.Challenge.pw_forkfield_k40_whole_boxes_and_masks.main.body.getD i (.Pass ⟨0, 0, 0, 0⟩)
abbrev Rec := Nat → List D → Option (Res D)
def cWORDS : D := (.tuple [(.str ("round" : Str)), (.str ("input" : Str)), (.str ("table" : Str)), (.str ("if" : Str)), (.str ("else" : Str)), (.str ("while" : Str)), (.str ("assert" : Str)), (.str ("out" : Str)), (.str ("stop" : Str)), (.str ("mod" : Str)), (.str ("at" : Str))])
def catchBadInput (c : String) : Option Bool := if c = "BadInput" then some true else if c = "BadSet" then some false else if c = "BadTree" then some false else none
def catchBadSet (c : String) : Option Bool := if c = "BadInput" then some false else if c = "BadSet" then some true else if c = "BadTree" then some false else none
structure Bas (K : PySem.W.Frag) (mg : Str → Option Value) (cls : String → Value) where
  b_isinstance : mg "isinstance" = none
  b_bool : mg "bool" = none
  b_int : mg "int" = none
  b_len : mg "len" = none
  b_str : mg "str" = none
  b_all : mg "all" = none
  b_tuple : mg "tuple" = none
  b_list : mg "list" = none
  b_set : mg "set" = none
  b_range : mg "range" = none
  b_zip : mg "zip" = none
  b_min : mg "min" = none
  b_sorted : mg "sorted" = none
  b_sum : mg "sum" = none
  g_WORDS : GConstP K mg "WORDS" cWORDS
  x_BadInput : ExcCP K mg cls "BadInput" "BadInput"
  x_BadSet : ExcCP K mg cls "BadSet" "BadSet"
  x_BadTree : ExcCP K mg cls "BadTree" "BadTree"
  a_BadInput : Addr
  m_BadInput : mg "BadInput" = some (.ref a_BadInput)
  h_BadInput : ∀ c b, catchBadInput c = some b → PySem.W.exmOne K (cls c) (.ref a_BadInput) = some b
  a_BadSet : Addr
  m_BadSet : mg "BadSet" = some (.ref a_BadSet)
  h_BadSet : ∀ c b, catchBadSet c = some b → PySem.W.exmOne K (cls c) (.ref a_BadSet) = some b
def N_8 : List Str := ["value", "low"]
theorem sc_8 : FnScope N_8 ["value", "low"] (defScope (top 8)) := ⟨rfl, rfl, rfl, by decide +kernel, rfl, by decide +kernel, by decide +kernel⟩
/-- is_whole -/
def m_8 (R : Rec) : SM := (sSeq (sRet (mAnd (mIsi "int" (mVar 0)) (mAnd (mNot (mIsi "bool" (mVar 0))) (mOr (mOp2 cIs (mVar 1) (mPure .none)) (mOp2 cGe (mVar 0) (mVar 1))))))
  sNil)
theorem w_8 {P : Program} {w : World} {K : PySem.W.Frag} {mg : Str → Option Value} {base : Heap} {T : List Addr} {cls : String → Value} (B : Bas K mg cls) (R : Rec) (k : Nat)  (Wx : WX) : XSs (klOf P w K mg base N_8 (defScope (top 8)) (2 * k + 1) none T cls Wx) (defBody (top 8)) (m_8 R) := by
  unfold m_8
  exact (xss_cons (xs_ret (xd_bool (xb_and (xd_isi rfl B.b_isinstance (by rfl) rfl B.b_int (by rfl) (xd_var 0 rfl (.inl rfl))) (xb_and (xd_not (xd_isi rfl B.b_isinstance (by rfl) rfl B.b_bool (by rfl) (xd_var 0 rfl (.inl rfl)))) (xb_one (xd_bool (xb_or (xd_is (xd_var 1 rfl (.inl rfl)) xd_non) (xb_one (xd_ge (xd_var 0 rfl (.inl rfl)) (xd_var 1 rfl (.inl rfl)))))))))))
  xss_nil)
def N_9 : List Str := ["text", "sign"]
theorem sc_9 : FnScope N_9 ["text"] (defScope (top 9)) := ⟨rfl, rfl, rfl, by decide +kernel, rfl, by decide +kernel, by decide +kernel⟩
/-- is_name -/
def m_9 (R : Rec) : SM := (sSeq (sIf (tOrM (tNotM (mTru (mIsi "str" (mVar 0)))) (tOrM (tNotM (mB (mChain cLe cLe (mPure (.int 1)) (mB1 gLen (mCons (mVar 0) mNil)) (mPure (.int 6))))) (tOrM (tNotM (mB (mChain leS leS (mPure (.str ("a" : Str))) (mOp2 gIdx (mVar 0) (mPure (.int 0))) (mPure (.str ("z" : Str)))))) (mB (mOp2 (gB cIn id) (mVar 0) (mPure cWORDS)))))) (sSeq (sRet (mPure (.bool false)))
  sNil) sNil)
  (sSeq (sRet (mAll [1] (mItems (mVar 0)) (aName 1) (mOr (mChain leS leS (mPure (.str ("a" : Str))) (mVar 1) (mPure (.str ("z" : Str)))) (mChain leS leS (mPure (.str ("0" : Str))) (mVar 1) (mPure (.str ("9" : Str)))))))
  sNil))
theorem w_9 {P : Program} {w : World} {K : PySem.W.Frag} {mg : Str → Option Value} {base : Heap} {T : List Addr} {cls : String → Value} (B : Bas K mg cls) (R : Rec) (k : Nat) (c Pt : Addr) (TB : GxR.TabB base mg c Pt) (hT : Pt ∈ T)  (Wx : WX) : XSs (klOf P w K mg base N_9 (defScope (top 9)) (2 * k + 1) (some c) T cls Wx) (defBody (top 9)) (m_9 R) := by
  unfold m_9
  exact (xss_cons (xs_if (xt_bool (xw_or (xt_not (xt_val (xd_isi rfl B.b_isinstance (by rfl) rfl B.b_str (by rfl) (xd_var 0 rfl (.inl rfl))))) (xw_or (xt_not (xt_lele xd_int (xd_len rfl B.b_len (xd_var 0 rfl (.inl rfl))) xd_int)) (xw_or (xt_not (xt_leleS xd_str (xd_idx (fun _ _ => rfl) (xd_var 0 rfl (.inl rfl)) xd_int) xd_str)) (xw_or1 (xt_in rfl (xd_var 0 rfl (.inl rfl)) (xd_glob rfl ⟨B.g_WORDS⟩))))))) (xss_cons (xs_ret xd_bl)
  xss_nil) xss_nil)
  (xss_cons (xs_ret (xd_all (own := [("sign", 1)]) rfl rfl rfl B.b_all (by rfl) TB rfl hT ⟨blkOk_by (N := N_9) (sc := defScope (top 9)) (by decide +kernel), by decide +kernel, by rfl, by rfl⟩ (xi_val rfl (xd_var 0 rfl (.inl rfl))) (by decide) (xg_name 1 rfl (.inl rfl) (.inr rfl)) (xd_bool (xb_or (xd_leleS xd_str (xd_var 1 rfl (.inl rfl)) xd_str) (xb_one (xd_leleS xd_str (xd_var 1 rfl (.inl rfl)) xd_str))))))
  xss_nil))
def N_11 : List Str := ["tree", "turn", "tables", "deep", "word", "body"]
theorem sc_11 : FnScope N_11 ["tree", "turn", "tables", "deep"] (defScope (top 11)) := ⟨rfl, rfl, rfl, by decide +kernel, rfl, by decide +kernel, by decide +kernel⟩
/-- is_statement -/
def m_11 (R : Rec) : SM := (sSeq (sIf (tOrM (tNotM (mTru (mIsi "tuple" (mVar 0)))) (mB (mOp2 (gB cEq id) (mB1 gLen (mCons (mVar 0) mNil)) (mPure (.int 0))))) (sSeq (sRet (mPure (.bool false)))
  sNil) sNil)
  (sSeq (sSetV 4 (mOp2 gIdx (mVar 0) (mPure (.int 0))))
  (sSeq (sIf (mB (mOp2 (gB cEq id) (mVar 4) (mPure (.str ("stop" : Str))))) (sSeq (sRet (mOp2 (gB cEq id) (mB1 gLen (mCons (mVar 0) mNil)) (mPure (.int 1))))
  sNil) sNil)
  sNo)))
theorem w_11 {P : Program} {w : World} {K : PySem.W.Frag} {mg : Str → Option Value} {base : Heap} {T : List Addr} {cls : String → Value} (B : Bas K mg cls) (R : Rec) (k : Nat)  (Wx : WX) : XSs (klOf P w K mg base N_11 (defScope (top 11)) (2 * k + 1) none T cls Wx) (defBody (top 11)) (m_11 R) := by
  unfold m_11
  exact (xss_cons (xs_if (xt_bool (xw_or (xt_not (xt_val (xd_isi rfl B.b_isinstance (by rfl) rfl B.b_tuple (by rfl) (xd_var 0 rfl (.inl rfl))))) (xw_or1 (xt_eq (xd_len rfl B.b_len (xd_var 0 rfl (.inl rfl))) xd_int)))) (xss_cons (xs_ret xd_bl)
  xss_nil) xss_nil)
  (xss_cons (xs_setV 4 rfl ⟨(.inl rfl), .inl rfl⟩ (xd_idx (fun _ _ => rfl) (xd_var 0 rfl (.inl rfl)) xd_int))
  (xss_cons (xs_if (xt_eq (xd_var 4 rfl (.inl rfl)) xd_str) (xss_cons (xs_ret (xd_eq (xd_len rfl B.b_len (xd_var 0 rfl (.inl rfl))) xd_int))
  xss_nil) xss_nil)
  xss_never)))
def N_12 : List Str := ["body", "turn", "tables", "deep", "one"]
theorem sc_12 : FnScope N_12 ["body", "turn", "tables", "deep"] (defScope (top 12)) := ⟨rfl, rfl, rfl, by decide +kernel, rfl, by decide +kernel, by decide +kernel⟩
/-- is_body -/
def m_12 (R : Rec) : SM := (sSeq (sRet (mAnd (mOp2 cGt (mVar 3) (mPure (.int 0))) (mAnd (mIsi "tuple" (mVar 0)) (mAll [4] (mItems (mVar 0)) (aName 4) (mCall 4 (R 11) [] (mCons (mVar 4) (mCons (mVar 1) (mCons (mVar 2) (mCons (mVar 3) mNil)))))))))
  sNil)
theorem w_12 {P : Program} {w : World} {K : PySem.W.Frag} {mg : Str → Option Value} {base : Heap} {T : List Addr} {cls : String → Value} (B : Bas K mg cls) (R : Rec) (k : Nat) (c Pt : Addr) (TB : GxR.TabB base mg c Pt) (hT : Pt ∈ T) (c_11_0 : CalleeB P w K mg base T cls (2 * k) "is_statement" 4 [] (R 11)) (Wx : WX) : XSs (klOf P w K mg base N_12 (defScope (top 12)) (2 * k + 1) (some c) T cls Wx) (defBody (top 12)) (m_12 R) := by
  unfold m_12
  exact (xss_cons (xs_ret (xd_bool (xb_and (xd_gt (xd_var 3 rfl (.inr (.inl rfl))) xd_int) (xb_and (xd_isi rfl B.b_isinstance (by rfl) rfl B.b_tuple (by rfl) (xd_var 0 rfl (.inl rfl))) (xb_one (xd_all (own := [("one", 4)]) rfl rfl rfl B.b_all (by rfl) TB rfl hT ⟨blkOk_by (N := N_12) (sc := defScope (top 12)) (by decide +kernel), by decide +kernel, by rfl, by rfl⟩ (xi_val rfl (xd_var 0 rfl (.inl rfl))) (by decide) (xg_name 4 rfl (.inl rfl) (.inr rfl)) (xd_call rfl (CalleeB.of c_11_0 (Nat.le_refl _)) rfl (xl_cons (xd_var 4 rfl (.inl rfl)) (xl_cons (xd_var 1 rfl (.inr (.inr rfl))) (xl_cons (xd_var 2 rfl (.inr (.inr rfl))) (xl_cons (xd_var 3 rfl (.inr (.inr rfl))) xl_nil)))) (fun _ _ => rfl) (fun _ _ => rfl))))))))
  xss_nil)
def N_13 : List Str := ["body", "found", "one", "inner"]
theorem sc_13 : FnScope N_13 ["body"] (defScope (top 13)) := ⟨rfl, rfl, rfl, by decide +kernel, rfl, by decide +kernel, by decide +kernel⟩
/-- statements_of -/
def m_13 (R : Rec) : SM := (sSeq (sSetV 1 (mTup mNil))
  (sSeq (sFor (mItems (mVar 0)) (aName 2) (sSeq (sSetV 1 (mOp2 bAdd (mVar 1) (mTup (mCons (mVar 2) mNil))))
  (sSeq (sIf (mB (mOp2 (gB cIn id) (mOp2 gIdx (mVar 2) (mPure (.int 0))) (mTup (mCons (mPure (.str ("if" : Str))) (mCons (mPure (.str ("while" : Str))) mNil))))) sNo sNil)
  sNil)))
  (sSeq (sRet (mVar 1))
  sNil)))
theorem w_13 {P : Program} {w : World} {K : PySem.W.Frag} {mg : Str → Option Value} {base : Heap} {T : List Addr} {cls : String → Value} (B : Bas K mg cls) (R : Rec) (k : Nat)  (Wx : WX) : XSs (klOf P w K mg base N_13 (defScope (top 13)) (2 * k + 1) none T cls Wx) (defBody (top 13)) (m_13 R) := by
  unfold m_13
  exact (xss_cons (xs_setV 1 rfl ⟨(.inl rfl), .inl rfl⟩ (xd_tup xl_nil))
  (xss_cons (xs_for (xi_val rfl (xd_var 0 rfl (.inl rfl))) (xg_name 2 rfl (.inl rfl) (.inl rfl)) (xss_cons (xs_setV 1 rfl ⟨(.inl rfl), .inl rfl⟩ (xd_add (xd_var 1 rfl (.inl rfl)) (xd_tup (xl_cons (xd_var 2 rfl (.inl rfl)) xl_nil))))
  (xss_cons (xs_if (xt_in rfl (xd_idx (fun _ _ => rfl) (xd_var 2 rfl (.inl rfl)) xd_int) (xd_tup (xl_cons xd_str (xl_cons xd_str xl_nil)))) xss_never xss_nil)
  xss_nil)))
  (xss_cons (xs_ret (xd_var 1 rfl (.inl rfl)))
  xss_nil)))
def N_14 : List Str := ["tables", "turn", "one", "part"]
theorem sc_14 : FnScope N_14 ["tables", "turn"] (defScope (top 14)) := ⟨rfl, rfl, rfl, by decide +kernel, rfl, by decide +kernel, by decide +kernel⟩
/-- are_tables -/
def m_14 (R : Rec) : SM := (sSeq (sIf (tOrM (tNotM (mTru (mIsi "tuple" (mVar 0)))) (mB (mOp2 cGt (mB1 gLen (mCons (mVar 0) mNil)) (mPure (.int 3))))) (sSeq (sRet (mPure (.bool false)))
  sNil) sNil)
  (sSeq (sIf (tNotM (mTru (mAll [2] (mItems (mVar 0)) (aName 2) (mAnd (mIsi "tuple" (mVar 2)) (mOp2 (gB cEq id) (mB1 gLen (mCons (mVar 2) mNil)) (mPure (.int 2))))))) (sSeq (sRet (mPure (.bool false)))
  sNil) sNil)
  (sSeq (sIf (tNotM (mTru (mAll [2] (mItems (mVar 0)) (aName 2) (mAnd (mCall 1 (R 9) [] (mCons (mOp2 gIdx (mVar 2) (mPure (.int 0))) mNil)) (mAnd (mIsi "tuple" (mOp2 gIdx (mVar 2) (mPure (.int 1)))) (mChain cLe cLe (mPure (.int 1)) (mB1 gLen (mCons (mOp2 gIdx (mVar 2) (mPure (.int 1))) mNil)) (mPure (.int 8)))))))) (sSeq (sRet (mPure (.bool false)))
  sNil) sNil)
  (sSeq (sRet (mAll0 (mItems (mVar 0))))
  sNil))))
theorem w_14 {P : Program} {w : World} {K : PySem.W.Frag} {mg : Str → Option Value} {base : Heap} {T : List Addr} {cls : String → Value} (B : Bas K mg cls) (R : Rec) (k : Nat) (c Pt : Addr) (TB : GxR.TabB base mg c Pt) (hT : Pt ∈ T) (c_9_0 : CalleeB P w K mg base T cls (2 * k) "is_name" 1 [] (R 9)) (Wx : WX) : XSs (klOf P w K mg base N_14 (defScope (top 14)) (2 * k + 1) (some c) T cls Wx) (defBody (top 14)) (m_14 R) := by
  unfold m_14
  exact (xss_cons (xs_if (xt_bool (xw_or (xt_not (xt_val (xd_isi rfl B.b_isinstance (by rfl) rfl B.b_tuple (by rfl) (xd_var 0 rfl (.inl rfl))))) (xw_or1 (xt_gt (xd_len rfl B.b_len (xd_var 0 rfl (.inl rfl))) xd_int)))) (xss_cons (xs_ret xd_bl)
  xss_nil) xss_nil)
  (xss_cons (xs_if (xt_not (xt_val (xd_all (own := [("one", 2)]) rfl rfl rfl B.b_all (by rfl) TB rfl hT ⟨blkOk_by (N := N_14) (sc := defScope (top 14)) (by decide +kernel), by decide +kernel, by rfl, by rfl⟩ (xi_val rfl (xd_var 0 rfl (.inl rfl))) (by decide) (xg_name 2 rfl (.inl rfl) (.inr rfl)) (xd_bool (xb_and (xd_isi rfl B.b_isinstance (by rfl) rfl B.b_tuple (by rfl) (xd_var 2 rfl (.inl rfl))) (xb_one (xd_eq (xd_len rfl B.b_len (xd_var 2 rfl (.inl rfl))) xd_int))))))) (xss_cons (xs_ret xd_bl)
  xss_nil) xss_nil)
  (xss_cons (xs_if (xt_not (xt_val (xd_all (own := [("one", 2)]) rfl rfl rfl B.b_all (by rfl) TB rfl hT ⟨blkOk_by (N := N_14) (sc := defScope (top 14)) (by decide +kernel), by decide +kernel, by rfl, by rfl⟩ (xi_val rfl (xd_var 0 rfl (.inl rfl))) (by decide) (xg_name 2 rfl (.inl rfl) (.inr rfl)) (xd_bool (xb_and (xd_call rfl (CalleeB.of c_9_0 (Nat.le_refl _)) rfl (xl_cons (xd_idx (fun _ _ => rfl) (xd_var 2 rfl (.inl rfl)) xd_int) xl_nil) (fun _ _ => rfl) (fun _ _ => rfl)) (xb_and (xd_isi rfl B.b_isinstance (by rfl) rfl B.b_tuple (by rfl) (xd_idx (fun _ _ => rfl) (xd_var 2 rfl (.inl rfl)) xd_int)) (xb_one (xd_lele xd_int (xd_len rfl B.b_len (xd_idx (fun _ _ => rfl) (xd_var 2 rfl (.inl rfl)) xd_int)) xd_int)))))))) (xss_cons (xs_ret xd_bl)
  xss_nil) xss_nil)
  (xss_cons (xs_ret (xd_all0 (own := [("one", 2), ("part", 3)]) rfl rfl rfl B.b_all (by rfl) TB rfl hT ⟨blkOk_by (N := N_14) (sc := defScope (top 14)) (by decide +kernel), by decide +kernel, by rfl, by rfl⟩ (xi_val rfl (xd_var 0 rfl (.inl rfl)))))
  xss_nil))))
def N_15 : List Str := ["program", "turn", "inputs", "tables", "body", "names", "one"]
theorem sc_15 : FnScope N_15 ["program"] (defScope (top 15)) := ⟨rfl, rfl, rfl, by decide +kernel, rfl, by decide +kernel, by decide +kernel⟩
/-- is_program -/
def m_15 (R : Rec) : SM := (sSeq (sIf (tOrM (tNotM (mTru (mIsi "tuple" (mVar 0)))) (tOrM (mB (mOp2 (gB cEq not) (mB1 gLen (mCons (mVar 0) mNil)) (mPure (.int 4)))) (tOrM (tNotM (mTru (mCall 2 (R 8) [] (mCons (mOp2 gIdx (mVar 0) (mPure (.int 0))) (mCons (mPure (.int 2)) mNil))))) (mB (mOp2 cGt (mOp2 gIdx (mVar 0) (mPure (.int 0))) (mPure (.int 64))))))) (sSeq (sRet (mPure (.bool false)))
  sNil) sNil)
  (sSeq (sAsg (aTup (aCons (aName 1) (aCons (aName 2) (aCons (aName 3) (aCons (aName 4) aNil))))) (mVar 0))
  (sSeq (sIf (tOrM (tNotM (mTru (mIsi "tuple" (mVar 2)))) (tOrM (mB (mOp2 cGt (mB1 gLen (mCons (mVar 2) mNil)) (mPure (.int 3)))) (tNotM (mTru (mAll [6] (mItems (mVar 2)) (aName 6) (mCall 1 (R 9) [] (mCons (mVar 6) mNil))))))) (sSeq (sRet (mPure (.bool false)))
  sNil) sNil)
  (sSeq (sIf (tNotM (mTru (mCall 2 (R 14) [] (mCons (mVar 3) (mCons (mVar 1) mNil))))) (sSeq (sRet (mPure (.bool false)))
  sNil) sNil)
  (sSeq (sSetL 5 (mOp2L gCatL (mList (mCL gListOf (mCons (mVar 2) mNil))) (mList (mLc [6] (mItems (mVar 3)) (aName 6) (mPure true) (mOp2 gIdx (mVar 6) (mPure (.int 0)))))))
  (sSeq (sIf (mB (mOp2 cLt (mLenT (mVar 5)) (mB1 gLen (mCons (mVar 5) mNil)))) (sSeq (sRet (mPure (.bool false)))
  sNil) sNil)
  (sSeq (sRet (mAnd (mCall 4 (R 12) [(.int 5)] (mCons (mVar 4) (mCons (mVar 1) (mCons (mList (mLc [6] (mItems (mVar 3)) (aName 6) (mPure true) (mOp2 gIdx (mVar 6) (mPure (.int 0))))) mNil)))) (mOp2 cLe (mB1 gLen (mCons (mCall 1 (R 13) [] (mCons (mVar 4) mNil)) mNil)) (mPure (.int 30)))))
  sNil)))))))
theorem w_15 {P : Program} {w : World} {K : PySem.W.Frag} {mg : Str → Option Value} {base : Heap} {T : List Addr} {cls : String → Value} (B : Bas K mg cls) (R : Rec) (k : Nat) (c Pt : Addr) (TB : GxR.TabB base mg c Pt) (hT : Pt ∈ T) (c_8_0 : CalleeB P w K mg base T cls (2 * k) "is_whole" 2 [] (R 8)) (c_9_0 : CalleeB P w K mg base T cls (2 * k) "is_name" 1 [] (R 9)) (c_12_1 : CalleeB P w K mg base T cls (2 * k) "is_body" 4 [(.int 5)] (R 12)) (c_13_0 : CalleeB P w K mg base T cls (2 * k) "statements_of" 1 [] (R 13)) (c_14_0 : CalleeB P w K mg base T cls (2 * k) "are_tables" 2 [] (R 14)) (Wx : WX) : XSs (klOf P w K mg base N_15 (defScope (top 15)) (2 * k + 1) (some c) T cls Wx) (defBody (top 15)) (m_15 R) := by
  unfold m_15
  exact (xss_cons (xs_if (xt_bool (xw_or (xt_not (xt_val (xd_isi rfl B.b_isinstance (by rfl) rfl B.b_tuple (by rfl) (xd_var 0 rfl (.inl rfl))))) (xw_or (xt_ne (xd_len rfl B.b_len (xd_var 0 rfl (.inl rfl))) xd_int) (xw_or (xt_not (xt_val (xd_call rfl (CalleeB.of c_8_0 (Nat.le_succ _)) rfl (xl_cons (xd_idx (fun _ _ => rfl) (xd_var 0 rfl (.inl rfl)) xd_int) (xl_cons xd_int xl_nil)) (fun _ _ => rfl) (fun _ _ => rfl)))) (xw_or1 (xt_gt (xd_idx (fun _ _ => rfl) (xd_var 0 rfl (.inl rfl)) xd_int) xd_int)))))) (xss_cons (xs_ret xd_bl)
  xss_nil) xss_nil)
  (xss_cons (xs_asg (xg_tup rfl (xgs_cons (xg_name 1 rfl (.inl rfl) (.inl rfl)) (xgs_cons (xg_name 2 rfl (.inl rfl) (.inl rfl)) (xgs_cons (xg_name 3 rfl (.inl rfl) (.inl rfl)) (xgs_cons (xg_name 4 rfl (.inl rfl) (.inl rfl)) xgs_nil)))) (aCons_len (aCons_len (aCons_len (aCons_len (fun _ _ _ h => aNil_len h)))))) (xd_var 0 rfl (.inl rfl)))
  (xss_cons (xs_if (xt_bool (xw_or (xt_not (xt_val (xd_isi rfl B.b_isinstance (by rfl) rfl B.b_tuple (by rfl) (xd_var 2 rfl (.inl rfl))))) (xw_or (xt_gt (xd_len rfl B.b_len (xd_var 2 rfl (.inl rfl))) xd_int) (xw_or1 (xt_not (xt_val (xd_all (own := [("one", 6)]) rfl rfl rfl B.b_all (by rfl) TB rfl hT ⟨blkOk_by (N := N_15) (sc := defScope (top 15)) (by decide +kernel), by decide +kernel, by rfl, by rfl⟩ (xi_val rfl (xd_var 2 rfl (.inl rfl))) (by decide) (xg_name 6 rfl (.inl rfl) (.inr rfl)) (xd_call rfl (CalleeB.of c_9_0 (Nat.le_refl _)) rfl (xl_cons (xd_var 6 rfl (.inl rfl)) xl_nil) (fun _ _ => rfl) (fun _ _ => rfl))))))))) (xss_cons (xs_ret xd_bl)
  xss_nil) xss_nil)
  (xss_cons (xs_if (xt_not (xt_val (xd_call rfl (CalleeB.of c_14_0 (Nat.le_succ _)) rfl (xl_cons (xd_var 3 rfl (.inl rfl)) (xl_cons (xd_var 1 rfl (.inl rfl)) xl_nil)) (fun _ _ => rfl) (fun _ _ => rfl)))) (xss_cons (xs_ret xd_bl)
  xss_nil) xss_nil)
  (xss_cons (xs_setL 5 rfl ⟨(.inl rfl), .inl rfl⟩ (xf_catL (xd_of (xf_listOf rfl B.b_list (by rfl) (xd_var 2 rfl (.inl rfl)))) (xd_of (xf_lc (own := [("one", 6)]) rfl (xi_val rfl (xd_var 3 rfl (.inl rfl))) (blkOk_by (N := N_15) (sc := defScope (top 15)) (by decide +kernel)) (by decide) (xg_name 6 rfl (.inl rfl) (.inr rfl)) xifs_nil (xd_idx (fun _ _ => rfl) (xd_var 6 rfl (.inl rfl)) xd_int)))))
  (xss_cons (xs_if (xt_lt (xd_lenT rfl rfl B.b_len rfl B.b_set (xd_var 5 rfl (.inl rfl))) (xd_len rfl B.b_len (xd_var 5 rfl (.inl rfl)))) (xss_cons (xs_ret xd_bl)
  xss_nil) xss_nil)
  (xss_cons (xs_ret (xd_bool (xb_and (xd_call rfl (CalleeB.of c_12_1 (Nat.le_succ _)) rfl (xl_cons (xd_var 4 rfl (.inl rfl)) (xl_cons (xd_var 1 rfl (.inl rfl)) (xl_cons (xd_of (xf_lc (own := [("one", 6)]) rfl (xi_val rfl (xd_var 3 rfl (.inl rfl))) (blkOk_by (N := N_15) (sc := defScope (top 15)) (by decide +kernel)) (by decide) (xg_name 6 rfl (.inl rfl) (.inr rfl)) xifs_nil (xd_idx (fun _ _ => rfl) (xd_var 6 rfl (.inl rfl)) xd_int))) xl_nil))) (fun _ _ => rfl) (fun _ _ => rfl)) (xb_one (xd_le (xd_len rfl B.b_len (xd_call rfl (CalleeB.of c_13_0 (Nat.le_succ _)) rfl (xl_cons (xd_var 4 rfl (.inl rfl)) xl_nil) (fun _ _ => rfl) (fun _ _ => rfl))) xd_int)))))
  xss_nil)))))))
def N_16 : List Str := ["program"]
theorem sc_16 : FnScope N_16 ["program"] (defScope (top 16)) := ⟨rfl, rfl, rfl, by decide +kernel, rfl, by decide +kernel, by decide +kernel⟩
/-- check_program -/
def m_16 (R : Rec) : SM := (sSeq (sIf (tNotM (mTru (mCall 1 (R 15) [] (mCons (mVar 0) mNil)))) (sSeq (sRaise "BadTree")
  sNil) sNil)
  sNil)
theorem w_16 {P : Program} {w : World} {K : PySem.W.Frag} {mg : Str → Option Value} {base : Heap} {T : List Addr} {cls : String → Value} (B : Bas K mg cls) (R : Rec) (k : Nat) (c_15_0 : CalleeB P w K mg base T cls (2 * k) "is_program" 1 [] (R 15)) (Wx : WX) : XSs (klOf P w K mg base N_16 (defScope (top 16)) (2 * k + 1) none T cls Wx) (defBody (top 16)) (m_16 R) := by
  unfold m_16
  exact (xss_cons (xs_if (xt_not (xt_val (xd_call rfl (CalleeB.of c_15_0 (Nat.le_succ _)) rfl (xl_cons (xd_var 0 rfl (.inl rfl)) xl_nil) (fun _ _ => rfl) (fun _ _ => rfl)))) (xss_cons (xs_raise rfl ⟨B.x_BadTree⟩ rfl)
  xss_nil) xss_nil)
  xss_nil)
def N_18 : List Str := ["program", "rows", "one", "row", "number"]
theorem sc_18 : FnScope N_18 ["program"] (defScope (top 18)) := ⟨rfl, rfl, rfl, by decide +kernel, rfl, by decide +kernel, by decide +kernel⟩
/-- all_inputs -/
def m_18 (R : Rec) : SM := (sSeq (sSetL 1 (mLst (mCons (mTup mNil) mNil)))
  (sSeq (sFor (mItems (mOp2 gIdx (mVar 0) (mPure (.int 1)))) (aName 2) (sSeq (sSetL 1 (mLc2 [3, 4] [4] (mItems (mVar 1)) (aName 3) (mPure true) (mRg rg1 (mCons (mOp2 gIdx (mVar 0) (mPure (.int 0))) mNil)) (aName 4) (mPure true) (mOp2 bAdd (mVar 3) (mTup (mCons (mVar 4) mNil)))))
  (sSeq (sIf (mB (mOp2 cGt (mB1 gLen (mCons (mVar 1) mNil)) (mPure (.int 5000)))) (sSeq (sRaise "BadInput")
  sNil) sNil)
  sNil)))
  (sSeq (sRet (mB1 gTuple (mCons (mVar 1) mNil)))
  sNil)))
theorem w_18 {P : Program} {w : World} {K : PySem.W.Frag} {mg : Str → Option Value} {base : Heap} {T : List Addr} {cls : String → Value} (B : Bas K mg cls) (R : Rec) (k : Nat)  (Wx : WX) : XSs (klOf P w K mg base N_18 (defScope (top 18)) (2 * k + 1) none T cls Wx) (defBody (top 18)) (m_18 R) := by
  unfold m_18
  exact (xss_cons (xs_setL 1 rfl ⟨(.inl rfl), .inl rfl⟩ (xf_lst (xl_cons (xd_tup xl_nil) xl_nil)))
  (xss_cons (xs_for (xi_val rfl (xd_idx (fun _ _ => rfl) (xd_var 0 rfl (.inr (.inl rfl))) xd_int)) (xg_name 2 rfl (.inl rfl) (.inl rfl)) (xss_cons (xs_setLc2 1 (own := [("row", 3), ("number", 4)]) (vs1 := [4]) rfl rfl (fun env h => by cases env; cases h; rfl) rfl (xi_val rfl (xd_var 1 rfl (.inl rfl))) (blkOk_by (N := N_18) (sc := defScope (top 18)) (by decide +kernel)) (by decide) (by decide) (by decide) (xg_name 3 rfl (.inl rfl) (.inr rfl)) xifs_nil (xi_range1 rfl B.b_range (xd_idx (fun _ _ => rfl) (xd_var 0 rfl (.inr (.inl rfl))) xd_int)) (xg_name 4 rfl (.inl rfl) (.inr rfl)) xifs_nil (xd_add (xd_var 3 rfl (.inl rfl)) (xd_tup (xl_cons (xd_var 4 rfl (.inl rfl)) xl_nil))))
  (xss_cons (xs_if (xt_gt (xd_len rfl B.b_len (xd_var 1 rfl (.inl rfl))) xd_int) (xss_cons (xs_raise rfl ⟨B.x_BadInput⟩ rfl)
  xss_nil) xss_nil)
  xss_nil)))
  (xss_cons (xs_ret (xd_tuple rfl B.b_tuple (by rfl) (xd_var 1 rfl (.inl rfl))))
  xss_nil)))
def N_20 : List Str := ["numbers", "found", "one"]
theorem sc_20 : FnScope N_20 ["numbers"] (defScope (top 20)) := ⟨rfl, rfl, rfl, by decide +kernel, rfl, by decide +kernel, by decide +kernel⟩
/-- mask_of -/
def m_20 (R : Rec) : SM := (sSeq (sSetV 1 (mPure (.int 0)))
  (sSeq (sFor (mItems (mVar 0)) (aName 2) (sSeq (sSetV 1 (mOp2 bOr (mVar 1) (mOp2 bShl (mPure (.int 1)) (mVar 2))))
  sNil))
  (sSeq (sRet (mVar 1))
  sNil)))
theorem w_20 {P : Program} {w : World} {K : PySem.W.Frag} {mg : Str → Option Value} {base : Heap} {T : List Addr} {cls : String → Value} (B : Bas K mg cls) (R : Rec) (k : Nat)  (Wx : WX) : XSs (klOf P w K mg base N_20 (defScope (top 20)) (2 * k + 1) none T cls Wx) (defBody (top 20)) (m_20 R) := by
  unfold m_20
  exact (xss_cons (xs_setV 1 rfl ⟨(.inl rfl), .inl rfl⟩ xd_int)
  (xss_cons (xs_for (xi_val rfl (xd_var 0 rfl (.inl rfl))) (xg_name 2 rfl (.inl rfl) (.inl rfl)) (xss_cons (xs_setV 1 rfl ⟨(.inl rfl), .inl rfl⟩ (xd_bor (xd_var 1 rfl (.inl rfl)) (xd_shl xd_int (xd_var 2 rfl (.inl rfl)))))
  xss_nil))
  (xss_cons (xs_ret (xd_var 1 rfl (.inl rfl)))
  xss_nil)))
def N_21 : List Str := ["mask", "k"]
theorem sc_21 : FnScope N_21 ["mask"] (defScope (top 21)) := ⟨rfl, rfl, rfl, by decide +kernel, rfl, by decide +kernel, by decide +kernel⟩
/-- numbers_of -/
def m_21 (R : Rec) : SM := (sSeq (sIf (tNotM (mTru (mCall 2 (R 8) [] (mCons (mVar 0) (mCons (mPure (.int 0)) mNil))))) (sSeq (sRaise "BadSet")
  sNil) sNil)
  (sSeq (sRet (mB1 gTuple (mCons (mList (mLc [1] (mRg rg1 (mCons (mBits (mVar 0)) mNil)) (aName 1) (mTru (mOp2 bAnd (mOp2 bShr (mVar 0) (mVar 1)) (mPure (.int 1)))) (mVar 1))) mNil)))
  sNil))
theorem w_21 {P : Program} {w : World} {K : PySem.W.Frag} {mg : Str → Option Value} {base : Heap} {T : List Addr} {cls : String → Value} (B : Bas K mg cls) (R : Rec) (k : Nat) (c_8_0 : CalleeB P w K mg base T cls (2 * k) "is_whole" 2 [] (R 8)) (Wx : WX) : XSs (klOf P w K mg base N_21 (defScope (top 21)) (2 * k + 1) none T cls Wx) (defBody (top 21)) (m_21 R) := by
  unfold m_21
  exact (xss_cons (xs_if (xt_not (xt_val (xd_call rfl (CalleeB.of c_8_0 (Nat.le_succ _)) rfl (xl_cons (xd_var 0 rfl (.inr (.inl rfl))) (xl_cons xd_int xl_nil)) (fun _ _ => rfl) (fun _ _ => rfl)))) (xss_cons (xs_raise rfl ⟨B.x_BadSet⟩ rfl)
  xss_nil) xss_nil)
  (xss_cons (xs_ret (xd_tuple rfl B.b_tuple (by rfl) (xd_of (xf_lc (own := [("k", 1)]) rfl (xi_range1 rfl B.b_range (xd_bits (xd_var 0 rfl (.inr (.inl rfl))))) (blkOk_by (N := N_21) (sc := defScope (top 21)) (by decide +kernel)) (by decide) (xg_name 1 rfl (.inl rfl) (.inr rfl)) (xifs_one (xt_val (xd_band (xd_shr (xd_var 0 rfl (.inr (.inl rfl))) (xd_var 1 rfl (.inl rfl))) xd_int))) (xd_var 1 rfl (.inl rfl))))))
  xss_nil))
def N_23 : List Str := ["program", "one"]
theorem sc_23 : FnScope N_23 ["program"] (defScope (top 23)) := ⟨rfl, rfl, rfl, by decide +kernel, rfl, by decide +kernel, by decide +kernel⟩
/-- whole_box -/
def m_23 (R : Rec) : SM := (sSeq (sDrop (mCall 1 (R 16) [] (mCons (mVar 0) mNil)))
  (sSeq (sRet (mB1 gTuple (mCons (mList (mLc [1] (mItems (mOp2 gIdx (mVar 0) (mPure (.int 1)))) (aName 1) (mPure true) (mTup (mCons (mPure (.int 0)) (mCons (mOp2 bSub (mOp2 gIdx (mVar 0) (mPure (.int 0))) (mPure (.int 1))) mNil))))) mNil)))
  sNil))
theorem w_23 {P : Program} {w : World} {K : PySem.W.Frag} {mg : Str → Option Value} {base : Heap} {T : List Addr} {cls : String → Value} (B : Bas K mg cls) (R : Rec) (k : Nat) (c_16_0 : CalleeB P w K mg base T cls (2 * k) "check_program" 1 [] (R 16)) (Wx : WX) : XSs (klOf P w K mg base N_23 (defScope (top 23)) (2 * k + 1) none T cls Wx) (defBody (top 23)) (m_23 R) := by
  unfold m_23
  exact (xss_cons (xs_expr (xd_call rfl (CalleeB.of c_16_0 (Nat.le_succ _)) rfl (xl_cons (xd_var 0 rfl (.inr (.inl rfl))) xl_nil) (fun _ _ => rfl) (fun _ _ => rfl)))
  (xss_cons (xs_ret (xd_tuple rfl B.b_tuple (by rfl) (xd_of (xf_lc (own := [("one", 1)]) rfl (xi_val rfl (xd_idx (fun _ _ => rfl) (xd_var 0 rfl (.inr (.inl rfl))) xd_int)) (blkOk_by (N := N_23) (sc := defScope (top 23)) (by decide +kernel)) (by decide) (xg_name 1 rfl (.inl rfl) (.inr rfl)) xifs_nil (xd_tup (xl_cons xd_int (xl_cons (xd_sub (xd_idx (fun _ _ => rfl) (xd_var 0 rfl (.inr (.inl rfl))) xd_int) xd_int) xl_nil)))))))
  xss_nil))
def N_24 : List Str := ["box", "found", "low", "high"]
theorem sc_24 : FnScope N_24 ["box"] (defScope (top 24)) := ⟨rfl, rfl, rfl, by decide +kernel, rfl, by decide +kernel, by decide +kernel⟩
/-- size_of -/
def m_24 (R : Rec) : SM := (sSeq (sSetV 1 (mPure (.int 1)))
  (sSeq (sFor (mItems (mVar 0)) (aTup (aCons (aName 2) (aCons (aName 3) aNil))) (sSeq (sSetV 1 (mOp2 bMul (mVar 1) (mOp2 bAdd (mOp2 bSub (mVar 3) (mVar 2)) (mPure (.int 1)))))
  sNil))
  (sSeq (sRet (mVar 1))
  sNil)))
theorem w_24 {P : Program} {w : World} {K : PySem.W.Frag} {mg : Str → Option Value} {base : Heap} {T : List Addr} {cls : String → Value} (B : Bas K mg cls) (R : Rec) (k : Nat)  (Wx : WX) : XSs (klOf P w K mg base N_24 (defScope (top 24)) (2 * k + 1) none T cls Wx) (defBody (top 24)) (m_24 R) := by
  unfold m_24
  exact (xss_cons (xs_setV 1 rfl ⟨(.inl rfl), .inl rfl⟩ xd_int)
  (xss_cons (xs_for (xi_val rfl (xd_var 0 rfl (.inl rfl))) (xg_tup rfl (xgs_cons (xg_name 2 rfl (.inl rfl) (.inl rfl)) (xgs_cons (xg_name 3 rfl (.inl rfl) (.inl rfl)) xgs_nil)) (aCons_len (aCons_len (fun _ _ _ h => aNil_len h)))) (xss_cons (xs_setV 1 rfl ⟨(.inl rfl), .inl rfl⟩ (xd_mul (xd_var 1 rfl (.inl rfl)) (xd_add (xd_sub (xd_var 3 rfl (.inl rfl)) (xd_var 2 rfl (.inl rfl))) xd_int)))
  xss_nil))
  (xss_cons (xs_ret (xd_var 1 rfl (.inl rfl)))
  xss_nil)))
def N_25 : List Str := ["box", "numbers", "low", "high", "one"]
theorem sc_25 : FnScope N_25 ["box", "numbers"] (defScope (top 25)) := ⟨rfl, rfl, rfl, by decide +kernel, rfl, by decide +kernel, by decide +kernel⟩
/-- is_in -/
def m_25 (R : Rec) : SM := (sSeq (sRet (mAnd (mOp2 (gB cEq id) (mB1 gLen (mCons (mVar 0) mNil)) (mB1 gLen (mCons (mVar 1) mNil))) (mAll [2, 3, 4] (mRg gZip (mCons (mVar 0) (mCons (mVar 1) mNil))) (aTup (aCons (aTup (aCons (aName 2) (aCons (aName 3) aNil))) (aCons (aName 4) aNil))) (mChain cLe cLe (mVar 2) (mVar 4) (mVar 3)))))
  sNil)
theorem w_25 {P : Program} {w : World} {K : PySem.W.Frag} {mg : Str → Option Value} {base : Heap} {T : List Addr} {cls : String → Value} (B : Bas K mg cls) (R : Rec) (k : Nat) (c Pt : Addr) (TB : GxR.TabB base mg c Pt) (hT : Pt ∈ T)  (Wx : WX) : XSs (klOf P w K mg base N_25 (defScope (top 25)) (2 * k + 1) (some c) T cls Wx) (defBody (top 25)) (m_25 R) := by
  unfold m_25
  exact (xss_cons (xs_ret (xd_bool (xb_and (xd_eq (xd_len rfl B.b_len (xd_var 0 rfl (.inl rfl))) (xd_len rfl B.b_len (xd_var 1 rfl (.inl rfl)))) (xb_one (xd_all (own := [("low", 2), ("high", 3), ("one", 4)]) rfl rfl rfl B.b_all (by rfl) TB rfl hT ⟨blkOk_by (N := N_25) (sc := defScope (top 25)) (by decide +kernel), by decide +kernel, by rfl, by rfl⟩ (xi_zip rfl rfl B.b_zip (xd_var 0 rfl (.inl rfl)) (xd_var 1 rfl (.inl rfl))) (by decide) (xg_tup rfl (xgs_cons (xg_tup rfl (xgs_cons (xg_name 2 rfl (.inl rfl) (.inr rfl)) (xgs_cons (xg_name 3 rfl (.inl rfl) (.inr rfl)) xgs_nil)) (aCons_len (aCons_len (fun _ _ _ h => aNil_len h)))) (xgs_cons (xg_name 4 rfl (.inl rfl) (.inr rfl)) xgs_nil)) (aCons_len (aCons_len (fun _ _ _ h => aNil_len h)))) (xd_lele (xd_var 2 rfl (.inl rfl)) (xd_var 4 rfl (.inl rfl)) (xd_var 3 rfl (.inl rfl))))))))
  xss_nil)
def N_26 : List Str := ["box", "k", "number", "low", "high"]
theorem sc_26 : FnScope N_26 ["box", "k", "number"] (defScope (top 26)) := ⟨rfl, rfl, rfl, by decide +kernel, rfl, by decide +kernel, by decide +kernel⟩
/-- halves -/
def m_26 (R : Rec) : SM := (sSeq (sIf (tOrM (tNotM (mTru (mCall 2 (R 8) [] (mCons (mVar 1) (mCons (mPure (.int 0)) mNil))))) (tOrM (mB (mOp2 cGe (mVar 1) (mB1 gLen (mCons (mVar 0) mNil)))) (tOrM (tNotM (mTru (mCall 2 (R 8) [.none] (mCons (mVar 2) mNil)))) (tNotM (mB (mChain cLt cLe (mOp2 gIdx (mOp2 gIdx (mVar 0) (mVar 1)) (mPure (.int 0))) (mVar 2) (mOp2 gIdx (mOp2 gIdx (mVar 0) (mVar 1)) (mPure (.int 1))))))))) (sSeq (sRaise "BadInput")
  sNil) sNil)
  (sSeq (sAsg (aTup (aCons (aName 3) (aCons (aName 4) aNil))) (mOp2 gIdx (mVar 0) (mVar 1)))
  (sSeq (sRet (mTup (mCons (mOp2 bAdd (mOp2 bAdd (mSl (mVar 0) (mPure none) (mPart (mVar 1))) (mTup (mCons (mTup (mCons (mVar 3) (mCons (mOp2 bSub (mVar 2) (mPure (.int 1))) mNil))) mNil))) (mSl (mVar 0) (mPart (mOp2 bAdd (mVar 1) (mPure (.int 1)))) (mPure none))) (mCons (mOp2 bAdd (mOp2 bAdd (mSl (mVar 0) (mPure none) (mPart (mVar 1))) (mTup (mCons (mTup (mCons (mVar 2) (mCons (mVar 4) mNil))) mNil))) (mSl (mVar 0) (mPart (mOp2 bAdd (mVar 1) (mPure (.int 1)))) (mPure none))) mNil))))
  sNil)))
theorem w_26 {P : Program} {w : World} {K : PySem.W.Frag} {mg : Str → Option Value} {base : Heap} {T : List Addr} {cls : String → Value} (B : Bas K mg cls) (R : Rec) (k : Nat) (c_8_0 : CalleeB P w K mg base T cls (2 * k) "is_whole" 2 [] (R 8)) (c_8_1 : CalleeB P w K mg base T cls (2 * k) "is_whole" 2 [.none] (R 8)) (Wx : WX) : XSs (klOf P w K mg base N_26 (defScope (top 26)) (2 * k + 1) none T cls Wx) (defBody (top 26)) (m_26 R) := by
  unfold m_26
  exact (xss_cons (xs_if (xt_bool (xw_or (xt_not (xt_val (xd_call rfl (CalleeB.of c_8_0 (Nat.le_succ _)) rfl (xl_cons (xd_var 1 rfl (.inl rfl)) (xl_cons xd_int xl_nil)) (fun _ _ => rfl) (fun _ _ => rfl)))) (xw_or (xt_ge (xd_var 1 rfl (.inl rfl)) (xd_len rfl B.b_len (xd_var 0 rfl (.inl rfl)))) (xw_or (xt_not (xt_val (xd_call rfl (CalleeB.of c_8_1 (Nat.le_succ _)) rfl (xl_cons (xd_var 2 rfl (.inl rfl)) xl_nil) (fun _ _ => rfl) (fun _ _ => rfl)))) (xw_or1 (xt_not (xt_ltle (xd_idx (fun _ _ => rfl) (xd_idx (fun _ _ => rfl) (xd_var 0 rfl (.inl rfl)) (xd_var 1 rfl (.inl rfl))) xd_int) (xd_var 2 rfl (.inl rfl)) (xd_idx (fun _ _ => rfl) (xd_idx (fun _ _ => rfl) (xd_var 0 rfl (.inl rfl)) (xd_var 1 rfl (.inl rfl))) xd_int)))))))) (xss_cons (xs_raise rfl ⟨B.x_BadInput⟩ rfl)
  xss_nil) xss_nil)
  (xss_cons (xs_asg (xg_tup rfl (xgs_cons (xg_name 3 rfl (.inl rfl) (.inl rfl)) (xgs_cons (xg_name 4 rfl (.inl rfl) (.inl rfl)) xgs_nil)) (aCons_len (aCons_len (fun _ _ _ h => aNil_len h)))) (xd_idx (fun _ _ => rfl) (xd_var 0 rfl (.inl rfl)) (xd_var 1 rfl (.inl rfl))))
  (xss_cons (xs_ret (xd_tup (xl_cons (xd_add (xd_add (xd_slice (xd_var 0 rfl (.inl rfl)) xo_none (xo_some (xd_var 1 rfl (.inl rfl)))) (xd_tup (xl_cons (xd_tup (xl_cons (xd_var 3 rfl (.inl rfl)) (xl_cons (xd_sub (xd_var 2 rfl (.inl rfl)) xd_int) xl_nil))) xl_nil))) (xd_slice (xd_var 0 rfl (.inl rfl)) (xo_some (xd_add (xd_var 1 rfl (.inl rfl)) xd_int)) xo_none)) (xl_cons (xd_add (xd_add (xd_slice (xd_var 0 rfl (.inl rfl)) xo_none (xo_some (xd_var 1 rfl (.inl rfl)))) (xd_tup (xl_cons (xd_tup (xl_cons (xd_var 2 rfl (.inl rfl)) (xl_cons (xd_var 4 rfl (.inl rfl)) xl_nil))) xl_nil))) (xd_slice (xd_var 0 rfl (.inl rfl)) (xo_some (xd_add (xd_var 1 rfl (.inl rfl)) xd_int)) xo_none)) xl_nil))))
  xss_nil)))
def N_27 : List Str := ["box", "rows", "low", "high", "row", "one"]
theorem sc_27 : FnScope N_27 ["box"] (defScope (top 27)) := ⟨rfl, rfl, rfl, by decide +kernel, rfl, by decide +kernel, by decide +kernel⟩
/-- inputs_of -/
def m_27 (R : Rec) : SM := (sSeq (sSetL 1 (mLst (mCons (mTup mNil) mNil)))
  (sSeq (sFor (mItems (mVar 0)) (aTup (aCons (aName 2) (aCons (aName 3) aNil))) (sSeq (sSetL 1 (mLc2 [4, 5] [5] (mItems (mVar 1)) (aName 4) (mPure true) (mRg rg2 (mCons (mVar 2) (mCons (mOp2 bAdd (mVar 3) (mPure (.int 1))) mNil))) (aName 5) (mPure true) (mOp2 bAdd (mVar 4) (mTup (mCons (mVar 5) mNil)))))
  sNil))
  (sSeq (sRet (mB1 gTuple (mCons (mVar 1) mNil)))
  sNil)))
theorem w_27 {P : Program} {w : World} {K : PySem.W.Frag} {mg : Str → Option Value} {base : Heap} {T : List Addr} {cls : String → Value} (B : Bas K mg cls) (R : Rec) (k : Nat)  (Wx : WX) : XSs (klOf P w K mg base N_27 (defScope (top 27)) (2 * k + 1) none T cls Wx) (defBody (top 27)) (m_27 R) := by
  unfold m_27
  exact (xss_cons (xs_setL 1 rfl ⟨(.inl rfl), .inl rfl⟩ (xf_lst (xl_cons (xd_tup xl_nil) xl_nil)))
  (xss_cons (xs_for (xi_val rfl (xd_var 0 rfl (.inl rfl))) (xg_tup rfl (xgs_cons (xg_name 2 rfl (.inr rfl) (.inl rfl)) (xgs_cons (xg_name 3 rfl (.inr rfl) (.inl rfl)) xgs_nil)) (aCons_len (aCons_len (fun _ _ _ h => aNil_len h)))) (xss_cons (xs_setLc2 1 (own := [("row", 4), ("one", 5)]) (vs1 := [5]) rfl rfl (fun env h => by cases env; cases h; rfl) rfl (xi_val rfl (xd_var 1 rfl (.inl rfl))) (blkOk_by (N := N_27) (sc := defScope (top 27)) (by decide +kernel)) (by decide) (by decide) (by decide) (xg_name 4 rfl (.inl rfl) (.inr rfl)) xifs_nil (xi_range2 rfl rfl B.b_range (xd_var 2 rfl (.inr (.inl rfl))) (xd_add (xd_var 3 rfl (.inr (.inl rfl))) xd_int)) (xg_name 5 rfl (.inl rfl) (.inr rfl)) xifs_nil (xd_add (xd_var 4 rfl (.inl rfl)) (xd_tup (xl_cons (xd_var 5 rfl (.inl rfl)) xl_nil))))
  xss_nil))
  (xss_cons (xs_ret (xd_tuple rfl B.b_tuple (by rfl) (xd_var 1 rfl (.inl rfl))))
  xss_nil)))
def N_29 : List Str := ["script", "k"]
theorem sc_29 : FnScope N_29 ["script", "k"] (defScope (top 29)) := ⟨rfl, rfl, rfl, by decide +kernel, rfl, by decide +kernel, by decide +kernel⟩
/-- _law_cell -/
def m_29 (R : Rec) : SM := (sSeq (sIf (mB (mOp2 cLt (mVar 1) (mB1 gLen (mCons (mVar 0) mNil)))) (sSeq (sRet (mOp2 gIdx (mVar 0) (mVar 1)))
  sNil) sNil)
  (sSeq (sRet (mPure (.int 0)))
  sNil))
theorem w_29 {P : Program} {w : World} {K : PySem.W.Frag} {mg : Str → Option Value} {base : Heap} {T : List Addr} {cls : String → Value} (B : Bas K mg cls) (R : Rec) (k : Nat)  (Wx : WX) : XSs (klOf P w K mg base N_29 (defScope (top 29)) (2 * k + 1) none T cls Wx) (defBody (top 29)) (m_29 R) := by
  unfold m_29
  exact (xss_cons (xs_if (xt_lt (xd_var 1 rfl (.inl rfl)) (xd_len rfl B.b_len (xd_var 0 rfl (.inl rfl)))) (xss_cons (xs_ret (xd_idx (fun _ _ => rfl) (xd_var 0 rfl (.inl rfl)) (xd_var 1 rfl (.inl rfl))))
  xss_nil) xss_nil)
  (xss_cons (xs_ret xd_int)
  xss_nil))
def N_30 : List Str := ["cell", "count", "result", "rest", "k", "mixed"]
theorem sc_30 : FnScope N_30 ["cell", "count"] (defScope (top 30)) := ⟨rfl, rfl, rfl, by decide +kernel, rfl, by decide +kernel, by decide +kernel⟩
/-- _law_draws -/
def m_30 (R : Rec) : SM := (sSeq (sSetL 2 (mLst mNil))
  (sSeq (sSetV 3 (mB1 gInt (mCons (mVar 0) mNil)))
  (sSeq (sFor (mRg rg1 (mCons (mVar 1) mNil)) (aName 4) (sSeq (sSetV 5 (mOp2 bMod (mB1 gInt (mCons (mOp2 bAdd (mOp2 bAdd (mOp2 bMul (mVar 0) (mPure (.int 48271))) (mOp2 bMul (mVar 4) (mPure (.int 69621)))) (mPure (.int 1))) mNil)) (mPure (.int 2147483647))))
  (sSeq (sIf (mB (mOp2 cGe (mVar 0) (mOp2 bPow (mPure (.int 10)) (mPure (.int 18))))) (sSeq (sApp 2 (mOp2 bMod (mVar 3) (mPure (.int 1009))))
  (sSeq (sSetV 3 (mOp2 bDiv (mVar 3) (mPure (.int 1009))))
  sNil)) (sSeq (sApp 2 (mOp2 bDiv (mOp2 bMod (mB1 gInt (mCons (mOp2 bAdd (mOp2 bMul (mVar 5) (mVar 5)) (mOp2 bMul (mVar 5) (mPure (.int 40692)))) mNil)) (mPure (.int 2147483399))) (mPure (.int 7))))
  sNil))
  sNil)))
  (sSeq (sRet (mVar 2))
  sNil))))
theorem w_30 {P : Program} {w : World} {K : PySem.W.Frag} {mg : Str → Option Value} {base : Heap} {T : List Addr} {cls : String → Value} (B : Bas K mg cls) (R : Rec) (k : Nat)  (Wx : WX) : XSs (klOf P w K mg base N_30 (defScope (top 30)) (2 * k + 1) none T cls Wx) (defBody (top 30)) (m_30 R) := by
  unfold m_30
  exact (xss_cons (xs_setL 2 rfl ⟨(.inl rfl), .inl rfl⟩ (xf_lst xl_nil))
  (xss_cons (xs_setV 3 rfl ⟨(.inl rfl), .inl rfl⟩ (xd_int1 rfl B.b_int (by rfl) (xd_var 0 rfl (.inl rfl))))
  (xss_cons (xs_for (xi_range1 rfl B.b_range (xd_var 1 rfl (.inl rfl))) (xg_name 4 rfl (.inl rfl) (.inl rfl)) (xss_cons (xs_setV 5 rfl ⟨(.inl rfl), .inl rfl⟩ (xd_mod (xd_int1 rfl B.b_int (by rfl) (xd_add (xd_add (xd_mul (xd_var 0 rfl (.inl rfl)) xd_int) (xd_mul (xd_var 4 rfl (.inl rfl)) xd_int)) xd_int)) xd_int))
  (xss_cons (xs_if (xt_ge (xd_var 0 rfl (.inl rfl)) (xd_pow xd_int xd_int)) (xss_cons (xs_append 2 rfl (.inl rfl) (xd_mod (xd_var 3 rfl (.inl rfl)) xd_int))
  (xss_cons (xs_setV 3 rfl ⟨(.inl rfl), .inl rfl⟩ (xd_div (xd_var 3 rfl (.inl rfl)) xd_int))
  xss_nil)) (xss_cons (xs_append 2 rfl (.inl rfl) (xd_div (xd_mod (xd_int1 rfl B.b_int (by rfl) (xd_add (xd_mul (xd_var 5 rfl (.inl rfl)) (xd_var 5 rfl (.inl rfl))) (xd_mul (xd_var 5 rfl (.inl rfl)) xd_int))) xd_int) xd_int))
  xss_nil))
  xss_nil)))
  (xss_cons (xs_ret (xd_var 2 rfl (.inl rfl)))
  xss_nil))))
def N_31 : List Str := ["program", "rows", "name"]
theorem sc_31 : FnScope N_31 ["program"] (defScope (top 31)) := ⟨rfl, rfl, rfl, by decide +kernel, rfl, by decide +kernel, by decide +kernel⟩
/-- _law_inputs -/
def m_31 (R : Rec) : SM := (sSeq (sSetL 1 (mLst (mCons (mTup mNil) mNil)))
  (sSeq (sFor (mItems (mOp2 gIdx (mVar 0) (mPure (.int 1)))) (aName 2) (sSeq (sSetV 1 (mCall 2 (R 32) [] (mCons (mVar 1) (mCons (mOp2 gIdx (mVar 0) (mPure (.int 0))) mNil))))
  sNil))
  (sSeq (sRet (mVar 1))
  sNil)))
theorem w_31 {P : Program} {w : World} {K : PySem.W.Frag} {mg : Str → Option Value} {base : Heap} {T : List Addr} {cls : String → Value} (B : Bas K mg cls) (R : Rec) (k : Nat) (c_32_0 : CalleeB P w K mg base T cls (2 * k) "_law_longer" 2 [] (R 32)) (Wx : WX) : XSs (klOf P w K mg base N_31 (defScope (top 31)) (2 * k + 1) none T cls Wx) (defBody (top 31)) (m_31 R) := by
  unfold m_31
  exact (xss_cons (xs_setL 1 rfl ⟨(.inl rfl), .inl rfl⟩ (xf_lst (xl_cons (xd_tup xl_nil) xl_nil)))
  (xss_cons (xs_for (xi_val rfl (xd_idx (fun _ _ => rfl) (xd_var 0 rfl (.inl rfl)) xd_int)) (xg_name 2 rfl (.inl rfl) (.inl rfl)) (xss_cons (xs_setV 1 rfl ⟨(.inl rfl), .inl rfl⟩ (xd_call rfl (CalleeB.of c_32_0 (Nat.le_succ _)) rfl (xl_cons (xd_var 1 rfl (.inl rfl)) (xl_cons (xd_idx (fun _ _ => rfl) (xd_var 0 rfl (.inl rfl)) xd_int) xl_nil)) (fun _ _ => rfl) (fun _ _ => rfl)))
  xss_nil))
  (xss_cons (xs_ret (xd_var 1 rfl (.inl rfl)))
  xss_nil)))
def N_32 : List Str := ["rows", "turn", "found", "row", "one"]
theorem sc_32 : FnScope N_32 ["rows", "turn"] (defScope (top 32)) := ⟨rfl, rfl, rfl, by decide +kernel, rfl, by decide +kernel, by decide +kernel⟩
/-- _law_longer -/
def m_32 (R : Rec) : SM := (sSeq (sSetL 2 (mLst mNil))
  (sSeq (sFor (mItems (mVar 0)) (aName 3) (sSeq (sSetL 2 (mOp2L gCatL (mVar 2) (mList (mLc [4] (mRg rg1 (mCons (mVar 1) mNil)) (aName 4) (mPure true) (mOp2 bAdd (mVar 3) (mTup (mCons (mVar 4) mNil)))))))
  sNil))
  (sSeq (sRet (mVar 2))
  sNil)))
theorem w_32 {P : Program} {w : World} {K : PySem.W.Frag} {mg : Str → Option Value} {base : Heap} {T : List Addr} {cls : String → Value} (B : Bas K mg cls) (R : Rec) (k : Nat)  (Wx : WX) : XSs (klOf P w K mg base N_32 (defScope (top 32)) (2 * k + 1) none T cls Wx) (defBody (top 32)) (m_32 R) := by
  unfold m_32
  exact (xss_cons (xs_setL 2 rfl ⟨(.inl rfl), .inl rfl⟩ (xf_lst xl_nil))
  (xss_cons (xs_for (xi_val rfl (xd_var 0 rfl (.inl rfl))) (xg_name 3 rfl (.inr rfl) (.inl rfl)) (xss_cons (xs_setL 2 rfl ⟨(.inl rfl), .inl rfl⟩ (xf_catL (xd_var 2 rfl (.inl rfl)) (xd_of (xf_lc (own := [("one", 4)]) rfl (xi_range1 rfl B.b_range (xd_var 1 rfl (.inl rfl))) (blkOk_by (N := N_32) (sc := defScope (top 32)) (by decide +kernel)) (by decide) (xg_name 4 rfl (.inl rfl) (.inr rfl)) xifs_nil (xd_add (xd_var 3 rfl (.inr (.inl rfl))) (xd_tup (xl_cons (xd_var 4 rfl (.inl rfl)) xl_nil)))))))
  xss_nil))
  (xss_cons (xs_ret (xd_var 2 rfl (.inl rfl)))
  xss_nil)))
def N_33 : List Str := ["box", "rows", "low", "high"]
theorem sc_33 : FnScope N_33 ["box"] (defScope (top 33)) := ⟨rfl, rfl, rfl, by decide +kernel, rfl, by decide +kernel, by decide +kernel⟩
/-- _law_within -/
def m_33 (R : Rec) : SM := (sSeq (sSetL 1 (mLst (mCons (mTup mNil) mNil)))
  (sSeq (sFor (mItems (mVar 0)) (aTup (aCons (aName 2) (aCons (aName 3) aNil))) (sSeq (sSetV 1 (mCall 3 (R 34) [] (mCons (mVar 1) (mCons (mVar 2) (mCons (mVar 3) mNil)))))
  sNil))
  (sSeq (sRet (mVar 1))
  sNil)))
theorem w_33 {P : Program} {w : World} {K : PySem.W.Frag} {mg : Str → Option Value} {base : Heap} {T : List Addr} {cls : String → Value} (B : Bas K mg cls) (R : Rec) (k : Nat) (c_34_0 : CalleeB P w K mg base T cls (2 * k) "_law_spread" 3 [] (R 34)) (Wx : WX) : XSs (klOf P w K mg base N_33 (defScope (top 33)) (2 * k + 1) none T cls Wx) (defBody (top 33)) (m_33 R) := by
  unfold m_33
  exact (xss_cons (xs_setL 1 rfl ⟨(.inl rfl), .inl rfl⟩ (xf_lst (xl_cons (xd_tup xl_nil) xl_nil)))
  (xss_cons (xs_for (xi_val rfl (xd_var 0 rfl (.inl rfl))) (xg_tup rfl (xgs_cons (xg_name 2 rfl (.inl rfl) (.inl rfl)) (xgs_cons (xg_name 3 rfl (.inl rfl) (.inl rfl)) xgs_nil)) (aCons_len (aCons_len (fun _ _ _ h => aNil_len h)))) (xss_cons (xs_setV 1 rfl ⟨(.inl rfl), .inl rfl⟩ (xd_call rfl (CalleeB.of c_34_0 (Nat.le_succ _)) rfl (xl_cons (xd_var 1 rfl (.inl rfl)) (xl_cons (xd_var 2 rfl (.inl rfl)) (xl_cons (xd_var 3 rfl (.inl rfl)) xl_nil))) (fun _ _ => rfl) (fun _ _ => rfl)))
  xss_nil))
  (xss_cons (xs_ret (xd_var 1 rfl (.inl rfl)))
  xss_nil)))
def N_34 : List Str := ["rows", "low", "high", "found", "row", "one"]
theorem sc_34 : FnScope N_34 ["rows", "low", "high"] (defScope (top 34)) := ⟨rfl, rfl, rfl, by decide +kernel, rfl, by decide +kernel, by decide +kernel⟩
/-- _law_spread -/
def m_34 (R : Rec) : SM := (sSeq (sSetL 3 (mLst mNil))
  (sSeq (sFor (mItems (mVar 0)) (aName 4) (sSeq (sSetL 3 (mOp2L gCatL (mVar 3) (mList (mLc [5] (mRg rg2 (mCons (mVar 1) (mCons (mOp2 bAdd (mVar 2) (mPure (.int 1))) mNil))) (aName 5) (mPure true) (mOp2 bAdd (mVar 4) (mTup (mCons (mVar 5) mNil)))))))
  sNil))
  (sSeq (sRet (mVar 3))
  sNil)))
theorem w_34 {P : Program} {w : World} {K : PySem.W.Frag} {mg : Str → Option Value} {base : Heap} {T : List Addr} {cls : String → Value} (B : Bas K mg cls) (R : Rec) (k : Nat)  (Wx : WX) : XSs (klOf P w K mg base N_34 (defScope (top 34)) (2 * k + 1) none T cls Wx) (defBody (top 34)) (m_34 R) := by
  unfold m_34
  exact (xss_cons (xs_setL 3 rfl ⟨(.inl rfl), .inl rfl⟩ (xf_lst xl_nil))
  (xss_cons (xs_for (xi_val rfl (xd_var 0 rfl (.inl rfl))) (xg_name 4 rfl (.inr rfl) (.inl rfl)) (xss_cons (xs_setL 3 rfl ⟨(.inl rfl), .inl rfl⟩ (xf_catL (xd_var 3 rfl (.inl rfl)) (xd_of (xf_lc (own := [("one", 5)]) rfl (xi_range2 rfl rfl B.b_range (xd_var 1 rfl (.inl rfl)) (xd_add (xd_var 2 rfl (.inl rfl)) xd_int)) (blkOk_by (N := N_34) (sc := defScope (top 34)) (by decide +kernel)) (by decide) (xg_name 5 rfl (.inl rfl) (.inr rfl)) xifs_nil (xd_add (xd_var 4 rfl (.inr (.inl rfl))) (xd_tup (xl_cons (xd_var 5 rfl (.inl rfl)) xl_nil)))))))
  xss_nil))
  (xss_cons (xs_ret (xd_var 3 rfl (.inl rfl)))
  xss_nil)))
def N_35 : List Str := ["program", "name"]
theorem sc_35 : FnScope N_35 ["program"] (defScope (top 35)) := ⟨rfl, rfl, rfl, by decide +kernel, rfl, by decide +kernel, by decide +kernel⟩
/-- _law_whole -/
def m_35 (R : Rec) : SM := (sSeq (sRet (mB1 gTuple (mCons (mList (mLc [1] (mItems (mOp2 gIdx (mVar 0) (mPure (.int 1)))) (aName 1) (mPure true) (mTup (mCons (mPure (.int 0)) (mCons (mOp2 bSub (mOp2 gIdx (mVar 0) (mPure (.int 0))) (mPure (.int 1))) mNil))))) mNil)))
  sNil)
theorem w_35 {P : Program} {w : World} {K : PySem.W.Frag} {mg : Str → Option Value} {base : Heap} {T : List Addr} {cls : String → Value} (B : Bas K mg cls) (R : Rec) (k : Nat)  (Wx : WX) : XSs (klOf P w K mg base N_35 (defScope (top 35)) (2 * k + 1) none T cls Wx) (defBody (top 35)) (m_35 R) := by
  unfold m_35
  exact (xss_cons (xs_ret (xd_tuple rfl B.b_tuple (by rfl) (xd_of (xf_lc (own := [("name", 1)]) rfl (xi_val rfl (xd_idx (fun _ _ => rfl) (xd_var 0 rfl (.inr (.inl rfl))) xd_int)) (blkOk_by (N := N_35) (sc := defScope (top 35)) (by decide +kernel)) (by decide) (xg_name 1 rfl (.inl rfl) (.inr rfl)) xifs_nil (xd_tup (xl_cons xd_int (xl_cons (xd_sub (xd_idx (fun _ _ => rfl) (xd_var 0 rfl (.inr (.inl rfl))) xd_int) xd_int) xl_nil)))))))
  xss_nil)
def N_37 : List Str := ["number", "found", "step"]
theorem sc_37 : FnScope N_37 ["number"] (defScope (top 37)) := ⟨rfl, rfl, rfl, by decide +kernel, rfl, by decide +kernel, by decide +kernel⟩
/-- _law_power -/
def m_37 (R : Rec) : SM := (sSeq (sSetV 1 (mPure (.int 1)))
  (sSeq (sFor (mRg rg1 (mCons (mVar 0) mNil)) (aName 2) (sSeq (sSetV 1 (mOp2 bMul (mVar 1) (mPure (.int 2))))
  sNil))
  (sSeq (sRet (mVar 1))
  sNil)))
theorem w_37 {P : Program} {w : World} {K : PySem.W.Frag} {mg : Str → Option Value} {base : Heap} {T : List Addr} {cls : String → Value} (B : Bas K mg cls) (R : Rec) (k : Nat)  (Wx : WX) : XSs (klOf P w K mg base N_37 (defScope (top 37)) (2 * k + 1) none T cls Wx) (defBody (top 37)) (m_37 R) := by
  unfold m_37
  exact (xss_cons (xs_setV 1 rfl ⟨(.inl rfl), .inl rfl⟩ xd_int)
  (xss_cons (xs_for (xi_range1 rfl B.b_range (xd_var 0 rfl (.inl rfl))) (xg_name 2 rfl (.inl rfl) (.inl rfl)) (xss_cons (xs_setV 1 rfl ⟨(.inl rfl), .inl rfl⟩ (xd_mul (xd_var 1 rfl (.inl rfl)) xd_int))
  xss_nil))
  (xss_cons (xs_ret (xd_var 1 rfl (.inl rfl)))
  xss_nil)))
def N_38 : List Str := ["script", "n", "turn", "many", "program", "box", "k", "low", "rows", "numbers", "number", "told", "first", "second", "some", "mask", "bad", "one", "j"]
theorem sc_38 : FnScope N_38 ["script"] (defScope (top 38)) := ⟨rfl, rfl, rfl, by decide +kernel, rfl, by decide +kernel, by decide +kernel⟩
/-- law -/
def m_38 (R : Rec) : SM := (sSeq (sSetV 1 (mCall 2 (R 30) [] (mCons (mCall 2 (R 29) [] (mCons (mVar 0) (mCons (mPure (.int 0)) mNil))) (mCons (mPure (.int 200)) mNil))))
  (sSeq (sAsg (aTup (aCons (aName 2) (aCons (aName 3) aNil))) (mTup (mCons (mOp2 bAdd (mOp2 bMod (mB1 gInt (mCons (mOp2 gIdx (mVar 1) (mPure (.int 1))) mNil)) (mPure (.int 63))) (mPure (.int 2))) (mCons (mOp2 bMod (mB1 gInt (mCons (mOp2 gIdx (mVar 1) (mPure (.int 2))) mNil)) (mPure (.int 4))) mNil))))
  (sSeq (sSetV 4 (mTup (mCons (mVar 2) (mCons (mSl (mTup (mCons (mPure (.str ("a" : Str))) (mCons (mPure (.str ("b" : Str))) (mCons (mPure (.str ("q" : Str))) mNil)))) (mPure none) (mPart (mVar 3))) (mCons (mTup mNil) (mCons (mTup (mCons (mTup (mCons (mPure (.str ("stop" : Str))) mNil)) mNil)) mNil))))))
  (sSeq (sSetL 5 (mLst mNil))
  (sSeq (sFor (mRg rg1 (mCons (mVar 3) mNil)) (aName 6) (sSeq (sSetV 7 (mOp2 bMod (mB1 gInt (mCons (mOp2 gIdx (mVar 1) (mOp2 bAdd (mPure (.int 3)) (mVar 6))) mNil)) (mVar 2)))
  (sSeq (sApp 5 (mTup (mCons (mVar 7) (mCons (mB1 gMin (mCons (mOp2 bAdd (mVar 7) (mOp2 bMod (mB1 gInt (mCons (mOp2 gIdx (mVar 1) (mOp2 bAdd (mPure (.int 6)) (mVar 6))) mNil)) (mPure (.int 5)))) (mCons (mOp2 bSub (mVar 2) (mPure (.int 1))) mNil))) mNil))))
  sNil)))
  (sSeq (sSetV 5 (mB1 gTuple (mCons (mVar 5) mNil)))
  (sSeq (sSetV 8 (mCall 1 (R 33) [] (mCons (mVar 5) mNil)))
  (sSeq (sIf (tOrM (mB (mOp2 (gB cEq not) (mCall 1 (R 27) [] (mCons (mVar 5) mNil)) (mB1 gTuple (mCons (mVar 8) mNil)))) (tOrM (mB (mOp2 (gB cEq not) (mCall 1 (R 24) [] (mCons (mVar 5) mNil)) (mB1 gLen (mCons (mVar 8) mNil)))) (mB (mOp2 (gB cEq not) (mCall 1 (R 23) [] (mCons (mVar 4) mNil)) (mCall 1 (R 35) [] (mCons (mVar 4) mNil)))))) (sSeq (sRet (mPure (.bool false)))
  sNil) sNil)
  (sSeq (sIf (tAndM (mB (mOp2 cLt (mVar 2) (mPure (.int 9)))) (tAndM (mB (mOp2 cLt (mVar 3) (mPure (.int 3)))) (mB (mOp2 (gB cEq not) (mCall 1 (R 18) [] (mCons (mVar 4) mNil)) (mB1 gTuple (mCons (mCall 1 (R 31) [] (mCons (mVar 4) mNil)) mNil)))))) (sSeq (sRet (mPure (.bool false)))
  sNil) sNil)
  (sSeq (sSetV 9 (mB1 gTuple (mCons (mList (mLc [6] (mRg rg1 (mCons (mVar 3) mNil)) (aName 6) (mPure true) (mOp2 bMod (mB1 gInt (mCons (mOp2 gIdx (mVar 1) (mOp2 bAdd (mPure (.int 10)) (mVar 6))) mNil)) (mVar 2)))) mNil)))
  (sSeq (sIf (mB (mOp2 (gB cEq not) (mCall 2 (R 25) [] (mCons (mVar 5) (mCons (mVar 9) mNil))) (mOp2 (gB cIn id) (mVar 9) (mVar 8)))) (sSeq (sRet (mPure (.bool false)))
  sNil) sNil)
  (sSeq (sAsg (aTup (aCons (aName 6) (aCons (aName 10) aNil))) (mTup (mCons (mOp2 bMod (mB1 gInt (mCons (mOp2 gIdx (mVar 1) (mPure (.int 13))) mNil)) (mPure (.int 4))) (mCons (mOp2 bMod (mB1 gInt (mCons (mOp2 gIdx (mVar 1) (mPure (.int 14))) mNil)) (mVar 2)) mNil))))
  (sSeq (sSetV 11 (mPure .none))
  (sSeq (sTry (sSeq (sSetV 11 (mCall 3 (R 26) [] (mCons (mVar 5) (mCons (mVar 6) (mCons (mVar 10) mNil)))))
  sNil) catchBadInput (sSeq (sSetV 11 (mPure .none))
  sNil))
  (sSeq (sIf (tOrM (mB (mOp2 cGe (mVar 6) (mVar 3))) (tNotM (mB (mChain cLt cLe (mOp2 gIdx (mOp2 gIdx (mVar 5) (mVar 6)) (mPure (.int 0))) (mVar 10) (mOp2 gIdx (mOp2 gIdx (mVar 5) (mVar 6)) (mPure (.int 1))))))) (sSeq (sIf (mB (mOp2 cIsNot (mVar 11) (mPure .none))) (sSeq (sRet (mPure (.bool false)))
  sNil) sNil)
  sNil) (sSeq (sAsg (aTup (aCons (aName 12) (aCons (aName 13) aNil))) (mVar 11))
  (sSeq (sIf (tOrM (mB (mOp2 (gB cEq not) (mList (mLc [17] (mItems (mVar 8)) (aName 17) (mB (mOp2 cLt (mOp2 gIdx (mVar 17) (mVar 6)) (mVar 10))) (mVar 17))) (mCall 1 (R 33) [] (mCons (mVar 12) mNil)))) (mB (mOp2 (gB cEq not) (mList (mLc [17] (mItems (mVar 8)) (aName 17) (mB (mOp2 cGe (mOp2 gIdx (mVar 17) (mVar 6)) (mVar 10))) (mVar 17))) (mCall 1 (R 33) [] (mCons (mVar 13) mNil))))) (sSeq (sRet (mPure (.bool false)))
  sNil) sNil)
  sNil)))
  (sSeq (sSetL 14 (mSortU (mList (mLc [18] (mRg rg1 (mCons (mOp2 bMod (mB1 gInt (mCons (mOp2 gIdx (mVar 1) (mPure (.int 15))) mNil)) (mPure (.int 12))) mNil)) (aName 18) (mPure true) (mOp2 bMod (mB1 gInt (mCons (mOp2 gIdx (mVar 1) (mOp2 bAdd (mPure (.int 20)) (mVar 18))) mNil)) (mPure (.int 64)))))))
  (sSeq (sSetV 15 (mB1 gSum (mCons (mList (mLc [17] (mItems (mVar 14)) (aName 17) (mPure true) (mCall 1 (R 37) [] (mCons (mVar 17) mNil)))) mNil)))
  (sSeq (sIf (tOrM (mB (mOp2 (gB cEq not) (mCall 1 (R 20) [] (mCons (mB1 gTuple (mCons (mVar 14) mNil)) mNil)) (mVar 15))) (mB (mOp2 (gB cEq not) (mCall 1 (R 21) [] (mCons (mVar 15) mNil)) (mB1 gTuple (mCons (mVar 14) mNil))))) (sSeq (sRet (mPure (.bool false)))
  sNil) sNil)
  (sSeq (sSetV 16 (mOp2 gIdx (mTup (mCons (mOp2 bSub (mOp2 bSub (mPure (.int 0)) (mPure (.int 1))) (mVar 15)) (mCons (mPure .none) (mCons (mPure (.str ("3" : Str))) (mCons (mTup (mCons (mPure (.int 1)) mNil)) mNil))))) (mOp2 bMod (mB1 gInt (mCons (mOp2 gIdx (mVar 1) (mPure (.int 16))) mNil)) (mPure (.int 4)))))
  (sSeq (sTry (sSeq (sDrop (mCall 1 (R 21) [] (mCons (mVar 16) mNil)))
  sNil) catchBadSet (sSeq (sRet (mOp2 (gB cEq id) (mCallH 1 (R 1021) (mCons (mVar 15) mNil)) (mB1 gTuple (mCons (mCallH 1 (R 1036) (mCons (mVar 15) mNil)) mNil))))
  sNil))
  (sSeq (sRet (mPure (.bool false)))
  sNil)))))))))))))))))))))
theorem w_38 {P : Program} {w : World} {K : PySem.W.Frag} {mg : Str → Option Value} {base : Heap} {T : List Addr} {cls : String → Value} (B : Bas K mg cls) (R : Rec) (k : Nat) (c_18_0 : CalleeB P w K mg base T cls (2 * k) "all_inputs" 1 [] (R 18)) (c_20_0 : CalleeB P w K mg base T cls (2 * k) "mask_of" 1 [] (R 20)) (c_21_0 : CalleeB P w K mg base T cls (2 * k) "numbers_of" 1 [] (R 21)) (h_21 : CalleeHB P w K mg base T (2 * k) "numbers_of" 1 (R 1021)) (c_23_0 : CalleeB P w K mg base T cls (2 * k) "whole_box" 1 [] (R 23)) (c_24_0 : CalleeB P w K mg base T cls (2 * k) "size_of" 1 [] (R 24)) (c_25_0 : CalleeB P w K mg base T cls (2 * k) "is_in" 2 [] (R 25)) (c_26_0 : CalleeB P w K mg base T cls (2 * k) "halves" 3 [] (R 26)) (c_27_0 : CalleeB P w K mg base T cls (2 * k) "inputs_of" 1 [] (R 27)) (c_29_0 : CalleeB P w K mg base T cls (2 * k) "_law_cell" 2 [] (R 29)) (c_30_0 : CalleeB P w K mg base T cls (2 * k) "_law_draws" 2 [] (R 30)) (c_31_0 : CalleeB P w K mg base T cls (2 * k) "_law_inputs" 1 [] (R 31)) (c_33_0 : CalleeB P w K mg base T cls (2 * k) "_law_within" 1 [] (R 33)) (c_35_0 : CalleeB P w K mg base T cls (2 * k) "_law_whole" 1 [] (R 35)) (h_36 : CalleeHB P w K mg base T (2 * k) "_law_figures" 1 (R 1036)) (c_37_0 : CalleeB P w K mg base T cls (2 * k) "_law_power" 1 [] (R 37)) (Wx : WX) : XSs (klOf P w K mg base N_38 (defScope (top 38)) (2 * k + 1) none T cls Wx) (defBody (top 38)) (m_38 R) := by
  unfold m_38
  exact (xss_cons (xs_setV 1 rfl ⟨(.inr rfl), .inl rfl⟩ (xd_call rfl (CalleeB.of c_30_0 (Nat.le_succ _)) rfl (xl_cons (xd_call rfl (CalleeB.of c_29_0 (Nat.le_succ _)) rfl (xl_cons (xd_var 0 rfl (.inl rfl)) (xl_cons xd_int xl_nil)) (fun _ _ => rfl) (fun _ _ => rfl)) (xl_cons xd_int xl_nil)) (fun _ _ => rfl) (fun _ _ => rfl)))
  (xss_cons (xs_asg (xg_tup rfl (xgs_cons (xg_name 2 rfl (.inr rfl) (.inl rfl)) (xgs_cons (xg_name 3 rfl (.inl rfl) (.inl rfl)) xgs_nil)) (aCons_len (aCons_len (fun _ _ _ h => aNil_len h)))) (xd_tup (xl_cons (xd_add (xd_mod (xd_int1 rfl B.b_int (by rfl) (xd_idx (fun _ _ => rfl) (xd_var 1 rfl (.inr (.inl rfl))) xd_int)) xd_int) xd_int) (xl_cons (xd_mod (xd_int1 rfl B.b_int (by rfl) (xd_idx (fun _ _ => rfl) (xd_var 1 rfl (.inr (.inl rfl))) xd_int)) xd_int) xl_nil))) (hw := (fun env h => by cases env; cases h; rfl)))
  (xss_cons (xs_setV 4 rfl ⟨(.inl rfl), .inl rfl⟩ (xd_tup (xl_cons (xd_var 2 rfl (.inr (.inl rfl))) (xl_cons (xd_slice (xd_tup (xl_cons xd_str (xl_cons xd_str (xl_cons xd_str xl_nil)))) xo_none (xo_some (xd_var 3 rfl (.inl rfl)))) (xl_cons (xd_tup xl_nil) (xl_cons (xd_tup (xl_cons (xd_tup (xl_cons xd_str xl_nil)) xl_nil)) xl_nil))))))
  (xss_cons (xs_setL 5 rfl ⟨(.inl rfl), .inl rfl⟩ (xf_lst xl_nil))
  (xss_cons (xs_for (xi_range1 rfl B.b_range (xd_var 3 rfl (.inl rfl))) (xg_name 6 rfl (.inr rfl) (.inl rfl)) (xss_cons (xs_setV 7 rfl ⟨(.inl rfl), .inl rfl⟩ (xd_mod (xd_int1 rfl B.b_int (by rfl) (xd_idx (fun _ _ => rfl) (xd_var 1 rfl (.inr (.inl rfl))) (xd_add xd_int (xd_var 6 rfl (.inr (.inl rfl)))))) (xd_var 2 rfl (.inr (.inl rfl)))))
  (xss_cons (xs_append 5 rfl (.inl rfl) (xd_tup (xl_cons (xd_var 7 rfl (.inl rfl)) (xl_cons (xd_min2 rfl rfl B.b_min (by rfl) (xd_add (xd_var 7 rfl (.inl rfl)) (xd_mod (xd_int1 rfl B.b_int (by rfl) (xd_idx (fun _ _ => rfl) (xd_var 1 rfl (.inr (.inl rfl))) (xd_add xd_int (xd_var 6 rfl (.inr (.inl rfl)))))) xd_int)) (xd_sub (xd_var 2 rfl (.inr (.inl rfl))) xd_int)) xl_nil))))
  xss_nil)))
  (xss_cons (xs_setV 5 rfl ⟨(.inl rfl), .inl rfl⟩ (xd_tuple rfl B.b_tuple (by rfl) (xd_var 5 rfl (.inl rfl))))
  (xss_cons (xs_setV 8 rfl ⟨(.inl rfl), .inl rfl⟩ (xd_call rfl (CalleeB.of c_33_0 (Nat.le_succ _)) rfl (xl_cons (xd_var 5 rfl (.inl rfl)) xl_nil) (fun _ _ => rfl) (fun _ _ => rfl)))
  (xss_cons (xs_if (xt_bool (xw_or (xt_ne (xd_call rfl (CalleeB.of c_27_0 (Nat.le_succ _)) rfl (xl_cons (xd_var 5 rfl (.inl rfl)) xl_nil) (fun _ _ => rfl) (fun _ _ => rfl)) (xd_tuple rfl B.b_tuple (by rfl) (xd_var 8 rfl (.inl rfl)))) (xw_or (xt_ne (xd_call rfl (CalleeB.of c_24_0 (Nat.le_succ _)) rfl (xl_cons (xd_var 5 rfl (.inl rfl)) xl_nil) (fun _ _ => rfl) (fun _ _ => rfl)) (xd_len rfl B.b_len (xd_var 8 rfl (.inl rfl)))) (xw_or1 (xt_ne (xd_call rfl (CalleeB.of c_23_0 (Nat.le_succ _)) rfl (xl_cons (xd_var 4 rfl (.inl rfl)) xl_nil) (fun _ _ => rfl) (fun _ _ => rfl)) (xd_call rfl (CalleeB.of c_35_0 (Nat.le_succ _)) rfl (xl_cons (xd_var 4 rfl (.inl rfl)) xl_nil) (fun _ _ => rfl) (fun _ _ => rfl))))))) (xss_cons (xs_ret xd_bl)
  xss_nil) xss_nil)
  (xss_cons (xs_if (xt_bool (xw_and (xt_lt (xd_var 2 rfl (.inr (.inl rfl))) xd_int) (xw_and (xt_lt (xd_var 3 rfl (.inl rfl)) xd_int) (xw_and1 (xt_ne (xd_call rfl (CalleeB.of c_18_0 (Nat.le_succ _)) rfl (xl_cons (xd_var 4 rfl (.inl rfl)) xl_nil) (fun _ _ => rfl) (fun _ _ => rfl)) (xd_tuple rfl B.b_tuple (by rfl) (xd_call rfl (CalleeB.of c_31_0 (Nat.le_succ _)) rfl (xl_cons (xd_var 4 rfl (.inl rfl)) xl_nil) (fun _ _ => rfl) (fun _ _ => rfl)))))))) (xss_cons (xs_ret xd_bl)
  xss_nil) xss_nil)
  (xss_cons (xs_setV 9 rfl ⟨(.inl rfl), .inl rfl⟩ (xd_tuple rfl B.b_tuple (by rfl) (xd_of (xf_lc (own := [("k", 6)]) rfl (xi_range1 rfl B.b_range (xd_var 3 rfl (.inl rfl))) (blkOk_by (N := N_38) (sc := defScope (top 38)) (by decide +kernel)) (by decide) (xg_name 6 rfl (.inl rfl) (.inr rfl)) xifs_nil (xd_mod (xd_int1 rfl B.b_int (by rfl) (xd_idx (fun _ _ => rfl) (xd_var 1 rfl (.inr (.inl rfl))) (xd_add xd_int (xd_var 6 rfl (.inl rfl))))) (xd_var 2 rfl (.inr (.inl rfl))))))))
  (xss_cons (xs_if (xt_ne (xd_call rfl (CalleeB.of c_25_0 (Nat.le_succ _)) rfl (xl_cons (xd_var 5 rfl (.inl rfl)) (xl_cons (xd_var 9 rfl (.inl rfl)) xl_nil)) (fun _ _ => rfl) (fun _ _ => rfl)) (xd_in rfl (xd_var 9 rfl (.inl rfl)) (xd_var 8 rfl (.inl rfl)))) (xss_cons (xs_ret xd_bl)
  xss_nil) xss_nil)
  (xss_cons (xs_asg (xg_tup rfl (xgs_cons (xg_name 6 rfl (.inr rfl) (.inl rfl)) (xgs_cons (xg_name 10 rfl (.inr rfl) (.inl rfl)) xgs_nil)) (aCons_len (aCons_len (fun _ _ _ h => aNil_len h)))) (xd_tup (xl_cons (xd_mod (xd_int1 rfl B.b_int (by rfl) (xd_idx (fun _ _ => rfl) (xd_var 1 rfl (.inr (.inl rfl))) xd_int)) xd_int) (xl_cons (xd_mod (xd_int1 rfl B.b_int (by rfl) (xd_idx (fun _ _ => rfl) (xd_var 1 rfl (.inr (.inl rfl))) xd_int)) (xd_var 2 rfl (.inr (.inl rfl)))) xl_nil))) (hw := (fun env h => by cases env; cases h; rfl)))
  (xss_cons (xs_setV 11 rfl ⟨(.inl rfl), .inl rfl⟩ xd_non)
  (xss_cons (xs_try rfl rfl rfl (by decide) B.m_BadInput B.h_BadInput
  (fun Wx => (xss_cons (xs_setV 11 rfl ⟨(.inl rfl), .inl rfl⟩ (xd_call rfl (CalleeB.of c_26_0 (Nat.le_succ _)) rfl (xl_cons (xd_var 5 rfl (.inl rfl)) (xl_cons (xd_var 6 rfl (.inr (.inl rfl))) (xl_cons (xd_var 10 rfl (.inr (.inl rfl))) xl_nil))) (fun _ _ => rfl) (fun _ _ => rfl)))
  xss_nil))
  (xss_cons (xs_setV 11 rfl ⟨(.inl rfl), .inl rfl⟩ xd_non)
  xss_nil))
  (xss_cons (xs_if (xt_bool (xw_or (xt_ge (xd_var 6 rfl (.inr (.inl rfl))) (xd_var 3 rfl (.inl rfl))) (xw_or1 (xt_not (xt_ltle (xd_idx (fun _ _ => rfl) (xd_idx (fun _ _ => rfl) (xd_var 5 rfl (.inl rfl)) (xd_var 6 rfl (.inr (.inl rfl)))) xd_int) (xd_var 10 rfl (.inr (.inl rfl))) (xd_idx (fun _ _ => rfl) (xd_idx (fun _ _ => rfl) (xd_var 5 rfl (.inl rfl)) (xd_var 6 rfl (.inr (.inl rfl)))) xd_int)))))) (xss_cons (xs_if (xt_isnot (xd_var 11 rfl (.inl rfl)) xd_non) (xss_cons (xs_ret xd_bl)
  xss_nil) xss_nil)
  xss_nil) (xss_cons (xs_asg (xg_tup rfl (xgs_cons (xg_name 12 rfl (.inl rfl) (.inl rfl)) (xgs_cons (xg_name 13 rfl (.inl rfl) (.inl rfl)) xgs_nil)) (aCons_len (aCons_len (fun _ _ _ h => aNil_len h)))) (xd_var 11 rfl (.inl rfl)))
  (xss_cons (xs_if (xt_bool (xw_or (xt_ne (xd_of (xf_lc (own := [("one", 17)]) rfl (xi_val rfl (xd_var 8 rfl (.inl rfl))) (blkOk_by (N := N_38) (sc := defScope (top 38)) (by decide +kernel)) (by decide) (xg_name 17 rfl (.inl rfl) (.inr rfl)) (xifs_one (xt_lt (xd_idx (fun _ _ => rfl) (xd_var 17 rfl (.inl rfl)) (xd_var 6 rfl (.inr (.inl rfl)))) (xd_var 10 rfl (.inr (.inl rfl))))) (xd_var 17 rfl (.inl rfl)))) (xd_call rfl (CalleeB.of c_33_0 (Nat.le_succ _)) rfl (xl_cons (xd_var 12 rfl (.inl rfl)) xl_nil) (fun _ _ => rfl) (fun _ _ => rfl))) (xw_or1 (xt_ne (xd_of (xf_lc (own := [("one", 17)]) rfl (xi_val rfl (xd_var 8 rfl (.inl rfl))) (blkOk_by (N := N_38) (sc := defScope (top 38)) (by decide +kernel)) (by decide) (xg_name 17 rfl (.inl rfl) (.inr rfl)) (xifs_one (xt_ge (xd_idx (fun _ _ => rfl) (xd_var 17 rfl (.inl rfl)) (xd_var 6 rfl (.inr (.inl rfl)))) (xd_var 10 rfl (.inr (.inl rfl))))) (xd_var 17 rfl (.inl rfl)))) (xd_call rfl (CalleeB.of c_33_0 (Nat.le_succ _)) rfl (xl_cons (xd_var 13 rfl (.inl rfl)) xl_nil) (fun _ _ => rfl) (fun _ _ => rfl)))))) (xss_cons (xs_ret xd_bl)
  xss_nil) xss_nil)
  xss_nil)))
  (xss_cons (xs_setL 14 rfl ⟨(.inl rfl), .inl rfl⟩ (xf_sortedSet rfl rfl B.b_sorted (by rfl) rfl B.b_set (by rfl) (xd_of (xf_lc (own := [("j", 18)]) rfl (xi_range1 rfl B.b_range (xd_mod (xd_int1 rfl B.b_int (by rfl) (xd_idx (fun _ _ => rfl) (xd_var 1 rfl (.inr (.inl rfl))) xd_int)) xd_int)) (blkOk_by (N := N_38) (sc := defScope (top 38)) (by decide +kernel)) (by decide) (xg_name 18 rfl (.inl rfl) (.inr rfl)) xifs_nil (xd_mod (xd_int1 rfl B.b_int (by rfl) (xd_idx (fun _ _ => rfl) (xd_var 1 rfl (.inr (.inl rfl))) (xd_add xd_int (xd_var 18 rfl (.inl rfl))))) xd_int)))))
  (xss_cons (xs_setV 15 rfl ⟨(.inl rfl), .inl rfl⟩ (xd_sum rfl rfl B.b_sum (by rfl) (xd_of (xf_lc (own := [("one", 17)]) rfl (xi_val rfl (xd_var 14 rfl (.inl rfl))) (blkOk_by (N := N_38) (sc := defScope (top 38)) (by decide +kernel)) (by decide) (xg_name 17 rfl (.inl rfl) (.inr rfl)) xifs_nil (xd_call rfl (CalleeB.of c_37_0 (Nat.le_succ _)) rfl (xl_cons (xd_var 17 rfl (.inl rfl)) xl_nil) (fun _ _ => rfl) (fun _ _ => rfl))))))
  (xss_cons (xs_if (xt_bool (xw_or (xt_ne (xd_call rfl (CalleeB.of c_20_0 (Nat.le_succ _)) rfl (xl_cons (xd_tuple rfl B.b_tuple (by rfl) (xd_var 14 rfl (.inl rfl))) xl_nil) (fun _ _ => rfl) (fun _ _ => rfl)) (xd_var 15 rfl (.inl rfl))) (xw_or1 (xt_ne (xd_call rfl (CalleeB.of c_21_0 (Nat.le_succ _)) rfl (xl_cons (xd_var 15 rfl (.inl rfl)) xl_nil) (fun _ _ => rfl) (fun _ _ => rfl)) (xd_tuple rfl B.b_tuple (by rfl) (xd_var 14 rfl (.inl rfl))))))) (xss_cons (xs_ret xd_bl)
  xss_nil) xss_nil)
  (xss_cons (xs_setV 16 rfl ⟨(.inl rfl), .inl rfl⟩ (xd_idx (fun _ _ => rfl) (xd_tup (xl_cons (xd_sub (xd_sub xd_int xd_int) (xd_var 15 rfl (.inl rfl))) (xl_cons xd_non (xl_cons xd_str (xl_cons (xd_tup (xl_cons xd_int xl_nil)) xl_nil))))) (xd_mod (xd_int1 rfl B.b_int (by rfl) (xd_idx (fun _ _ => rfl) (xd_var 1 rfl (.inr (.inl rfl))) xd_int)) xd_int)))
  (xss_cons (xs_try rfl rfl rfl (by decide) B.m_BadSet B.h_BadSet
  (fun Wx => (xss_cons (xs_expr (xd_call rfl (CalleeB.of c_21_0 (Nat.le_succ _)) rfl (xl_cons (xd_var 16 rfl (.inl rfl)) xl_nil) (fun _ _ => rfl) (fun _ _ => rfl)))
  xss_nil))
  (xss_cons (xs_ret (xd_eq (xd_callH rfl (CalleeHB.of h_21 (Nat.le_succ _)) rfl (xl_cons (xd_var 15 rfl (.inl rfl)) xl_nil) (fun _ _ => rfl) (fun _ _ => rfl)) (xd_tuple rfl B.b_tuple (by rfl) (xd_callH rfl (CalleeHB.of h_36 (Nat.le_succ _)) rfl (xl_cons (xd_var 15 rfl (.inl rfl)) xl_nil) (fun _ _ => rfl) (fun _ _ => rfl)))))
  xss_nil))
  (xss_cons (xs_ret xd_bl)
  xss_nil)))))))))))))))))))))
/-- is_whole -/
def mh_8 (R : Rec) : SM := (sSeq (sRet (mAnd (mIsi "int" (mVar 0)) (mAnd (mNot (mIsi "bool" (mVar 0))) (mOr (mOp2 cIs (mVar 1) (mPure .none)) (mOp2 cGe (mVar 0) (mVar 1))))))
  sNil)
theorem wh_8 {P : Program} {w : World} {K : PySem.W.Frag} {mg : Str → Option Value} {base : Heap} {T : List Addr} {cls : String → Value} (B : Bas K mg cls) (R : Rec) (k : Nat)  : XSs (klHot P w K mg base N_8 (defScope (top 8)) (2 * k + 1) none T cls) (defBody (top 8)) (mh_8 R) := by
  unfold mh_8
  exact (xss_cons (xs_ret (xd_bool (xb_and (xd_isi rfl B.b_isinstance (by rfl) rfl B.b_int (by rfl) (xd_var 0 rfl (.inl rfl))) (xb_and (xd_not (xd_isi rfl B.b_isinstance (by rfl) rfl B.b_bool (by rfl) (xd_var 0 rfl (.inl rfl)))) (xb_one (xd_bool (xb_or (xd_is (xd_var 1 rfl (.inl rfl)) xd_non) (xb_one (xd_ge (xd_var 0 rfl (.inl rfl)) (xd_var 1 rfl (.inl rfl)))))))))))
  xss_nil)
/-- numbers_of -/
def mh_21 (R : Rec) : SM := (sSeq (sIf (tNotM (mTru (mCallH 2 (R 1008) (mCons (mVar 0) (mCons (mPure (.int 0)) mNil))))) (sSeq sNo
  sNil) sNil)
  (sSeq (sRet (mB1 gTuple (mCons (mList (mLc [1] (mRg rg1 (mCons (mBits (mVar 0)) mNil)) (aName 1) (mTru (mOp2 bAnd (mOp2 bShr (mVar 0) (mVar 1)) (mPure (.int 1)))) (mVar 1))) mNil)))
  sNil))
theorem wh_21 {P : Program} {w : World} {K : PySem.W.Frag} {mg : Str → Option Value} {base : Heap} {T : List Addr} {cls : String → Value} (B : Bas K mg cls) (R : Rec) (k : Nat) (h_8 : CalleeHB P w K mg base T (2 * k) "is_whole" 2 (R 1008)) : XSs (klHot P w K mg base N_21 (defScope (top 21)) (2 * k + 1) none T cls) (defBody (top 21)) (mh_21 R) := by
  unfold mh_21
  exact (xss_cons (xs_if (xt_not (xt_val (xd_callH rfl (CalleeHB.of h_8 (Nat.le_succ _)) rfl (xl_cons (xd_var 0 rfl (.inr (.inl rfl))) (xl_cons xd_int xl_nil)) (fun _ _ => rfl) (fun _ _ => rfl)))) (xss_cons xs_never
  xss_nil) xss_nil)
  (xss_cons (xs_ret (xd_tuple rfl B.b_tuple (by rfl) (xd_of (xf_lcH (own := [("k", 1)]) rfl (xi_range1 rfl B.b_range (xd_bits (xd_var 0 rfl (.inr (.inl rfl))))) (blkOk_by (N := N_21) (sc := defScope (top 21)) (by decide +kernel)) (by decide) (xg_name 1 rfl (.inl rfl) (.inr rfl)) (xifs_one (xt_val (xd_band (xd_shr (xd_var 0 rfl (.inr (.inl rfl))) (xd_var 1 rfl (.inl rfl))) xd_int))) (xd_var 1 rfl (.inl rfl))))))
  xss_nil))
def N_36 : List Str := ["mask", "found", "rest", "number"]
theorem sc_36 : FnScope N_36 ["mask"] (defScope (top 36)) := ⟨rfl, rfl, rfl, by decide +kernel, rfl, by decide +kernel, by decide +kernel⟩
/-- _law_figures -/
def mh_36 (R : Rec) : SM := (sSeq (sParL 1 2 (mLst mNil) (mVar 0))
  (sSeq (sFor (mRg rg1 (mCons (mPure (.int 64)) mNil)) (aName 3) (sSeq (sIf (mB (mOp2 (gB cEq id) (mOp2 bMod (mB1 gInt (mCons (mVar 2) mNil)) (mPure (.int 2))) (mPure (.int 1)))) (sSeq (sApp 1 (mVar 3))
  sNil) sNil)
  (sSeq (sSetV 2 (mOp2 bDiv (mVar 2) (mPure (.int 2))))
  sNil)))
  (sSeq (sRet (mVar 1))
  sNil)))
theorem wh_36 {P : Program} {w : World} {K : PySem.W.Frag} {mg : Str → Option Value} {base : Heap} {T : List Addr} {cls : String → Value} (B : Bas K mg cls) (R : Rec) (k : Nat)  : XSs (klHot P w K mg base N_36 (defScope (top 36)) (2 * k + 1) none T cls) (defBody (top 36)) (mh_36 R) := by
  unfold mh_36
  exact (xss_cons (xs_parL 1 2 rfl rfl (by decide) rfl rfl (xf_lst xl_nil) (xd_var 0 rfl (.inl rfl)) (fun env h => by cases env; cases h; rfl))
  (xss_cons (xs_for (xi_range1 rfl B.b_range xd_int) (xg_name 3 rfl (.inl rfl) (.inl rfl)) (xss_cons (xs_if (xt_eq (xd_mod (xd_int1 rfl B.b_int (by rfl) (xd_var 2 rfl (.inl rfl))) xd_int) xd_int) (xss_cons (xs_append 1 rfl (.inl rfl) (xd_var 3 rfl (.inl rfl)))
  xss_nil) xss_nil)
  (xss_cons (xs_setV 2 rfl ⟨(.inl rfl), .inl rfl⟩ (xd_div (xd_var 2 rfl (.inl rfl)) xd_int))
  xss_nil)))
  (xss_cons (xs_ret (xd_var 1 rfl (.inl rfl)))
  xss_nil)))
end K40
end
section
set_option Elab.async false
set_option linter.all false
set_option maxRecDepth 100000
set_option maxHeartbeats 2000000
/-! FFEval: how mirrors compute. -/
theorem FF.nr {α : Sort u} {a b : α} (h : a = b) : a = b := h
namespace FF
open PySem L2
section
variable {α β : Type} {δ δ' δ1 : Env'}
@[simp] theorem e_bind (m : M α) (k : α → M β) : mBind m k δ = (match m δ with
    | some (.ok a, δ1) => k a δ1
    | some (.er c, δ1) => some (.er c, δ1)
    | none => none) := by
  unfold mBind
  rfl
@[simp] theorem e_pure (a : α) : mPure a δ = some (.ok a, δ) := nr rfl
@[simp] theorem e_no : (mNo : M α) δ = none := nr rfl
@[simp] theorem e_opt_some (a : α) : mOpt (some a) δ = some (.ok a, δ) := nr rfl
@[simp] theorem e_opt_none : mOpt (none : Option α) δ = none := nr rfl
theorem e_opt_if (p : Prop) [Decidable p] (a : α) (h : p) : mOpt (if p then some a else none) δ = some (.ok a, δ) := by rw [if_pos h]; rfl
@[simp] theorem e_var (i : Nat) : mVar i δ = (match δ[i]? with
    | some (.v d) => some (.ok d, δ)
    | some (.l false xs) => some (.ok (.list xs), δ.set i (.v (.list xs)))
    | _ => none) := nr rfl
@[simp] theorem e_nil : mNil δ = some (.ok [], δ) := nr rfl
@[simp] theorem e_cons (f : M D) (g : M (List D)) : mCons f g δ = mBind f (fun a => mBind g fun r => mPure (a :: r)) δ := nr rfl
@[simp] theorem e_tup (f : M (List D)) : mTup f δ = mBind f (fun ds => mOpt (if ds.length ≤ 1000000 then some (.tuple ds) else none)) δ := nr rfl
@[simp] theorem e_lst (f : M (List D)) : mLst f δ = mBind f (fun ds => mOpt (if ds.length ≤ 1000000 then some ds else none)) δ := nr rfl
@[simp] theorem e_list (f : M (List D)) : mList f δ = mBind f (fun xs => mPure (.list xs)) δ := nr rfl
@[simp] theorem e_op2 (g : D → D → Option D) (fa fb : M D) : mOp2 g fa fb δ = mBind fa (fun a => mBind fb fun b => mOpt (g a b)) δ := nr rfl
@[simp] theorem e_op2L (g : D → D → Option (List D)) (fa fb : M D) : mOp2L g fa fb δ = mBind fa (fun a => mBind fb fun b => mOpt (g a b)) δ := nr rfl
@[simp] theorem e_chain (g g' : D → D → Option D) (fa fb fc : M D) : mChain g g' fa fb fc δ = mBind fa (fun a => mBind fb fun b => mBind (mOpt ((g a b).bind asB)) fun k => if k = true then mBind fc fun c => mOpt (g' b c) else mPure (.bool false)) δ := nr rfl
@[simp] theorem e_and (fa fb : M D) : mAnd fa fb δ = (match fa δ with
    | some (.ok (.bool b), δ1) => if b = true then fb δ1 else some (.ok (.bool false), δ1)
    | some (.er c, δ1) => some (.er c, δ1)
    | _ => none) := by
  unfold mAnd
  rw [e_bind]
  split
  · rename_i a δ1 h
    rw [h]
    cases a <;> first | rfl | (rename_i b; cases b <;> rfl)
  · rename_i h
    rw [h]
  · rename_i h
    rw [h]
@[simp] theorem e_or (fa fb : M D) : mOr fa fb δ = (match fa δ with
    | some (.ok (.bool b), δ1) => if b = true then some (.ok (.bool true), δ1) else fb δ1
    | some (.er c, δ1) => some (.er c, δ1)
    | _ => none) := by
  unfold mOr
  rw [e_bind]
  split
  · rename_i a δ1 h
    rw [h]
    cases a <;> first | rfl | (rename_i b; cases b <;> rfl)
  · rename_i h
    rw [h]
  · rename_i h
    rw [h]
@[simp] theorem e_not (fa : M D) : mNot fa δ = mBind fa (fun a => match a with
  | .bool k => mPure (.bool (!k))
  | _ => mNo) δ := nr rfl
@[simp] theorem e_tru (f : M D) : mTru f δ = mBind f (fun d => mOpt (cTru d)) δ := nr rfl
@[simp] theorem e_mB (f : M D) : mB f δ = mBind f (fun d => mOpt (asB d)) δ := nr rfl
@[simp] theorem e_tand (fa fb : M Bool) : tAndM fa fb δ = mBind fa (fun a => if a = true then fb else mPure false) δ := nr rfl
@[simp] theorem e_tor (fa fb : M Bool) : tOrM fa fb δ = mBind fa (fun a => if a = true then mPure true else fb) δ := nr rfl
@[simp] theorem e_tnot (fa : M Bool) : tNotM fa δ = mBind fa (fun a => mPure (!a)) δ := nr rfl
@[simp] theorem e_mif (t : M Bool) (fa fb : M α) : mIf t fa fb δ = mBind t (fun k => if k = true then fa else fb) δ := nr rfl
@[simp] theorem e_ite_app (p : Prop) [Decidable p] (f g : M α) : (if p then f else g) δ = if p then f δ else g δ := by split <;> rfl
@[simp] theorem e_b1 (g : List D → Option D) (f : M (List D)) : mB1 g f δ = mBind f (fun ds => mOpt (g ds)) δ := nr rfl
@[simp] theorem e_cl (g : List D → Option (List D)) (f : M (List D)) : mCL g f δ = mBind f (fun ds => mOpt (g ds)) δ := nr rfl
@[simp] theorem e_rg (g : List D → Option (List D)) (f : M (List D)) : mRg g f δ = mBind f (fun ds => mOpt (g ds)) δ := nr rfl
@[simp] theorem e_items (f : M D) : mItems f δ = mBind f (fun d => mOpt (itemsOf d)) δ := nr rfl
@[simp] theorem e_isi (T : String) (f : M D) : mIsi T f δ = mBind f (fun d => mOpt (gIsi T d)) δ := nr rfl
@[simp] theorem e_bits (f : M D) : mBits f δ = mBind f (fun d => mOpt (gBits d)) δ := nr rfl
@[simp] theorem e_part (f : M D) : mPart f δ = mBind f (fun d => mOpt ((asI d).map some)) δ := nr rfl
@[simp] theorem e_sl (fa : M D) (fl fh : M (Option Int)) : mSl fa fl fh δ = mBind fa (fun a => mBind fl fun lo => mBind fh fun hi => mOpt (gSl a lo hi)) δ := nr rfl
@[simp] theorem e_call (n : Nat) (g : List D → Option (Res D)) (dflt : List D) (f : M (List D)) : mCall n g dflt f δ = mBind f (fun ds δ => if (ds ++ dflt).length = n then (g (ds ++ dflt)).map fun r => (r, δ) else none) δ := nr rfl
@[simp] theorem e_callH (n : Nat) (g : List D → Option (Res D)) (f : M (List D)) : mCallH n g f δ = mBind f (fun ds δ => if ds.length = n then (match g ds with
  | some (.ok d) => some (.ok d, δ)
  | _ => none) else none) δ := nr rfl
@[simp] theorem e_all (vs : List Nat) (fi : M (List D)) (g : AsD) (fe : M D) : mAll vs fi g fe δ = mBind fi (fun ds δ => (allD g fe ds (wipeD δ vs)).map fun p => (.ok (.bool p.1), wipeD p.2 vs)) δ := nr rfl
@[simp] theorem e_all0 (fi : M (List D)) : mAll0 fi δ = mBind fi (fun ds => mOpt (if ds.isEmpty = true then some (.bool true) else none)) δ := nr rfl
@[simp] theorem e_lc (vs : List Nat) (fi : M (List D)) (g : AsD) (ft : M Bool) (fe : M D) : mLc vs fi g ft fe δ = mBind fi (fun ds δ => (turnsD vs g ft fe ds [] (wipeD δ vs)).map fun p => (.ok p.1, wipeD p.2 vs)) δ := nr rfl
@[simp] theorem e_lc2 (vs vs1 : List Nat) (fi : M (List D)) (g : AsD) (ft : M Bool) (fi1 : M (List D)) (g1 : AsD) (ft1 : M Bool) (fe : M D) : mLc2 vs vs1 fi g ft fi1 g1 ft1 fe δ = mBind fi (fun ds δ => (turns2D vs vs1 g ft fi1 g1 ft1 fe ds [] (wipeD δ vs)).map fun p => (.ok p.1, wipeD p.2 vs)) δ := nr rfl
@[simp] theorem e_wipe0 : wipeD δ [] = δ := nr rfl
@[simp] theorem e_wipe1 (v : Nat) (vs : List Nat) : wipeD δ (v :: vs) = (wipeD δ vs).set v .u := nr rfl
@[simp] theorem e_aName (i : Nat) (d : D) : aName i d δ = some (δ.set i (.v d)) := nr rfl
@[simp] theorem e_aTup (gs : List D → Env' → Option Env') (ds : List D) : aTup gs (.tuple ds) δ = gs ds δ := nr rfl
@[simp] theorem e_aNil : aNil [] δ = some δ := nr rfl
@[simp] theorem e_aCons (g : AsD) (gs : List D → Env' → Option Env') (d : D) (ds : List D) : aCons g gs (d :: ds) δ = (g d δ).bind (gs ds) := nr rfl
/-! statements -/
@[simp] theorem e_snil : sNil δ = some (.nx, δ) := nr rfl
@[simp] theorem e_sseq (f g : SM) : sSeq f g δ = (match f δ with
  | some (.nx, δ1) => g δ1
  | r => r) := nr rfl
@[simp] theorem e_sret (f : M D) : sRet f δ = (match f δ with
  | some (.ok d, δ1) => some (.rt d, δ1)
  | some (.er c, δ1) => some (.er c, δ1)
  | none => none) := nr rfl
@[simp] theorem e_sdrop (f : M D) : sDrop f δ = (match f δ with
  | some (.ok _, δ1) => some (.nx, δ1)
  | some (.er c, δ1) => some (.er c, δ1)
  | none => none) := nr rfl
@[simp] theorem e_sraise (c : String) : sRaise c δ = some (.er c, δ) := nr rfl
@[simp] theorem e_setV (i : Nat) (f : M D) : sSetV i f δ = (match f δ with
  | some (.ok d, δ1) => some (.nx, δ1.set i (.v d))
  | some (.er c, δ1) => some (.er c, δ1)
  | none => none) := nr rfl
@[simp] theorem e_setL (i : Nat) (f : M (List D)) : sSetL i f δ = (match f δ with
  | some (.ok xs, δ1) => some (.nx, δ1.set i (.l false xs))
  | some (.er c, δ1) => some (.er c, δ1)
  | none => none) := nr rfl
@[simp] theorem e_asg (g : AsD) (f : M D) : sAsg g f δ = (match f δ with
  | some (.ok d, δ1) => (g d δ1).map fun δ2 => (.nx, δ2)
  | some (.er c, δ1) => some (.er c, δ1)
  | none => none) := nr rfl
@[simp] theorem e_par (i j : Nat) (f : M (List D)) : sPar i j f δ = (match f δ with
  | some (.ok [d1, d2], δ1) => some (.nx, (δ1.set i (.v d1)).set j (.v d2))
  | some (.er c, δ1) => some (.er c, δ1)
  | _ => none) := nr rfl
@[simp] theorem e_parL (i j : Nat) (fl : M (List D)) (fb : M D) : sParL i j fl fb δ = (match fl δ with
  | some (.ok xs, δ1) => (match fb δ1 with
    | some (.ok d, δ2) => some (.nx, (δ2.set i (.l false xs)).set j (.v d))
    | _ => none)
  | _ => none) := nr rfl
@[simp] theorem e_app (i : Nat) (f : M D) : sApp i f δ = (match δ[i]? with
  | some (.l _ _) => (match f δ with
    | some (.ok d, δ1) => (match δ1[i]? with
      | some (.l io xs) => if xs.length < 1000000 then some (.nx, δ1.set i (.l io (xs ++ [d]))) else none
      | _ => none)
    | some (.er c, δ1) => some (.er c, δ1)
    | none => none)
  | _ => none) := nr rfl
@[simp] theorem e_sif (t : M Bool) (f g : SM) : sIf t f g δ = (match t δ with
  | some (.ok b, δ1) => if b = true then f δ1 else g δ1
  | some (.er c, δ1) => some (.er c, δ1)
  | none => none) := by
  unfold sIf
  split <;> rename_i h <;> rw [h] <;> rfl
@[simp] theorem e_sfor (fi : M (List D)) (g : AsD) (fb : SM) : sFor fi g fb δ = (match fi δ with
  | some (.ok ds, δ1) => forD g fb ds δ1
  | some (.er c, δ1) => some (.er c, δ1)
  | none => none) := nr rfl
@[simp] theorem e_stry (fb : SM) (catch_ : String → Option Bool) (fs : SM) : sTry fb catch_ fs δ = (match fb δ with
  | some (.er c, δ1) => (match catch_ c with
    | some true => (match fs δ1 with
      | some (.er _, _) => none
      | r => r)
    | some false => some (.er c, δ1)
    | none => none)
  | r => r) := nr rfl
theorem e_run (n : Nat) (f : SM) (ds : List D) : runB n f ds = (match f (start0 n ds) with
  | some (.nx, _) => some (.ok .none)
  | some (.rt d, _) => some (.ok d)
  | some (.er c, _) => some (.er c)
  | _ => none) := nr rfl
/-! operators -/
@[simp] theorem e_gB (c : D → D → Option Bool) (f : Bool → Bool) (a b : D) : gB c f a b = (c a b).map fun k => .bool (f k) := nr rfl
@[simp] theorem e_eqI (i j : Int) : cEq (.int i) (.int j) = some (decide (i = j)) := nr rfl
@[simp] theorem e_eqS (i j : Str) : cEq (.str i) (.str j) = some (decide (i = j)) := nr rfl
@[simp] theorem e_addI (i j : Int) : bAdd (.int i) (.int j) = some (.int (i + j)) := nr rfl
@[simp] theorem e_addT (xs ys : List D) : bAdd (.tuple xs) (.tuple ys) = if xs.length + ys.length ≤ 1000000 then some (.tuple (xs ++ ys)) else none := nr rfl
@[simp] theorem e_subI (i j : Int) : bSub (.int i) (.int j) = some (.int (i - j)) := nr rfl
@[simp] theorem e_mulI (i j : Int) : bMul (.int i) (.int j) = if decide ((-(2 ^ 64) < i ∧ i < 2 ^ 64) ∨ (-(2 ^ 64) < j ∧ j < 2 ^ 64)) = true then some (.int (i * j)) else none := nr rfl
@[simp] theorem e_divI (i j : Int) : bDiv (.int i) (.int j) = if decide (0 < j ∧ j < 1073741824) = true then some (.int (i / j)) else none := nr rfl
@[simp] theorem e_modI (i j : Int) : bMod (.int i) (.int j) = if decide (0 < j) = true then some (.int (i % j)) else none := nr rfl
@[simp] theorem e_powI (i j : Int) : bPow (.int i) (.int j) = if decide (0 ≤ j ∧ j ≤ 1000000 ∧ i.natAbs < 2 ^ 64) = true then some (.int (i ^ j.toNat)) else none := nr rfl
@[simp] theorem e_shlI (i j : Int) : bShl (.int i) (.int j) = if decide (0 ≤ j ∧ j ≤ 1000000 ∧ i.natAbs < 2 ^ 64) = true then some (.int (i * 2 ^ j.toNat)) else none := nr rfl
@[simp] theorem e_shrI (i j : Int) : bShr (.int i) (.int j) = if decide (0 ≤ j) = true then some (.int (i / 2 ^ j.toNat)) else none := nr rfl
@[simp] theorem e_andI (i j : Int) : bAnd (.int i) (.int j) = some (.int (Builtin.bitAnd i j)) := nr rfl
@[simp] theorem e_orI (i j : Int) : bOr (.int i) (.int j) = some (.int (Builtin.bitOr i j)) := nr rfl
@[simp] theorem e_ltI (i j : Int) : cLt (.int i) (.int j) = some (.bool (decide (i < j))) := nr rfl
@[simp] theorem e_leI (i j : Int) : cLe (.int i) (.int j) = some (.bool (decide (i ≤ j))) := nr rfl
@[simp] theorem e_gtI (i j : Int) : cGt (.int i) (.int j) = some (.bool (decide (j < i))) := nr rfl
@[simp] theorem e_geI (i j : Int) : cGe (.int i) (.int j) = some (.bool (decide (j ≤ i))) := nr rfl
@[simp] theorem e_asB (b : Bool) : asB (.bool b) = some b := nr rfl
@[simp] theorem e_asI (i : Int) : asI (.int i) = some i := nr rfl
@[simp] theorem e_truB (b : Bool) : cTru (.bool b) = some b := nr rfl
@[simp] theorem e_truI (i : Int) : cTru (.int i) = some (i != 0) := nr rfl
@[simp] theorem e_isN : cIs .none .none = some (.bool true) := nr rfl
@[simp] theorem e_isI (i : Int) : cIs (.int i) .none = some (.bool false) := nr rfl
@[simp] theorem e_gInt (i : Int) : gInt [.int i] = some (.int i) := nr rfl
@[simp] theorem e_gLenT (xs : List D) : gLen [.tuple xs] = some (.int xs.length) := nr rfl
@[simp] theorem e_gLenL (xs : List D) : gLen [.list xs] = some (.int xs.length) := nr rfl
@[simp] theorem e_gTupL (xs : List D) : gTuple [.list xs] = some (.tuple xs) := nr rfl
@[simp] theorem e_gTupT (xs : List D) : gTuple [.tuple xs] = some (.tuple xs) := nr rfl
@[simp] theorem e_gMin (i j : Int) : gMin [.int i, .int j] = some (.int (if j < i then j else i)) := nr rfl
@[simp] theorem e_itT (xs : List D) : itemsOf (.tuple xs) = some xs := nr rfl
@[simp] theorem e_itL (xs : List D) : itemsOf (.list xs) = some xs := nr rfl
@[simp] theorem e_catL (xs ys : List D) : gCatL (.list xs) (.list ys) = if xs.length + ys.length ≤ 1000000 then some (xs ++ ys) else none := nr rfl
@[simp] theorem e_listOfL (xs : List D) : gListOf [.list xs] = some xs := nr rfl
@[simp] theorem e_listOfT (xs : List D) : gListOf [.tuple xs] = some xs := nr rfl
@[simp] theorem e_idxT (xs : List D) (i : Int) : gIdx (.tuple xs) (.int i) = atI xs i := nr rfl
@[simp] theorem e_idxL (xs : List D) (i : Int) : gIdx (.list xs) (.int i) = atI xs i := nr rfl
@[simp] theorem e_slT (xs : List D) (lo hi : Option Int) : gSl (.tuple xs) lo hi = some (.tuple (cutG xs lo hi)) := nr rfl
@[simp] theorem e_slL (xs : List D) (lo hi : Option Int) : gSl (.list xs) lo hi = some (.list (cutG xs lo hi)) := nr rfl
@[simp] theorem e_rg1 (j : Int) : rg1 [.int j] = if inRg j = true then some (rangeD 0 j.toNat) else none := nr rfl
@[simp] theorem e_rg2 (i j : Int) : rg2 [.int i, .int j] = if inRg i = true ∧ inRg j = true then some (rangeD i (j - i).toNat) else none := nr rfl
@[simp] theorem e_for0 (g : AsD) (fb : SM) : forD g fb [] δ = some (.nx, δ) := nr rfl
@[simp] theorem e_turn0 (vs : List Nat) (g : AsD) (ft : M Bool) (fe : M D) (acc : List D) : turnsD vs g ft fe [] acc δ = some (acc, δ) := nr rfl
@[simp] theorem e_alls0 (g : AsD) (fe : M D) : allD g fe [] δ = some (true, δ) := nr rfl
theorem atI_nat {γ : Type} (xs : List γ) (i : Nat) (h : i < xs.length) : atI xs (i : Int) = xs[i]? := by
  unfold atI ixN
  rw [if_pos (by omega), if_pos (by omega)]
  simp
end
end FF
end
section
set_option Elab.async false
set_option linter.all false
set_option maxRecDepth 100000
set_option maxHeartbeats 4000000
namespace K40
open PySem PySem.Spec PyProof.Rows L2 RZ FF
def d_8 : He.DefD := ⟨("is_whole", none), "is_whole", "is_whole", defArgs (top 8), defBody (top 8), defScope (top 8), [.non], []⟩
def d_9 : He.DefD := ⟨("is_name", none), "is_name", "is_name", defArgs (top 9), defBody (top 9), defScope (top 9), [], []⟩
def d_11 : He.DefD := ⟨("is_statement", none), "is_statement", "is_statement", defArgs (top 11), defBody (top 11), defScope (top 11), [], []⟩
def d_12 : He.DefD := ⟨("is_body", none), "is_body", "is_body", defArgs (top 12), defBody (top 12), defScope (top 12), [(.int 5)], []⟩
def d_13 : He.DefD := ⟨("statements_of", none), "statements_of", "statements_of", defArgs (top 13), defBody (top 13), defScope (top 13), [], []⟩
def d_14 : He.DefD := ⟨("are_tables", none), "are_tables", "are_tables", defArgs (top 14), defBody (top 14), defScope (top 14), [], []⟩
def d_15 : He.DefD := ⟨("is_program", none), "is_program", "is_program", defArgs (top 15), defBody (top 15), defScope (top 15), [], []⟩
def d_16 : He.DefD := ⟨("check_program", none), "check_program", "check_program", defArgs (top 16), defBody (top 16), defScope (top 16), [], []⟩
def d_18 : He.DefD := ⟨("all_inputs", none), "all_inputs", "all_inputs", defArgs (top 18), defBody (top 18), defScope (top 18), [], []⟩
def d_20 : He.DefD := ⟨("mask_of", none), "mask_of", "mask_of", defArgs (top 20), defBody (top 20), defScope (top 20), [], []⟩
def d_21 : He.DefD := ⟨("numbers_of", none), "numbers_of", "numbers_of", defArgs (top 21), defBody (top 21), defScope (top 21), [], []⟩
def d_23 : He.DefD := ⟨("whole_box", none), "whole_box", "whole_box", defArgs (top 23), defBody (top 23), defScope (top 23), [], []⟩
def d_24 : He.DefD := ⟨("size_of", none), "size_of", "size_of", defArgs (top 24), defBody (top 24), defScope (top 24), [], []⟩
def d_25 : He.DefD := ⟨("is_in", none), "is_in", "is_in", defArgs (top 25), defBody (top 25), defScope (top 25), [], []⟩
def d_26 : He.DefD := ⟨("halves", none), "halves", "halves", defArgs (top 26), defBody (top 26), defScope (top 26), [], []⟩
def d_27 : He.DefD := ⟨("inputs_of", none), "inputs_of", "inputs_of", defArgs (top 27), defBody (top 27), defScope (top 27), [], []⟩
def d_29 : He.DefD := ⟨("_law_cell", none), "_law_cell", "_law_cell", defArgs (top 29), defBody (top 29), defScope (top 29), [], []⟩
def d_30 : He.DefD := ⟨("_law_draws", none), "_law_draws", "_law_draws", defArgs (top 30), defBody (top 30), defScope (top 30), [], []⟩
def d_31 : He.DefD := ⟨("_law_inputs", none), "_law_inputs", "_law_inputs", defArgs (top 31), defBody (top 31), defScope (top 31), [], []⟩
def d_32 : He.DefD := ⟨("_law_longer", none), "_law_longer", "_law_longer", defArgs (top 32), defBody (top 32), defScope (top 32), [], []⟩
def d_33 : He.DefD := ⟨("_law_within", none), "_law_within", "_law_within", defArgs (top 33), defBody (top 33), defScope (top 33), [], []⟩
def d_34 : He.DefD := ⟨("_law_spread", none), "_law_spread", "_law_spread", defArgs (top 34), defBody (top 34), defScope (top 34), [], []⟩
def d_35 : He.DefD := ⟨("_law_whole", none), "_law_whole", "_law_whole", defArgs (top 35), defBody (top 35), defScope (top 35), [], []⟩
def d_37 : He.DefD := ⟨("_law_power", none), "_law_power", "_law_power", defArgs (top 37), defBody (top 37), defScope (top 37), [], []⟩
def d_38 : He.DefD := ⟨("law", none), "law", "law", defArgs (top 38), defBody (top 38), defScope (top 38), [], []⟩
def d_36 : He.DefD := ⟨("_law_figures", none), "_law_figures", "_law_figures", defArgs (top 36), defBody (top 36), defScope (top 36), [], []⟩
def fn : List He.DefD := [d_8, d_9, d_11, d_12, d_13, d_14, d_15, d_16, d_18, d_20, d_21, d_23, d_24, d_25, d_26, d_27, d_29, d_30, d_31, d_32, d_33, d_34, d_35, d_37, d_38, d_36]
def fa : List He.Fa := [.glo "is_whole", .glo "is_name", .glo "is_statement", .glo "is_body", .glo "statements_of", .glo "are_tables", .glo "is_program", .glo "check_program", .glo "all_inputs", .glo "mask_of", .glo "numbers_of", .glo "whole_box", .glo "size_of", .glo "is_in", .glo "halves", .glo "inputs_of", .glo "_law_cell", .glo "_law_draws", .glo "_law_inputs", .glo "_law_longer", .glo "_law_within", .glo "_law_spread", .glo "_law_whole", .glo "_law_power", .glo "law", .glo "_law_figures", .free "isinstance", .free "bool", .free "int", .free "len", .free "str", .free "all", .free "tuple", .free "list", .free "set", .free "range", .free "zip", .free "min", .free "sorted", .free "sum", .glo "WORDS", .glo "BadInput", .exc "BadInput", .glo "BadSet", .exc "BadSet", .glo "BadTree", .exc "BadTree", .exm "BadInput" "BadInput" true, .exm "BadSet" "BadInput" false, .exm "BadTree" "BadInput" false, .exm "BadInput" "BadSet" false, .exm "BadSet" "BadSet" true, .exm "BadTree" "BadSet" false]
def tf : List He.Defn := [("is_name", none), ("is_body", none), ("are_tables", none), ("is_program", none), ("is_in", none)]
def lWORDS : List He.Dv := [(.str "round"), (.str "input"), (.str "table"), (.str "if"), (.str "else"), (.str "while"), (.str "assert"), (.str "out"), (.str "stop"), (.str "mod"), (.str "at")]
def ex (K : PySem.W.Frag) : Bool := He.tupB K "WORDS" lWORDS
abbrev RR : PySem.W.OpenRow := PySem.W.OpenLaw.row PySem.Challenge.rw_forkfield_k40_whole_boxes_and_masks
abbrev hk : PySem.W.Hook := He.hookX 4 fa fn [] tf ex
def ob (s : PySem.W.SharedT) : He.AlX := He.obsX 4 fa fn [] tf ex (HandSHeadRun.getT s)
theorem ob_eq (s : PySem.W.SharedT) : ob s = hk.obs s.abs := He.obsX_eq (HandSHeadRun.getT_eq s)
def loose0 : List PySem.Str := ["WayError", "BadTree", "BadInput", "BadSet", "WORDS", "SIGNS", "is_whole", "is_name", "is_expression", "is_statement", "is_body", "statements_of", "are_tables", "is_program", "check_program", "all_inputs", "mask_of", "numbers_of", "whole_box", "size_of", "is_in", "halves", "inputs_of", "_law_cell", "_law_draws", "_law_inputs", "_law_longer", "_law_within", "_law_spread", "_law_whole", "_law_figures", "_law_power"]
abbrev loose : List PySem.Str := loose0
set_option maxHeartbeats 0 in
theorem run_top (w : World) : HandSHeadRun.RunEq RR (PySem.W.view RR.prog [38]) hk ob 4000 loose w := by
  intro os
  kernel_rfl
def bodies (R : Rec) (i : Nat) : List D → Option (Res D) :=
  if i = 8 then runB 2 (m_8 R) else
  if i = 9 then runB 2 (m_9 R) else
  if i = 11 then runB 6 (m_11 R) else
  if i = 12 then runB 5 (m_12 R) else
  if i = 13 then runB 4 (m_13 R) else
  if i = 14 then runB 4 (m_14 R) else
  if i = 15 then runB 7 (m_15 R) else
  if i = 16 then runB 1 (m_16 R) else
  if i = 18 then runB 5 (m_18 R) else
  if i = 20 then runB 3 (m_20 R) else
  if i = 21 then runB 2 (m_21 R) else
  if i = 23 then runB 2 (m_23 R) else
  if i = 24 then runB 4 (m_24 R) else
  if i = 25 then runB 5 (m_25 R) else
  if i = 26 then runB 5 (m_26 R) else
  if i = 27 then runB 6 (m_27 R) else
  if i = 29 then runB 2 (m_29 R) else
  if i = 30 then runB 6 (m_30 R) else
  if i = 31 then runB 3 (m_31 R) else
  if i = 32 then runB 5 (m_32 R) else
  if i = 33 then runB 4 (m_33 R) else
  if i = 34 then runB 6 (m_34 R) else
  if i = 35 then runB 2 (m_35 R) else
  if i = 37 then runB 3 (m_37 R) else
  if i = 38 then runB 19 (m_38 R) else
  if i = 1008 then runB 2 (mh_8 R) else
  if i = 1021 then runB 2 (mh_21 R) else
  if i = 1036 then runB 4 (mh_36 R) else
  fun _ => none
def run : Nat → Rec
  | 0 => fun _ _ => none
  | k + 1 => bodies (run k)
theorem run_8 (k : Nat) : run (k + 1) 8 = runB N_8.length (m_8 (run k)) := by first | rfl | (unfold run bodies; simp; rfl)
theorem run_9 (k : Nat) : run (k + 1) 9 = runB N_9.length (m_9 (run k)) := by first | rfl | (unfold run bodies; simp; rfl)
theorem run_11 (k : Nat) : run (k + 1) 11 = runB N_11.length (m_11 (run k)) := by first | rfl | (unfold run bodies; simp; rfl)
theorem run_12 (k : Nat) : run (k + 1) 12 = runB N_12.length (m_12 (run k)) := by first | rfl | (unfold run bodies; simp; rfl)
theorem run_13 (k : Nat) : run (k + 1) 13 = runB N_13.length (m_13 (run k)) := by first | rfl | (unfold run bodies; simp; rfl)
theorem run_14 (k : Nat) : run (k + 1) 14 = runB N_14.length (m_14 (run k)) := by first | rfl | (unfold run bodies; simp; rfl)
theorem run_15 (k : Nat) : run (k + 1) 15 = runB N_15.length (m_15 (run k)) := by first | rfl | (unfold run bodies; simp; rfl)
theorem run_16 (k : Nat) : run (k + 1) 16 = runB N_16.length (m_16 (run k)) := by first | rfl | (unfold run bodies; simp; rfl)
theorem run_18 (k : Nat) : run (k + 1) 18 = runB N_18.length (m_18 (run k)) := by first | rfl | (unfold run bodies; simp; rfl)
theorem run_20 (k : Nat) : run (k + 1) 20 = runB N_20.length (m_20 (run k)) := by first | rfl | (unfold run bodies; simp; rfl)
theorem run_21 (k : Nat) : run (k + 1) 21 = runB N_21.length (m_21 (run k)) := by first | rfl | (unfold run bodies; simp; rfl)
theorem run_23 (k : Nat) : run (k + 1) 23 = runB N_23.length (m_23 (run k)) := by first | rfl | (unfold run bodies; simp; rfl)
theorem run_24 (k : Nat) : run (k + 1) 24 = runB N_24.length (m_24 (run k)) := by first | rfl | (unfold run bodies; simp; rfl)
theorem run_25 (k : Nat) : run (k + 1) 25 = runB N_25.length (m_25 (run k)) := by first | rfl | (unfold run bodies; simp; rfl)
theorem run_26 (k : Nat) : run (k + 1) 26 = runB N_26.length (m_26 (run k)) := by first | rfl | (unfold run bodies; simp; rfl)
theorem run_27 (k : Nat) : run (k + 1) 27 = runB N_27.length (m_27 (run k)) := by first | rfl | (unfold run bodies; simp; rfl)
theorem run_29 (k : Nat) : run (k + 1) 29 = runB N_29.length (m_29 (run k)) := by first | rfl | (unfold run bodies; simp; rfl)
theorem run_30 (k : Nat) : run (k + 1) 30 = runB N_30.length (m_30 (run k)) := by first | rfl | (unfold run bodies; simp; rfl)
theorem run_31 (k : Nat) : run (k + 1) 31 = runB N_31.length (m_31 (run k)) := by first | rfl | (unfold run bodies; simp; rfl)
theorem run_32 (k : Nat) : run (k + 1) 32 = runB N_32.length (m_32 (run k)) := by first | rfl | (unfold run bodies; simp; rfl)
theorem run_33 (k : Nat) : run (k + 1) 33 = runB N_33.length (m_33 (run k)) := by first | rfl | (unfold run bodies; simp; rfl)
theorem run_34 (k : Nat) : run (k + 1) 34 = runB N_34.length (m_34 (run k)) := by first | rfl | (unfold run bodies; simp; rfl)
theorem run_35 (k : Nat) : run (k + 1) 35 = runB N_35.length (m_35 (run k)) := by first | rfl | (unfold run bodies; simp; rfl)
theorem run_37 (k : Nat) : run (k + 1) 37 = runB N_37.length (m_37 (run k)) := by first | rfl | (unfold run bodies; simp; rfl)
theorem run_38 (k : Nat) : run (k + 1) 38 = runB N_38.length (m_38 (run k)) := by first | rfl | (unfold run bodies; simp; rfl)
theorem runh_8 (k : Nat) : run (k + 1) 1008 = runB N_8.length (mh_8 (run k)) := by first | rfl | (unfold run bodies; simp; rfl)
theorem runh_21 (k : Nat) : run (k + 1) 1021 = runB N_21.length (mh_21 (run k)) := by first | rfl | (unfold run bodies; simp; rfl)
theorem runh_36 (k : Nat) : run (k + 1) 1036 = runB N_36.length (mh_36 (run k)) := by first | rfl | (unfold run bodies; simp; rfl)
def clsOf (K : PySem.W.Frag) (c : String) : Value := .ref (He.ga K c)
def tabs (K : PySem.W.Frag) : List Addr := (tf.map (He.cT K)).map (·.2)
theorem fn_zero {P : Program} {w : World} {K : PySem.W.Frag} {mg : Str → Option Value} {base : Heap} {CX : CXT} {j : Nat} {f : Addr} {fd : FuncData} {T : List Addr} {cls : String → Value} (ps : List Str) : FnOk P w K mg base CX j f fd ps (spV K T cls ps.length fun _ => none) :=
  ⟨fun vs H Q E h => h.1, fun A outer s H args us vs Q E _ _ _ _ h => by
    obtain ⟨_, W, ds, r, _, _, _, hg, _⟩ := h
    cases hg⟩
theorem fn_zeroH {P : Program} {w : World} {K : PySem.W.Frag} {mg : Str → Option Value} {base : Heap} {CX : CXT} {j : Nat} {f : Addr} {fd : FuncData} {T : List Addr} (ps : List Str) : L2H.FnH P w K mg base CX j f fd ps (spH K T ps.length fun _ => none) :=
  ⟨fun vs H Q E h => h.1, fun A outer s H args us vs Q E p _ _ _ _ _ _ h => by
    obtain ⟨_, W, ds, r, _, _, _, hg, _⟩ := h
    cases hg⟩
theorem fnAt_of {P : Program} {w : World} {K : PySem.W.Frag} {x qual : Str} {st : Stmt} {dvs : List V} {kws : List (Str × V)} {f : Addr} {fd : FuncData} (F : FunD K x qual (defArgs st) (defBody st) (defScope st) dvs kws f fd) : FnAt P w K x qual st f fd := by
  obtain ⟨oc, od, dV, kV, doc, pm, an, cdv, ct, osl, h1, h2, h3, _, _⟩ := F.ex
  exact ⟨⟨oc, od, dV, kV, doc, pm, an, cdv, ct, osl, h1, h2, h3⟩⟩
theorem code_ref {K : PySem.W.Frag} {x qual : Str} {pa : Arguments} {bo : List Stmt} {sc : Scope} {dvs : List V} {kws : List (Str × V)} {p : He.Defn} {fd : FuncData} (F : FunD K x qual pa bo sc dvs kws (He.fAd K p) fd) : fd.code = .ref (He.codeOf K p) := by
  obtain ⟨oc, od, dV, kV, doc, pm, an, cdv, ct, osl, rfl, h2, h3, _, _⟩ := F.ex
  obtain ⟨c, rfl⟩ := He.codeIn_ref h3
  rw [He.codeOf_eq h2 (show (PySem.W.fnOf x qual pa bo sc dV kV doc pm an (.ref c) ct).code = .ref c from rfl)]
theorem vals_nil {ds : List Value} (h : Vals [] ds) : ds = [] := by cases h; rfl
section
variable {w : World} {K : PySem.W.Frag} {h : Heap} {mg : Str → Option Value}
theorem sD (c : He.SaysX fa fn [] tf ex w h K) : He.SaysD fa fn K := congrArg (fun z : He.AlT => z.1) c.t
def bas (X : K.In h) (G : h.Ns mainGlobals mg) (c : He.SaysX fa fn [] tf ex w h K) : Bas K mg (clsOf K) where
  b_isinstance := He.free_ok X G ((sD c).fact 26 (f := .free "isinstance") rfl)
  b_bool := He.free_ok X G ((sD c).fact 27 (f := .free "bool") rfl)
  b_int := He.free_ok X G ((sD c).fact 28 (f := .free "int") rfl)
  b_len := He.free_ok X G ((sD c).fact 29 (f := .free "len") rfl)
  b_str := He.free_ok X G ((sD c).fact 30 (f := .free "str") rfl)
  b_all := He.free_ok X G ((sD c).fact 31 (f := .free "all") rfl)
  b_tuple := He.free_ok X G ((sD c).fact 32 (f := .free "tuple") rfl)
  b_list := He.free_ok X G ((sD c).fact 33 (f := .free "list") rfl)
  b_set := He.free_ok X G ((sD c).fact 34 (f := .free "set") rfl)
  b_range := He.free_ok X G ((sD c).fact 35 (f := .free "range") rfl)
  b_zip := He.free_ok X G ((sD c).fact 36 (f := .free "zip") rfl)
  b_min := He.free_ok X G ((sD c).fact 37 (f := .free "min") rfl)
  b_sorted := He.free_ok X G ((sD c).fact 38 (f := .free "sorted") rfl)
  b_sum := He.free_ok X G ((sD c).fact 39 (f := .free "sum") rfl)
  g_WORDS := ⟨.ref (He.ga K "WORDS"), _, (He.glo_ok X G ((sD c).fact 40 (f := .glo "WORDS") rfl)), rfl, fun H => .tup (He.tupB_ok (vs := lWORDS) (c.more) H) (.cons (.str _) (.cons (.str _) (.cons (.str _) (.cons (.str _) (.cons (.str _) (.cons (.str _) (.cons (.str _) (.cons (.str _) (.cons (.str _) (.cons (.str _) (.cons (.str _) .nil)))))))))))⟩
  x_BadInput := ⟨_, _, _, _, _, PySem.F.excBase_ValueError, (He.exc_ok ((sD c).fact 42 (f := .exc "BadInput") rfl)).1, (He.glo_ok X G ((sD c).fact 41 (f := .glo "BadInput") rfl)), (He.exc_ok ((sD c).fact 42 (f := .exc "BadInput") rfl)).2.1, (He.exc_ok ((sD c).fact 42 (f := .exc "BadInput") rfl)).2.2.1, (He.exc_ok ((sD c).fact 42 (f := .exc "BadInput") rfl)).2.2.2, rfl⟩
  x_BadSet := ⟨_, _, _, _, _, PySem.F.excBase_ValueError, (He.exc_ok ((sD c).fact 44 (f := .exc "BadSet") rfl)).1, (He.glo_ok X G ((sD c).fact 43 (f := .glo "BadSet") rfl)), (He.exc_ok ((sD c).fact 44 (f := .exc "BadSet") rfl)).2.1, (He.exc_ok ((sD c).fact 44 (f := .exc "BadSet") rfl)).2.2.1, (He.exc_ok ((sD c).fact 44 (f := .exc "BadSet") rfl)).2.2.2, rfl⟩
  x_BadTree := ⟨_, _, _, _, _, PySem.F.excBase_ValueError, (He.exc_ok ((sD c).fact 46 (f := .exc "BadTree") rfl)).1, (He.glo_ok X G ((sD c).fact 45 (f := .glo "BadTree") rfl)), (He.exc_ok ((sD c).fact 46 (f := .exc "BadTree") rfl)).2.1, (He.exc_ok ((sD c).fact 46 (f := .exc "BadTree") rfl)).2.2.1, (He.exc_ok ((sD c).fact 46 (f := .exc "BadTree") rfl)).2.2.2, rfl⟩
  a_BadInput := He.ga K "BadInput"
  m_BadInput := (He.glo_ok X G ((sD c).fact 41 (f := .glo "BadInput") rfl))
  h_BadInput := fun s b e => by
    unfold catchBadInput at e
    split at e
    · rename_i q
      cases e
      subst q
      exact He.exm_ok ((sD c).fact 47 (f := .exm "BadInput" "BadInput" true) rfl)
    ·
      split at e
      · rename_i q
        cases e
        subst q
        exact He.exm_ok ((sD c).fact 48 (f := .exm "BadSet" "BadInput" false) rfl)
      ·
        split at e
        · rename_i q
          cases e
          subst q
          exact He.exm_ok ((sD c).fact 49 (f := .exm "BadTree" "BadInput" false) rfl)
        ·
          cases e
  a_BadSet := He.ga K "BadSet"
  m_BadSet := (He.glo_ok X G ((sD c).fact 43 (f := .glo "BadSet") rfl))
  h_BadSet := fun s b e => by
    unfold catchBadSet at e
    split at e
    · rename_i q
      cases e
      subst q
      exact He.exm_ok ((sD c).fact 50 (f := .exm "BadInput" "BadSet" false) rfl)
    ·
      split at e
      · rename_i q
        cases e
        subst q
        exact He.exm_ok ((sD c).fact 51 (f := .exm "BadSet" "BadSet" true) rfl)
      ·
        split at e
        · rename_i q
          cases e
          subst q
          exact He.exm_ok ((sD c).fact 52 (f := .exm "BadTree" "BadSet" false) rfl)
        ·
          cases e
theorem all_ok (P : Program) (X : K.In h) (G : h.Ns mainGlobals mg) (c : He.SaysX fa fn [] tf ex w h K) (fuel : Nat) :
    ∃ fd : FuncData, (∀ (s : Shared) (us : List Value), us.length = 1 → BindsTo s fd ⟨us, []⟩ ((["script"] : List Str).zip us)) ∧ ∀ base : Heap, (∀ p ∈ tf.map (He.cT K), GxR.TabB base mg p.1 p.2) → FnOk P w K mg base (L2N.CX P w) (2 * fuel) (He.ga K "law") fd ["script"] (spV K (tabs K) (clsOf K) 1 (run fuel 38)) := by
  obtain ⟨fd_8, F_8⟩ := (sD c).def_ 0 (d := d_8) rfl
  obtain ⟨fd_9, F_9⟩ := (sD c).def_ 1 (d := d_9) rfl
  obtain ⟨fd_11, F_11⟩ := (sD c).def_ 2 (d := d_11) rfl
  obtain ⟨fd_12, F_12⟩ := (sD c).def_ 3 (d := d_12) rfl
  obtain ⟨fd_13, F_13⟩ := (sD c).def_ 4 (d := d_13) rfl
  obtain ⟨fd_14, F_14⟩ := (sD c).def_ 5 (d := d_14) rfl
  obtain ⟨fd_15, F_15⟩ := (sD c).def_ 6 (d := d_15) rfl
  obtain ⟨fd_16, F_16⟩ := (sD c).def_ 7 (d := d_16) rfl
  obtain ⟨fd_18, F_18⟩ := (sD c).def_ 8 (d := d_18) rfl
  obtain ⟨fd_20, F_20⟩ := (sD c).def_ 9 (d := d_20) rfl
  obtain ⟨fd_21, F_21⟩ := (sD c).def_ 10 (d := d_21) rfl
  obtain ⟨fd_23, F_23⟩ := (sD c).def_ 11 (d := d_23) rfl
  obtain ⟨fd_24, F_24⟩ := (sD c).def_ 12 (d := d_24) rfl
  obtain ⟨fd_25, F_25⟩ := (sD c).def_ 13 (d := d_25) rfl
  obtain ⟨fd_26, F_26⟩ := (sD c).def_ 14 (d := d_26) rfl
  obtain ⟨fd_27, F_27⟩ := (sD c).def_ 15 (d := d_27) rfl
  obtain ⟨fd_29, F_29⟩ := (sD c).def_ 16 (d := d_29) rfl
  obtain ⟨fd_30, F_30⟩ := (sD c).def_ 17 (d := d_30) rfl
  obtain ⟨fd_31, F_31⟩ := (sD c).def_ 18 (d := d_31) rfl
  obtain ⟨fd_32, F_32⟩ := (sD c).def_ 19 (d := d_32) rfl
  obtain ⟨fd_33, F_33⟩ := (sD c).def_ 20 (d := d_33) rfl
  obtain ⟨fd_34, F_34⟩ := (sD c).def_ 21 (d := d_34) rfl
  obtain ⟨fd_35, F_35⟩ := (sD c).def_ 22 (d := d_35) rfl
  obtain ⟨fd_37, F_37⟩ := (sD c).def_ 23 (d := d_37) rfl
  obtain ⟨fd_38, F_38⟩ := (sD c).def_ 24 (d := d_38) rfl
  obtain ⟨fd_36, F_36⟩ := (sD c).def_ 25 (d := d_36) rfl
  have b_8_0 := F_8.binds1 (ps := ["value", "low"]) 2 1 (by intro z; cases z) rfl (fun T kV doc pm an cdv ct us its hl hi => match us, its, hl, hi with | [_, _], [_], _, _ => ⟨_, rfl, rfl⟩)
  have b_8_1 := F_8.binds1 (ps := ["value", "low"]) 1 0 (by intro z; cases z) rfl (fun T kV doc pm an cdv ct us its hl hi => match us, its, hl, hi with | [_], [_], _, _ => ⟨_, rfl, rfl⟩)
  have b_9_0 : Binds K fd_9 ["text"] [] := F_9.bindsN fun _ _ _ _ _ _ us hl => match us, hl with | [_], _ => rfl
  have b_11_0 : Binds K fd_11 ["tree", "turn", "tables", "deep"] [] := F_11.bindsN fun _ _ _ _ _ _ us hl => match us, hl with | [_, _, _, _], _ => rfl
  have b_12_0 := F_12.binds1 (ps := ["body", "turn", "tables", "deep"]) 4 1 (by intro z; cases z) rfl (fun T kV doc pm an cdv ct us its hl hi => match us, its, hl, hi with | [_, _, _, _], [_], _, _ => ⟨_, rfl, rfl⟩)
  have b_12_1 := F_12.binds1 (ps := ["body", "turn", "tables", "deep"]) 3 0 (by intro z; cases z) rfl (fun T kV doc pm an cdv ct us its hl hi => match us, its, hl, hi with | [_, _, _], [_], _, _ => ⟨_, rfl, rfl⟩)
  have b_13_0 : Binds K fd_13 ["body"] [] := F_13.bindsN fun _ _ _ _ _ _ us hl => match us, hl with | [_], _ => rfl
  have b_14_0 : Binds K fd_14 ["tables", "turn"] [] := F_14.bindsN fun _ _ _ _ _ _ us hl => match us, hl with | [_, _], _ => rfl
  have b_15_0 : Binds K fd_15 ["program"] [] := F_15.bindsN fun _ _ _ _ _ _ us hl => match us, hl with | [_], _ => rfl
  have b_16_0 : Binds K fd_16 ["program"] [] := F_16.bindsN fun _ _ _ _ _ _ us hl => match us, hl with | [_], _ => rfl
  have b_18_0 : Binds K fd_18 ["program"] [] := F_18.bindsN fun _ _ _ _ _ _ us hl => match us, hl with | [_], _ => rfl
  have b_20_0 : Binds K fd_20 ["numbers"] [] := F_20.bindsN fun _ _ _ _ _ _ us hl => match us, hl with | [_], _ => rfl
  have b_21_0 : Binds K fd_21 ["mask"] [] := F_21.bindsN fun _ _ _ _ _ _ us hl => match us, hl with | [_], _ => rfl
  have b_23_0 : Binds K fd_23 ["program"] [] := F_23.bindsN fun _ _ _ _ _ _ us hl => match us, hl with | [_], _ => rfl
  have b_24_0 : Binds K fd_24 ["box"] [] := F_24.bindsN fun _ _ _ _ _ _ us hl => match us, hl with | [_], _ => rfl
  have b_25_0 : Binds K fd_25 ["box", "numbers"] [] := F_25.bindsN fun _ _ _ _ _ _ us hl => match us, hl with | [_, _], _ => rfl
  have b_26_0 : Binds K fd_26 ["box", "k", "number"] [] := F_26.bindsN fun _ _ _ _ _ _ us hl => match us, hl with | [_, _, _], _ => rfl
  have b_27_0 : Binds K fd_27 ["box"] [] := F_27.bindsN fun _ _ _ _ _ _ us hl => match us, hl with | [_], _ => rfl
  have b_29_0 : Binds K fd_29 ["script", "k"] [] := F_29.bindsN fun _ _ _ _ _ _ us hl => match us, hl with | [_, _], _ => rfl
  have b_30_0 : Binds K fd_30 ["cell", "count"] [] := F_30.bindsN fun _ _ _ _ _ _ us hl => match us, hl with | [_, _], _ => rfl
  have b_31_0 : Binds K fd_31 ["program"] [] := F_31.bindsN fun _ _ _ _ _ _ us hl => match us, hl with | [_], _ => rfl
  have b_32_0 : Binds K fd_32 ["rows", "turn"] [] := F_32.bindsN fun _ _ _ _ _ _ us hl => match us, hl with | [_, _], _ => rfl
  have b_33_0 : Binds K fd_33 ["box"] [] := F_33.bindsN fun _ _ _ _ _ _ us hl => match us, hl with | [_], _ => rfl
  have b_34_0 : Binds K fd_34 ["rows", "low", "high"] [] := F_34.bindsN fun _ _ _ _ _ _ us hl => match us, hl with | [_, _, _], _ => rfl
  have b_35_0 : Binds K fd_35 ["program"] [] := F_35.bindsN fun _ _ _ _ _ _ us hl => match us, hl with | [_], _ => rfl
  have b_37_0 : Binds K fd_37 ["number"] [] := F_37.bindsN fun _ _ _ _ _ _ us hl => match us, hl with | [_], _ => rfl
  have b_38_0 : Binds K fd_38 ["script"] [] := F_38.bindsN fun _ _ _ _ _ _ us hl => match us, hl with | [_], _ => rfl
  have b_36_0 : Binds K fd_36 ["mask"] [] := F_36.bindsN fun _ _ _ _ _ _ us hl => match us, hl with | [_], _ => rfl
  have b1 := F_38.bindsA (ps := ["script"]) fun _ _ _ _ _ _ us hl => match us, hl with | [_], _ => rfl
  refine ⟨fd_38, fun s us hu => b1 s us hu, fun base TB => ?_⟩
  have B := bas X G c
  have all : ∀ k : Nat, FnOk P w K mg base (L2N.CX P w) (2 * k) (He.ga K "is_whole") fd_8 ["value", "low"] (spV K (tabs K) (clsOf K) 2 (run k 8)) ∧
      FnOk P w K mg base (L2N.CX P w) (2 * k) (He.ga K "is_name") fd_9 ["text"] (spV K (tabs K) (clsOf K) 1 (run k 9)) ∧
      FnOk P w K mg base (L2N.CX P w) (2 * k) (He.ga K "is_statement") fd_11 ["tree", "turn", "tables", "deep"] (spV K (tabs K) (clsOf K) 4 (run k 11)) ∧
      FnOk P w K mg base (L2N.CX P w) (2 * k) (He.ga K "is_body") fd_12 ["body", "turn", "tables", "deep"] (spV K (tabs K) (clsOf K) 4 (run k 12)) ∧
      FnOk P w K mg base (L2N.CX P w) (2 * k) (He.ga K "statements_of") fd_13 ["body"] (spV K (tabs K) (clsOf K) 1 (run k 13)) ∧
      FnOk P w K mg base (L2N.CX P w) (2 * k) (He.ga K "are_tables") fd_14 ["tables", "turn"] (spV K (tabs K) (clsOf K) 2 (run k 14)) ∧
      FnOk P w K mg base (L2N.CX P w) (2 * k) (He.ga K "is_program") fd_15 ["program"] (spV K (tabs K) (clsOf K) 1 (run k 15)) ∧
      FnOk P w K mg base (L2N.CX P w) (2 * k) (He.ga K "check_program") fd_16 ["program"] (spV K (tabs K) (clsOf K) 1 (run k 16)) ∧
      FnOk P w K mg base (L2N.CX P w) (2 * k) (He.ga K "all_inputs") fd_18 ["program"] (spV K (tabs K) (clsOf K) 1 (run k 18)) ∧
      FnOk P w K mg base (L2N.CX P w) (2 * k) (He.ga K "mask_of") fd_20 ["numbers"] (spV K (tabs K) (clsOf K) 1 (run k 20)) ∧
      FnOk P w K mg base (L2N.CX P w) (2 * k) (He.ga K "numbers_of") fd_21 ["mask"] (spV K (tabs K) (clsOf K) 1 (run k 21)) ∧
      FnOk P w K mg base (L2N.CX P w) (2 * k) (He.ga K "whole_box") fd_23 ["program"] (spV K (tabs K) (clsOf K) 1 (run k 23)) ∧
      FnOk P w K mg base (L2N.CX P w) (2 * k) (He.ga K "size_of") fd_24 ["box"] (spV K (tabs K) (clsOf K) 1 (run k 24)) ∧
      FnOk P w K mg base (L2N.CX P w) (2 * k) (He.ga K "is_in") fd_25 ["box", "numbers"] (spV K (tabs K) (clsOf K) 2 (run k 25)) ∧
      FnOk P w K mg base (L2N.CX P w) (2 * k) (He.ga K "halves") fd_26 ["box", "k", "number"] (spV K (tabs K) (clsOf K) 3 (run k 26)) ∧
      FnOk P w K mg base (L2N.CX P w) (2 * k) (He.ga K "inputs_of") fd_27 ["box"] (spV K (tabs K) (clsOf K) 1 (run k 27)) ∧
      FnOk P w K mg base (L2N.CX P w) (2 * k) (He.ga K "_law_cell") fd_29 ["script", "k"] (spV K (tabs K) (clsOf K) 2 (run k 29)) ∧
      FnOk P w K mg base (L2N.CX P w) (2 * k) (He.ga K "_law_draws") fd_30 ["cell", "count"] (spV K (tabs K) (clsOf K) 2 (run k 30)) ∧
      FnOk P w K mg base (L2N.CX P w) (2 * k) (He.ga K "_law_inputs") fd_31 ["program"] (spV K (tabs K) (clsOf K) 1 (run k 31)) ∧
      FnOk P w K mg base (L2N.CX P w) (2 * k) (He.ga K "_law_longer") fd_32 ["rows", "turn"] (spV K (tabs K) (clsOf K) 2 (run k 32)) ∧
      FnOk P w K mg base (L2N.CX P w) (2 * k) (He.ga K "_law_within") fd_33 ["box"] (spV K (tabs K) (clsOf K) 1 (run k 33)) ∧
      FnOk P w K mg base (L2N.CX P w) (2 * k) (He.ga K "_law_spread") fd_34 ["rows", "low", "high"] (spV K (tabs K) (clsOf K) 3 (run k 34)) ∧
      FnOk P w K mg base (L2N.CX P w) (2 * k) (He.ga K "_law_whole") fd_35 ["program"] (spV K (tabs K) (clsOf K) 1 (run k 35)) ∧
      FnOk P w K mg base (L2N.CX P w) (2 * k) (He.ga K "_law_power") fd_37 ["number"] (spV K (tabs K) (clsOf K) 1 (run k 37)) ∧
      FnOk P w K mg base (L2N.CX P w) (2 * k) (He.ga K "law") fd_38 ["script"] (spV K (tabs K) (clsOf K) 1 (run k 38)) ∧
      L2H.FnH P w K mg base CX0 (2 * k) (He.ga K "is_whole") fd_8 ["value", "low"] (spH K (tabs K) 2 (run k 1008)) ∧
      L2H.FnH P w K mg base CX0 (2 * k) (He.ga K "numbers_of") fd_21 ["mask"] (spH K (tabs K) 1 (run k 1021)) ∧
      L2H.FnH P w K mg base CX0 (2 * k) (He.ga K "_law_figures") fd_36 ["mask"] (spH K (tabs K) 1 (run k 1036)) := by
    intro k
    induction k with
    | zero => exact ⟨fn_zero _, fn_zero _, fn_zero _, fn_zero _, fn_zero _, fn_zero _, fn_zero _, fn_zero _, fn_zero _, fn_zero _, fn_zero _, fn_zero _, fn_zero _, fn_zero _, fn_zero _, fn_zero _, fn_zero _, fn_zero _, fn_zero _, fn_zero _, fn_zero _, fn_zero _, fn_zero _, fn_zero _, fn_zero _, fn_zeroH _, fn_zeroH _, fn_zeroH _⟩
    | succ k ih =>
      obtain ⟨i_8, i_9, i_11, i_12, i_13, i_14, i_15, i_16, i_18, i_20, i_21, i_23, i_24, i_25, i_26, i_27, i_29, i_30, i_31, i_32, i_33, i_34, i_35, i_37, i_38, ih_8, ih_21, ih_36⟩ := ih
      have c_8_0 : CalleeB P w K mg base (tabs K) (clsOf K) (2 * k) "is_whole" 2 [] (run k 8) := by
        obtain ⟨ds, hv, hb⟩ := b_8_0
        exact ⟨_, _, _, _, ds, rfl, i_8, (He.glo_ok X G ((sD c).fact 0 (f := .glo "is_whole") rfl)), F_8.kp, hb, hv, fun _ => .nil⟩
      have c_8_1 : CalleeB P w K mg base (tabs K) (clsOf K) (2 * k) "is_whole" 2 [.none] (run k 8) := by
        obtain ⟨ds, hv, hb⟩ := b_8_1
        exact ⟨_, _, _, _, ds, rfl, i_8, (He.glo_ok X G ((sD c).fact 0 (f := .glo "is_whole") rfl)), F_8.kp, hb, hv, fun _ => (.cons .non .nil)⟩
      have c_9_0 : CalleeB P w K mg base (tabs K) (clsOf K) (2 * k) "is_name" 1 [] (run k 9) := ⟨_, _, _, [], [], rfl, i_9, (He.glo_ok X G ((sD c).fact 1 (f := .glo "is_name") rfl)), F_9.kp, b_9_0, .nil, fun _ => .nil⟩
      have c_11_0 : CalleeB P w K mg base (tabs K) (clsOf K) (2 * k) "is_statement" 4 [] (run k 11) := ⟨_, _, _, [], [], rfl, i_11, (He.glo_ok X G ((sD c).fact 2 (f := .glo "is_statement") rfl)), F_11.kp, b_11_0, .nil, fun _ => .nil⟩
      have c_12_1 : CalleeB P w K mg base (tabs K) (clsOf K) (2 * k) "is_body" 4 [(.int 5)] (run k 12) := by
        obtain ⟨ds, hv, hb⟩ := b_12_1
        exact ⟨_, _, _, _, ds, rfl, i_12, (He.glo_ok X G ((sD c).fact 3 (f := .glo "is_body") rfl)), F_12.kp, hb, hv, fun _ => (.cons (.int _) .nil)⟩
      have c_13_0 : CalleeB P w K mg base (tabs K) (clsOf K) (2 * k) "statements_of" 1 [] (run k 13) := ⟨_, _, _, [], [], rfl, i_13, (He.glo_ok X G ((sD c).fact 4 (f := .glo "statements_of") rfl)), F_13.kp, b_13_0, .nil, fun _ => .nil⟩
      have c_14_0 : CalleeB P w K mg base (tabs K) (clsOf K) (2 * k) "are_tables" 2 [] (run k 14) := ⟨_, _, _, [], [], rfl, i_14, (He.glo_ok X G ((sD c).fact 5 (f := .glo "are_tables") rfl)), F_14.kp, b_14_0, .nil, fun _ => .nil⟩
      have c_15_0 : CalleeB P w K mg base (tabs K) (clsOf K) (2 * k) "is_program" 1 [] (run k 15) := ⟨_, _, _, [], [], rfl, i_15, (He.glo_ok X G ((sD c).fact 6 (f := .glo "is_program") rfl)), F_15.kp, b_15_0, .nil, fun _ => .nil⟩
      have c_16_0 : CalleeB P w K mg base (tabs K) (clsOf K) (2 * k) "check_program" 1 [] (run k 16) := ⟨_, _, _, [], [], rfl, i_16, (He.glo_ok X G ((sD c).fact 7 (f := .glo "check_program") rfl)), F_16.kp, b_16_0, .nil, fun _ => .nil⟩
      have c_18_0 : CalleeB P w K mg base (tabs K) (clsOf K) (2 * k) "all_inputs" 1 [] (run k 18) := ⟨_, _, _, [], [], rfl, i_18, (He.glo_ok X G ((sD c).fact 8 (f := .glo "all_inputs") rfl)), F_18.kp, b_18_0, .nil, fun _ => .nil⟩
      have c_20_0 : CalleeB P w K mg base (tabs K) (clsOf K) (2 * k) "mask_of" 1 [] (run k 20) := ⟨_, _, _, [], [], rfl, i_20, (He.glo_ok X G ((sD c).fact 9 (f := .glo "mask_of") rfl)), F_20.kp, b_20_0, .nil, fun _ => .nil⟩
      have c_21_0 : CalleeB P w K mg base (tabs K) (clsOf K) (2 * k) "numbers_of" 1 [] (run k 21) := ⟨_, _, _, [], [], rfl, i_21, (He.glo_ok X G ((sD c).fact 10 (f := .glo "numbers_of") rfl)), F_21.kp, b_21_0, .nil, fun _ => .nil⟩
      have c_23_0 : CalleeB P w K mg base (tabs K) (clsOf K) (2 * k) "whole_box" 1 [] (run k 23) := ⟨_, _, _, [], [], rfl, i_23, (He.glo_ok X G ((sD c).fact 11 (f := .glo "whole_box") rfl)), F_23.kp, b_23_0, .nil, fun _ => .nil⟩
      have c_24_0 : CalleeB P w K mg base (tabs K) (clsOf K) (2 * k) "size_of" 1 [] (run k 24) := ⟨_, _, _, [], [], rfl, i_24, (He.glo_ok X G ((sD c).fact 12 (f := .glo "size_of") rfl)), F_24.kp, b_24_0, .nil, fun _ => .nil⟩
      have c_25_0 : CalleeB P w K mg base (tabs K) (clsOf K) (2 * k) "is_in" 2 [] (run k 25) := ⟨_, _, _, [], [], rfl, i_25, (He.glo_ok X G ((sD c).fact 13 (f := .glo "is_in") rfl)), F_25.kp, b_25_0, .nil, fun _ => .nil⟩
      have c_26_0 : CalleeB P w K mg base (tabs K) (clsOf K) (2 * k) "halves" 3 [] (run k 26) := ⟨_, _, _, [], [], rfl, i_26, (He.glo_ok X G ((sD c).fact 14 (f := .glo "halves") rfl)), F_26.kp, b_26_0, .nil, fun _ => .nil⟩
      have c_27_0 : CalleeB P w K mg base (tabs K) (clsOf K) (2 * k) "inputs_of" 1 [] (run k 27) := ⟨_, _, _, [], [], rfl, i_27, (He.glo_ok X G ((sD c).fact 15 (f := .glo "inputs_of") rfl)), F_27.kp, b_27_0, .nil, fun _ => .nil⟩
      have c_29_0 : CalleeB P w K mg base (tabs K) (clsOf K) (2 * k) "_law_cell" 2 [] (run k 29) := ⟨_, _, _, [], [], rfl, i_29, (He.glo_ok X G ((sD c).fact 16 (f := .glo "_law_cell") rfl)), F_29.kp, b_29_0, .nil, fun _ => .nil⟩
      have c_30_0 : CalleeB P w K mg base (tabs K) (clsOf K) (2 * k) "_law_draws" 2 [] (run k 30) := ⟨_, _, _, [], [], rfl, i_30, (He.glo_ok X G ((sD c).fact 17 (f := .glo "_law_draws") rfl)), F_30.kp, b_30_0, .nil, fun _ => .nil⟩
      have c_31_0 : CalleeB P w K mg base (tabs K) (clsOf K) (2 * k) "_law_inputs" 1 [] (run k 31) := ⟨_, _, _, [], [], rfl, i_31, (He.glo_ok X G ((sD c).fact 18 (f := .glo "_law_inputs") rfl)), F_31.kp, b_31_0, .nil, fun _ => .nil⟩
      have c_32_0 : CalleeB P w K mg base (tabs K) (clsOf K) (2 * k) "_law_longer" 2 [] (run k 32) := ⟨_, _, _, [], [], rfl, i_32, (He.glo_ok X G ((sD c).fact 19 (f := .glo "_law_longer") rfl)), F_32.kp, b_32_0, .nil, fun _ => .nil⟩
      have c_33_0 : CalleeB P w K mg base (tabs K) (clsOf K) (2 * k) "_law_within" 1 [] (run k 33) := ⟨_, _, _, [], [], rfl, i_33, (He.glo_ok X G ((sD c).fact 20 (f := .glo "_law_within") rfl)), F_33.kp, b_33_0, .nil, fun _ => .nil⟩
      have c_34_0 : CalleeB P w K mg base (tabs K) (clsOf K) (2 * k) "_law_spread" 3 [] (run k 34) := ⟨_, _, _, [], [], rfl, i_34, (He.glo_ok X G ((sD c).fact 21 (f := .glo "_law_spread") rfl)), F_34.kp, b_34_0, .nil, fun _ => .nil⟩
      have c_35_0 : CalleeB P w K mg base (tabs K) (clsOf K) (2 * k) "_law_whole" 1 [] (run k 35) := ⟨_, _, _, [], [], rfl, i_35, (He.glo_ok X G ((sD c).fact 22 (f := .glo "_law_whole") rfl)), F_35.kp, b_35_0, .nil, fun _ => .nil⟩
      have c_37_0 : CalleeB P w K mg base (tabs K) (clsOf K) (2 * k) "_law_power" 1 [] (run k 37) := ⟨_, _, _, [], [], rfl, i_37, (He.glo_ok X G ((sD c).fact 23 (f := .glo "_law_power") rfl)), F_37.kp, b_37_0, .nil, fun _ => .nil⟩
      have h_8 : CalleeHB P w K mg base (tabs K) (2 * k) "is_whole" 2 (run k 1008) := by
        obtain ⟨ds, hv, hb⟩ := b_8_0
        have e := vals_nil hv
        subst e
        exact ⟨_, _, _, _, rfl, ih_8, (He.glo_ok X G ((sD c).fact 0 (f := .glo "is_whole") rfl)), F_8.kp, hb, fun _ _ _ _ _ z => z⟩
      have h_21 : CalleeHB P w K mg base (tabs K) (2 * k) "numbers_of" 1 (run k 1021) := ⟨_, _, _, _, rfl, ih_21, (He.glo_ok X G ((sD c).fact 10 (f := .glo "numbers_of") rfl)), F_21.kp, b_21_0, fun _ _ _ _ _ z => z⟩
      have h_36 : CalleeHB P w K mg base (tabs K) (2 * k) "_law_figures" 1 (run k 1036) := ⟨_, _, _, _, rfl, ih_36, (He.glo_ok X G ((sD c).fact 25 (f := .glo "_law_figures") rfl)), F_36.kp, b_36_0, fun _ _ _ _ _ z => z⟩
      have g_8 := fn_val (P := P) (w := w) (mg := mg) (base := base) (cd := none) (T := tabs K) (cls := clsOf K) (fnAt_of (P := P) (w := w) F_8) sc_8 (fun q z => by cases z) (fun Wx => w_8 B (run k) k  Wx)
      rw [← run_8 k] at g_8
      have t_9 : (("is_name" : Str), (none : Option Str)) ∈ tf := by unfold tf; simp
      have g_9 := fn_val (P := P) (w := w) (mg := mg) (base := base) (cd := (some (He.codeOf K ("is_name", none)))) (T := tabs K) (cls := clsOf K) (fnAt_of (P := P) (w := w) F_9) sc_9 (fun q z => by cases z; exact code_ref (p := ("is_name", none)) F_9) (fun Wx => w_9 B (run k) k (He.codeOf K ("is_name", none)) (He.tabOf K (He.codeOf K ("is_name", none))) (TB (He.cT K ("is_name", none)) (List.mem_map_of_mem (t_9))) (List.mem_map_of_mem (f := (·.2)) (List.mem_map_of_mem (f := He.cT K) (t_9)))  Wx)
      rw [← run_9 k] at g_9
      have g_11 := fn_val (P := P) (w := w) (mg := mg) (base := base) (cd := none) (T := tabs K) (cls := clsOf K) (fnAt_of (P := P) (w := w) F_11) sc_11 (fun q z => by cases z) (fun Wx => w_11 B (run k) k  Wx)
      rw [← run_11 k] at g_11
      have t_12 : (("is_body" : Str), (none : Option Str)) ∈ tf := by unfold tf; simp
      have g_12 := fn_val (P := P) (w := w) (mg := mg) (base := base) (cd := (some (He.codeOf K ("is_body", none)))) (T := tabs K) (cls := clsOf K) (fnAt_of (P := P) (w := w) F_12) sc_12 (fun q z => by cases z; exact code_ref (p := ("is_body", none)) F_12) (fun Wx => w_12 B (run k) k (He.codeOf K ("is_body", none)) (He.tabOf K (He.codeOf K ("is_body", none))) (TB (He.cT K ("is_body", none)) (List.mem_map_of_mem (t_12))) (List.mem_map_of_mem (f := (·.2)) (List.mem_map_of_mem (f := He.cT K) (t_12))) c_11_0 Wx)
      rw [← run_12 k] at g_12
      have g_13 := fn_val (P := P) (w := w) (mg := mg) (base := base) (cd := none) (T := tabs K) (cls := clsOf K) (fnAt_of (P := P) (w := w) F_13) sc_13 (fun q z => by cases z) (fun Wx => w_13 B (run k) k  Wx)
      rw [← run_13 k] at g_13
      have t_14 : (("are_tables" : Str), (none : Option Str)) ∈ tf := by unfold tf; simp
      have g_14 := fn_val (P := P) (w := w) (mg := mg) (base := base) (cd := (some (He.codeOf K ("are_tables", none)))) (T := tabs K) (cls := clsOf K) (fnAt_of (P := P) (w := w) F_14) sc_14 (fun q z => by cases z; exact code_ref (p := ("are_tables", none)) F_14) (fun Wx => w_14 B (run k) k (He.codeOf K ("are_tables", none)) (He.tabOf K (He.codeOf K ("are_tables", none))) (TB (He.cT K ("are_tables", none)) (List.mem_map_of_mem (t_14))) (List.mem_map_of_mem (f := (·.2)) (List.mem_map_of_mem (f := He.cT K) (t_14))) c_9_0 Wx)
      rw [← run_14 k] at g_14
      have t_15 : (("is_program" : Str), (none : Option Str)) ∈ tf := by unfold tf; simp
      have g_15 := fn_val (P := P) (w := w) (mg := mg) (base := base) (cd := (some (He.codeOf K ("is_program", none)))) (T := tabs K) (cls := clsOf K) (fnAt_of (P := P) (w := w) F_15) sc_15 (fun q z => by cases z; exact code_ref (p := ("is_program", none)) F_15) (fun Wx => w_15 B (run k) k (He.codeOf K ("is_program", none)) (He.tabOf K (He.codeOf K ("is_program", none))) (TB (He.cT K ("is_program", none)) (List.mem_map_of_mem (t_15))) (List.mem_map_of_mem (f := (·.2)) (List.mem_map_of_mem (f := He.cT K) (t_15))) c_8_0 c_9_0 c_12_1 c_13_0 c_14_0 Wx)
      rw [← run_15 k] at g_15
      have g_16 := fn_val (P := P) (w := w) (mg := mg) (base := base) (cd := none) (T := tabs K) (cls := clsOf K) (fnAt_of (P := P) (w := w) F_16) sc_16 (fun q z => by cases z) (fun Wx => w_16 B (run k) k c_15_0 Wx)
      rw [← run_16 k] at g_16
      have g_18 := fn_val (P := P) (w := w) (mg := mg) (base := base) (cd := none) (T := tabs K) (cls := clsOf K) (fnAt_of (P := P) (w := w) F_18) sc_18 (fun q z => by cases z) (fun Wx => w_18 B (run k) k  Wx)
      rw [← run_18 k] at g_18
      have g_20 := fn_val (P := P) (w := w) (mg := mg) (base := base) (cd := none) (T := tabs K) (cls := clsOf K) (fnAt_of (P := P) (w := w) F_20) sc_20 (fun q z => by cases z) (fun Wx => w_20 B (run k) k  Wx)
      rw [← run_20 k] at g_20
      have g_21 := fn_val (P := P) (w := w) (mg := mg) (base := base) (cd := none) (T := tabs K) (cls := clsOf K) (fnAt_of (P := P) (w := w) F_21) sc_21 (fun q z => by cases z) (fun Wx => w_21 B (run k) k c_8_0 Wx)
      rw [← run_21 k] at g_21
      have g_23 := fn_val (P := P) (w := w) (mg := mg) (base := base) (cd := none) (T := tabs K) (cls := clsOf K) (fnAt_of (P := P) (w := w) F_23) sc_23 (fun q z => by cases z) (fun Wx => w_23 B (run k) k c_16_0 Wx)
      rw [← run_23 k] at g_23
      have g_24 := fn_val (P := P) (w := w) (mg := mg) (base := base) (cd := none) (T := tabs K) (cls := clsOf K) (fnAt_of (P := P) (w := w) F_24) sc_24 (fun q z => by cases z) (fun Wx => w_24 B (run k) k  Wx)
      rw [← run_24 k] at g_24
      have t_25 : (("is_in" : Str), (none : Option Str)) ∈ tf := by unfold tf; simp
      have g_25 := fn_val (P := P) (w := w) (mg := mg) (base := base) (cd := (some (He.codeOf K ("is_in", none)))) (T := tabs K) (cls := clsOf K) (fnAt_of (P := P) (w := w) F_25) sc_25 (fun q z => by cases z; exact code_ref (p := ("is_in", none)) F_25) (fun Wx => w_25 B (run k) k (He.codeOf K ("is_in", none)) (He.tabOf K (He.codeOf K ("is_in", none))) (TB (He.cT K ("is_in", none)) (List.mem_map_of_mem (t_25))) (List.mem_map_of_mem (f := (·.2)) (List.mem_map_of_mem (f := He.cT K) (t_25)))  Wx)
      rw [← run_25 k] at g_25
      have g_26 := fn_val (P := P) (w := w) (mg := mg) (base := base) (cd := none) (T := tabs K) (cls := clsOf K) (fnAt_of (P := P) (w := w) F_26) sc_26 (fun q z => by cases z) (fun Wx => w_26 B (run k) k c_8_0 c_8_1 Wx)
      rw [← run_26 k] at g_26
      have g_27 := fn_val (P := P) (w := w) (mg := mg) (base := base) (cd := none) (T := tabs K) (cls := clsOf K) (fnAt_of (P := P) (w := w) F_27) sc_27 (fun q z => by cases z) (fun Wx => w_27 B (run k) k  Wx)
      rw [← run_27 k] at g_27
      have g_29 := fn_val (P := P) (w := w) (mg := mg) (base := base) (cd := none) (T := tabs K) (cls := clsOf K) (fnAt_of (P := P) (w := w) F_29) sc_29 (fun q z => by cases z) (fun Wx => w_29 B (run k) k  Wx)
      rw [← run_29 k] at g_29
      have g_30 := fn_val (P := P) (w := w) (mg := mg) (base := base) (cd := none) (T := tabs K) (cls := clsOf K) (fnAt_of (P := P) (w := w) F_30) sc_30 (fun q z => by cases z) (fun Wx => w_30 B (run k) k  Wx)
      rw [← run_30 k] at g_30
      have g_31 := fn_val (P := P) (w := w) (mg := mg) (base := base) (cd := none) (T := tabs K) (cls := clsOf K) (fnAt_of (P := P) (w := w) F_31) sc_31 (fun q z => by cases z) (fun Wx => w_31 B (run k) k c_32_0 Wx)
      rw [← run_31 k] at g_31
      have g_32 := fn_val (P := P) (w := w) (mg := mg) (base := base) (cd := none) (T := tabs K) (cls := clsOf K) (fnAt_of (P := P) (w := w) F_32) sc_32 (fun q z => by cases z) (fun Wx => w_32 B (run k) k  Wx)
      rw [← run_32 k] at g_32
      have g_33 := fn_val (P := P) (w := w) (mg := mg) (base := base) (cd := none) (T := tabs K) (cls := clsOf K) (fnAt_of (P := P) (w := w) F_33) sc_33 (fun q z => by cases z) (fun Wx => w_33 B (run k) k c_34_0 Wx)
      rw [← run_33 k] at g_33
      have g_34 := fn_val (P := P) (w := w) (mg := mg) (base := base) (cd := none) (T := tabs K) (cls := clsOf K) (fnAt_of (P := P) (w := w) F_34) sc_34 (fun q z => by cases z) (fun Wx => w_34 B (run k) k  Wx)
      rw [← run_34 k] at g_34
      have g_35 := fn_val (P := P) (w := w) (mg := mg) (base := base) (cd := none) (T := tabs K) (cls := clsOf K) (fnAt_of (P := P) (w := w) F_35) sc_35 (fun q z => by cases z) (fun Wx => w_35 B (run k) k  Wx)
      rw [← run_35 k] at g_35
      have g_37 := fn_val (P := P) (w := w) (mg := mg) (base := base) (cd := none) (T := tabs K) (cls := clsOf K) (fnAt_of (P := P) (w := w) F_37) sc_37 (fun q z => by cases z) (fun Wx => w_37 B (run k) k  Wx)
      rw [← run_37 k] at g_37
      have g_38 := fn_val (P := P) (w := w) (mg := mg) (base := base) (cd := none) (T := tabs K) (cls := clsOf K) (fnAt_of (P := P) (w := w) F_38) sc_38 (fun q z => by cases z) (fun Wx => w_38 B (run k) k c_18_0 c_20_0 c_21_0 h_21 c_23_0 c_24_0 c_25_0 c_26_0 c_27_0 c_29_0 c_30_0 c_31_0 c_33_0 c_35_0 h_36 c_37_0 Wx)
      rw [← run_38 k] at g_38
      have gh_8 := fn_hot (P := P) (w := w) (mg := mg) (base := base) (CX := CX0) (cd := none) (T := tabs K) (cls := clsOf K) (fnAt_of (P := P) (w := w) F_8) sc_8 (fun q z => by cases z) (wh_8 (base := base) B (run k) k )
      rw [← runh_8 k] at gh_8
      have gh_21 := fn_hot (P := P) (w := w) (mg := mg) (base := base) (CX := CX0) (cd := none) (T := tabs K) (cls := clsOf K) (fnAt_of (P := P) (w := w) F_21) sc_21 (fun q z => by cases z) (wh_21 (base := base) B (run k) k h_8)
      rw [← runh_21 k] at gh_21
      have gh_36 := fn_hot (P := P) (w := w) (mg := mg) (base := base) (CX := CX0) (cd := none) (T := tabs K) (cls := clsOf K) (fnAt_of (P := P) (w := w) F_36) sc_36 (fun q z => by cases z) (wh_36 (base := base) B (run k) k )
      rw [← runh_36 k] at gh_36
      exact ⟨g_8, g_9, g_11, g_12, g_13, g_14, g_15, g_16, g_18, g_20, g_21, g_23, g_24, g_25, g_26, g_27, g_29, g_30, g_31, g_32, g_33, g_34, g_35, g_37, g_38, gh_8, gh_21, gh_36⟩
  exact (all fuel).2.2.2.2.2.2.2.2.2.2.2.2.2.2.2.2.2.2.2.2.2.2.2.2.1
end
end K40
end
section
set_option Elab.async false
set_option linter.all false
set_option maxRecDepth 100000
set_option maxHeartbeats 2000000
namespace K40
open PySem FF L2
theorem kI (i : Int) : gIsi "int" (.int i) = some (.bool true) := by rfl
theorem kB (i : Int) : gIsi "bool" (.int i) = some (.bool false) := by rfl
theorem kT (xs : List D) : gIsi "tuple" (.tuple xs) = some (.bool true) := by rfl
theorem kS (x : Str) : gIsi "str" (.str x) = some (.bool true) := by rfl
theorem s_8 (R : Rec) (n low : Int) : runB N_8.length (m_8 R) [.int n, .int low] = some (.ok (.bool (decide (low ≤ n)))) := by
  simp [e_run, m_8, start0, N_8, kI, kB]
theorem s_8n (R : Rec) (n : Int) : runB N_8.length (m_8 R) [.int n, .none] = some (.ok (.bool true)) := by
  simp [e_run, m_8, start0, N_8, kI, kB]
end K40
end
section
set_option Elab.async false
set_option linter.all false
set_option maxRecDepth 100000
set_option maxHeartbeats 4000000
namespace K40
open PySem FF L2
def nms (m : Nat) : List D := [.str ("a" : Str), .str ("b" : Str), .str ("q" : Str)].take m
def prog (t : Int) (m : Nat) : D := .tuple [.int t, .tuple (nms m), .tuple [], .tuple [.tuple [.str ("stop" : Str)]]]
def isNone : Option (Res D) → Bool
  | some (.ok .none) => true
  | _ => false
theorem isNone_eq {o : Option (Res D)} (h : isNone o = true) : o = some (.ok .none) := by
  unfold isNone at h
  split at h
  · rfl
  · cases h
set_option maxHeartbeats 0 in
theorem prog_all : ((List.range 63).all fun t => (List.range 4).all fun m => isNone (run 8 16 [prog ((t : Int) + 2) m])) = true := by decide +kernel
theorem s_16 (t : Int) (m : Nat) (h1 : 2 ≤ t) (h2 : t ≤ 64) (hm : m < 4) : run 8 16 [prog t m] = some (.ok .none) := by
  have h := List.all_eq_true.mp (List.all_eq_true.mp prog_all (t - 2).toNat (List.mem_range.mpr (by omega))) m (List.mem_range.mpr hm)
  have e : (((t - 2).toNat : Nat) : Int) + 2 = t := by omega
  rw [e] at h
  exact isNone_eq h
end K40
end
section
set_option Elab.async false
set_option linter.all false
set_option maxRecDepth 100000
set_option maxHeartbeats 4000000
namespace K40
open PySem FF L2
/-! ### comprehensions -/
theorem turns_fm {i : Nat} {δ : Env'} (hδ : δ.set i .u = δ) {ft : M Bool} {fe : M D} {f : D → D} {p : D → Bool} : ∀ (ds acc : List D), (∀ d ∈ ds, ft (δ.set i (.v d)) = some (.ok (p d), δ.set i (.v d))) → (∀ d ∈ ds, p d = true → fe (δ.set i (.v d)) = some (.ok (f d), δ.set i (.v d))) → acc.length + ds.length ≤ 1000000 →
    turnsD [i] (aName i) ft fe ds acc δ = some (acc ++ (ds.filter p).map f, δ)
  | [], acc, _, _, _ => by simp
  | d :: ds, acc, h1, h2, hl => by
    have ht := h1 d List.mem_cons_self
    have hw : wipeD (δ.set i (.v d)) [i] = δ := by
      show (δ.set i (.v d)).set i .u = δ
      rw [List.set_set, hδ]
    have hl' : acc.length + ds.length + 1 ≤ 1000000 := by simpa [Nat.add_assoc] using hl
    unfold turnsD turnD
    rw [e_aName, Option.bind_some, ht]
    cases hp : p d with
    | true =>
      dsimp only
      rw [h2 d List.mem_cons_self hp]
      dsimp only
      rw [if_pos (by omega), hw, turns_fm hδ ds (acc ++ [f d]) (fun e he => h1 e (List.mem_cons_of_mem _ he)) (fun e he => h2 e (List.mem_cons_of_mem _ he)) (by rw [List.length_append]; simp; omega), List.filter_cons, if_pos hp]
      simp
    | false =>
      dsimp only
      rw [hw, turns_fm hδ ds acc (fun e he => h1 e (List.mem_cons_of_mem _ he)) (fun e he => h2 e (List.mem_cons_of_mem _ he)) (by omega), List.filter_cons, if_neg (by rw [hp]; decide)]
theorem turns_map {i : Nat} {δ : Env'} (hδ : δ.set i .u = δ) {fe : M D} {f : D → D} (ds acc : List D) (h2 : ∀ d ∈ ds, fe (δ.set i (.v d)) = some (.ok (f d), δ.set i (.v d))) (hl : acc.length + ds.length ≤ 1000000) :
    turnsD [i] (aName i) (mPure true) fe ds acc δ = some (acc ++ ds.map f, δ) := by
  have := turns_fm hδ (p := fun _ => true) (ft := mPure true) ds acc (fun _ _ => rfl) (fun d hd _ => h2 d hd) hl
  rw [this, List.filter_eq_self.mpr (fun _ _ => rfl)]
theorem turns2_map {i j : Nat} (hij : i ≠ j) {δ : Env'} (hi : δ.set i .u = δ) (hj : δ.set j .u = δ) {fi1 : M (List D)} {fe : M D} {f : D → D → D} (ds1 : List D) : ∀ (ds acc : List D), (∀ d ∈ ds, fi1 (δ.set i (.v d)) = some (.ok ds1, δ.set i (.v d))) → (∀ d ∈ ds, ∀ e ∈ ds1, fe ((δ.set i (.v d)).set j (.v e)) = some (.ok (f d e), (δ.set i (.v d)).set j (.v e))) → acc.length + ds.length * ds1.length ≤ 1000000 →
    turns2D [i, j] [j] (aName i) (mPure true) fi1 (aName j) (mPure true) fe ds acc δ = some (acc ++ ds.flatMap (fun d => ds1.map (f d)), δ)
  | [], acc, _, _, _ => by simp [turns2D]
  | d :: ds, acc, h1, h2, hl => by
    have hk : acc.length + ds1.length + ds.length * ds1.length ≤ 1000000 := by
      rw [List.length_cons, Nat.add_mul, Nat.one_mul] at hl
      omega
    have hw1 : wipeD (δ.set i (.v d)) [j] = δ.set i (.v d) := by
      show (δ.set i (.v d)).set j .u = _
      rw [List.set_comm _ _ hij, hj]
    have hw2 : wipeD (δ.set i (.v d)) [i, j] = δ := by
      show ((δ.set i (.v d)).set j .u).set i .u = δ
      rw [List.set_comm _ _ hij, hj, List.set_set, hi]
    have hjd : (δ.set i (.v d)).set j .u = δ.set i (.v d) := hw1
    unfold turns2D
    rw [e_aName, Option.bind_some]
    simp only [e_pure]
    rw [h1 d List.mem_cons_self]
    dsimp only
    rw [hw1, turns_map hjd ds1 acc (fun e he => h2 d List.mem_cons_self e he) (by omega), Option.bind_some]
    dsimp only
    rw [hw2, turns2_map hij hi hj ds1 ds (acc ++ ds1.map (f d)) (fun e he => h1 e (List.mem_cons_of_mem _ he)) (fun e he => h2 e (List.mem_cons_of_mem _ he)) (by rw [List.length_append, List.length_map]; omega)]
    simp
/-! ### the data -/
def rowD (r : List Int) : D := .tuple (r.map .int)
def rng (lo : Int) (n : Nat) : List Int := (List.range n).map fun i : Nat => lo + (i : Int)
theorem rangeD_eq (lo : Int) (n : Nat) : rangeD lo n = (rng lo n).map .int := by
  unfold rangeD rng
  rw [List.map_map]
  rfl
theorem rng_len (lo : Int) (n : Nat) : (rng lo n).length = n := by simp [rng]
def stepW (rows : List (List Int)) (xs : List Int) : List (List Int) := rows.flatMap fun r => xs.map fun x => r ++ [x]
theorem stepW_len (xs : List Int) : ∀ rows : List (List Int), (stepW rows xs).length = rows.length * xs.length
  | [] => by simp [stepW]
  | r :: rows => by
    have := stepW_len xs rows
    unfold stepW at this ⊢
    rw [List.flatMap_cons, List.length_append, this, List.length_map, List.length_cons, Nat.add_mul, Nat.one_mul, Nat.add_comm]
theorem stepW_mem {rows : List (List Int)} {xs : List Int} {r : List Int} (h : r ∈ stepW rows xs) : ∃ r0 ∈ rows, ∃ x ∈ xs, r = r0 ++ [x] := by
  unfold stepW at h
  obtain ⟨r0, h1, h2⟩ := List.mem_flatMap.mp h
  obtain ⟨x, h3, rfl⟩ := List.mem_map.mp h2
  exact ⟨r0, h1, x, h3, rfl⟩
/-- rows that may still grow k times by at most w values -/
structure Fit (rows : List (List Int)) (k w : Nat) : Prop where
  len : ∀ r ∈ rows, r.length + k ≤ 1000
  many : rows.length * w ^ k ≤ 10000
theorem Fit.step {rows : List (List Int)} {k w : Nat} {xs : List Int} (h : Fit rows (k + 1) w) (hx : xs.length ≤ w) : Fit (stepW rows xs) k w := by
  refine ⟨fun r hr => ?_, ?_⟩
  · obtain ⟨r0, h1, x, _, rfl⟩ := stepW_mem hr
    have := h.len r0 h1
    rw [List.length_append]
    simp
    omega
  · rw [stepW_len, Nat.mul_assoc]
    refine Nat.le_trans (Nat.mul_le_mul_left _ (Nat.mul_le_mul_right _ hx)) ?_
    rw [Nat.mul_comm w, ← Nat.pow_succ]
    exact h.many
theorem Fit.small {rows : List (List Int)} {k w : Nat} (h : Fit rows (k + 1) w) (hw : 0 < w) : rows.length * w ≤ 10000 := by
  have := h.many
  rw [Nat.pow_succ] at this
  have h1 : 1 ≤ w ^ k := Nat.one_le_pow _ _ hw
  calc rows.length * w ≤ rows.length * (w ^ k * w) := Nat.mul_le_mul_left _ (by simpa using Nat.mul_le_mul_right w h1)
    _ ≤ 10000 := this
def snocD : D → D → D
  | .tuple ds, e => .tuple (ds ++ [e])
  | d, _ => d
theorem snoc_row (r : List Int) (x : Int) : snocD (rowD r) (.int x) = rowD (r ++ [x]) := by simp [snocD, rowD]
theorem step_eq (rows : List (List Int)) (xs : List Int) : (rows.map rowD).flatMap (fun d => (xs.map PyData.int).map (snocD d)) = (stepW rows xs).map rowD := by
  unfold stepW
  rw [List.map_flatMap, List.flatMap_map]
  congr 1
  funext r
  rw [List.map_map, List.map_map]
  congr 1
  funext x
  exact snoc_row r x
/-- a box -/
def pairD (p : Int × Int) : D := .tuple [.int p.1, .int p.2]
def boxD (b : List (Int × Int)) : D := .tuple (b.map pairD)
def widthOf (p : Int × Int) : List Int := rng p.1 (p.2 + 1 - p.1).toNat
def prodR (rows : List (List Int)) (b : List (Int × Int)) : List (List Int) := b.foldl (fun rows p => stepW rows (widthOf p)) rows
theorem prodR_nil (rows) : prodR rows [] = rows := rfl
theorem prodR_cons (rows) (p) (b) : prodR rows (p :: b) = prodR (stepW rows (widthOf p)) b := rfl
theorem inRg_small {i : Int} (h1 : -1000000 ≤ i) (h2 : i ≤ 1000000) : inRg i = true := decide_eq_true (by omega)
/-- bounds of a box -/
structure BoxOk (b : List (Int × Int)) (w : Nat) : Prop where
  sm : ∀ p ∈ b, -1000 ≤ p.1 ∧ p.1 ≤ 1000 ∧ -1000 ≤ p.2 ∧ p.2 ≤ 1000
  wd : ∀ p ∈ b, (widthOf p).length ≤ w
theorem BoxOk.tl {p : Int × Int} {b : List (Int × Int)} {w : Nat} (h : BoxOk (p :: b) w) : BoxOk b w := ⟨fun q hq => h.sm q (List.mem_cons_of_mem _ hq), fun q hq => h.wd q (List.mem_cons_of_mem _ hq)⟩
/-! ### inputs_of -/
theorem for_27 (R : Rec) (B : D) (w : Nat) (hw : 0 < w) : ∀ (b : List (Int × Int)) (rows : List (List Int)) (e2 e3 : Ent), BoxOk b w → Fit rows b.length w →
    ∃ a2 a3, forD (aTup (aCons (aName 2) (aCons (aName 3) aNil))) (sSeq (sSetL 1 (mLc2 [4, 5] [5] (mItems (mVar 1)) (aName 4) (mPure true) (mRg rg2 (mCons (mVar 2) (mCons (mOp2 bAdd (mVar 3) (mPure (.int 1))) mNil))) (aName 5) (mPure true) (mOp2 bAdd (mVar 4) (mTup (mCons (mVar 5) mNil))))) sNil)
      (b.map pairD) [.v B, .l false (rows.map rowD), e2, e3, .u, .u] = some (.nx, [.v B, .l false ((prodR rows b).map rowD), a2, a3, .u, .u])
  | [], rows, e2, e3, _, _ => ⟨e2, e3, rfl⟩
  | p :: b, rows, e2, e3, hb, hf => by
    have hs := hb.sm p List.mem_cons_self
    have hwd := hb.wd p List.mem_cons_self
    obtain ⟨a2, a3, ih⟩ := for_27 R B w hw b (stepW rows (widthOf p)) (.v (.int p.1)) (.v (.int p.2)) hb.tl (hf.step hwd)
    refine ⟨a2, a3, ?_⟩
    have key : turns2D [4, 5] [5] (aName 4) (mPure true) (mRg rg2 (mCons (mVar 2) (mCons (mOp2 bAdd (mVar 3) (mPure (.int 1))) mNil))) (aName 5) (mPure true) (mOp2 bAdd (mVar 4) (mTup (mCons (mVar 5) mNil)))
        (rows.map rowD) [] [.v B, .v (.list (rows.map rowD)), .v (.int p.1), .v (.int p.2), .u, .u] = some ((stepW rows (widthOf p)).map rowD, [.v B, .v (.list (rows.map rowD)), .v (.int p.1), .v (.int p.2), .u, .u]) := by
      rw [turns2_map (by decide) rfl rfl (f := snocD) ((widthOf p).map .int), step_eq, List.nil_append]
      · intro d hd
        obtain ⟨r, hr, rfl⟩ := List.mem_map.mp hd
        have h1 : inRg p.1 = true := inRg_small (by omega) (by omega)
        have h2 : inRg (p.2 + 1) = true := inRg_small (by omega) (by omega)
        simp [h1, h2, rangeD_eq, widthOf]
      · intro d hd e he
        obtain ⟨r, hr, rfl⟩ := List.mem_map.mp hd
        obtain ⟨x, hx, rfl⟩ := List.mem_map.mp he
        have hl := hf.len r hr
        have h3 : r.length + 1 ≤ 1000000 := by omega
        simp [rowD, snocD, h3]
      · have h4 := hf.small hw
        simp only [List.length_nil, List.length_map, Nat.zero_add]
        have h5 := Nat.mul_le_mul_left rows.length hwd
        omega
    simp only [List.map_cons]
    unfold forD
    simp [pairD, key]
    exact ih
end K40
end
section
set_option Elab.async false
set_option linter.all false
set_option maxRecDepth 100000
set_option maxHeartbeats 4000000
namespace K40
open PySem FF L2
theorem s_27 (R : Rec) (b : List (Int × Int)) (w : Nat) (hw : 0 < w) (hb : BoxOk b w) (hf : Fit [[]] b.length w) : runB N_27.length (m_27 R) [boxD b] = some (.ok (.tuple ((prodR [[]] b).map rowD))) := by
  obtain ⟨a2, a3, h⟩ := for_27 R (boxD b) w hw b [[]] .u .u hb hf
  have e0 : ([[]] : List (List Int)).map rowD = [.tuple []] := rfl
  rw [e0] at h
  simp [e_run, m_27, start0, N_27]
  have e1 : boxD b = .tuple (b.map pairD) := rfl
  rw [e1] at h ⊢
  simp
  rw [h]
  simp
/-! ### _law_spread -/
theorem for_34 (lo hi : Int) (R0 : D) (hs : -1000 ≤ lo ∧ lo ≤ 1000 ∧ -1000 ≤ hi ∧ hi ≤ 1000) : ∀ (rows acc : List (List Int)) (e4 : Ent), (∀ r ∈ rows, r.length ≤ 1000) → acc.length + rows.length * (widthOf (lo, hi)).length ≤ 1000000 →
    ∃ a4, forD (aName 4) (sSeq (sSetL 3 (mOp2L gCatL (mVar 3) (mList (mLc [5] (mRg rg2 (mCons (mVar 1) (mCons (mOp2 bAdd (mVar 2) (mPure (.int 1))) mNil))) (aName 5) (mPure true) (mOp2 bAdd (mVar 4) (mTup (mCons (mVar 5) mNil))))))) sNil)
      (rows.map rowD) [.v R0, .v (.int lo), .v (.int hi), .l false (acc.map rowD), e4, .u] = some (.nx, [.v R0, .v (.int lo), .v (.int hi), .l false ((acc ++ stepW rows (widthOf (lo, hi))).map rowD), a4, .u])
  | [], acc, e4, _, _ => ⟨e4, by simp [stepW]⟩
  | r :: rows, acc, e4, hl, hz => by
    have hk : acc.length + (widthOf (lo, hi)).length + rows.length * (widthOf (lo, hi)).length ≤ 1000000 := by
      rw [List.length_cons, Nat.add_mul, Nat.one_mul] at hz
      omega
    obtain ⟨a4, ih⟩ := for_34 lo hi R0 hs rows (acc ++ (widthOf (lo, hi)).map fun x => r ++ [x]) (.v (rowD r)) (fun q hq => hl q (List.mem_cons_of_mem _ hq)) (by rw [List.length_append, List.length_map]; exact hk)
    refine ⟨a4, ?_⟩
    have hr := hl r List.mem_cons_self
    have key : turnsD [5] (aName 5) (mPure true) (mOp2 bAdd (mVar 4) (mTup (mCons (mVar 5) mNil))) ((widthOf (lo, hi)).map .int) [] [.v R0, .v (.int lo), .v (.int hi), .v (.list (acc.map rowD)), .v (rowD r), .u] = some (((widthOf (lo, hi)).map .int).map (snocD (rowD r)), [.v R0, .v (.int lo), .v (.int hi), .v (.list (acc.map rowD)), .v (rowD r), .u]) := by
      rw [turns_map rfl (f := snocD (rowD r)), List.nil_append]
      · intro d hd
        obtain ⟨x, hx, rfl⟩ := List.mem_map.mp hd
        have h3 : r.length + 1 ≤ 1000000 := by omega
        simp [rowD, snocD, h3]
      · simp only [List.length_nil, List.length_map]; omega
    have e2 : ((widthOf (lo, hi)).map PyData.int).map (snocD (rowD r)) = ((widthOf (lo, hi)).map fun x => r ++ [x]).map rowD := by
      rw [List.map_map, List.map_map]
      congr 1
      funext x
      exact snoc_row r x
    rw [e2] at key
    have h1 : inRg lo = true := inRg_small (by omega) (by omega)
    have h2 : inRg (hi + 1) = true := inRg_small (by omega) (by omega)
    have e3 : rangeD lo (hi + 1 - lo).toNat = (widthOf (lo, hi)).map .int := rangeD_eq _ _
    have hz2 : acc.length + (widthOf (lo, hi)).length ≤ 1000000 := by omega
    simp only [List.map_cons]
    unfold forD
    simp [h1, h2, e3, key, hz2]
    have e4 : (acc ++ (widthOf (lo, hi)).map fun x => r ++ [x]).map rowD = acc.map rowD ++ (((widthOf (lo, hi)).map fun x => r ++ [x]).map rowD) := List.map_append
    rw [e4] at ih
    simp only [List.map_map] at ih
    rw [ih]
    simp [stepW]
theorem s_34 (R : Rec) (rows : List (List Int)) (lo hi : Int) (hs : -1000 ≤ lo ∧ lo ≤ 1000 ∧ -1000 ≤ hi ∧ hi ≤ 1000) (hl : ∀ r ∈ rows, r.length ≤ 1000) (hz : rows.length * (widthOf (lo, hi)).length ≤ 1000000) :
    runB N_34.length (m_34 R) [.list (rows.map rowD), .int lo, .int hi] = some (.ok (.list ((stepW rows (widthOf (lo, hi))).map rowD))) := by
  obtain ⟨a4, h⟩ := for_34 lo hi (.list (rows.map rowD)) hs rows [] .u hl (by simpa using hz)
  simp [e_run, m_34, start0, N_34]
  simp at h
  rw [h]
  simp
/-! ### _law_within -/
def H34 (R : Rec) : Prop := ∀ (rows : List (List Int)) (lo hi : Int), (-1000 ≤ lo ∧ lo ≤ 1000 ∧ -1000 ≤ hi ∧ hi ≤ 1000) → (∀ r ∈ rows, r.length ≤ 1000) → rows.length * (widthOf (lo, hi)).length ≤ 1000000 →
    R 34 [.list (rows.map rowD), .int lo, .int hi] = some (.ok (.list ((stepW rows (widthOf (lo, hi))).map rowD)))
def isL (e : Ent) (xs : List D) : Prop := e = .v (.list xs) ∨ e = .l false xs
theorem for_33 (R : Rec) (hR : H34 R) (B : D) (w : Nat) (hw : 0 < w) : ∀ (b : List (Int × Int)) (rows : List (List Int)) (e1 e2 e3 : Ent), isL e1 (rows.map rowD) → BoxOk b w → Fit rows b.length w →
    ∃ a1 a2 a3, isL a1 ((prodR rows b).map rowD) ∧ forD (aTup (aCons (aName 2) (aCons (aName 3) aNil))) (sSeq (sSetV 1 (mCall 3 (R 34) [] (mCons (mVar 1) (mCons (mVar 2) (mCons (mVar 3) mNil))))) sNil) (b.map pairD) [.v B, e1, e2, e3] = some (.nx, [.v B, a1, a2, a3])
  | [], rows, e1, e2, e3, h1, _, _ => ⟨e1, e2, e3, h1, rfl⟩
  | p :: b, rows, e1, e2, e3, h1, hb, hf => by
    have hs := hb.sm p List.mem_cons_self
    have hwd := hb.wd p List.mem_cons_self
    obtain ⟨a1, a2, a3, q, ih⟩ := for_33 R hR B w hw b (stepW rows (widthOf p)) (.v (.list ((stepW rows (widthOf p)).map rowD))) (.v (.int p.1)) (.v (.int p.2)) (.inl rfl) hb.tl (hf.step hwd)
    refine ⟨a1, a2, a3, q, ?_⟩
    have hc := hR rows p.1 p.2 hs (fun r hr => by have := hf.len r hr; omega) (by
      have h4 := hf.small hw
      have h5 := Nat.mul_le_mul_left rows.length hwd
      show rows.length * (widthOf p).length ≤ _
      omega)
    simp only [List.map_cons]
    unfold forD
    rcases h1 with rfl | rfl
    · simp [pairD, hc]
      exact ih
    · simp [pairD, hc]
      exact ih
theorem s_33 (R : Rec) (hR : H34 R) (b : List (Int × Int)) (w : Nat) (hw : 0 < w) (hb : BoxOk b w) (hf : Fit [[]] b.length w) : runB N_33.length (m_33 R) [boxD b] = some (.ok (.list ((prodR [[]] b).map rowD))) := by
  obtain ⟨a1, a2, a3, q, h⟩ := for_33 R hR (boxD b) w hw b [[]] (.l false [.tuple []]) .u .u (.inr rfl) hb hf
  simp [e_run, m_33, start0, N_33]
  have e1 : boxD b = .tuple (b.map pairD) := rfl
  rw [e1] at h ⊢
  simp
  rw [h]
  rcases q with rfl | rfl <;> simp
/-! ### size_of -/
def sizeR (acc : Int) (b : List (Int × Int)) : Int := b.foldl (fun s p => s * (p.2 - p.1 + 1)) acc
theorem for_24 (B : D) : ∀ (b : List (Int × Int)) (acc : Int) (e2 e3 : Ent), (∀ p ∈ b, -1000 ≤ p.1 ∧ p.1 ≤ 1000 ∧ -1000 ≤ p.2 ∧ p.2 ≤ 1000) →
    ∃ a2 a3, forD (aTup (aCons (aName 2) (aCons (aName 3) aNil))) (sSeq (sSetV 1 (mOp2 bMul (mVar 1) (mOp2 bAdd (mOp2 bSub (mVar 3) (mVar 2)) (mPure (.int 1))))) sNil) (b.map pairD) [.v B, .v (.int acc), e2, e3] = some (.nx, [.v B, .v (.int (sizeR acc b)), a2, a3])
  | [], acc, e2, e3, _ => ⟨e2, e3, rfl⟩
  | p :: b, acc, e2, e3, h => by
    have hs := h p List.mem_cons_self
    obtain ⟨a2, a3, ih⟩ := for_24 B b (acc * (p.2 - p.1 + 1)) (.v (.int p.1)) (.v (.int p.2)) fun q hq => h q (List.mem_cons_of_mem _ hq)
    refine ⟨a2, a3, ?_⟩
    have hc : ((-18446744073709551616 < acc ∧ acc < 18446744073709551616) ∨ (-18446744073709551616 < p.2 - p.1 + 1 ∧ p.2 - p.1 + 1 < 18446744073709551616)) := .inr (by omega)
    simp only [List.map_cons]
    unfold forD
    simp [pairD, hc]
    exact ih
theorem s_24 (R : Rec) (b : List (Int × Int)) (h : ∀ p ∈ b, -1000 ≤ p.1 ∧ p.1 ≤ 1000 ∧ -1000 ≤ p.2 ∧ p.2 ≤ 1000) : runB N_24.length (m_24 R) [boxD b] = some (.ok (.int (sizeR 1 b))) := by
  obtain ⟨a2, a3, h⟩ := for_24 (boxD b) b 1 .u .u h
  simp [e_run, m_24, start0, N_24]
  have e1 : boxD b = .tuple (b.map pairD) := rfl
  rw [e1] at h ⊢
  simp
  rw [h]
  simp
theorem size_len : ∀ (b : List (Int × Int)) (rows : List (List Int)), (∀ p ∈ b, p.1 ≤ p.2 + 1) → sizeR rows.length b = ((prodR rows b).length : Int)
  | [], rows, _ => rfl
  | p :: b, rows, h => by
    rw [prodR_cons, ← size_len b _ fun q hq => h q (List.mem_cons_of_mem _ hq), stepW_len]
    have hp := h p List.mem_cons_self
    have e : ((widthOf p).length : Int) = p.2 - p.1 + 1 := by
      unfold widthOf
      rw [rng_len]
      omega
    show sizeR ((rows.length : Int) * (p.2 - p.1 + 1)) b = _
    rw [Int.natCast_mul, e]
end K40
end
section
set_option Elab.async false
set_option linter.all false
set_option maxRecDepth 100000
set_option maxHeartbeats 4000000
namespace K40
open PySem FF L2
/-! ### _law_longer, _law_inputs, all_inputs -/
theorem for_32 (t : Int) (R0 : D) (hs : 0 ≤ t ∧ t ≤ 1000) : ∀ (rows acc : List (List Int)) (e3 : Ent), (∀ r ∈ rows, r.length ≤ 1000) → acc.length + rows.length * t.toNat ≤ 1000000 →
    ∃ a3, forD (aName 3) (sSeq (sSetL 2 (mOp2L gCatL (mVar 2) (mList (mLc [4] (mRg rg1 (mCons (mVar 1) mNil)) (aName 4) (mPure true) (mOp2 bAdd (mVar 3) (mTup (mCons (mVar 4) mNil))))))) sNil)
      (rows.map rowD) [.v R0, .v (.int t), .l false (acc.map rowD), e3, .u] = some (.nx, [.v R0, .v (.int t), .l false ((acc ++ stepW rows (rng 0 t.toNat)).map rowD), a3, .u])
  | [], acc, e4, _, _ => ⟨e4, by simp [stepW]⟩
  | r :: rows, acc, e4, hl, hz => by
    have hk : acc.length + t.toNat + rows.length * t.toNat ≤ 1000000 := by
      rw [List.length_cons, Nat.add_mul, Nat.one_mul] at hz
      omega
    have hrl := rng_len 0 t.toNat
    obtain ⟨a4, ih⟩ := for_32 t R0 hs rows (acc ++ (rng 0 t.toNat).map fun x => r ++ [x]) (.v (rowD r)) (fun q hq => hl q (List.mem_cons_of_mem _ hq)) (by rw [List.length_append, List.length_map, hrl]; exact hk)
    refine ⟨a4, ?_⟩
    have hr := hl r List.mem_cons_self
    have key : turnsD [4] (aName 4) (mPure true) (mOp2 bAdd (mVar 3) (mTup (mCons (mVar 4) mNil))) ((rng 0 t.toNat).map .int) [] [.v R0, .v (.int t), .v (.list (acc.map rowD)), .v (rowD r), .u] = some (((rng 0 t.toNat).map .int).map (snocD (rowD r)), [.v R0, .v (.int t), .v (.list (acc.map rowD)), .v (rowD r), .u]) := by
      rw [turns_map rfl (f := snocD (rowD r)), List.nil_append]
      · intro d hd
        obtain ⟨x, hx, rfl⟩ := List.mem_map.mp hd
        have h3 : r.length + 1 ≤ 1000000 := by omega
        simp [rowD, snocD, h3]
      · simp only [List.length_nil, List.length_map, hrl]; omega
    have e2 : ((rng 0 t.toNat).map PyData.int).map (snocD (rowD r)) = ((rng 0 t.toNat).map fun x => r ++ [x]).map rowD := by
      rw [List.map_map, List.map_map]
      congr 1
      funext x
      exact snoc_row r x
    rw [e2] at key
    have h1 : inRg t = true := inRg_small (by omega) (by omega)
    have e3 : rangeD 0 t.toNat = (rng 0 t.toNat).map .int := rangeD_eq _ _
    have hz2 : acc.length + (rng 0 t.toNat).length ≤ 1000000 := by rw [hrl]; omega
    simp only [List.map_cons]
    unfold forD
    simp [h1, e3, key, hz2]
    have e4 : (acc ++ (rng 0 t.toNat).map fun x => r ++ [x]).map rowD = acc.map rowD ++ (((rng 0 t.toNat).map fun x => r ++ [x]).map rowD) := List.map_append
    rw [e4] at ih
    simp only [List.map_map] at ih
    rw [ih]
    simp [stepW]
theorem s_32 (R : Rec) (rows : List (List Int)) (t : Int) (hs : 0 ≤ t ∧ t ≤ 1000) (hl : ∀ r ∈ rows, r.length ≤ 1000) (hz : rows.length * t.toNat ≤ 1000000) :
    runB N_32.length (m_32 R) [.list (rows.map rowD), .int t] = some (.ok (.list ((stepW rows (rng 0 t.toNat)).map rowD))) := by
  obtain ⟨a4, h⟩ := for_32 t (.list (rows.map rowD)) hs rows [] .u hl (by simpa using hz)
  simp [e_run, m_32, start0, N_32]
  simp at h
  rw [h]
  simp
def H32 (R : Rec) : Prop := ∀ (rows : List (List Int)) (t : Int), (0 ≤ t ∧ t ≤ 1000) → (∀ r ∈ rows, r.length ≤ 1000) → rows.length * t.toNat ≤ 1000000 →
    R 32 [.list (rows.map rowD), .int t] = some (.ok (.list ((stepW rows (rng 0 t.toNat)).map rowD)))
def powR (rows : List (List Int)) (t : Int) : Nat → List (List Int)
  | 0 => rows
  | m + 1 => powR (stepW rows (rng 0 t.toNat)) t m
theorem for_31 (R : Rec) (hR : H32 R) (t : Int) (m0 : Nat) (ht : 1 ≤ t ∧ t ≤ 64) : ∀ (ds : List D) (rows : List (List Int)) (e1 e2 : Ent), isL e1 (rows.map rowD) → Fit rows ds.length t.toNat →
    ∃ a1 a2, isL a1 ((powR rows t ds.length).map rowD) ∧ forD (aName 2) (sSeq (sSetV 1 (mCall 2 (R 32) [] (mCons (mVar 1) (mCons (mOp2 gIdx (mVar 0) (mPure (.int 0))) mNil)))) sNil) ds [.v (prog t m0), e1, e2] = some (.nx, [.v (prog t m0), a1, a2])
  | [], rows, e1, e2, h1, _ => ⟨e1, e2, h1, rfl⟩
  | d :: ds, rows, e1, e2, h1, hf => by
    obtain ⟨a1, a2, q, ih⟩ := for_31 R hR t m0 ht ds (stepW rows (rng 0 t.toNat)) (.v (.list ((stepW rows (rng 0 t.toNat)).map rowD))) (.v d) (.inl rfl) (hf.step (Nat.le_of_eq (rng_len _ _)))
    refine ⟨a1, a2, q, ?_⟩
    have hc := hR rows t (by omega) (fun r hr => by have := hf.len r hr; omega) (by
      have h4 := hf.small (by omega)
      omega)
    have ei : gIdx (prog t m0) (.int 0) = some (.int t) := rfl
    unfold forD
    rcases h1 with rfl | rfl
    · simp [ei, hc]
      exact ih
    · simp [ei, hc]
      exact ih
theorem nms_len (m : Nat) (h : m < 4) : (nms m).length = m := by
  unfold nms
  rw [List.length_take]
  simp
  omega
theorem s_31 (R : Rec) (hR : H32 R) (t : Int) (m : Nat) (ht : 1 ≤ t ∧ t ≤ 64) (hm : m < 4) (hf : Fit [[]] m t.toNat) : runB N_31.length (m_31 R) [prog t m] = some (.ok (.list ((powR [[]] t m).map rowD))) := by
  obtain ⟨a1, a2, q, h⟩ := for_31 R hR t m ht (nms m) [[]] (.l false [.tuple []]) .u (.inr rfl) (by rw [nms_len m hm]; exact hf)
  rw [nms_len m hm] at q
  have ei : gIdx (prog t m) (.int 1) = some (.tuple (nms m)) := rfl
  simp [e_run, m_31, start0, N_31, ei]
  rw [h]
  rcases q with rfl | rfl <;> simp
theorem for_18 (R : Rec) (t : Int) (m0 : Nat) (ht : 1 ≤ t ∧ t ≤ 64) : ∀ (ds : List D) (rows : List (List Int)) (e1 e2 : Ent), isL e1 (rows.map rowD) → Fit rows ds.length t.toNat → rows.length * t.toNat ^ ds.length ≤ 5000 →
    ∃ a1 a2, isL a1 ((powR rows t ds.length).map rowD) ∧ forD (aName 2) (sSeq (sSetL 1 (mLc2 [3, 4] [4] (mItems (mVar 1)) (aName 3) (mPure true) (mRg rg1 (mCons (mOp2 gIdx (mVar 0) (mPure (.int 0))) mNil)) (aName 4) (mPure true) (mOp2 bAdd (mVar 3) (mTup (mCons (mVar 4) mNil)))))
  (sSeq (sIf (mB (mOp2 cGt (mB1 gLen (mCons (mVar 1) mNil)) (mPure (.int 5000)))) (sSeq (sRaise "BadInput")
  sNil) sNil)
  sNil)) ds [.v (prog t m0), e1, e2, .u, .u] = some (.nx, [.v (prog t m0), a1, a2, .u, .u])
  | [], rows, e1, e2, h1, _, _ => ⟨e1, e2, h1, rfl⟩
  | d :: ds, rows, e1, e2, h1, hf, hz => by
    have hz2 : (stepW rows (rng 0 t.toNat)).length * t.toNat ^ ds.length ≤ 5000 := by
      rw [stepW_len, rng_len, Nat.mul_assoc, Nat.mul_comm t.toNat, ← Nat.pow_succ]
      exact hz
    obtain ⟨a1, a2, q, ih⟩ := for_18 R t m0 ht ds (stepW rows (rng 0 t.toNat)) (.v (.list ((stepW rows (rng 0 t.toNat)).map rowD))) (.v d) (.inl rfl) (hf.step (Nat.le_of_eq (rng_len _ _))) hz2
    refine ⟨a1, a2, q, ?_⟩
    have ei : gIdx (prog t m0) (.int 0) = some (.int t) := rfl
    have key : turns2D [3, 4] [4] (aName 3) (mPure true) (mRg rg1 (mCons (mOp2 gIdx (mVar 0) (mPure (.int 0))) mNil)) (aName 4) (mPure true) (mOp2 bAdd (mVar 3) (mTup (mCons (mVar 4) mNil)))
        (rows.map rowD) [] [.v (prog t m0), .v (.list (rows.map rowD)), .v d, .u, .u] = some ((stepW rows (rng 0 t.toNat)).map rowD, [.v (prog t m0), .v (.list (rows.map rowD)), .v d, .u, .u]) := by
      rw [turns2_map (by decide) rfl rfl (f := snocD) ((rng 0 t.toNat).map .int), step_eq, List.nil_append]
      · intro d hd
        have h1 : inRg t = true := inRg_small (by omega) (by omega)
        simp [h1, rangeD_eq, ei]
      · intro d hd e he
        obtain ⟨r, hr, rfl⟩ := List.mem_map.mp hd
        obtain ⟨x, hx, rfl⟩ := List.mem_map.mp he
        have hl := hf.len r hr
        have h3 : r.length + 1 ≤ 1000000 := by omega
        simp [rowD, snocD, h3]
      · have h4 := hf.small (by omega)
        simp only [List.length_nil, List.length_map, Nat.zero_add, rng_len]
        omega
    have hbig : ¬ (5000 < (stepW rows (rng 0 t.toNat)).length) := by
      have h1 : 1 ≤ t.toNat ^ ds.length := Nat.one_le_pow _ _ (by omega)
      have := Nat.mul_le_mul_left (stepW rows (rng 0 t.toNat)).length h1
      omega
    have hbig2 : ¬ (5000 < ((stepW rows (rng 0 t.toNat)).length : Int)) := by omega
    unfold forD
    rcases h1 with rfl | rfl
    · simp [key, hbig2]
      exact ih
    · simp [key, hbig2]
      exact ih
theorem s_18 (R : Rec) (t : Int) (m : Nat) (ht : 1 ≤ t ∧ t ≤ 64) (hm : m < 4) (hf : Fit [[]] m t.toNat) (hz : t.toNat ^ m ≤ 5000) : runB N_18.length (m_18 R) [prog t m] = some (.ok (.tuple ((powR [[]] t m).map rowD))) := by
  obtain ⟨a1, a2, q, h⟩ := for_18 R t m ht (nms m) [[]] (.l false [.tuple []]) .u (.inr rfl) (by rw [nms_len m hm]; exact hf) (by rw [nms_len m hm]; simpa using hz)
  rw [nms_len m hm] at q
  have ei : gIdx (prog t m) (.int 1) = some (.tuple (nms m)) := rfl
  simp [e_run, m_18, start0, N_18, ei]
  rw [h]
  rcases q with rfl | rfl <;> simp
/-! ### whole_box, _law_whole -/
def wholeD (t : Int) (m : Nat) : D := .tuple ((nms m).map fun _ => .tuple [.int 0, .int (t - 1)])
theorem whole_turns (t : Int) (m : Nat) : ∀ (hm : m < 4), turnsD [1] (aName 1) (mPure true) (mTup (mCons (mPure (.int 0)) (mCons (mOp2 bSub (mOp2 gIdx (mVar 0) (mPure (.int 0))) (mPure (.int 1))) mNil))) (nms m) [] [.v (prog t m), .u] = some ((nms m).map fun _ => .tuple [.int 0, .int (t - 1)], [.v (prog t m), .u]) := fun hm => by
  rw [turns_map rfl (f := fun _ => .tuple [.int 0, .int (t - 1)]), List.nil_append]
  · intro d hd
    have ei : gIdx (prog t m) (.int 0) = some (.int t) := rfl
    simp [ei]
  · rw [nms_len m hm]; simp; omega
theorem s_35 (R : Rec) (t : Int) (m : Nat) (hm : m < 4) : runB N_35.length (m_35 R) [prog t m] = some (.ok (wholeD t m)) := by
  have ei : gIdx (prog t m) (.int 1) = some (.tuple (nms m)) := rfl
  simp [e_run, m_35, start0, N_35, ei, whole_turns t m hm, wholeD]
theorem s_23 (R : Rec) (t : Int) (m : Nat) (hm : m < 4) (h16 : R 16 [prog t m] = some (.ok .none)) : runB N_23.length (m_23 R) [prog t m] = some (.ok (wholeD t m)) := by
  have ei : gIdx (prog t m) (.int 1) = some (.tuple (nms m)) := rfl
  simp [e_run, m_23, start0, N_23, ei, whole_turns t m hm, wholeD, h16]
end K40
end
section
set_option Elab.async false
set_option linter.all false
set_option maxRecDepth 100000
set_option maxHeartbeats 4000000
namespace K40
open PySem FF L2
/-! ### is_in -/
def inB : List (Int × Int) → List Int → Bool
  | p :: b, x :: xs => (decide (p.1 ≤ x) && decide (x ≤ p.2)) && inB b xs
  | _, _ => true
theorem all_25 (B X : D) : ∀ (b : List (Int × Int)) (xs : List Int) (e2 e3 e4 : Ent), ∃ a2 a3 a4, allD (aTup (aCons (aTup (aCons (aName 2) (aCons (aName 3) aNil))) (aCons (aName 4) aNil))) (mChain cLe cLe (mVar 2) (mVar 4) (mVar 3)) (zipD (b.map pairD) (xs.map .int)) [.v B, .v X, e2, e3, e4] = some (inB b xs, [.v B, .v X, a2, a3, a4])
  | [], _, e2, e3, e4 => ⟨e2, e3, e4, by simp [zipD, allD, inB]⟩
  | _ :: _, [], e2, e3, e4 => ⟨e2, e3, e4, by simp [zipD, allD, inB]⟩
  | p :: b, x :: xs, e2, e3, e4 => by
    obtain ⟨a2, a3, a4, ih⟩ := all_25 B X b xs (.v (.int p.1)) (.v (.int p.2)) (.v (.int x))
    by_cases h1 : p.1 ≤ x
    · by_cases h2 : x ≤ p.2
      · refine ⟨a2, a3, a4, ?_⟩
        simp only [List.map_cons, zipD]
        unfold allD
        simp [pairD, h1, h2, inB]
        exact ih
      · refine ⟨.v (.int p.1), .v (.int p.2), .v (.int x), ?_⟩
        simp only [List.map_cons, zipD]
        unfold allD
        simp [pairD, h1, h2, inB]
    · refine ⟨.v (.int p.1), .v (.int p.2), .v (.int x), ?_⟩
      simp only [List.map_cons, zipD]
      unfold allD
      simp [pairD, h1, inB]
theorem s_25 (R : Rec) (b : List (Int × Int)) (xs : List Int) (hl : xs.length = b.length) : runB N_25.length (m_25 R) [boxD b, rowD xs] = some (.ok (.bool (inB b xs))) := by
  obtain ⟨a2, a3, a4, h⟩ := all_25 (boxD b) (rowD xs) b xs .u .u .u
  simp [e_run, m_25, start0, N_25]
  have e1 : boxD b = .tuple (b.map pairD) := rfl
  have e2 : rowD xs = .tuple (xs.map .int) := rfl
  rw [e1, e2] at h ⊢
  simp [hl, gZip]
  rw [h]
  simp
theorem mem_width {p : Int × Int} {x : Int} : x ∈ widthOf p ↔ p.1 ≤ x ∧ x ≤ p.2 := by
  unfold widthOf rng
  rw [List.mem_map]
  constructor
  · rintro ⟨i, hi, rfl⟩
    have := List.mem_range.mp hi
    omega
  · rintro ⟨h1, h2⟩
    exact ⟨(x - p.1).toNat, List.mem_range.mpr (by omega), by omega⟩
theorem mem_prod : ∀ (b : List (Int × Int)) (rows : List (List Int)) (r : List Int), r ∈ prodR rows b ↔ ∃ r0 ∈ rows, ∃ ys : List Int, ys.length = b.length ∧ inB b ys = true ∧ r = r0 ++ ys
  | [], rows, r => by
    rw [prodR_nil]
    constructor
    · intro h
      exact ⟨r, h, [], rfl, rfl, by simp⟩
    · rintro ⟨r0, h0, ys, hy, _, rfl⟩
      have : ys = [] := List.length_eq_zero_iff.mp hy
      subst this
      simpa using h0
  | p :: b, rows, r => by
    rw [prodR_cons, mem_prod b]
    constructor
    · rintro ⟨r1, h1, ys, hy, hi, rfl⟩
      obtain ⟨r0, h0, x, hx, rfl⟩ := stepW_mem h1
      refine ⟨r0, h0, x :: ys, by simp [hy], ?_, by simp⟩
      obtain ⟨q1, q2⟩ := mem_width.mp hx
      simp [inB, q1, q2, hi]
    · rintro ⟨r0, h0, ys, hy, hi, rfl⟩
      cases ys with
      | nil => simp at hy
      | cons x ys =>
        simp only [inB, Bool.and_eq_true, decide_eq_true_eq] at hi
        refine ⟨r0 ++ [x], ?_, ys, by simpa using hy, hi.2, by simp⟩
        unfold stepW
        exact List.mem_flatMap.mpr ⟨r0, h0, List.mem_map.mpr ⟨x, mem_width.mpr hi.1, rfl⟩⟩
theorem mem_prod0 (b : List (Int × Int)) (xs : List Int) (hl : xs.length = b.length) : xs ∈ prodR [[]] b ↔ inB b xs = true := by
  rw [mem_prod]
  constructor
  · rintro ⟨r0, h0, ys, hy, hi, e⟩
    have : r0 = [] := by simpa using h0
    subst this
    rw [e]
    simpa using hi
  · intro h
    exact ⟨[], by simp, xs, hl, h, by simp⟩
/-! ### equality of data -/
theorem eqvAll_ints : ∀ a b : List Int, PyData.eqvAll (a.map .int) (b.map .int) = decide (a = b)
  | [], [] => by simp [PyData.eqvAll]
  | [], _ :: _ => by simp [PyData.eqvAll]
  | _ :: _, [] => by simp [PyData.eqvAll]
  | x :: a, y :: b => by
    have ih := eqvAll_ints a b
    simp only [List.map_cons, PyData.eqvAll, ih, PyData.eqv]
    by_cases h1 : x = y
    · by_cases h2 : a = b <;> simp [h1, h2]
    · simp [h1]
theorem eqv_row (a b : List Int) : PyData.eqv (rowD a) (rowD b) = decide (a = b) := by
  unfold rowD
  rw [PyData.eqv]
  exact eqvAll_ints a b
theorem lay_ints : ∀ a : List Int, PyData.canLayAll0 (a.map .int) = true ∧ PyData.depthAll (a.map .int) = 0
  | [] => by simp [PyData.canLayAll0, PyData.depthAll]
  | x :: a => by
    have ih := lay_ints a
    simp [PyData.canLayAll0, PyData.depthAll, PyData.canLay0, PyData.depth, ih]
theorem lay_rows : ∀ a : List (List Int), PyData.canLayAll0 (a.map rowD) = true ∧ PyData.depthAll (a.map rowD) ≤ 1
  | [] => by simp [PyData.canLayAll0, PyData.depthAll]
  | x :: a => by
    have ih := lay_rows a
    have h1 := lay_ints x
    refine ⟨by simp [PyData.canLayAll0, PyData.canLay0, rowD, ih.1, h1.1], ?_⟩
    simp only [List.map_cons, PyData.depthAll, rowD, PyData.depth, h1.2]
    have := ih.2
    omega
theorem sh_row (a : List Int) : SeqAt.shaped (rowD a) = true := by
  have h := lay_ints a
  simp [SeqAt.shaped, rowD, PyData.canLay0, PyData.depth, h]
theorem sh_rowsL (a : List (List Int)) : SeqAt.shaped (.list (a.map rowD)) = true := by
  have h := lay_rows a
  simp [SeqAt.shaped, PyData.canLay0, PyData.depth, h.1]
  omega
theorem sh_rowsT (a : List (List Int)) : SeqAt.shaped (.tuple (a.map rowD)) = true := by
  have h := lay_rows a
  simp [SeqAt.shaped, PyData.canLay0, PyData.depth, h.1]
  omega
theorem plain_of {d : D} (h : SeqAt.shaped d = true) : d.plain = true := PyData.plain_of_canLay0 d (SeqAt.canLay_of_shaped h)
theorem eq_self {d : D} (h : SeqAt.shaped d = true) : cEq d d = some true := by
  have e := SeqAt.eqv_refl_plain d (plain_of h)
  have key : (if SeqAt.shaped d = true ∧ SeqAt.shaped d = true then some (PyData.eqv d d) else none) = some true := by rw [if_pos ⟨h, h⟩, e]
  cases d with
  | none => rfl
  | bool b => simp [cEq]
  | int b => simp [cEq]
  | str b => simp [cEq]
  | list b => exact key
  | tuple b => exact key
  | dict b => exact key
theorem in_rows (xs : List Int) (rows : List (List Int)) : cIn (rowD xs) (.list (rows.map rowD)) = some (decide (xs ∈ rows)) := by
  have hf : ¬ (flatD (rowD xs) = true ∧ (rows.map rowD).all flatD = true) := fun z => Bool.noConfusion (show false = true from z.1)
  show (if flatD (rowD xs) = true ∧ (rows.map rowD).all flatD = true then some ((rows.map rowD).any fun z => PyData.eqv z (rowD xs)) else if SeqAt.shaped (rowD xs) = true ∧ SeqAt.shaped (.list (rows.map rowD)) = true then some ((rows.map rowD).any fun z => PyData.eqv z (rowD xs)) else none) = _
  rw [if_neg hf, if_pos ⟨sh_row xs, sh_rowsL rows⟩]
  have : ∀ rows : List (List Int), ((rows.map rowD).any fun z => PyData.eqv z (rowD xs)) = decide (xs ∈ rows) := fun rows => by
    induction rows with
    | nil => simp
    | cons r rows ih =>
      rw [List.map_cons, List.any_cons, ih, eqv_row]
      by_cases h1 : r = xs
      · simp [h1]
      · have h2 : ¬ xs = r := fun z => h1 z.symm
        simp [h1, h2]
  exact congrArg some (this rows)
/-! ### halves -/
theorem cut_lo (xs : List D) (k : Nat) (h : k ≤ xs.length) : cutG xs none (some (k : Int)) = xs.take k := by
  unfold cutG
  rw [HT.sIx_nat, HT.sIx_none, List.drop_zero, Nat.min_eq_left h, Nat.sub_zero]
theorem cut_hi (xs : List D) (k : Nat) (h : k ≤ xs.length) : cutG xs (some (k : Int)) none = xs.drop k := by
  unfold cutG
  rw [HT.sIx_nat, HT.sIx_none, Nat.min_eq_left h, List.take_of_length_le (Nat.le_of_eq List.length_drop)]
def H8 (R : Rec) : Prop := (∀ n low : Int, R 8 [.int n, .int low] = some (.ok (.bool (decide (low ≤ n))))) ∧ ∀ n : Int, R 8 [.int n, .none] = some (.ok (.bool true))
theorem s_26_er (R : Rec) (hR : H8 R) (b : List (Int × Int)) (k : Nat) (x : Int) (h : b.length ≤ k ∨ ∃ p, b[k]? = some p ∧ ¬ (p.1 < x ∧ x ≤ p.2)) : runB N_26.length (m_26 R) [boxD b, .int k, .int x] = some (.er "BadInput") := by
  have e1 : boxD b = .tuple (b.map pairD) := rfl
  by_cases hk : b.length ≤ k
  · have hk2 : ((b.length : Nat) : Int) ≤ (k : Int) := by omega
    simp [e_run, m_26, start0, N_26, hR.1, hR.2, e1, hk, hk2]
  · obtain ⟨p, hp, hn⟩ := h.resolve_left hk
    have hk2 : ¬ ((b.length : Nat) : Int) ≤ (k : Int) := by omega
    have hg : atI (b.map pairD) (k : Int) = some (pairD p) := by
      rw [atI_nat _ _ (by rw [List.length_map]; omega), List.getElem?_map, hp]
      rfl
    have e3 : gIdx (pairD p) (.int 0) = some (.int p.1) := rfl
    have e4 : gIdx (pairD p) (.int 1) = some (.int p.2) := rfl
    by_cases h1 : p.1 < x
    · have h2 : ¬ x ≤ p.2 := fun z => hn ⟨h1, z⟩
      simp [e_run, m_26, start0, N_26, hR.1, hR.2, e1, hk, hk2, hg, e3, e4, h1, h2]
    · simp [e_run, m_26, start0, N_26, hR.1, hR.2, e1, hk, hk2, hg, e3, e4, h1]
def firstB (b : List (Int × Int)) (k : Nat) (p : Int × Int) : List (Int × Int) := b.take k ++ p :: b.drop (k + 1)
theorem s_26_ok (R : Rec) (hR : H8 R) (b : List (Int × Int)) (k : Nat) (x : Int) (p : Int × Int) (hb : b.length ≤ 1000) (hp : b[k]? = some p) (h1 : p.1 < x) (h2 : x ≤ p.2) :
    runB N_26.length (m_26 R) [boxD b, .int k, .int x] = some (.ok (.tuple [boxD (firstB b k (p.1, x - 1)), boxD (firstB b k (x, p.2))])) := by
  have e1 : boxD b = .tuple (b.map pairD) := rfl
  have hkl : k < b.length := (List.getElem?_eq_some_iff.mp hp).1
  have hk2 : ¬ ((b.length : Nat) : Int) ≤ (k : Int) := by omega
  have hk3 : ¬ b.length ≤ k := by omega
  have hg : atI (b.map pairD) (k : Int) = some (.tuple [.int p.1, .int p.2]) := by
    rw [atI_nat _ _ (by rw [List.length_map]; omega), List.getElem?_map, hp]
    rfl
  have a0 : atI [PyData.int p.1, PyData.int p.2] 0 = some (.int p.1) := rfl
  have a1 : atI [PyData.int p.1, PyData.int p.2] 1 = some (.int p.2) := rfl
  have c1 : cutG (b.map pairD) none (some (k : Int)) = (b.map pairD).take k := cut_lo _ _ (by rw [List.length_map]; omega)
  have c2 : cutG (b.map pairD) (some ((k : Int) + 1)) none = (b.map pairD).drop (k + 1) := cut_hi _ (k + 1) (by rw [List.length_map]; omega)
  have l1 : min k b.length + 1 ≤ 1000000 := by omega
  have l2 : min k b.length + (1 + (b.length - (k + 1))) ≤ 1000000 := by omega
  have l3 : min k b.length + 1 + (b.length - (k + 1)) ≤ 1000000 := by omega
  simp [e_run, m_26, start0, N_26, hR.1, hR.2, e1, hk2, hk3, hg, a0, a1, h1, h2, c1, c2, l1, l2, l3]
  simp [boxD, firstB, pairD]
/-! ### the halves' rows -/
theorem filter_step (q : Int → Bool) (k : Nat) (xs : List Int) : ∀ rows : List (List Int), (∀ r ∈ rows, r.length = k) → (stepW rows xs).filter (fun r => q (r.getD k 0)) = stepW rows (xs.filter q)
  | [], _ => rfl
  | r :: rows, h => by
    have hr := h r List.mem_cons_self
    have ih := filter_step q k xs rows fun r' hr' => h r' (List.mem_cons_of_mem _ hr')
    unfold stepW at ih ⊢
    rw [List.flatMap_cons, List.filter_append, ih, List.flatMap_cons]
    congr 1
    rw [List.filter_map]
    congr 1
    apply List.filter_congr
    intro x _
    show q ((r ++ [x]).getD k 0) = q x
    rw [List.getD_eq_getElem?_getD, List.getElem?_append_right (by omega)]
    simp [hr]
theorem filter_keep (q : Int → Bool) (k : Nat) (xs : List Int) : ∀ rows : List (List Int), (∀ r ∈ rows, k < r.length) → (stepW rows xs).filter (fun r => q (r.getD k 0)) = stepW (rows.filter fun r => q (r.getD k 0)) xs
  | [], _ => rfl
  | r :: rows, h => by
    have hr := h r List.mem_cons_self
    have ih := filter_keep q k xs rows fun r' hr' => h r' (List.mem_cons_of_mem _ hr')
    unfold stepW at ih ⊢
    rw [List.flatMap_cons, List.filter_append, ih, List.filter_cons]
    have e : ∀ x, (r ++ [x]).getD k 0 = r.getD k 0 := fun x => by
      rw [List.getD_eq_getElem?_getD, List.getD_eq_getElem?_getD, List.getElem?_append_left hr]
    cases hq : q (r.getD k 0) with
    | true =>
      rw [if_pos rfl, List.flatMap_cons]
      congr 1
      rw [List.filter_eq_self]
      intro a ha
      obtain ⟨x, _, rfl⟩ := List.mem_map.mp ha
      rw [e x, hq]
    | false =>
      rw [if_neg (by decide)]
      have : (xs.map fun x => r ++ [x]).filter (fun r => q (r.getD k 0)) = [] := by
        rw [List.filter_eq_nil_iff]
        intro a ha
        obtain ⟨x, _, rfl⟩ := List.mem_map.mp ha
        rw [e x, hq]
        decide
      rw [this, List.nil_append]
theorem stepW_lenr {rows : List (List Int)} {xs : List Int} {k : Nat} (h : ∀ r ∈ rows, r.length = k) : ∀ r ∈ stepW rows xs, r.length = k + 1 := fun r hr => by
  obtain ⟨r0, h0, x, _, rfl⟩ := stepW_mem hr
  rw [List.length_append, h r0 h0]
  rfl
theorem prodR_lenr : ∀ (b : List (Int × Int)) (rows : List (List Int)) (k : Nat), (∀ r ∈ rows, r.length = k) → ∀ r ∈ prodR rows b, r.length = k + b.length
  | [], rows, k, h => h
  | p :: b, rows, k, h => fun r hr => by
    have := prodR_lenr b _ (k + 1) (stepW_lenr h) r hr
    simp only [List.length_cons]
    omega
theorem filter_prod (q : Int → Bool) (k : Nat) : ∀ (b : List (Int × Int)) (rows : List (List Int)), (∀ r ∈ rows, k < r.length) → (prodR rows b).filter (fun r => q (r.getD k 0)) = prodR (rows.filter fun r => q (r.getD k 0)) b
  | [], rows, _ => rfl
  | p :: b, rows, h => by
    rw [prodR_cons, filter_prod q k b _ fun r hr => by
      obtain ⟨r0, h0, x, _, rfl⟩ := stepW_mem hr
      have := h r0 h0
      rw [List.length_append]
      omega, filter_keep q k _ rows h, prodR_cons]
theorem prodR_append (rows : List (List Int)) (b c : List (Int × Int)) : prodR rows (b ++ c) = prodR (prodR rows b) c := by unfold prodR; rw [List.foldl_append]
theorem filter_box (q : Int → Bool) (b : List (Int × Int)) (k : Nat) (p : Int × Int) (p2 : Int × Int) (hp : b[k]? = some p) (hq : (widthOf p).filter q = widthOf p2) : (prodR [[]] b).filter (fun r => q (r.getD k 0)) = prodR [[]] (firstB b k p2) := by
  have hkl : k < b.length := (List.getElem?_eq_some_iff.mp hp).1
  have e : b = b.take k ++ p :: b.drop (k + 1) := by
    have hpe : b[k] = p := (List.getElem?_eq_some_iff.mp hp).2
    rw [← hpe, ← List.drop_eq_getElem_cons hkl, List.take_append_drop]
  have h1 : ∀ r ∈ prodR [[]] (b.take k), r.length = k := fun r hr => by
    have := prodR_lenr (b.take k) [[]] 0 (by simp) r hr
    rw [List.length_take] at this
    omega
  unfold firstB
  rw [prodR_append]
  conv => lhs; rw [e, prodR_append]
  rw [prodR_cons, filter_prod q k _ _ fun r hr => by rw [stepW_lenr h1 r hr]; omega, filter_step q k _ _ h1, hq, prodR_cons]
theorem width_lt (p : Int × Int) (x : Int) (h1 : p.1 < x) (h2 : x ≤ p.2) : (widthOf p).filter (fun y => decide (y < x)) = widthOf (p.1, x - 1) := by
  unfold widthOf rng
  rw [List.filter_map]
  congr 1
  have e : (p.2 + 1 - p.1).toNat = (x - p.1).toNat + (p.2 + 1 - x).toNat := by omega
  have e2 : (x - 1 + 1 - p.1).toNat = (x - p.1).toNat := by congr 1; omega
  show (List.range (p.2 + 1 - p.1).toNat).filter _ = List.range (x - 1 + 1 - p.1).toNat
  rw [e, e2, List.range_add, List.filter_append]
  have h3 : (List.range (x - p.1).toNat).filter ((fun y => decide (y < x)) ∘ fun i : Nat => p.1 + (i : Int)) = List.range (x - p.1).toNat := by
    rw [List.filter_eq_self]
    intro i hi
    have := List.mem_range.mp hi
    show decide (p.1 + (i : Int) < x) = true
    exact decide_eq_true (by omega)
  rw [h3]
  have h4 : ((List.range (p.2 + 1 - x).toNat).map fun y => (x - p.1).toNat + y).filter ((fun y => decide (y < x)) ∘ fun i : Nat => p.1 + (i : Int)) = [] := by
    rw [List.filter_eq_nil_iff]
    intro i hi
    obtain ⟨j, _, rfl⟩ := List.mem_map.mp hi
    show ¬ decide (p.1 + (((x - p.1).toNat + j : Nat) : Int) < x) = true
    rw [decide_eq_true_eq]
    omega
  rw [h4, List.append_nil]
theorem width_ge (p : Int × Int) (x : Int) (h1 : p.1 < x) (h2 : x ≤ p.2) : (widthOf p).filter (fun y => decide (x ≤ y)) = widthOf (x, p.2) := by
  unfold widthOf rng
  rw [List.filter_map]
  have e : (p.2 + 1 - p.1).toNat = (x - p.1).toNat + (p.2 + 1 - x).toNat := by omega
  show List.map _ ((List.range (p.2 + 1 - p.1).toNat).filter _) = List.map _ (List.range (p.2 + 1 - x).toNat)
  rw [e, List.range_add, List.filter_append]
  have h3 : (List.range (x - p.1).toNat).filter ((fun y => decide (x ≤ y)) ∘ fun i : Nat => p.1 + (i : Int)) = [] := by
    rw [List.filter_eq_nil_iff]
    intro i hi
    have := List.mem_range.mp hi
    show ¬ decide (x ≤ p.1 + (i : Int)) = true
    rw [decide_eq_true_eq]
    omega
  have h4 : ((List.range (p.2 + 1 - x).toNat).map fun y => (x - p.1).toNat + y).filter ((fun y => decide (x ≤ y)) ∘ fun i : Nat => p.1 + (i : Int)) = (List.range (p.2 + 1 - x).toNat).map fun y => (x - p.1).toNat + y := by
    rw [List.filter_eq_self]
    intro i hi
    obtain ⟨j, _, rfl⟩ := List.mem_map.mp hi
    show decide (x ≤ p.1 + (((x - p.1).toNat + j : Nat) : Int)) = true
    exact decide_eq_true (by omega)
  rw [h3, h4, List.nil_append, List.map_map]
  congr 1
  funext j
  show p.1 + (((x - p.1).toNat + j : Nat) : Int) = x + (j : Int)
  omega
end K40
end
section
set_option Elab.async false
set_option linter.all false
set_option maxRecDepth 100000
set_option maxHeartbeats 4000000
namespace K40
open PySem FF L2
/-! ### _law_cell, _law_draws -/
theorem s_29 (R : Rec) (ns : List Int) : ∃ c : Int, runB N_29.length (m_29 R) [.list (ns.map .int), .int 0] = some (.ok (.int c)) := by
  cases ns with
  | nil => exact ⟨0, by simp [e_run, m_29, start0, N_29]⟩
  | cons n ns =>
    refine ⟨n, ?_⟩
    have h : (0 : Int) < (ns.length : Int) + 1 := by omega
    have e : atI (PyData.int n :: ns.map .int) 0 = some (.int n) := atI_nat _ 0 (by simp)
    simp [e_run, m_29, start0, N_29, h, e]
theorem for_30 (cell : Int) : ∀ (is : List Int) (acc : List Int) (rest : Int) (e4 e5 : Ent), acc.length + is.length ≤ 1000 →
    ∃ (out : List Int) (a3 a4 a5 : Ent), out.length = acc.length + is.length ∧ forD (aName 4) (sSeq (sSetV 5 (mOp2 bMod (mB1 gInt (mCons (mOp2 bAdd (mOp2 bAdd (mOp2 bMul (mVar 0) (mPure (.int 48271))) (mOp2 bMul (mVar 4) (mPure (.int 69621)))) (mPure (.int 1))) mNil)) (mPure (.int 2147483647))))
  (sSeq (sIf (mB (mOp2 cGe (mVar 0) (mOp2 bPow (mPure (.int 10)) (mPure (.int 18))))) (sSeq (sApp 2 (mOp2 bMod (mVar 3) (mPure (.int 1009))))
  (sSeq (sSetV 3 (mOp2 bDiv (mVar 3) (mPure (.int 1009))))
  sNil)) (sSeq (sApp 2 (mOp2 bDiv (mOp2 bMod (mB1 gInt (mCons (mOp2 bAdd (mOp2 bMul (mVar 5) (mVar 5)) (mOp2 bMul (mVar 5) (mPure (.int 40692)))) mNil)) (mPure (.int 2147483399))) (mPure (.int 7))))
  sNil))
  sNil)) (is.map .int) [.v (.int cell), .v (.int 200), .l false (acc.map .int), .v (.int rest), e4, e5] = some (.nx, [.v (.int cell), .v (.int 200), .l false (out.map .int), a3, a4, a5])
  | [], acc, rest, e4, e5, _ => ⟨acc, _, e4, e5, by simp, rfl⟩
  | i :: is, acc, rest, e4, e5, hl => by
    have hl2 : acc.length + is.length + 1 ≤ 1000 := by simpa [Nat.add_assoc] using hl
    have ha : acc.length < 1000000 := by omega
    generalize hm : (cell * 48271 + i * 69621 + 1) % 2147483647 = m
    have hm1 : 0 ≤ m := by rw [← hm]; exact Int.emod_nonneg _ (by decide)
    have hm2 : m < 2147483647 := by rw [← hm]; exact Int.emod_lt_of_pos _ (by decide)
    have c1 : (-18446744073709551616 < m ∧ m < 18446744073709551616) := ⟨by omega, by omega⟩
    by_cases hc : (1000000000000000000 : Int) ≤ cell
    · obtain ⟨out, a3, a4, a5, ho, ih⟩ := for_30 cell is (acc ++ [rest % 1009]) (rest / 1009) (.v (.int i)) (.v (.int m)) (by rw [List.length_append]; simp; omega)
      refine ⟨out, a3, a4, a5, by rw [ho, List.length_append]; simp; omega, ?_⟩
      simp only [List.map_cons]
      unfold forD
      simp [hm, hc, ha]
      rw [List.map_append] at ih
      exact ih
    · obtain ⟨out, a3, a4, a5, ho, ih⟩ := for_30 cell is (acc ++ [(m * m + m * 40692) % 2147483399 / 7]) rest (.v (.int i)) (.v (.int m)) (by rw [List.length_append]; simp; omega)
      refine ⟨out, a3, a4, a5, by rw [ho, List.length_append]; simp; omega, ?_⟩
      simp only [List.map_cons]
      unfold forD
      simp [hm, hc, ha, c1]
      rw [List.map_append] at ih
      exact ih
theorem s_30 (R : Rec) (cell : Int) : ∃ out : List Int, out.length = 200 ∧ runB N_30.length (m_30 R) [.int cell, .int 200] = some (.ok (.list (out.map .int))) := by
  obtain ⟨out, a3, a4, a5, ho, h⟩ := for_30 cell (rng 0 200) [] cell .u .u (by rw [rng_len]; decide)
  refine ⟨out, by rw [ho, rng_len]; rfl, ?_⟩
  have h1 : inRg 200 = true := by decide
  have e3 : rangeD 0 200 = (rng 0 200).map .int := rangeD_eq _ _
  simp [e_run, m_30, start0, N_30, h1, e3]
  simp at h
  rw [h]
  simp
/-! ### _law_power -/
theorem for_37 (N0 : D) : ∀ (is : List Int) (acc : Int) (e2 : Ent), ∃ a2, forD (aName 2) (sSeq (sSetV 1 (mOp2 bMul (mVar 1) (mPure (.int 2)))) sNil) (is.map .int) [.v N0, .v (.int acc), e2] = some (.nx, [.v N0, .v (.int (acc * 2 ^ is.length)), a2])
  | [], acc, e2 => ⟨e2, by simp⟩
  | i :: is, acc, e2 => by
    obtain ⟨a2, ih⟩ := for_37 N0 is (acc * 2) (.v (.int i))
    refine ⟨a2, ?_⟩
    simp only [List.map_cons]
    unfold forD
    simp
    rw [ih]
    simp [Int.pow_succ, Int.mul_assoc, Int.mul_comm]
theorem s_37 (R : Rec) (x : Int) (h1 : inRg x = true) : runB N_37.length (m_37 R) [.int x] = some (.ok (.int (2 ^ x.toNat))) := by
  obtain ⟨a2, h⟩ := for_37 (.int x) (rng 0 x.toNat) 1 .u
  have e3 : rangeD 0 x.toNat = (rng 0 x.toNat).map .int := rangeD_eq _ _
  rw [rng_len, Int.one_mul] at h
  generalize (2 : Int) ^ x.toNat = y at h ⊢
  simp [e_run, m_37, start0, N_37, h1, e3, h]
/-! ### sets of bits -/
def maskN (ks : List Nat) : Nat := (ks.map fun k => 2 ^ k).sum
theorem maskN_cons (k : Nat) (ks : List Nat) : maskN (k :: ks) = 2 ^ k + maskN ks := by simp [maskN]
theorem mask_div : ∀ (ks : List Nat) (s : Nat), (∀ k ∈ ks, s ≤ k) → ∃ a, maskN ks = 2 ^ s * a
  | [], s, _ => ⟨0, by simp [maskN]⟩
  | k :: ks, s, h => by
    obtain ⟨a, ha⟩ := mask_div ks s fun q hq => h q (List.mem_cons_of_mem _ hq)
    have hk := h k List.mem_cons_self
    refine ⟨2 ^ (k - s) + a, ?_⟩
    rw [maskN_cons, ha, Nat.mul_add, ← Nat.pow_add, Nat.add_sub_cancel' hk]
theorem mask_bit : ∀ (ks : List Nat), ks.Pairwise (· < ·) → ∀ j, (maskN ks).testBit j = decide (j ∈ ks)
  | [], _, j => by simp [maskN]
  | k :: ks, h, j => by
    obtain ⟨h1, h2⟩ := List.pairwise_cons.mp h
    have ih := mask_bit ks h2
    obtain ⟨a, ha⟩ := mask_div ks (k + 1) fun q hq => h1 q hq
    have hb : 2 ^ k < 2 ^ (k + 1) := Nat.pow_lt_pow_right (by decide) (Nat.lt_succ_self k)
    rw [maskN_cons, Nat.add_comm, ha, Nat.testBit_two_pow_mul_add a hb j]
    by_cases hj : j < k + 1
    · rw [if_pos hj, Nat.testBit_two_pow]
      by_cases e : k = j
      · simp [e]
      · have hn : j ∉ ks := fun z => by have := h1 j z; omega
        have : ¬ j = k := fun z => e z.symm
        simp [e, this, hn]
    · rw [if_neg hj]
      have := ih j
      rw [ha, Nat.testBit_two_pow_mul] at this
      have hge : k + 1 ≤ j := by omega
      have e2 : ¬ j = k := by omega
      rw [decide_eq_true hge, Bool.true_and] at this
      rw [this]
      simp [e2]
theorem mask_lt : ∀ (ks : List Nat) (n : Nat), ks.Pairwise (· < ·) → (∀ k ∈ ks, k < n) → maskN ks < 2 ^ n := fun ks n h hn => by
  apply Nat.lt_pow_two_of_testBit
  intro i hi
  rw [mask_bit ks h]
  exact decide_eq_false fun z => by have := hn i z; omega
end K40
end
section
set_option Elab.async false
set_option linter.all false
set_option maxRecDepth 100000
set_option maxHeartbeats 4000000
namespace K40
open PySem FF L2
def nI (k : Nat) : D := .int (k : Int)
theorem bitOr_nat (a b : Nat) : Builtin.bitOr (a : Int) (b : Int) = ((a ||| b : Nat) : Int) := by
  unfold Builtin.bitOr Builtin.bitNot Builtin.bitAnd
  have h1 : ¬ (0 ≤ -(a : Int) - 1) := by omega
  have h2 : ¬ (0 ≤ -(b : Int) - 1) := by omega
  rw [decide_eq_false h1, decide_eq_false h2]
  dsimp only
  unfold Builtin.bitNot
  have e1 : (-(-(a : Int) - 1) - 1).toNat = a := by omega
  have e2 : (-(-(b : Int) - 1) - 1).toNat = b := by omega
  rw [e1, e2]
  omega
theorem or_top (m k : Nat) (h : m < 2 ^ k) : m ||| 2 ^ k = m + 2 ^ k := by
  have := Nat.two_pow_add_eq_or_of_lt h 1
  rw [Nat.mul_one] at this
  rw [Nat.or_comm, ← this, Nat.add_comm]
theorem shl_one (k : Nat) (h : k ≤ 1000) : bShl (.int 1) (.int (k : Int)) = some (nI (2 ^ k)) := by
  rw [e_shlI, if_pos (decide_eq_true ⟨by omega, by omega, by decide⟩)]
  unfold nI
  rw [Int.toNat_natCast, Int.one_mul, Int.natCast_pow]
  rfl
theorem for_20 (X : D) : ∀ (ks : List Nat) (m : Nat) (e2 : Ent), ks.Pairwise (· < ·) → (∀ k ∈ ks, k ≤ 1000 ∧ m < 2 ^ k) → ∃ a2, forD (aName 2) (sSeq (sSetV 1 (mOp2 bOr (mVar 1) (mOp2 bShl (mPure (.int 1)) (mVar 2)))) sNil) (ks.map nI) [.v X, .v (nI m), e2] = some (.nx, [.v X, .v (nI (m + maskN ks)), a2])
  | [], m, e2, _, _ => ⟨e2, by simp [maskN]⟩
  | k :: ks, m, e2, hp, h => by
    obtain ⟨p1, p2⟩ := List.pairwise_cons.mp hp
    obtain ⟨h1, h2⟩ := h k List.mem_cons_self
    obtain ⟨a2, ih⟩ := for_20 X ks (m + 2 ^ k) (.v (nI k)) p2 fun q hq => by
      have hq2 := p1 q hq
      refine ⟨(h q (List.mem_cons_of_mem _ hq)).1, ?_⟩
      have : 2 ^ (k + 1) ≤ 2 ^ q := Nat.pow_le_pow_right (by decide) hq2
      rw [Nat.pow_succ] at this
      omega
    refine ⟨a2, ?_⟩
    rw [maskN_cons, ← Nat.add_assoc]
    have hs := shl_one k h1
    have ho : bOr (nI m) (nI (2 ^ k)) = some (nI (m + 2 ^ k)) := by
      rw [← or_top m k h2]
      show some (PyData.int (Builtin.bitOr _ _)) = _
      rw [bitOr_nat]
      rfl
    generalize 2 ^ k = q at hs ho ih ⊢
    simp only [List.map_cons]
    unfold forD
    have hk : nI k = .int (k : Int) := rfl
    rw [← hk] at hs
    simp [hs, ho]
    exact ih
theorem s_20 (R : Rec) (ks : List Nat) (hp : ks.Pairwise (· < ·)) (h : ∀ k ∈ ks, k ≤ 1000) : runB N_20.length (m_20 R) [.tuple (ks.map nI)] = some (.ok (nI (maskN ks))) := by
  obtain ⟨a2, e⟩ := for_20 (.tuple (ks.map nI)) ks 0 .u hp fun k hk => ⟨h k hk, Nat.two_pow_pos k⟩
  rw [Nat.zero_add] at e
  generalize maskN ks = m at e ⊢
  have e0 : nI 0 = .int 0 := rfl
  rw [e0] at e
  simp [e_run, m_20, start0, N_20, e]
/-! ### the set bits in order -/
theorem risingN : ∀ (xs ys : List Nat), xs.Pairwise (· < ·) → ys.Pairwise (· < ·) → (∀ k, k ∈ xs ↔ k ∈ ys) → xs = ys
  | [], [], _, _, _ => rfl
  | [], y :: ys, _, _, h => absurd ((h y).mpr List.mem_cons_self) (by simp)
  | x :: xs, [], _, _, h => absurd ((h x).mp List.mem_cons_self) (by simp)
  | x :: xs, y :: ys, h1, h2, h => by
    obtain ⟨a1, b1⟩ := List.pairwise_cons.mp h1
    obtain ⟨a2, b2⟩ := List.pairwise_cons.mp h2
    have e : x = y := by
      rcases List.mem_cons.mp ((h x).mp List.mem_cons_self) with e | hx
      · exact e
      · rcases List.mem_cons.mp ((h y).mpr List.mem_cons_self) with e | hy
        · exact e.symm
        · have := a1 y hy
          have := a2 x hx
          omega
    subst e
    rw [risingN xs ys b1 b2 fun k => ⟨fun hk => ?_, fun hk => ?_⟩]
    · rcases List.mem_cons.mp ((h k).mp (List.mem_cons_of_mem _ hk)) with e | z
      · subst e; exact absurd (a1 k hk) (by omega)
      · exact z
    · rcases List.mem_cons.mp ((h k).mpr (List.mem_cons_of_mem _ hk)) with e | z
      · subst e; exact absurd (a2 k hk) (by omega)
      · exact z
theorem bits_of (ks : List Nat) (n : Nat) (hp : ks.Pairwise (· < ·)) (h : ∀ k ∈ ks, k < n) : (List.range n).filter (fun i => (maskN ks).testBit i) = ks := by
  refine risingN _ _ (List.Pairwise.filter _ List.pairwise_lt_range) hp fun k => ?_
  rw [List.mem_filter, mask_bit ks hp, decide_eq_true_eq, List.mem_range]
  exact ⟨fun z => z.2, fun z => ⟨h k z, z⟩⟩
theorem bits_bound (m : Nat) : m < 2 ^ Builtin.Int.intBits (m : Int) := by
  unfold Builtin.Int.intBits
  by_cases h : m = 0
  · subst h; decide
  · have h2 : ((m : Int) == 0) = false := by simp [h]
    rw [h2, if_neg (by decide), Int.natAbs_natCast]
    exact Nat.lt_log2_self
theorem bits_le (m n : Nat) (h : m < 2 ^ n) : Builtin.Int.intBits (m : Int) ≤ n := by
  unfold Builtin.Int.intBits
  by_cases h0 : m = 0
  · subst h0; simp
  · have h2 : ((m : Int) == 0) = false := by simp [h0]
    rw [h2, if_neg (by decide), Int.natAbs_natCast]
    exact (Nat.log2_lt h0).mpr h
theorem mem_bits (ks : List Nat) (hp : ks.Pairwise (· < ·)) : ∀ k ∈ ks, k < Builtin.Int.intBits (maskN ks : Int) := fun k hk => by
  have hb := bits_bound (maskN ks)
  have ht : (maskN ks).testBit k = true := by rw [mask_bit ks hp]; exact decide_eq_true hk
  apply Classical.byContradiction
  intro hn
  have : maskN ks < 2 ^ k := Nat.lt_of_lt_of_le hb (Nat.pow_le_pow_right (by decide) (by omega))
  rw [Nat.testBit_lt_two_pow this] at ht
  cases ht
/-! ### numbers_of -/
def pBit (m : Nat) (d : D) : Bool := match d with
  | .int k => m.testBit k.toNat
  | _ => false
theorem shr_nat (m k : Nat) : bShr (nI m) (nI k) = some (nI (m / 2 ^ k)) := by
  unfold nI
  rw [e_shrI, if_pos (decide_eq_true (by omega))]
  rw [Int.toNat_natCast, Int.natCast_ediv, Int.natCast_pow]
  rfl
theorem and_one (m : Nat) : bAnd (nI m) (.int 1) = some (nI (m % 2)) := by
  show some (PyData.int (Builtin.bitAnd (m : Int) 1)) = _
  rw [PyProof.Rows.bitAnd_m1]
  rfl
theorem range_nI (n : Nat) : rangeD 0 n = (List.range n).map nI := by
  unfold rangeD nI
  congr 1
  funext i
  rw [Int.zero_add]
theorem test_turn (m k : Nat) (X : Ent) : mTru (mOp2 bAnd (mOp2 bShr (mVar 0) (mVar 1)) (mPure (.int 1))) [.v (nI m), .v (nI k)] = some (.ok (m.testBit k), [.v (nI m), .v (nI k)]) := by
  have h1 := shr_nat m k
  rw [Nat.testBit_eq_decide_div_mod_eq]
  generalize m / 2 ^ k = q at h1 ⊢
  have h2 := and_one q
  have h3 : cTru (nI (q % 2)) = some (decide (q % 2 = 1)) := by
    rcases Nat.mod_two_eq_zero_or_one q with e | e <;> rw [e] <;> rfl
  simp [h1, h2, h3]
theorem turns_21 (ks : List Nat) (hp : ks.Pairwise (· < ·)) (h : ∀ k ∈ ks, k < 64) : turnsD [1] (aName 1) (mTru (mOp2 bAnd (mOp2 bShr (mVar 0) (mVar 1)) (mPure (.int 1)))) (mVar 1) (rangeD 0 (Builtin.Int.intBits (maskN ks : Int))) [] [.v (nI (maskN ks)), .u] = some (ks.map nI, [.v (nI (maskN ks)), .u]) := by
  have hn : Builtin.Int.intBits (maskN ks : Int) ≤ 64 := bits_le _ _ (mask_lt ks 64 hp h)
  have hm := mem_bits ks hp
  have hb := bits_of ks _ hp hm
  generalize Builtin.Int.intBits (maskN ks : Int) = n at hn hb ⊢
  rw [range_nI, turns_fm (i := 1) rfl (f := id) (p := pBit (maskN ks))]
  · rw [List.filter_map, List.nil_append, List.map_id]
    have e : (List.range n).filter (pBit (maskN ks) ∘ nI) = (List.range n).filter (fun i => (maskN ks).testBit i) := by
      apply List.filter_congr
      intro i _
      show (maskN ks).testBit (i : Int).toNat = _
      rw [Int.toNat_natCast]
    rw [e, hb]
  · intro d hd
    obtain ⟨i, hi, rfl⟩ := List.mem_map.mp hd
    have := test_turn (maskN ks) i .u
    show mTru _ [.v (nI (maskN ks)), .v (nI i)] = _
    rw [this]
    show some (Res.ok ((maskN ks).testBit i), _) = some (Res.ok ((maskN ks).testBit (i : Int).toNat), _)
    rw [Int.toNat_natCast]
    rfl
  · intro d hd _
    rfl
  · rw [List.length_nil, List.length_map, List.length_range]
    omega
theorem bits_mir (m : Nat) : gBits (nI m) = some (nI (Builtin.Int.intBits (m : Int))) := rfl
theorem rg_mir (n : Nat) (h : n ≤ 64) : rg1 [nI n] = some (rangeD 0 n) := by
  unfold nI
  rw [e_rg1, if_pos (inRg_small (by omega) (by omega)), Int.toNat_natCast]
end K40
end
section
set_option Elab.async false
set_option linter.all false
set_option maxRecDepth 100000
set_option maxHeartbeats 4000000
namespace K40
open PySem FF L2
theorem lc_val {vs : List Nat} {Y : M (List D)} {g : AsD} {ft : M Bool} {fe : M D} {δ δ1 δ2 : Env'} {ds out : List D} (h : Y δ = some (.ok ds, δ1)) (ht : turnsD vs g ft fe ds [] (wipeD δ1 vs) = some (out, δ2)) : mLc vs Y g ft fe δ = some (.ok out, wipeD δ2 vs) := by
  rw [e_lc, e_bind, h]
  dsimp only
  rw [ht, Option.map_some]
theorem rg_val {g : List D → Option (List D)} {f : M D} {δ δ1 : Env'} {d : D} {ds : List D} (h : f δ = some (.ok d, δ1)) (hg : g [d] = some ds) : mRg g (mCons f mNil) δ = some (.ok ds, δ1) := by
  rw [e_rg, e_bind, e_cons, e_bind, h]
  simp [hg]
theorem bits_val {f : M D} {δ δ1 : Env'} {d e : D} (h : f δ = some (.ok d, δ1)) (hg : gBits d = some e) : mBits f δ = some (.ok e, δ1) := by
  rw [e_bits, e_bind, h]
  simp [hg]
theorem lc_21 (m n : Nat) (ks : List Nat) (hb : gBits (nI m) = some (nI n)) (hr : rg1 [nI n] = some (rangeD 0 n)) (ht : turnsD [1] (aName 1) (mTru (mOp2 bAnd (mOp2 bShr (mVar 0) (mVar 1)) (mPure (.int 1)))) (mVar 1) (rangeD 0 n) [] [.v (nI m), .u] = some (ks.map nI, [.v (nI m), .u])) : mLc [1] (mRg rg1 (mCons (mBits (mVar 0)) mNil)) (aName 1) (mTru (mOp2 bAnd (mOp2 bShr (mVar 0) (mVar 1)) (mPure (.int 1)))) (mVar 1) [.v (nI m), .u] = some (.ok (ks.map nI), [.v (nI m), .u]) :=
  by
  have h1 : mBits (mVar 0) [.v (nI m), .u] = some (.ok (nI n), [.v (nI m), .u]) := bits_val rfl hb
  have h2 : mRg rg1 (mCons (mBits (mVar 0)) mNil) [.v (nI m), .u] = some (.ok (rangeD 0 n), [.v (nI m), .u]) := rg_val h1 hr
  have e0 : wipeD [.v (nI m), .u] [1] = [.v (nI m), .u] := rfl
  rw [← e0] at ht
  have h3 := lc_val (vs := [1]) (g := aName 1) (fe := mVar 1) h2 ht
  rw [e0] at h3
  exact h3

theorem run_if_ret {n : Nat} {c : M Bool} {A : SM} {f : M D} {ds : List D} {δ1 δ2 : Env'} {v : D} (hc : c (start0 n ds) = some (.ok false, δ1)) (hf : f δ1 = some (.ok v, δ2)) : runB n (sSeq (sIf c A sNil) (sSeq (sRet f) sNil)) ds = some (.ok v) := by
  simp [e_run, hc, hf]
theorem not_val {c : M Bool} {δ δ1 : Env'} {b : Bool} (h : c δ = some (.ok b, δ1)) : tNotM c δ = some (.ok (!b), δ1) := by
  simp [h]
theorem tup_val {X : M (List D)} {δ δ1 : Env'} {xs : List D} (h : X δ = some (.ok xs, δ1)) : mB1 gTuple (mCons (mList X) mNil) δ = some (.ok (.tuple xs), δ1) := by
  simp [h]
theorem c8_val {g : List D → Option (Res D)} {δ : Env'} {d : D} {b : Bool} (h0 : δ[0]? = some (.v d)) (h : g [d, .int 0] = some (.ok (.bool b))) : mTru (mCall 2 g [] (mCons (mVar 0) (mCons (mPure (.int 0)) mNil))) δ = some (.ok b, δ) := by
  simp [h0, h]
theorem c8h_val {g : List D → Option (Res D)} {δ : Env'} {d : D} {b : Bool} (h0 : δ[0]? = some (.v d)) (h : g [d, .int 0] = some (.ok (.bool b))) : mTru (mCallH 2 g (mCons (mVar 0) (mCons (mPure (.int 0)) mNil))) δ = some (.ok b, δ) := by
  simp [h0, h]
theorem core_21 (R : Rec) (m : Nat) (ks : List Nat) (h8 : R 8 [nI m, .int 0] = some (.ok (.bool true))) (hL : mLc [1] (mRg rg1 (mCons (mBits (mVar 0)) mNil)) (aName 1) (mTru (mOp2 bAnd (mOp2 bShr (mVar 0) (mVar 1)) (mPure (.int 1)))) (mVar 1) [.v (nI m), .u] = some (.ok (ks.map nI), [.v (nI m), .u])) : runB N_21.length (m_21 R) [nI m] = some (.ok (.tuple (ks.map nI))) := by
  unfold m_21
  exact run_if_ret (δ1 := [.v (nI m), .u]) (not_val (c8_val rfl h8)) (tup_val hL)
theorem li_21 (ks : List Nat) (hp : ks.Pairwise (· < ·)) (h : ∀ k ∈ ks, k < 64) : mLc [1] (mRg rg1 (mCons (mBits (mVar 0)) mNil)) (aName 1) (mTru (mOp2 bAnd (mOp2 bShr (mVar 0) (mVar 1)) (mPure (.int 1)))) (mVar 1) [.v (nI (maskN ks)), .u] = some (.ok (ks.map nI), [.v (nI (maskN ks)), .u]) := by
  have ht := turns_21 ks hp h
  have hn : Builtin.Int.intBits (maskN ks : Int) ≤ 64 := bits_le _ _ (mask_lt ks 64 hp h)
  exact lc_21 (maskN ks) (Builtin.Int.intBits (maskN ks : Int)) ks (bits_mir (maskN ks)) (rg_mir (Builtin.Int.intBits (maskN ks : Int)) hn) ht
theorem one_21 (g : List D → Option (Res D)) (hR : ∀ n low : Int, g [.int n, .int low] = some (.ok (.bool (decide (low ≤ n))))) (m : Nat) : g [nI m, .int 0] = some (.ok (.bool true)) := by
    have := hR m 0
    rw [decide_eq_true (by omega)] at this
    exact this
theorem s_21 (R : Rec) (hR : H8 R) (ks : List Nat) (hp : ks.Pairwise (· < ·)) (h : ∀ k ∈ ks, k < 64) : runB N_21.length (m_21 R) [nI (maskN ks)] = some (.ok (.tuple (ks.map nI))) :=
  core_21 R _ ks (one_21 (R 8) hR.1 _) (li_21 ks hp h)
theorem s_21_er (R : Rec) (d : D) (h8 : R 8 [d, .int 0] = some (.ok (.bool false))) : runB N_21.length (m_21 R) [d] = some (.er "BadSet") := by
  unfold m_21
  generalize mLc [1] (mRg rg1 (mCons (mBits (mVar 0)) mNil)) (aName 1) (mTru (mOp2 bAnd (mOp2 bShr (mVar 0) (mVar 1)) (mPure (.int 1)))) (mVar 1) = X
  simp [e_run, start0, N_21, h8]
theorem sh_21 (R : Rec) (hR : ∀ n low : Int, R 1008 [.int n, .int low] = some (.ok (.bool (decide (low ≤ n))))) (ks : List Nat) (hp : ks.Pairwise (· < ·)) (h : ∀ k ∈ ks, k < 64) : runB N_21.length (mh_21 R) [nI (maskN ks)] = some (.ok (.tuple (ks.map nI))) := by
  unfold mh_21
  exact run_if_ret (δ1 := [.v (nI (maskN ks)), .u]) (not_val (c8h_val rfl (one_21 (R 1008) hR _))) (tup_val (li_21 ks hp h))
/-! ### _law_figures -/
theorem for_36 (m : Nat) (X : D) : ∀ (n s : Nat) (acc : List Nat) (e3 : Ent), acc.length + n ≤ 1000 → ∃ a2 a3, forD (aName 3) (sSeq (sIf (mB (mOp2 (gB cEq id) (mOp2 bMod (mB1 gInt (mCons (mVar 2) mNil)) (mPure (.int 2))) (mPure (.int 1)))) (sSeq (sApp 1 (mVar 3)) sNil) sNil) (sSeq (sSetV 2 (mOp2 bDiv (mVar 2) (mPure (.int 2)))) sNil))
      ((List.range' s n).map nI) [.v X, .l false (acc.map nI), .v (nI (m / 2 ^ s)), e3] = some (.nx, [.v X, .l false ((acc ++ (List.range' s n).filter (fun i => m.testBit i)).map nI), a2, a3])
  | 0, s, acc, e3, _ => ⟨_, e3, by simp; rfl⟩
  | n + 1, s, acc, e3, hl => by
    have e4 : m / 2 ^ s / 2 = m / 2 ^ (s + 1) := by rw [Nat.div_div_eq_div_mul, Nat.pow_succ]
    rw [List.range'_succ]
    have hq : (m.testBit s) = decide (m / 2 ^ s % 2 = 1) := Nat.testBit_eq_decide_div_mod_eq
    have hd : ∀ q : Nat, bDiv (nI q) (.int 2) = some (nI (q / 2)) := fun q => rfl
    have hmd : ∀ q : Nat, bMod (nI q) (.int 2) = some (nI (q % 2)) := fun q => rfl
    have hgi : ∀ q : Nat, gInt [nI q] = some (nI q) := fun q => rfl
    have hce : ∀ q : Nat, cEq (nI q) (.int 1) = some (decide (q = 1)) := fun q => by
      show some (decide ((q : Int) = 1)) = _
      congr 1
      exact decide_eq_decide.mpr (by omega)
    have ha : acc.length < 1000000 := by omega
    by_cases hb : m / 2 ^ s % 2 = 1
    · obtain ⟨a2, a3, ih⟩ := for_36 m X n (s + 1) (acc ++ [s]) (.v (nI s)) (by rw [List.length_append]; simp; omega)
      refine ⟨a2, a3, ?_⟩
      rw [← e4] at ih
      rw [List.filter_cons, if_pos (by rw [hq]; exact decide_eq_true hb)]
      generalize m / 2 ^ s = q at hb ih ⊢
      simp only [List.map_cons]
      unfold forD
      simp [hd, hmd, hgi, hce, hb, ha]
      simp at ih
      exact ih
    · obtain ⟨a2, a3, ih⟩ := for_36 m X n (s + 1) acc (.v (nI s)) (by omega)
      refine ⟨a2, a3, ?_⟩
      rw [← e4] at ih
      rw [List.filter_cons, if_neg (by rw [hq, decide_eq_false hb]; decide)]
      generalize m / 2 ^ s = q at hb ih ⊢
      simp only [List.map_cons]
      unfold forD
      simp [hd, hmd, hgi, hce, hb, ha]
      simp at ih
      exact ih
theorem sh_36 (R : Rec) (ks : List Nat) (hp : ks.Pairwise (· < ·)) (h : ∀ k ∈ ks, k < 64) : runB N_36.length (mh_36 R) [nI (maskN ks)] = some (.ok (.list (ks.map nI))) := by
  obtain ⟨a2, a3, e⟩ := for_36 (maskN ks) (nI (maskN ks)) 64 0 [] .u (by decide)
  rw [Nat.pow_zero, Nat.div_one, ← List.range_eq_range', List.nil_append, bits_of ks 64 hp h] at e
  have hr : rg1 [.int 64] = some ((List.range 64).map nI) := by
    rw [← range_nI]
    rfl
  generalize maskN ks = m at e ⊢
  generalize (List.range 64).map nI = L64 at e hr
  have hG : mRg rg1 (mCons (mPure (.int 64)) mNil) [.v (nI m), .l false [], .v (nI m), .u] = some (.ok L64, [.v (nI m), .l false [], .v (nI m), .u]) := by
    rw [e_rg, e_bind, e_cons, e_bind, e_pure]
    show mOpt (rg1 [.int 64]) _ = _
    rw [hr]
    rfl
  unfold mh_36
  generalize mRg rg1 (mCons (mPure (.int 64)) mNil) = Y at hG ⊢
  generalize (sSeq (sIf (mB (mOp2 (gB cEq id) (mOp2 bMod (mB1 gInt (mCons (mVar 2) mNil)) (mPure (.int 2))) (mPure (.int 1)))) (sSeq (sApp 1 (mVar 3)) sNil) sNil) (sSeq (sSetV 2 (mOp2 bDiv (mVar 2) (mPure (.int 2)))) sNil)) = Z at e ⊢
  simp at e
  simp [e_run, start0, N_36, hG, e]
end K40
end
section
set_option Elab.async false
set_option linter.all false
set_option maxRecDepth 100000
set_option maxHeartbeats 4000000
/-! value lemmas: what a mirror computes, part by part -/
namespace FF
open PySem L2
section
variable {α β : Type} {δ δ1 δ2 δ3 : Env'}
theorem v_var {i : Nat} {d : D} (h : δ[i]? = some (.v d)) : mVar i δ = some (.ok d, δ) := by
  rw [e_var, h]
theorem v_own {i : Nat} {xs : List D} (h : δ[i]? = some (.l false xs)) : mVar i δ = some (.ok (.list xs), δ.set i (.v (.list xs))) := by
  rw [e_var, h]
theorem v_pure {a : α} : mPure a δ = some (.ok a, δ) := nr rfl
theorem v_nil : mNil δ = some (.ok [], δ) := nr rfl
theorem v_cons {f : M D} {g : M (List D)} {a : D} {r : List D} (h : f δ = some (.ok a, δ1)) (hg : g δ1 = some (.ok r, δ2)) : mCons f g δ = some (.ok (a :: r), δ2) := by
  rw [e_cons, e_bind, h]
  dsimp only
  rw [e_bind, hg]
  rfl
theorem v_opt {o : Option α} {a : α} (h : o = some a) : mOpt o δ = some (.ok a, δ) := by rw [h]; rfl
theorem v_op2 {g : D → D → Option D} {fa fb : M D} {a b c : D} (h : fa δ = some (.ok a, δ1)) (hb : fb δ1 = some (.ok b, δ2)) (hg : g a b = some c) : mOp2 g fa fb δ = some (.ok c, δ2) := by
  rw [e_op2, e_bind, h]
  dsimp only
  rw [e_bind, hb]
  exact v_opt hg
theorem v_b1 {g : List D → Option D} {f : M (List D)} {ds : List D} {d : D} (h : f δ = some (.ok ds, δ1)) (hg : g ds = some d) : mB1 g f δ = some (.ok d, δ1) := by
  rw [e_b1, e_bind, h]
  exact v_opt hg
theorem v_rg {g : List D → Option (List D)} {f : M (List D)} {ds es : List D} (h : f δ = some (.ok ds, δ1)) (hg : g ds = some es) : mRg g f δ = some (.ok es, δ1) := by
  rw [e_rg, e_bind, h]
  exact v_opt hg
theorem v_items {f : M D} {d : D} {es : List D} (h : f δ = some (.ok d, δ1)) (hg : itemsOf d = some es) : mItems f δ = some (.ok es, δ1) := by
  rw [e_items, e_bind, h]
  exact v_opt hg
theorem v_tup {f : M (List D)} {ds : List D} (h : f δ = some (.ok ds, δ1)) (hl : ds.length ≤ 1000000) : mTup f δ = some (.ok (.tuple ds), δ1) := by
  rw [e_tup, e_bind, h]
  exact v_opt (if_pos hl)
theorem v_lst {f : M (List D)} {ds : List D} (h : f δ = some (.ok ds, δ1)) (hl : ds.length ≤ 1000000) : mLst f δ = some (.ok ds, δ1) := by
  rw [e_lst, e_bind, h]
  exact v_opt (if_pos hl)
theorem v_list {f : M (List D)} {ds : List D} (h : f δ = some (.ok ds, δ1)) : mList f δ = some (.ok (.list ds), δ1) := by
  rw [e_list, e_bind, h]
  rfl
theorem v_sortU {f : M D} {d : D} {ds : List D} (h : f δ = some (.ok d, δ1)) (hg : gSortU d = some ds) : mSortU f δ = some (.ok ds, δ1) := by
  unfold mSortU
  rw [e_bind, h]
  exact v_opt hg
theorem v_none {fl : M (Option Int)} (h : fl = mPure none) : fl δ = some (.ok none, δ) := by rw [h]; rfl
theorem v_part {f : M D} {i : Int} (h : f δ = some (.ok (.int i), δ1)) : mPart f δ = some (.ok (some i), δ1) := by
  rw [e_part, e_bind, h]
  rfl
theorem v_sl {fa : M D} {fl fh : M (Option Int)} {a c : D} {lo hi : Option Int} (h : fa δ = some (.ok a, δ1)) (hl : fl δ1 = some (.ok lo, δ2)) (hh : fh δ2 = some (.ok hi, δ3)) (hg : gSl a lo hi = some c) : mSl fa fl fh δ = some (.ok c, δ3) := by
  rw [e_sl, e_bind, h]
  dsimp only
  rw [e_bind, hl]
  dsimp only
  rw [e_bind, hh]
  exact v_opt hg
theorem v_call {n : Nat} {g : List D → Option (Res D)} {f : M (List D)} {ds : List D} {r : Res D} (h : f δ = some (.ok ds, δ1)) (hn : ds.length = n) (hg : g ds = some r) : mCall n g [] f δ = some (r, δ1) := by
  rw [e_call, e_bind, h]
  dsimp only
  rw [List.append_nil, if_pos hn, hg]
  rfl
theorem v_callH {n : Nat} {g : List D → Option (Res D)} {f : M (List D)} {ds : List D} {d : D} (h : f δ = some (.ok ds, δ1)) (hn : ds.length = n) (hg : g ds = some (.ok d)) : mCallH n g f δ = some (.ok d, δ1) := by
  rw [e_callH, e_bind, h]
  dsimp only
  rw [if_pos hn, hg]
theorem v_lc {vs : List Nat} {Y : M (List D)} {g : AsD} {ft : M Bool} {fe : M D} {ds out : List D} (h : Y δ = some (.ok ds, δ1)) (ht : turnsD vs g ft fe ds [] (wipeD δ1 vs) = some (out, δ2)) : mLc vs Y g ft fe δ = some (.ok out, wipeD δ2 vs) := by
  rw [e_lc, e_bind, h]
  dsimp only
  rw [ht, Option.map_some]
theorem v_mB {f : M D} {b : Bool} (h : f δ = some (.ok (.bool b), δ1)) : mB f δ = some (.ok b, δ1) := by
  rw [e_mB, e_bind, h]
  rfl
theorem v_orT {fa fb : M Bool} (h : fa δ = some (.ok true, δ1)) : tOrM fa fb δ = some (.ok true, δ1) := by
  rw [e_tor, e_bind, h]
  rfl
theorem v_orF {fa fb : M Bool} {r : Option (Res Bool × Env')} (h : fa δ = some (.ok false, δ1)) (hb : fb δ1 = r) : tOrM fa fb δ = r := by
  rw [e_tor, e_bind, h]
  exact hb
theorem v_andF {fa fb : M Bool} (h : fa δ = some (.ok false, δ1)) : tAndM fa fb δ = some (.ok false, δ1) := by
  rw [e_tand, e_bind, h]
  rfl
theorem v_andT {fa fb : M Bool} {r : Option (Res Bool × Env')} (h : fa δ = some (.ok true, δ1)) (hb : fb δ1 = r) : tAndM fa fb δ = r := by
  rw [e_tand, e_bind, h]
  exact hb
theorem v_not {f : M Bool} {b : Bool} (h : f δ = some (.ok b, δ1)) : tNotM f δ = some (.ok (!b), δ1) := by
  rw [e_tnot, e_bind, h]
  rfl
theorem v_ne {fa fb : M D} {a b : D} (h : fa δ = some (.ok a, δ1)) (hb : fb δ1 = some (.ok b, δ2)) (hg : cEq a b = some true) : mB (mOp2 (gB cEq not) fa fb) δ = some (.ok false, δ2) := by
  refine v_mB (v_op2 h hb ?_)
  rw [e_gB, hg]
  rfl
theorem v_chainF {g g' : D → D → Option D} {fa fb fc : M D} {a b : D} (h : fa δ = some (.ok a, δ1)) (hb : fb δ1 = some (.ok b, δ2)) (hg : g a b = some (.bool false)) : mChain g g' fa fb fc δ = some (.ok (.bool false), δ2) := by
  rw [e_chain, e_bind, h]
  dsimp only
  rw [e_bind, hb]
  dsimp only
  rw [hg]
  rfl
theorem v_chainT {g g' : D → D → Option D} {fa fb fc : M D} {a b c d : D} (h : fa δ = some (.ok a, δ1)) (hb : fb δ1 = some (.ok b, δ2)) (hg : g a b = some (.bool true)) (hc : fc δ2 = some (.ok c, δ3)) (hg' : g' b c = some d) : mChain g g' fa fb fc δ = some (.ok d, δ3) := by
  rw [e_chain, e_bind, h]
  dsimp only
  rw [e_bind, hb]
  dsimp only
  rw [hg]
  show mBind fc (fun c => mOpt (g' b c)) δ2 = _
  rw [e_bind, hc]
  exact v_opt hg'
/-! statements -/
theorem n_seq {f g : SM} {r : Option (Out × Env')} (h : f δ = some (.nx, δ1)) (hg : g δ1 = r) : sSeq f g δ = r := by
  rw [e_sseq, h]
  exact hg
theorem n_one {f : SM} {r : Option (Out × Env')} (h : f δ = r) : sSeq f sNil δ = r := by
  rw [e_sseq, h]
  split
  · rw [e_snil]
  · rfl
theorem n_setV {i : Nat} {f : M D} {d : D} (h : f δ = some (.ok d, δ1)) : sSetV i f δ = some (.nx, δ1.set i (.v d)) := by
  rw [e_setV, h]
theorem n_setVe {i : Nat} {f : M D} {c : String} (h : f δ = some (.er c, δ1)) : sSetV i f δ = some (.er c, δ1) := by
  rw [e_setV, h]
theorem n_setL {i : Nat} {f : M (List D)} {d : List D} (h : f δ = some (.ok d, δ1)) : sSetL i f δ = some (.nx, δ1.set i (.l false d)) := by
  rw [e_setL, h]
theorem n_asg {g : AsD} {f : M D} {d : D} (h : f δ = some (.ok d, δ1)) (hg : g d δ1 = some δ2) : sAsg g f δ = some (.nx, δ2) := by
  rw [e_asg, h]
  dsimp only
  rw [hg]
  rfl
theorem n_app {i : Nat} {f : M D} {d : D} {io : Bool} {ys : List D} {io2 : Bool} {xs : List D} (h0 : δ[i]? = some (.l io2 ys)) (h : f δ = some (.ok d, δ1)) (h1 : δ1[i]? = some (.l io xs)) (hl : xs.length < 1000000) : sApp i f δ = some (.nx, δ1.set i (.l io (xs ++ [d]))) := by
  rw [e_app, h0]
  dsimp only
  rw [h]
  dsimp only
  rw [h1]
  dsimp only
  rw [if_pos hl]
theorem n_ifT {t : M Bool} {f g : SM} {r : Option (Out × Env')} (h : t δ = some (.ok true, δ1)) (hf : f δ1 = r) : sIf t f g δ = r := by
  rw [e_sif, h]
  exact hf
theorem n_ifF {t : M Bool} {f g : SM} {r : Option (Out × Env')} (h : t δ = some (.ok false, δ1)) (hf : g δ1 = r) : sIf t f g δ = r := by
  rw [e_sif, h]
  exact hf
theorem n_skip {t : M Bool} {f : SM} (h : t δ = some (.ok false, δ1)) : sIf t f sNil δ = some (.nx, δ1) := n_ifF h e_snil
theorem n_ret {f : M D} {d : D} (h : f δ = some (.ok d, δ1)) : sRet f δ = some (.rt d, δ1) := by
  rw [e_sret, h]
theorem n_dropE {f : M D} {c : String} (h : f δ = some (.er c, δ1)) : sDrop f δ = some (.er c, δ1) := by
  rw [e_sdrop, h]
theorem n_for {fi : M (List D)} {g : AsD} {fb : SM} {ds : List D} {r : Option (Out × Env')} (h : fi δ = some (.ok ds, δ1)) (hf : forD g fb ds δ1 = r) : sFor fi g fb δ = r := by
  rw [e_sfor, h]
  exact hf
theorem n_tryN {fb fs : SM} {ct : String → Option Bool} (h : fb δ = some (.nx, δ1)) : sTry fb ct fs δ = some (.nx, δ1) := by
  rw [e_stry, h]
theorem n_tryE {fb fs : SM} {ct : String → Option Bool} {c : String} {o : Out} (h : fb δ = some (.er c, δ1)) (hc : ct c = some true) (hs : fs δ1 = some (o, δ2)) (ho : ∀ c', o ≠ .er c') : sTry fb ct fs δ = some (o, δ2) := by
  rw [e_stry, h]
  dsimp only
  rw [hc]
  dsimp only
  rw [hs]
  cases o <;> first | rfl | exact absurd rfl (ho _)
theorem n_seqR {f g : SM} {d : D} (h : f δ = some (.rt d, δ1)) : sSeq f g δ = some (.rt d, δ1) := by
  rw [e_sseq, h]
theorem n_seqE {f g : SM} {c : String} (h : f δ = some (.er c, δ1)) : sSeq f g δ = some (.er c, δ1) := by
  rw [e_sseq, h]
theorem n_run {n : Nat} {f : SM} {ds : List D} {d : D} (h : f (start0 n ds) = some (.rt d, δ1)) : runB n f ds = some (.ok d) := by
  rw [e_run, h]
def Fin' (d : D) (x : Option (Out × Env')) : Prop := ∃ δ', x = some (.rt d, δ')
theorem p_seq {f g : SM} {d : D} (h : f δ = some (.nx, δ1)) (hg : Fin' d (g δ1)) : Fin' d (sSeq f g δ) := by
  obtain ⟨δ', hg⟩ := hg
  exact ⟨δ', n_seq h hg⟩
theorem p_run {n : Nat} {f : SM} {ds : List D} {d : D} (h : Fin' d (f (start0 n ds))) : runB n f ds = some (.ok d) := by
  obtain ⟨δ', h⟩ := h
  exact n_run h
theorem forD_cons {g : AsD} {fb : SM} {d : D} {ds : List D} {r : Option (Out × Env')} (hg : g d δ = some δ1) (hb : fb δ1 = some (.nx, δ2)) (hr : forD g fb ds δ2 = r) : forD g fb (d :: ds) δ = r := by
  simp only [forD, hg, hb, Option.bind_some]
  exact hr
end
end FF
end
section
set_option Elab.async false
set_option linter.all false
set_option maxRecDepth 100000
set_option maxHeartbeats 4000000
namespace K40
open PySem FF L2
/-! ### law: the draws -/
def OD (out : List Int) : D := .list (out.map .int)
def o (out : List Int) (i : Nat) : Int := out.getD i 0
theorem at_out (out : List Int) (hl : out.length = 200) (i : Nat) (hi : i < 200) : gIdx (OD out) (.int (i : Int)) = some (.int (o out i)) := by
  unfold OD o
  rw [e_idxL, atI_nat _ _ (by rw [List.length_map]; omega), List.getElem?_map, List.getD_eq_getElem?_getD, List.getElem?_eq_getElem (by omega)]
  rfl
theorem pick {out : List Int} (hl : out.length = 200) {δ : Env'} {fi : M D} {x : Int} (i : Nat) (h1 : δ[1]? = some (.v (OD out))) (hf : fi δ = some (.ok (.int x), δ)) (hx : x = (i : Int)) (hi : i < 200) : mB1 gInt (mCons (mOp2 gIdx (mVar 1) fi) mNil) δ = some (.ok (.int (o out i)), δ) := by
  subst hx
  exact v_b1 (v_cons (v_op2 (v_var h1) hf (at_out out hl i hi)) v_nil) (e_gInt _)
theorem modI (i j : Int) (h : 0 < j) : bMod (.int i) (.int j) = some (.int (i % j)) := by
  rw [e_modI, if_pos (decide_eq_true h)]
theorem pickM {out : List Int} (hl : out.length = 200) {δ : Env'} {fi fj : M D} {x j : Int} (i : Nat) (h1 : δ[1]? = some (.v (OD out))) (hf : fi δ = some (.ok (.int x), δ)) (hx : x = (i : Int)) (hi : i < 200) (hj : fj δ = some (.ok (.int j), δ)) (h0 : 0 < j) : mOp2 bMod (mB1 gInt (mCons (mOp2 gIdx (mVar 1) fi) mNil)) fj δ = some (.ok (.int (o out i % j)), δ) :=
  v_op2 (pick hl i h1 hf hx hi) hj (modI _ _ h0)
/-! ### the box -/
def hiO (out : List Int) (t : Int) (k : Nat) : Int := if t - 1 < o out (3 + k) % t + o out (6 + k) % 5 then t - 1 else o out (3 + k) % t + o out (6 + k) % 5
def loO (out : List Int) (t : Int) (k : Nat) : Int := o out (3 + k) % t
def boxL (out : List Int) (t : Int) (m : Nat) : List (Int × Int) := (List.range m).map fun k => (loO out t k, hiO out t k)
theorem lo_hi (out : List Int) (t : Int) (k : Nat) (ht : 2 ≤ t ∧ t ≤ 64) : 0 ≤ loO out t k ∧ loO out t k ≤ hiO out t k ∧ hiO out t k ≤ t - 1 ∧ hiO out t k ≤ loO out t k + 4 := by
  unfold hiO loO
  have h1 := Int.emod_nonneg (o out (3 + k)) (show t ≠ 0 by omega)
  have h2 := Int.emod_lt_of_pos (o out (3 + k)) (show 0 < t by omega)
  have h3 := Int.emod_nonneg (o out (6 + k)) (show (5 : Int) ≠ 0 by omega)
  have h4 := Int.emod_lt_of_pos (o out (6 + k)) (show (0 : Int) < 5 by omega)
  split <;> omega
theorem boxL_len (out : List Int) (t : Int) (m : Nat) : (boxL out t m).length = m := by simp [boxL]
theorem boxL_mem {out : List Int} {t : Int} {m : Nat} {p : Int × Int} (ht : 2 ≤ t ∧ t ≤ 64) (h : p ∈ boxL out t m) : 0 ≤ p.1 ∧ p.1 ≤ p.2 ∧ p.2 ≤ t - 1 ∧ p.2 ≤ p.1 + 4 := by
  obtain ⟨k, _, rfl⟩ := List.mem_map.mp h
  exact lo_hi out t k ht
theorem boxOk_of {b : List (Int × Int)} (h : ∀ p ∈ b, 0 ≤ p.1 ∧ p.1 ≤ 64 ∧ -1 ≤ p.2 ∧ p.2 ≤ 64 ∧ p.2 ≤ p.1 + 4) : BoxOk b 5 := by
  refine ⟨fun p hp => ?_, fun p hp => ?_⟩
  · have := h p hp
    omega
  · have := h p hp
    unfold widthOf
    rw [rng_len]
    omega
theorem fit5 (m : Nat) (h : m ≤ 4) : Fit [[]] m 5 := by
  refine ⟨fun r hr => ?_, ?_⟩
  · rw [List.mem_singleton] at hr
    subst hr
    simp
    omega
  · rw [List.length_singleton, Nat.one_mul]
    exact Nat.le_trans (Nat.pow_le_pow_right (by decide) h) (by decide)
theorem prod_fit : ∀ (b : List (Int × Int)) (rows : List (List Int)) (w : Nat), BoxOk b w → Fit rows b.length w → Fit (prodR rows b) 0 w
  | [], rows, w, _, h => h
  | p :: b, rows, w, hb, h => by
    rw [prodR_cons]
    exact prod_fit b _ w hb.tl (h.step (hb.wd p List.mem_cons_self))
theorem prod_small {b : List (Int × Int)} (hb : BoxOk b 5) (hl : b.length ≤ 4) : (prodR [[]] b).length ≤ 10000 := by
  have := (prod_fit b [[]] 5 hb (fit5 _ hl)).many
  simpa using this
theorem minI (i j : Int) : gMin [.int i, .int j] = some (.int (if j < i then j else i)) := e_gMin i j
abbrev body5 : SM := (sSeq (sSetV 7 (mOp2 bMod (mB1 gInt (mCons (mOp2 gIdx (mVar 1) (mOp2 bAdd (mPure (.int 3)) (mVar 6))) mNil)) (mVar 2)))
  (sSeq (sApp 5 (mTup (mCons (mVar 7) (mCons (mB1 gMin (mCons (mOp2 bAdd (mVar 7) (mOp2 bMod (mB1 gInt (mCons (mOp2 gIdx (mVar 1) (mOp2 bAdd (mPure (.int 6)) (mVar 6))) mNil)) (mPure (.int 5)))) (mCons (mOp2 bSub (mVar 2) (mPure (.int 1))) mNil))) mNil))))
  sNil))
theorem body_5 {out : List Int} (hl : out.length = 200) {t : Int} (ht : 2 ≤ t ∧ t ≤ 64) (k : Nat) (hk : k < 10) (acc : List (Int × Int)) (ha : acc.length ≤ 100) (a0 a3 a4 e7 : Ent) (rest : List Ent) :
    body5 (a0 :: .v (OD out) :: .v (.int t) :: a3 :: a4 :: .l false (acc.map pairD) :: .v (nI k) :: e7 :: rest) = some (.nx, a0 :: .v (OD out) :: .v (.int t) :: a3 :: a4 :: .l false ((acc ++ [(loO out t k, hiO out t k)]).map pairD) :: .v (nI k) :: .v (.int (loO out t k)) :: rest) := by
  refine n_seq (n_setV (pickM hl (3 + k) rfl (v_op2 v_pure (v_var rfl) (e_addI 3 (k : Int))) (by omega) (by omega) (v_var rfl) (by omega))) ?_
  refine n_one ?_
  rw [n_app (d := pairD (loO out t k, hiO out t k)) (i := 5) (xs := acc.map pairD) (io := false) (io2 := false) rfl (v_tup (v_cons (v_var rfl) (v_cons (v_b1 (v_cons (v_op2 (v_var rfl) (pickM hl (6 + k) rfl (v_op2 v_pure (v_var rfl) (e_addI 6 (k : Int))) (by omega) (by omega) v_pure (by decide)) (e_addI _ _)) (v_cons (v_op2 (v_var rfl) v_pure (e_subI _ _)) v_nil)) (minI _ _)) v_nil)) (show (2 : Nat) ≤ 1000000 by decide)) rfl (by rw [List.length_map]; omega)]
  rw [List.map_append]
  rfl
theorem for_5 {out : List Int} (hl : out.length = 200) {t : Int} (ht : 2 ≤ t ∧ t ≤ 64) (a0 a3 a4 : Ent) (rest : List Ent) : ∀ (n s : Nat) (acc : List (Int × Int)) (e6 e7 : Ent), s + n ≤ 10 → acc.length + n ≤ 100 → ∃ a6 a7,
    forD (aName 6) body5 ((List.range' s n).map nI) (a0 :: .v (OD out) :: .v (.int t) :: a3 :: a4 :: .l false (acc.map pairD) :: e6 :: e7 :: rest) = some (.nx, a0 :: .v (OD out) :: .v (.int t) :: a3 :: a4 :: .l false ((acc ++ (List.range' s n).map fun k => (loO out t k, hiO out t k)).map pairD) :: a6 :: a7 :: rest)
  | 0, s, acc, e6, e7, _, _ => ⟨e6, e7, by simp⟩
  | n + 1, s, acc, e6, e7, h1, h2 => by
    obtain ⟨a6, a7, ih⟩ := for_5 hl ht a0 a3 a4 rest n (s + 1) (acc ++ [(loO out t s, hiO out t s)]) (.v (nI s)) (.v (.int (loO out t s))) (by omega) (by rw [List.length_append]; simp; omega)
    refine ⟨a6, a7, ?_⟩
    rw [List.range'_succ, List.map_cons, List.map_cons]
    refine forD_cons rfl (body_5 hl ht s (by omega) acc (by omega) a0 a3 a4 e7 rest) ?_
    rw [ih, List.append_assoc]
    rfl
end K40
end
section
set_option Elab.async false
set_option linter.all false
set_option maxRecDepth 100000
set_option maxHeartbeats 4000000
namespace K40
open PySem FF L2
theorem gs {δ : Env'} {i j : Nat} {a : Ent} {x : Option Ent} (h : i ≠ j) (hx : δ[j]? = x) : (δ.set i a)[j]? = x := by
  rw [List.getElem?_set_ne h, hx]
theorem gs0 {δ : Env'} {i : Nat} {a : Ent} (h : i < δ.length) : (δ.set i a)[i]? = some a := List.getElem?_set_self h
theorem ss {δ : Env'} {i : Nat} {a : Ent} : (δ.set i a).set i a = δ.set i a := List.set_set ..
section
variable {out : List Int} (hl : out.length = 200) {t : Int} (ht : 2 ≤ t ∧ t ≤ 64) {m : Nat} (hm : m < 4) {δ : Env'}
include hl
theorem st2 (h1 : δ[1]? = some (.v (OD out))) (e1 : o out 1 % 63 + 2 = t) (e2 : o out 2 % 4 = (m : Int)) :
    sAsg (aTup (aCons (aName 2) (aCons (aName 3) aNil))) (mTup (mCons (mOp2 bAdd (mOp2 bMod (mB1 gInt (mCons (mOp2 gIdx (mVar 1) (mPure (.int 1))) mNil)) (mPure (.int 63))) (mPure (.int 2))) (mCons (mOp2 bMod (mB1 gInt (mCons (mOp2 gIdx (mVar 1) (mPure (.int 2))) mNil)) (mPure (.int 4))) mNil))) δ = some (.nx, (δ.set 2 (.v (.int t))).set 3 (.v (.int m))) := by
  rw [← e1, ← e2]
  exact n_asg (v_tup (v_cons (v_op2 (pickM hl 1 h1 v_pure rfl (by decide) v_pure (by decide)) v_pure (e_addI _ _)) (v_cons (pickM hl 2 h1 v_pure rfl (by decide) v_pure (by decide)) v_nil)) (show (2 : Nat) ≤ 1000000 by decide)) rfl
omit hl in
include hm in
theorem st3 (h2 : δ[2]? = some (.v (.int t))) (h3 : δ[3]? = some (.v (.int m))) :
    sSetV 4 (mTup (mCons (mVar 2) (mCons (mSl (mTup (mCons (mPure (.str ("a" : Str))) (mCons (mPure (.str ("b" : Str))) (mCons (mPure (.str ("q" : Str))) mNil)))) (mPure none) (mPart (mVar 3))) (mCons (mTup mNil) (mCons (mTup (mCons (mTup (mCons (mPure (.str ("stop" : Str))) mNil)) mNil)) mNil))))) δ = some (.nx, δ.set 4 (.v (prog t m))) := by
  have hc : gSl (.tuple [.str ("a" : Str), .str ("b" : Str), .str ("q" : Str)]) none (some (m : Int)) = some (.tuple (nms m)) := by
    rw [e_slT, cut_lo _ _ (by simp; omega)]
    rfl
  exact n_setV (v_tup (v_cons (v_var h2) (v_cons (v_sl (v_tup (v_cons v_pure (v_cons v_pure (v_cons v_pure v_nil))) (show (3 : Nat) ≤ 1000000 by decide)) v_pure (v_part (v_var h3)) hc) (v_cons (v_tup v_nil (show (0 : Nat) ≤ 1000000 by decide)) (v_cons (v_tup (v_cons (v_tup (v_cons v_pure v_nil) (show (1 : Nat) ≤ 1000000 by decide)) v_nil) (show (1 : Nat) ≤ 1000000 by decide)) v_nil)))) (show (4 : Nat) ≤ 1000000 by decide))
omit hl in
theorem rg_nI (n : Nat) (h : n ≤ 1000) : rg1 [.int (n : Int)] = some ((List.range n).map nI) := by
  rw [e_rg1, if_pos (inRg_small (by omega) (by omega)), Int.toNat_natCast, range_nI]
/-- values of a list drawn by number -/
theorem lc_draw (v : Nat) (b n : Nat) (hb : b + n ≤ 200) (hv : v < δ.length) (hv1 : v ≠ 1) {fj : M D} {j : Int} (h0 : 0 < j) (h1 : δ[1]? = some (.v (OD out))) (hj : ∀ k, fj ((δ.set v .u).set v (.v (nI k))) = some (.ok (.int j), (δ.set v .u).set v (.v (nI k)))) {Y : M (List D)} (hY : Y δ = some (.ok ((List.range n).map nI), δ)) :
    mLc [v] Y (aName v) (mPure true) (mOp2 bMod (mB1 gInt (mCons (mOp2 gIdx (mVar 1) (mOp2 bAdd (mPure (.int b)) (mVar v))) mNil)) fj) δ = some (.ok (((List.range n).map fun k => o out (b + k) % j).map .int), δ.set v .u) := by
  have e : wipeD δ [v] = δ.set v .u := rfl
  have key := turns_map (i := v) (δ := δ.set v .u) ss (fe := mOp2 bMod (mB1 gInt (mCons (mOp2 gIdx (mVar 1) (mOp2 bAdd (mPure (.int b)) (mVar v))) mNil)) fj) (f := fun d => match d with
    | .int k => .int (o out (b + k.toNat) % j)
    | _ => .none) ((List.range n).map nI) [] (fun d hd => by
      obtain ⟨k, hk, rfl⟩ := List.mem_map.mp hd
      have hk2 := List.mem_range.mp hk
      have hlen : v < (δ.set v .u).length := by rw [List.length_set]; exact hv
      have := pickM hl (b + k) (gs hv1 (gs hv1 h1)) (v_op2 v_pure (v_var (gs0 hlen)) (e_addI b (k : Int))) (by omega) (by omega) (hj k) h0
      exact this) (by rw [List.length_nil, List.length_map, List.length_range]; omega)
  rw [← e] at key
  have := v_lc hY key
  rw [this, e]
  show some (Res.ok _, (δ.set v .u).set v .u) = _
  rw [ss, List.nil_append, List.map_map, List.map_map]
  rfl
end
theorem eq_bool (b : Bool) : cEq (.bool b) (.bool b) = some true := by simp [cEq]
theorem eq_int (i : Int) : cEq (.int i) (.int i) = some true := by rw [e_eqI, decide_eq_true rfl]
theorem sh_whole (t : Int) (m : Nat) : SeqAt.shaped (wholeD t m) = true := by
  have e : wholeD t m = .tuple (((nms m).map fun _ => [0, t - 1]).map rowD) := by
    unfold wholeD
    rw [List.map_map]
    rfl
  rw [e]
  exact sh_rowsT _
/-- the facts that law takes from the functions it calls -/
structure Facts (R : Rec) : Prop where
  h33 : ∀ b : List (Int × Int), BoxOk b 5 → b.length ≤ 4 → R 33 [boxD b] = some (.ok (.list ((prodR [[]] b).map rowD)))
  h27 : ∀ b : List (Int × Int), BoxOk b 5 → b.length ≤ 4 → R 27 [boxD b] = some (.ok (.tuple ((prodR [[]] b).map rowD)))
  h24 : ∀ b : List (Int × Int), BoxOk b 5 → R 24 [boxD b] = some (.ok (.int (sizeR 1 b)))
  h23 : ∀ (t : Int) (m : Nat), 2 ≤ t → t ≤ 64 → m < 4 → R 23 [prog t m] = some (.ok (wholeD t m))
  h35 : ∀ (t : Int) (m : Nat), m < 4 → R 35 [prog t m] = some (.ok (wholeD t m))
  h18 : ∀ (t : Int) (m : Nat), 2 ≤ t → t < 9 → m < 3 → R 18 [prog t m] = some (.ok (.tuple ((powR [[]] t m).map rowD)))
  h31 : ∀ (t : Int) (m : Nat), 2 ≤ t → t < 9 → m < 3 → R 31 [prog t m] = some (.ok (.list ((powR [[]] t m).map rowD)))
  h25 : ∀ (b : List (Int × Int)) (xs : List Int), xs.length = b.length → R 25 [boxD b, rowD xs] = some (.ok (.bool (inB b xs)))
  h26e : ∀ (b : List (Int × Int)) (k : Nat) (x : Int), (b.length ≤ k ∨ ∃ p, b[k]? = some p ∧ ¬ (p.1 < x ∧ x ≤ p.2)) → R 26 [boxD b, .int k, .int x] = some (.er "BadInput")
  h26 : ∀ (b : List (Int × Int)) (k : Nat) (x : Int) (p : Int × Int), b.length ≤ 1000 → b[k]? = some p → p.1 < x → x ≤ p.2 → R 26 [boxD b, .int k, .int x] = some (.ok (.tuple [boxD (firstB b k (p.1, x - 1)), boxD (firstB b k (x, p.2))]))
  h29 : ∀ ns : List Int, ∃ c : Int, R 29 [.list (ns.map .int), .int 0] = some (.ok (.int c))
  h30 : ∀ c : Int, ∃ out : List Int, out.length = 200 ∧ R 30 [.int c, .int 200] = some (.ok (OD out))
  h37 : ∀ k : Nat, k < 64 → R 37 [nI k] = some (.ok (nI (2 ^ k)))
  h20 : ∀ ks : List Nat, ks.Pairwise (· < ·) → (∀ k ∈ ks, k < 64) → R 20 [.tuple (ks.map nI)] = some (.ok (nI (maskN ks)))
  h21 : ∀ ks : List Nat, ks.Pairwise (· < ·) → (∀ k ∈ ks, k < 64) → R 21 [nI (maskN ks)] = some (.ok (.tuple (ks.map nI)))
  h21n : ∀ z : Int, z < 0 → R 21 [.int z] = some (.er "BadSet")
  h21x : R 21 [.none] = some (.er "BadSet") ∧ R 21 [.str ("3" : Str)] = some (.er "BadSet") ∧ R 21 [.tuple [.int 1]] = some (.er "BadSet")
  g21 : ∀ ks : List Nat, ks.Pairwise (· < ·) → (∀ k ∈ ks, k < 64) → R 1021 [nI (maskN ks)] = some (.ok (.tuple (ks.map nI)))
  g36 : ∀ ks : List Nat, ks.Pairwise (· < ·) → (∀ k ∈ ks, k < 64) → R 1036 [nI (maskN ks)] = some (.ok (.list (ks.map nI)))
theorem fits (t : Int) (m : Nat) (h1 : 2 ≤ t) (h2 : t < 9) (hm : m < 3) : Fit [[]] m t.toNat ∧ t.toNat ^ m ≤ 5000 := by
  have a : t.toNat ≤ 8 := by omega
  have b : t.toNat ^ m ≤ 8 ^ 2 := Nat.le_trans (Nat.pow_le_pow_left a m) (Nat.pow_le_pow_right (by decide) (by omega))
  refine ⟨⟨fun r hr => ?_, ?_⟩, Nat.le_trans b (by decide)⟩
  · rw [List.mem_singleton] at hr
    subst hr
    simp
    omega
  · rw [List.length_singleton, Nat.one_mul]
    exact Nat.le_trans b (by decide)
theorem bad_8 (R : Rec) : runB N_8.length (m_8 R) [.none, .int 0] = some (.ok (.bool false)) ∧ runB N_8.length (m_8 R) [.str ("3" : Str), .int 0] = some (.ok (.bool false)) ∧ runB N_8.length (m_8 R) [.tuple [.int 1], .int 0] = some (.ok (.bool false)) := ⟨rfl, rfl, rfl⟩
theorem r8 (k : Nat) : H8 (run (k + 1)) := ⟨fun n low => by rw [run_8]; exact s_8 _ n low, fun n => by rw [run_8]; exact s_8n _ n⟩
theorem facts9 : Facts (run 9) where
  h33 b hb hl := by
    rw [run_33]
    refine s_33 _ (fun rows lo hi h1 h2 h3 => ?_) b 5 (by decide) hb (fit5 _ hl)
    rw [run_34]
    exact s_34 _ rows lo hi h1 h2 h3
  h27 b hb hl := by rw [run_27]; exact s_27 _ b 5 (by decide) hb (fit5 _ hl)
  h24 b hb := by rw [run_24]; exact s_24 _ b hb.sm
  h23 t m h1 h2 hm := by rw [run_23]; exact s_23 _ t m hm (s_16 t m h1 h2 hm)
  h35 t m hm := by rw [run_35]; exact s_35 _ t m hm
  h18 t m h1 h2 hm := by rw [run_18]; exact s_18 _ t m ⟨by omega, by omega⟩ (by omega) (fits t m h1 h2 hm).1 (fits t m h1 h2 hm).2
  h31 t m h1 h2 hm := by
    rw [run_31]
    refine s_31 _ (fun rows t h1 h2 h3 => ?_) t m ⟨by omega, by omega⟩ (by omega) (fits t m h1 h2 hm).1
    rw [run_32]
    exact s_32 _ rows t h1 h2 h3
  h25 b xs h := by rw [run_25]; exact s_25 _ b xs h
  h26e b k x h := by rw [run_26]; exact s_26_er _ (r8 7) b k x h
  h26 b k x p h1 h2 h3 h4 := by rw [run_26]; exact s_26_ok _ (r8 7) b k x p h1 h2 h3 h4
  h29 ns := by rw [run_29]; exact s_29 _ ns
  h30 c := by rw [run_30]; exact s_30 _ c
  h37 k h := by
    rw [run_37]
    have := s_37 (run 8) (k : Int) (inRg_small (by omega) (by omega))
    rw [Int.toNat_natCast] at this
    unfold nI
    rw [this, Int.natCast_pow]
    rfl
  h20 ks hp h := by rw [run_20]; exact s_20 _ ks hp fun k hk => by have := h k hk; omega
  h21 ks hp h := by rw [run_21]; exact s_21 _ (r8 7) ks hp h
  h21n z h := by
    rw [run_21]
    refine s_21_er _ _ ?_
    rw [(r8 7).1, decide_eq_false (by omega)]
  h21x := by
    rw [run_21]
    refine ⟨s_21_er _ _ ?_, s_21_er _ _ ?_, s_21_er _ _ ?_⟩ <;> rw [run_8]
    · exact (bad_8 _).1
    · exact (bad_8 _).2.1
    · exact (bad_8 _).2.2
  g21 ks hp h := by
    rw [runh_21]
    refine sh_21 _ (fun n low => ?_) ks hp h
    rw [runh_8]
    exact s_8 (run 7) n low
  g36 ks hp h := by rw [runh_36]; exact sh_36 _ ks hp h
end K40
end
section
set_option Elab.async false
set_option linter.all false
set_option maxRecDepth 100000
set_option maxHeartbeats 4000000
namespace K40
open PySem FF L2
section
variable {R : Rec} (F : Facts R) {out : List Int} (hl : out.length = 200) {t : Int} (ht : 2 ≤ t ∧ t ≤ 64) {m : Nat} (hm : m < 4) {δ : Env'}
include F
abbrev rowsB (b : List (Int × Int)) : List D := (prodR [[]] b).map rowD
theorem st8 {b : List (Int × Int)} (hb : BoxOk b 5) (hbl : b.length ≤ 4) (hb1 : ∀ p ∈ b, p.1 ≤ p.2 + 1) (ht : 2 ≤ t ∧ t ≤ 64) (hm : m < 4) (h5 : δ[5]? = some (.v (boxD b))) (h8 : δ[8]? = some (.v (.list (rowsB b)))) (h4 : δ[4]? = some (.v (prog t m))) (A : SM) :
    sIf (tOrM (mB (mOp2 (gB cEq not) (mCall 1 (R 27) [] (mCons (mVar 5) mNil)) (mB1 gTuple (mCons (mVar 8) mNil)))) (tOrM (mB (mOp2 (gB cEq not) (mCall 1 (R 24) [] (mCons (mVar 5) mNil)) (mB1 gLen (mCons (mVar 8) mNil)))) (mB (mOp2 (gB cEq not) (mCall 1 (R 23) [] (mCons (mVar 4) mNil)) (mCall 1 (R 35) [] (mCons (mVar 4) mNil)))))) A sNil δ = some (.nx, δ) := by
  have hs : cEq (.int (sizeR 1 b)) (.int ((rowsB b).length : Nat)) = some true := by
    have := size_len b [[]] hb1
    rw [List.length_map, ← this]
    exact eq_int _
  refine n_skip (v_orF (v_ne (v_call (v_cons (v_var h5) v_nil) rfl (F.h27 b hb hbl)) (v_b1 (v_cons (v_var h8) v_nil) (e_gTupL _)) (eq_self (sh_rowsT _))) (v_orF (v_ne (v_call (v_cons (v_var h5) v_nil) rfl (F.h24 b hb)) (v_b1 (v_cons (v_var h8) v_nil) (e_gLenL _)) hs) (v_ne (v_call (v_cons (v_var h4) v_nil) rfl (F.h23 t m ht.1 ht.2 hm)) (v_call (v_cons (v_var h4) v_nil) rfl (F.h35 t m hm)) (eq_self (sh_whole t m)))))
theorem st9 (ht : 2 ≤ t ∧ t ≤ 64) (hm : m < 4) (h2 : δ[2]? = some (.v (.int t))) (h3 : δ[3]? = some (.v (.int m))) (h4 : δ[4]? = some (.v (prog t m))) (A : SM) :
    sIf (tAndM (mB (mOp2 cLt (mVar 2) (mPure (.int 9)))) (tAndM (mB (mOp2 cLt (mVar 3) (mPure (.int 3)))) (mB (mOp2 (gB cEq not) (mCall 1 (R 18) [] (mCons (mVar 4) mNil)) (mB1 gTuple (mCons (mCall 1 (R 31) [] (mCons (mVar 4) mNil)) mNil)))))) A sNil δ = some (.nx, δ) := by
  have c1 := v_mB (v_op2 (v_var h2) v_pure (e_ltI t 9))
  have c2 := v_mB (v_op2 (v_var h3) v_pure (e_ltI (m : Int) 3))
  by_cases a : t < 9
  · rw [decide_eq_true a] at c1
    by_cases b : (m : Int) < 3
    · rw [decide_eq_true b] at c2
      have hm3 : m < 3 := by omega
      exact n_skip (v_andT c1 (v_andT c2 (v_ne (v_call (v_cons (v_var h4) v_nil) rfl (F.h18 t m ht.1 a hm3)) (v_b1 (v_cons (v_call (v_cons (v_var h4) v_nil) rfl (F.h31 t m ht.1 a hm3)) v_nil) (e_gTupL _)) (eq_self (sh_rowsT _)))))
    · rw [decide_eq_false b] at c2
      exact n_skip (v_andT c1 (v_andF c2))
  · rw [decide_eq_false a] at c1
    exact n_skip (v_andF c1)
theorem st11 {b : List (Int × Int)} {xs : List Int} (hx : xs.length = b.length) (h5 : δ[5]? = some (.v (boxD b))) (h8 : δ[8]? = some (.v (.list (rowsB b)))) (h9 : δ[9]? = some (.v (rowD xs))) (A : SM) :
    sIf (mB (mOp2 (gB cEq not) (mCall 2 (R 25) [] (mCons (mVar 5) (mCons (mVar 9) mNil))) (mOp2 (gB cIn id) (mVar 9) (mVar 8)))) A sNil δ = some (.nx, δ) := by
  have hi : gB cIn id (rowD xs) (.list (rowsB b)) = some (.bool (inB b xs)) := by
    have : decide (xs ∈ prodR [[]] b) = inB b xs := by
      have := mem_prod0 b xs hx
      cases e : inB b xs
      · exact decide_eq_false fun z => by rw [this.mp z] at e; cases e
      · exact decide_eq_true (this.mpr e)
    rw [e_gB, in_rows, this]
    rfl
  exact n_skip (v_ne (v_call (v_cons (v_var h5) (v_cons (v_var h9) v_nil)) rfl (F.h25 b xs hx)) (v_op2 (v_var h9) (v_var h8) hi) (eq_bool _))
end
/-! ### the halves -/
abbrev if15 (R : Rec) : SM := (sIf (tOrM (mB (mOp2 cGe (mVar 6) (mVar 3))) (tNotM (mB (mChain cLt cLe (mOp2 gIdx (mOp2 gIdx (mVar 5) (mVar 6)) (mPure (.int 0))) (mVar 10) (mOp2 gIdx (mOp2 gIdx (mVar 5) (mVar 6)) (mPure (.int 1))))))) (sSeq (sIf (mB (mOp2 cIsNot (mVar 11) (mPure .none))) (sSeq (sRet (mPure (.bool false)))
  sNil) sNil)
  sNil) (sSeq (sAsg (aTup (aCons (aName 12) (aCons (aName 13) aNil))) (mVar 11))
  (sSeq (sIf (tOrM (mB (mOp2 (gB cEq not) (mList (mLc [17] (mItems (mVar 8)) (aName 17) (mB (mOp2 cLt (mOp2 gIdx (mVar 17) (mVar 6)) (mVar 10))) (mVar 17))) (mCall 1 (R 33) [] (mCons (mVar 12) mNil)))) (mB (mOp2 (gB cEq not) (mList (mLc [17] (mItems (mVar 8)) (aName 17) (mB (mOp2 cGe (mOp2 gIdx (mVar 17) (mVar 6)) (mVar 10))) (mVar 17))) (mCall 1 (R 33) [] (mCons (mVar 13) mNil))))) (sSeq (sRet (mPure (.bool false)))
  sNil) sNil)
  sNil)))
abbrev try14 (R : Rec) : SM := (sTry (sSeq (sSetV 11 (mCall 3 (R 26) [] (mCons (mVar 5) (mCons (mVar 6) (mCons (mVar 10) mNil)))))
  sNil) catchBadInput (sSeq (sSetV 11 (mPure .none))
  sNil))
def pAt (q : Int → Bool) (k : Nat) (d : D) : Bool := match d with
  | .tuple ds => (match ds[k]? with
    | some (.int y) => q y
    | _ => false)
  | _ => false
theorem pAt_row (q : Int → Bool) (k : Nat) (r : List Int) (h : k < r.length) : pAt q k (rowD r) = q (r.getD k 0) := by
  unfold pAt rowD
  dsimp only
  rw [List.getElem?_map, List.getD_eq_getElem?_getD, List.getElem?_eq_getElem h]
  rfl
theorem filt_rows (q : Int → Bool) (k : Nat) : ∀ rows : List (List Int), (∀ r ∈ rows, k < r.length) → (rows.map rowD).filter (pAt q k) = (rows.filter fun r => q (r.getD k 0)).map rowD
  | [], _ => rfl
  | r :: rows, h => by
    rw [List.map_cons, List.filter_cons, List.filter_cons, pAt_row q k r (h r List.mem_cons_self), filt_rows q k rows fun s hs => h s (List.mem_cons_of_mem _ hs)]
    split <;> rfl
theorem at_row (r : List Int) (k : Nat) (h : k < r.length) : gIdx (rowD r) (.int (k : Int)) = some (.int (r.getD k 0)) := by
  unfold rowD
  rw [e_idxT, atI_nat _ _ (by rw [List.length_map]; exact h), List.getElem?_map, List.getD_eq_getElem?_getD, List.getElem?_eq_getElem h]
  rfl
/-- the rows on one side -/
theorem lc_side {c : D → D → Option D} {q : Int → Int → Bool} (hc : ∀ i j : Int, c (.int i) (.int j) = some (.bool (q i j))) {δ : Env'} (h17 : 17 < δ.length) {rows : List (List Int)} {k : Nat} {x : Int} (hr : ∀ r ∈ rows, k < r.length) (hz : rows.length ≤ 1000000) (h8 : δ[8]? = some (.v (.list (rows.map rowD)))) (h6 : δ[6]? = some (.v (.int k))) (h10 : δ[10]? = some (.v (.int x))) :
    mList (mLc [17] (mItems (mVar 8)) (aName 17) (mB (mOp2 c (mOp2 gIdx (mVar 17) (mVar 6)) (mVar 10))) (mVar 17)) δ = some (.ok (.list ((rows.filter fun r => q (r.getD k 0) x).map rowD)), δ.set 17 .u) := by
  have e : wipeD δ [17] = δ.set 17 .u := rfl
  have hlen : 17 < (δ.set 17 .u).length := by rw [List.length_set]; exact h17
  have key := turns_fm (i := 17) (δ := δ.set 17 .u) ss (ft := mB (mOp2 c (mOp2 gIdx (mVar 17) (mVar 6)) (mVar 10))) (fe := mVar 17) (f := id) (p := pAt (fun y => q y x) k) (rows.map rowD) [] (fun d hd => by
    obtain ⟨r, hr1, rfl⟩ := List.mem_map.mp hd
    rw [pAt_row _ _ _ (hr r hr1)]
    exact v_mB (v_op2 (v_op2 (v_var (gs0 hlen)) (v_var (gs (by decide) (gs (by decide) h6))) (at_row r k (hr r hr1))) (v_var (gs (by decide) (gs (by decide) h10))) (hc _ _))) (fun d hd _ => v_var (gs0 hlen)) (by rw [List.length_nil, List.length_map]; omega)
  rw [← e] at key
  have := v_list (v_lc (v_items (v_var h8) (e_itL _)) key)
  rw [this, e]
  show some (Res.ok _, (δ.set 17 .u).set 17 .u) = _
  rw [ss, List.nil_append, List.map_id, filt_rows _ _ _ hr]
theorem rows_len {b : List (Int × Int)} : ∀ r ∈ prodR [[]] b, r.length = b.length := fun r hr => by
  have := prodR_lenr b [[]] 0 (fun r hr => by rw [List.mem_singleton] at hr; subst hr; rfl) r hr
  omega
theorem firstB_len {b : List (Int × Int)} {k : Nat} (p : Int × Int) (h : k < b.length) : (firstB b k p).length = b.length := by
  unfold firstB
  rw [List.length_append, List.length_cons, List.length_take, List.length_drop]
  omega
theorem firstB_mem {b : List (Int × Int)} {k : Nat} {p q : Int × Int} (h : q ∈ firstB b k p) : q = p ∨ q ∈ b := by
  unfold firstB at h
  rcases List.mem_append.mp h with h | h
  · exact .inr (List.mem_of_mem_take h)
  · rcases List.mem_cons.mp h with h | h
    · exact .inl h
    · exact .inr (List.mem_of_mem_drop h)
theorem at_box (b : List (Int × Int)) (k : Nat) (p : Int × Int) (h : b[k]? = some p) : gIdx (boxD b) (.int (k : Int)) = some (pairD p) := by
  unfold boxD
  have hk := (List.getElem?_eq_some_iff.mp h).1
  rw [e_idxT, atI_nat _ _ (by rw [List.length_map]; exact hk), List.getElem?_map, h]
  rfl
theorem at_p0 (p : Int × Int) : gIdx (pairD p) (.int 0) = some (.int p.1) := rfl
theorem at_p1 (p : Int × Int) : gIdx (pairD p) (.int 1) = some (.int p.2) := rfl
theorem st14 {R : Rec} (F : Facts R) {δ : Env'} (hlen : 18 < δ.length) {b : List (Int × Int)} (hbb : ∀ p ∈ b, 0 ≤ p.1 ∧ p.1 ≤ p.2 ∧ p.2 ≤ 64 ∧ p.2 ≤ p.1 + 4) {m : Nat} (hbl : b.length = m) (hm : m < 4) {k : Nat} {x : Int} (h3 : δ[3]? = some (.v (.int m))) (h5 : δ[5]? = some (.v (boxD b))) (h6 : δ[6]? = some (.v (.int k))) (h8 : δ[8]? = some (.v (.list (rowsB b)))) (h10 : δ[10]? = some (.v (.int x))) (h11 : δ[11]? = some (.v .none)) (G : SM) (r : D) (hG : ∀ δ' : Env', δ'.length = δ.length → δ'[1]? = δ[1]? → Fin' r (G δ')) :
    Fin' r (sSeq (try14 R) (sSeq (if15 R) G) δ) := by
  have cge := v_mB (v_op2 (v_var h6) (v_var h3) (e_geI (k : Int) (m : Int)))
  by_cases hk : m ≤ k
  · rw [decide_eq_true (by omega)] at cge
    refine p_seq (δ1 := δ.set 11 (.v .none)) (n_tryE (n_seqE (n_setVe (v_call (v_cons (v_var h5) (v_cons (v_var h6) (v_cons (v_var h10) v_nil))) rfl (F.h26e b k x (.inl (by omega)))))) rfl (n_one (n_setV v_pure)) (fun c h => by cases h)) ?_
    have cge2 := v_mB (v_op2 (v_var (δ := δ.set 11 (.v .none)) (gs (i := 11) (by decide) h6)) (v_var (gs (by decide) h3)) (e_geI (k : Int) (m : Int)))
    rw [decide_eq_true (by omega)] at cge2
    refine p_seq (n_ifT (v_orT cge2) (n_one (n_skip (v_mB (v_op2 (v_var (gs0 (by omega))) v_pure rfl))))) ?_
    exact hG _ (by rw [List.length_set]) (gs (by decide) rfl)
  · have hkb : k < b.length := by omega
    obtain ⟨p, hp⟩ : ∃ p, b[k]? = some p := ⟨_, List.getElem?_eq_getElem hkb⟩
    have hpm : p ∈ b := List.mem_of_getElem? hp
    have hpp := hbb p hpm
    by_cases hin : p.1 < x ∧ x ≤ p.2
    · have n1 := firstB_len (p.1, x - 1) hkb
      have n2 := firstB_len (x, p.2) hkb
      have ok1 : BoxOk (firstB b k (p.1, x - 1)) 5 := boxOk_of fun q hq => by
        rcases firstB_mem hq with rfl | hq
        · refine ⟨?_, ?_, ?_, ?_, ?_⟩ <;> dsimp only <;> omega
        · have := hbb q hq
          omega
      have ok2 : BoxOk (firstB b k (x, p.2)) 5 := boxOk_of fun q hq => by
        rcases firstB_mem hq with rfl | hq
        · refine ⟨?_, ?_, ?_, ?_, ?_⟩ <;> dsimp only <;> omega
        · have := hbb q hq
          omega
      have ok0 : BoxOk b 5 := boxOk_of fun q hq => by
        have := hbb q hq
        omega
      have hz : (prodR [[]] b).length ≤ 1000000 := Nat.le_trans (prod_small ok0 (by omega)) (by decide)
      have hr : ∀ r ∈ prodR [[]] b, k < r.length := fun r hr => by rw [rows_len r hr]; exact hkb
      refine p_seq (n_tryN (n_one (n_setV (v_call (v_cons (v_var h5) (v_cons (v_var h6) (v_cons (v_var h10) v_nil))) rfl (F.h26 b k x p (by omega) hp hin.1 hin.2))))) ?_
      generalize hd : δ.set 11 (.v (.tuple [boxD (firstB b k (p.1, x - 1)), boxD (firstB b k (x, p.2))])) = δ1
      have g (j : Nat) (e : Option Ent) (hj : 11 ≠ j) (he : δ[j]? = e) : δ1[j]? = e := by rw [← hd]; exact gs hj he
      have l1 : δ1.length = δ.length := by rw [← hd, List.length_set]
      have g11 : δ1[11]? = some (.v (.tuple [boxD (firstB b k (p.1, x - 1)), boxD (firstB b k (x, p.2))])) := by rw [← hd]; exact gs0 (by omega)
      have cge2 := v_mB (v_op2 (v_var (g 6 _ (by decide) h6)) (v_var (g 3 _ (by decide) h3)) (e_geI (k : Int) (m : Int)))
      rw [decide_eq_false (by omega)] at cge2
      have cl : cLt (.int p.1) (.int x) = some (.bool true) := by rw [e_ltI, decide_eq_true hin.1]
      have cr : cLe (.int x) (.int p.2) = some (.bool true) := by rw [e_leI, decide_eq_true hin.2]
      have i0 : ∀ i : Int, ∀ d : D, gIdx (pairD p) (.int i) = some d → mOp2 gIdx (mOp2 gIdx (mVar 5) (mVar 6)) (mPure (.int i)) δ1 = some (.ok d, δ1) := fun i d hd => v_op2 (v_op2 (v_var (g 5 _ (by decide) h5)) (v_var (g 6 _ (by decide) h6)) (at_box b k p hp)) v_pure hd
      have ch := v_mB (v_chainT (i0 0 _ (at_p0 p)) (v_var (g 10 _ (by decide) h10)) cl (i0 1 _ (at_p1 p)) cr)
      refine p_seq (n_ifF (v_orF cge2 (v_not ch)) (n_seq (n_asg (v_var g11) (by rw [e_aTup, e_aCons, e_aName]; rfl)) (n_one (n_skip (v_orF (v_ne (lc_side (q := fun i j => decide (i < j)) e_ltI (x := x) (k := k) (rows := prodR [[]] b) ?_ hr hz ?_ ?_ ?_) (v_call (v_cons (v_var ?_) v_nil) rfl (F.h33 _ ok1 (by omega))) ?_) (v_ne (lc_side (q := fun i j => decide (j ≤ i)) e_geI (x := x) (k := k) (rows := prodR [[]] b) ?_ hr hz ?_ ?_ ?_) (v_call (v_cons (v_var ?_) v_nil) rfl (F.h33 _ ok2 (by omega))) ?_)))))) ?_
      · rw [List.length_set, List.length_set, l1]; omega
      · exact gs (by decide) (gs (by decide) (g 8 _ (by decide) h8))
      · exact gs (by decide) (gs (by decide) (g 6 _ (by decide) h6))
      · exact gs (by decide) (gs (by decide) (g 10 _ (by decide) h10))
      · exact gs (by decide) (gs (by decide) (gs0 (by omega)))
      · rw [filter_box (fun y => decide (y < x)) b k p (p.1, x - 1) hp (width_lt p x hin.1 hin.2)]
        exact eq_self (sh_rowsL _)
      · rw [List.length_set, List.length_set, List.length_set, l1]; omega
      · exact gs (by decide) (gs (by decide) (gs (by decide) (g 8 _ (by decide) h8)))
      · exact gs (by decide) (gs (by decide) (gs (by decide) (g 6 _ (by decide) h6)))
      · exact gs (by decide) (gs (by decide) (gs (by decide) (g 10 _ (by decide) h10)))
      · exact gs (by decide) (gs (by decide) (gs0 (by rw [List.length_set]; omega)))
      · rw [filter_box (fun y => decide (x ≤ y)) b k p (x, p.2) hp (width_ge p x hin.1 hin.2)]
        exact eq_self (sh_rowsL _)
      · refine hG _ (by rw [List.length_set, List.length_set, List.length_set, List.length_set, l1]) ?_
        exact gs (by decide) (gs (by decide) (gs (by decide) (gs (by decide) (g 1 _ (by decide) rfl))))
    · refine p_seq (δ1 := δ.set 11 (.v .none)) (n_tryE (n_seqE (n_setVe (v_call (v_cons (v_var h5) (v_cons (v_var h6) (v_cons (v_var h10) v_nil))) rfl (F.h26e b k x (.inr ⟨p, hp, hin⟩))))) rfl (n_one (n_setV v_pure)) (fun c h => by cases h)) ?_
      have cge2 := v_mB (v_op2 (v_var (δ := δ.set 11 (.v .none)) (gs (i := 11) (by decide) h6)) (v_var (gs (by decide) h3)) (e_geI (k : Int) (m : Int)))
      rw [decide_eq_false (by omega)] at cge2
      have i0 : ∀ i : Int, ∀ d : D, gIdx (pairD p) (.int i) = some d → mOp2 gIdx (mOp2 gIdx (mVar 5) (mVar 6)) (mPure (.int i)) (δ.set 11 (.v .none)) = some (.ok d, (δ.set 11 (.v .none))) := fun i d hd => v_op2 (v_op2 (v_var (gs (by decide) h5)) (v_var (gs (by decide) h6)) (at_box b k p hp)) v_pure hd
      have ch : mB (mChain cLt cLe (mOp2 gIdx (mOp2 gIdx (mVar 5) (mVar 6)) (mPure (.int 0))) (mVar 10) (mOp2 gIdx (mOp2 gIdx (mVar 5) (mVar 6)) (mPure (.int 1)))) (δ.set 11 (.v .none)) = some (.ok false, δ.set 11 (.v .none)) := by
        by_cases hlt : p.1 < x
        · have hnr : ¬ x ≤ p.2 := fun z => hin ⟨hlt, z⟩
          exact v_mB (v_chainT (i0 0 _ (at_p0 p)) (v_var (gs (by decide) h10)) (by rw [e_ltI, decide_eq_true hlt]) (i0 1 _ (at_p1 p)) (by rw [e_leI, decide_eq_false hnr]))
        · exact v_mB (v_chainF (i0 0 _ (at_p0 p)) (v_var (gs (by decide) h10)) (by rw [e_ltI, decide_eq_false hlt]))
      refine p_seq (n_ifT (v_orF cge2 (v_not ch)) (n_one (n_skip (v_mB (v_op2 (v_var (gs0 (by omega))) v_pure rfl))))) ?_
      exact hG _ (by rw [List.length_set]) (gs (by decide) rfl)
end K40
end
section
set_option Elab.async false
set_option linter.all false
set_option maxRecDepth 100000
set_option maxHeartbeats 4000000
namespace K40
open PySem FF L2
theorem ints_of : ∀ xs : List Int, intsOf (xs.map .int) = some xs
  | [] => rfl
  | x :: xs => by
    rw [List.map_cons]
    show (intsOf (xs.map .int)).map (x :: ·) = _
    rw [ints_of xs]
    rfl
theorem map_nI (ks : List Nat) : ks.map nI = (ks.map fun k : Nat => (k : Int)).map .int := by
  rw [List.map_map]
  rfl
theorem tup_nI (ks : List Nat) : PyData.tuple (ks.map nI) = rowD (ks.map fun k : Nat => (k : Int)) := by
  rw [map_nI]
  rfl
theorem eq_nI (ks : List Nat) : cEq (.tuple (ks.map nI)) (.tuple (ks.map nI)) = some true := by
  rw [tup_nI]
  exact eq_self (sh_row _)
theorem sum_cast : ∀ ks : List Nat, ((ks.map fun k => (2 : Nat) ^ k).map fun k : Nat => (k : Int)).sum = (maskN ks : Int)
  | [] => rfl
  | k :: ks => by
    rw [maskN_cons, Int.natCast_add, ← sum_cast ks]
    rfl
/-- the sorted numbers -/
theorem sort_ks (xs : List Int) (h : ∀ x ∈ xs, 0 ≤ x ∧ x < 64) (hl : xs.length < 64) : ∃ ks : List Nat, gSortU (.list (xs.map .int)) = some (ks.map nI) ∧ ks.Pairwise (· < ·) ∧ (∀ k ∈ ks, k < 64) ∧ ks.length ≤ 64 := by
  have hs : ∀ x ∈ sortU xs, 0 ≤ x ∧ x < 64 := fun x hx => h x ((mem_sortU x xs).mp hx)
  have hlen : ∀ (ys : List Int) (n : Nat), ys.Pairwise (· < ·) → (∀ y ∈ ys, (64 : Int) - n ≤ y ∧ y < 64) → ys.length ≤ n := by
    intro ys
    induction ys with
    | nil => intro n _ _; simp
    | cons y ys ih =>
      intro n hp hb
      obtain ⟨p1, p2⟩ := List.pairwise_cons.mp hp
      have hy := hb y List.mem_cons_self
      cases n with
      | zero => omega
      | succ n =>
        have := ih n p2 fun z hz => by
          have := p1 z hz
          have := hb z (List.mem_cons_of_mem _ hz)
          omega
        rw [List.length_cons]
        omega
  refine ⟨(sortU xs).map Int.toNat, ?_, ?_, ?_, ?_⟩
  · have e : (sortU xs).map .int = ((sortU xs).map Int.toNat).map nI := by
      rw [List.map_map]
      apply List.map_congr_left
      intro x hx
      have := hs x hx
      show PyData.int x = PyData.int ((x.toNat : Nat) : Int)
      congr 1
      omega
    show ((intsOf (xs.map .int)).bind fun ns => if ns.length < 64 then some ((sortU ns).map PyData.int) else none) = _
    rw [ints_of, Option.bind_some, if_pos hl, e]
  · refine List.Pairwise.map _ (fun a b hab => ?_) (List.Pairwise.and_mem.mp (sortU_pw xs))
    have := hs a hab.1
    have := hs b hab.2.1
    have := hab.2.2
    omega
  · intro k hk
    obtain ⟨x, hx, rfl⟩ := List.mem_map.mp hk
    have := hs x hx
    omega
  · rw [List.length_map]
    exact hlen _ 64 (sortU_pw xs) fun y hy => by
      have := hs y hy
      omega
section
variable {R : Rec} (F : Facts R) {δ : Env'}
include F
theorem st17 {ks : List Nat} (hk : ∀ k ∈ ks, k < 64) (hkl : ks.length ≤ 64) (hlen : 18 < δ.length) (h14 : δ[14]? = some (.l false (ks.map nI))) :
    sSetV 15 (mB1 gSum (mCons (mList (mLc [17] (mItems (mVar 14)) (aName 17) (mPure true) (mCall 1 (R 37) [] (mCons (mVar 17) mNil)))) mNil)) δ = some (.nx, ((δ.set 14 (.v (.list (ks.map nI)))).set 17 .u).set 15 (.v (nI (maskN ks)))) := by
  have h0 := v_items (v_own h14) (e_itL (ks.map nI))
  generalize hd : δ.set 14 (.v (.list (ks.map nI))) = δ1 at h0 ⊢
  have l1 : δ1.length = δ.length := by rw [← hd, List.length_set]
  have e : wipeD δ1 [17] = δ1.set 17 .u := rfl
  have hlen : 17 < (δ1.set 17 .u).length := by rw [List.length_set]; omega
  have key := turns_map (i := 17) (δ := δ1.set 17 .u) ss (fe := mCall 1 (R 37) [] (mCons (mVar 17) mNil)) (f := fun d => match d with
    | .int k => nI (2 ^ k.toNat)
    | _ => .none) (ks.map nI) [] (fun d hd => by
      obtain ⟨k, hk1, rfl⟩ := List.mem_map.mp hd
      exact v_call (v_cons (v_var (gs0 hlen)) v_nil) rfl (F.h37 k (hk k hk1))) (by rw [List.length_nil, List.length_map]; omega)
  rw [← e] at key
  have h2 := v_lc h0 key
  have h3 : gSum [.list ([] ++ (ks.map nI).map fun d => match d with
    | .int k => nI (2 ^ k.toNat)
    | _ => .none)] = some (nI (maskN ks)) := by
    have e2 : ([] ++ (ks.map nI).map fun d => match d with
      | .int k => nI (2 ^ k.toNat)
      | _ => .none) = ((ks.map fun k => (2 : Nat) ^ k).map fun k : Nat => (k : Int)).map .int := by
      rw [List.nil_append, List.map_map, List.map_map, List.map_map]
      rfl
    rw [e2]
    show (intsOf _).map (fun ns => PyData.int ns.sum) = _
    rw [ints_of]
    show some (PyData.int _) = _
    rw [sum_cast]
    rfl
  have h4 := n_setV (i := 15) (v_b1 (v_cons (v_list h2) v_nil) h3)
  rw [h4, e]
  show some (Out.nx, ((δ1.set 17 .u).set 17 .u).set 15 _) = _
  rw [ss]
theorem st18 {ks : List Nat} (hp : ks.Pairwise (· < ·)) (hk : ∀ k ∈ ks, k < 64) (h14 : δ[14]? = some (.v (.list (ks.map nI)))) (h15 : δ[15]? = some (.v (nI (maskN ks)))) (A : SM) :
    sIf (tOrM (mB (mOp2 (gB cEq not) (mCall 1 (R 20) [] (mCons (mB1 gTuple (mCons (mVar 14) mNil)) mNil)) (mVar 15))) (mB (mOp2 (gB cEq not) (mCall 1 (R 21) [] (mCons (mVar 15) mNil)) (mB1 gTuple (mCons (mVar 14) mNil))))) A sNil δ = some (.nx, δ) :=
  n_skip (v_orF (v_ne (v_call (v_cons (v_b1 (v_cons (v_var h14) v_nil) (e_gTupL _)) v_nil) rfl (F.h20 ks hp hk)) (v_var h15) (eq_int _)) (v_ne (v_call (v_cons (v_var h15) v_nil) rfl (F.h21 ks hp hk)) (v_b1 (v_cons (v_var h14) v_nil) (e_gTupL _)) (eq_nI ks)))
theorem st20 {ks : List Nat} (hp : ks.Pairwise (· < ·)) (hk : ∀ k ∈ ks, k < 64) {d : D} (hd : R 21 [d] = some (.er "BadSet")) (h15 : δ[15]? = some (.v (nI (maskN ks)))) (h16 : δ[16]? = some (.v d)) :
    sTry (sSeq (sDrop (mCall 1 (R 21) [] (mCons (mVar 16) mNil))) sNil) catchBadSet (sSeq (sRet (mOp2 (gB cEq id) (mCallH 1 (R 1021) (mCons (mVar 15) mNil)) (mB1 gTuple (mCons (mCallH 1 (R 1036) (mCons (mVar 15) mNil)) mNil)))) sNil) δ = some (.rt (.bool true), δ) :=
  n_tryE (n_seqE (n_dropE (v_call (v_cons (v_var h16) v_nil) rfl hd))) rfl (n_seqR (n_ret (v_op2 (v_callH (v_cons (v_var h15) v_nil) rfl (F.g21 ks hp hk)) (v_b1 (v_cons (v_callH (v_cons (v_var h15) v_nil) rfl (F.g36 ks hp hk)) v_nil) (e_gTupL _)) (by rw [e_gB, eq_nI]; rfl)))) (fun c h => by cases h)
end
theorem st19 {out : List Int} (hl : out.length = 200) {δ : Env'} {M : Nat} {R : Rec} (F : Facts R) (h1 : δ[1]? = some (.v (OD out))) (h15 : δ[15]? = some (.v (nI M))) : ∃ d, R 21 [d] = some (.er "BadSet") ∧
    sSetV 16 (mOp2 gIdx (mTup (mCons (mOp2 bSub (mOp2 bSub (mPure (.int 0)) (mPure (.int 1))) (mVar 15)) (mCons (mPure .none) (mCons (mPure (.str ("3" : Str))) (mCons (mTup (mCons (mPure (.int 1)) mNil)) mNil))))) (mOp2 bMod (mB1 gInt (mCons (mOp2 gIdx (mVar 1) (mPure (.int 16))) mNil)) (mPure (.int 4)))) δ = some (.nx, δ.set 16 (.v d)) := by
  have ht : mTup (mCons (mOp2 bSub (mOp2 bSub (mPure (.int 0)) (mPure (.int 1))) (mVar 15)) (mCons (mPure .none) (mCons (mPure (.str ("3" : Str))) (mCons (mTup (mCons (mPure (.int 1)) mNil)) mNil)))) δ = some (.ok (.tuple [.int (0 - 1 - (M : Int)), .none, .str ("3" : Str), .tuple [.int 1]]), δ) :=
    v_tup (v_cons (v_op2 (v_op2 v_pure v_pure (e_subI 0 1)) (v_var h15) (e_subI _ _)) (v_cons v_pure (v_cons v_pure (v_cons (v_tup (v_cons v_pure v_nil) (show (1 : Nat) ≤ 1000000 by decide)) v_nil)))) (show (4 : Nat) ≤ 1000000 by decide)
  have hq := pickM hl (δ := δ) (fi := mPure (.int 16)) (fj := mPure (.int 4)) (j := 4) 16 h1 v_pure rfl (by decide) v_pure (by decide)
  have b1 := Int.emod_nonneg (o out 16) (show (4 : Int) ≠ 0 by decide)
  have b2 := Int.emod_lt_of_pos (o out 16) (show (0 : Int) < 4 by decide)
  generalize o out 16 % 4 = q at hq b1 b2
  have c : q = 0 ∨ q = 1 ∨ q = 2 ∨ q = 3 := by omega
  rcases c with rfl | rfl | rfl | rfl
  · exact ⟨_, F.h21n (0 - 1 - (M : Int)) (by omega), n_setV (v_op2 ht hq rfl)⟩
  · exact ⟨_, F.h21x.1, n_setV (v_op2 ht hq rfl)⟩
  · exact ⟨_, F.h21x.2.1, n_setV (v_op2 ht hq rfl)⟩
  · exact ⟨_, F.h21x.2.2, n_setV (v_op2 ht hq rfl)⟩
end K40
end
section
set_option Elab.async false
set_option linter.all false
set_option maxRecDepth 100000
set_option maxHeartbeats 4000000
namespace K40
open PySem FF L2
theorem law_of {R : Rec} (F : Facts R) (ns : List Int) : runB 19 (m_38 R) [.list (ns.map .int)] = some (.ok (.bool true)) := by
  obtain ⟨c, hc⟩ := F.h29 ns
  obtain ⟨out, hl, ho⟩ := F.h30 c
  have t1 := Int.emod_nonneg (o out 1) (show (63 : Int) ≠ 0 by decide)
  have t2 := Int.emod_lt_of_pos (o out 1) (show (0 : Int) < 63 by decide)
  obtain ⟨t, et⟩ : ∃ t, o out 1 % 63 + 2 = t := ⟨_, rfl⟩
  have ht : 2 ≤ t ∧ t ≤ 64 := by omega
  have m1 := Int.emod_nonneg (o out 2) (show (4 : Int) ≠ 0 by decide)
  have m2 := Int.emod_lt_of_pos (o out 2) (show (0 : Int) < 4 by decide)
  obtain ⟨m, em⟩ : ∃ m : Nat, o out 2 % 4 = (m : Int) := ⟨(o out 2 % 4).toNat, by omega⟩
  have hm : m < 4 := by omega
  obtain ⟨k, ek⟩ : ∃ k : Nat, o out 13 % 4 = (k : Int) := ⟨(o out 13 % 4).toNat, by
    have := Int.emod_nonneg (o out 13) (show (4 : Int) ≠ 0 by decide)
    omega⟩
  obtain ⟨x, ex⟩ : ∃ x : Int, o out 14 % t = x := ⟨_, rfl⟩
  obtain ⟨n, en⟩ : ∃ n : Nat, o out 15 % 12 = (n : Int) := ⟨(o out 15 % 12).toNat, by
    have := Int.emod_nonneg (o out 15) (show (12 : Int) ≠ 0 by decide)
    omega⟩
  have hn : n < 12 := by
    have := Int.emod_lt_of_pos (o out 15) (show (0 : Int) < 12 by decide)
    omega
  have hbb : ∀ p ∈ boxL out t m, 0 ≤ p.1 ∧ p.1 ≤ p.2 ∧ p.2 ≤ 64 ∧ p.2 ≤ p.1 + 4 := fun p hp => by
    have := boxL_mem ht hp
    omega
  have hbl := boxL_len out t m
  have hbo : BoxOk (boxL out t m) 5 := boxOk_of fun p hp => by
    have := hbb p hp
    omega
  obtain ⟨a6, a7, hf⟩ := for_5 hl ht (.v (.list (ns.map .int))) (.v (.int m)) (.v (prog t m)) [.u, .u, .u, .u, .u, .u, .u, .u, .u, .u, .u] m 0 [] .u .u (by omega) (by rw [List.length_nil]; omega)
  rw [← List.range_eq_range', List.nil_append] at hf
  have hd : ∀ q ∈ (List.range n).map (fun k => o out (20 + k) % 64), 0 ≤ q ∧ q < 64 := fun q hq => by
    obtain ⟨k, _, rfl⟩ := List.mem_map.mp hq
    exact ⟨Int.emod_nonneg _ (by decide), Int.emod_lt_of_pos _ (by decide)⟩
  obtain ⟨ks, hs1, hs2, hs3, hs4⟩ := sort_ks _ hd (by rw [List.length_map, List.length_range]; omega)
  unfold m_38
  refine p_run (p_seq (n_setV (v_call (v_cons (v_call (v_cons (v_var rfl) (v_cons v_pure v_nil)) rfl hc) (v_cons v_pure v_nil)) rfl ho)) ?_)
  refine p_seq (st2 hl rfl et em) ?_
  refine p_seq (st3 hm rfl rfl) ?_
  refine p_seq (n_setL (v_lst v_nil (show (0 : Nat) ≤ 1000000 by decide))) ?_
  refine p_seq (n_for (v_rg (v_cons (v_var rfl) v_nil) (rg_nI m (by omega))) hf) ?_
  generalize hb : boxL out t m = b at hbb hbl hbo
  have hb' : ((List.range m).map fun k => (loO out t k, hiO out t k)) = b := hb
  rw [hb']
  refine p_seq (n_setV (v_b1 (v_cons (v_own rfl) v_nil) (e_gTupL _))) ?_
  refine p_seq (n_setV (v_call (v_cons (v_var (d := boxD b) rfl) v_nil) rfl (F.h33 b hbo (by omega)))) ?_
  refine p_seq (st8 F hbo (by omega) (fun p hp => by have := hbb p hp; omega) ht hm rfl rfl rfl _) ?_
  refine p_seq (st9 F ht hm rfl rfl rfl _) ?_
  refine p_seq (n_setV (v_b1 (v_cons (v_list (lc_draw hl 6 10 m (by omega) (by exact (show (6 : Nat) < 19 by decide)) (by decide) (by omega) rfl (fun k => v_var rfl) (v_rg (v_cons (v_var rfl) v_nil) (rg_nI m (by omega))))) v_nil) (e_gTupL _))) ?_
  refine p_seq (st11 F (b := b) (xs := (List.range m).map fun k => o out (10 + k) % t) (by rw [List.length_map, List.length_range, hbl]) rfl rfl rfl _) ?_
  refine p_seq (n_asg (v_tup (v_cons (pickM hl 13 rfl v_pure rfl (by decide) v_pure (by decide)) (v_cons (pickM hl 14 rfl v_pure rfl (by decide) (v_var rfl) (by omega)) v_nil)) (show (2 : Nat) ≤ 1000000 by decide)) rfl) ?_
  rw [ek, ex]
  refine p_seq (n_setV v_pure) ?_
  refine st14 F (by exact (show (18 : Nat) < 19 by decide)) hbb hbl hm (k := k) (x := x) rfl rfl rfl rfl rfl rfl _ _ fun δ hlen h1 => ?_
  have h18 : 18 < δ.length := by rw [hlen]; exact (show (18 : Nat) < 19 by decide)
  replace h1 : δ[1]? = some (.v (OD out)) := h1
  clear hlen
  have hr := v_rg (g := rg1) (δ := δ) (v_cons (pickM hl 15 h1 (v_pure (a := PyData.int 15)) rfl (by decide) (v_pure (a := PyData.int 12)) (by decide)) v_nil) (by rw [en]; exact rg_nI n (by omega))
  refine p_seq (n_setL (v_sortU (v_list (lc_draw hl 18 20 n (by omega) (by omega) (by decide) (by decide) h1 (fun k => v_pure) hr)) hs1)) ?_
  refine p_seq (st17 F hs3 hs4 (by rw [List.length_set, List.length_set]; exact h18) (gs0 (by rw [List.length_set]; omega))) ?_
  generalize hδ : (((((δ.set 18 Ent.u).set 14 (.l false (ks.map nI))).set 14 (.v (.list (ks.map nI)))).set 17 .u).set 15 (.v (nI (maskN ks)))) = δ2
  have q15 : δ2[15]? = some (.v (nI (maskN ks))) := by
    rw [← hδ]
    exact gs0 (by rw [List.length_set, List.length_set, List.length_set, List.length_set]; omega)
  have q14 : δ2[14]? = some (.v (.list (ks.map nI))) := by
    rw [← hδ]
    exact gs (by decide) (gs (by decide) (gs0 (by rw [List.length_set, List.length_set]; omega)))
  have q1 : δ2[1]? = some (.v (OD out)) := by
    rw [← hδ]
    exact gs (by decide) (gs (by decide) (gs (by decide) (gs (by decide) (gs (by decide) h1))))
  have q16 : 16 < δ2.length := by
    rw [← hδ, List.length_set, List.length_set, List.length_set, List.length_set, List.length_set]
    omega
  refine p_seq (st18 F hs2 hs3 q14 q15 _) ?_
  obtain ⟨d, hd1, hd2⟩ := st19 hl F q1 q15
  refine p_seq hd2 ?_
  exact ⟨_, n_seqR (st20 F hs2 hs3 hd1 (gs (by decide) q15) (gs0 q16))⟩
theorem law_true (ns : List Int) (h : ns.length ≤ 63) (hb : ∀ z ∈ ns, Builtin.Int.intBits z ≤ 1048576) : run 10 38 [.list (ns.map .int)] = some (.ok (.bool true)) := by
  rw [run_38]
  exact law_of facts9 ns
end K40
end
section
set_option Elab.async false
set_option linter.all false
set_option maxRecDepth 100000
set_option maxHeartbeats 4000000
namespace K40
open PySem PySem.Spec PyProof.Rows L2 RZ FF
theorem noCX {w : World} {P : Program} {H : Hp} {s : Shared} {e : Value} {s' : Shared} (h : L2N.CX P w [] H s (fun _ _ _ => False) e s') : False := by
  obtain ⟨_, _, _, _, _, _, _, _, _, _, _, _, z⟩ := h
  exact z
theorem law_at {w : World} {K : PySem.W.Frag} {h : Heap} {mg : Str → Option Value} {fa0 : Addr} (X : K.In h) (G : h.Ns mainGlobals mg) (c : He.SaysX fa fn [] tf ex w h K) (hmg : mg ("law" : Str) = some (.ref fa0)) :
    LamX.LawAtS PySem.Challenge.rw_forkfield_k40_whole_boxes_and_masks w K (L2N.CX PySem.Challenge.rw_forkfield_k40_whole_boxes_and_masks.prog w) 20 63 "script" mg fa0 h := by
  obtain ⟨fd, hb, hF⟩ := all_ok PySem.Challenge.rw_forkfield_k40_whole_boxes_and_masks.prog X G c 10
  have e := hmg.symm.trans (He.glo_ok X G ((sD c).facts (f := .glo "law") (by unfold fa; simp)))
  cases e
  refine ⟨fd, tf.map (He.cT K), _, fun p hp => ?_, fun p hp => ?_, fun p hp => ?_, fun s u => hb s [u] rfl, fun H a ns hlen hbits hT hS => ?_, fun base _ _ TB => hF base fun p hp => ⟨(TB p hp).code, (TB p hp).bm, (TB p hp).gP⟩⟩
  · obtain ⟨q, hq, rfl⟩ := List.mem_map.mp hp
    exact c.empty q hq
  · obtain ⟨q, hq, rfl⟩ := List.mem_map.mp hp
    exact c.out q hq
  · obtain ⟨q, hq, rfl⟩ := List.mem_map.mp hp
    exact PySem.W.codeHd_of_K X (c.hd q hq)
  · refine ⟨rfl, [], [.list (ns.map .int)], .ok (.bool true), fun a h => (by cases h), ?_, fun P hP => ?_, law_true ns hlen hbits, fun v H' g hv => ?_⟩
    · rw [msk_nil]
      exact .cons (.lst hS (dvall_ints ns)) .nil
    · obtain ⟨p, hp, rfl⟩ := List.mem_map.mp hP
      exact ⟨#[], hT p hp, by simp [TriplesOk]⟩
    · cases hv
      rfl
end K40
open PySem PySem.W PySem.Calls PyProof.Rows
set_option maxHeartbeats 0 in
theorem PySem.Challenge.cw_forkfield_k40_whole_boxes_and_masks_holds : PySem.Challenge.rw_forkfield_k40_whole_boxes_and_masks.Holds := by
  w_on; o_law
  refine HandSHeadRun.head_any (r := OpenLaw.row PySem.Challenge.rw_forkfield_k40_whole_boxes_and_masks) (q := view (OpenLaw.row PySem.Challenge.rw_forkfield_k40_whole_boxes_and_masks).prog [38]) (H := K40.hk) (ob := K40.ob) (M := 4000) (loose := K40.loose) (d := HandSHeadRun.topDef (OpenLaw.row PySem.Challenge.rw_forkfield_k40_whole_boxes_and_masks).prog 38) (kwd := []) K40.ob_eq
    (by kernel_rfl) (fun s => by kernel_rfl) K40.run_top (by kernel_rfl) (by kernel_rfl) (by kernel_rfl) (by rfl) (by first | assumption | decide +kernel) (by decide +kernel) ⟨rfl, rfl, rfl, rfl, rfl, by decide +kernel⟩ ?hw ?hc
  case hw => w_witness2
  case hc =>
    refine LamX.walk_ofTsE (l := PySem.Challenge.rw_forkfield_k40_whole_boxes_and_masks) (n := 63) (k := 20) (x := "script") (CX := fun w => L2N.CX PySem.Challenge.rw_forkfield_k40_whole_boxes_and_masks.prog w) rfl (by decide) (by kernel_rfl) ⟨rfl, by decide, by decide⟩ ?F (fun w H s e s' z => K40.noCX z)
    intro w mg fa h Y G hmg0
    obtain ⟨K, KX, c⟩ := Y
    have hmg : mg ("law" : PySem.Str) = some (.ref fa) := by
      have e : (HandSHeadRun.topDef (OpenLaw.row PySem.Challenge.rw_forkfield_k40_whole_boxes_and_masks).prog 38).name = ("law" : PySem.Str) := by kernel_rfl
      rw [← e]
      exact hmg0
    exact ⟨K, KX, K40.law_at KX G c hmg⟩
end
