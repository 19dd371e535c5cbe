import PyProof.Rows.All
import Wide.All
import OpenK.AllK
import Wide.FinOn
import HandS.ForMost
import HandS.AnyAll
import HandS.GenList
import HandS.IsInst
import HandS.TupAny
import HandS.Style
import HandS.Wide
import HandS.DictComp
import HandS.Flow
import HandS.Deep
import HandS.HeadNt
import HandS.NoneIn
import PyProof.NeKinds
import HandS.Codes
import PyProof.Rows.StrSplitCount
import PyProof.Rows.RegReprOcc
import HandS.WordsDict
import KE.KeyNested
import KE.KSortTupG
import HandS.SortRule
import HandS.HeadHook4
import HandS.HeadWalk
import HandS.HeadEnd
import HandS.Head2
import PySem.Challenge.RW_staged_k04_whole_plain_programs
set_option Elab.async false
set_option linter.all false
set_option maxRecDepth 100000
set_option maxHeartbeats 4000000
namespace K04
open PySem PySem.Spec PyProof.Rows L2 GxR GenW

theorem over_loopG {A : Around} {elt : Expr} {gens : List Comprehension} {scope : Scope} {pos : Pos} {it acc : Value} {cenv : Env} :
    A.over (.compLoop (.GeneratorExp elt gens scope pos) 0 it acc cenv) [] = A.deeper cenv := by
  first
    | rfl
    | (obtain ⟨hd, d, fr, gs, u⟩ := A; simp [Around.over, Around.deeper, marksOver, frameCount, unitsOf, envsOf, guardsOf, pushEnvs, pushGuards, Code.envs, Code.env?, Code.isFrame, Code.guards, Code.isGuard, Code.weight, Code.frames, Code.isCreation, Code.isCaller, Code.cUnits])
theorem over_startG {A : Around} {elt : Expr} {gens : List Comprehension} {scope : Scope} {pos : Pos} {it acc : Value} {cenv : Env} :
    A.over (.compStart (.GeneratorExp elt gens scope pos) 0 it acc cenv) [] = A.deeper cenv := by
  first
    | rfl
    | (obtain ⟨hd, d, fr, gs, u⟩ := A; simp [Around.over, Around.deeper, marksOver, frameCount, unitsOf, envsOf, guardsOf, pushEnvs, pushGuards, Code.envs, Code.env?, Code.isFrame, Code.guards, Code.isGuard, Code.weight, Code.frames, Code.isCreation, Code.isCaller, Code.cUnits])

/-- the frame of a generator expression as a context -/
abbrev gcx (X : Cx) (s : Shared) (H : Hp) (A : Around) (cenv : Env) (fp : List Addr) : Cx where
  prog := X.prog
  w := X.w
  K := X.K
  mg := X.mg
  base := X.base
  A := A.deeper cenv
  N := X.N
  s_0 := s
  H_0 := H
  env := cenv
  outer := X.stack
  stack := cenv :: X.stack
  ex := fp
  fn := fun _ => false
  calm := true
  pn := []
  xe := fun _ _ => False

section
variable {X : Cx} {pins : List (Addr × Obj)} {σ : L2.St} {H : Hp} {s : Shared}

theorem Inv.gens {g' : Array GenState} {t' : Nat} (I : Inv X pins σ H s) (hg : AllBare g') : Inv X pins σ H { s with gens := g', toks := t' } :=
  ⟨I.ok, I.os, hg, I.base, I.loc, I.cell, I.free, I.freeC, I.pin, I.hok, I.len⟩
theorem Inv.same {s' : Shared} (I : Inv X pins σ H s) (e1 : s'.heap = s.heap) (e2 : s'.os = s.os) (hg : AllBare s'.gens) : Inv X pins σ H s' := by
  obtain ⟨hh, g, d, t, o⟩ := s'
  obtain rfl : hh = s.heap := e1
  obtain rfl : o = s.os := e2
  exact ⟨I.ok, I.os, hg, I.base, I.loc, I.cell, I.free, I.freeC, I.pin, I.hok, I.len⟩

theorem gen_start {scope : Scope} {own : List (Str × Nat)} {fp : List Addr} {A : Around} {code : Value} {h' : Heap} {tk : Nat} {g' : Array GenState} {m : Str → Option Value}
    (I : Inv X pins σ H s) (ok : BlkOk X.N X.env.scope scope own) (hN : X.N.Nodup) (hcell : ∀ y ∈ scope.names, y.2 ≠ .cell) (hfp : ∀ b ∈ fp, FpOk X pins H b ∧ b < s.heap.objs.size)
    (hd : A.handled = none) (hF : A.frames = some X.stack) (hns : h'.Ns s.heap.objs.size m) (kp : ∀ b o, s.heap.get? b = some o → h'.get? b = some o) (hg : AllBare g') :
    Inv (gcx X s H A (genEnv scope (cloFrom X.env.cells scope.names []) s.heap.objs.size code builtinsNs X.env) fp) [] (wipe σ (own.map (·.2))) H { s with heap := h', gens := g', toks := tk } := by
  have hfree : ∀ y ∈ scope.names, y.2 = .free → ∃ c, X.env.cells.lookup y.1 = some c := fun y hy e => by
    rcases ok.free y hy e with k | k
    · exact I.ok.has _ (.inl k)
    · exact I.ok.has _ (.inr k)
  have cm : ∀ {y c}, (cloFrom X.env.cells scope.names []).lookup y = some c → X.env.cells.lookup y = some c := fun {y c} e => by
    rcases cloFrom_mem (PySem.mem_of_lookup e) with hm | ⟨h1, h2⟩
    · cases hm
    · obtain ⟨c1, hc⟩ := hfree _ h1 rfl
      have hc : X.env.cells.lookup y = some c1 := hc
      have e2 : c = c1 := by
        rw [h2, hc] <;> rfl
      rw [e2]
      exact hc
  have look : ∀ {y}, scope.names.lookup y = some .free → ∃ c, (cloFrom X.env.cells scope.names []).lookup y = some c := fun {y} hl => by
    have hy : (y, NameKind.free) ∈ scope.names := PySem.mem_of_lookup hl
    exact mem_lookup (cloFrom_has (cells := X.env.cells) (acc := []) hy)
  refine ⟨⟨I.ok.mod, ok.kind, I.ok.glob, rfl, Nat.le_refl _, fun y z c e1 e2 => I.ok.inj y z c (cm e1) (cm e2), fun y hy => ?_, fun y c z _ => ?_, fun _ => hd, Around.frames_deeper hF, .inr ⟨rfl, rfl⟩, fun b hb => ⟨Nat.ne_of_lt (hfp b hb).2, fun y c e => (hfp b hb).1.2.2.2.2.1 y c (cm e)⟩, I.bs, Nat.le_trans I.ok.bsz I.sz, fun b o e hb => ?_,
      fun b hb z => ?_, I.stack, I.stkFree⟩,
    rfl, hg, Un.kept kp, ⟨_, hns, fun i y v e1 e2 e3 => ?_⟩, fun y c e => ?_, I.hok.fresh (Nat.le_refl _), fun y c e => I.freeC y c (cm e), fun q hq => absurd (show q ∈ ([] : List (Addr × Obj)) ++ [] from hq) (by simp), I.hok.kept kp, by rw [wipe_length]; exact I.len⟩
  · have hy : scope.names.lookup y = some .cell ∨ scope.names.lookup y = some .free := hy
    rcases hy with hy | hy
    · exact absurd rfl (hcell _ (PySem.mem_of_lookup hy))
    · exact look hy
  · have z : false = true := z
    cases z
  · rcases (hfp b hb).1.2.2.2.1 with z | z
    · exact I.ok.noex b o e z
    · exact absurd (Nat.lt_of_lt_of_le (Heap.lt_size e) (Nat.le_trans I.ok.bsz z)) (Nat.lt_irrefl _)
  · rcases List.mem_cons.mp (I.stkSub b z) with z | z
    · exact (hfp b hb).1.2.1 z
    · exact (hfp b hb).1.2.2.1 z
  · obtain ⟨e2, hne⟩ := wipe_some e2
    have e3 : Vis scope y := e3
    have hfr : scope.names.lookup y = some .free := by
      have no : ∀ k', scope.names.lookup y = some k' → ¬ (k' = .local ∨ k' = .cell) := fun k' e hh => by
        rcases ok.own _ (PySem.mem_of_lookup e) hh with e' | e'
        · obtain ⟨p, hp, hpy⟩ := List.mem_map.mp e'
          have e3 := ok.ix p hp
          have : p.1 = y := hpy
          rw [this] at e3
          exact hne (List.mem_map.mpr ⟨p, hp, nodup_ix hN e3 e1⟩)
        · exact e' (List.mem_of_getElem? e1)
      rcases e3 with k | k | k
      · exact absurd (.inl rfl) (no _ k)
      · exact absurd (.inr rfl) (no _ k)
      · exact k
    obtain ⟨m2, hn, hl⟩ := I.loc
    have hvis : Vis X.env.scope y := (ok.free _ (PySem.mem_of_lookup hfr) rfl).elim (fun k => .inr (.inl k)) (fun k => .inr (.inr k))
    obtain ⟨w', r, q⟩ := hl i y v e1 e2 hvis
    obtain ⟨c2, h2⟩ := look hfr
    refine ⟨w', r, .inr ⟨.inr hfr, c2, h2, ?_⟩⟩
    have c1 := cm h2
    rcases q with ⟨k', _⟩ | ⟨_, c3, e', z⟩
    · have k' : X.env.scope.names.lookup y = some .local := k'
      rcases ok.free _ (PySem.mem_of_lookup hfr) rfl with k2 | k2 <;> rw [show X.env.scope.names.lookup y = _ from k2] at k' <;> cases k'
    · rw [c1] at e'
      cases e'
      exact z.keeps kp
  · obtain ⟨w', z⟩ := I.cell y c (cm e)
    exact ⟨w', z.keeps kp⟩
end
end K04
namespace K04
open PySem PySem.Spec PyProof.Rows L2 GxR GenW

/-- the turns of all(elt for x in ..): W by the turn and a measure, Nx what a turn is to reach -/
def GTurns (J : It) (g : TG) (te : TE) (vs : List Nat) (σ : L2.St) (W : Nat → Nat → Hp → Prop) (Q : Bool → Hp → Prop) : Prop :=
  ∀ i m H, W i m H → (J.stop i H ∧ Q true H) ∨ (J.go i H ∧ ∃ Nx : Hp → Prop, (∀ H', Nx H' → ∃ m', m' < m ∧ W (i + 1) m' H') ∧
    ∀ x H', J.yld i H x H' → g x (wipe σ vs) H' fun σ2 H2 => wipe σ2 vs = wipe σ vs ∧ te σ2 H2 fun y H3 => ∃ b, y = .bl b ∧ if b = true then Nx H3 else Q false H3)

/-- what a yield tells -/
def gY (Xg : Cx) (pins : List (Addr × Obj)) (σw : L2.St) (Q : Bool → Hp → Prop) : Protocol := fun _ _ v s kap =>
  ∃ b H', v = .bool b ∧ Inv Xg pins σw H' s ∧ (b = false → Q false H') ∧ (b = true → ∀ s'' : Shared, s''.heap = s.heap → s''.os = s.os → AllBare s''.gens → kap (.send .none) s'')
def gEnd (Xg : Cx) (pins : List (Addr × Obj)) (σw : L2.St) (Q : Bool → Hp → Prop) : Nat → Shared → Shared → Prop := fun _ _ s => ∃ H', Inv Xg pins σw H' s ∧ Q true H'
abbrev gR (Xg : Cx) (pins : List (Addr × Obj)) (σw : L2.St) (Q : Bool → Hp → Prop) : GenEnd := fun n s₀ r s₁ => r = .ok .next ∧ gEnd Xg pins σw Q n s₀ s₁

theorem setGen_inv {Xg : Cx} {pins : List (Addr × Obj)} {σ : L2.St} {H : Hp} {s : Shared} {g : Nat} {x : GenState} (I : Inv Xg pins σ H s) (hx : x.bare = true) : Inv Xg pins σ H (s.setGen g x) :=
  Inv.same I rfl rfl (allBare_setGen I.bare hx)

theorem seg_turn {Xg : Cx} {pins : List (Addr × Obj)} {σ : L2.St} {A : Around} {elt tg iter : Expr} {scope : Scope} {pos : Pos} {fp : List Addr} {it : Addr} {tn : Nat → Heap → Prop} {J : It} {g : TG} {te : TE} {vs : List Nat} {W : Nat → Nat → Hp → Prop} {Q : Bool → Hp → Prop}
    (hA : Xg.A = A.deeper Xg.env) (hcalm : Xg.calm = true) (hxe : Xg.xe = fun _ _ => False) (hco : Xg.env.scope.isCoroutine = false)
    (T : Turn Xg.prog Xg.w Xg.K tg J fp it tn) (hg : PG Xg tg g) (he : PE Xg elt te)
    (hfp : ∀ H, (∀ b ∈ fp, H b = none) → ∀ b ∈ fp, FpOk Xg pins H b) (turns : GTurns J g te vs σ W Q)
    (n i m : Nat) (H : Hp) (s₀ s : Shared) (w : W i m H) (I : Inv Xg pins (wipe σ vs) H s) (st : tn i s.heap) (nfp : ∀ b ∈ fp, H b = none)
    (again : ∀ (m' : Nat) (H' : Hp) (s' : Shared), m' < m → W (i + 1) m' H' → Inv Xg pins (wipe σ vs) H' s' → tn (i + 1) s'.heap → (∀ b ∈ fp, H' b = none) →
      Seg (model Xg.prog Xg.w) A (gR Xg pins (wipe σ vs) Q) (gY Xg pins (wipe σ vs) Q) n s'
        (.compLoop (.GeneratorExp elt [⟨tg, iter, [], 0⟩] scope pos) 0 (.ref it) .none Xg.env)
        ((model Xg.prog Xg.w).den (.compLoop (.GeneratorExp elt [⟨tg, iter, [], 0⟩] scope pos) 0 (.ref it) .none Xg.env)) [] s') :
    Seg (model Xg.prog Xg.w) A (gR Xg pins (wipe σ vs) Q) (gY Xg pins (wipe σ vs) Q) (n + 1) s₀
        (.compLoop (.GeneratorExp elt [⟨tg, iter, [], 0⟩] scope pos) 0 (.ref it) .none Xg.env)
        ((model Xg.prog Xg.w).den (.compLoop (.GeneratorExp elt [⟨tg, iter, [], 0⟩] scope pos) 0 (.ref it) .none Xg.env)) [] s := by
  have hov : A.over (.compLoop (.GeneratorExp elt [⟨tg, iter, [], 0⟩] scope pos) 0 (.ref it) .none Xg.env) [] = Xg.A := over_loopG.trans hA.symm
  have noex : ∀ {α : Type} {t : Sem α} {Q' : α → Shared → Prop} {E' : Value → Shared → Prop} {s : Shared}, wpAny (model Xg.prog Xg.w) Xg.A t Q' Xg.xe s → wpAny (model Xg.prog Xg.w) Xg.A t Q' E' s := fun h => wpAny_mono h (fun _ _ x => x) fun e s z => by
    rw [hxe] at z
    exact z.elim
  show Seg _ A _ _ _ s₀ _ ((compTurn (.GeneratorExp elt [⟨tg, iter, [], 0⟩] scope pos) 0 (.ref it) .none Xg.env).onRaise (leaving Xg.env)) [] s
  rw [compTurn_gen, Sem.onRaise_eq_wrap]
  refine seg_bind_wrap (wpAny_standAt ?_)
  rcases turns i m H w with ⟨stop, q⟩ | ⟨go, Nx, hNx, step⟩
  · refine seg_bind_wrap ?_
    rw [hov]
    refine thn (T.done Xg rfl rfl rfl hcalm i pins s _ H _ I (hfp H nfp) st stop) fun r s1 ⟨hr, I1⟩ => ?_
    subst hr
    exact seg_end (.ok .next) ⟨rfl, H, I1, q⟩
  · refine seg_bind_wrap ?_
    rw [hov]
    refine thn (T.item Xg rfl rfl rfl hcalm i pins s _ H _ I (hfp H nfp) st go) fun r s1 ⟨u, hr, h1⟩ => ?_
    subst hr
    refine seg_bind_wrap ?_
    rw [hov]
    refine thn h1 fun _ s2 ⟨x, H2, I2, r2, y2, st2, n2⟩ => ?_
    have I2' := I2.pinned (hfp H2 n2) (T.obj _ _ st2)
    refine seg_bind_wrap ?_
    rw [hov]
    refine noex (thn (hg.run _ s2 _ H2 x u _ I2' r2 (step x H2 y2)) fun _ s3 ⟨σ3, H3, I3, hw3, q3⟩ => ?_)
    refine seg_bind_wrap (wpAny_tests_nil ?_)
    have hy : ∀ v, yieldOut Xg.env v = yieldValue v := fun v => by simp only [yieldOut, hco, Bool.false_eq_true, if_false]
    simp only [if_true, hy]
    rw [Sem.bind_eq_wrap', Sem.bind_eq_wrap', Sem.wrap_wrap, Sem.wrap_wrap]
    refine seg_wrap ?_
    rw [hov]
    refine noex (thn (he.run _ s3 σ3 H3 _ I3 q3) fun yv s4 ⟨y, H4, I4, r4, b, ey, q4⟩ => ?_)
    subst ey
    cases r4
    have pin' : ∀ b ∈ fp, ∀ o, s2.heap.get? b = some o → s4.heap.get? b = some o ∧ H4 b = none := fun b hb o e =>
      let z := I4.pin (b, o) (List.mem_append_right _ (List.mem_append_right _ (mem_pinsAt hb e)))
      ⟨z.1, z.2.1⟩
    have hl : (wipe σ vs).length = σ3.length := by rw [← hw3, wipe_length]
    have I5 : Inv Xg pins (wipe σ vs) H4 s4 := (I4.unpinned (pins := pins)).weak hl (fun j v e => by
      rw [← hw3] at e
      exact (wipe_some e).1)
    have st5 : tn (i + 1) s4.heap := T.keep _ _ _ st2 fun b hb o e => (pin' b hb o e).1
    have n5 : ∀ b ∈ fp, H4 b = none := fun b hb => by
      obtain ⟨o, e, _⟩ := T.obj _ _ st2 b hb
      exact (pin' b hb o e).2
    refine seg_at (seg_yield rfl rfl rfl ⟨b, H4, rfl, I5, fun hb => ?_, fun hb s'' e1 e2 hg'' => ?_⟩)
    · subst hb
      rw [if_neg Bool.false_ne_true] at q4
      exact q4
    · subst hb
      rw [if_pos rfl] at q4
      obtain ⟨m', hm', w'⟩ := hNx H4 q4
      exact seg_again rfl (again m' H4 s'' hm' w' (Inv.same I5 e1 e2 hg'') (by rw [e1]; exact st5) n5)

theorem seg_all {Xg : Cx} {pins : List (Addr × Obj)} {σ : L2.St} {A : Around} {elt tg iter : Expr} {scope : Scope} {pos : Pos} {fp : List Addr} {it : Addr} {tn : Nat → Heap → Prop} {J : It} {g : TG} {te : TE} {vs : List Nat} {W : Nat → Nat → Hp → Prop} {Q : Bool → Hp → Prop}
    (hA : Xg.A = A.deeper Xg.env) (hcalm : Xg.calm = true) (hxe : Xg.xe = fun _ _ => False) (hco : Xg.env.scope.isCoroutine = false)
    (T : Turn Xg.prog Xg.w Xg.K tg J fp it tn) (hg : PG Xg tg g) (he : PE Xg elt te)
    (hfp : ∀ H, (∀ b ∈ fp, H b = none) → ∀ b ∈ fp, FpOk Xg pins H b) (turns : GTurns J g te vs σ W Q) :
    ∀ (n i m : Nat) (H : Hp) (s₀ s : Shared), m ≤ n → W i m H → Inv Xg pins (wipe σ vs) H s → tn i s.heap → (∀ b ∈ fp, H b = none) →
      Seg (model Xg.prog Xg.w) A (gR Xg pins (wipe σ vs) Q) (gY Xg pins (wipe σ vs) Q) (n + 1) s₀
        (.compLoop (.GeneratorExp elt [⟨tg, iter, [], 0⟩] scope pos) 0 (.ref it) .none Xg.env)
        ((model Xg.prog Xg.w).den (.compLoop (.GeneratorExp elt [⟨tg, iter, [], 0⟩] scope pos) 0 (.ref it) .none Xg.env)) [] s
  | 0, i, m, H, s₀, s, hmn, w, I, st, nfp => seg_turn hA hcalm hxe hco T hg he hfp turns 0 i m H s₀ s w I st nfp fun m' H' s' hm' => absurd hm' (by omega)
  | n + 1, i, m, H, s₀, s, hmn, w, I, st, nfp => seg_turn hA hcalm hxe hco T hg he hfp turns (n + 1) i m H s₀ s w I st nfp fun m' H' s' hm' w' I' st' n' =>
    seg_all hA hcalm hxe hco T hg he hfp turns n (i + 1) m' H' s' s' (by omega) w' I' st' n'

theorem seg_all0 {Xg : Cx} {pins : List (Addr × Obj)} {σ : L2.St} {A : Around} {elt tg iter : Expr} {scope : Scope} {pos : Pos} {fp : List Addr} {it : Addr} {tn : Nat → Heap → Prop} {J : It} {g : TG} {te : TE} {vs : List Nat} {W : Nat → Nat → Hp → Prop} {Q : Bool → Hp → Prop}
    (hA : Xg.A = A.deeper Xg.env) (hcalm : Xg.calm = true) (hxe : Xg.xe = fun _ _ => False) (hco : Xg.env.scope.isCoroutine = false)
    (T : Turn Xg.prog Xg.w Xg.K tg J fp it tn) (hg : PG Xg tg g) (he : PE Xg elt te)
    (hfp : ∀ H, (∀ b ∈ fp, H b = none) → ∀ b ∈ fp, FpOk Xg pins H b) (turns : GTurns J g te vs σ W Q)
    (m : Nat) (H : Hp) (s₀ s : Shared) (w : W 0 m H) (I : Inv Xg pins (wipe σ vs) H s) (st : tn 0 s.heap) (nfp : ∀ b ∈ fp, H b = none) :
      Seg (model Xg.prog Xg.w) A (gR Xg pins (wipe σ vs) Q) (gY Xg pins (wipe σ vs) Q) (m + 1) s₀
        (.compStart (.GeneratorExp elt [⟨tg, iter, [], 0⟩] scope pos) 0 (.ref it) .none Xg.env)
        ((model Xg.prog Xg.w).den (.compStart (.GeneratorExp elt [⟨tg, iter, [], 0⟩] scope pos) 0 (.ref it) .none Xg.env)) [] s := by
  have loop := fun s₁ => seg_all (iter := iter) (scope := scope) (pos := pos) hA hcalm hxe hco T hg he hfp turns m 0 m H s₁ s (Nat.le_refl _) w I st nfp
  show Seg _ A _ _ _ s₀ _ ((compStart (.GeneratorExp elt [⟨tg, iter, [], 0⟩] scope pos) 0 (.ref it) .none Xg.env).onRaise (leaving Xg.env)) [] s
  unfold compStart
  rw [Sem.onRaise_eq_wrap]
  show Seg _ A _ _ _ s₀ _ ((ask >>= _).wrap _ _ _ _) [] s
  refine seg_bind_wrap (wpAny_askSetting ?_)
  split
  · exact seg_again rfl (loop s₀)
  · refine seg_bind_wrap (wpAny_rule ?_)
    show Seg _ A _ _ _ s₀ _ ((standAt iter.pos >>= _).wrap _ _ _ _) [] s
    exact seg_bind_wrap (wpAny_standAt (seg_bind_wrap (T.self _ 0 s _ _ st (seg_again rfl (loop s₀)))))
end K04
namespace K04
open PySem PySem.Spec PyProof.Rows L2 GxR GenW

theorem boot_all' : bootBuiltins "all" = some (.builtin "all") := by decide +kernel
theorem setGen_at {s : Shared} {g : Nat} {x : GenState} (h : g + 1 ≤ (s.setGen g x).gens.size) : (s.setGen g x).gens[g]? = some x := by
  have h2 : g < s.gens.size := by
    rw [setGen_size] at h
    exact h
  simp [Shared.setGen, h2]

/-- all() draws from the generator -/
theorem all_loop {Xg : Cx} {pins : List (Addr × Obj)} {σw : L2.St} {Q : Bool → Hp → Prop} {A : Around} {a : Addr} {g : Nat} {R : Result → Shared → Prop}
    (hh : A.handled = none) (hroom : A.depth < recursionLimit) (hg : ∀ {H : Hp} {s : Shared}, Inv Xg pins σw H s → s.heap.IsGen a g ∧ s.heap.NoLimit)
    (hR : ∀ b H s, Inv Xg pins σw H s → Q b H → R (.ok (.ret (.bool b))) s) :
    ∀ (k : Nat) (gs : GenState) (s : Shared), s.heap.IsGen a g → s.heap.NoLimit → s.gens[g]? = some gs →
      gs.Goes (model Xg.prog Xg.w) A.in1.in1 (gR Xg pins σw Q) (gY Xg pins σw Q) k (.send .none) (s.setGen g .running) →
      codeAny (model Xg.prog Xg.w) A (.builtin "all.loop" ⟨[.ref a], []⟩) R s := by
  intro k
  induction k with
  | zero =>
    intro gs s ig nl hgs hgo
    have hlt : g + 1 ≤ s.gens.size := (Array.getElem?_eq_some_iff.mp hgs).1
    refine codeAny_builtin F.entry_all_loop ?_
    rw [Around.under_plainId F.plain_all_loop _]
    show wpAny _ A.in1 (pyNext (.ref a) >>= _) _ _ s
    refine wpAny_bind (wpAny_gsz hlt (wpAny_pyNext_genexpQ (P := gEnd Xg pins σw Q) hh nl hroom ig hgs hgo (fun v s₁ gs' hb hv hsz => ?_) fun s₁ hp h' hk hsz => ?_))
    · obtain ⟨b, H', rfl, I', hF, hT⟩ := hv
      refine wpAny_bind (wpAny_holding (wpAny_truthy_bool ?_))
      refine wpAny_bind (wpAny_letGo ?_)
      cases b with
      | true => exact (hT rfl s₁ rfl rfl I'.bare).elim
      | false =>
        simp only [Bool.false_eq_true, if_false]
        exact wpAny_bind (wpAny_rule (wpAny_pure (hR false H' _ (setGen_inv I' hb) (hF rfl))))
    · obtain ⟨H', I', q⟩ := hp
      refine wpAny_bind (wpAny_rule (wpAny_pure ?_))
      exact hR true H' _ ((setGen_inv I' (g := g) (x := .finished) rfl).kept (t' := s₁.toks) hk) q
  | succ k ih =>
    intro gs s ig nl hgs hgo
    have hlt : g + 1 ≤ s.gens.size := (Array.getElem?_eq_some_iff.mp hgs).1
    refine codeAny_builtin F.entry_all_loop ?_
    rw [Around.under_plainId F.plain_all_loop _]
    show wpAny _ A.in1 (pyNext (.ref a) >>= _) _ _ s
    refine wpAny_bind (wpAny_gsz hlt (wpAny_pyNext_genexpQ (P := gEnd Xg pins σw Q) hh nl hroom ig hgs hgo (fun v s₁ gs' hb hv hsz => ?_) fun s₁ hp h' hk hsz => ?_))
    · obtain ⟨b, H', rfl, I', hF, hT⟩ := hv
      refine wpAny_bind (wpAny_holding (wpAny_truthy_bool ?_))
      refine wpAny_bind (wpAny_letGo ?_)
      have I2 := setGen_inv (g := g) (x := gs') I' hb
      cases b with
      | true =>
        simp only [if_true]
        exact wpAny_pure ⟨plainId_quiet F.plain_all_loop _, ih gs' (s₁.setGen g gs') (hg I2).1 (hg I2).2 (setGen_at hsz) (hT rfl ((s₁.setGen g gs').setGen g .running) rfl rfl (allBare_setGen I2.bare rfl))⟩
      | false =>
        simp only [Bool.false_eq_true, if_false]
        exact wpAny_bind (wpAny_rule (wpAny_pure (hR false H' _ I2 (hF rfl))))
    · obtain ⟨H', I', q⟩ := hp
      refine wpAny_bind (wpAny_rule (wpAny_pure ?_))
      exact hR true H' _ ((setGen_inv I' (g := g) (x := .finished) rfl).kept (t' := s₁.toks) hk) q

/-- the generator expression's own scope -/
structure GScp (scope : Scope) (N : List Str) : Prop where
  co : scope.isCoroutine = false
  cell : ∀ y ∈ scope.names, y.2 ≠ .cell
  dot : scope.names.lookup (".0" : Str) = some NameKind.local

def tAllG (P : Addr) (wi : TI) (g : TG) (te : TE) (vs : List Nat) : TE := fun σ H Q => wi σ H fun J H1 => TabG H1 P ∧ ∀ H2, Tabbed P H1 H2 →
  ∃ W : Nat → Nat → Hp → Prop, (∃ m, W 0 m H2) ∧ GTurns J g te vs σ W (fun b H' => Q (.bl b) H')

section
variable {X : Cx}
theorem pe_allG {c P : Addr} {elt tg iter : Expr} {p pos gpos : Pos} {scope : Scope} {own : List (Str × Nat)} {wi : TI} {g : TG} {te : TE} {k : Nat}
    (hr : Room (k + 1) X.A) (hc : X.calm = true) (hN : X.N.Nodup) (hgl : Gl X "all") (hm : X.mg "all" = none) (TB : TabB X.base X.mg c P) (hcode : X.env.code = .ref c) (S : GScp scope X.N) (hi : PI X tg iter wi) (ok : BlkOk X.N X.env.scope scope own)
    (hg : ∀ (s : Shared) (H : Hp) (A : Around) (C : Addr) (cl : List (Str × Addr)) (code : Value) (fp : List Addr), PG (gcx X s H A (genEnv scope cl C code builtinsNs X.env) fp) tg g)
    (he : ∀ (s : Shared) (H : Hp) (A : Around) (C : Addr) (cl : List (Str × Addr)) (code : Value) (fp : List Addr), Room k (A.deeper (genEnv scope cl C code builtinsNs X.env)) → PE (gcx X s H A (genEnv scope cl C code builtinsNs X.env) fp) elt te)
    (hs : ∀ v, genFold iter X.env v = pure v := by intro _; rfl)
    (hst : starEach [.GeneratorExp elt [⟨tg, iter, [], 0⟩] scope gpos] X.env = (false, eval (.GeneratorExp elt [⟨tg, iter, [], 0⟩] scope gpos) X.env) :: starEach [] X.env := by rfl) :
    PE X (.Call (.Name "all" p) [.GeneratorExp elt [⟨tg, iter, [], 0⟩] scope gpos] [] pos) (tAllG P wi g te (own.map (·.2))) := by
  refine ⟨fun pins s σ H Q I h => ?_⟩
  refine wpAny_Call_Name_kw (ld_blt I hgl hm boot_all' ?_)
  refine PyProof.Rows.callWith_builtin1 ?_ hst (by rfl)
  rw [hst]
  show wpAny _ _ (spliced ((false, eval (.GeneratorExp elt [⟨tg, iter, [], 0⟩] scope gpos) X.env) :: backTo pos (starEach [] X.env))) _ _ s
  refine Calls.spliced_cons ?_
  have hfree : ∀ y ∈ scope.names, y.2 = .free → ∃ c, X.env.cells.lookup y.1 = some c := fun y hy e => by
    rcases ok.free y hy e with k | k
    · exact I.ok.has _ (.inl k)
    · exact I.ok.has _ (.inr k)
  refine wpAny_GeneratorExp_make S.co (closure_ok hfree) S.cell S.dot ok.kind (by have := hr.dp; omega) ?_ hs
  refine thn (hi.run pins s σ H _ I h) fun xv s1 h1 => thn h1 fun itv s2 h2 => ?_
  obtain ⟨it, fp, tn, J, H2, rfl, I2, T, st2, f2, ⟨ps, hP, ht⟩, q⟩ := h2
  have hPs : s2.heap.get? P = some { cls := .none, data := .fields ps } := I2.hok P _ hP
  have hPlt : P < s2.heap.objs.size := Heap.lt_size hPs
  have cd : PySem.W.CodeHd s2.heap c P := TB.code.keeps fun b u e => I2.bk b u e
  have lim2 : s2.heap.NoLimit := I2.nolimit
  refine ⟨lim2, ?_⟩
  have nP : ∀ b ∈ fp, b ≠ P := fun b hb z => by
    have e := (f2 b hb).1
    rw [z, hP] at e
    cases e
  -- behind the code object
  have cont : ∀ (code : Value) (s3 : Shared) (H3 : Hp), Inv X pins σ H3 s3 → Tabbed P H2 H3 → (∀ b o, b ≠ P → s2.heap.get? b = some o → s3.heap.get? b = some o) →
      wpAny (model X.prog X.w) X.A (builtinsFor X.env.globals X.env.builtins) (fun bi s₄ =>
        ∀ h', h'.Ns s₄.heap.objs.size (fun y => if y = ".0" then some (Value.ref it) else none) → Heap.SameBut s₄.heap.objs.size (s₄.heap.push { cls := .type "frame", data := .dict #[] }) h' →
          wpAny (model X.prog X.w) X.A (spliced (backTo pos (starEach [] X.env))) (fun us s' => wpAny (model X.prog X.w) X.A (call (.builtin "all") (Value.ref h'.objs.size :: us)) (EP X pins σ Q) X.xe s') X.xe { s₄ with
            gens := s₄.gens.push (.fresh (.compStart (.GeneratorExp elt [⟨tg, iter, [], 0⟩] scope gpos) 0 (.ref it) .none (genEnv scope (cloFrom X.env.cells scope.names []) s₄.heap.objs.size code bi X.env))),
            toks := s₄.toks + 1 + 1 + 1,
            heap := h'.push { cls := .type "generator", data := .fields #[.int s₄.gens.size 0, .str "<genexpr>" (s₄.toks + 1), .str (X.env.qual ++ "<genexpr>") (s₄.toks + 1 + 1)] } }) X.xe s3 := by
    intro code s3 H3 I3 tb3 kp3
    obtain ⟨bm, ob, e1, e2, e3, e4, e5, e6, e7, e8⟩ := TB.bm
    refine wpAny_builtinsFor (m := X.mg) (by rw [I3.ok.glob]; exact I3.mod.glob.keeps I3.bk) e1 e2 (I3.bk _ _ e5) e6 e7 e8 ?_
    intro h' hn' hs'
    -- the generator's own object
    have hsz : h'.objs.size = s3.heap.objs.size + 1 := by rw [hs'.1, Heap.size_push]
    have keep' : ∀ b o, s3.heap.get? b = some o → h'.get? b = some o := fun b o e => hs'.extBut b o (Nat.ne_of_lt (Heap.lt_size e)) (Heap.get?_push_of_some _ e)
    generalize hgo : ({ cls := .type "generator", data := .fields #[.int s3.gens.size 0, .str "<genexpr>" (s3.toks + 1), .str (X.env.qual ++ "<genexpr>") (s3.toks + 1 + 1)] } : Obj) = go
    have keep5 : ∀ b o, s3.heap.get? b = some o → (h'.push go).get? b = some o := fun b o e => Heap.get?_push_of_some _ (keep' b o e)
    have go_at : (h'.push go).get? h'.objs.size = some go := Heap.get?_push_size _ (by rw [← hgo]; rfl)
    generalize ha : h'.objs.size = a at go_at
    generalize hce : genEnv scope (cloFrom X.env.cells scope.names []) s3.heap.objs.size code builtinsNs X.env = cenv
    have cL : cenv.locals = s3.heap.objs.size := by rw [← hce]; rfl
    have cS : cenv.scope = scope := by rw [← hce]; rfl
    have szf : ∀ b ∈ fp, b < s3.heap.objs.size := fun b hb => by
      obtain ⟨o, e, _⟩ := T.obj _ _ st2 b hb
      exact Heap.lt_size (kp3 b o (nP b hb) e)
    have nH3 : ∀ b ∈ fp, H3 b = none := fun b hb => by
      rw [tb3.2 b (nP b hb)]
      exact (f2 b hb).1
    have f3 : ∀ b ∈ fp, FpOk X pins H3 b ∧ b < s3.heap.objs.size := fun b hb => ⟨⟨nH3 b hb, (f2 b hb).2⟩, szf b hb⟩
    have st3 : tn 0 (h'.push go) := T.keep _ _ _ st2 fun b hb o e => keep5 b o (kp3 b o (nP b hb) e)
    refine Calls.spliced_nil ?_
    refine call_function_tree F.kind_all F.plain_all F.entry_all (F.args_all1 _) ?_
    unfold Builtin.«all»
    refine wpAny_bind (m := oneArg "all" _) (wpAny_pure ?_)
    have ig : ∀ {s' : Shared}, s'.heap.get? a = some go → s'.heap.IsGen a s3.gens.size := fun {s'} e => ⟨go, _, _, e, by rw [← hgo], by rw [← hgo], by rw [← hgo]⟩
    refine wpAny_bind (wpAny_pyIter_gen (ig (s' := { s3 with gens := _, toks := _, heap := _ }) go_at) ?_)
    refine wpAny_pure ⟨plainId_quiet F.plain_all_loop _, ?_⟩
    obtain ⟨W, ⟨m0, w0⟩, turns⟩ := q H3 tb3
    have hF1 : X.A.in1.in1.frames = some X.stack := I3.ok.frames
    have I5 : Inv (gcx X s3 H3 X.A.in1.in1 cenv fp) [] (wipe σ (own.map (·.2))) H3 { s3 with gens := s3.gens.push (.fresh (.compStart (.GeneratorExp elt [⟨tg, iter, [], 0⟩] scope gpos) 0 (.ref it) .none cenv)), toks := s3.toks + 1 + 1 + 1, heap := h'.push go } := by
      have z := gen_start (A := X.A.in1.in1) (code := code) (h' := h'.push go) (tk := s3.toks + 1 + 1 + 1) (g' := s3.gens.push (.fresh (.compStart (.GeneratorExp elt [⟨tg, iter, [], 0⟩] scope gpos) 0 (.ref it) .none cenv))) I3 ok hN S.cell f3 hr.hd hF1 (hn'.push go) keep5 (I3.bare.push rfl)
      rw [hce] at z
      exact z
    have a_ge : s3.heap.objs.size + 1 ≤ a := by rw [← ha, hsz]; exact Nat.le_refl _
    have I6 : Inv (gcx X s3 H3 X.A.in1.in1 cenv fp) [(a, go)] (wipe σ (own.map (·.2))) H3 { s3 with gens := s3.gens.push (.fresh (.compStart (.GeneratorExp elt [⟨tg, iter, [], 0⟩] scope gpos) 0 (.ref it) .none cenv)), toks := s3.toks + 1 + 1 + 1, heap := h'.push go } := I5.pins_of fun p hp => by
      rw [List.mem_singleton.mp hp]
      refine ⟨go_at, I3.hok.fresh (Nat.le_of_succ_le a_ge), ?_, fun hb => ?_, fun v z => ?_⟩
      · show a ≠ cenv.locals
        rw [cL]
        exact Nat.ne_of_gt a_ge
      · have hb : a ∈ frs X.stack := hb
        obtain ⟨_, o, ho, _⟩ := I3.stack.mem hb
        have h9 := Heap.lt_size ho
        exact absurd (Nat.lt_of_lt_of_le h9 (Nat.le_of_succ_le a_ge)) (Nat.lt_irrefl _)
      · rw [← hgo] at z
        cases z
    have hfp : ∀ H, (∀ b ∈ fp, H b = none) → ∀ b ∈ fp, FpOk (gcx X s3 H3 X.A.in1.in1 cenv fp) [(a, go)] H b := fun H hn b hb =>
      ⟨hn b hb, (I5.ok.exf b hb).1, I5.ok.exfs b hb, .inl hb, fun x c e => (I5.ok.exf b hb).2 x c e, fun p hp z => by
        have hp : p ∈ ([] : List (Addr × Obj)) ++ [(a, go)] := hp
        rw [List.nil_append] at hp
        rw [List.mem_singleton.mp hp] at z
        have h9 := szf b hb
        rw [← z] at h9
        exact absurd (Nat.lt_of_lt_of_le h9 (Nat.le_of_succ_le a_ge)) (Nat.lt_irrefl _)⟩
    have hrg : Room k (X.A.in1.in1.deeper cenv) := ⟨hr.hd, by have := hr.dp; show X.A.depth + 1 + 3 * k + 5 < _; omega, by have := hr.un; show X.A.units + 1 + 1 + 3 + 16 * k + 200 < _; omega⟩
    have pg := hg s3 H3 X.A.in1.in1 s3.heap.objs.size (cloFrom X.env.cells scope.names []) code fp
    have pe := he s3 H3 X.A.in1.in1 s3.heap.objs.size (cloFrom X.env.cells scope.names []) code fp
    rw [hce] at pg pe
    refine all_loop (Xg := gcx X s3 H3 X.A.in1.in1 cenv fp) (pins := [(a, go)]) (σw := wipe σ (own.map (·.2))) (Q := fun b H' => Q (.bl b) H') hr.hd (by have := hr.dp; show X.A.depth < _; omega) (fun I => ⟨ig (I.pin (a, go) (List.mem_append_right _ List.mem_cons_self)).1, I.nolimit⟩)
      (fun b H' s' I' q' => ?_) (m0 + 1) _ _ ?_ I6.nolimit (Array.getElem?_push_size ..) ⟨rfl, ?_⟩
    · exact ⟨.bl b, H', I3.call' (ch := fp) I'.os I'.base I'.hok I'.bare fun b hb => ⟨(f3 b hb).1.2.2.2.1, (f3 b hb).1.2.1, (f3 b hb).1.2.2.2.2.1, (f3 b hb).1.2.2.2.2.2⟩, rfl, q'⟩
    · exact ig (I6.pin (a, go) (List.mem_append_right _ List.mem_cons_self)).1
    · exact seg_all0 (Xg := gcx X s3 H3 X.A.in1.in1 cenv fp) rfl rfl rfl (by show cenv.scope.isCoroutine = false; rw [cS]; exact S.co) T pg (pe hrg) hfp turns m0 H3 _ _ w0 (setGen_inv (g := s3.gens.size) (x := .running) I6 rfl) st3 nH3
  cases hf : codeAmong gpos ps.toList with
  | none =>
    refine wpAny_genexprCodeX hcode (cd.code hPs ht) (cd.tab hPs) hf fun c' h' tk hx hge hlt hco' _ htab' _ => ?_
    obtain ⟨o1, vs, f1, tf, fl, tg', inF, tx, tt, op, _, _, _, _, _, _, _, _, _, htr, _⟩ := hco'
    have kp : ∀ b o, b ≠ P → s2.heap.get? b = some o → h'.get? b = some o := fun b o hb e => hx b o hb e
    have J2 := inv_tab (more := #[rawInt gpos.line, rawInt gpos.col, .ref c']) (h' := h') (g' := s2.gens) (d' := s2.drawn) (t' := tk) I2 hP kp htab'.2 I2.bare
    exact cont (.ref c') _ _ J2 ⟨⟨_, upd_same, htr⟩, fun b hb => upd_ne hb⟩ kp
  | some cv =>
    refine wpAny_genexprCode_hit hcode (cd.code hPs ht) hf ?_
    exact cont cv s2 H2 I2 ⟨⟨ps, hP, ht⟩, fun _ _ => rfl⟩ fun _ _ _ e => e
end
end K04
namespace K04
open PySem PySem.Spec PyProof.Rows L2

/-! ### data -/
inductive D where
  | non | bl (b : Bool) | int (i : Int) | str (s : Str) | tup (l : List D)
mutual
/-- v stands for the data d in the heap H -/
inductive Td (H : Hp) : V → D → Prop
  | non : Td H .non .non
  | bl (b : Bool) : Td H (.bl b) (.bl b)
  | int (i : Int) : Td H (.int i) (.int i)
  | str (s : Str) (h : s.length ≤ 1000) : Td H (.str s) (.str s)
  | tup {a : Addr} {xs : List V} {ds : List D} (e : H a = some (.tup xs)) (l : xs.length ≤ 1000) (h : Tds H xs ds) : Td H (.ref a) (.tup ds)
inductive Tds (H : Hp) : List V → List D → Prop
  | nil : Tds H [] []
  | cons {v : V} {vs : List V} {d : D} {ds : List D} : Td H v d → Tds H vs ds → Tds H (v :: vs) (d :: ds)
end
/-- tuples stay -/
def Kp (H H' : Hp) : Prop := ∀ a xs, H a = some (.tup xs) → H' a = some (.tup xs)
theorem Kp.refl (H : Hp) : Kp H H := fun _ _ h => h
theorem Kp.trans {H H1 H2 : Hp} (a : Kp H H1) (b : Kp H1 H2) : Kp H H2 := fun c xs h => b c xs (a c xs h)
mutual
theorem Td.mono {H H' : Hp} (k : Kp H H') : ∀ {v : V} {d : D}, Td H v d → Td H' v d
  | _, _, .non => .non
  | _, _, .bl b => .bl b
  | _, _, .int i => .int i
  | _, _, .str s l => .str s l
  | _, _, .tup e l h => .tup (k _ _ e) l (Tds.mono k h)
theorem Tds.mono {H H' : Hp} (k : Kp H H') : ∀ {vs : List V} {ds : List D}, Tds H vs ds → Tds H' vs ds
  | _, _, .nil => .nil
  | _, _, .cons a b => .cons (Td.mono k a) (Tds.mono k b)
end
section
variable {H H' : Hp} {v : V} {vs : List V} {d : D} {ds : List D} {a : Addr} {xs : List V}
theorem Td.tup_inv (h : Td H v (.tup ds)) : ∃ a xs, v = .ref a ∧ H a = some (.tup xs) ∧ xs.length ≤ 1000 ∧ Tds H xs ds := by
  cases h with
  | tup e l h => exact ⟨_, _, rfl, e, l, h⟩
theorem Td.int_inv {i : Int} (h : Td H v (.int i)) : v = .int i := by cases h; rfl
theorem Td.str_inv {s : Str} (h : Td H v (.str s)) : v = .str s ∧ s.length ≤ 1000 := by
  cases h with
  | str _ l => exact ⟨rfl, l⟩
theorem Td.bl_inv {b : Bool} (h : Td H v (.bl b)) : v = .bl b := by cases h; rfl
theorem Td.non_inv (h : Td H v .non) : v = .non := by cases h; rfl
theorem Tds.length : ∀ {vs : List V} {ds : List D}, Tds H vs ds → vs.length = ds.length
  | _, _, .nil => rfl
  | _, _, .cons _ h => congrArg (· + 1) h.length
theorem Tds.get : ∀ {vs : List V} {ds : List D} {i : Nat} {x : V}, Tds H vs ds → vs[i]? = some x → ∃ d, ds[i]? = some d ∧ Td H x d
  | _, _, 0, _, .cons h _, e => by simp at e; subst e; exact ⟨_, rfl, h⟩
  | _, _, i + 1, x, .cons _ t, e => by
    obtain ⟨d, h1, h2⟩ := Tds.get (i := i) (x := x) t (by simpa using e)
    exact ⟨d, by simpa using h1, h2⟩
theorem Tds.getD : ∀ {vs : List V} {ds : List D} {i : Nat} {d : D}, Tds H vs ds → ds[i]? = some d → ∃ x, vs[i]? = some x ∧ Td H x d
  | _, _, 0, _, .cons h _, e => by simp at e; subst e; exact ⟨_, rfl, h⟩
  | _, _, i + 1, x, .cons _ t, e => by
    obtain ⟨d, h1, h2⟩ := Tds.getD (i := i) (d := x) t (by simpa using e)
    exact ⟨d, by simpa using h1, h2⟩
theorem Tds.append : ∀ {vs ws : List V} {ds es : List D}, Tds H vs ds → Tds H ws es → Tds H (vs ++ ws) (ds ++ es)
  | _, _, _, _, .nil, s => s
  | _, _, _, _, .cons r t, s => .cons r (Tds.append t s)
theorem Tds.take : ∀ {vs : List V} {ds : List D} (n : Nat), Tds H vs ds → Tds H (vs.take n) (ds.take n)
  | _, _, 0, _ => .nil
  | _, _, _ + 1, .nil => .nil
  | _, _, n + 1, .cons r t => .cons r (Tds.take n t)
theorem Tds.drop : ∀ {vs : List V} {ds : List D} (n : Nat), Tds H vs ds → Tds H (vs.drop n) (ds.drop n)
  | _, _, 0, r => r
  | _, _, _ + 1, .nil => .nil
  | _, _, n + 1, .cons _ t => Tds.drop n t
theorem Tds.one {v : V} {d : D} (h : Td H v d) : Tds H [v] [d] := .cons h .nil
theorem Tds.nil_inv (h : Tds H vs []) : vs = [] := by cases h; rfl
theorem Tds.cons_inv (h : Tds H vs (d :: ds)) : ∃ x xs, vs = x :: xs ∧ Td H x d ∧ Tds H xs ds := by
  cases h with
  | cons a b => exact ⟨_, _, rfl, a, b⟩
theorem Tds.nil_inv' (h : Tds H [] ds) : ds = [] := by cases h; rfl
theorem Tds.cons_inv' (h : Tds H (v :: vs) ds) : ∃ e es, ds = e :: es ∧ Td H v e ∧ Tds H vs es := by
  cases h with
  | cons a b => exact ⟨_, _, rfl, a, b⟩
end

/-! ### heaps -/
/-- all but code tables is as it was -/
def Ext (H H' : Hp) : Prop := ∀ b o, H b = some o → (∀ ps, o ≠ .tbl ps) → H' b = some o
theorem Ext.refl (H : Hp) : Ext H H := fun _ _ h _ => h
theorem Ext.trans {H H1 H2 : Hp} (a : Ext H H1) (b : Ext H1 H2) : Ext H H2 := fun c o h n => b c o (a c o h n) n
theorem Ext.of {H H' : Hp} (e : Same H H') : Ext H H' := fun b o h _ => e b o h
theorem Ext.kp {H H' : Hp} (e : Ext H H') : Kp H H' := fun b xs h => e b _ h fun ps z => by cases z
theorem Same.kp {H H' : Hp} (e : Same H H') : Kp H H' := fun b xs h => e b _ h
theorem Same.new {H : Hp} {p : Addr} (h : H p = none) (o : HO) : Same H (upd H p o) := fun b u q => by rw [upd_ne (ne_of_none q h)]; exact q
theorem Same.new' {H0 H : Hp} {p : Addr} (e : Same H0 H) (h : H p = none) (o : HO) : Same H0 (upd H p o) := e.trans (Same.new h o)
theorem Ext.new' {H0 H : Hp} {p : Addr} (e : Ext H0 H) (h : H p = none) (o : HO) : Ext H0 (upd H p o) := e.trans (.of (Same.new h o))
/-- an object that H0 does not know is changed -/
theorem Same.mut {H0 H : Hp} {p : Addr} {o : HO} (e : Same H0 H) (h : H0 p = none) : Same H0 (upd H p o) := fun b u q => by
  rw [upd_ne (ne_of_none q h)]
  exact e b u q
theorem Ext.mut {H0 H : Hp} {p : Addr} {o : HO} (e : Ext H0 H) (h : H0 p = none) : Ext H0 (upd H p o) := fun b u q n => by
  rw [upd_ne (ne_of_none q h)]
  exact e b u q n
theorem Ext.lst {H H' : Hp} {p : Addr} {xs : List V} (e : Ext H H') (h : H p = some (.lst xs)) : H' p = some (.lst xs) := e p _ h fun ps z => by cases z
theorem Ext.tup {H H' : Hp} {p : Addr} {xs : List V} (e : Ext H H') (h : H p = some (.tup xs)) : H' p = some (.tup xs) := e p _ h fun ps z => by cases z
/-- the code tables -/
def Tabs (Ts : List Addr) (H : Hp) : Prop := ∀ P ∈ Ts, GxR.TabG H P
theorem Tabs.same {Ts : List Addr} {H H' : Hp} (t : Tabs Ts H) (e : Same H H') : Tabs Ts H' := fun P hP => by
  obtain ⟨ps, h1, h2⟩ := t P hP
  exact ⟨ps, e _ _ h1, h2⟩
theorem Tabs.grown {Ts : List Addr} {H H' : Hp} {P : Addr} (t : Tabs Ts H) (g : GxR.Tabbed P H H') : Tabs Ts H' := fun Q hQ => by
  by_cases e : Q = P
  · rw [e]; exact g.1
  · obtain ⟨ps, h1, h2⟩ := t Q hQ
    exact ⟨ps, by rw [g.2 _ e]; exact h1, h2⟩
theorem Ext.grown {H H' : Hp} {P : Addr} (h : GxR.TabG H P) (g : GxR.Tabbed P H H') : Ext H H' := fun b o e n => by
  by_cases z : b = P
  · obtain ⟨ps, h1, _⟩ := h
    rw [z, h1] at e
    exact absurd (Option.some.inj e).symm (n ps)
  · rw [g.2 _ z]; exact e
/-- tables may have grown, all else as it was -/
structure ExT (Ts : List Addr) (H H' : Hp) : Prop where
  ext : Ext H H'
  tab : Tabs Ts H'
theorem ExT.refl {Ts : List Addr} {H : Hp} (t : Tabs Ts H) : ExT Ts H H := ⟨Ext.refl H, t⟩
theorem ExT.trans {Ts : List Addr} {H H1 H2 : Hp} (a : ExT Ts H H1) (b : ExT Ts H1 H2) : ExT Ts H H2 := ⟨a.ext.trans b.ext, b.tab⟩
theorem ExT.same {Ts : List Addr} {H H1 H2 : Hp} (a : ExT Ts H H1) (b : Same H1 H2) : ExT Ts H H2 := ⟨a.ext.trans (.of b), a.tab.same b⟩
theorem ExT.new {Ts : List Addr} {H H1 : Hp} {p : Addr} (a : ExT Ts H H1) (h : H1 p = none) (o : HO) : ExT Ts H (upd H1 p o) := a.same (Same.new h o)
theorem ExT.grown {Ts : List Addr} {H H1 H2 : Hp} {P : Addr} (a : ExT Ts H H1) (hP : P ∈ Ts) (g : GxR.Tabbed P H1 H2) : ExT Ts H H2 := ⟨a.ext.trans (Ext.grown (a.tab P hP) g), a.tab.grown g⟩
theorem ExT.kp {Ts : List Addr} {H H1 : Hp} (a : ExT Ts H H1) : Kp H H1 := a.ext.kp
/-- all but the list at r is as it was (r holds a list) -/
def RFr (r : Addr) (H H' : Hp) : Prop := ∀ b o, H b = some o → b ≠ r → H' b = some o

theorem sz100 {n : Nat} (h : n ≤ 1000000) : n ≤ sizeLine := Nat.le_trans h (by decide)
theorem szlt {n : Nat} (h : n < 1000000) : n < sizeLine := Nat.lt_of_lt_of_le h (by decide)

/-! ### callees -/
section
variable (P : Program) (w : World) (K : PySem.W.Frag) (mg : Str → Option Value) (base : Heap)
/-- the module's def x keeps the promise sp -/
structure Cal (k : Nat) (x : Str) (ps : List Str) (sp : Sp) : Prop where
  ex : ∃ (f : Addr) (fd : FuncData), FnOk P w K mg base CX0 k f fd ps sp ∧ Binds K fd ps [] ∧ PySem.W.keepIn K (.ref f) = true ∧ mg x = some (.ref f)
/-- the def x of the text stands as the module's name -/
structure Def (x : Str) (st : Stmt) (ps : List Str) : Prop where
  ex : ∃ (f : Addr) (fd : FuncData), Fun K x x st f fd ∧ Binds K fd ps [] ∧ mg x = some (.ref f)
end
section
variable {P : Program} {w : World} {K : PySem.W.Frag} {mg : Str → Option Value} {base : Heap}
theorem Cal.mono {j k : Nat} {x : Str} {ps : List Str} {sp : Sp} (c : Cal P w K mg base j x ps sp) (h : j ≤ k) : Cal P w K mg base k x ps sp := by
  obtain ⟨f, fd, F, r⟩ := c.ex
  exact ⟨f, fd, F.mono h, r⟩
theorem Cal.imp {k : Nat} {x : Str} {ps : List Str} {sp sp' : Sp} (c : Cal P w K mg base k x ps sp) (h : ∀ vs H Q E, sp' vs H Q E → sp vs H Q E) : Cal P w K mg base k x ps sp' := by
  obtain ⟨f, fd, F, r⟩ := c.ex
  exact ⟨f, fd, F.imp h, r⟩
/-- THE RULE for a def -/
theorem Def.ok {x : Str} {st : Stmt} {ps N : List Str} {k : Nat} {sp : Sp} (d : Def K mg x st ps) (S : FnScope N ps (defScope st)) (len : ∀ vs H Q E, sp vs H Q E → vs.length = ps.length)
    (hbody : ∀ (f : Addr) (cdv : Value) (A : Around) (outer : List Env) (s : Shared) (H : Hp) (vs : List V) (Q : VK) (E : XK), Room k (A.deeper (envOfC x (defScope st) s.heap.objs.size f cdv)) → sp vs H Q E →
      ∃ t, PSs (cxOf CX0 P w K mg base N x (defScope st) f cdv A outer s H E).nox (defBody st) t ∧ t { nx := fun _ H' => Q .non H', rt := Q } (start N vs) H) : Cal P w K mg base (k + 1) x ps sp := by
  obtain ⟨f, fd, F, b, m⟩ := d.ex
  exact ⟨f, fd, F.ok S len (hbody f), b, F.kp, m⟩
theorem Cal.none {x : Str} {ps : List Str} {sp : Sp} {st : Stmt} (d : Def K mg x st ps) (h : ∀ vs H Q E, ¬ sp vs H Q E) : Cal P w K mg base 0 x ps sp := by
  obtain ⟨f, fd, F, b, m⟩ := d.ex
  exact ⟨f, fd, ⟨fun vs H Q E z => absurd z (h vs H Q E), fun A outer s H args us vs Q E _ _ _ _ z => absurd z (h vs H Q E)⟩, b, F.kp, m⟩
end
theorem pe_cal {X : Cx} {k : Nat} {x : Str} {ps : List Str} {sp : Sp} {p pos : Pos} {e : Expr} {es : List Expr} {t : TA} (c : Cal X.prog X.w X.K X.mg X.base k x ps sp) (hr : Room k X.A) (ha : PA X (e :: es) t) (hg : Gl X x := by rfl) (hdb : (x == ("__debug__" : Str)) = false := by decide)
    (he : starEach (e :: es) X.env = (false, eval e X.env) :: starEach es X.env := by rfl) (hpl : (backTo pos (starEach es X.env)).any (·.1) = false := by rfl) :
    PE X (.Call (.Name x p) (e :: es) [] pos) (tCall sp [] E0 t) := by
  obtain ⟨f, fd, F, b, kp, m⟩ := c.ex
  exact pe_call F hr hg m kp b .nil pass0 ha hdb he hpl
/-- a module's number, text -/
def GInt (mg : Str → Option Value) (x : Str) (i : Int) : Prop := ∃ t, mg x = some (.int i t)
def GStr (mg : Str → Option Value) (x : Str) (z : Str) : Prop := ∃ t, mg x = some (.str z t)
theorem pe_gint {X : Cx} {x : Str} {i : Int} {pos : Pos} (h : GInt X.mg x i) (hg : Gl X x := by rfl) (hd : (x == ("__debug__" : Str)) = false := by decide) : PE X (.Name x pos) (tC (.int i)) := by
  obtain ⟨t, e⟩ := h
  exact pe_glob hg e ⟨t, rfl⟩ hd
theorem pe_gstr {X : Cx} {x z : Str} {pos : Pos} (h : GStr X.mg x z) (hg : Gl X x := by rfl) (hd : (x == ("__debug__" : Str)) = false := by decide) : PE X (.Name x pos) (tC (.str z)) := by
  obtain ⟨t, e⟩ := h
  exact pe_glob hg e ⟨t, rfl⟩ hd
theorem pe_gref {X : Cx} {x : Str} {a : Addr} {pos : Pos} (h : X.mg x = some (.ref a)) (hg : Gl X x := by rfl) (hd : (x == ("__debug__" : Str)) = false := by decide) : PE X (.Name x pos) (tC (.ref a)) := pe_glob hg h rfl hd

/-! ### isinstance -/
def D.ty : D → String
  | .non => "NoneType"
  | .bl _ => "bool"
  | .int _ => "int"
  | .str _ => "str"
  | .tup _ => "tuple"
theorem Td.tyx {K : PySem.W.Frag} {H : Hp} {v : V} {d : D} (h : Td H v d) : TyX K H v (.type d.ty) := by
  cases h with
  | non => exact .base .non
  | bl b => exact .base (.bl b)
  | int i => exact .base (.int i)
  | str s _ => exact .base (.str s)
  | tup e _ _ => exact .base (.tup e)
theorem r_isi {K : PySem.W.Frag} {H : Hp} {v : V} {d : D} {n : String} {b : Bool} {Q : VK} (h : Td H v d) (e : kitB d.ty n = some b) (q : Q (.bl b) H) : rIsi K [v, .ty n] H Q := ⟨v, _, _, _, b, rfl, .ty n, h.tyx, kit_ty e, q⟩
def D.isTup : D → Bool | .tup _ => true | _ => false
def D.isStr : D → Bool | .str _ => true | _ => false
def D.isInt : D → Bool | .int _ => true | _ => false
def D.isBl : D → Bool | .bl _ => true | _ => false
def D.isIB : D → Bool | .int _ => true | .bl _ => true | _ => false
theorem kit_tup : ∀ d : D, kitB d.ty "tuple" = some d.isTup
  | .non => (by decide +kernel : kitB "NoneType" "tuple" = some false)
  | .bl _ => (by decide +kernel : kitB "bool" "tuple" = some false)
  | .int _ => (by decide +kernel : kitB "int" "tuple" = some false)
  | .str _ => (by decide +kernel : kitB "str" "tuple" = some false)
  | .tup _ => (by decide +kernel : kitB "tuple" "tuple" = some true)
theorem kit_str : ∀ d : D, kitB d.ty "str" = some d.isStr
  | .non => (by decide +kernel : kitB "NoneType" "str" = some false)
  | .bl _ => (by decide +kernel : kitB "bool" "str" = some false)
  | .int _ => (by decide +kernel : kitB "int" "str" = some false)
  | .str _ => (by decide +kernel : kitB "str" "str" = some true)
  | .tup _ => (by decide +kernel : kitB "tuple" "str" = some false)
theorem kit_int : ∀ d : D, kitB d.ty "int" = some d.isIB
  | .non => (by decide +kernel : kitB "NoneType" "int" = some false)
  | .bl _ => (by decide +kernel : kitB "bool" "int" = some true)
  | .int _ => (by decide +kernel : kitB "int" "int" = some true)
  | .str _ => (by decide +kernel : kitB "str" "int" = some false)
  | .tup _ => (by decide +kernel : kitB "tuple" "int" = some false)
theorem kit_bool : ∀ d : D, kitB d.ty "bool" = some d.isBl
  | .non => (by decide +kernel : kitB "NoneType" "bool" = some false)
  | .bl _ => (by decide +kernel : kitB "bool" "bool" = some true)
  | .int _ => (by decide +kernel : kitB "int" "bool" = some false)
  | .str _ => (by decide +kernel : kitB "str" "bool" = some false)
  | .tup _ => (by decide +kernel : kitB "tuple" "bool" = some false)

/-! ### the list is empty -/
def rEqNil (K : PySem.W.Frag) : R2 := fun x y H Q => ∃ a b xs, x = .ref a ∧ y = .ref b ∧ SqL K H a xs ∧ SqL K H b [] ∧ Q (.bl xs.isEmpty) H
def rNeNil (K : PySem.W.Frag) : R2 := fun x y H Q => ∃ a b xs, x = .ref a ∧ y = .ref b ∧ SqL K H a xs ∧ SqL K H b [] ∧ Q (.bl (!xs.isEmpty)) H
theorem op_eqNil {X : Cx} (hu : X.A.units < cLine) : OpR X (compareOp .Eq) (rEqNil X.K) := by
  intro pins s σ H x y v u Q I rx ry h
  obtain ⟨a, b, xs, rfl, rfl, ha, hb, q⟩ := h
  cases rx
  cases ry
  obtain ⟨its, rv, pl, hz⟩ := I.list ha
  obtain ⟨its2, rv2, pl2, hz2⟩ := I.list hb
  have hl := rv.length
  have hl2 := rv2.length
  cases xs with
  | nil =>
    have e1 : its = [] := List.length_eq_zero_iff.mp hl.symm
    have e2 : its2 = [] := List.length_eq_zero_iff.mp hl2.symm
    subst e1 e2
    exact SeqAt.eq_listAt (e := fun _ => true) pl.isList pl2.isList rfl hu (fun j h1 _ => absurd h1 (by simp)) ⟨.bl true, H, I, rfl, q⟩
  | cons x r =>
    refine SeqAt.eq_list_lengthsAt pl.isList pl2.isList ?_ hu ⟨.bl false, H, I, rfl, q⟩
    simp only [List.size_toArray, bne_iff_ne]
    simp only [List.length_cons, List.length_nil] at hl hl2
    omega
theorem op_neNil {X : Cx} (hu : X.A.units < cLine) : OpR X (compareOp .NotEq) (rNeNil X.K) := by
  intro pins s σ H x y v u Q I rx ry h
  obtain ⟨a, b, xs, rfl, rfl, ha, hb, q⟩ := h
  cases rx
  cases ry
  obtain ⟨its, rv, pl, hz⟩ := I.list ha
  obtain ⟨its2, rv2, pl2, hz2⟩ := I.list hb
  have hl := rv.length
  have hl2 := rv2.length
  cases xs with
  | nil =>
    have e1 : its = [] := List.length_eq_zero_iff.mp hl.symm
    have e2 : its2 = [] := List.length_eq_zero_iff.mp hl2.symm
    subst e1 e2
    exact SeqAt.RcNeAt.lists (e := fun _ => false) pl.isList pl2.isList rfl hu (fun j h1 _ => absurd h1 (by simp)) _ _ _ _ ⟨.bl false, H, I, rfl, q⟩
  | cons x r =>
    refine SeqAt.RcNeAt.lists_lengths pl.isList pl2.isList ?_ hu _ _ _ _ ⟨.bl true, H, I, rfl, q⟩
    simp only [List.size_toArray, bne_iff_ne]
    simp only [List.length_cons, List.length_nil] at hl hl2
    omega
end K04
namespace K04
open PySem PySem.Spec PyProof.Rows L2
/-! ### the text by places -/
def top (i : Nat) : Stmt := PySem.Challenge.pw_staged_k04_whole_plain_programs.main.body.getD i (.Pass ⟨0, 0, 0, 0⟩)
abbrev s_is_in : Stmt := top 13
abbrev s_is_name : Stmt := top 14
abbrev s_is_tuple : Stmt := top 15
abbrev s_parts_of : Stmt := top 16
abbrev s_calls_of : Stmt := top 17
abbrev s_worked : Stmt := top 21
abbrev s_need_lates : Stmt := top 22
abbrev s_need_fuel : Stmt := top 23
abbrev s_point_of : Stmt := top 28
abbrev s_is_plain_expression : Stmt := top 29
abbrev s_is_plain_function : Stmt := top 30
abbrev s_is_plain : Stmt := top 31
abbrev s_need_plain : Stmt := top 32
abbrev s_PlainRunner_init : Stmt := inClass (top 33) 0
abbrev s_PlainRunner_begin : Stmt := inClass (top 33) 1
abbrev s_PlainRunner_finish : Stmt := inClass (top 33) 2
abbrev s_PlainRunner_value : Stmt := inClass (top 33) 3
abbrev s_plain_run_of : Stmt := top 34
abbrev s_plain_run : Stmt := top 35
abbrev s__law_taken : Stmt := top 37
abbrev s__law_pick : Stmt := top 38
abbrev s__law_alike : Stmt := top 39
abbrev s__law_is_int : Stmt := top 40
abbrev s__law_name : Stmt := top 41
abbrev s__law_expression : Stmt := top 42
abbrev s__law_move : Stmt := top 43
abbrev s__law_is_early : Stmt := top 44
abbrev s__law_test : Stmt := top 45
abbrev s__law_program : Stmt := top 46
abbrev s__law_parts : Stmt := top 47
abbrev s__law_nodes : Stmt := top 48
abbrev s__law_calls : Stmt := top 49
abbrev s__law_body : Stmt := top 50
abbrev s__law_lates : Stmt := top 51
abbrev s__law_worked : Stmt := top 52
abbrev s__law_moved : Stmt := top 53
abbrev s__law_holds : Stmt := top 54
abbrev s__law_left : Stmt := top 55
abbrev s__law_called : Stmt := top 56
abbrev s__law_points : Stmt := top 57
abbrev s__law_plain_run : Stmt := top 58
abbrev s__law_staged : Stmt := top 59
abbrev s__law_is_name : Stmt := top 60
abbrev s__law_is_plain_part : Stmt := top 61
abbrev s__law_is_plain : Stmt := top 62
abbrev s__law_bent : Stmt := top 63
abbrev s_law : Stmt := top 64
/-! ### what the module's names stand for -/
def takenS : List Str := ["if", "then", "else", "mod", "a", "b", "c", "d", "e"]
def pairsS : List Str := ["plus", "minus", "times"]
def lettersS : Str := "abcdefghijklmnopqrstuvwxyz"
def digitsS : Str := "0123456789"
structure Txt (K : PySem.W.Frag) (mg : Str → Option Value) : Prop where
  f_isinstance : mg "isinstance" = none
  f_int : mg "int" = none
  f_bool : mg "bool" = none
  f_str : mg "str" = none
  f_tuple : mg "tuple" = none
  f_list : mg "list" = none
  f_len : mg "len" = none
  f_all : mg "all" = none
  f_min : mg "min" = none
  f_max : mg "max" = none
  f_range : mg "range" = none
  f_sorted : mg "sorted" = none
  MOST_NUMBER : GInt mg "MOST_NUMBER" 1000000
  MOST_LATES : GInt mg "MOST_LATES" 4
  MOST_LETTERS : GInt mg "MOST_LETTERS" 8
  MOST_DEEP : GInt mg "MOST_DEEP" 30
  MOST_FUEL : GInt mg "MOST_FUEL" 100000
  MOST_VALUE : GInt mg "MOST_VALUE" 1000000000000000000000000000000
  MOST_EARLY : GInt mg "MOST_EARLY" 10000000
  MOST_PLAIN : GInt mg "MOST_PLAIN" 300
  LETTERS : GStr mg "LETTERS" lettersS
  DIGITS : GStr mg "DIGITS" digitsS
  TAKEN : mg "TAKEN" = some (.ref (He.ga K "TAKEN"))
  PAIRS : mg "PAIRS" = some (.ref (He.ga K "PAIRS"))
  taken : ∀ H, SqL K H (He.ga K "TAKEN") (takenS.map V.str)
  pairs : ∀ H, SqL K H (He.ga K "PAIRS") (pairsS.map V.str)
theorem pe_ty {X : Cx} {x : Str} (n : String) {pos : Pos} (hm : X.mg x = none) (hg : Gl X x := by rfl) (hv : bootBuiltins x = some (.type n) := by decide +kernel) (hn : x ≠ "__name__" := by decide) (hd : (x == ("__debug__" : Str)) = false := by decide) : PE X (.Name x pos) (tC (.ty n)) :=
  pe_bltn hg hm hv rfl hn hd
theorem at0 {α : Type} {x : α} {r : List α} : atI (x :: r) 0 = some x := atI_nat (j := 0) rfl
theorem at1 {α : Type} {x y : α} {r : List α} : atI (x :: y :: r) 1 = some y := atI_nat (j := 1) rfl
theorem at2 {α : Type} {x y z : α} {r : List α} : atI (x :: y :: z :: r) 2 = some z := atI_nat (j := 2) rfl
theorem at3 {α : Type} {x y z u : α} {r : List α} : atI (x :: y :: z :: u :: r) 3 = some u := atI_nat (j := 3) rfl
end K04
namespace K04
open PySem PySem.Spec PyProof.Rows L2

theorem wipe_one {σ : L2.St} {ix : Nat} {v : Option V} : wipe ((wipe σ [ix]).set ix v) [ix] = wipe σ [ix] := by
  show ((σ.set ix none).set ix v).set ix none = σ.set ix none
  rw [List.set_set, List.set_set]
/-- all(f(c) for c in text) -/
theorem all_str {Q : Bool → Hp → Prop} {s : Str} {te : TE} {σ : L2.St} {ix : Nat} {H : Hp} {f : Nat → Bool}
    (hs : ∀ c ∈ s.cps.toList, ∀ Q' : VK, Q' (.bl (f c)) H → te ((wipe σ [ix]).set ix (some (.str ⟨#[c]⟩))) H Q') (q : Q (s.cps.toList.all f) H) :
    ∃ W : Nat → Nat → Hp → Prop, (∃ m, W 0 m H) ∧ GTurns (Its s) (gName ix) te [ix] σ W Q := by
  refine ⟨fun i m H' => H' = H ∧ i ≤ s.cps.toList.length ∧ m = s.cps.toList.length - i ∧ (s.cps.toList.take i).all f = true, ⟨_, rfl, Nat.zero_le _, rfl, rfl⟩, ?_⟩
  have hsz : s.cps.size = s.cps.toList.length := by simp
  rintro i m H' ⟨rfl, hi, rfl, ha⟩
  by_cases hlt : i < s.cps.toList.length
  · refine .inr ⟨show i < s.cps.size by omega, fun H'' => H'' = H' ∧ i + 1 ≤ s.cps.toList.length ∧ (s.cps.toList.take (i + 1)).all f = true, fun H'' ⟨e, h1, h2⟩ => ⟨s.cps.toList.length - (i + 1), by omega, e, h1, rfl, h2⟩, fun x H'' y => ?_⟩
    obtain ⟨rfl, c, hc, rfl⟩ := y
    have hc' : s.cps.toList[i]? = some c := by rw [Array.getElem?_toList]; exact hc
    refine ⟨wipe_one, hs c (List.mem_of_getElem? hc') _ ⟨f c, rfl, ?_⟩⟩
    have hcg : s.cps.toList[i] = c := by
      have := List.getElem?_eq_getElem hlt
      rw [hc'] at this
      exact (Option.some.inj this).symm
    have ht : (s.cps.toList.take (i + 1)).all f = ((s.cps.toList.take i).all f && f c) := by
      rw [List.take_succ_eq_append_getElem hlt, List.all_append, List.all_cons, List.all_nil, Bool.and_true, hcg]
    cases hf : f c with
    | true =>
      refine iteT ⟨rfl, hlt, ?_⟩
      rw [ht, ha, hf] <;> rfl
    | false =>
      refine iteF ?_
      have e : s.cps.toList.all f = false := by
        rw [List.all_eq_false]
        exact ⟨c, List.mem_of_getElem? hc', by rw [hf]; exact Bool.false_ne_true⟩
      rw [e] at q
      exact q
  · have e : i = s.cps.toList.length := by omega
    refine .inl ⟨show s.cps.size ≤ i by omega, ?_⟩
    rw [e, List.take_length] at ha
    rw [ha] at q
    exact q
/-- all(f(x) for x in tuple), the element may change what J allows -/
theorem all_tup {K : PySem.W.Frag} {Q : Bool → Hp → Prop} {a : Addr} {xs : List V} {ds : List D} {te : TE} {σ : L2.St} {ix : Nat} {H : Hp} {f : D → Bool} (J : Hp → Prop) (hd : Tds H xs ds) (hJ : J H) (ha : ∀ H, J H → H a = some (.tup xs))
    (hs : ∀ x d H1, Td H x d → d ∈ ds → J H1 → ∀ Q' : VK, (∀ H2, J H2 → Q' (.bl (f d)) H2) → te ((wipe σ [ix]).set ix (some x)) H1 Q') (q : ∀ H1, J H1 → Q (ds.all f) H1) :
    ∃ W : Nat → Nat → Hp → Prop, (∃ m, W 0 m H) ∧ GTurns (Itt K a) (gName ix) te [ix] σ W Q := by
  refine ⟨fun i m H' => J H' ∧ i ≤ xs.length ∧ m = xs.length - i ∧ (ds.take i).all f = true, ⟨_, hJ, Nat.zero_le _, rfl, rfl⟩, ?_⟩
  have hl := hd.length
  rintro i m H' ⟨j', hi, rfl, hal⟩
  have hT : SqT K H' a xs := SqT.of (ha H' j')
  by_cases hlt : i < xs.length
  · refine .inr ⟨⟨xs, xs[i], hT, by simp [hlt]⟩, fun H'' => J H'' ∧ i + 1 ≤ xs.length ∧ (ds.take (i + 1)).all f = true, fun H'' ⟨e, h1, h2⟩ => ⟨xs.length - (i + 1), by omega, e, h1, rfl, h2⟩, fun x H'' y => ?_⟩
    obtain ⟨rfl, y⟩ := y
    have hx := y xs hT
    obtain ⟨d, hd1, hd2⟩ := hd.get hx
    have hdl : i < ds.length := by omega
    have hdg : ds[i] = d := by
      have := List.getElem?_eq_getElem hdl
      rw [hd1] at this
      exact (Option.some.inj this).symm
    refine ⟨wipe_one, hs x d H'' hd2 (List.mem_of_getElem? hd1) j' _ fun H2 j2 => ⟨f d, rfl, ?_⟩⟩
    have ht : (ds.take (i + 1)).all f = ((ds.take i).all f && f d) := by
      rw [List.take_succ_eq_append_getElem hdl, List.all_append, List.all_cons, List.all_nil, Bool.and_true, hdg]
    cases hf : f d with
    | true =>
      refine iteT ⟨j2, hlt, ?_⟩
      rw [ht, hal, hf] <;> rfl
    | false =>
      refine iteF ?_
      have e : ds.all f = false := by
        rw [List.all_eq_false]
        exact ⟨d, List.mem_of_getElem? hd1, by rw [hf]; exact Bool.false_ne_true⟩
      have := q H2 j2
      rw [e] at this
      exact this
  · have e : i = xs.length := by omega
    refine .inl ⟨⟨xs, hT, by omega⟩, ?_⟩
    rw [e, hl, List.take_length] at hal
    have := q H' j'
    rw [hal] at this
    exact this

/-! ### a def whose code has a table -/
section
variable {P : Program} {w : World} {K : PySem.W.Frag} {mg : Str → Option Value} {base : Heap}
structure DefT (K : PySem.W.Frag) (mg : Str → Option Value) (base : Heap) (x : Str) (st : Stmt) (ps : List Str) (Pt : Addr) : Prop where
  ex : ∃ (f c : Addr) (fd : FuncData), Fun K x x st f fd ∧ Binds K fd ps [] ∧ mg x = some (.ref f) ∧ fd.code = .ref c ∧ GxR.TabB base mg c Pt
theorem DefT.ok {x : Str} {st : Stmt} {ps N : List Str} {k : Nat} {sp : Sp} {Pt : Addr} (d : DefT K mg base x st ps Pt) (S : FnScope N ps (defScope st)) (len : ∀ vs H Q E, sp vs H Q E → vs.length = ps.length)
    (hbody : ∀ (f c : Addr) (A : Around) (outer : List Env) (s : Shared) (H : Hp) (vs : List V) (Q : VK) (E : XK), GxR.TabB base mg c Pt → Room k (A.deeper (envOfC x (defScope st) s.heap.objs.size f (.ref c))) → sp vs H Q E →
      ∃ t, PSs (cxOf CX0 P w K mg base N x (defScope st) f (.ref c) A outer s H E).nox (defBody st) t ∧ t { nx := fun _ H' => Q .non H', rt := Q } (start N vs) H) : Cal P w K mg base (k + 1) x ps sp := by
  obtain ⟨f, c, fd, F, b, m, hc, TB⟩ := d.ex
  obtain ⟨oc, od, kV, doc, pm, an, cdv, ct, osl, rfl, lk, hcd⟩ := F.ex
  obtain rfl : cdv = .ref c := hc
  refine ⟨f, _, fn_of lk hcd S len fun A outer s H vs Q E hr hsp => ?_, b, F.kp, m⟩
  obtain ⟨t, h, q⟩ := hbody f c A outer s H vs Q E TB hr hsp
  exact ⟨t, h.nox, q⟩
theorem DefT.none {x : Str} {ps : List Str} {sp : Sp} {st : Stmt} {Pt : Addr} (d : DefT K mg base x st ps Pt) (h : ∀ vs H Q E, ¬ sp vs H Q E) : Cal P w K mg base 0 x ps sp := by
  obtain ⟨f, c, fd, F, b, m, hc, TB⟩ := d.ex
  exact ⟨f, fd, ⟨fun vs H Q E z => absurd z (h vs H Q E), fun A outer s H args us vs Q E _ _ _ _ z => absurd z (h vs H Q E)⟩, b, F.kp, m⟩
end
end K04
namespace K04
set_option exponentiation.threshold 5000
open PySem PySem.Spec PyProof.Rows L2

/-! ### texts -/
def letterC (c : Nat) : Bool := decide (c ∈ lettersS.cps.toList)
def digitC (c : Nat) : Bool := decide (c ∈ digitsS.cps.toList)
/-- a name -/
def nmOk (s : Str) : Bool := decide (1 ≤ s.length) && decide (s.length ≤ 8) && !(takenS.contains s) && s.cps.toList.all letterC
/-- the second part of a plain name -/
def numOk (l : Str) : Bool := decide (1 ≤ l.length) && decide (l.length ≤ 8) && l.cps.toList.all digitC &&
  (match intText? l with
    | some n => decide (Str.ofString (toString n) = l) && decide (n ≤ 10000000)
    | none => false)
def plainNm (s : Str) : Bool := decide (Txt.count s "_" = 1) &&
  (match Txt.split s "_" with
    | [f, l] => nmOk f && numOk l
    | _ => false)
theorem us_eq : (("_" : Str)) = ⟨#[95]⟩ := by decide +kernel
theorem us_len : ((("_" : Str)).length == 0) = false := by decide +kernel
theorem spl_le (Sp : List Nat) : ∀ (l : List Nat) (k : Nat) (acc : List Nat), ∀ p ∈ TL.spl Sp k acc l, p.length ≤ acc.length + l.length
  | [], k, acc, p, h => by
    rw [TL.spl_nil] at h
    rw [List.mem_singleton.mp h]
    simp
  | c :: r, 0, acc, p, h => by
    by_cases hp : TL.pre Sp (c :: r) = true
    · rw [TL.spl_hit hp] at h
      rcases List.mem_cons.mp h with e | h
      · rw [e]; simp
      · have := spl_le Sp r _ _ p h
        simp at this ⊢
        omega
    · rw [TL.spl_miss (by simpa using hp)] at h
      have := spl_le Sp r _ _ p h
      simp at this ⊢
      omega
  | c :: r, k + 1, acc, p, h => by
    have := spl_le Sp r k acc p h
    simp
    omega
theorem split_le {s p : Str} (h : p ∈ Txt.split s "_") : p.length ≤ s.length := by
  have e : Txt.split s "_" = (TL.spl [95] 0 [] s.cps.toList).map SX.S := by
    have := SX.split_S (a := s.cps.toList) (b := [95]) (by decide) (by decide)
    rw [SX.S_tl] at this
    exact this
  rw [e] at h
  obtain ⟨q, hq, rfl⟩ := List.mem_map.mp h
  have := spl_le _ _ _ _ q hq
  rw [SX.S_len]
  simp only [List.length_nil, Nat.zero_add] at this
  simpa [Str.length] using this
theorem split_two {s : Str} (h : Txt.count s "_" = 1) : ∃ f l, Txt.split s "_" = [f, l] ∧ f.length ≤ s.length ∧ l.length ≤ s.length := by
  have h1 := PyProof.Rows.split_len s 95
  have h2 := PyProof.Rows.count_cnt s 95
  rw [us_eq] at h
  rw [← h2, h] at h1
  have hle := fun p => @split_le s p
  rw [us_eq] at hle ⊢
  generalize Txt.split s ⟨#[95]⟩ = ps at h1 hle
  match ps, h1 with
  | [f, l], _ => exact ⟨f, l, rfl, hle f (by simp), hle l (by simp)⟩
  | [], h1 => simp at h1
  | [_], h1 => simp at h1
  | _ :: _ :: _ :: r, h1 =>
    simp only [List.length_cons] at h1
    omega
theorem digitC_iff {c : Nat} : digitC c = true ↔ 48 ≤ c ∧ c ≤ 57 := by
  have e : digitsS.cps.toList = [48, 49, 50, 51, 52, 53, 54, 55, 56, 57] := by decide +kernel
  unfold digitC
  rw [e, decide_eq_true_iff]
  simp only [List.mem_cons, List.not_mem_nil, or_false]
  omega
theorem digitsVal_lt : ∀ (l : List Nat) (acc : Nat), (∀ c ∈ l, 48 ≤ c ∧ c ≤ 57) → l.foldl (fun a c => a * 10 + (c - 48)) acc < (acc + 1) * 10 ^ l.length
  | [], acc, _ => by simp
  | c :: r, acc, h => by
    have hc := h c List.mem_cons_self
    have ih := digitsVal_lt r (acc * 10 + (c - 48)) fun d hd => h d (List.mem_cons_of_mem _ hd)
    rw [List.foldl_cons, List.length_cons, Nat.pow_succ]
    refine Nat.lt_of_lt_of_le ih ?_
    have : acc * 10 + (c - 48) + 1 ≤ (acc + 1) * 10 := by omega
    calc (acc * 10 + (c - 48) + 1) * 10 ^ r.length ≤ ((acc + 1) * 10) * 10 ^ r.length := Nat.mul_le_mul_right _ this
      _ = (acc + 1) * (10 ^ r.length * 10) := by rw [Nat.mul_assoc, Nat.mul_comm 10]
theorem dig_int {l : Str} (h : l.cps.toList.all digitC = true) (h1 : 1 ≤ l.length) (h8 : l.length ≤ 8) : ∃ n : Nat, intText? l = some (n : Int) ∧ n < 10 ^ 8 := by
  have hd : ∀ c ∈ l.cps.toList, 48 ≤ c ∧ c ≤ 57 := fun c hc => digitC_iff.mp (List.all_eq_true.mp h c hc)
  have hlen : l.cps.toList.length = l.length := by simp [Str.length]
  have e := intText_digits (x := l) (fun c hc => hd c hc) (fun z => by rw [z] at hlen; simp at hlen; omega) (by omega)
  refine ⟨_, e, ?_⟩
  have := digitsVal_lt l.cps.toList 0 hd
  rw [hlen] at this
  unfold NumText.digitsVal
  refine Nat.lt_of_lt_of_le this ?_
  rw [Nat.zero_add, Nat.one_mul]
  exact Nat.pow_le_pow_right (by decide) h8
theorem log_small {n : Nat} (h : n < 10 ^ 8) : ((n : Int)).natAbs.log2 < 1920 := by
  rw [Int.natAbs_natCast]
  rcases Nat.eq_zero_or_pos n with e | e
  · rw [e]; decide
  · exact (Nat.log2_lt (by omega)).mpr (Nat.lt_of_lt_of_le h (by decide))
/-- the name of a point -/
def ptName (n : Str) (k : Nat) : Str := n ++ ("_" : Str) ++ Str.ofString (toString (k : Int))
end K04
namespace K04
open PySem PySem.Spec PyProof.Rows L2 HT

/-! ### loops over a known sequence -/
structure Srv (J : It) (P : Hp → Prop) (xs : List V) : Prop where
  go : ∀ i H, P H → i < xs.length → J.go i H
  yld : ∀ i H x H', P H → i < xs.length → J.yld i H x H' → H' = H ∧ xs[i]? = some x
  stop : ∀ H, P H → J.stop xs.length H
theorem Srv.lst {K : PySem.W.Frag} {a : Addr} {P : Hp → Prop} {xs : List V} (h : ∀ H, P H → SqL K H a xs) : Srv (Itl K a) P xs where
  go := fun i H p hi => ⟨xs, xs[i], h H p, by simp [hi]⟩
  yld := fun i H x H' p hi y => ⟨y.1, y.2 xs (h H p)⟩
  stop := fun H p => ⟨xs, h H p, Nat.le_refl _⟩
theorem Srv.tup {K : PySem.W.Frag} {a : Addr} {P : Hp → Prop} {xs : List V} (h : ∀ H, P H → SqT K H a xs) : Srv (Itt K a) P xs where
  go := fun i H p hi => ⟨xs, xs[i], h H p, by simp [hi]⟩
  yld := fun i H x H' p hi y => ⟨y.1, y.2 xs (h H p)⟩
  stop := fun H p => ⟨xs, h H p, Nat.le_refl _⟩
theorem Srv.rng {P : Hp → Prop} (n : Nat) : Srv (Itr 0 n) P ((List.range n).map fun i => V.int (i : Nat)) where
  go := fun i H p hi => by show i < n; simpa using hi
  yld := fun i H x H' p hi y => by
    refine ⟨y.1, ?_⟩
    have hi' : i < n := by simpa using hi
    rw [y.2, List.getElem?_map, List.getElem?_range hi']
    simp
  stop := fun H p => by show n ≤ _; simp
theorem Srv.str {P : Hp → Prop} (x : Str) : Srv (Its x) P (x.cps.toList.map fun c => V.str ⟨#[c]⟩) where
  go := fun i H p hi => by show i < x.cps.size; simpa using hi
  yld := fun i H v H' p hi y => by
    obtain ⟨rfl, c, hc, rfl⟩ := y
    refine ⟨rfl, ?_⟩
    rw [List.getElem?_map, Array.getElem?_toList, hc]
    rfl
  stop := fun H p => by show x.cps.size ≤ _; simp
theorem for_srv {J : It} {P : Hp → Prop} {xs : List V} (S : Srv J P xs) {D : Ends} {g : TG} {tb : TS} {σ : L2.St} {H : Hp} (I : Nat → L2.St → Hp → Prop) (hP : ∀ i σ H, I i σ H → P H) (h0 : I 0 σ H)
    (hs : ∀ i x σ' H', xs[i]? = some x → I i σ' H' → g x σ' H' fun σ2 H2 => tb { D with nx := I (i + 1), ct := I (i + 1), bk := D.nx } σ2 H2) (he : ∀ σ' H', I xs.length σ' H' → D.nx σ' H') :
    ∃ W : Nat → Nat → L2.St → Hp → Prop, (∃ m, W 0 m σ H) ∧ ∀ i m σ H, W i m σ H →
      (J.stop i H ∧ D.nx σ H) ∨ (J.go i H ∧ ∃ N : L2.St → Hp → Prop, (∀ σ' H', N σ' H' → ∃ m', m' < m ∧ W (i + 1) m' σ' H') ∧ ∀ x H', J.yld i H x H' → g x σ H' fun σ2 H2 => tb { D with nx := N, ct := N, bk := D.nx } σ2 H2) := by
  refine ⟨fun i m σ H => I i σ H ∧ i ≤ xs.length ∧ m = xs.length - i, ⟨_, h0, Nat.zero_le _, rfl⟩, ?_⟩
  rintro i m σ H ⟨hi, hl, rfl⟩
  have p := hP i σ H hi
  by_cases hlt : i < xs.length
  · refine .inr ⟨S.go i H p hlt, I (i + 1), fun σ' H' n => ⟨xs.length - (i + 1), by omega, n, hlt, rfl⟩, fun x H' y => ?_⟩
    obtain ⟨rfl, hx⟩ := S.yld i H x H' p hlt y
    exact hs i x σ _ hx hi
  · have e : i = xs.length := by omega
    subst e
    exact .inl ⟨S.stop H p, he σ H hi⟩
/-- [elt for target in a known sequence if ..] -/
theorem lc_srv {J : It} {P : Hp → Prop} {xs : List V} (S : Srv J P xs) {D : Addr} {g : TG} {tt : TT} {te : TE} {vs : List Nat} {σ : L2.St} {H0 : Hp} {Q : Hp → Prop} (I : Nat → Hp → Prop) (hP : ∀ i H, I i H → P H) (h0 : I 0 H0)
    (hs : ∀ i x H, xs[i]? = some x → I i H → g x (wipe σ vs) H fun σ2 H2 => wipe σ2 vs = wipe σ vs ∧ tt σ2 H2 fun b H3 =>
      if b = true then te σ2 H3 fun y H4 => ∃ acc, H4 D = some (.lst acc) ∧ acc.length < sizeLine ∧ I (i + 1) (upd H4 D (.lst (acc ++ [y]))) else I (i + 1) H3)
    (he : ∀ H, I xs.length H → Q H) :
    ∃ W : Nat → Nat → Hp → Prop, (∃ m, W 0 m H0) ∧ ∀ i m H, W i m H →
      (J.stop i H ∧ Q H) ∨ (J.go i H ∧ ∃ Nx : Hp → Prop, (∀ H', Nx H' → ∃ m', m' < m ∧ W (i + 1) m' H') ∧ ∀ x H', J.yld i H x H' → g x (wipe σ vs) H' fun σ2 H2 => wipe σ2 vs = wipe σ vs ∧ tt σ2 H2 fun b H3 =>
        if b = true then te σ2 H3 fun y H4 => ∃ acc, H4 D = some (.lst acc) ∧ acc.length < sizeLine ∧ Nx (upd H4 D (.lst (acc ++ [y]))) else Nx H3) := by
  refine ⟨fun i m H => I i H ∧ i ≤ xs.length ∧ m = xs.length - i, ⟨_, h0, Nat.zero_le _, rfl⟩, ?_⟩
  rintro i m H ⟨hi, hl, rfl⟩
  have p := hP i H hi
  by_cases hlt : i < xs.length
  · refine .inr ⟨S.go i H p hlt, I (i + 1), fun H' n => ⟨xs.length - (i + 1), by omega, n, hlt, rfl⟩, fun x H' y => ?_⟩
    obtain ⟨rfl, hx⟩ := S.yld i H x H' p hlt y
    exact hs i x _ hx hi
  · have e : i = xs.length := by omega
    subst e
    exact .inl ⟨S.stop H p, he H hi⟩
/-- {k: v for target in a known sequence if ..} -/
theorem dc_srv {J : It} {P : Hp → Prop} {xs : List V} (S : Srv J P xs) {D : Addr} {g : TG} {tt : TT} {tk tv : TE} {vs : List Nat} {σ : L2.St} {H0 : Hp} {Q : Hp → Prop} (I : Nat → Hp → Prop) (hP : ∀ i H, I i H → P H) (h0 : I 0 H0)
    (hs : ∀ i x H, xs[i]? = some x → I i H → g x (wipe σ vs) H fun σ2 H2 => wipe σ2 vs = wipe σ vs ∧ tt σ2 H2 fun b H3 =>
      if b = true then tk σ2 H3 fun y H4 => tv σ2 H4 fun z H5 => ∃ kvs k, y = kV k ∧ H5 D = some (.dK kvs) ∧ kvs.length < sizeLine ∧ I (i + 1) (upd H5 D (.dK (putK kvs k z))) else I (i + 1) H3)
    (he : ∀ H, I xs.length H → Q H) :
    ∃ W : Nat → Nat → Hp → Prop, (∃ m, W 0 m H0) ∧ ∀ i m H, W i m H →
      (J.stop i H ∧ Q H) ∨ (J.go i H ∧ ∃ Nx : Hp → Prop, (∀ H', Nx H' → ∃ m', m' < m ∧ W (i + 1) m' H') ∧ ∀ x H', J.yld i H x H' → g x (wipe σ vs) H' fun σ2 H2 => wipe σ2 vs = wipe σ vs ∧ tt σ2 H2 fun b H3 =>
        if b = true then tk σ2 H3 fun y H4 => tv σ2 H4 fun z H5 => ∃ kvs k, y = kV k ∧ H5 D = some (.dK kvs) ∧ kvs.length < sizeLine ∧ Nx (upd H5 D (.dK (putK kvs k z))) else Nx H3) := by
  refine ⟨fun i m H => I i H ∧ i ≤ xs.length ∧ m = xs.length - i, ⟨_, h0, Nat.zero_le _, rfl⟩, ?_⟩
  rintro i m H ⟨hi, hl, rfl⟩
  have p := hP i H hi
  by_cases hlt : i < xs.length
  · refine .inr ⟨S.go i H p hlt, I (i + 1), fun H' n => ⟨xs.length - (i + 1), by omega, n, hlt, rfl⟩, fun x H' y => ?_⟩
    obtain ⟨rfl, hx⟩ := S.yld i H x H' p hlt y
    exact hs i x _ hx hi
  · have e : i = xs.length := by omega
    subst e
    exact .inl ⟨S.stop H p, he H hi⟩
/-- all(elt for x in a known sequence): f by place -/
theorem all_srv {Jt : It} {P : Hp → Prop} {xs : List V} (S : Srv Jt P xs) {Q : Bool → Hp → Prop} {te : TE} {σ : L2.St} {ix : Nat} {H : Hp} {bs : List Bool} (J : Hp → Prop) (hJ : J H) (hP : ∀ H, J H → P H) (hl : xs.length = bs.length)
    (hs : ∀ (i : Nat) x b H1, xs[i]? = some x → bs[i]? = some b → J H1 → ∀ Q' : VK, (∀ H2, J H2 → Q' (.bl b) H2) → te ((wipe σ [ix]).set ix (some x)) H1 Q') (q : ∀ H1, J H1 → Q (bs.all id) H1) :
    ∃ W : Nat → Nat → Hp → Prop, (∃ m, W 0 m H) ∧ GTurns Jt (gName ix) te [ix] σ W Q := by
  refine ⟨fun i m H' => J H' ∧ i ≤ xs.length ∧ m = xs.length - i ∧ (bs.take i).all id = true, ⟨_, hJ, Nat.zero_le _, rfl, rfl⟩, ?_⟩
  rintro i m H' ⟨j', hi, rfl, hal⟩
  by_cases hlt : i < xs.length
  · refine .inr ⟨S.go i H' (hP _ j') hlt, fun H'' => J H'' ∧ i + 1 ≤ xs.length ∧ (bs.take (i + 1)).all id = true, fun H'' ⟨e, h1, h2⟩ => ⟨xs.length - (i + 1), by omega, e, h1, rfl, h2⟩, fun x H'' y => ?_⟩
    obtain ⟨rfl, hx⟩ := S.yld i H' x H'' (hP _ j') hlt y
    have hbl : i < bs.length := by omega
    have hb : bs[i]? = some bs[i] := List.getElem?_eq_getElem hbl
    refine ⟨wipe_one, hs i x bs[i] _ hx hb j' _ fun H2 j2 => ⟨bs[i], rfl, ?_⟩⟩
    have ht : (bs.take (i + 1)).all id = ((bs.take i).all id && bs[i]) := by
      rw [List.take_succ_eq_append_getElem hbl, List.all_append, List.all_cons, List.all_nil, Bool.and_true]
      rfl
    cases hf : bs[i] with
    | true =>
      refine iteT ⟨j2, hlt, ?_⟩
      rw [ht, hal, hf] <;> rfl
    | false =>
      refine iteF ?_
      have e : bs.all id = false := by
        rw [List.all_eq_false]
        exact ⟨bs[i], List.getElem_mem hbl, by rw [hf]; exact Bool.false_ne_true⟩
      have := q H2 j2
      rw [e] at this
      exact this
  · have e : i = xs.length := by omega
    refine .inl ⟨by rw [e]; exact S.stop H' (hP _ j'), ?_⟩
    rw [e, hl, List.take_length] at hal
    have := q H' j'
    rw [hal] at this
    exact this

/-! ### t[::-1] of a tuple -/
section
variable {prog : Program} {w : World} {A : Around} {E : Value → Shared → Prop} {s : Shared}
theorem sliceApplied_rev {sl : Addr} {vs : Value} {n : Nat} {Q : Int × Int × Nat → Shared → Prop} (hs : s.heap.IsSliceOf sl .none .none vs) (ps : IsPart vs (some (-1)))
    (h : Q ((n : Int) - 1, -1, n) s) : wpAny (model prog w) A (Builtin.Slice.sliceApplied (.ref sl) (pure (n : Int))) Q E s := by
  obtain ⟨os, hos, hcs, hds⟩ := id hs
  unfold Builtin.Slice.sliceApplied Builtin.Slice.sliceFields
  refine wpAny_bind (wpAny_bind (wpAny_field hos hds (x := .none) rfl (wpAny_bind (wpAny_field hos hds (x := .none) rfl (wpAny_bind (wpAny_field hos hds (x := vs) rfl (wpAny_pure ?_)))))))
  refine wpAny_bind (slicePart_ ps ?_)
  show wpAny _ _ (if ((-1 : Int) == 0) = true then _ else _) _ _ s
  rw [if_neg (by decide)]
  refine wpAny_bind (slicePart_none (wpAny_bind (slicePart_none (wpAny_bind (wpAny_pure ?_)))))
  have e1 : Builtin.Slice.sliceAdjust none none (-1) (n : Int) = ((n : Int) - 1, -1) := by
    unfold Builtin.Slice.sliceAdjust
    simp
  have e2 : Builtin.Slice.slicePlaces ((n : Int) - 1) (-1) (-1) = n := by
    unfold Builtin.Slice.slicePlaces
    rw [if_neg (by decide)]
    by_cases h0 : n = 0
    · subst h0; rfl
    · rw [if_pos (by omega), show (- -1 : Int) = 1 by decide, Int.ediv_one]
      omega
  show wpAny _ _ (match Builtin.Slice.sliceAdjust none none (-1) (n : Int) with | (lo, hi) => pure (lo, (-1 : Int), Builtin.Slice.slicePlaces lo hi (-1))) _ _ s
  rw [e1]
  show wpAny _ _ (pure ((n : Int) - 1, (-1 : Int), Builtin.Slice.slicePlaces ((n : Int) - 1) (-1) (-1))) _ _ s
  rw [e2]
  exact wpAny_pure h
theorem filterMap_of_some {α β : Type} {f : α → Option β} {g : α → β} : ∀ {l : List α}, (∀ m ∈ l, f m = some (g m)) → l.filterMap f = l.map g
  | [], _ => rfl
  | x :: r, h => by
    rw [List.filterMap_cons, h x List.mem_cons_self, List.map_cons, filterMap_of_some fun m hm => h m (List.mem_cons_of_mem _ hm)]
theorem pick_rev (xs : List Value) : ((List.range xs.length).filterMap fun (m : Nat) => xs.toArray[((xs.length : Int) - 1 + (m : Int) * (-1)).toNat]?) = xs.reverse := by
  have e : (fun (m : Nat) => xs.toArray[((xs.length : Int) - 1 + (m : Int) * (-1)).toNat]?) = fun m : Nat => xs[((xs.length : Int) - 1 + (m : Int) * (-1)).toNat]? := by
    funext m
    simp
  rw [e]
  rw [filterMap_of_some (g := fun m => (xs[xs.length - 1 - m]?).getD .none) fun m hm => by
    have hm' := List.mem_range.mp hm
    have e1 : ((xs.length : Int) - 1 + (m : Int) * (-1)).toNat = xs.length - 1 - m := by omega
    rw [e1, List.getElem?_eq_getElem (by omega)]
    rfl]
  apply List.ext_getElem?
  intro i
  by_cases hi : i < xs.length
  · rw [List.getElem?_map, List.getElem?_range hi, List.getElem?_reverse hi, Option.map_some, List.getElem?_eq_getElem (by omega)]
    rfl
  · rw [List.getElem?_eq_none (by simp; omega), List.getElem?_eq_none (by simp; omega)]
theorem getItem_tuple_rev {t sl : Addr} {items : List Value} {vs : Value} {Q : Value → Shared → Prop} (ht : IsTup s.heap t items.toArray) (hs : s.heap.IsSliceOf sl .none .none vs) (ps : IsPart vs (some (-1)))
    (h : Q (.ref s.heap.objs.size) { s with heap := s.heap.push { cls := .type "tuple", data := .seq items.reverse.toArray } })
    (hsz : items.length ≤ sizeLine) : wpAny (model prog w) A (getItem (.ref t) (.ref sl)) Q E s := by
  have htake : sizeOk (.seq items.reverse.toArray) := by
    show items.reverse.toArray.size ≤ sizeLine
    rw [List.size_toArray, List.length_reverse]
    exact hsz
  obtain ⟨os, hos, hcs, hds⟩ := id hs
  have hTs : s.TypeIs (.ref sl) "slice" := ⟨os, hos, hcs⟩
  unfold getItem
  try with_reducible refine wpAny_holding ?_
  first | refine wpAny_bind (wpAny_pure ?_) | skip
  refine wpAny_bind (wpAny_sequenceKey ht.typeIs (by decide) ?_)
  refine wpAny_bind (wpAny_callSpecial?_slot (name := Str.ofString "__getitem__") ht.typeIs PyProof.Rows.slot_tuple_getitem
    (wpAny_call_entry PyProof.Rows.slot_tuple_getitem ht.typeIs entry_tuple_getitem ?_ (args_tuple_getitem _ _)))
  show wpAny _ _ (Builtin.Tuple.tupleItemsOf (.ref t) >>= _) _ _ s
  refine wpAny_bind (tupleItemsOf_ ht ?_)
  refine wpAny_bind (wpAny_typeOf hTs ?_)
  rw [if_pos (by decide)]
  refine wpAny_bind (sliceApplied_rev (n := items.toArray.size) hs ps ?_)
  show wpAny _ _ (if (((items.toArray.size : Int) - 1 == 0) && (-1 : Int) == 1 && (items.toArray.size == items.toArray.size)) = true then _ else _) _ _ s
  rw [if_neg (by rw [show ((-1 : Int) == 1) = false by decide, Bool.and_false, Bool.false_and]; exact Bool.false_ne_true), show items.toArray.size = items.length from by simp, pick_rev]
  first
    | exact wpAny_bind (m := Builtin.Tuple.tupleExact _) (wpAny_newObj_type (wpAny_pure ⟨_, rfl, wpAny_pure h⟩) htake)
    | exact wpAny_bind (m := Builtin.Tuple.tupleExact _) (wpAny_newObj_type (wpAny_bind (wpAny_pure (wpAny_pure ⟨_, rfl, wpAny_pure h⟩))) htake)
    | exact wpAny_bind (wpAny_bind (m := Builtin.Tuple.tupleExact _) (wpAny_newObj_type (wpAny_pure (wpAny_pure ⟨_, rfl, wpAny_pure h⟩)) htake))
    | exact wpAny_bind (wpAny_bind (m := Builtin.Tuple.tupleExact _) (wpAny_newObj_type (wpAny_pure ⟨_, rfl, wpAny_pure h⟩) htake))
end
def tRevT (K : PySem.W.Frag) (te : TE) : TE := fun σ H Q => te σ H fun x H1 => ∃ a xs, x = .ref a ∧ SqT K H1 a xs ∧ ∀ p, H1 p = none → Q (.ref p) (upd H1 p (.tup xs.reverse))
theorem pe_revT {X : Cx} {e : Expr} {te : TE} {k : Nat} {p1 p2 p3 pos : Pos} (he : PE X e te) : PE X (.Subscript e (.Slice none none (some (.UnaryOp .USub (.Constant (.int 1) k p1) p2)) p3) pos) (tRevT X.K te) := by
  refine ⟨fun pins s σ H Q I h => ?_⟩
  refine Subscript_ (thn (he.run pins s σ H _ I h) fun v s1 ⟨x, H1, I1, r1, q1⟩ => ?_)
  obtain ⟨a, xs, ex, hx, q⟩ := q1
  subst ex
  cases r1
  have hst : PO X (some (.UnaryOp .USub (.Constant (.int 1) k p1) p2)) (tPart (tUn (rU fun i => .int (-i)) (tC (.int 1)))) := po_some (pe_un un_neg pe_int)
  refine wpAny_Slice (thn (po_none.run pins s1 σ H1 (fun o H2 => o = none ∧ H2 = H1) I1 ⟨rfl, rfl⟩) fun vl s2 ⟨l, H2, I2, pl, el, e2⟩ => ?_)
  subst el e2
  refine thn (po_none.run pins s2 σ H2 (fun o H3 => o = none ∧ H3 = H2) I2 ⟨rfl, rfl⟩) fun vu s3 ⟨u, H3, I3, pu, eu, e3⟩ => ?_
  subst eu e3
  refine thn (hst.run pins s3 σ H3 (fun o H4 => o = some (-1) ∧ H4 = H3) I3 ⟨1, rfl, -1, rfl, rfl, rfl⟩) fun vs s4 ⟨o, H4, I4, ps, eo, e4⟩ => ?_
  subst eo e4
  cases pl
  cases pu
  have I5 : Inv X pins σ H4 { s4 with heap := s4.heap.push { cls := .type "slice", data := .fields #[.none, .none, vs] } } := I4.kept (t' := s4.toks) fun b ob q => Heap.get?_push_of_some _ q
  obtain ⟨its, r, ht, hz⟩ := I5.tuple hx
  have hlen := r.length
  show wpAny (model X.prog X.w) X.A (subscriptTail e (.Slice none none (some (.UnaryOp .USub (.Constant (.int 1) k p1) p2)) p3) (.ref a) (.ref s4.heap.objs.size)) (EP X pins σ Q) X.xe { s4 with heap := s4.heap.push { cls := .type "slice", data := .fields #[.none, .none, vs] } }
  refine tail_any (ops := [.ref a, .ref s4.heap.objs.size]) ht.typeIs (PyProof.Rows.slot_tuple_getitem.lookup) ?_ (by with_unfolding_all rfl)
  refine getItem_tuple_rev ht (Heap.IsSliceOf.new _ .none .none vs) ps ?_ (by omega)
  refine ⟨.ref _, _, I5.laid (t' := s4.toks) (o := .tup xs.reverse) (fun b ob q => Heap.get?_push_of_some _ q) (Nat.le_refl _) ?_, rfl, q _ (I5.hok.fresh (Nat.le_refl _))⟩
  exact ⟨by rw [List.length_reverse]; exact hz, _, r.reverse, IsTup.new _ _⟩
end K04
namespace K04
open PySem PySem.Spec PyProof.Rows L2
theorem yesI {σ : L2.St} {H : Hp} {A B : Hp → Prop} (h : A H) : tYes σ H fun b H3 => if b = true then A H3 else B H3 := iteT (A := A H) (B := B H) h
/-- all(f(x) for x in list), the element may change what J allows -/
theorem all_lst {K : PySem.W.Frag} {Q : Bool → Hp → Prop} {a : Addr} {xs : List V} {ds : List D} {te : TE} {σ : L2.St} {ix : Nat} {H : Hp} {f : D → Bool} (J : Hp → Prop) (hd : Tds H xs ds) (hJ : J H) (ha : ∀ H, J H → H a = some (.lst xs))
    (hs : ∀ x d H1, Td H x d → d ∈ ds → J H1 → ∀ Q' : VK, (∀ H2, J H2 → Q' (.bl (f d)) H2) → te ((wipe σ [ix]).set ix (some x)) H1 Q') (q : ∀ H1, J H1 → Q (ds.all f) H1) :
    ∃ W : Nat → Nat → Hp → Prop, (∃ m, W 0 m H) ∧ GTurns (Itl K a) (gName ix) te [ix] σ W Q := by
  refine all_srv (Srv.lst (P := fun H => SqL K H a xs) fun _ h => h) (bs := ds.map f) J hJ (fun H j => SqL.of (ha H j)) (by rw [List.length_map]; exact hd.length) (fun i x b H1 hx hb j Q' q' => ?_) fun H1 j => ?_
  · obtain ⟨d, hd1, hd2⟩ := hd.get hx
    rw [List.getElem?_map, hd1] at hb
    obtain rfl : f d = b := Option.some.inj hb
    exact hs x d H1 hd2 (List.mem_of_getElem? hd1) j Q' q'
  · rw [List.all_map]
    exact q H1 j
/-- an object that the first heap does not know is changed, not a table -/
theorem ExT.mutD {Ts : List Addr} {H H1 : Hp} {p : Addr} {kvs : List (Key × V)} (a : ExT Ts H H1) (h : H p = none) (e : H1 p = some (.dK kvs)) (o : HO) : ExT Ts H (upd H1 p o) := by
  refine ⟨a.ext.mut h, fun P hP => ?_⟩
  obtain ⟨ps, h1, h2⟩ := a.tab P hP
  exact ⟨ps, by rw [upd_ne (fun z => by rw [z, e] at h1; cases h1)]; exact h1, h2⟩
theorem ExT.mutL {Ts : List Addr} {H H1 : Hp} {p : Addr} {xs : List V} (a : ExT Ts H H1) (h : H p = none) (e : H1 p = some (.lst xs)) (o : HO) : ExT Ts H (upd H1 p o) := by
  refine ⟨a.ext.mut h, fun P hP => ?_⟩
  obtain ⟨ps, h1, h2⟩ := a.tab P hP
  exact ⟨ps, by rw [upd_ne (fun z => by rw [z, e] at h1; cases h1)]; exact h1, h2⟩
/-! ### readings that name K outright (for blocks of their own) -/
section
variable {X : Cx} {K : PySem.W.Frag}
theorem ix_tupK (h : X.K = K) : IxR X (rIxT K) := by subst h; exact ix_tup
theorem ix_listK (h : X.K = K) : IxR X (rIxL K) := by subst h; exact ix_list
theorem sl_tupAK (h : X.K = K) : SlR X (rSlA K) := by subst h; exact sl_tupA
theorem sl_listK (h : X.K = K) : SlR X (rSlL K) := by subst h; exact sl_list
theorem in_seqK (h : X.K = K) : OpR X (compareOp .In) (rIn K false) := by subst h; exact op_in_seq
theorem notIn_seqK (h : X.K = K) : OpR X (compareOp .NotIn) (rIn K true) := by subst h; exact op_notIn_seq
theorem len_seqK (h : X.K = K) : CallR X (.builtin "len") (fun xs H Q => ∃ p ys, xs = [.ref p] ∧ (SqL K H p ys ∨ SqT K H p ys) ∧ Q (.int ys.length) H) := by subst h; exact call_len_seq
theorem list_ofK (h : X.K = K) : CallR X (.type "list") (fun xs H Q => ∃ p ys, xs = [.ref p] ∧ (SqL K H p ys ∨ SqT K H p ys) ∧ ∀ l, H l = none → Q (.ref l) (upd H l (.lst ys))) := by subst h; exact call_list_of
theorem tuple_ofK (h : X.K = K) : CallR X (.type "tuple") (fun xs H Q => ∃ p ys, xs = [.ref p] ∧ ((SqL K H p ys ∧ ∀ l, H l = none → Q (.ref l) (upd H l (.tup ys))) ∨ (SqT K H p ys ∧ Q (.ref p) H))) := by subst h; exact call_tuple_of
end
end K04
namespace K04
open PySem PySem.Spec PyProof.Rows L2
section
variable {P : Program} {w : World} {K : PySem.W.Frag} {mg : Str → Option Value} {base : Heap}

abbrev n_is_in : List Str := ["value", "least", "most"]
theorem sc_is_in : FnScope n_is_in ["value", "least", "most"] (defScope s_is_in) := ⟨rfl, rfl, rfl, by decide +kernel, rfl, by decide +kernel, by decide +kernel⟩
def isIn (d : D) (lo hi : Int) : Bool := match d with
  | .int i => decide (lo ≤ i) && decide (i ≤ hi)
  | _ => false
def spIsIn : Sp := fun vs H Q _ => ∃ (v : V) (d : D) (lo hi : Int), vs = [v, .int lo, .int hi] ∧ Td H v d ∧ Q (.bl (isIn d lo hi)) H
theorem ok_is_in (T : Txt K mg) (d : Def K mg "is_in" s_is_in ["value", "least", "most"]) : Cal P w K mg base 1 "is_in" ["value", "least", "most"] spIsIn := by
  refine d.ok sc_is_in (fun vs H Q E h => ?_) (fun f cdv A outer s H vs Q E hr h => ?_)
  · obtain ⟨v, d, lo, hi, rfl, _⟩ := h
    rfl
  obtain ⟨v, d, lo, hi, rfl, hd, q⟩ := h
  refine ⟨_, (pss_one (ps_ret (pe_and (pe_callB call_isi (by rfl) T.f_isinstance (by decide +kernel) (pa_cons (pv 0) (pa_cons (pe_ty "int" T.f_int) pa_nil))) (pe_and (pe_not (pe_callB call_isi (by rfl) T.f_isinstance (by decide +kernel) (pa_cons (pv 0) (pa_cons (pe_ty "bool" T.f_bool) pa_nil)))) (pe_one (pe_chain op_le op_le (pv 1) (pv 0) (pv 2))))))), ?_⟩
  refine ⟨_, rfl, _, _, _, _, _, rfl, .ty _, Td.tyx (hd), kit_ty (kit_int _), _, rfl, ?_⟩
  cases d with
  | int i =>
    refine iteT ?_
    refine ⟨_, rfl, _, _, _, _, _, rfl, .ty _, Td.tyx (hd), kit_ty (kit_bool _), _, rfl, _, rfl, ?_⟩
    refine iteT ?_
    obtain rfl := hd.int_inv
    refine ⟨_, rfl, _, rfl, _, _, rfl, rfl, _, rfl, ?_⟩
    refine ite2 (fun c => ?_) (fun c => ?_)
    · refine ⟨_, rfl, _, _, rfl, rfl, ?_⟩
      have e : isIn (.int i) lo hi = decide (i ≤ hi) := by
        show (decide (lo ≤ i) && decide (i ≤ hi)) = _
        rw [c, Bool.true_and]
      rw [e] at q
      exact q
    · have e : isIn (.int i) lo hi = false := by
        show (decide (lo ≤ i) && decide (i ≤ hi)) = _
        rw [Bool.eq_false_iff.mpr c, Bool.false_and]
      rw [e] at q
      exact q
  | bl b =>
    refine iteT ?_
    refine ⟨_, rfl, _, _, _, _, _, rfl, .ty _, Td.tyx (hd), kit_ty (kit_bool _), _, rfl, _, rfl, ?_⟩
    exact iteF q
  | non => exact iteF q
  | str s => exact iteF q
  | tup l => exact iteF q
abbrev n_is_tuple : List Str := ["value", "many"]
theorem sc_is_tuple : FnScope n_is_tuple ["value", "many"] (defScope s_is_tuple) := ⟨rfl, rfl, rfl, by decide +kernel, rfl, by decide +kernel, by decide +kernel⟩
/-- a tuple of so many things that begins with a text -/
def isTuple (d : D) (n : Nat) : Bool := match d with
  | .tup (.str s :: r) => decide (r.length + 1 = n)
  | _ => false
def spIsTuple : Sp := fun vs H Q _ => ∃ (v : V) (d : D) (n : Nat), vs = [v, .int n] ∧ Td H v d ∧ 0 < n ∧ Q (.bl (isTuple d n)) H
theorem ok_is_tuple (T : Txt K mg) (d : Def K mg "is_tuple" s_is_tuple ["value", "many"]) : Cal P w K mg base 1 "is_tuple" ["value", "many"] spIsTuple := by
  refine d.ok sc_is_tuple (fun vs H Q E h => ?_) (fun f cdv A outer s H vs Q E hr h => ?_)
  · obtain ⟨v, d, n, rfl, _⟩ := h
    rfl
  obtain ⟨v, d, n, rfl, hd, hn, q⟩ := h
  refine ⟨_, (pss_one (ps_ret (pe_and (pe_callB call_isi (by rfl) T.f_isinstance (by decide +kernel) (pa_cons (pv 0) (pa_cons (pe_ty "tuple" T.f_tuple) pa_nil))) (pe_and (pe_cmpR op_eq (pe_callB call_len_seq (by rfl) T.f_len PySem.boot_len (pa_cons (pv 0) pa_nil)) (pv 1) (nomark _)) (pe_one (pe_callB call_isi (by rfl) T.f_isinstance (by decide +kernel) (pa_cons (pe_ix ix_tup (pv 0) pe_int (fun _ _ => rfl)) (pa_cons (pe_ty "str" T.f_str) pa_nil)))))))), ?_⟩
  refine ⟨_, rfl, _, _, _, _, _, rfl, .ty _, Td.tyx (hd), kit_ty (kit_tup _), _, rfl, ?_⟩
  cases d with
  | tup l =>
    refine iteT ?_
    obtain ⟨a, xs, rfl, ha, _, hx⟩ := hd.tup_inv
    refine ⟨_, rfl, _, _, rfl, .inr (SqT.of (ha)), _, rfl, rfl, _, rfl, ?_⟩
    refine ite2 (fun c => ?_) (fun c => ?_)
    · have c' : ((xs.length : Nat) : Int) = (n : Int) := by
        have := of_decide_eq_true c
        injection this
      have hl := hx.length
      cases l with
      | nil => 
        simp only [List.length_nil] at hl
        omega
      | cons e r =>
        obtain ⟨x, xs', rfl, h1, h2⟩ := hx.cons_inv
        refine ⟨_, rfl, _, _, _, _, rfl, rfl, SqT.of (ha), at0, _, _, _, _, _, rfl, .ty _, Td.tyx (h1), kit_ty (kit_str _), ?_⟩
        simp only [List.length_cons] at hl c'
        have e2 : isTuple (.tup (e :: r)) n = e.isStr := by
          cases e with
          | str s => exact decide_eq_true (by omega)
          | _ => rfl
        rw [e2] at q
        exact q
    · have e : isTuple (.tup l) n = false := by
        cases l with
        | nil => rfl
        | cons e r =>
          cases e with
          | str s =>
            refine decide_eq_false fun z => c (decide_eq_true ?_)
            have hl := hx.length
            simp only [List.length_cons] at hl
            exact congrArg V.int (by omega)
          | _ => rfl
      rw [e] at q
      exact q
  | non => exact iteF q
  | bl b => exact iteF q
  | int i => exact iteF q
  | str s => exact iteF q
end
end K04
namespace K04
open PySem PySem.Spec PyProof.Rows L2
section
variable {P : Program} {w : World} {K : PySem.W.Frag} {mg : Str → Option Value} {base : Heap} {Ts : List Addr} {Pt : Addr}

theorem inV_strs (s : Str) : ∀ l : List Str, inV (.str s) (l.map V.str) = l.contains s
  | [] => rfl
  | x :: r => by
    have ih := inV_strs s r
    unfold inV at ih ⊢
    rw [List.map_cons, List.any_cons, ih, List.contains_cons]
    congr 1
    show (x == s) = (s == x)
    exact Bool.eq_iff_iff.mpr ⟨fun h => by rw [eq_of_beq h]; exact beq_self_eq_true s, fun h => by rw [eq_of_beq h]; exact beq_self_eq_true x⟩
theorem flat_strs : ∀ l : List Str, (l.map V.str).all flatV = true
  | [] => rfl
  | _ :: r => flat_strs r

abbrev n_is_name : List Str := ["value", "letter"]
theorem sc_is_name : FnScope n_is_name ["value"] (defScope s_is_name) := ⟨rfl, rfl, rfl, by decide +kernel, rfl, by decide +kernel, by decide +kernel⟩
def spIsName (Ts : List Addr) : Sp := fun vs H Q _ => ∃ (s : Str), vs = [.str s] ∧ s.length ≤ 1000 ∧ Tabs Ts H ∧ ∀ H', ExT Ts H H' → Q (.bl (nmOk s)) H'
theorem ok_is_name (T : Txt K mg) (hP : Pt ∈ Ts) (d : DefT K mg base "is_name" s_is_name ["value"] Pt) : Cal P w K mg base 2 "is_name" ["value"] (spIsName Ts) := by
  refine d.ok sc_is_name (fun vs H Q E h => ?_) (fun f c A outer s H vs Q E TB hr h => ?_)
  · obtain ⟨s, rfl, _⟩ := h
    rfl
  obtain ⟨z, rfl, hz, hT, q⟩ := h
  have hz1 : z.length ≤ sizeLine := sz100 (by omega)
  have stop : nmOk z = false → Q (.bl false) H := fun e => by
    have := q H (ExT.refl hT)
    rw [e] at this
    exact this
  refine ⟨_, (pss_cons (ps_if (PW.pt (pw_or (pt_not (pt_val (pe_callB call_isi (by rfl) T.f_isinstance (by decide +kernel) (pa_cons (pv 0) (pa_cons (pe_ty "str" T.f_str) pa_nil))))) (pw_or (pt_not (pt_chain op_le op_le pe_int (pe_callB call_len_str (by rfl) T.f_len PySem.boot_len (pa_cons (pv 0) pa_nil)) (pe_gint T.MOST_LETTERS))) (pw_or1 (pt_cmpR op_in_seq (pv 0) (pe_gref T.TAKEN) rfl))))) (pss_one (ps_ret pe_bl)) pss_nil)
      (pss_one (ps_ret (pe_allG (own := [("letter", 1)]) (g := (gName 1)) hr rfl sc_is_name.nd rfl T.f_all TB rfl ⟨rfl, by decide +kernel, by decide +kernel⟩ (pi_str (pv 0)) (blkOk_by (N := n_is_name) (sc := defScope s_is_name) (by decide +kernel)) (fun _ _ _ _ _ _ _ => (pg_name (i := 1) sc_is_name.nd rfl (Or.inl rfl))) (fun _ _ _ _ _ _ _ hg => (pe_cmpR op_in_sign (pv 1) (pe_gstr T.LETTERS) rfl)))))), ?_⟩
  refine ⟨_, rfl, _, _, _, _, _, rfl, .ty _, .base (.str z), kit_ty (r := true) (by decide +kernel), _, rfl, ?_⟩
  refine iteF ?_
  refine ⟨_, rfl, _, rfl, hz1, _, _, rfl, rfl, _, rfl, ?_⟩
  refine ite2 (fun c1 => ?_) (fun c1 => ?_)
  · refine ⟨_, _, rfl, rfl, _, rfl, ?_⟩
    refine ite2 (fun c2 => ?_) (fun c2 => ?_)
    · refine stop ?_
      have c2' : ¬ ((z.length : Int) ≤ 8) := of_decide_eq_false (by simpa using c2)
      unfold nmOk
      rw [decide_eq_false (p := z.length ≤ 8) (by omega)]
      simp
    · have c2' : ((z.length : Int) ≤ 8) := by simpa using c2
      have c1' : ((1 : Int) ≤ (z.length : Int)) := of_decide_eq_true c1
      refine ⟨_, rfl, _, _, rfl, .inl (T.taken _), rfl, flat_strs _, _, rfl, ?_⟩
      refine ite2 (fun c3 => ?_) (fun c3 => ?_)
      · refine stop ?_
        have c3' : takenS.contains z = true := by
          rw [← inV_strs]
          exact c3
        unfold nmOk
        rw [c3']
        simp
      · have c3' : takenS.contains z = false := by
          rw [← inV_strs]
          exact Bool.eq_false_iff.mpr c3
        refine ⟨_, rfl, z, rfl, hT _ hP, fun H2 tb => all_str (f := letterC) (fun c hc Q' q' => ⟨_, rfl, c, lettersS, rfl, rfl, q'⟩) ?_⟩
        have e : nmOk z = z.cps.toList.all letterC := by
          unfold nmOk
          rw [c3', decide_eq_true (p := 1 ≤ z.length) (by omega), decide_eq_true (p := z.length ≤ 8) (by omega)]
          simp
        rw [← e]
        exact q H2 ((ExT.refl hT).grown hP tb)
  · refine ⟨_, rfl, iteT (iteT (stop ?_))⟩
    have c1' : ¬ ((1 : Int) ≤ (z.length : Int)) := of_decide_eq_false (Bool.eq_false_iff.mpr c1)
    unfold nmOk
    rw [decide_eq_false (p := 1 ≤ z.length) (by omega)]
    simp

abbrev n_point_of : List Str := ["name", "first", "last", "digit"]
theorem sc_point_of : FnScope n_point_of ["name"] (defScope s_point_of) := ⟨rfl, rfl, rfl, by decide +kernel, rfl, by decide +kernel, by decide +kernel⟩
def plainNmD : D → Bool
  | .str s => plainNm s
  | _ => false
def PtRes (d : D) (v : V) : Prop := (plainNmD d = false ∧ v = .non) ∨ (plainNmD d = true ∧ ∃ a, v = .ref a)
def spPointOf (Ts : List Addr) : Sp := fun vs H Q _ => ∃ (v : V) (d : D), vs = [v] ∧ Td H v d ∧ Tabs Ts H ∧ ∀ v' H', ExT Ts H H' → PtRes d v' → Q v' H'
theorem ok_point_of (T : Txt K mg) (hP : Pt ∈ Ts) (d : DefT K mg base "point_of" s_point_of ["name"] Pt) (c_is_name : Cal P w K mg base 2 "is_name" ["value"] (spIsName Ts)) : Cal P w K mg base 3 "point_of" ["name"] (spPointOf Ts) := by
  refine d.ok sc_point_of (fun vs H Q E h => ?_) (fun f c A outer s H vs Q E TB hr h => ?_)
  · obtain ⟨v, d, rfl, _⟩ := h
    rfl
  obtain ⟨v, d, rfl, hd, hT, q⟩ := h
  have stop : ∀ H', ExT Ts H H' → plainNmD d = false → Q .non H' := fun H' e z => q _ H' e (.inl ⟨z, rfl⟩)
  refine ⟨_, (pss_cons (ps_if (PW.pt (pw_or (pt_not (pt_val (pe_callB call_isi (by rfl) T.f_isinstance (by decide +kernel) (pa_cons (pv 0) (pa_cons (pe_ty "str" T.f_str) pa_nil))))) (pw_or1 (pt_cmpR op_ne (pe_m1 F.slot_str_count F.type_str_count mt_count (pv 0) pe_str) pe_int (nomark _))))) (pss_one (ps_ret pe_non)) pss_nil)
      (pss_cons (ps_asg (pe_split (pv 0) pe_str) (pg_unl rfl (pgs_cons (pg_name (i := 1) sc_point_of.nd rfl (Or.inl rfl)) (pgs_cons (pg_name (i := 2) sc_point_of.nd rfl (Or.inl rfl)) pgs_nil))))
      (pss_cons (ps_if (PW.pt (pw_or (pt_not (pt_val (pe_cal c_is_name (hr.mono (by omega)) (pa_cons (pv 1) pa_nil)))) (pw_or (pt_not (pt_chain op_le op_le pe_int (pe_callB call_len_str (by rfl) T.f_len PySem.boot_len (pa_cons (pv 2) pa_nil)) pe_int)) (pw_or1 (pt_not (pt_val (pe_allG (own := [("digit", 3)]) (g := (gName 3)) hr rfl sc_point_of.nd rfl T.f_all TB rfl ⟨rfl, by decide +kernel, by decide +kernel⟩ (pi_str (pv 2)) (blkOk_by (N := n_point_of) (sc := defScope s_point_of) (by decide +kernel)) (fun _ _ _ _ _ _ _ => (pg_name (i := 3) sc_point_of.nd rfl (Or.inl rfl))) (fun _ _ _ _ _ _ _ hg => (pe_cmpR op_in_sign (pv 3) (pe_gstr T.DIGITS) rfl))))))))) (pss_one (ps_ret pe_non)) pss_nil)
      (pss_cons (ps_if (PW.pt (pw_or (pt_cmpR op_ne (pe_callTy call_str_int (by rfl) T.f_str (by decide +kernel) (pa_cons (pe_callTy call_int_str (by rfl) T.f_int (by decide +kernel) (pa_cons (pv 2) pa_nil)) pa_nil)) (pv 2) (nomark _)) (pw_or1 (pt_cmpR op_gt (pe_callTy call_int_str (by rfl) T.f_int (by decide +kernel) (pa_cons (pv 2) pa_nil)) (pe_gint T.MOST_EARLY) (nomark _))))) (pss_one (ps_ret pe_non)) pss_nil)
      (pss_one (ps_ret (pe_tup (pa_cons (pv 1) (pa_cons (pe_callTy call_int_str (by rfl) T.f_int (by decide +kernel) (pa_cons (pv 2) pa_nil)) pa_nil))))))))), ?_⟩
  refine ⟨_, rfl, _, _, _, _, _, rfl, .ty _, Td.tyx (hd), kit_ty (kit_str _), _, rfl, ?_⟩
  cases d with
  | str z =>
    obtain ⟨rfl, hz⟩ := hd.str_inv
    refine iteF ?_
    refine ⟨_, rfl, ⟨_, rfl⟩, _, _, rfl, rfl, rfl, _, rfl, ?_⟩
    refine ite2 (fun c1 => ?_) (fun c1 => ?_)
    · refine stop H (ExT.refl hT) ?_
      have c1' : ¬ Txt.count z "_" = 1 := fun e => by
        rw [show V.int (Txt.count z "_") = V.int 1 from congrArg V.int e] at c1
        simp at c1
      show plainNm z = false
      unfold plainNm
      rw [decide_eq_false c1', Bool.false_and]
    · have c1' : Txt.count z "_" = 1 := by
        have h1 : ¬ (!decide (V.int (Txt.count z "_") = V.int 1)) = true := c1
        have h2 : decide (V.int (Txt.count z "_") = V.int 1) = true := by simpa using h1
        have := of_decide_eq_true h2
        injection this
      obtain ⟨fs, ls, esp, hf, hl⟩ := split_two c1'
      have eN : plainNm z = (nmOk fs && numOk ls) := by
        unfold plainNm
        rw [decide_eq_true c1', esp, Bool.true_and]
      refine ⟨_, rfl, ⟨_, rfl⟩, z, _, rfl, rfl, us_len, sz100 (by omega), fun p hp => ?_⟩
      have x1 : ExT Ts H (upd H p (.lst ((Txt.split z "_").map V.str))) := (ExT.refl hT).new hp _
      refine ⟨p, _, rfl, SqL.of upd_same, by rw [esp]; rfl, ?_⟩
      generalize hH1 : upd H p (.lst ((Txt.split z "_").map V.str)) = H1 at x1 ⊢
      rw [esp]
      refine ⟨_, _, rfl, _, _, rfl, rfl, ?_⟩
      refine ⟨_, rfl, fs, rfl, by omega, x1.tab, fun H2 x2 => ?_⟩
      have x12 := x1.trans x2
      have stop2 : ∀ H', ExT Ts H H' → (nmOk fs && numOk ls) = false → Q .non H' := fun H' e z => stop H' e (eN.trans z)
      refine ⟨_, rfl, ?_⟩
      cases e1 : nmOk fs with
      | false => exact iteT (iteT (stop2 _ x12 (by rw [e1] <;> rfl)))
      | true =>
      refine iteF ?_
      refine ⟨_, rfl, _, rfl, sz100 (by omega), _, _, rfl, rfl, _, rfl, ?_⟩
      have numF : numOk ls = false → Q .non H2 := fun z => stop2 _ x12 (by rw [z, Bool.and_false])
      refine ite2 (fun c2 => ?_) (fun c2 => ?_)
      · refine ⟨_, _, rfl, rfl, _, rfl, ?_⟩
        have c2' : ((1 : Int) ≤ (ls.length : Int)) := of_decide_eq_true c2
        refine ite2 (fun c3 => ?_) (fun c3 => ?_)
        · refine numF ?_
          have c3' : ¬ ((ls.length : Int) ≤ 8) := of_decide_eq_false (by simpa using c3)
          unfold numOk
          rw [decide_eq_false (p := ls.length ≤ 8) (by omega)]
          simp
        · have c3' : ((ls.length : Int) ≤ 8) := by simpa using c3
          refine ⟨_, rfl, ls, rfl, x12.tab _ hP, fun H3 tb => all_str (f := digitC) (fun c hc Q' q' => ⟨_, rfl, c, digitsS, rfl, rfl, q'⟩) ?_⟩
          have x3 := x12.grown hP tb
          refine ⟨_, rfl, ?_⟩
          cases e2 : ls.cps.toList.all digitC with
          | false =>
            refine iteT (stop2 _ x3 ?_)
            have : numOk ls = false := by
              unfold numOk
              rw [e2]
              simp
            rw [this, Bool.and_false]
          | true =>
            refine iteF ?_
            obtain ⟨n, hn, hn8⟩ := dig_int e2 (by omega) (by omega)
            have eM : numOk ls = (decide (Str.ofString (toString (n : Int)) = ls) && decide ((n : Int) ≤ 10000000)) := by
              unfold numOk
              rw [e2, decide_eq_true (p := 1 ≤ ls.length) (by omega), decide_eq_true (p := ls.length ≤ 8) (by omega), hn]
              simp
            refine ⟨_, rfl, ls, _, rfl, hn, by omega, _, rfl, log_small hn8, _, rfl, rfl, _, rfl, ?_⟩
            refine ite2 (fun c4 => ?_) (fun c4 => ?_)
            · refine stop2 _ x3 ?_
              have c4' : ¬ (Str.ofString (toString (n : Int)) = ls) := fun z => by
                have c4 : (!decide (V.str (Str.ofString (toString (n : Int))) = V.str ls)) = true := c4
                rw [z] at c4
                simp at c4
              rw [eM, decide_eq_false c4']
              simp
            · have c4' : Str.ofString (toString (n : Int)) = ls := by
                have c4 : ¬ (!decide (V.str (Str.ofString (toString (n : Int))) = V.str ls)) = true := c4
                have h2 : decide (V.str (Str.ofString (toString (n : Int))) = V.str ls) = true := by simpa using c4
                have := of_decide_eq_true h2
                injection this
              refine ⟨_, rfl, ls, _, rfl, hn, by omega, _, _, rfl, rfl, _, rfl, ?_⟩
              refine ite2 (fun c5 => ?_) (fun c5 => ?_)
              · refine stop2 _ x3 ?_
                have c5' : (10000000 : Int) < (n : Int) := of_decide_eq_true c5
                rw [eM, decide_eq_false (p := (n : Int) ≤ 10000000) (by omega)]
                simp
              · have c5' : ¬ (10000000 : Int) < (n : Int) := of_decide_eq_false (Bool.eq_false_iff.mpr c5)
                refine ⟨_, rfl, _, rfl, ls, _, rfl, hn, by omega, (by show 2 ≤ sizeLine; decide), fun t ht => ?_⟩
                refine q _ _ (x3.new ht _) (.inr ⟨?_, t, rfl⟩)
                show plainNm z = true
                rw [eN, e1, eM, decide_eq_true c4', decide_eq_true (p := (n : Int) ≤ 10000000) (by omega)]
                rfl
      · refine ⟨_, rfl, iteT (iteT (numF ?_))⟩
        have c2' : ¬ ((1 : Int) ≤ (ls.length : Int)) := of_decide_eq_false (Bool.eq_false_iff.mpr c2)
        unfold numOk
        rw [decide_eq_false (p := 1 ≤ ls.length) (by omega)]
        simp
  | non => exact stop H (ExT.refl hT) rfl
  | bl b => exact stop H (ExT.refl hT) rfl
  | int i => exact stop H (ExT.refl hT) rfl
  | tup l => exact stop H (ExT.refl hT) rfl
end
end K04
namespace K04
open PySem PySem.Spec PyProof.Rows L2

/-- a call's late expressions -/
def callArgs (y : D) (f : D → Bool) : Bool := match y with
  | .tup as => decide (as.length ≤ 4) && as.all f
  | _ => false
/-- a test's expressions -/
def lessArgs (t : D) (f : D → Bool) : Bool := match t with
  | .tup [.str m, x, y] => decide (m = "less") && [x, y].all f
  | _ => false
/-- a plain expression -/
def plainE : Nat → D → Int → Bool
  | 0, _, _ => false
  | n + 1, .tup [.str k, x], L => if k = "number" then isIn x 0 (10 ^ 30) else decide (k = "late") && isIn x 0 (L - 1)
  | n + 1, .tup [.str k, x, y], L =>
    if pairsS.contains k = true then [x, y].all (fun a => plainE n a L)
    else decide (k = "call") && (plainNmD x && callArgs y (fun a => plainE n a L))
  | n + 1, .tup [.str k, t, a, b], L => decide (k = "if") && ((match n with
        | j + 2 => lessArgs t (fun a => plainE (j + 1) a L)
        | _ => false) && [a, b].all (fun a => plainE n a L))
  | _, _, _ => false

theorem isTuple_inv {d : D} {n : Nat} (h : isTuple d n = true) : ∃ k r, d = .tup (.str k :: r) ∧ r.length + 1 = n := by
  match d, h with
  | .tup (.str k :: r), h => exact ⟨k, r, rfl, of_decide_eq_true h⟩
theorem isTuple2 {d : D} (h : isTuple d 2 = true) : ∃ k x, d = .tup [.str k, x] := by
  obtain ⟨k, r, rfl, hr⟩ := isTuple_inv h
  match r, hr with
  | [x], _ => exact ⟨k, x, rfl⟩
theorem isTuple3 {d : D} (h : isTuple d 3 = true) : ∃ k x y, d = .tup [.str k, x, y] := by
  obtain ⟨k, r, rfl, hr⟩ := isTuple_inv h
  match r, hr with
  | [x, y], _ => exact ⟨k, x, y, rfl⟩
theorem isTuple4 {d : D} (h : isTuple d 4 = true) : ∃ k x y z, d = .tup [.str k, x, y, z] := by
  obtain ⟨k, r, rfl, hr⟩ := isTuple_inv h
  match r, hr with
  | [x, y, z], _ => exact ⟨k, x, y, z, rfl⟩
theorem plainE_other {n : Nat} {d : D} {L : Int} (h2 : isTuple d 2 = false) (h3 : isTuple d 3 = false) (h4 : isTuple d 4 = false) : plainE (n + 1) d L = false := by
  unfold plainE
  split <;> first | rfl | exact Bool.noConfusion (show true = false from h2) | exact Bool.noConfusion (show true = false from h3) | exact Bool.noConfusion (show true = false from h4)

theorem plainE_if (m : Nat) (k : Str) (t x y : D) (L : Int) : ∃ g : Bool, plainE (m + 1) (.tup [.str k, t, x, y]) L = (decide (k = "if") && (g && [x, y].all (fun a => plainE m a L))) ∧ (∀ j, m = j + 2 → g = lessArgs t (fun a => plainE (j + 1) a L)) ∧ (m < 2 → g = false) := by
  match m with
  | 0 => exact ⟨false, rfl, fun _ h => absurd h (by omega), fun _ => rfl⟩
  | 1 => exact ⟨false, rfl, fun _ h => absurd h (by omega), fun _ => rfl⟩
  | m + 2 =>
    refine ⟨_, rfl, fun j h => ?_, fun h => absurd h (by omega)⟩
    obtain rfl : m = j := by omega
    rfl
theorem lessArgs_not {t : D} (f : D → Bool) (h5 : isTuple t 3 = false) : lessArgs t f = false := by
  unfold lessArgs
  split <;> first | rfl | exact Bool.noConfusion (show true = false from h5)

section
variable {P : Program} {w : World} {K : PySem.W.Frag} {mg : Str → Option Value} {base : Heap} {Ts : List Addr} {Pt : Addr}
abbrev n_is_plain_expression : List Str := ["value", "lates", "deep", "one"]
theorem sc_is_plain_expression : FnScope n_is_plain_expression ["value", "lates", "deep"] (defScope s_is_plain_expression) := ⟨rfl, rfl, rfl, by decide +kernel, rfl, by decide +kernel, by decide +kernel⟩
/-- all depths below n -/
def spPlainE (Ts : List Addr) (n : Nat) : Sp := fun vs H Q _ => ∃ (v : V) (d : D) (L : Int) (m : Nat), m < n ∧ vs = [v, .int L, .int m] ∧ Td H v d ∧ Tabs Ts H ∧ ∀ H', ExT Ts H H' → Q (.bl (plainE m d L)) H'
/-- is_plain_expression(one, lates, deep - k) for the items of a tuple -/
theorem plain_parts {n j : Nat} {v : V} {L dp k : Int} {o : Option V} {p : Addr} {xs : List V} {ds : List D} {H : Hp} {Q : Bool → Hp → Prop} (hj : j < n) (hk : dp - k = (j : Int)) (hp : H p = some (.tup xs)) (hx : Tds H xs ds) (hT : Tabs Ts H)
    (q : ∀ H2, ExT Ts H H2 → Q (ds.all fun a => plainE j a L) H2) :
    ∃ W : Nat → Nat → Hp → Prop, (∃ m, W 0 m H) ∧ GTurns (Itt K p) (gName 3) (tCall (spPlainE Ts n) [] E0 (tCons (tVar 3) (tCons (tVar 1) (tCons (tOp (rI0 fun i j => .int (i - j)) (tVar 2) (tC (.int k))) tNil)))) [3] [some v, some (.int L), some (.int dp), o] W Q :=
  all_tup (f := fun a => plainE j a L) (ExT Ts H) hx (ExT.refl hT) (fun H1 e => e.ext.tup hp) (fun x d H1 hd _ e Q' q' => ⟨x, rfl, _, rfl, _, rfl, _, _, rfl, rfl, x, d, L, j, hj, (by show [x, V.int L, V.int (dp - k)] = _; rw [hk]), hd.mono e.kp, e.tab, fun H2 e2 => q' H2 (e.trans e2)⟩) q
theorem two_some {H : Hp} {x y : V} {d e : D} (h1 : Td H x d) (h2 : Td H y e) : Tds H [x, y] [d, e] := .cons h1 (.cons h2 .nil)
theorem step_plainE {n : Nat} (T : Txt K mg) (hP : Pt ∈ Ts) (d : DefT K mg base "is_plain_expression" s_is_plain_expression ["value", "lates", "deep"] Pt)
    (c_is_tuple : Cal P w K mg base 1 "is_tuple" ["value", "many"] spIsTuple) (c_is_in : Cal P w K mg base 1 "is_in" ["value", "least", "most"] spIsIn) (c_point_of : Cal P w K mg base 3 "point_of" ["name"] (spPointOf Ts))
    (c_is_plain_expression : Cal P w K mg base (2 * n + 4) "is_plain_expression" ["value", "lates", "deep"] (spPlainE Ts n)) : Cal P w K mg base (2 * n + 5 + 1) "is_plain_expression" ["value", "lates", "deep"] (spPlainE Ts (n + 1)) := by
  refine d.ok sc_is_plain_expression (fun vs H Q E h => ?_) (fun f c A outer s H vs Q E TB hr h => ?_)
  · obtain ⟨v, d, L, m, _, rfl, _⟩ := h
    rfl
  obtain ⟨v, d, L, m, hm, rfl, hd, hT, q⟩ := h
  have q0 := q H (ExT.refl hT)
  refine ⟨_, (pss_cons (ps_if (pt_cmpR op_eq (pv 2) pe_int (nomark _)) (pss_one (ps_ret pe_bl)) pss_nil)
      (pss_cons (ps_if (pt_val (pe_cal c_is_tuple (hr.mono (by omega)) (pa_cons (pv 0) (pa_cons pe_int pa_nil)))) (pss_cons (ps_if (pt_cmpR op_eq (pe_ix ix_tup (pv 0) pe_int (fun _ _ => rfl)) pe_str (nomark _)) (pss_one (ps_ret (pe_cal c_is_in (hr.mono (by omega)) (pa_cons (pe_ix ix_tup (pv 0) pe_int (fun _ _ => rfl)) (pa_cons pe_int (pa_cons (pe_gint T.MOST_VALUE) pa_nil)))))) pss_nil)
      (pss_one (ps_ret (pe_and (pe_cmpR op_eq (pe_ix ix_tup (pv 0) pe_int (fun _ _ => rfl)) pe_str (nomark _)) (pe_one (pe_cal c_is_in (hr.mono (by omega)) (pa_cons (pe_ix ix_tup (pv 0) pe_int (fun _ _ => rfl)) (pa_cons pe_int (pa_cons (pe_op op_sub (pv 1) pe_int) pa_nil))))))))) pss_nil)
      (pss_cons (ps_if (pt_val (pe_cal c_is_tuple (hr.mono (by omega)) (pa_cons (pv 0) (pa_cons pe_int pa_nil)))) (pss_cons (ps_if (pt_cmpR op_in_seq (pe_ix ix_tup (pv 0) pe_int (fun _ _ => rfl)) (pe_gref T.PAIRS) rfl) (pss_one (ps_ret (pe_allG (own := [("one", 3)]) (g := (gName 3)) hr rfl sc_is_plain_expression.nd rfl T.f_all TB rfl ⟨rfl, by decide +kernel, by decide +kernel⟩ (pi_tup (pe_slice sl_tupA (pv 0) (po_some pe_int) po_none)) (blkOk_by (N := n_is_plain_expression) (sc := defScope s_is_plain_expression) (by decide +kernel)) (fun _ _ _ _ _ _ _ => (pg_name (i := 3) sc_is_plain_expression.nd rfl (Or.inl rfl))) (fun _ _ _ _ _ _ _ hg => (pe_cal c_is_plain_expression (hg.mono (by omega)) (pa_cons (pv 3) (pa_cons (pv 1) (pa_cons (pe_op op_sub (pv 2) pe_int) pa_nil)))))))) pss_nil)
      (pss_cons (ps_if (PW.pt (pw_or (pt_cmpR op_ne (pe_ix ix_tup (pv 0) pe_int (fun _ _ => rfl)) pe_str (nomark _)) (pw_or (pt_cmpR op_isN (pe_cal c_point_of (hr.mono (by omega)) (pa_cons (pe_ix ix_tup (pv 0) pe_int (fun _ _ => rfl)) pa_nil)) pe_non (nomark _)) (pw_or1 (pt_not (pt_val (pe_callB call_isi (by rfl) T.f_isinstance (by decide +kernel) (pa_cons (pe_ix ix_tup (pv 0) pe_int (fun _ _ => rfl)) (pa_cons (pe_ty "tuple" T.f_tuple) pa_nil))))))))) (pss_one (ps_ret pe_bl)) pss_nil)
      (pss_one (ps_ret (pe_and (pe_cmpR op_le (pe_callB call_len_seq (by rfl) T.f_len PySem.boot_len (pa_cons (pe_ix ix_tup (pv 0) pe_int (fun _ _ => rfl)) pa_nil)) (pe_gint T.MOST_LATES) (nomark _)) (pe_one (pe_allG (own := [("one", 3)]) (g := (gName 3)) hr rfl sc_is_plain_expression.nd rfl T.f_all TB rfl ⟨rfl, by decide +kernel, by decide +kernel⟩ (pi_tup (pe_ix ix_tup (pv 0) pe_int (fun _ _ => rfl))) (blkOk_by (N := n_is_plain_expression) (sc := defScope s_is_plain_expression) (by decide +kernel)) (fun _ _ _ _ _ _ _ => (pg_name (i := 3) sc_is_plain_expression.nd rfl (Or.inl rfl))) (fun _ _ _ _ _ _ _ hg => (pe_cal c_is_plain_expression (hg.mono (by omega)) (pa_cons (pv 3) (pa_cons (pv 1) (pa_cons (pe_op op_sub (pv 2) pe_int) pa_nil)))))))))))) pss_nil)
      (pss_cons (ps_if (PW.pt (pw_or (pt_not (pt_val (pe_cal c_is_tuple (hr.mono (by omega)) (pa_cons (pv 0) (pa_cons pe_int pa_nil))))) (pw_or (pt_cmpR op_ne (pe_ix ix_tup (pv 0) pe_int (fun _ _ => rfl)) pe_str (nomark _)) (pw_or (pt_not (pt_val (pe_cal c_is_tuple (hr.mono (by omega)) (pa_cons (pe_ix ix_tup (pv 0) pe_int (fun _ _ => rfl)) (pa_cons pe_int pa_nil))))) (pw_or1 (pt_cmpR op_ne (pe_ix ix_tup (pe_ix ix_tup (pv 0) pe_int (fun _ _ => rfl)) pe_int (fun _ _ => rfl)) pe_str (nomark _))))))) (pss_one (ps_ret pe_bl)) pss_nil)
      (pss_cons (ps_if (PW.pt (pw_or (pt_cmpR op_lt (pv 2) pe_int (nomark _)) (pw_or1 (pt_not (pt_val (pe_allG (own := [("one", 3)]) (g := (gName 3)) hr rfl sc_is_plain_expression.nd rfl T.f_all TB rfl ⟨rfl, by decide +kernel, by decide +kernel⟩ (pi_tup (pe_slice sl_tupA (pe_ix ix_tup (pv 0) pe_int (fun _ _ => rfl)) (po_some pe_int) po_none)) (blkOk_by (N := n_is_plain_expression) (sc := defScope s_is_plain_expression) (by decide +kernel)) (fun _ _ _ _ _ _ _ => (pg_name (i := 3) sc_is_plain_expression.nd rfl (Or.inl rfl))) (fun _ _ _ _ _ _ _ hg => (pe_cal c_is_plain_expression (hg.mono (by omega)) (pa_cons (pv 3) (pa_cons (pv 1) (pa_cons (pe_op op_sub (pv 2) pe_int) pa_nil))))))))))) (pss_one (ps_ret pe_bl)) pss_nil)
      (pss_one (ps_ret (pe_allG (own := [("one", 3)]) (g := (gName 3)) hr rfl sc_is_plain_expression.nd rfl T.f_all TB rfl ⟨rfl, by decide +kernel, by decide +kernel⟩ (pi_tup (pe_slice sl_tupA (pv 0) (po_some pe_int) po_none)) (blkOk_by (N := n_is_plain_expression) (sc := defScope s_is_plain_expression) (by decide +kernel)) (fun _ _ _ _ _ _ _ => (pg_name (i := 3) sc_is_plain_expression.nd rfl (Or.inl rfl))) (fun _ _ _ _ _ _ _ hg => (pe_cal c_is_plain_expression (hg.mono (by omega)) (pa_cons (pv 3) (pa_cons (pv 1) (pa_cons (pe_op op_sub (pv 2) pe_int) pa_nil))))))))))))), ?_⟩
  refine ⟨_, rfl, rfl, _, rfl, ?_⟩
  refine ite2 (fun c0 => ?_) (fun c0 => ?_)
  · have e : m = 0 := by
      have := of_decide_eq_true c0
      injection this
      omega
    subst e
    exact q0
  cases m with
  | zero => exact absurd rfl c0
  | succ m =>
  refine ⟨_, rfl, v, d, 2, rfl, hd, by decide, _, rfl, ?_⟩
  cases h2 : isTuple d 2 with
  | true =>
    obtain ⟨k, x, rfl⟩ := isTuple2 h2
    obtain ⟨a, xs, rfl, ha, _, hx⟩ := hd.tup_inv
    obtain ⟨x1, xs, rfl, hk, hx⟩ := hx.cons_inv
    obtain ⟨x2, xs, rfl, hx2, hx⟩ := hx.cons_inv
    obtain rfl := hx.nil_inv
    obtain ⟨rfl, _⟩ := hk.str_inv
    refine iteT ?_
    refine ⟨_, rfl, _, _, _, _, rfl, rfl, SqT.of (ha), at0, rfl, _, rfl, ?_⟩
    refine ite2 (fun c1 => ?_) (fun c1 => ?_)
    · have e1 : k = "number" := by
        have := of_decide_eq_true c1
        injection this
      refine ⟨_, rfl, _, _, _, _, rfl, rfl, SqT.of (ha), at1, x2, x, 0, 10 ^ 30, rfl, hx2, ?_⟩
      have e : plainE (m + 1) (.tup [.str k, x]) L = isIn x 0 (10 ^ 30) := by
        show (if k = "number" then _ else _) = _
        rw [if_pos e1]
      rw [e] at q0
      exact q0
    · have e1 : ¬ k = "number" := fun z => c1 (decide_eq_true (congrArg V.str z))
      have e : plainE (m + 1) (.tup [.str k, x]) L = (decide (k = "late") && isIn x 0 (L - 1)) := by
        show (if k = "number" then _ else _) = _
        rw [if_neg e1]
      rw [e] at q0
      refine ⟨_, rfl, _, _, _, _, rfl, rfl, SqT.of (ha), at0, rfl, _, rfl, ?_⟩
      refine ite2 (fun c2 => ?_) (fun c2 => ?_)
      · have e2 : k = "late" := by
          have := of_decide_eq_true c2
          injection this
        refine ⟨_, rfl, _, _, _, _, rfl, rfl, SqT.of (ha), at1, _, rfl, _, _, rfl, rfl, x2, x, 0, L - 1, rfl, hx2, ?_⟩
        rw [decide_eq_true e2, Bool.true_and] at q0
        exact q0
      · have e2 : ¬ k = "late" := fun z => c2 (decide_eq_true (congrArg V.str z))
        rw [decide_eq_false e2, Bool.false_and] at q0
        exact q0
  | false =>
  refine iteF ?_
  refine ⟨_, rfl, v, d, 3, rfl, hd, by decide, _, rfl, ?_⟩
  cases h3 : isTuple d 3 with
  | true =>
    obtain ⟨k, x, y, rfl⟩ := isTuple3 h3
    obtain ⟨a, xs, rfl, ha, _, hx⟩ := hd.tup_inv
    obtain ⟨x1, xs, rfl, hk, hx⟩ := hx.cons_inv
    obtain ⟨x2, xs, rfl, hx2, hx⟩ := hx.cons_inv
    obtain ⟨x3, xs, rfl, hx3, hx⟩ := hx.cons_inv
    obtain rfl := hx.nil_inv
    obtain ⟨rfl, _⟩ := hk.str_inv
    refine iteT ?_
    refine ⟨_, rfl, _, _, _, _, rfl, rfl, SqT.of (ha), at0, _, _, rfl, .inl (T.pairs _), rfl, flat_strs _, _, rfl, ?_⟩
    refine ite2 (fun c1 => ?_) (fun c1 => ?_)
    · have c1' : pairsS.contains k = true := by
        rw [← inV_strs]
        exact c1
      have e : plainE (m + 1) (.tup [.str k, x, y]) L = [x, y].all (fun a => plainE m a L) := by
        show (if pairsS.contains k = true then _ else _) = _
        rw [if_pos c1']
      rw [e] at q
      refine ⟨_, rfl, _, rfl, _, _, rfl, SqT.of ha, (fun z => absurd z.1 (show ¬ HT.sIx 3 0 (some 1) = 0 by decide)), fun _ p hp => ?_⟩
      have x1 := (ExT.refl hT).new hp (.tup [x2, x3])
      refine ⟨p, rfl, ⟨_, SqT.of upd_same⟩, x1.tab _ hP, fun H2 tb => ?_⟩
      have x2' := x1.grown hP tb
      exact plain_parts (j := m) (by omega) (by omega) ((Ext.grown (x1.tab _ hP) tb).tup upd_same) ((two_some hx2 hx3).mono x2'.kp) x2'.tab fun H3 e3 => q H3 (x2'.trans e3)
    · have c1' : ¬ pairsS.contains k = true := fun z => c1 (by rw [← inV_strs] at z; exact z)
      have e : plainE (m + 1) (.tup [.str k, x, y]) L = (decide (k = "call") && (plainNmD x && callArgs y (fun a => plainE m a L))) := by
        show (if pairsS.contains k = true then _ else _) = _
        rw [if_neg c1']
      rw [e] at q
      refine ⟨_, rfl, _, _, _, _, rfl, rfl, SqT.of (ha), at0, rfl, _, rfl, ?_⟩
      refine ite2 (fun c2 => ?_) (fun c2 => ?_)
      · have e2 : ¬ k = "call" := fun z => by
          have c2 : (!decide (V.str k = V.str "call")) = true := c2
          rw [z] at c2
          simp at c2
        rw [decide_eq_false e2, Bool.false_and] at q
        exact iteT (q H (ExT.refl hT))
      · have e2 : k = "call" := by
          have c2 : ¬ (!decide (V.str k = V.str "call")) = true := c2
          have h2 : decide (V.str k = V.str "call") = true := by simpa using c2
          have := of_decide_eq_true h2
          injection this
        rw [decide_eq_true e2, Bool.true_and] at q
        refine ⟨_, rfl, _, _, _, _, rfl, rfl, SqT.of (ha), at1, x2, x, rfl, hx2, hT, fun v' H1 x1 r => ?_⟩
        refine ⟨rfl, _, rfl, ?_⟩
        rcases r with ⟨r, rfl⟩ | ⟨r, b, rfl⟩
        · rw [r, Bool.false_and] at q
          exact iteT (iteT (q H1 x1))
        · rw [r, Bool.true_and] at q
          refine iteF ?_
          refine ⟨_, rfl, _, _, _, _, rfl, rfl, SqT.of (x1.ext.tup ha), at2, _, _, _, _, _, rfl, .ty _, Td.tyx (hx3.mono x1.kp), kit_ty (kit_tup _), _, rfl, ?_⟩
          cases y with
          | tup as =>
            refine iteF ?_
            obtain ⟨ya, ys, rfl, hya, _, hys⟩ := (hx3.mono x1.kp).tup_inv
            have hyl := hys.length
            refine ⟨_, rfl, _, _, _, _, rfl, rfl, SqT.of (x1.ext.tup ha), at2, _, _, rfl, .inr (SqT.of (hya)), _, _, rfl, rfl, _, rfl, ?_⟩
            refine ite2 (fun c3 => ?_) (fun c3 => ?_)
            · have c3' : ((ys.length : Nat) : Int) ≤ 4 := of_decide_eq_true c3
              have eA : callArgs (.tup as) (fun a => plainE m a L) = as.all (fun a => plainE m a L) := by
                show (decide (as.length ≤ 4) && _) = _
                rw [decide_eq_true (p := as.length ≤ 4) (by omega), Bool.true_and]
              rw [eA] at q
              refine ⟨_, rfl, _, _, _, _, rfl, rfl, SqT.of (x1.ext.tup ha), at2, _, rfl, ⟨_, SqT.of hya⟩, x1.tab _ hP, fun H2 tb => ?_⟩
              have x2' := x1.grown hP tb
              exact plain_parts (j := m) (by omega) (by omega) ((Ext.grown (x1.tab _ hP) tb).tup hya) (hys.mono (Ext.grown (x1.tab _ hP) tb).kp) x2'.tab fun H3 e3 => q H3 (x2'.trans e3)
            · have c3' : ¬ ((ys.length : Nat) : Int) ≤ 4 := of_decide_eq_false (Bool.eq_false_iff.mpr c3)
              have eA : callArgs (.tup as) (fun a => plainE m a L) = false := by
                show (decide (as.length ≤ 4) && _) = _
                rw [decide_eq_false (p := as.length ≤ 4) (by omega), Bool.false_and]
              rw [eA] at q
              exact q H1 x1
          | _ => exact iteT (q H1 x1)
  | false =>
  refine iteF ?_
  refine ⟨_, rfl, v, d, 4, rfl, hd, by decide, _, rfl, ?_⟩
  cases h4 : isTuple d 4 with
  | false =>
    rw [plainE_other h2 h3 h4] at q0
    exact iteT (iteT q0)
  | true =>
  obtain ⟨k, t, x, y, rfl⟩ := isTuple4 h4
  obtain ⟨a, xs, rfl, ha, _, hx⟩ := hd.tup_inv
  obtain ⟨x1, xs, rfl, hk, hx⟩ := hx.cons_inv
  obtain ⟨xt, xs, rfl, hxt, hx⟩ := hx.cons_inv
  obtain ⟨x2, xs, rfl, hx2, hx⟩ := hx.cons_inv
  obtain ⟨x3, xs, rfl, hx3, hx⟩ := hx.cons_inv
  obtain rfl := hx.nil_inv
  obtain ⟨rfl, _⟩ := hk.str_inv
  refine iteF ?_
  obtain ⟨g, e, gj, g0⟩ := plainE_if m k t x y L
  rw [e] at q q0
  clear e
  refine ⟨_, rfl, _, _, _, _, rfl, rfl, SqT.of (ha), at0, rfl, _, rfl, ?_⟩
  refine ite2 (fun c2 => ?_) (fun c2 => ?_)
  · have e2 : ¬ k = "if" := fun z => by
      have c2 : (!decide (V.str k = V.str "if")) = true := c2
      rw [z] at c2
      simp at c2
    rw [decide_eq_false e2, Bool.false_and] at q0
    exact iteT q0
  have e2 : k = "if" := by
    have c2 : ¬ (!decide (V.str k = V.str "if")) = true := c2
    have h2 : decide (V.str k = V.str "if") = true := by simpa using c2
    have := of_decide_eq_true h2
    injection this
  rw [decide_eq_true e2, Bool.true_and] at q q0
  refine ⟨_, rfl, _, _, _, _, rfl, rfl, SqT.of (ha), at1, xt, t, 3, rfl, hxt, by decide, _, rfl, ?_⟩
  cases h5 : isTuple t 3 with
  | false =>
    have eL : g = false := by
      by_cases hm2 : m < 2
      · exact g0 hm2
      · rw [gj (m - 2) (by omega), lessArgs_not _ h5]
    rw [eL, Bool.false_and] at q0
    exact iteT (iteT q0)
  | true =>
  obtain ⟨k2, u, z, rfl⟩ := isTuple3 h5
  obtain ⟨ta, ts, rfl, hta, _, hts⟩ := hxt.tup_inv
  obtain ⟨y1, ts, rfl, hk2, hts⟩ := hts.cons_inv
  obtain ⟨y2, ts, rfl, hy2, hts⟩ := hts.cons_inv
  obtain ⟨y3, ts, rfl, hy3, hts⟩ := hts.cons_inv
  obtain rfl := hts.nil_inv
  obtain ⟨rfl, _⟩ := hk2.str_inv
  refine iteF ?_
  refine ⟨_, rfl, _, _, _, _, rfl, rfl, SqT.of (ha), at1, _, _, _, _, rfl, rfl, SqT.of (hta), at0, rfl, _, rfl, ?_⟩
  refine ite2 (fun c3 => ?_) (fun c3 => ?_)
  · have e3 : ¬ k2 = "less" := fun z => by
      have c3 : (!decide (V.str k2 = V.str "less")) = true := c3
      rw [z] at c3
      simp at c3
    have eL : g = false := by
      by_cases hm2 : m < 2
      · exact g0 hm2
      · rw [gj (m - 2) (by omega)]
        show (decide (k2 = "less") && _) = false
        rw [decide_eq_false e3, Bool.false_and]
    rw [eL, Bool.false_and] at q0
    exact q0
  have e3 : k2 = "less" := by
    have c3 : ¬ (!decide (V.str k2 = V.str "less")) = true := c3
    have h2 : decide (V.str k2 = V.str "less") = true := by simpa using c3
    have := of_decide_eq_true h2
    injection this
  refine ⟨_, rfl, _, _, rfl, rfl, _, rfl, ?_⟩
  refine ite2 (fun c4 => ?_) (fun c4 => ?_)
  · have c4' : ((m + 1 : Nat) : Int) < 3 := of_decide_eq_true c4
    have eL : g = false := g0 (by omega)
    rw [eL, Bool.false_and] at q0
    first | exact q0 | exact iteT (iteT q0)
  have c4' : ¬ ((m + 1 : Nat) : Int) < 3 := of_decide_eq_false (Bool.eq_false_iff.mpr c4)
  obtain ⟨j, rfl⟩ : ∃ j, m = j + 2 := ⟨m - 2, by omega⟩
  have eL : g = [u, z].all (fun a => plainE (j + 1) a L) := by
    rw [gj j rfl]
    show (decide (k2 = "less") && _) = _
    rw [decide_eq_true e3, Bool.true_and]
  rw [eL] at q q0
  clear eL
  refine ⟨_, rfl, _, _, _, _, rfl, rfl, SqT.of (ha), at1, _, rfl, _, _, rfl, SqT.of hta, (fun z => absurd z.1 (show ¬ HT.sIx 3 0 (some 1) = 0 by decide)), fun _ p hp => ?_⟩
  have x1 := (ExT.refl hT).new hp (.tup [y2, y3])
  refine ⟨p, rfl, ⟨_, SqT.of upd_same⟩, x1.tab _ hP, fun H2 tb => ?_⟩
  have x2' := x1.grown hP tb
  refine plain_parts (j := j + 1) (by omega) (by omega) ((Ext.grown (x1.tab _ hP) tb).tup upd_same) ((two_some hy2 hy3).mono x2'.kp) x2'.tab fun H3 e3' => ?_
  have x3' := x2'.trans e3'
  refine ⟨_, rfl, ?_⟩
  cases eA : [u, z].all (fun a => plainE (j + 1) a L) with
  | false =>
    rw [eA, Bool.false_and] at q
    exact iteT (q H3 x3')
  | true =>
    rw [eA, Bool.true_and] at q
    refine iteF ?_
    refine ⟨_, rfl, _, rfl, _, _, rfl, SqT.of (x3'.ext.tup ha), (fun z => absurd z.1 (show ¬ HT.sIx 4 0 (some 2) = 0 by decide)), fun _ p4 hp4 => ?_⟩
    have x4 := x3'.new hp4 (.tup [x2, x3])
    refine ⟨p4, rfl, ⟨_, SqT.of upd_same⟩, x4.tab _ hP, fun H5 tb5 => ?_⟩
    have x5 := x4.grown hP tb5
    exact plain_parts (j := j + 2) (by omega) (by omega) ((Ext.grown (x4.tab _ hP) tb5).tup upd_same) ((two_some hx2 hx3).mono x5.kp) x5.tab fun H6 e6 => q H6 (x5.trans e6)
/-- .. at every depth -/
theorem ok_plainE (T : Txt K mg) (hP : Pt ∈ Ts) (d : DefT K mg base "is_plain_expression" s_is_plain_expression ["value", "lates", "deep"] Pt)
    (c_is_tuple : Cal P w K mg base 1 "is_tuple" ["value", "many"] spIsTuple) (c_is_in : Cal P w K mg base 1 "is_in" ["value", "least", "most"] spIsIn) (c_point_of : Cal P w K mg base 3 "point_of" ["name"] (spPointOf Ts)) :
    ∀ n : Nat, Cal P w K mg base (2 * n + 4) "is_plain_expression" ["value", "lates", "deep"] (spPlainE Ts n)
  | 0 => (d.none fun vs H Q E ⟨_, _, _, m, h, _⟩ => absurd h (Nat.not_lt_zero m)).mono (by omega)
  | n + 1 => (step_plainE T hP d c_is_tuple c_is_in c_point_of (ok_plainE T hP d c_is_tuple c_is_in c_point_of n)).mono (by omega)
end
end K04
namespace K04
open PySem PySem.Spec PyProof.Rows L2

/-! ### plain data laws -/
def D.toInt : D → Int | .int i => i | _ => 0
def D.toTup : D → Option (List D) | .tup l => some l | _ => none
/-- a function of a plain program, its calls aside -/
def plainF : D → Bool
  | .tup [nm, l, b] => plainNmD nm && (isIn l 0 4 && plainE 30 b l.toInt)
  | _ => false
def leafK : List Str := ["number", "early", "late", "below", "rest"]
def partsD : D → Option (List D)
  | .tup (.str k :: r) => if leafK.contains k = true then some [] else if k = "call" then r.getLast?.bind D.toTup else some r
  | _ => none
def ownD (d : D) : List D := match d with
  | .tup (.str k :: _) => if k = "call" then [d] else []
  | _ => []
def callsL (f : D → Option (List D)) : List D → Option (List D)
  | [] => some []
  | p :: r => (f p).bind fun a => (callsL f r).map (a ++ ·)
def callsD : Nat → D → Option (List D)
  | 0, _ => none
  | n + 1, d => (partsD d).bind fun ps => (callsL (callsD n) ps).map (ownD d ++ ·)
theorem callsL_snoc (f : D → Option (List D)) : ∀ (l : List D) (p : D) {a : List D}, callsL f (l ++ [p]) = some a → ∃ x y, callsL f l = some x ∧ f p = some y ∧ a = x ++ y
  | [], p, a, h => by
    cases e : f p with
    | none => simp [callsL, e] at h
    | some y =>
      refine ⟨[], y, rfl, rfl, ?_⟩
      simp [callsL, e] at h
      simp [h]
  | q :: l, p, a, h => by
    rw [List.cons_append] at h
    unfold callsL at h
    cases e : f q with
    | none => simp [e] at h
    | some b =>
      rw [e] at h
      cases e2 : callsL f (l ++ [p]) with
      | none => simp [e2] at h
      | some c =>
        rw [e2] at h
        obtain ⟨x, y, h1, h2, h3⟩ := callsL_snoc f l p e2
        refine ⟨b ++ x, y, ?_, h2, ?_⟩
        · unfold callsL
          rw [e, h1]
          rfl
        · have : b ++ c = a := by simpa using h
          rw [← this, h3, List.append_assoc]
theorem callsL_take {f : D → Option (List D)} {l : List D} {a : List D} (h : callsL f l = some a) : ∀ i : Nat, i ≤ l.length → ∃ x, callsL f (l.take i) = some x ∧ x.length ≤ a.length := by
  intro i hi
  induction hk : l.length - i generalizing i with
  | zero =>
    have e : i = l.length := by omega
    rw [e, List.take_length]
    exact ⟨a, h, Nat.le_refl _⟩
  | succ k ih =>
    obtain ⟨x, hx, hl⟩ := ih (i + 1) (by omega) (by omega)
    rw [List.take_succ_eq_append_getElem (by omega : i < l.length)] at hx
    obtain ⟨x', y, h1, h2, rfl⟩ := callsL_snoc f _ _ hx
    exact ⟨x', h1, by simp only [List.length_append] at hl; omega⟩
theorem callsL_at {f : D → Option (List D)} {l : List D} {a : List D} (h : callsL f l = some a) {i : Nat} (hi : i < l.length) :
    ∃ x y, callsL f (l.take i) = some x ∧ f l[i] = some y ∧ callsL f (l.take (i + 1)) = some (x ++ y) ∧ x.length + y.length ≤ a.length := by
  obtain ⟨z, hz, hl⟩ := callsL_take h (i + 1) hi
  have hz' := hz
  rw [List.take_succ_eq_append_getElem hi] at hz
  obtain ⟨x, y, h1, h2, rfl⟩ := callsL_snoc f _ _ hz
  exact ⟨x, y, h1, h2, hz', by simpa using hl⟩
theorem ixN_last (n : Nat) : ixN (n + 1) (-1) = some n := by
  unfold ixN
  rw [if_neg (by decide), if_pos (by omega)]
  congr 1
  omega
theorem at_last {H : Hp} {x : V} {xs : List V} {ds : List D} {d : D} (h : Tds H xs ds) (e : ds.getLast? = some d) : ∃ y, atI (x :: xs) (-1) = some y ∧ Td H y d := by
  rw [List.getLast?_eq_getElem?] at e
  have hl := h.length
  have hpos : 0 < ds.length := by
    cases ds with
    | nil => simp at e
    | cons _ _ => simp
  obtain ⟨y, hy, ht⟩ := h.getD e
  refine ⟨y, ?_, ht⟩
  unfold atI
  rw [List.length_cons, ixN_last]
  show (x :: xs)[xs.length]? = some y
  have e2 : xs.length = (ds.length - 1) + 1 := by omega
  rw [e2, List.getElem?_cons_succ]
  exact hy
section
variable {P : Program} {w : World} {K : PySem.W.Frag} {mg : Str → Option Value} {base : Heap} {Ts : List Addr} {Pt : Addr}

abbrev n_is_plain_function : List Str := ["value"]
theorem sc_is_plain_function : FnScope n_is_plain_function ["value"] (defScope s_is_plain_function) := ⟨rfl, rfl, rfl, by decide +kernel, rfl, by decide +kernel, by decide +kernel⟩
def spPlainF (K : PySem.W.Frag) (Ts : List Addr) : Sp := fun vs H Q _ => (∃ (v : V) (d : D), vs = [v] ∧ Td H v d ∧ Tabs Ts H ∧ ∀ H', ExT Ts H H' → Q (.bl (plainF d)) H') ∨ ∃ (a : Addr) (xs : List V), vs = [.ref a] ∧ H a = some (.lst xs) ∧ Q (.bl false) H
theorem ok_plainF (T : Txt K mg) (d : Def K mg "is_plain_function" s_is_plain_function ["value"]) (c_is_in : Cal P w K mg base 1 "is_in" ["value", "least", "most"] spIsIn) (c_point_of : Cal P w K mg base 3 "point_of" ["name"] (spPointOf Ts))
    (c_is_plain_expression : Cal P w K mg base 66 "is_plain_expression" ["value", "lates", "deep"] (spPlainE Ts 31)) : Cal P w K mg base 67 "is_plain_function" ["value"] (spPlainF K Ts) := by
  refine d.ok sc_is_plain_function (fun vs H Q E h => ?_) (fun f cdv A outer s H vs Q E hr h => ?_)
  · rcases h with ⟨v, d, rfl, _⟩ | ⟨a, xs, rfl, _⟩ <;> rfl
  refine ⟨_, (pss_cons (ps_if (PW.pt (pw_or (pt_not (pt_val (pe_callB call_isi (by rfl) T.f_isinstance (by decide +kernel) (pa_cons (pv 0) (pa_cons (pe_ty "tuple" T.f_tuple) pa_nil))))) (pw_or (pt_cmpR op_ne (pe_callB call_len_seq (by rfl) T.f_len PySem.boot_len (pa_cons (pv 0) pa_nil)) pe_int (nomark _)) (pw_or1 (pt_cmpR op_isN (pe_cal c_point_of (hr.mono (by omega)) (pa_cons (pe_ix ix_tup (pv 0) pe_int (fun _ _ => rfl)) pa_nil)) pe_non (nomark _)))))) (pss_one (ps_ret pe_bl)) pss_nil)
      (pss_one (ps_ret (pe_and (pe_cal c_is_in (hr.mono (by omega)) (pa_cons (pe_ix ix_tup (pv 0) pe_int (fun _ _ => rfl)) (pa_cons pe_int (pa_cons (pe_gint T.MOST_LATES) pa_nil)))) (pe_one (pe_cal c_is_plain_expression (hr.mono (by omega)) (pa_cons (pe_ix ix_tup (pv 0) pe_int (fun _ _ => rfl)) (pa_cons (pe_ix ix_tup (pv 0) pe_int (fun _ _ => rfl)) (pa_cons (pe_gint T.MOST_DEEP) pa_nil))))))))), ?_⟩
  rcases h with ⟨v, d, rfl, hd, hT, q⟩ | ⟨a, xs, rfl, ha, q⟩
  · have q0 := q H (ExT.refl hT)
    refine ⟨_, rfl, _, _, _, _, _, rfl, .ty _, Td.tyx (hd), kit_ty (kit_tup _), _, rfl, ?_⟩
    cases d with
    | tup l =>
      refine iteF ?_
      obtain ⟨a, xs, rfl, ha, _, hx⟩ := hd.tup_inv
      have hl := hx.length
      refine ⟨_, rfl, _, _, rfl, .inr (SqT.of (ha)), rfl, _, rfl, ?_⟩
      refine ite2 (fun c1 => ?_) (fun c1 => ?_)
      · have hl3 : ¬ l.length = 3 := fun z => by
          have c1 : (!decide (V.int (xs.length : Nat) = V.int 3)) = true := c1
          rw [hl, z] at c1
          simp at c1
        have e : plainF (.tup l) = false := by
          unfold plainF
          split
          · rename_i hh
            injection hh with hh
            subst hh
            exact absurd rfl hl3
          · rfl
        rw [e] at q0
        exact iteT q0
      · have hl3 : l.length = 3 := by
          have c1 : ¬ (!decide (V.int (xs.length : Nat) = V.int 3)) = true := c1
          have h2 : decide (V.int (xs.length : Nat) = V.int 3) = true := by simpa using c1
          have := of_decide_eq_true h2
          injection this
          omega
        match l, hl3 with
        | [nm, lt, b], _ =>
        obtain ⟨x1, xs, rfl, h1, hx⟩ := hx.cons_inv
        obtain ⟨x2, xs, rfl, h2, hx⟩ := hx.cons_inv
        obtain ⟨x3, xs, rfl, h3, hx⟩ := hx.cons_inv
        obtain rfl := hx.nil_inv
        have e : plainF (.tup [nm, lt, b]) = (plainNmD nm && (isIn lt 0 4 && plainE 30 b lt.toInt)) := rfl
        rw [e] at q q0
        clear e
        refine ⟨_, rfl, _, _, _, _, rfl, rfl, SqT.of (ha), at0, x1, nm, rfl, h1, hT, fun v' H1 x1 r => ?_⟩
        refine ⟨rfl, _, rfl, ?_⟩
        rcases r with ⟨r, rfl⟩ | ⟨r, b', rfl⟩
        · rw [r, Bool.false_and] at q
          exact iteT (q H1 x1)
        · rw [r, Bool.true_and] at q
          refine iteF ?_
          have ha1 := x1.ext.tup ha
          refine ⟨_, rfl, _, _, _, _, rfl, rfl, SqT.of (ha1), at1, x2, lt, 0, 4, rfl, h2.mono x1.kp, _, rfl, ?_⟩
          cases e1 : isIn lt 0 4 with
          | false =>
            rw [e1, Bool.false_and] at q
            exact iteF (q H1 x1)
          | true =>
            rw [e1, Bool.true_and] at q
            refine iteT ?_
            have hi : ∃ i, lt = .int i := by
              cases lt with
              | int i => exact ⟨i, rfl⟩
              | _ => exact absurd e1 Bool.false_ne_true
            obtain ⟨i, rfl⟩ := hi
            obtain rfl := h2.int_inv
            refine ⟨_, rfl, _, _, _, _, rfl, rfl, SqT.of (ha1), at2, _, rfl, _, _, _, _, rfl, rfl, SqT.of (ha1), at1, x3, b, i, 30, by decide, rfl, h3.mono x1.kp, x1.tab, fun H2 e2 => q H2 (x1.trans e2)⟩
    | non => exact iteT (iteT q0)
    | bl b => exact iteT (iteT q0)
    | int i => exact iteT (iteT q0)
    | str s => exact iteT (iteT q0)
  · refine ⟨_, rfl, _, _, _, _, _, rfl, .ty _, .base (.lst ha), kit_ty (r := false) (by decide +kernel), _, rfl, ?_⟩
    exact iteT (iteT q)

abbrev n_parts_of : List Str := ["one"]
theorem sc_parts_of : FnScope n_parts_of ["one"] (defScope s_parts_of) := ⟨rfl, rfl, rfl, by decide +kernel, rfl, by decide +kernel, by decide +kernel⟩
def spPartsOf : Sp := fun vs H Q _ => ∃ (v : V) (d : D) (ps : List D), vs = [v] ∧ Td H v d ∧ partsD d = some ps ∧ ∀ (H' : Hp) (p : Addr) (xs : List V), Same H H' → H p = none → H' p = some (.lst xs) → Tds H' xs ps → Q (.ref p) H'
theorem ok_parts_of (T : Txt K mg) (d : Def K mg "parts_of" s_parts_of ["one"]) : Cal P w K mg base 1 "parts_of" ["one"] spPartsOf := by
  refine d.ok sc_parts_of (fun vs H Q E h => ?_) (fun f cdv A outer s H vs Q E hr h => ?_)
  · obtain ⟨v, d, ps, rfl, _⟩ := h
    rfl
  obtain ⟨v, d, ps, rfl, hd, hp, q⟩ := h
  refine ⟨_, (pss_cons (ps_if (pt_cmpR op_in_seq (pe_ix ix_tup (pv 0) pe_int (fun _ _ => rfl)) (pe_lst (pa_cons pe_str (pa_cons pe_str (pa_cons pe_str (pa_cons pe_str (pa_cons pe_str pa_nil)))))) rfl) (pss_one (ps_ret (pe_lst pa_nil))) pss_nil)
      (pss_cons (ps_if (pt_cmpR op_eq (pe_ix ix_tup (pv 0) pe_int (fun _ _ => rfl)) pe_str (nomark _)) (pss_one (ps_ret (pe_callTy call_list_of (by rfl) T.f_list (by decide +kernel) (pa_cons (pe_ix ix_tup (pv 0) (pe_un un_neg pe_int) (fun _ _ => rfl)) pa_nil)))) pss_nil)
      (pss_one (ps_ret (pe_callTy call_list_of (by rfl) T.f_list (by decide +kernel) (pa_cons (pe_slice sl_tupA (pv 0) (po_some pe_int) po_none) pa_nil)))))), ?_⟩
  obtain ⟨k, r, rfl⟩ : ∃ k r, d = .tup (.str k :: r) := by
    unfold partsD at hp
    split at hp
    · exact ⟨_, _, rfl⟩
    · cases hp
  obtain ⟨a, xs0, rfl, ha, hal, hx0⟩ := hd.tup_inv
  obtain ⟨x1, xs, rfl, hk, hx⟩ := hx0.cons_inv
  obtain ⟨rfl, _⟩ := hk.str_inv
  have hp : (if leafK.contains k = true then some [] else if k = "call" then r.getLast?.bind D.toTup else some r) = some ps := hp
  refine ⟨_, rfl, _, _, _, _, rfl, rfl, SqT.of (ha), at0, (by show 5 ≤ sizeLine; decide), fun p0 hp0 => ?_⟩
  refine ⟨_, _, rfl, .inl (.inl (.inl upd_same)), rfl, flat_strs leafK, _, rfl, ?_⟩
  have S0 : Same H (upd H p0 (.lst (leafK.map V.str))) := Same.new hp0 _
  have fr : ∀ p, upd H p0 (.lst (leafK.map V.str)) p = none → H p = none := fun p hh => by
    cases e : H p with
    | none => rfl
    | some o => rw [S0 _ _ e] at hh; cases hh
  refine ite2 (fun c1 => ?_) (fun c1 => ?_)
  · have c1' : leafK.contains k = true := by
      rw [← inV_strs]
      exact c1
    rw [if_pos c1'] at hp
    obtain rfl := (Option.some.inj hp).symm
    refine ⟨(by show 0 ≤ sizeLine; decide), fun p hp => q _ p [] (Same.new' S0 hp _) (fr p hp) upd_same .nil⟩
  · have c1' : ¬ leafK.contains k = true := fun z => c1 (by rw [← inV_strs] at z; exact z)
    rw [if_neg c1'] at hp
    have ha1 := S0 _ _ ha
    refine ⟨_, rfl, _, _, _, _, rfl, rfl, SqT.of (ha1), at0, rfl, _, rfl, ?_⟩
    refine ite2 (fun c2 => ?_) (fun c2 => ?_)
    · have e2 : k = "call" := by
        have := of_decide_eq_true c2
        injection this
      rw [if_pos e2] at hp
      obtain ⟨dl, hl1, hl2⟩ := Option.bind_eq_some_iff.mp hp
      obtain ⟨y, hy1, hy2⟩ := at_last (x := V.str k) hx hl1
      obtain rfl : dl = .tup ps := by
        cases dl with
        | tup l => exact congrArg D.tup (Option.some.inj hl2)
        | _ => cases hl2
      obtain ⟨b, zs, rfl, hb, _, hz⟩ := hy2.tup_inv
      refine ⟨_, rfl, _, rfl, _, _, _, _, rfl, rfl, SqT.of ha1, hy1, _, _, rfl, .inr (SqT.of (S0 _ _ hb)), fun l hl => ?_⟩
      exact q _ l zs (Same.new' S0 hl _) (fr l hl) upd_same (hz.mono (Same.kp (Same.new' S0 hl _)))
    · have e2 : ¬ k = "call" := fun z => c2 (decide_eq_true (congrArg V.str z))
      rw [if_neg e2] at hp
      obtain rfl := Option.some.inj hp
      have full : ∀ (H1 : Hp) (b : Addr), Same H H1 → SqT K H1 b xs → ∀ l, H1 l = none → Q (.ref l) (upd H1 l (.lst xs)) := fun H1 b S1 _ l hl =>
        q _ l xs (Same.new' S1 hl _) (by
          cases e : H l with
          | none => rfl
          | some o => rw [S1 _ _ e] at hl; cases hl) upd_same (hx.mono (Same.kp (Same.new' S1 hl _)))
      have hcut : cutV (V.str k :: xs) (some 1) none = xs := by
        unfold cutV
        rw [show HT.sIx (V.str k :: xs).length 0 (some 1) = 1 from (by show min 1 _ = 1; simp), HT.sIx_none]
        simp
      refine ⟨_, rfl, _, rfl, _, _, rfl, SqT.of ha1, (fun z => absurd z.1 (by show ¬ min 1 (xs.length + 1) = 0; omega)), fun _ p hp => ?_⟩
      rw [hcut]
      refine ⟨_, _, rfl, .inr (SqT.of upd_same), full _ p (Same.new' S0 hp _) (SqT.of upd_same)⟩

abbrev n_calls_of : List Str := ["one", "found", "part"]
theorem sc_calls_of : FnScope n_calls_of ["one"] (defScope s_calls_of) := ⟨rfl, rfl, rfl, by decide +kernel, rfl, by decide +kernel, by decide +kernel⟩
def spCalls (n : Nat) : Sp := fun vs H Q _ => ∃ (v : V) (d : D) (m : Nat) (cs : List D), m < n ∧ vs = [v] ∧ Td H v d ∧ callsD m d = some cs ∧ cs.length ≤ 50000 ∧ ∀ (p : Addr) (xs : List V) (H' : Hp), Same H H' → H' p = some (.lst xs) → Tds H' xs cs → Q (.ref p) H'
theorem step_calls {n : Nat} (T : Txt K mg) (d : Def K mg "calls_of" s_calls_of ["one"]) (c_parts_of : Cal P w K mg base 1 "parts_of" ["one"] spPartsOf) (c_calls_of : Cal P w K mg base (n + 1) "calls_of" ["one"] (spCalls n)) :
    Cal P w K mg base (n + 1 + 1) "calls_of" ["one"] (spCalls (n + 1)) := by
  refine d.ok sc_calls_of (fun vs H Q E h => ?_) (fun f cdv A outer s H vs Q E hr h => ?_)
  · obtain ⟨v, d, m, cs, _, rfl, _⟩ := h
    rfl
  obtain ⟨v, d, m, cs, hm, rfl, hd, hc, hz, q⟩ := h
  refine ⟨_, (pss_cons (ps_set (i := 1) sc_calls_of.nd rfl (Or.inl rfl) (pe_ifExp (pt_cmpR op_eq (pe_ix ix_tup (pv 0) pe_int (fun _ _ => rfl)) pe_str (nomark _)) (pe_lst (pa_cons (pv 0) pa_nil)) (pe_lst pa_nil)))
      (pss_cons (ps_for PassesOwn.never rfl (pi_list (pe_cal c_parts_of (hr.mono (by omega)) (pa_cons (pv 0) pa_nil))) (pg_name (i := 2) sc_calls_of.nd rfl (Or.inl rfl)) (pss_one (ps_set (i := 1) sc_calls_of.nd rfl (Or.inl rfl) (pe_op op_cat (pv 1) (pe_cal c_calls_of (hr.mono (by omega)) (pa_cons (pv 2) pa_nil))))))
      (pss_one (ps_ret (pv 1))))), ?_⟩
  cases m with
  | zero => cases hc
  | succ m =>
  obtain ⟨ps, hp, hc1⟩ := Option.bind_eq_some_iff.mp hc
  obtain ⟨c2, hc2, hcs⟩ := Option.map_eq_some_iff.mp hc1
  subst hcs
  obtain ⟨k, r, rfl⟩ : ∃ k r, d = .tup (.str k :: r) := by
    unfold partsD at hp
    split at hp
    · exact ⟨_, _, rfl⟩
    · cases hp
  have hd' := hd
  obtain ⟨a, xs0, rfl, ha, hal, hx0⟩ := hd.tup_inv
  obtain ⟨x1, xs, rfl, hk, hx⟩ := hx0.cons_inv
  obtain ⟨rfl, _⟩ := hk.str_inv
  -- the loop
  have rest : ∀ (H1 : Hp) (b : Addr) (ys : List V), Same H H1 → H1 b = some (.lst ys) → Tds H1 ys (ownD (.tup (.str k :: r))) →
      tSeq (tFor (iList K (tCall spPartsOf [] E0 (tCons (tVar 0) tNil))) (gName 2) (tAsg (tOp rCat (tVar 1) (tCall (spCalls n) [] E0 (tCons (tVar 2) tNil))) (gName 1))) (tRet (tVar 1)) { nx := fun _ H' => Q .non H', rt := Q } [some (.ref a), some (.ref b), none] H1 := by
    intro H1 b ys S1 hb hys
    refine ⟨_, rfl, .ref a, _, ps, rfl, hd'.mono (Same.kp S1), hp, fun H2 p zs S2 hp0 hp hzs => ?_⟩
    have S12 := S1.trans S2
    refine ⟨p, rfl, ⟨_, SqL.of hp⟩, for_srv (Srv.lst (P := fun H => SqL K H p zs) fun _ h => h) (fun i σ H' => ∃ (b : Addr) (ys : List V) (x : Option V) (cs : List D), σ = [some (.ref a), some (.ref b), x] ∧ Same H H' ∧ H' b = some (.lst ys) ∧
      H' p = some (.lst zs) ∧ Tds H' zs ps ∧ callsL (callsD m) (ps.take i) = some cs ∧ Tds H' ys (ownD (.tup (.str k :: r)) ++ cs)) (fun i σ H' ⟨_, _, _, _, _, _, _, h, _⟩ => SqL.of h) ?_ ?_ ?_⟩
    · exact ⟨b, ys, none, [], rfl, S12, S2 _ _ hb, hp, hzs, by rw [List.take_zero]; rfl, by rw [List.append_nil]; exact hys.mono (Same.kp S2)⟩
    · rintro i x σ H3 hx ⟨b, ys, x', cs, rfl, S3, hb, hp, hzs, hcs, hys⟩
      obtain ⟨e, he, ht⟩ := hzs.get hx
      obtain ⟨hi, he'⟩ := List.getElem?_eq_some_iff.mp he
      obtain ⟨c1, c2', h1, h2, h3, h4⟩ := callsL_at hc2 hi
      rw [hcs] at h1
      obtain rfl := Option.some.inj h1
      rw [he'] at h2
      refine ⟨_, rfl, _, rfl, x, e, m, c2', by omega, rfl, ht, h2, by simp only [List.length_append] at hz; omega, fun p2 ws H4 S4 hp2 hws => ?_⟩
      have l1 := hys.length
      have l2 := hws.length
      simp only [List.length_append] at l1 hz
      refine ⟨b, p2, ys, ws, rfl, rfl, S4 _ _ hb, hp2, sz100 (by omega), fun p3 hp3 => ?_⟩
      have S5 := Same.new hp3 (.lst (ys ++ ws))
      refine ⟨p3, ys ++ ws, some x, cs ++ c2', rfl, Same.new' (S3.trans S4) hp3 _, upd_same, S5 _ _ (S4 _ _ hp), hzs.mono (Same.kp (S4.trans S5)), h3, ?_⟩
      have z := (hys.mono (Same.kp (S4.trans S5))).append (hws.mono (Same.kp S5))
      rw [List.append_assoc] at z
      exact z
    · rintro σ H3 ⟨b, ys, x', cs, rfl, S3, hb, hp, hzs, hcs, hys⟩
      rw [hzs.length, List.take_length, hc2] at hcs
      obtain rfl := Option.some.inj hcs
      exact ⟨_, rfl, q b ys H3 S3 hb hys⟩
  refine ⟨_, rfl, _, _, _, _, rfl, rfl, SqT.of (ha), at0, rfl, _, rfl, ?_⟩
  refine ite2 (fun c1 => ?_) (fun c1 => ?_)
  · have e : k = "call" := by
      have := of_decide_eq_true c1
      injection this
    refine ⟨_, rfl, (by show 1 ≤ sizeLine; decide), fun p hp => ?_⟩
    refine rest _ p _ (Same.new hp _) upd_same ?_
    show Tds _ _ (if k = "call" then _ else _)
    rw [if_pos e]
    exact .one (hd'.mono (Same.kp (Same.new hp _)))
  · have e : ¬ k = "call" := fun z => c1 (decide_eq_true (congrArg V.str z))
    refine ⟨(by show 0 ≤ sizeLine; decide), fun p hp => ?_⟩
    refine rest _ p _ (Same.new hp _) upd_same ?_
    show Tds _ _ (if k = "call" then _ else _)
    rw [if_neg e]
    exact .nil
theorem ok_calls_of (T : Txt K mg) (d : Def K mg "calls_of" s_calls_of ["one"]) (c_parts_of : Cal P w K mg base 1 "parts_of" ["one"] spPartsOf) : ∀ n : Nat, Cal P w K mg base (n + 1) "calls_of" ["one"] (spCalls n)
  | 0 => (Cal.none d fun vs H Q E ⟨_, _, m, _, h, _⟩ => absurd h (Nat.not_lt_zero m)).mono (by omega)
  | n + 1 => step_calls T d c_parts_of (ok_calls_of T d c_parts_of n)
end
end K04
namespace K04
open PySem PySem.Spec PyProof.Rows L2

/-! ### plain data laws -/
mutual
/-- the number of things in a value -/
def D.sz : D → Nat
  | .non => 1
  | .bl _ => 1
  | .int _ => 1
  | .str _ => 1
  | .tup l => D.szs l + 1
def D.szs : List D → Nat
  | [] => 0
  | d :: r => d.sz + D.szs r
end
theorem szs_mem {d : D} : ∀ {l : List D}, d ∈ l → d.sz ≤ D.szs l
  | x :: r, h => by
    rw [D.szs]
    rcases List.mem_cons.mp h with e | h
    · subst e; omega
    · have := szs_mem h; omega
theorem sz_pos : ∀ d : D, 1 ≤ d.sz
  | .tup l => by rw [D.sz]; omega
  | .non => by rw [D.sz]; omega
  | .bl _ => by rw [D.sz]; omega
  | .int _ => by rw [D.sz]; omega
  | .str _ => by rw [D.sz]; omega
theorem szs_len : ∀ l : List D, l.length ≤ D.szs l
  | [] => Nat.zero_le _
  | d :: r => by
    rw [D.szs, List.length_cons]
    have := szs_len r
    have := sz_pos d
    omega
theorem sz_parts {d : D} {ps : List D} (h : partsD d = some ps) : (ownD d).length + D.szs ps ≤ d.sz := by
  unfold partsD at h
  split at h
  · rename_i k r
    have e : (D.tup (.str k :: r)).sz = 1 + D.szs r + 1 := by
      rw [D.sz, D.szs, D.sz]
    have ho : (ownD (.tup (.str k :: r))).length ≤ 1 := by
      show (if k = "call" then [_] else []).length ≤ 1
      by_cases hk : k = "call"
      · rw [if_pos hk]; exact Nat.le_refl _
      · rw [if_neg hk]; exact Nat.zero_le _
    rw [e]
    by_cases h1 : leafK.contains k = true
    · rw [if_pos h1] at h
      obtain rfl := (Option.some.inj h).symm
      show _ + 0 ≤ _
      omega
    · rw [if_neg h1] at h
      by_cases h2 : k = "call"
      · rw [if_pos h2] at h
        obtain ⟨dl, hl1, hl2⟩ := Option.bind_eq_some_iff.mp h
        have hm : dl ∈ r := List.mem_of_getLast? hl1
        have := szs_mem hm
        cases dl with
        | tup l =>
          have e3 : l = ps := Option.some.inj hl2
          subst e3
          rw [D.sz] at this
          omega
        | _ => cases hl2
      · rw [if_neg h2] at h
        obtain rfl := Option.some.inj h
        omega
  · cases h
theorem callsL_sz {f : D → Option (List D)} (hf : ∀ d cs, f d = some cs → cs.length ≤ d.sz) : ∀ {l : List D} {cs : List D}, callsL f l = some cs → cs.length ≤ D.szs l
  | [], cs, h => by
    obtain rfl := (Option.some.inj h).symm
    exact Nat.zero_le _
  | p :: r, cs, h => by
    unfold callsL at h
    obtain ⟨a, h1, h2⟩ := Option.bind_eq_some_iff.mp h
    obtain ⟨b, h3, h4⟩ := Option.map_eq_some_iff.mp h2
    have := hf _ _ h1
    have := callsL_sz hf h3
    rw [← h4, List.length_append, D.szs]
    omega
theorem callsD_sz : ∀ (n : Nat) (d : D) (cs : List D), callsD n d = some cs → cs.length ≤ d.sz
  | 0, _, _, h => by cases h
  | n + 1, d, cs, h => by
    obtain ⟨ps, h1, h2⟩ := Option.bind_eq_some_iff.mp h
    obtain ⟨b, h3, h4⟩ := Option.map_eq_some_iff.mp h2
    have := sz_parts h1
    have := callsL_sz (callsD_sz n) h3
    rw [← h4, List.length_append]
    omega
/-- a call as the text has it -/
def IsCall (c : D) : Prop := ∃ nm as, c = .tup [.str "call", .str nm, .tup as]
theorem callsL_all {f : D → Option (List D)} : ∀ {l : List D}, (∀ p ∈ l, ∃ cs, f p = some cs ∧ ∀ c ∈ cs, IsCall c) → ∃ cs, callsL f l = some cs ∧ ∀ c ∈ cs, IsCall c
  | [], _ => ⟨[], rfl, fun _ h => nomatch h⟩
  | p :: r, h => by
    obtain ⟨a, ha, h1⟩ := h p List.mem_cons_self
    obtain ⟨b, hb, h2⟩ := callsL_all (l := r) fun q hq => h q (List.mem_cons_of_mem _ hq)
    refine ⟨a ++ b, ?_, fun c hc => ?_⟩
    · unfold callsL
      rw [ha, hb]
      rfl
    · rcases List.mem_append.mp hc with hc | hc
      · exact h1 c hc
      · exact h2 c hc
theorem callsD_step {n : Nat} {d : D} {ps : List D} (h1 : partsD d = some ps) (h2 : ∀ c ∈ ownD d, IsCall c) (h3 : ∀ p ∈ ps, ∃ cs, callsD n p = some cs ∧ ∀ c ∈ cs, IsCall c) : ∃ cs, callsD (n + 1) d = some cs ∧ ∀ c ∈ cs, IsCall c := by
  obtain ⟨cs, h4, h5⟩ := callsL_all h3
  refine ⟨ownD d ++ cs, ?_, fun c hc => ?_⟩
  · unfold callsD
    rw [h1]
    show (callsL (callsD n) ps).map _ = _
    rw [h4]
    rfl
  · rcases List.mem_append.mp hc with hc | hc
    · exact h2 c hc
    · exact h5 c hc
theorem plainNmD_str {x : D} (h : plainNmD x = true) : ∃ s, x = .str s ∧ plainNm s = true := by
  cases x with
  | str s => exact ⟨s, rfl, h⟩
  | _ => cases h
/-- the forms of a plain expression -/
inductive PForm (m : Nat) (L : Int) : D → Prop
  | num (x : D) : isIn x 0 (10 ^ 30) = true → PForm m L (.tup [.str "number", x])
  | late (x : D) : isIn x 0 (L - 1) = true → PForm m L (.tup [.str "late", x])
  | bin (k : Str) (x y : D) : pairsS.contains k = true → plainE m x L = true → plainE m y L = true → PForm m L (.tup [.str k, x, y])
  | call (nm : Str) (as : List D) : plainNm nm = true → as.length ≤ 4 → (∀ a ∈ as, plainE m a L = true) → PForm m L (.tup [.str "call", .str nm, .tup as])
  | ite (j : Nat) (u z x y : D) : m = j + 2 → plainE (j + 1) u L = true → plainE (j + 1) z L = true → plainE m x L = true → plainE m y L = true → PForm m L (.tup [.str "if", .tup [.str "less", u, z], x, y])
theorem all_two {f : D → Bool} {x y : D} (h : [x, y].all f = true) : f x = true ∧ f y = true := by
  simpa using h
theorem plainE_form {m : Nat} {d : D} {L : Int} (h : plainE (m + 1) d L = true) : PForm m L d := by
  by_cases h2 : isTuple d 2 = true
  · obtain ⟨k, x, rfl⟩ := isTuple2 h2
    have e : plainE (m + 1) (.tup [.str k, x]) L = if k = "number" then isIn x 0 (10 ^ 30) else (decide (k = "late") && isIn x 0 (L - 1)) := rfl
    rw [e] at h
    by_cases hk : k = "number"
    · rw [if_pos hk] at h
      subst hk
      exact .num x h
    · rw [if_neg hk, Bool.and_eq_true] at h
      obtain ⟨h1, h3⟩ := h
      have := of_decide_eq_true h1
      subst this
      exact .late x h3
  by_cases h3 : isTuple d 3 = true
  · obtain ⟨k, x, y, rfl⟩ := isTuple3 h3
    have e : plainE (m + 1) (.tup [.str k, x, y]) L = if pairsS.contains k = true then [x, y].all (fun a => plainE m a L) else (decide (k = "call") && (plainNmD x && callArgs y (fun a => plainE m a L))) := rfl
    rw [e] at h
    by_cases hk : pairsS.contains k = true
    · rw [if_pos hk] at h
      obtain ⟨h4, h5⟩ := all_two h
      exact .bin k x y hk h4 h5
    · rw [if_neg hk, Bool.and_eq_true, Bool.and_eq_true] at h
      obtain ⟨h1, h4, h5⟩ := h
      have := of_decide_eq_true h1
      subst this
      obtain ⟨s, rfl, hs⟩ := plainNmD_str h4
      cases y with
      | tup as =>
        have h5 : (decide (as.length ≤ 4) && as.all (fun a => plainE m a L)) = true := h5
        rw [Bool.and_eq_true] at h5
        exact .call s as hs (of_decide_eq_true h5.1) (List.all_eq_true.mp h5.2)
      | _ => cases h5
  by_cases h4 : isTuple d 4 = true
  · obtain ⟨k, t, x, y, rfl⟩ := isTuple4 h4
    obtain ⟨g, e, gj, g0⟩ := plainE_if m k t x y L
    rw [e, Bool.and_eq_true, Bool.and_eq_true] at h
    obtain ⟨h1, h5, h6⟩ := h
    have := of_decide_eq_true h1
    subst this
    obtain ⟨h6, h7⟩ := all_two h6
    by_cases hm : m < 2
    · rw [g0 hm] at h5
      cases h5
    · obtain ⟨j, rfl⟩ : ∃ j, m = j + 2 := ⟨m - 2, by omega⟩
      rw [gj j rfl] at h5
      by_cases h8 : isTuple t 3 = true
      · obtain ⟨k2, u, z, rfl⟩ := isTuple3 h8
        have h5 : (decide (k2 = "less") && [u, z].all (fun a => plainE (j + 1) a L)) = true := h5
        rw [Bool.and_eq_true] at h5
        have := of_decide_eq_true h5.1
        subst this
        obtain ⟨h9, h10⟩ := all_two h5.2
        exact .ite j u z x y rfl h9 h10 h6 h7
      · rw [lessArgs_not _ (Bool.eq_false_iff.mpr h8)] at h5
        cases h5
  · rw [plainE_other (Bool.eq_false_iff.mpr h2) (Bool.eq_false_iff.mpr h3) (Bool.eq_false_iff.mpr h4)] at h
    cases h
theorem pairs_cases {k : Str} (h : pairsS.contains k = true) : k = "plus" ∨ k = "minus" ∨ k = "times" := by
  have := List.contains_iff_mem.mp h
  simpa [pairsS] using this
theorem plainE_callsN {L : Int} : ∀ (N m : Nat) (d : D), m ≤ N → plainE m d L = true → ∃ cs, callsD m d = some cs ∧ ∀ c ∈ cs, IsCall c
  | _, 0, d, _, h => by cases h
  | 0, m + 1, d, hN, h => absurd hN (by omega)
  | N + 1, m + 1, d, hN, h => by
    have ihN := fun m' h' d => plainE_callsN (L := L) N m' d h'
    have ih := ihN m (by omega)
    cases plainE_form h with
    | num x _ => exact callsD_step (ps := []) rfl (fun _ h => nomatch h) (fun _ h => nomatch h)
    | late x _ => exact callsD_step (ps := []) rfl (fun _ h => nomatch h) (fun _ h => nomatch h)
    | bin k x y hk hx hy =>
      have e1 : partsD (.tup [.str k, x, y]) = some [x, y] := by
        rcases pairs_cases hk with rfl | rfl | rfl <;> rfl
      have e2 : ownD (.tup [.str k, x, y]) = [] := by
        rcases pairs_cases hk with rfl | rfl | rfl <;> rfl
      refine callsD_step e1 (by rw [e2]; exact fun _ h => nomatch h) fun p hp => ?_
      rcases List.mem_cons.mp hp with rfl | hp
      · exact ih _ hx
      · rcases List.mem_cons.mp hp with rfl | hp
        · exact ih _ hy
        · nomatch hp
    | call nm as h1 h2 h3 =>
      refine callsD_step (ps := as) rfl (fun c hc => ?_) fun p hp => ih p (h3 p hp)
      have hc : c ∈ [D.tup [.str "call", .str nm, .tup as]] := hc
      rw [List.mem_singleton] at hc
      exact ⟨nm, as, hc⟩
    | ite j u z x y hj hu hz hx hy =>
      subst hj
      refine callsD_step (ps := [.tup [.str "less", u, z], x, y]) rfl (fun _ h => nomatch h) fun p hp => ?_
      have iu := ihN (j + 1) (by omega)
      rcases List.mem_cons.mp hp with rfl | hp
      · refine callsD_step (n := j + 1) (ps := [u, z]) rfl (fun _ h => nomatch h) fun p hp => ?_
        rcases List.mem_cons.mp hp with rfl | hp
        · exact iu _ hu
        · rcases List.mem_cons.mp hp with rfl | hp
          · exact iu _ hz
          · nomatch hp
      · rcases List.mem_cons.mp hp with rfl | hp
        · exact ih _ hx
        · rcases List.mem_cons.mp hp with rfl | hp
          · exact ih _ hy
          · nomatch hp
theorem plainE_calls {L : Int} {m : Nat} {d : D} (h : plainE m d L = true) : ∃ cs, callsD m d = some cs ∧ ∀ c ∈ cs, IsCall c := plainE_callsN m m d (Nat.le_refl m) h

/-! ### the whole -/
def nameD : D → Str | .tup (.str s :: _) => s | _ => ""
def latesD : D → Int | .tup [_, l, _] => l.toInt | _ => 0
def bodyD : D → D | .tup [_, _, b] => b | _ => .non
def putD (kvs : List (Key × V)) (d : D) : List (Key × V) := putK kvs (.inr (nameD d)) (.int (latesD d))
def sizesK (l : List D) : List (Key × V) := l.foldl putD []
def callOk (kvs : List (Key × V)) : D → Bool
  | .tup [_, .str nm, .tup as] => decide ((valV kvs (.inr nm)).getD (.int (-1)) = .int as.length)
  | _ => false
def callsOk (kvs : List (Key × V)) (d : D) : Bool := ((callsD 30 (bodyD d)).getD []).all (callOk kvs)
def isPlainD : D → Bool
  | .tup l => decide (1 ≤ l.length) && (decide (l.length ≤ 300) && (l.all plainF && (decide ((sizesK l).length = l.length) && l.all (callsOk (sizesK l)))))
  | _ => false
/-- a dict of whole numbers -/
def IntsK (kvs : List (Key × V)) : Prop := ∀ k v, valV kvs k = some v → ∃ i, v = .int i
theorem IntsK.nil : IntsK [] := fun _ _ h => nomatch h
theorem IntsK.put {kvs : List (Key × V)} {k : Key} {i : Int} (h : IntsK kvs) : IntsK (putK kvs k (.int i)) := fun j v e => by
  rw [valV_put] at e
  by_cases hj : j = k
  · rw [if_pos hj] at e
    exact ⟨i, (Option.some.inj e).symm⟩
  · rw [if_neg hj] at e
    exact h j v e
theorem foldl_ints : ∀ (l : List D) {kvs : List (Key × V)}, IntsK kvs → IntsK (l.foldl putD kvs)
  | [], _, h => h
  | d :: r, _, h => foldl_ints r h.put
theorem foldl_len : ∀ (l : List D) (kvs : List (Key × V)), (l.foldl putD kvs).length ≤ kvs.length + l.length
  | [], _ => Nat.le_refl _
  | d :: r, kvs => by
    have := foldl_len r (putD kvs d)
    have := length_putK kvs (.inr (nameD d)) (.int (latesD d))
    show ((r.foldl putD (putD kvs d))).length ≤ _
    rw [List.length_cons]
    unfold putD at *
    omega
/-- the forms of a plain function -/
theorem plainF_form {d : D} (h : plainF d = true) : ∃ s L b, d = .tup [.str s, .int L, b] ∧ plainNm s = true ∧ 0 ≤ L ∧ L ≤ 4 ∧ plainE 30 b L = true := by
  unfold plainF at h
  split at h
  · rename_i nm l b
    rw [Bool.and_eq_true, Bool.and_eq_true] at h
    obtain ⟨h1, h2, h3⟩ := h
    obtain ⟨s, rfl, hs⟩ := plainNmD_str h1
    cases l with
    | int i =>
      have h2 : (decide (0 ≤ i) && decide (i ≤ 4)) = true := h2
      rw [Bool.and_eq_true] at h2
      exact ⟨s, i, b, rfl, hs, of_decide_eq_true h2.1, of_decide_eq_true h2.2, h3⟩
    | _ => cases h2
  · cases h

section
variable {P : Program} {w : World} {K : PySem.W.Frag} {mg : Str → Option Value} {base : Heap} {Ts : List Addr} {Pt : Addr}

abbrev n_is_plain : List Str := ["value", "sizes", "name", "lates", "body", "one", "call"]
theorem sc_is_plain : FnScope n_is_plain ["value"] (defScope s_is_plain) := ⟨rfl, rfl, rfl, by decide +kernel, rfl, by decide +kernel, by decide +kernel⟩
def spIsPlain (K : PySem.W.Frag) (Ts : List Addr) : Sp := fun vs H Q _ =>
  (∃ (v : V) (d : D), vs = [v] ∧ Td H v d ∧ d.sz ≤ 50000 ∧ Tabs Ts H ∧ ∀ H', ExT Ts H H' → Q (.bl (isPlainD d)) H') ∨
  (∃ (v : V) (n : String), vs = [v] ∧ TyX K H v (.type n) ∧ kitB n "tuple" = some false ∧ Q (.bl false) H) ∨
  ∃ (a b : Addr) (xs : List V), vs = [.ref a] ∧ H a = some (.tup [.ref b]) ∧ H b = some (.lst xs) ∧ Tabs Ts H ∧ ∀ H', ExT Ts H H' → Q (.bl false) H'
theorem ok_is_plain (T : Txt K mg) (hP : Pt ∈ Ts) (d : DefT K mg base "is_plain" s_is_plain ["value"] Pt) (c_is_plain_function : Cal P w K mg base 67 "is_plain_function" ["value"] (spPlainF K Ts))
    (c_calls_of : Cal P w K mg base 32 "calls_of" ["one"] (spCalls 31)) : Cal P w K mg base 70 "is_plain" ["value"] (spIsPlain K Ts) := by
  refine d.ok sc_is_plain (fun vs H Q E h => ?_) (fun f c A outer s H vs Q E TB hr h => ?_)
  · rcases h with ⟨v, d, rfl, _⟩ | ⟨v, n, rfl, _⟩ | ⟨a, b, xs, rfl, _⟩ <;> rfl
  refine ⟨_, (pss_cons (ps_if (PW.pt (pw_or (pt_not (pt_val (pe_callB call_isi (by rfl) T.f_isinstance (by decide +kernel) (pa_cons (pv 0) (pa_cons (pe_ty "tuple" T.f_tuple) pa_nil))))) (pw_or1 (pt_not (pt_chain op_le op_le pe_int (pe_callB call_len_seq (by rfl) T.f_len PySem.boot_len (pa_cons (pv 0) pa_nil)) (pe_gint T.MOST_PLAIN)))))) (pss_one (ps_ret pe_bl)) pss_nil)
      (pss_cons (ps_if (pt_not (pt_val (pe_allG (own := [("one", 5)]) (g := (gName 5)) hr rfl sc_is_plain.nd rfl T.f_all TB rfl ⟨rfl, by decide +kernel, by decide +kernel⟩ (pi_tup (pv 0)) (blkOk_by (N := n_is_plain) (sc := defScope s_is_plain) (by decide +kernel)) (fun _ _ _ _ _ _ _ => (pg_name (i := 5) sc_is_plain.nd rfl (Or.inl rfl))) (fun _ _ _ _ _ _ _ hg => (pe_cal c_is_plain_function (hg.mono (by omega)) (pa_cons (pv 5) pa_nil)))))) (pss_one (ps_ret pe_bl)) pss_nil)
      (pss_cons (ps_set (i := 1) sc_is_plain.nd rfl (Or.inr rfl) (pe_dc (own := [("name", 2), ("lates", 3), ("body", 4)]) (g := (gTup K 3 (gCons (gName 2) (gCons (gName 3) (gCons (gName 4) gNil))))) (tt := tYes) rfl sc_is_plain.nd (pi_tup (pv 0)) (blkOk_by (N := n_is_plain) (sc := defScope s_is_plain) (by decide +kernel)) (fun _ _ _ _ _ => (pg_tup rfl (pgs_cons (pg_name (i := 2) sc_is_plain.nd rfl (Or.inl rfl)) (pgs_cons (pg_name (i := 3) sc_is_plain.nd rfl (Or.inl rfl)) (pgs_cons (pg_name (i := 4) sc_is_plain.nd rfl (Or.inl rfl)) pgs_nil))))) (fun _ _ _ _ _ => pts_nil) (fun _ _ _ _ _ => (pv 2)) (fun _ _ _ _ _ => (pv 3))))
      (pss_cons (ps_if (pt_cmpR op_ne (pe_callB call_lenD (by rfl) T.f_len PySem.boot_len (pa_cons (pv 1) pa_nil)) (pe_callB call_len_seq (by rfl) T.f_len PySem.boot_len (pa_cons (pv 0) pa_nil)) (nomark _)) (pss_one (ps_ret pe_bl)) pss_nil)
      (pss_cons (ps_for PassesOwn.never rfl (pi_tup (pv 0)) (pg_tup rfl (pgs_cons (pg_name (i := 2) sc_is_plain.nd rfl (Or.inl rfl)) (pgs_cons (pg_name (i := 3) sc_is_plain.nd rfl (Or.inl rfl)) (pgs_cons (pg_name (i := 4) sc_is_plain.nd rfl (Or.inl rfl)) pgs_nil)))) (pss_one (ps_if (pt_not (pt_val (pe_allG (own := [("call", 6)]) (g := (gName 6)) hr rfl sc_is_plain.nd rfl T.f_all TB rfl ⟨rfl, by decide +kernel, by decide +kernel⟩ (pi_list (pe_cal c_calls_of (hr.mono (by omega)) (pa_cons (pv 4) pa_nil))) (blkOk_by (N := n_is_plain) (sc := defScope s_is_plain) (by decide +kernel)) (fun _ _ _ _ _ _ _ => (pg_name (i := 6) sc_is_plain.nd rfl (Or.inl rfl))) (fun _ _ _ _ _ _ _ hg => (pe_cmpR op_eq (pe_dget2 (hu_of hg) (pv 1) (pe_ix (ix_tupK (K := K) rfl) (pv 6) pe_int (fun _ _ => rfl)) (pe_un un_neg pe_int) ⟨by rfl, by rfl, by rfl, by rfl⟩) (pe_callB (len_seqK (K := K) rfl) (by rfl) T.f_len PySem.boot_len (pa_cons (pe_ix (ix_tupK (K := K) rfl) (pv 6) pe_int (fun _ _ => rfl)) pa_nil)) (nomark _)))))) (pss_one (ps_ret pe_bl)) pss_nil)))
      (pss_one (ps_ret pe_bl))))))), ?_⟩
  rcases h with ⟨v, d, rfl, hd, hz, hT, q⟩ | ⟨v, n, rfl, hty, hk, q⟩ | ⟨a, b, xs, rfl, ha, hb, hT, q⟩
  · have q0 := q H (ExT.refl hT)
    refine ⟨_, rfl, _, _, _, _, _, rfl, .ty _, Td.tyx (hd), kit_ty (kit_tup _), _, rfl, ?_⟩
    cases d with
    | tup l =>
      refine iteF ?_
      obtain ⟨a, xs, rfl, ha, hxl, hx⟩ := hd.tup_inv
      have hl := hx.length
      have e : isPlainD (.tup l) = (decide (1 ≤ l.length) && (decide (l.length ≤ 300) && (l.all plainF && (decide ((sizesK l).length = l.length) && l.all (callsOk (sizesK l)))))) := rfl
      rw [e] at q q0
      clear e
      refine ⟨_, rfl, _, _, rfl, .inr (SqT.of (ha)), _, _, rfl, rfl, _, rfl, ?_⟩
      refine ite2 (fun c1 => ?_) (fun c1 => ?_)
      · have c1' : (1 : Int) ≤ (xs.length : Nat) := of_decide_eq_true c1
        rw [decide_eq_true (p := 1 ≤ l.length) (by omega), Bool.true_and] at q q0
        refine ⟨_, _, rfl, rfl, _, rfl, ?_⟩
        refine ite2 (fun c2 => ?_) (fun c2 => ?_)
        · have c2' : ¬ ((xs.length : Nat) : Int) ≤ 300 := of_decide_eq_false (by simpa using c2)
          rw [decide_eq_false (p := l.length ≤ 300) (by omega), Bool.false_and] at q0
          exact q0
        · have c2' : ((xs.length : Nat) : Int) ≤ 300 := by simpa using c2
          rw [decide_eq_true (p := l.length ≤ 300) (by omega), Bool.true_and] at q q0
          refine ⟨_, rfl, a, rfl, ⟨_, SqT.of ha⟩, hT _ hP, fun H2 tb2 => ?_⟩
          have e2 := (ExT.refl hT).grown hP tb2
          refine all_tup (f := plainF) (ExT Ts H2) (hx.mono e2.kp) (ExT.refl e2.tab) (fun H1 e => e.ext.tup (e2.ext.tup ha)) (fun x d H1 hd _ e Q' q' => ⟨x, rfl, .inl ⟨x, d, rfl, hd.mono e.kp, e.tab, fun H2 e2 => q' H2 (e.trans e2)⟩⟩) fun H3 e3' => ?_
          have e3 := e2.trans e3'
          refine ⟨_, rfl, ?_⟩
          cases eF : l.all plainF with
          | false =>
            rw [eF, Bool.false_and] at q
            exact iteT (q H3 e3)
          | true =>
          rw [eF, Bool.true_and] at q
          refine iteF ?_
          have hF : ∀ d ∈ l, ∃ s L b, d = .tup [.str s, .int L, b] ∧ plainNm s = true ∧ 0 ≤ L ∧ L ≤ 4 ∧ plainE 30 b L = true := fun d hd => plainF_form (List.all_eq_true.mp eF d hd)
          have e3a := e3.ext.tup ha
          have hx3 := hx.mono e3.kp
          refine ⟨_, rfl, a, rfl, ⟨_, SqT.of e3a⟩, fun D hD => ?_⟩
          refine dc_srv (Srv.tup (P := fun H => SqT K H a xs) fun _ h => h) (fun i H' => ExT Ts H3 H' ∧ H' D = some (.dK ((l.take i).foldl putD []))) (fun i H' h => SqT.of (h.1.ext.tup e3a)) ?_ ?_ ?_
          · exact ⟨(ExT.refl e3.tab).new hD _, upd_same⟩
          · rintro i x H4 hxi ⟨e4, hD4⟩
            obtain ⟨d, hdi, htd⟩ := hx3.get hxi
            obtain ⟨hi, hdi'⟩ := List.getElem?_eq_some_iff.mp hdi
            obtain ⟨s', L, b, rfl, _⟩ := hF d (List.mem_of_getElem? hdi)
            obtain ⟨y, ys, rfl, hy, _, hys⟩ := (htd.mono e4.kp).tup_inv
            obtain ⟨y1, ys, rfl, h1, hys⟩ := hys.cons_inv
            obtain ⟨y2, ys, rfl, h2, hys⟩ := hys.cons_inv
            obtain ⟨y3, ys, rfl, h3, hys⟩ := hys.cons_inv
            obtain rfl := hys.nil_inv
            obtain ⟨rfl, _⟩ := h1.str_inv
            obtain rfl := h2.int_inv
            refine ⟨_, _, rfl, SqT.of hy, rfl, _, _, rfl, _, _, rfl, _, _, rfl, rfl, rfl, yesI ?_⟩
            have hfl := foldl_len (l.take i) []
            have htl : (l.take i).length ≤ i := by rw [List.length_take]; omega
            have hle : (l.foldl putD []).length ≤ 300 := by
              have := foldl_len l []
              simp only [List.length_nil] at this
              omega
            refine ⟨_, rfl, _, rfl, _, .inr s', rfl, hD4, szlt (by simp only [List.length_nil] at hfl; omega), e4.mutD hD hD4 _, ?_⟩
            rw [upd_same, List.take_succ_eq_append_getElem hi, List.foldl_append, hdi']
            rfl
          · rintro H4 ⟨e4, hD4⟩
            rw [hl, List.take_length] at hD4
            have e34 := e3.trans e4
            have e4a := e34.ext.tup ha
            have hx4 := hx.mono e34.kp
            refine ⟨_, rfl, _, _, rfl, hD4, _, rfl, _, _, rfl, .inr (SqT.of (e4a)), rfl, _, rfl, ?_⟩
            refine ite2 (fun c3 => ?_) (fun c3 => ?_)
            · have c3' : ¬ (sizesK l).length = l.length := fun z => by
                have c3 : (!decide (V.int (((sizesK l).length : Nat) : Int) = V.int (xs.length : Nat))) = true := c3
                rw [z, hl] at c3
                simp at c3
              rw [decide_eq_false c3', Bool.false_and] at q
              exact q H4 e34
            · have c3' : (sizesK l).length = l.length := by
                have c3 : ¬ (!decide (V.int (((sizesK l).length : Nat) : Int) = V.int (xs.length : Nat))) = true := c3
                have h2 : decide (V.int (((sizesK l).length : Nat) : Int) = V.int (xs.length : Nat)) = true := by simpa using c3
                have := of_decide_eq_true h2
                injection this
                omega
              rw [decide_eq_true c3', Bool.true_and] at q
              have hI : IntsK (sizesK l) := foldl_ints l IntsK.nil
              refine ⟨_, rfl, a, rfl, ⟨_, SqT.of e4a⟩, for_srv (Srv.tup (P := fun H => SqT K H a xs) fun _ h => h) (fun i σ H' => (∃ o2 o3 o4 o5 o6, σ = [some (.ref a), some (.ref D), o2, o3, o4, o5, o6]) ∧ ExT Ts H4 H' ∧ (l.take i).all (callsOk (sizesK l)) = true)
                (fun i σ H' h => SqT.of (h.2.1.ext.tup e4a)) ⟨⟨_, _, _, _, _, rfl⟩, ExT.refl e4.tab, by rw [List.take_zero]; rfl⟩ ?_ ?_⟩
              · rintro i x σ H5 hxi ⟨⟨o2, o3, o4, o5, o6, rfl⟩, e5, hal⟩
                obtain ⟨d, hdi, htd⟩ := hx4.get hxi
                obtain ⟨hi, hdi'⟩ := List.getElem?_eq_some_iff.mp hdi
                have hdm := List.mem_of_getElem? hdi
                obtain ⟨s', L, b, rfl, _, _, _, hpe⟩ := hF d hdm
                obtain ⟨y, ys, rfl, hy, _, hys⟩ := (htd.mono e5.kp).tup_inv
                obtain ⟨y1, ys, rfl, h1, hys⟩ := hys.cons_inv
                obtain ⟨y2, ys, rfl, h2, hys⟩ := hys.cons_inv
                obtain ⟨y3, ys, rfl, h3, hys⟩ := hys.cons_inv
                obtain rfl := hys.nil_inv
                refine ⟨_, _, rfl, SqT.of hy, rfl, _, _, rfl, _, _, rfl, _, _, rfl, rfl, ?_⟩
                obtain ⟨cs, hcs, hca⟩ := plainE_calls hpe
                have hcz : cs.length ≤ 50000 := by
                  have := callsD_sz 30 b cs hcs
                  have h6 := szs_mem hdm
                  rw [D.sz, D.szs, D.szs, D.szs] at h6
                  rw [D.sz] at hz
                  omega
                refine ⟨_, rfl, y3, b, 30, cs, by decide, rfl, h3, hcs, hcz, fun p zs H6 S6 hp hzs => ?_⟩
                have e6 := e5.same S6
                have hDp : ∀ H', ExT Ts H4 H' → H' D = some (.dK (sizesK l)) := fun H' e => e.ext D _ hD4 fun ps z => by cases z
                refine ⟨p, rfl, ⟨_, SqL.of hp⟩, e6.tab _ hP, fun H7 tb7 => ?_⟩
                have e7 := e6.grown hP tb7
                have x67 := Ext.grown (e6.tab _ hP) tb7
                have eC : callsOk (sizesK l) (.tup [.str s', .int L, b]) = cs.all (callOk (sizesK l)) := by
                  show ((callsD 30 b).getD []).all _ = _
                  rw [hcs]
                  rfl
                refine all_lst (f := callOk (sizesK l)) (fun H' => H' = H7) (hzs.mono x67.kp) rfl (fun H' e => by subst e; exact x67.lst hp) (fun x d H8 hd hdm e Q' q' => ?_) fun H8 e8 => ?_
                · subst e
                  obtain ⟨nm, as, rfl⟩ := hca d hdm
                  obtain ⟨u, us, rfl, hu, _, hus⟩ := hd.tup_inv
                  obtain ⟨u1, us, rfl, h1', hus⟩ := hus.cons_inv
                  obtain ⟨u2, us, rfl, h2', hus⟩ := hus.cons_inv
                  obtain ⟨u3, us, rfl, h3', hus⟩ := hus.cons_inv
                  obtain rfl := hus.nil_inv
                  obtain ⟨rfl, _⟩ := h2'.str_inv
                  obtain ⟨g, gs, rfl, hg, _, hgs⟩ := h3'.tup_inv
                  have hD7 := hDp H8 e7
                  refine ⟨_, rfl, D, rfl, .inl ⟨_, .inl hD7⟩, _, rfl, _, _, _, _, rfl, rfl, SqT.of (hu), at1, _, rfl, _, DGet.k (k := .inr nm) hD7, _, rfl, _, _, _, _, rfl, rfl, SqT.of (hu), at2, _, _, rfl, .inr (SqT.of (hg)), ?_⟩
                  obtain ⟨i, hi⟩ : ∃ i, (valV (sizesK l) (.inr nm)).getD (.int (-1)) = .int i := by
                    cases ev : valV (sizesK l) (.inr nm) with
                    | none => exact ⟨_, rfl⟩
                    | some v =>
                      obtain ⟨i, rfl⟩ := hI _ _ ev
                      exact ⟨i, rfl⟩
                  have eC : callOk (sizesK l) (.tup [.str "call", .str nm, .tup as]) = decide ((valV (sizesK l) (.inr nm)).getD (.int (-1)) = .int gs.length) := by
                    rw [hgs.length]
                    rfl
                  have q2 := q' H8 rfl
                  rw [eC, hi] at q2
                  show scal ((valV (sizesK l) (.inr nm)).getD (.int (-1))) _ = true ∧ Q' (.bl (decide ((valV (sizesK l) (.inr nm)).getD (.int (-1)) = .int gs.length))) _
                  rw [hi]
                  exact ⟨rfl, q2⟩
                · subst e8
                  refine ⟨_, rfl, ?_⟩
                  rw [List.take_succ_eq_append_getElem hi, List.all_append, hal, hdi', Bool.true_and, List.all_cons, List.all_nil, Bool.and_true, eC]
                  cases eA : cs.all (callOk (sizesK l)) with
                  | false =>
                    refine iteT ?_
                    have : l.all (callsOk (sizesK l)) = false := by
                      rw [List.all_eq_false]
                      exact ⟨_, hdm, by rw [eC, eA]; exact Bool.false_ne_true⟩
                    rw [this] at q
                    exact q _ (e34.trans e7)
                  | true => exact iteF ⟨⟨_, _, _, _, _, rfl⟩, e7, rfl⟩
              · rintro σ H5 ⟨⟨o2, o3, o4, o5, o6, rfl⟩, e5, hal⟩
                rw [hl, List.take_length] at hal
                rw [hal] at q
                exact q H5 (e34.trans e5)
      · have c1' : ¬ (1 : Int) ≤ (xs.length : Nat) := of_decide_eq_false (Bool.eq_false_iff.mpr c1)
        rw [decide_eq_false (p := 1 ≤ l.length) (by omega), Bool.false_and] at q0
        exact ⟨_, rfl, iteT q0⟩
    | non => exact iteT (iteT q0)
    | bl b => exact iteT (iteT q0)
    | int i => exact iteT (iteT q0)
    | str s => exact iteT (iteT q0)
  · refine ⟨_, rfl, _, _, _, _, _, rfl, .ty _, hty, kit_ty hk, _, rfl, ?_⟩
    exact iteT (iteT q)
  · refine ⟨_, rfl, _, _, _, _, _, rfl, .ty _, .base (.tup ha), kit_ty (r := true) (by decide +kernel), _, rfl, ?_⟩
    refine iteF ?_
    refine ⟨_, rfl, _, _, rfl, .inr (SqT.of (ha)), _, _, rfl, rfl, _, rfl, ?_⟩
    refine iteT ⟨_, _, rfl, rfl, _, rfl, iteF ?_⟩
    refine ⟨_, rfl, a, rfl, ⟨_, SqT.of ha⟩, hT _ hP, fun H2 tb2 => ?_⟩
    have e2 := (ExT.refl hT).grown hP tb2
    refine all_srv (Srv.tup (P := fun H => SqT K H a [.ref b]) fun _ h => h) (bs := [false]) (ExT Ts H) e2 (fun H1 e => SqT.of (e.ext.tup ha)) rfl (fun i x b' H1 hx hb' e Q' q' => ?_) fun H3 e3 => ?_
    · have hi : i = 0 := by
        have := (List.getElem?_eq_some_iff.mp hx).1
        simpa using this
      subst hi
      obtain rfl : V.ref b = x := Option.some.inj hx
      obtain rfl : false = b' := Option.some.inj hb'
      exact ⟨_, rfl, .inr ⟨b, xs, rfl, e.ext.lst hb, q' H1 e⟩⟩
    · exact ⟨_, rfl, iteT (q H3 e3)⟩

abbrev n_need_plain : List Str := ["plain"]
theorem sc_need_plain : FnScope n_need_plain ["plain"] (defScope s_need_plain) := ⟨rfl, rfl, rfl, by decide +kernel, rfl, by decide +kernel, by decide +kernel⟩
def spNeedPlain (Ts : List Addr) : Sp := fun vs H Q _ => ∃ (v : V) (d : D), vs = [v] ∧ Td H v d ∧ d.sz ≤ 50000 ∧ Tabs Ts H ∧ isPlainD d = true ∧ ∀ H', ExT Ts H H' → Q .non H'
theorem ok_need_plain (T : Txt K mg) (d : Def K mg "need_plain" s_need_plain ["plain"]) (c_is_plain : Cal P w K mg base 70 "is_plain" ["value"] (spIsPlain K Ts)) : Cal P w K mg base 71 "need_plain" ["plain"] (spNeedPlain Ts) := by
  refine d.ok sc_need_plain (fun vs H Q E h => ?_) (fun f cdv A outer s H vs Q E hr h => ?_)
  · obtain ⟨v, d, rfl, _⟩ := h
    rfl
  obtain ⟨v, d, rfl, hd, hz, hT, hp, q⟩ := h
  refine ⟨_, (pss_one (ps_if (pt_not (pt_val (pe_cal c_is_plain (hr.mono (by omega)) (pa_cons (pv 0) pa_nil)))) (pss_one ps_never) pss_nil)), ?_⟩
  refine ⟨_, rfl, .inl ⟨v, d, rfl, hd, hz, hT, fun H' e => ?_⟩⟩
  refine ⟨_, rfl, ?_⟩
  rw [hp]
  exact iteF (q H' e)
end
end K04
namespace K04
open PySem PySem.Spec PyProof.Rows L2

def topV : Int := 1000000000000000000000000000000
/-- the value of a plus, minus or times -/
def workedM (k : Str) (i j : Int) : Int :=
  if k = "plus" then (if topV < i + j then topV else i + j) else if k = "minus" then (if 0 > i - j then 0 else i - j) else (if topV < i * j then topV else i * j)
def InV (i : Int) : Prop := 0 ≤ i ∧ i ≤ topV
theorem worked_in {k : Str} {i j : Int} (hi : InV i) (hj : InV j) : InV (workedM k i j) := by
  have hm : 0 ≤ i * j := Int.mul_nonneg hi.1 hj.1
  obtain ⟨h1, h2⟩ := hi
  obtain ⟨h3, h4⟩ := hj
  have ht : (0 : Int) ≤ topV := by decide
  unfold workedM InV
  generalize topV = t at *
  generalize i * j = p at *
  split
  · split <;> omega
  · split
    · split <;> omega
    · split <;> omega
theorem inV_mul {i j : Int} (hi : InV i) (hj : InV j) : CMulW i j := by
  have ht : topV < 2 ^ 100 := by decide
  obtain ⟨h1, h2⟩ := hi
  obtain ⟨h3, h4⟩ := hj
  have e : ((2 ^ 100 : Nat) : Int) = 2 ^ 100 := by decide
  exact wide_mul (a := 100) (b := 100) (by omega) (by omega) (by decide) (by decide) (by decide)
section
variable {P : Program} {w : World} {K : PySem.W.Frag} {mg : Str → Option Value} {base : Heap} {Ts : List Addr} {Pt : Addr}
abbrev n_worked : List Str := ["kind", "one", "other"]
theorem sc_worked : FnScope n_worked ["kind", "one", "other"] (defScope s_worked) := ⟨rfl, rfl, rfl, by decide +kernel, rfl, by decide +kernel, by decide +kernel⟩
def spWorked : Sp := fun vs H Q _ => ∃ (k : Str) (i j : Int), vs = [.str k, .int i, .int j] ∧ InV i ∧ InV j ∧ Q (.int (workedM k i j)) H
theorem ok_worked (T : Txt K mg) (d : Def K mg "worked" s_worked ["kind", "one", "other"]) : Cal P w K mg base 1 "worked" ["kind", "one", "other"] spWorked := by
  refine d.ok sc_worked (fun vs H Q E h => ?_) (fun f cdv A outer s H vs Q E hr h => ?_)
  · obtain ⟨k, i, j, rfl, _⟩ := h
    rfl
  obtain ⟨k, i, j, rfl, hi, hj, q⟩ := h
  refine ⟨_, (pss_cons (ps_if (pt_cmpR op_eq (pv 0) pe_str (nomark _)) (pss_one (ps_ret (pe_callB (call_min2 rfl) (by rfl) T.f_min (by decide +kernel) (pa_cons (pe_op op_add (pv 1) (pv 2)) (pa_cons (pe_gint T.MOST_VALUE) pa_nil))))) pss_nil)
      (pss_cons (ps_if (pt_cmpR op_eq (pv 0) pe_str (nomark _)) (pss_one (ps_ret (pe_callB (call_max2 rfl) (by rfl) T.f_max (by decide +kernel) (pa_cons (pe_op op_sub (pv 1) (pv 2)) (pa_cons pe_int pa_nil))))) pss_nil)
      (pss_one (ps_ret (pe_callB (call_min2 rfl) (by rfl) T.f_min (by decide +kernel) (pa_cons (pe_op op_mulW (pv 1) (pv 2)) (pa_cons (pe_gint T.MOST_VALUE) pa_nil))))))), ?_⟩
  unfold workedM at q
  refine ⟨_, rfl, rfl, _, rfl, ?_⟩
  refine ite2 (fun c1 => ?_) (fun c1 => ?_)
  · have e : k = "plus" := by
      have := of_decide_eq_true c1
      injection this
    rw [if_pos e] at q
    exact ⟨_, rfl, _, rfl, _, _, rfl, rfl, _, _, rfl, q⟩
  · have e : ¬ k = "plus" := fun z => c1 (decide_eq_true (congrArg V.str z))
    rw [if_neg e] at q
    refine ⟨_, rfl, rfl, _, rfl, ?_⟩
    refine ite2 (fun c2 => ?_) (fun c2 => ?_)
    · have e : k = "minus" := by
        have := of_decide_eq_true c2
        injection this
      rw [if_pos e] at q
      exact ⟨_, rfl, _, rfl, _, _, rfl, rfl, _, _, rfl, q⟩
    · have e : ¬ k = "minus" := fun z => c2 (decide_eq_true (congrArg V.str z))
      rw [if_neg e] at q
      exact ⟨_, rfl, _, rfl, _, _, rfl, rfl, inV_mul hi hj, _, _, rfl, q⟩

abbrev n_need_lates : List Str := ["many", "lates", "one"]
theorem sc_need_lates : FnScope n_need_lates ["many", "lates"] (defScope s_need_lates) := ⟨rfl, rfl, rfl, by decide +kernel, rfl, by decide +kernel, by decide +kernel⟩
def InN (i : Int) : Prop := 0 ≤ i ∧ i ≤ 1000000
def spNeedLates (Ts : List Addr) : Sp := fun vs H Q _ => ∃ (v : V) (env : List Int), vs = [.int env.length, v] ∧ Td H v (.tup (env.map .int)) ∧ (∀ i ∈ env, InN i) ∧ Tabs Ts H ∧ ∀ H', ExT Ts H H' → Q .non H'
theorem ok_need_lates (T : Txt K mg) (hP : Pt ∈ Ts) (d : DefT K mg base "need_lates" s_need_lates ["many", "lates"] Pt) (c_is_in : Cal P w K mg base 1 "is_in" ["value", "least", "most"] spIsIn) : Cal P w K mg base 3 "need_lates" ["many", "lates"] (spNeedLates Ts) := by
  refine d.ok sc_need_lates (fun vs H Q E h => ?_) (fun f c A outer s H vs Q E TB hr h => ?_)
  · obtain ⟨v, env, rfl, _⟩ := h
    rfl
  obtain ⟨v, env, rfl, hd, hin, hT, q⟩ := h
  refine ⟨_, (pss_one (ps_if (PW.pt (pw_or (pt_not (pt_val (pe_callB call_isi (by rfl) T.f_isinstance (by decide +kernel) (pa_cons (pv 1) (pa_cons (pe_ty "tuple" T.f_tuple) pa_nil))))) (pw_or (pt_cmpR op_ne (pe_callB call_len_seq (by rfl) T.f_len PySem.boot_len (pa_cons (pv 1) pa_nil)) (pv 0) (nomark _)) (pw_or1 (pt_not (pt_val (pe_allG (own := [("one", 2)]) (g := (gName 2)) hr rfl sc_need_lates.nd rfl T.f_all TB rfl ⟨rfl, by decide +kernel, by decide +kernel⟩ (pi_tup (pv 1)) (blkOk_by (N := n_need_lates) (sc := defScope s_need_lates) (by decide +kernel)) (fun _ _ _ _ _ _ _ => (pg_name (i := 2) sc_need_lates.nd rfl (Or.inl rfl))) (fun _ _ _ _ _ _ _ hg => (pe_cal c_is_in (hg.mono (by omega)) (pa_cons (pv 2) (pa_cons pe_int (pa_cons (pe_gint T.MOST_NUMBER) pa_nil)))))))))))) (pss_one ps_never) pss_nil)), ?_⟩
  obtain ⟨a, xs, rfl, ha, _, hx⟩ := hd.tup_inv
  have hl := hx.length
  rw [List.length_map] at hl
  refine ⟨_, rfl, _, _, _, _, _, rfl, .ty _, Td.tyx (hd), kit_ty (kit_tup _), _, rfl, ?_⟩
  refine iteF ?_
  refine ⟨_, rfl, _, _, rfl, .inr (SqT.of (ha)), _, rfl, rfl, _, rfl, ?_⟩
  rw [hl]
  refine ite2 (fun c1 => ?_) (fun c1 => ?_)
  · simp at c1
  refine ⟨_, rfl, a, rfl, ⟨_, SqT.of ha⟩, hT _ hP, fun H2 tb2 => ?_⟩
  have e2 := (ExT.refl hT).grown hP tb2
  refine all_tup (f := fun d => isIn d 0 1000000) (fun H' => H' = H2) (hx.mono e2.kp) rfl (fun H1 e => by subst e; exact e2.ext.tup ha) (fun x d H1 hd hm e Q' q' => ?_) fun H3 e3 => ?_
  · subst e
    exact ⟨x, rfl, x, d, 0, 1000000, rfl, hd, q' H1 rfl⟩
  · subst e3
    refine ⟨_, rfl, ?_⟩
    have e : (env.map D.int).all (fun d => isIn d 0 1000000) = true := by
      rw [List.all_eq_true]
      intro x hx
      obtain ⟨i, hi, rfl⟩ := List.mem_map.mp hx
      obtain ⟨h1, h2⟩ := hin i hi
      show (decide (0 ≤ i) && decide (i ≤ 1000000)) = true
      rw [decide_eq_true h1, decide_eq_true h2]
      rfl
    rw [e]
    exact iteF (q H3 e2)

abbrev n_need_fuel : List Str := ["fuel"]
theorem sc_need_fuel : FnScope n_need_fuel ["fuel"] (defScope s_need_fuel) := ⟨rfl, rfl, rfl, by decide +kernel, rfl, by decide +kernel, by decide +kernel⟩
def spNeedFuel : Sp := fun vs H Q _ => ∃ (i : Int), vs = [.int i] ∧ 0 ≤ i ∧ i ≤ 100000 ∧ Q .non H
theorem ok_need_fuel (T : Txt K mg) (d : Def K mg "need_fuel" s_need_fuel ["fuel"]) (c_is_in : Cal P w K mg base 1 "is_in" ["value", "least", "most"] spIsIn) : Cal P w K mg base 2 "need_fuel" ["fuel"] spNeedFuel := by
  refine d.ok sc_need_fuel (fun vs H Q E h => ?_) (fun f cdv A outer s H vs Q E hr h => ?_)
  · obtain ⟨i, rfl, _⟩ := h
    rfl
  obtain ⟨i, rfl, h1, h2, q⟩ := h
  refine ⟨_, (pss_one (ps_if (pt_not (pt_val (pe_cal c_is_in (hr.mono (by omega)) (pa_cons (pv 0) (pa_cons pe_int (pa_cons (pe_gint T.MOST_FUEL) pa_nil)))))) (pss_one ps_never) pss_nil)), ?_⟩
  refine ⟨_, rfl, .int i, .int i, 0, 100000, rfl, .int i, _, rfl, ?_⟩
  have e : isIn (.int i) 0 100000 = true := by
    show (decide (0 ≤ i) && decide (i ≤ 100000)) = true
    rw [decide_eq_true h1, decide_eq_true h2]
    rfl
  rw [e]
  exact iteF q
end
end K04
namespace K04
open PySem PySem.Spec PyProof.Rows L2

/-! ### the plain program's functions by name (the last of a name counts) -/
def lookF (l : List D) (nm : Str) : Option D := l.foldl (fun acc d => if nm = nameD d then some d else acc) none
theorem lookF_aux (nm : Str) : ∀ (l : List D) (acc : Option D) (d : D), l.foldl (fun acc d => if nm = nameD d then some d else acc) acc = some d → acc = some d ∨ (d ∈ l ∧ nameD d = nm)
  | [], acc, d, h => .inl h
  | x :: r, acc, d, h => by
    rcases lookF_aux nm r _ d h with h | ⟨h, e⟩
    · dsimp only at h
      by_cases c : nm = nameD x
      · rw [if_pos c] at h
        obtain rfl := Option.some.inj h
        exact .inr ⟨List.mem_cons_self, c.symm⟩
      · rw [if_neg c] at h
        exact .inl h
    · exact .inr ⟨List.mem_cons_of_mem _ h, e⟩
theorem lookF_mem {l : List D} {nm : Str} {d : D} (h : lookF l nm = some d) : d ∈ l ∧ nameD d = nm := by
  rcases lookF_aux nm l none d h with h | h
  · cases h
  · exact h
theorem sizes_look (nm : Str) : ∀ (l : List D) (kvs : List (Key × V)) (acc : Option D), valV kvs (.inr nm) = acc.map (fun d => V.int (latesD d)) →
    valV (l.foldl putD kvs) (.inr nm) = (l.foldl (fun acc d => if nm = nameD d then some d else acc) acc).map fun d => V.int (latesD d)
  | [], kvs, acc, h => h
  | d :: r, kvs, acc, h => by
    refine sizes_look nm r (putD kvs d) _ ?_
    unfold putD
    rw [valV_put]
    dsimp only
    by_cases c : nm = nameD d
    · rw [if_pos (by rw [c]), if_pos c]
      rfl
    · rw [if_neg (fun z => c (by injection z)), if_neg c]
      exact h
theorem sizesK_look (l : List D) (nm : Str) : valV (sizesK l) (.inr nm) = (lookF l nm).map fun d => V.int (latesD d) := sizes_look nm l [] none rfl

/-- an expression of the plain program l, for so many late numbers -/
inductive GE (l : List D) (L : Nat) : D → Prop
  | num (i : Int) : InV i → GE l L (.tup [.str "number", .int i])
  | late (i : Nat) : i < L → GE l L (.tup [.str "late", .int i])
  | bin (k : Str) (x y : D) : k = "plus" ∨ k = "minus" ∨ k = "times" → GE l L x → GE l L y → GE l L (.tup [.str k, x, y])
  | call (nm : Str) (as : List D) (f : D) : lookF l nm = some f → latesD f = as.length → as.length ≤ 4 → (∀ a ∈ as, GE l L a) → GE l L (.tup [.str "call", .str nm, .tup as])
  | ite (u z x y : D) : GE l L u → GE l L z → GE l L x → GE l L y → GE l L (.tup [.str "if", .tup [.str "less", u, z], x, y])
theorem callsL_sub {f : D → Option (List D)} : ∀ {ps : List D} {cs : List D}, callsL f ps = some cs → ∀ p ∈ ps, ∃ c, f p = some c ∧ ∀ x ∈ c, x ∈ cs
  | p :: r, cs, h, q, hq => by
    unfold callsL at h
    obtain ⟨a, h1, h2⟩ := Option.bind_eq_some_iff.mp h
    obtain ⟨b, h3, h4⟩ := Option.map_eq_some_iff.mp h2
    subst h4
    rcases List.mem_cons.mp hq with e | hq
    · subst e
      exact ⟨a, h1, fun x hx => List.mem_append_left _ hx⟩
    · obtain ⟨c, hc, hs⟩ := callsL_sub h3 q hq
      exact ⟨c, hc, fun x hx => List.mem_append_right _ (hs x hx)⟩
theorem callsD_sub {n : Nat} {d : D} {cs : List D} (h : callsD (n + 1) d = some cs) : ∃ ps, partsD d = some ps ∧ (∀ x ∈ ownD d, x ∈ cs) ∧ ∀ p ∈ ps, ∃ c, callsD n p = some c ∧ ∀ x ∈ c, x ∈ cs := by
  obtain ⟨ps, h1, h2⟩ := Option.bind_eq_some_iff.mp h
  obtain ⟨b, h3, h4⟩ := Option.map_eq_some_iff.mp h2
  subst h4
  refine ⟨ps, h1, fun x hx => List.mem_append_left _ hx, fun p hp => ?_⟩
  obtain ⟨c, hc, hs⟩ := callsL_sub h3 p hp
  exact ⟨c, hc, fun x hx => List.mem_append_right _ (hs x hx)⟩
theorem isIn_form {x : D} {a b : Int} (h : isIn x a b = true) : ∃ i, x = .int i ∧ a ≤ i ∧ i ≤ b := by
  cases x with
  | int i =>
    have h : (decide (a ≤ i) && decide (i ≤ b)) = true := h
    rw [Bool.and_eq_true] at h
    exact ⟨i, rfl, of_decide_eq_true h.1, of_decide_eq_true h.2⟩
  | _ => cases h
theorem ge_of {l : List D} {L : Nat} : ∀ (N m : Nat) (d : D) (cs : List D), m ≤ N → plainE m d L = true → callsD m d = some cs → (∀ c ∈ cs, callOk (sizesK l) c = true) → GE l L d
  | _, 0, d, cs, _, h, _, _ => by cases h
  | 0, m + 1, d, cs, hN, h, _, _ => absurd hN (by omega)
  | N + 1, m + 1, d, cs, hN, h, hc, hk => by
    obtain ⟨ps, h1, h2, h3⟩ := callsD_sub hc
    have ih : ∀ p ∈ ps, plainE m p L = true → GE l L p := fun p hp hpl => by
      obtain ⟨c, hc, hs⟩ := h3 p hp
      exact ge_of N m p c (by omega) hpl hc fun x hx => hk x (hs x hx)
    cases plainE_form h with
    | num x hx =>
      obtain ⟨i, rfl, a, b⟩ := isIn_form hx
      exact .num i ⟨a, b⟩
    | late x hx =>
      obtain ⟨i, rfl, a, b⟩ := isIn_form hx
      obtain ⟨n, rfl⟩ : ∃ n : Nat, i = n := ⟨i.toNat, by omega⟩
      exact .late n (by omega)
    | bin k x y hk' hx hy =>
      have e1 : partsD (.tup [.str k, x, y]) = some [x, y] := by
        rcases pairs_cases hk' with rfl | rfl | rfl <;> rfl
      rw [e1] at h1
      obtain rfl := Option.some.inj h1
      exact .bin k x y (pairs_cases hk') (ih x (by simp) hx) (ih y (by simp) hy)
    | call nm as e1 e2 e3 =>
      have e4 : partsD (.tup [.str "call", .str nm, .tup as]) = some as := rfl
      rw [e4] at h1
      obtain rfl := Option.some.inj h1
      have hm : D.tup [.str "call", .str nm, .tup as] ∈ ownD (.tup [.str "call", .str nm, .tup as]) := by
        show _ ∈ [_]
        simp
      have hk2 := hk _ (h2 _ hm)
      have hk2 : decide ((valV (sizesK l) (.inr nm)).getD (.int (-1)) = .int as.length) = true := hk2
      have hk3 := of_decide_eq_true hk2
      rw [sizesK_look] at hk3
      cases hl : lookF l nm with
      | none =>
        rw [hl] at hk3
        have hk3 : V.int (-1) = .int as.length := hk3
        injection hk3
        omega
      | some f =>
        rw [hl] at hk3
        have hk3 : V.int (latesD f) = .int as.length := hk3
        injection hk3 with hk3
        exact .call nm as f hl hk3 e2 fun a ha => ih a ha (e3 a ha)
    | ite j u z x y hj hu hz hx hy =>
      subst hj
      have e4 : partsD (.tup [.str "if", .tup [.str "less", u, z], x, y]) = some [.tup [.str "less", u, z], x, y] := rfl
      rw [e4] at h1
      obtain rfl := Option.some.inj h1
      obtain ⟨c, hc1, hs⟩ := h3 (.tup [.str "less", u, z]) (by simp)
      obtain ⟨ps2, h5, _, h6⟩ := callsD_sub hc1
      have e5 : partsD (.tup [.str "less", u, z]) = some [u, z] := rfl
      rw [e5] at h5
      obtain rfl := Option.some.inj h5
      have ih2 : ∀ p ∈ [u, z], plainE (j + 1) p L = true → GE l L p := fun p hp hpl => by
        obtain ⟨c2, hc2, hs2⟩ := h6 p hp
        exact ge_of N (j + 1) p c2 (by omega) hpl hc2 fun x hx => hk x (hs x (hs2 x hx))
      exact .ite u z x y (ih2 u (by simp) hu) (ih2 z (by simp) hz) (ih x (by simp) hx) (ih y (by simp) hy)
/-- what a plain program is -/
structure GP (l : List D) : Prop where
  pos : 1 ≤ l.length
  le : l.length ≤ 300
  fn : ∀ f ∈ l, ∃ s n b, f = .tup [.str s, .int (n : Nat), b] ∧ plainNm s = true ∧ n ≤ 4 ∧ GE l n b
theorem gp_of {l : List D} (h : isPlainD (.tup l) = true) : GP l := by
  have h : (decide (1 ≤ l.length) && (decide (l.length ≤ 300) && (l.all plainF && (decide ((sizesK l).length = l.length) && l.all (callsOk (sizesK l)))))) = true := h
  simp only [Bool.and_eq_true] at h
  obtain ⟨h1, h2, h3, h4, h5⟩ := h
  refine ⟨of_decide_eq_true h1, of_decide_eq_true h2, fun f hf => ?_⟩
  obtain ⟨s, L, b, rfl, hs, hL, hL4, hb⟩ := plainF_form (List.all_eq_true.mp h3 f hf)
  obtain ⟨n, rfl⟩ : ∃ n : Nat, L = n := ⟨L.toNat, by omega⟩
  obtain ⟨cs, hcs, _⟩ := plainE_calls hb
  have hk : callsOk (sizesK l) (.tup [.str s, .int n, b]) = true := List.all_eq_true.mp h5 _ hf
  have e : callsOk (sizesK l) (.tup [.str s, .int n, b]) = cs.all (callOk (sizesK l)) := by
    show ((callsD 30 b).getD []).all _ = _
    rw [hcs]
    rfl
  rw [e] at hk
  exact ⟨s, n, b, rfl, hs, by omega, ge_of 30 30 b cs (Nat.le_refl _) hb hcs (List.all_eq_true.mp hk)⟩

/-! ### the machine -/
structure Tk where
  fin : Bool
  d : D
  env : List Int
structure MS where
  ts : List Tk
  dn : List Int
  n : Int
def headD : D → Str
  | .tup (.str k :: _) => k
  | _ => ""
/-- the parts that are worked out first -/
def lessD : D → List D
  | .tup [_, x, y] => [x, y]
  | _ => []
def partsM : D → List D
  | .tup [_, t, _, _] => lessD t
  | .tup [.str k, x, y] => if k = "call" then y.toTup.getD [] else [x, y]
  | _ => []
def leafM : D → Bool
  | .tup [_, _] => true
  | _ => false
def argD : D → D
  | .tup (_ :: x :: _) => x
  | _ => .non
def thenD : D → D
  | .tup [_, _, x, _] => x
  | _ => .non
def elseD : D → D
  | .tup [_, _, _, x] => x
  | _ => .non
def strD : D → Str
  | .str s => s
  | _ => ""
def leafV (d : D) (env : List Int) : Int := if headD d = "number" then (argD d).toInt else env.getD (argD d).toInt.toNat 0
def bodyF (l : List D) (nm : Str) : D := ((lookF l nm).map bodyD).getD .non
/-- one task -/
def stepM (l : List D) (st : MS) : MS := match st.ts with
  | [] => st
  | t :: ts =>
    if t.fin = true then
      if headD t.d = "call" then ⟨⟨false, bodyF l (strD (argD t.d)), (st.dn.take (partsM t.d).length).reverse⟩ :: ts, st.dn.drop (partsM t.d).length, st.n + 1⟩
      else if headD t.d = "if" then ⟨⟨false, if st.dn.getD 1 0 < st.dn.getD 0 0 then thenD t.d else elseD t.d, t.env⟩ :: ts, st.dn.drop 2, st.n + 1⟩
      else ⟨ts, workedM (headD t.d) (st.dn.getD 1 0) (st.dn.getD 0 0) :: st.dn.drop 2, st.n + 1⟩
    else if leafM t.d = true then ⟨ts, leafV t.d t.env :: st.dn, st.n⟩
    else ⟨(partsM t.d).map (fun p => ⟨false, p, t.env⟩) ++ ⟨true, t.d, t.env⟩ :: ts, st.dn, st.n⟩
/-- where a run ends -/
inductive EndsM (l : List D) (fuel : Int) : MS → Option (Int × Int) → Prop
  | done (st : MS) : st.ts = [] → EndsM l fuel st (some (st.dn.getD 0 0, st.n))
  | out (st : MS) : st.ts ≠ [] → fuel < (stepM l st).n → EndsM l fuel st none
  | go (st : MS) (r : Option (Int × Int)) : st.ts ≠ [] → ¬ fuel < (stepM l st).n → EndsM l fuel (stepM l st) r → EndsM l fuel st r
theorem ends_inj {l : List D} {fuel : Int} {st : MS} {r : Option (Int × Int)} (h : EndsM l fuel st r) : ∀ {r' : Option (Int × Int)}, EndsM l fuel st r' → r = r' := by
  induction h with
  | done st h =>
    intro r' h'
    cases h' with
    | done _ _ => rfl
    | out _ h2 _ => exact absurd h h2
    | go _ _ h2 _ _ => exact absurd h h2
  | out st h h1 =>
    intro r' h'
    cases h' with
    | done _ h2 => exact absurd h2 h
    | out _ _ _ => rfl
    | go _ _ _ h2 _ => exact absurd h1 h2
  | go st r h h1 h2 ih =>
    intro r' h'
    cases h' with
    | done _ h2 => exact absurd h2 h
    | out _ _ h2 => exact absurd h2 h1
    | go _ _ _ _ h3 => exact ih h3

/-! ### what holds of a run -/
def wtk (t : Tk) : Nat := if t.fin = true then 1 else 2 * t.d.sz
def wts (ts : List Tk) : Nat := (ts.map wtk).sum
/-- how many values are there at the end -/
def flow : List Tk → Nat → Option Nat
  | [], n => some n
  | t :: ts, n => if t.fin = true then (if (partsM t.d).length ≤ n then flow ts (n - (partsM t.d).length + 1) else none) else flow ts (n + 1)
structure GT (l : List D) (t : Tk) : Prop where
  ge : GE l t.env.length t.d
  fin : t.fin = true → leafM t.d = false
  env : ∀ i ∈ t.env, InV i
  len : t.env.length ≤ 4
  sz : t.d.sz ≤ 400
structure GM (l : List D) (st : MS) : Prop where
  ts : ∀ t ∈ st.ts, GT l t
  dn : ∀ i ∈ st.dn, InV i
  flow : flow st.ts st.dn.length = some 1
  n0 : 0 ≤ st.n
  sz : wts st.ts + st.dn.length ≤ 800 * (st.n.toNat + 1)
theorem flow_map (env : List Int) (ts : List Tk) : ∀ (ps : List D) (n : Nat), flow (ps.map (fun p => (⟨false, p, env⟩ : Tk)) ++ ts) n = flow ts (n + ps.length)
  | [], n => rfl
  | p :: r, n => by
    show flow (r.map (fun p => (⟨false, p, env⟩ : Tk)) ++ ts) (n + 1) = _
    rw [flow_map env ts r (n + 1), List.length_cons]
    congr 1
    omega
theorem wts_map (env : List Int) (ts : List Tk) : ∀ (ps : List D), wts (ps.map (fun p => (⟨false, p, env⟩ : Tk)) ++ ts) = 2 * D.szs ps + wts ts
  | [] => by
    rw [D.szs]
    show wts ts = _
    omega
  | p :: r => by
    have ih := wts_map env ts r
    rw [D.szs]
    show 2 * p.sz + wts (r.map (fun p => (⟨false, p, env⟩ : Tk)) ++ ts) = _
    rw [ih]
    omega
theorem wts_len : ∀ ts : List Tk, ts.length ≤ wts ts
  | [] => Nat.zero_le _
  | t :: ts => by
    have := wts_len ts
    have h1 : 1 ≤ wtk t := by
      unfold wtk
      split
      · omega
      · have := sz_pos t.d
        omega
    show ts.length + 1 ≤ wtk t + wts ts
    omega
/-- the forms of the parts -/
theorem ge_parts {l : List D} {L : Nat} {d : D} (h : GE l L d) (hl : leafM d = false) : (∀ p ∈ partsM d, GE l L p) ∧ D.szs (partsM d) + 2 ≤ d.sz := by
  cases h with
  | num i _ => cases hl
  | late i _ => cases hl
  | bin k x y hk hx hy =>
    have e : partsM (.tup [.str k, x, y]) = [x, y] := by rcases hk with rfl | rfl | rfl <;> rfl
    rw [e]
    refine ⟨fun p hp => ?_, ?_⟩
    · rcases List.mem_cons.mp hp with rfl | hp
      · exact hx
      · rcases List.mem_cons.mp hp with rfl | hp
        · exact hy
        · nomatch hp
    · simp only [D.sz, D.szs]
      omega
  | call nm as f h1 h2 h3 h4 =>
    have e : partsM (.tup [.str "call", .str nm, .tup as]) = as := rfl
    rw [e]
    refine ⟨h4, ?_⟩
    simp only [D.sz, D.szs]
    omega
  | ite u z x y hu hz hx hy =>
    have e : partsM (.tup [.str "if", .tup [.str "less", u, z], x, y]) = [u, z] := rfl
    rw [e]
    refine ⟨fun p hp => ?_, ?_⟩
    · rcases List.mem_cons.mp hp with rfl | hp
      · exact hu
      · rcases List.mem_cons.mp hp with rfl | hp
        · exact hz
        · nomatch hp
    · simp only [D.sz, D.szs]
      omega
/-- the bodies are small -/
def SmallP (l : List D) : Prop := ∀ f ∈ l, (bodyD f).sz ≤ 400
theorem inV_getD {dn : List Int} (h : ∀ i ∈ dn, InV i) (j : Nat) : InV (dn.getD j 0) := by
  rw [List.getD_eq_getElem?_getD]
  cases e : dn[j]? with
  | none => exact ⟨by decide, by decide⟩
  | some i => exact h i (List.mem_of_getElem? e)
theorem mu_step {a b c : Nat} {f n n' : Int} (h1 : n' = n + 1) (h2 : n ≤ f) (h3 : b ≤ a + 800) : (f + 1 - n').toNat * 1000 + b < (f + 1 - n).toNat * 1000 + a := by
  omega
def mu (fuel : Int) (st : MS) : Nat := (fuel + 1 - st.n).toNat * 1000 + wts st.ts
theorem gm_step {l : List D} (G : GP l) (S : SmallP l) {st : MS} (g : GM l st) (h : st.ts ≠ []) : GM l (stepM l st) ∧ ∀ fuel : Int, st.n ≤ fuel → mu fuel (stepM l st) < mu fuel st := by
  obtain ⟨ts, dn, n⟩ := st
  obtain ⟨g1, g2, g3, g4, g5⟩ := g
  cases ts with
  | nil => exact absurd rfl h
  | cons t ts =>
  obtain ⟨ge, gf, genv, glen, gsz⟩ := g1 t List.mem_cons_self
  have gts : ∀ t' ∈ ts, GT l t' := fun t' ht => g1 t' (List.mem_cons_of_mem _ ht)
  have g5 : wtk t + wts ts + dn.length ≤ 800 * (n.toNat + 1) := g5
  obtain ⟨fin, d, env⟩ := t
  dsimp only at ge gf genv glen gsz g2 g4
  cases fin with
  | false =>
    have g3 : flow ts (dn.length + 1) = some 1 := g3
    have hw : wtk ⟨false, d, env⟩ = 2 * d.sz := rfl
    have hp := sz_pos d
    rw [hw] at g5
    cases hlf : leafM d with
    | true =>
      have e : stepM l ⟨⟨false, d, env⟩ :: ts, dn, n⟩ = ⟨ts, leafV d env :: dn, n⟩ := by
        show (if leafM d = true then _ else _) = _
        rw [if_pos hlf]
      rw [e]
      have hv : InV (leafV d env) := by
        cases ge with
        | num i hi => exact hi
        | late i hi => exact inV_getD genv _
        | bin _ _ _ _ _ _ => cases hlf
        | call _ _ _ _ _ _ _ => cases hlf
        | ite _ _ _ _ _ _ _ _ => cases hlf
      refine ⟨⟨gts, fun i hi => ?_, g3, g4, ?_⟩, fun fuel hf => ?_⟩
      · rcases List.mem_cons.mp hi with rfl | hi
        · exact hv
        · exact g2 i hi
      · show wts ts + (dn.length + 1) ≤ 800 * (n.toNat + 1)
        omega
      · show (fuel + 1 - n).toNat * 1000 + wts ts < (fuel + 1 - n).toNat * 1000 + (wtk ⟨false, d, env⟩ + wts ts)
        rw [hw]
        omega
    | false =>
      have e : stepM l ⟨⟨false, d, env⟩ :: ts, dn, n⟩ = ⟨(partsM d).map (fun p => ⟨false, p, env⟩) ++ ⟨true, d, env⟩ :: ts, dn, n⟩ := by
        show (if leafM d = true then _ else _) = _
        rw [if_neg (by rw [hlf]; exact Bool.false_ne_true)]
      rw [e]
      obtain ⟨hp1, hp2⟩ := ge_parts ge hlf
      have hws : wts ((partsM d).map (fun p => (⟨false, p, env⟩ : Tk)) ++ ⟨true, d, env⟩ :: ts) = 2 * D.szs (partsM d) + (1 + wts ts) := wts_map env _ _
      refine ⟨⟨fun t' ht => ?_, g2, ?_, g4, ?_⟩, fun fuel hf => ?_⟩
      · rcases List.mem_append.mp ht with ht | ht
        · obtain ⟨p, hp, rfl⟩ := List.mem_map.mp ht
          have := szs_mem hp
          exact ⟨hp1 p hp, fun z => (nomatch z), genv, glen, by show p.sz ≤ 400; omega⟩
        · rcases List.mem_cons.mp ht with rfl | ht
          · exact ⟨ge, fun _ => hlf, genv, glen, gsz⟩
          · exact gts t' ht
      · show flow ((partsM d).map (fun p => (⟨false, p, env⟩ : Tk)) ++ ⟨true, d, env⟩ :: ts) dn.length = some 1
        rw [flow_map]
        show (if (partsM d).length ≤ dn.length + (partsM d).length then flow ts (dn.length + (partsM d).length - (partsM d).length + 1) else none) = some 1
        rw [if_pos (by omega), show dn.length + (partsM d).length - (partsM d).length + 1 = dn.length + 1 by omega]
        exact g3
      · show wts ((partsM d).map (fun p => (⟨false, p, env⟩ : Tk)) ++ ⟨true, d, env⟩ :: ts) + dn.length ≤ 800 * (n.toNat + 1)
        rw [hws]
        omega
      · show (fuel + 1 - n).toNat * 1000 + wts ((partsM d).map (fun p => (⟨false, p, env⟩ : Tk)) ++ ⟨true, d, env⟩ :: ts) < (fuel + 1 - n).toNat * 1000 + (wtk ⟨false, d, env⟩ + wts ts)
        rw [hws, hw]
        omega
  | true =>
    have hlf := gf rfl
    have g3 : (if (partsM d).length ≤ dn.length then flow ts (dn.length - (partsM d).length + 1) else none) = some 1 := g3
    have hk : (partsM d).length ≤ dn.length := by
      by_cases c : (partsM d).length ≤ dn.length
      · exact c
      · rw [if_neg c] at g3
        cases g3
    rw [if_pos hk] at g3
    have hw : wtk ⟨true, d, env⟩ = 1 := rfl
    rw [hw] at g5
    have dropIn : ∀ k, ∀ i ∈ dn.drop k, InV i := fun k i hi => g2 i (List.mem_of_mem_drop hi)
    -- a body or a branch is begun
    have beg : ∀ (d' : D) (env' : List Int) (k : Nat), k = (partsM d).length → GE l env'.length d' → (∀ i ∈ env', InV i) → env'.length ≤ 4 → d'.sz ≤ 400 → GM l ⟨⟨false, d', env'⟩ :: ts, dn.drop k, n + 1⟩ ∧
        ∀ fuel : Int, n ≤ fuel → mu fuel ⟨⟨false, d', env'⟩ :: ts, dn.drop k, n + 1⟩ < mu fuel ⟨⟨true, d, env⟩ :: ts, dn, n⟩ := by
      intro d' env' k hk' hge hin hlen hsz
      subst hk'
      refine ⟨⟨fun t' ht => ?_, dropIn _, ?_, by show 0 ≤ n + 1; omega, ?_⟩, fun fuel hf => ?_⟩
      · rcases List.mem_cons.mp ht with rfl | ht
        · exact ⟨hge, fun z => (nomatch z), hin, hlen, hsz⟩
        · exact gts t' ht
      · show flow ts ((dn.drop (partsM d).length).length + 1) = some 1
        rw [List.length_drop]
        exact g3
      · show 2 * d'.sz + wts ts + (dn.drop _).length ≤ 800 * ((n + 1).toNat + 1)
        rw [List.length_drop]
        omega
      · show (fuel + 1 - (n + 1)).toNat * 1000 + (2 * d'.sz + wts ts) < (fuel + 1 - n).toNat * 1000 + (1 + wts ts)
        omega
    cases ge with
    | num i _ => cases hlf
    | late i _ => cases hlf
    | bin k x y hk' hx hy =>
      have e : partsM (.tup [.str k, x, y]) = [x, y] := by rcases hk' with rfl | rfl | rfl <;> rfl
      have e2 : stepM l ⟨⟨true, .tup [.str k, x, y], env⟩ :: ts, dn, n⟩ = ⟨ts, workedM k (dn.getD 1 0) (dn.getD 0 0) :: dn.drop 2, n + 1⟩ := by
        rcases hk' with rfl | rfl | rfl <;> rfl
      rw [e] at hk g3
      have hk : 2 ≤ dn.length := hk
      have g3 : flow ts (dn.length - 2 + 1) = some 1 := g3
      rw [e2]
      refine ⟨⟨gts, fun i hi => ?_, ?_, by show 0 ≤ n + 1; omega, ?_⟩, fun fuel hf => ?_⟩
      · rcases List.mem_cons.mp hi with rfl | hi
        · exact worked_in (inV_getD g2 1) (inV_getD g2 0)
        · exact dropIn 2 i hi
      · show flow ts ((dn.drop 2).length + 1) = some 1
        rw [List.length_drop]
        exact g3
      · show wts ts + ((dn.drop 2).length + 1) ≤ 800 * ((n + 1).toNat + 1)
        rw [List.length_drop]
        omega
      · show (fuel + 1 - (n + 1)).toNat * 1000 + wts ts < (fuel + 1 - n).toNat * 1000 + (1 + wts ts)
        have hf : n ≤ fuel := hf
        omega
    | call nm as f h1 h2 h3 h4 =>
      have e : partsM (.tup [.str "call", .str nm, .tup as]) = as := rfl
      rw [e] at hk
      have e2 : stepM l ⟨⟨true, .tup [.str "call", .str nm, .tup as], env⟩ :: ts, dn, n⟩ = ⟨⟨false, bodyF l nm, (dn.take as.length).reverse⟩ :: ts, dn.drop as.length, n + 1⟩ := rfl
      rw [e2]
      obtain ⟨hm, hn⟩ := lookF_mem h1
      obtain ⟨s', n', b, rfl, _, hn4, hge⟩ := G.fn f hm
      have hb : bodyF l nm = b := by
        unfold bodyF
        rw [h1]
        rfl
      have hl : n' = as.length := by
        have h2 : ((n' : Nat) : Int) = as.length := h2
        omega
      have hlen : (dn.take as.length).reverse.length = as.length := by
        rw [List.length_reverse, List.length_take]
        omega
      rw [hb]
      refine beg b _ _ rfl (by rw [hlen, ← hl]; exact hge) (fun i hi => g2 i (List.mem_of_mem_take (List.mem_reverse.mp hi))) (by rw [hlen]; exact h3) (S _ hm)
    | ite u z x y hu hz hx hy =>
      have e2 : stepM l ⟨⟨true, .tup [.str "if", .tup [.str "less", u, z], x, y], env⟩ :: ts, dn, n⟩ = ⟨⟨false, if dn.getD 1 0 < dn.getD 0 0 then x else y, env⟩ :: ts, dn.drop 2, n + 1⟩ := rfl
      rw [e2]
      simp only [D.sz, D.szs] at gsz
      refine beg _ _ 2 rfl ?_ genv glen ?_
      · split
        · exact hx
        · exact hy
      · split <;> omega
/-- every run ends -/
theorem ends_all {l : List D} (G : GP l) (S : SmallP l) (fuel : Int) : ∀ (m : Nat) (st : MS), GM l st → mu fuel st ≤ m → st.n ≤ fuel → ∃ r, EndsM l fuel st r
  | m, st, g, hm, hn => by
    by_cases h : st.ts = []
    · exact ⟨_, .done st h⟩
    · obtain ⟨g', hmu⟩ := gm_step G S g h
      by_cases h2 : fuel < (stepM l st).n
      · exact ⟨_, .out st h h2⟩
      · have := hmu fuel hn
        match m with
        | 0 => exact absurd this (by omega)
        | m + 1 =>
          obtain ⟨r, hr⟩ := ends_all G S fuel m (stepM l st) g' (by omega) (by omega)
          exact ⟨r, .go st r h h2 hr⟩
/-- the first body, the numbers given -/
def startM (l : List D) (env : List Int) : MS := ⟨[⟨false, bodyD (l.headD .non), env⟩], [], 0⟩
theorem gm_start {l : List D} (G : GP l) (S : SmallP l) {env : List Int} (he : ∀ i ∈ env, InV i) (hl : (env.length : Int) = latesD (l.headD .non)) : GM l (startM l env) := by
  obtain ⟨f, r, rfl⟩ : ∃ f r, l = f :: r := by
    cases l with
    | nil => exact absurd G.pos (by decide)
    | cons f r => exact ⟨f, r, rfl⟩
  have hm : f ∈ f :: r := List.mem_cons_self
  have hs := S f hm
  obtain ⟨s', n', b, rfl, _, hn4, hge⟩ := G.fn f hm
  have hl : (env.length : Int) = (n' : Nat) := hl
  have e : env.length = n' := by omega
  have hs : b.sz ≤ 400 := hs
  refine ⟨fun t ht => ?_, fun i hi => (nomatch hi), rfl, Int.le_refl _, ?_⟩
  · rcases List.mem_cons.mp ht with rfl | ht
    · exact ⟨by show GE _ env.length b; rw [e]; exact hge, fun z => (nomatch z), he, by show env.length ≤ 4; omega, hs⟩
    · nomatch ht
  · show 2 * b.sz + 0 + 0 ≤ 800 * 1
    omega
end K04
namespace K04
open PySem PySem.Spec PyProof.Rows L2

/-! ### methods -/
section
variable {P : Program} {w : World} {K : PySem.W.Frag} {mg : Str → Option Value} {base : Heap}
/-- a method of the class C, as it stands -/
structure DefM (K : PySem.W.Frag) (C : Addr) (m qual : Str) (st : Stmt) (ps : List Str) : Prop where
  ex : ∃ (f : Addr) (fd : FuncData), Cls K C ∧ Meth K C m f ∧ Fun K m qual st f fd ∧ Binds K fd ps []
structure MetC (P : Program) (w : World) (K : PySem.W.Frag) (mg : Str → Option Value) (base : Heap) (k : Nat) (C : Addr) (m : Str) (ps : List Str) (sp : Sp) : Prop where
  ex : ∃ (f : Addr) (fd : FuncData), Cls K C ∧ Meth K C m f ∧ FnOk P w K mg base CX0 k f fd ps sp ∧ Binds K fd ps []
theorem DefM.ok {C : Addr} {m qual : Str} {st : Stmt} {ps N : List Str} {k : Nat} {sp : Sp} (d : DefM K C m qual st ps) (S : FnScope N ps (defScope st)) (len : ∀ vs H Q E, sp vs H Q E → vs.length = ps.length)
    (hbody : ∀ (f : Addr) (cdv : Value) (A : Around) (outer : List Env) (s : Shared) (H : Hp) (vs : List V) (Q : VK) (E : XK), Room k (A.deeper (envOfC qual (defScope st) s.heap.objs.size f cdv)) → sp vs H Q E →
      ∃ t, PSs (cxOf CX0 P w K mg base N qual (defScope st) f cdv A outer s H E).nox (defBody st) t ∧ t { nx := fun _ H' => Q .non H', rt := Q } (start N vs) H) : MetC P w K mg base (k + 1) C m ps sp := by
  obtain ⟨f, fd, c, me, F, b⟩ := d.ex
  exact ⟨f, fd, c, me, F.ok S len (hbody f), b⟩
theorem pe_metC {X : Cx} {pl : Sem Bool} {k : Nat} {C : Addr} {m : Str} {ps : List Str} {sp : Sp} {o e : Expr} {es : List Expr} {ta : TE} {t : TA} {apos pos : Pos} (c : MetC X.prog X.w X.K X.mg X.base k C m ps sp) (hr : Room k X.A) (he : PE X o ta) (ha : PA X (e :: es) t)
    (hst : starEach (e :: es) X.env = (false, eval e X.env) :: starEach es X.env := by rfl) (hpl : (backTo pos (starEach es X.env)).any (·.1) = false := by rfl)
    (ht : eval (.Call (.Attribute o m apos) (e :: es) [] pos) X.env = (do
      let ov ← eval o X.env
      standAt apos.atName
      let (f, first) ← holding [ov] (getMethod ov m pl)
      callWith pos f first (backTo pos (starEach (e :: es) X.env)) (backToKw pos (keywordEach [] X.env))) := by rfl) :
    PE X (.Call (.Attribute o m apos) (e :: es) [] pos) (tMeth C m sp [] E0 ta t) := by
  obtain ⟨f, fd, hc, hm, F, b⟩ := c.ex
  exact pe_meth (pl := pl) he hc hm F hr b .nil pass0 ha hst hpl ht
structure DefI (K : PySem.W.Frag) (mg : Str → Option Value) (C : Addr) (x qual : Str) (st : Stmt) (ps : List Str) : Prop where
  ex : ∃ (f : Addr) (fd : FuncData), Mk K C f ∧ mg x = some (.ref C) ∧ Fun K "__init__" qual st f fd ∧ Binds K fd ps []
structure MakC (P : Program) (w : World) (K : PySem.W.Frag) (mg : Str → Option Value) (base : Heap) (k : Nat) (x : Str) (C : Addr) (ps : List Str) (sp : Sp) : Prop where
  ex : ∃ (f : Addr) (fd : FuncData), Mk K C f ∧ mg x = some (.ref C) ∧ FnOk P w K mg base CX0 k f fd ps sp ∧ Binds K fd ps []
theorem DefI.ok {C : Addr} {x qual : Str} {st : Stmt} {ps N : List Str} {k : Nat} {sp : Sp} (d : DefI K mg C x qual st ps) (S : FnScope N ps (defScope st)) (len : ∀ vs H Q E, sp vs H Q E → vs.length = ps.length)
    (hbody : ∀ (f : Addr) (cdv : Value) (A : Around) (outer : List Env) (s : Shared) (H : Hp) (vs : List V) (Q : VK) (E : XK), Room k (A.deeper (envOfC qual (defScope st) s.heap.objs.size f cdv)) → sp vs H Q E →
      ∃ t, PSs (cxOf CX0 P w K mg base N qual (defScope st) f cdv A outer s H E).nox (defBody st) t ∧ t { nx := fun _ H' => Q .non H', rt := Q } (start N vs) H) : MakC P w K mg base (k + 1) x C ps sp := by
  obtain ⟨f, fd, M, hm, F, b⟩ := d.ex
  exact ⟨f, fd, M, hm, F.ok S len (hbody f), b⟩
theorem pe_makC {X : Cx} {k : Nat} {C : Addr} {x : Str} {ps : List Str} {sp : Sp} {e : Expr} {es : List Expr} {t : TA} {p pos : Pos} (c : MakC X.prog X.w X.K X.mg X.base k x C ps sp) (hr : Room (k + 1) X.A) (ha : PA X (e :: es) t) (hg : Gl X x := by rfl)
    (hdb : (x == ("__debug__" : Str)) = false := by decide) (he : starEach (e :: es) X.env = (false, eval e X.env) :: starEach es X.env := by rfl) (hpl : (backTo pos (starEach es X.env)).any (·.1) = false := by rfl) :
    PE X (.Call (.Name x p) (e :: es) [] pos) (tMake C sp [] E0 t) := by
  obtain ⟨f, fd, M, hm, F, b⟩ := c.ex
  exact pe_make M F hr hg hm b .nil pass0 ha hdb he hpl
theorem pe_fldK {X : Cx} {K : PySem.W.Frag} {e : Expr} {f : Str} {pos : Pos} {ta : TE} (h : X.K = K) (he : PE X e ta) (hb : attributeBase e f X.env (eval e X.env) = eval e X.env) : PE X (.Attribute e f pos) (tFld K ta f) := by subst h; exact pe_fld he hb
theorem pe_bm0K' {X : Cx} {K : PySem.W.Frag} {T : String} {name : Str} {id : String} {r : V → List V → Hp → VK → Prop} {o : Expr} {to : TE} {apos cpos : Pos} (h : X.K = K) (pa : PlainAttrs T) (slot : Slot T name id) (hty : typeOf (.builtin id) = pure (.type "method_descriptor")) (hm : MtR X id r) (ho : PE X o to)
    (hbase : attributeBase o name X.env (eval o X.env) = eval o X.env := by rfl) (hline : (apos.endLine == cpos.line) = true := by rfl) : PE X (.Call (.Attribute o name apos) [] [] cpos) (tBM0 K T r to) := by subst h; exact pe_bm0 pa slot hty hm ho hbase hline
end

/-! ### a run of the program's own -/
structure Rn where
  l : List D
  C : Addr
  a : Addr
  dx : Addr
  pT : Addr
  pD : Addr
  pB : Addr
  fuel : Int
  H0 : Hp
def Rn.fl (R : Rn) (n : Int) : List (Str × V) := [("bodies", .ref R.pB), ("fuel", .int R.fuel), ("steps", .int n), ("tasks", .ref R.pT), ("done", .ref R.pD)]
/-- a task as it stands: its kind's name, its expression, its numbers -/
inductive TkR (kb kf : Str) (Ev : Hp → Addr → List Int → Prop) (H : Hp) : V → Tk → Prop
  | mk {a e : Addr} {x : V} {t : Tk} : H a = some (.tup [.str (if t.fin = true then kf else kb), x, .ref e]) → Td H x t.d → Ev H e t.env → TkR kb kf Ev H (.ref a) t
inductive TksR (kb kf : Str) (Ev : Hp → Addr → List Int → Prop) (H : Hp) : List V → List Tk → Prop
  | nil : TksR kb kf Ev H [] []
  | cons {v : V} {vs : List V} {t : Tk} {ts : List Tk} : TkR kb kf Ev H v t → TksR kb kf Ev H vs ts → TksR kb kf Ev H (v :: vs) (t :: ts)
section
variable {kb kf : Str} {Ev : Hp → Addr → List Int → Prop} {H H' : Hp}
theorem TkR.mono {v : V} {t : Tk} (k : Kp H H') (he : ∀ e env, Ev H e env → Ev H' e env) (h : TkR kb kf Ev H v t) : TkR kb kf Ev H' v t := by
  cases h with
  | mk h1 h2 h3 => exact .mk (k _ _ h1) (h2.mono k) (he _ _ h3)
theorem TksR.mono {vs : List V} {ts : List Tk} (k : Kp H H') (he : ∀ e env, Ev H e env → Ev H' e env) (h : TksR kb kf Ev H vs ts) : TksR kb kf Ev H' vs ts := by
  induction h with
  | nil => exact .nil
  | cons a _ ih => exact .cons (a.mono k he) ih
theorem TksR.length {vs : List V} {ts : List Tk} (h : TksR kb kf Ev H vs ts) : vs.length = ts.length := by
  induction h with
  | nil => rfl
  | cons _ _ ih => exact congrArg (· + 1) ih
end
/-- the numbers of a task: a list that stands apart from the run's own -/
def EvP (R : Rn) (H : Hp) (e : Addr) (env : List Int) : Prop := H e = some (.lst (env.map V.int)) ∧ e ≠ R.pT ∧ e ≠ R.pD
structure MR (R : Rn) (H : Hp) (st : MS) : Prop where
  old : Same R.H0 H
  na : R.H0 R.a = none
  nT : R.H0 R.pT = none
  nD : R.H0 R.pD = none
  self : H R.a = some (.ins R.C R.dx (R.fl st.n))
  tasks : ∃ rs, H R.pT = some (.lst rs.reverse) ∧ TksR "begin" "finish" (EvP R) H rs st.ts
  done : H R.pD = some (.lst (st.dn.map V.int).reverse)
  bod : ∃ kvs, H R.pB = some (.dK kvs) ∧ ∀ nm f, lookF R.l nm = some f → ∃ v, valV kvs (.inr nm) = some v ∧ Td H v (bodyD f)
  ne : R.pT ≠ R.pD
/-- all but the run's own three objects stays -/
def Mv (R : Rn) (H H' : Hp) : Prop := ∀ b o, H b = some o → b ≠ R.pT → b ≠ R.pD → b ≠ R.a → H' b = some o
theorem Mv.of {R : Rn} {H H' : Hp} (s : Same H H') : Mv R H H' := fun b o h _ _ _ => s b o h
theorem Mv.trans {R : Rn} {H H1 H2 : Hp} (a : Mv R H H1) (b : Mv R H1 H2) : Mv R H H2 := fun c o h h1 h2 h3 => b c o (a c o h h1 h2 h3) h1 h2 h3
theorem ne_obj {H : Hp} {a b : Addr} {o u : HO} (h : H a = some o) (k : H b = some u) (n : o ≠ u) : a ≠ b := fun z => by
  subst z
  rw [h] at k
  exact n (Option.some.inj k)
section
variable {R : Rn} {H H' : Hp} {st : MS}
theorem MR.kp (m : MR R H st) (f : Mv R H H') : Kp H H' := fun b xs h => by
  obtain ⟨rs, h1, _⟩ := m.tasks
  exact f b _ h (ne_obj h h1 (fun z => by cases z)) (ne_obj h m.done (fun z => by cases z)) (ne_obj h m.self (fun z => by cases z))
theorem MR.ev (m : MR R H st) (f : Mv R H H') (e : Addr) (env : List Int) (h : EvP R H e env) : EvP R H' e env := ⟨f e _ h.1 h.2.1 h.2.2 (ne_obj h.1 m.self (fun z => by cases z)), h.2.1, h.2.2⟩
/-- the state behind a move -/
theorem MR.move (m : MR R H st) (f : Mv R H H') {st' : MS} (hs : H' R.a = some (.ins R.C R.dx (R.fl st'.n))) (ht : ∃ rs, H' R.pT = some (.lst rs.reverse) ∧ TksR "begin" "finish" (EvP R) H' rs st'.ts) (hd : H' R.pD = some (.lst (st'.dn.map V.int).reverse)) : MR R H' st' := by
  refine ⟨fun b o h => ?_, m.na, m.nT, m.nD, hs, ht, hd, ?_, m.ne⟩
  · exact f b o (m.old b o h) (ne_of_none h m.nT) (ne_of_none h m.nD) (ne_of_none h m.na)
  · obtain ⟨kvs, hk, hv⟩ := m.bod
    obtain ⟨rs, h1, _⟩ := m.tasks
    refine ⟨kvs, f _ _ hk (ne_obj hk h1 (fun z => by cases z)) (ne_obj hk m.done (fun z => by cases z)) (ne_obj hk m.self (fun z => by cases z)), fun nm g hg => ?_⟩
    obtain ⟨v, a, b⟩ := hv nm g hg
    exact ⟨v, a, b.mono (m.kp f)⟩
theorem MR.same (m : MR R H st) (s : Same H H') : MR R H' st := by
  obtain ⟨rs, h1, h2⟩ := m.tasks
  exact m.move (.of s) (s _ _ m.self) ⟨rs, s _ _ h1, h2.mono (Same.kp s) (m.ev (.of s))⟩ (s _ _ m.done)
theorem MR.neA (m : MR R H st) : R.a ≠ R.pT ∧ R.a ≠ R.pD := by
  obtain ⟨rs, h1, _⟩ := m.tasks
  exact ⟨ne_obj m.self h1 (fun z => by cases z), ne_obj m.self m.done (fun z => by cases z)⟩
theorem mv_T {o : HO} : Mv R H (upd H R.pT o) := fun b u h h1 _ _ => by rw [upd_ne h1]; exact h
theorem mv_D {o : HO} : Mv R H (upd H R.pD o) := fun b u h _ h2 _ => by rw [upd_ne h2]; exact h
theorem mv_A {o : HO} : Mv R H (upd H R.a o) := fun b u h _ _ h3 => by rw [upd_ne h3]; exact h
/-- a task more -/
theorem MR.push (m : MR R H st) {rs : List V} (h1 : H R.pT = some (.lst rs.reverse)) (h2 : TksR "begin" "finish" (EvP R) H rs st.ts) {x : V} {t : Tk} (hx : TkR "begin" "finish" (EvP R) H x t) : MR R (upd H R.pT (.lst (rs.reverse ++ [x]))) ⟨t :: st.ts, st.dn, st.n⟩ := by
  have k := m.kp (mv_T (R := R) (o := .lst (rs.reverse ++ [x])))
  have e := m.ev (mv_T (R := R) (o := .lst (rs.reverse ++ [x])))
  refine m.move mv_T (by rw [upd_ne m.neA.1]; exact m.self) ⟨x :: rs, by rw [upd_same, List.reverse_cons], .cons (hx.mono k e) (h2.mono k e)⟩ (by rw [upd_ne m.ne.symm]; exact m.done)
/-- the last task taken -/
theorem MR.pop {t : Tk} {ts : List Tk} {dn : List Int} {n : Int} (m : MR R H ⟨t :: ts, dn, n⟩) : ∃ x rs, H R.pT = some (.lst (x :: rs).reverse) ∧ TkR "begin" "finish" (EvP R) H x t ∧ MR R (upd H R.pT (.lst (x :: rs).reverse.dropLast)) ⟨ts, dn, n⟩ := by
  obtain ⟨rs', h1, h2⟩ := m.tasks
  cases h2 with
  | cons hx hr =>
    rename_i x rs
    refine ⟨x, rs, h1, hx, ?_⟩
    have k := m.kp (mv_T (R := R) (o := .lst (x :: rs).reverse.dropLast))
    have e := m.ev (mv_T (R := R) (o := .lst (x :: rs).reverse.dropLast))
    exact m.move mv_T (by rw [upd_ne m.neA.1]; exact m.self) ⟨rs, by rw [upd_same]; congr 2; simp, hr.mono k e⟩ (by rw [upd_ne m.ne.symm]; exact m.done)
/-- a value more -/
theorem MR.pushV (m : MR R H st) (i : Int) : MR R (upd H R.pD (.lst ((st.dn.map V.int).reverse ++ [.int i]))) ⟨st.ts, i :: st.dn, st.n⟩ := by
  obtain ⟨rs, h1, h2⟩ := m.tasks
  have k := m.kp (mv_D (R := R) (o := .lst ((st.dn.map V.int).reverse ++ [.int i])))
  have e := m.ev (mv_D (R := R) (o := .lst ((st.dn.map V.int).reverse ++ [.int i])))
  exact m.move mv_D (by rw [upd_ne m.neA.2]; exact m.self) ⟨rs, by rw [upd_ne m.ne]; exact h1, h2.mono k e⟩ (by rw [upd_same, List.map_cons, List.reverse_cons])
/-- the last value taken -/
theorem MR.popV {ts : List Tk} {i : Int} {dn : List Int} {n : Int} (m : MR R H ⟨ts, i :: dn, n⟩) : MR R (upd H R.pD (.lst (((i :: dn).map V.int).reverse).dropLast)) ⟨ts, dn, n⟩ := by
  obtain ⟨rs, h1, h2⟩ := m.tasks
  have k := m.kp (mv_D (R := R) (o := .lst (((i :: dn).map V.int).reverse).dropLast))
  have e := m.ev (mv_D (R := R) (o := .lst (((i :: dn).map V.int).reverse).dropLast))
  exact m.move mv_D (by rw [upd_ne m.neA.2]; exact m.self) ⟨rs, by rw [upd_ne m.ne]; exact h1, h2.mono k e⟩ (by rw [upd_same]; congr 2; simp)
theorem last_of (x : V) (rs : List V) : (x :: rs).reverse[(x :: rs).reverse.length - 1]? = some x := by
  rw [List.reverse_cons, List.length_append, List.length_reverse, List.length_singleton, Nat.add_sub_cancel, List.getElem?_append_right (by simp)]
  simp
/-- the steps -/
theorem MR.step (m : MR R H st) (n : Int) : MR R (upd H R.a (.ins R.C R.dx (R.fl n))) ⟨st.ts, st.dn, n⟩ := by
  obtain ⟨rs, h1, h2⟩ := m.tasks
  have k := m.kp (mv_A (R := R) (o := .ins R.C R.dx (R.fl n)))
  have e := m.ev (mv_A (R := R) (o := .ins R.C R.dx (R.fl n)))
  exact m.move mv_A upd_same ⟨rs, by rw [upd_ne m.neA.1.symm]; exact h1, h2.mono k e⟩ (by rw [upd_ne m.neA.2.symm]; exact m.done)
end
/-- what the text's class must be -/
structure RunC (K : PySem.W.Frag) (C : Addr) : Prop where
  cls : Cls K C
  bodies : NoAttr K C "bodies"
  fuel : NoAttr K C "fuel"
  steps : NoAttr K C "steps"
  tasks : NoAttr K C "tasks"
  done : NoAttr K C "done"
theorem MR.fld {R : Rn} {H : Hp} {st : MS} {K : PySem.W.Frag} (m : MR R H st) (c : RunC K R.C) {Q : VK} {f : Str} {v : V} (n : NoAttr K R.C f) (l : (R.fl st.n).lookup f = some v) (q : Q v H) :
    ∃ a C dx fs v, V.ref R.a = .ref a ∧ H a = some (.ins C dx fs) ∧ Cls K C ∧ NoAttr K C f ∧ fs.lookup f = some v ∧ Q v H := ⟨_, _, _, _, v, rfl, m.self, c.cls, n, l, q⟩
end K04
namespace K04
open PySem PySem.Spec PyProof.Rows L2
theorem Tds.reverse {H : Hp} : ∀ {vs : List V} {ds : List D}, Tds H vs ds → Tds H vs.reverse ds.reverse
  | _, _, .nil => .nil
  | _, _, .cons a b => by
    rw [List.reverse_cons, List.reverse_cons]
    exact b.reverse.append (.one a)
theorem lookF_take {l : List D} {i : Nat} (hi : i < l.length) (nm : Str) : lookF (l.take (i + 1)) nm = if nm = nameD l[i] then some l[i] else lookF (l.take i) nm := by
  unfold lookF
  rw [List.take_succ_eq_append_getElem hi, List.foldl_append]
  rfl
theorem valV_put2 (kvs : List (Key × V)) (k j : Key) (v : V) : valV (putK kvs k v) j = if j = k then some v else valV kvs j := valV_put kvs k j v
theorem putF_len (f : Str) (v : V) : ∀ fs : List (Str × V), (putF f v fs).length ≤ fs.length + 1
  | [] => Nat.le_refl _
  | (g, x) :: r => by
    unfold putF
    split
    · simp
    · have := putF_len f v r
      simp only [List.length_cons]
      omega
theorem pl {f : Str} {v : V} {fs : List (Str × V)} {k : Nat} (h : fs.length < k) : (putF f v fs).length < k + 1 := by
  have := putF_len f v fs
  omega
theorem pl0 {k : Nat} : ([] : List (Str × V)).length < k + 1 := by simp
theorem le1000 {n k : Nat} (h : n < k) (e : k ≤ 1000 := by decide) : n < 1000 := Nat.lt_of_lt_of_le h e
section
variable {P : Program} {w : World} {K : PySem.W.Frag} {mg : Str → Option Value} {base : Heap} {Ts : List Addr} {Pt C : Addr}

abbrev n_PlainRunner_init : List Str := ["self", "plain", "fuel", "name", "lates", "body"]
theorem sc_PlainRunner___init : FnScope n_PlainRunner_init ["self", "plain", "fuel"] (defScope s_PlainRunner_init) := ⟨rfl, rfl, rfl, by decide +kernel, rfl, by decide +kernel, by decide +kernel⟩
def spInit (C : Addr) : Sp := fun vs H Q _ => ∃ (l : List D) (v : V) (H0 : Hp) (a dx : Addr) (fuel : Int), vs = [.ref a, v, .int fuel] ∧ H = upd (upd H0 dx (.own a)) a (.ins C dx []) ∧ H0 a = none ∧ H0 dx = none ∧ dx ≠ a ∧ Td H0 v (.tup l) ∧ GP l ∧
  ∀ (R : Rn) (H' : Hp), R.l = l → R.C = C → R.a = a → R.fuel = fuel → R.H0 = H0 → MR R H' ⟨[], [], 0⟩ → Q .non H'
theorem ok_init (T : Txt K mg) (rc : RunC K C) (d : DefI K mg C "PlainRunner" "PlainRunner.__init__" s_PlainRunner_init ["self", "plain", "fuel"]) : MakC P w K mg base 1 "PlainRunner" C ["self", "plain", "fuel"] (spInit C) := by
  refine d.ok sc_PlainRunner___init (fun vs H Q E h => ?_) (fun f cdv A outer s H vs Q E hr h => ?_)
  · obtain ⟨l, v, H0, a, dx, fuel, rfl, _⟩ := h
    rfl
  obtain ⟨l, v, H0, a, dx, fuel, rfl, rfl, ha, hdx, hne, hv, G, q⟩ := h
  refine ⟨_, (pss_cons (ps_fld (pv 0) (pe_dc (own := [("name", 3), ("lates", 4), ("body", 5)]) (g := (gTup K 3 (gCons (gName 3) (gCons (gName 4) (gCons (gName 5) gNil))))) (tt := tYes) rfl sc_PlainRunner___init.nd (pi_tup (pv 1)) (blkOk_by (N := n_PlainRunner_init) (sc := defScope s_PlainRunner_init) (by decide +kernel)) (fun _ _ _ _ _ => (pg_tup rfl (pgs_cons (pg_name (i := 3) sc_PlainRunner___init.nd rfl (Or.inl rfl)) (pgs_cons (pg_name (i := 4) sc_PlainRunner___init.nd rfl (Or.inl rfl)) (pgs_cons (pg_name (i := 5) sc_PlainRunner___init.nd rfl (Or.inl rfl)) pgs_nil))))) (fun _ _ _ _ _ => pts_nil) (fun _ _ _ _ _ => (pv 3)) (fun _ _ _ _ _ => (pv 5))) rfl)
      (pss_cons (ps_fld (pv 0) (pv 2) rfl)
      (pss_cons (ps_fld (pv 0) pe_int rfl)
      (pss_cons (ps_fld (pv 0) (pe_lst pa_nil) rfl)
      (pss_one (ps_fld (pv 0) (pe_lst pa_nil) rfl)))))), ?_⟩
  have S0 : Same H0 (upd (upd H0 dx (.own a)) a (.ins C dx [])) := fun b o hb => by
    rw [upd_ne (ne_of_none hb ha), upd_ne (ne_of_none hb hdx)]
    exact hb
  have hself : upd (upd H0 dx (.own a)) a (.ins C dx []) a = some (.ins C dx []) := upd_same
  generalize upd (upd H0 dx (.own a)) a (.ins C dx []) = H at S0 hself
  obtain ⟨p, xs, rfl, hp, _, hx⟩ := hv.tup_inv
  have hl := hx.length
  refine ⟨_, rfl, p, rfl, ⟨_, SqT.of (S0 _ _ hp)⟩, fun D hD => ?_⟩
  refine dc_srv (Srv.tup (P := fun H => SqT K H p xs) fun _ h => h) (fun i H' => Same H H' ∧ ∃ kvs, H' D = some (.dK kvs) ∧ kvs.length ≤ i ∧ ∀ nm f, lookF (l.take i) nm = some f → ∃ v, valV kvs (.inr nm) = some v ∧ Td H' v (bodyD f)) (fun i H' h => SqT.of (h.1 _ _ (S0 _ _ hp))) ?_ ?_ ?_
  · exact ⟨Same.new hD _, [], upd_same, Nat.le_refl _, fun nm f h => nomatch h⟩
  · rintro i x H4 hxi ⟨S4, kvs, hk, hkl, hkv⟩
    obtain ⟨d, hdi, htd⟩ := hx.get hxi
    obtain ⟨hi, hdi'⟩ := List.getElem?_eq_some_iff.mp hdi
    obtain ⟨s', n', b, rfl, _⟩ := G.fn d (List.mem_of_getElem? hdi)
    have hle := G.le
    obtain ⟨y, ys, rfl, hy, _, hys⟩ := (htd.mono (Same.kp (S0.trans S4))).tup_inv
    obtain ⟨y1, ys, rfl, h1, hys⟩ := hys.cons_inv
    obtain ⟨y2, ys, rfl, h2, hys⟩ := hys.cons_inv
    obtain ⟨y3, ys, rfl, h3, hys⟩ := hys.cons_inv
    obtain rfl := hys.nil_inv
    obtain ⟨rfl, _⟩ := h1.str_inv
    refine ⟨_, _, rfl, SqT.of hy, rfl, _, _, rfl, _, _, rfl, _, _, rfl, rfl, rfl, yesI ?_⟩
    have S5 : Same H (upd H4 D (.dK (putK kvs (.inr s') y3))) := Same.mut S4 hD
    have kp5 : Kp H4 (upd H4 D (.dK (putK kvs (.inr s') y3))) := fun b zs hb => by
      rw [upd_ne (ne_obj hb hk (fun z => by cases z))]
      exact hb
    refine ⟨_, rfl, _, rfl, kvs, .inr s', rfl, hk, szlt (by omega), S5, _, upd_same, by have := length_putK kvs (.inr s') y3; omega, fun nm f hf => ?_⟩
    rw [lookF_take hi] at hf
    rw [valV_put2]
    have e : nameD l[i] = s' := by rw [hdi']; rfl
    by_cases c : nm = nameD l[i]
    · rw [if_pos c] at hf
      obtain rfl := Option.some.inj hf
      refine ⟨y3, if_pos (by rw [c, e]), ?_⟩
      rw [hdi']
      exact h3.mono kp5
    · rw [if_neg c] at hf
      obtain ⟨v, h6, h7⟩ := hkv nm f hf
      refine ⟨v, ?_, h7.mono kp5⟩
      rw [if_neg (fun z => c (by rw [e]; injection z))]
      exact h6
  · rintro H4 ⟨S4, kvs, hk, hkl, hkv⟩
    rw [hl, List.take_length] at hkv
    have s4 := S4 _ _ hself
    refine ⟨_, rfl, a, C, dx, _, rfl, s4, rc.cls, rc.bodies, le1000 (k := 1) pl0, ?_⟩
    refine ⟨_, rfl, _, rfl, a, C, dx, _, rfl, upd_same, rc.cls, rc.fuel, le1000 (k := 2) (pl pl0), ?_⟩
    rw [upd_upd]
    refine ⟨_, rfl, a, C, dx, _, rfl, upd_same, rc.cls, rc.steps, le1000 (k := 3) (pl (pl pl0)), ?_⟩
    rw [upd_upd]
    refine ⟨(by show 0 ≤ sizeLine; decide), fun pT hT => ?_⟩
    have neT : pT ≠ a := fun z => by rw [z, upd_same] at hT; cases hT
    refine ⟨_, rfl, a, C, dx, _, rfl, by rw [upd_ne neT.symm]; exact upd_same, rc.cls, rc.tasks, le1000 (k := 4) (pl (pl (pl pl0))), ?_⟩
    refine ⟨(by show 0 ≤ sizeLine; decide), fun pD hD2 => ?_⟩
    have neD : pD ≠ a := fun z => by rw [z, upd_same] at hD2; cases hD2
    rw [upd_ne neD] at hD2
    have neDT : pD ≠ pT := fun z => by rw [z, upd_same] at hD2; cases hD2
    rw [upd_ne neDT, upd_ne neD] at hD2
    refine ⟨_, rfl, a, C, dx, _, rfl, by rw [upd_ne neD.symm]; exact upd_same, rc.cls, rc.done, le1000 (k := 5) (pl (pl (pl (pl pl0)))), ?_⟩
    rw [upd_ne neT] at hT
    have neDD : D ≠ a := ne_obj hk s4 (fun z => by cases z)
    have neTD : D ≠ pT := ne_of_none hk hT
    have neDD2 : D ≠ pD := ne_of_none hk hD2
    have n0 : ∀ {b : Addr}, H4 b = none → H0 b = none := fun {b} hb => by
      cases e : H0 b with
      | none => rfl
      | some o => rw [S4 _ _ (S0 _ _ e)] at hb; cases hb
    refine q ⟨l, C, a, dx, pT, pD, D, fuel, H0⟩ _ rfl rfl rfl rfl rfl ?_
    refine ⟨fun b o hb => ?_, ha, n0 hT, n0 hD2, upd_same, ⟨[], ?_, .nil⟩, ?_, ⟨kvs, ?_, fun nm f hf => ?_⟩, neDT.symm⟩
    · rw [upd_ne (ne_of_none hb ha), upd_ne (ne_of_none hb (n0 hD2)), upd_ne (ne_of_none hb ha), upd_ne (ne_of_none hb (n0 hT)), upd_ne (ne_of_none hb ha)]
      exact S4 _ _ (S0 _ _ hb)
    · show upd _ a _ pT = _
      rw [upd_ne neT, upd_ne neDT.symm, upd_ne neT]
      exact upd_same
    · show upd _ a _ pD = _
      rw [upd_ne neD]
      exact upd_same
    · show upd _ a _ D = _
      rw [upd_ne neDD, upd_ne neDD2, upd_ne neDD, upd_ne neTD, upd_ne neDD]
      exact hk
    · obtain ⟨v, h6, h7⟩ := hkv nm f hf
      refine ⟨v, h6, h7.mono fun b zs hb => ?_⟩
      have n1 : b ≠ a := ne_obj hb s4 (fun z => by cases z)
      rw [upd_ne n1, upd_ne (ne_of_none hb hD2), upd_ne n1, upd_ne (ne_of_none hb hT), upd_ne n1]
      exact hb
end
end K04
namespace K04
open PySem PySem.Spec PyProof.Rows L2
/-- an expression with parts -/
inductive BForm (d : D) : Prop
  | bin (k : Str) (x y : D) : k = "plus" ∨ k = "minus" ∨ k = "times" → d = .tup [.str k, x, y] → BForm d
  | call (nm : Str) (as : List D) : d = .tup [.str "call", .str nm, .tup as] → BForm d
  | ite (u z x y : D) : d = .tup [.str "if", .tup [.str "less", u, z], x, y] → BForm d
theorem ge_form {l : List D} {L : Nat} {d : D} (h : GE l L d) (hl : leafM d = false) : BForm d := by
  cases h with
  | num i _ => cases hl
  | late i _ => cases hl
  | bin k x y hk _ _ => exact .bin k x y hk rfl
  | call nm as f _ _ _ _ => exact .call nm as rfl
  | ite u z x y _ _ _ _ => exact .ite u z x y rfl
theorem seq_len {H : Hp} {v : V} {ds : List D} (h : Td H v (.tup ds)) : ∃ a xs, v = .ref a ∧ H a = some (.tup xs) ∧ xs.length = ds.length := by
  obtain ⟨a, xs, e, ha, _, hx⟩ := h.tup_inv
  exact ⟨a, xs, e, ha, hx.length⟩
section
variable {P : Program} {w : World} {K : PySem.W.Frag} {mg : Str → Option Value} {base : Heap} {Ts : List Addr} {Pt C : Addr}

abbrev n_PlainRunner_begin : List Str := ["self", "one", "lates", "part"]
theorem sc_PlainRunner_begin : FnScope n_PlainRunner_begin ["self", "one", "lates"] (defScope s_PlainRunner_begin) := ⟨rfl, rfl, rfl, by decide +kernel, rfl, by decide +kernel, by decide +kernel⟩
def spBegin (C : Addr) : Sp := fun vs H Q _ => ∃ (R : Rn) (d : D) (env : List Int) (ts : List Tk) (dn : List Int) (n : Int) (one : V) (e : Addr), vs = [.ref R.a, one, .ref e] ∧ R.C = C ∧ MR R H ⟨ts, dn, n⟩ ∧ Td H one d ∧ EvP R H e env ∧
  GE R.l env.length d ∧ d.sz ≤ 400 ∧ ts.length ≤ 200000 ∧ dn.length ≤ 200000 ∧ ∀ H', MR R H' (stepM R.l ⟨⟨false, d, env⟩ :: ts, dn, n⟩) → Q .non H'
theorem ok_begin (T : Txt K mg) (rc : RunC K C) (dm : DefM K C "begin" "PlainRunner.begin" s_PlainRunner_begin ["self", "one", "lates"]) (c_parts_of : Cal P w K mg base 1 "parts_of" ["one"] spPartsOf) : MetC P w K mg base 2 C "begin" ["self", "one", "lates"] (spBegin C) := by
  refine dm.ok sc_PlainRunner_begin (fun vs H Q E h => ?_) (fun f cdv A outer s H vs Q E hr h => ?_)
  · obtain ⟨R, d, env, ts, dn, n, one, e, rfl, _⟩ := h
    rfl
  obtain ⟨R, d, env, ts, dn, n, one, e, rfl, rfl, m, hd, he, ge, hsz, hts, hdn, q⟩ := h
  refine ⟨_, (pss_one (ps_if (pt_cmpR op_eq (pe_ix ix_tup (pv 1) pe_int (fun _ _ => rfl)) pe_str (nomark _)) (pss_one (ps_expr (pe_bm PySem.F.plainAttrs_list PySem.F.slot_list_append PySem.F.type_list_append mt_append (pe_fld (pv 0) rfl) (pa_cons (pe_ix ix_tup (pv 1) pe_int (fun _ _ => rfl)) pa_nil)))) (pss_one (ps_if (pt_cmpR op_eq (pe_ix ix_tup (pv 1) pe_int (fun _ _ => rfl)) pe_str (nomark _)) (pss_one (ps_expr (pe_bm PySem.F.plainAttrs_list PySem.F.slot_list_append PySem.F.type_list_append mt_append (pe_fld (pv 0) rfl) (pa_cons (pe_ix ix_list (pv 2) (pe_ix ix_tup (pv 1) pe_int (fun _ _ => rfl)) (fun _ _ => rfl)) pa_nil)))) (pss_cons (ps_expr (pe_bm PySem.F.plainAttrs_list PySem.F.slot_list_append PySem.F.type_list_append mt_append (pe_fld (pv 0) rfl) (pa_cons (pe_tup (pa_cons pe_str (pa_cons (pv 1) (pa_cons (pv 2) pa_nil)))) pa_nil)))
      (pss_one (ps_for PassesOwn.never rfl (pi_list (pe_revL (pe_ifExp (pt_cmpR op_eq (pe_ix ix_tup (pv 1) pe_int (fun _ _ => rfl)) pe_str (nomark _)) (pe_cal c_parts_of (hr.mono (by omega)) (pa_cons (pe_ix ix_tup (pv 1) pe_int (fun _ _ => rfl)) pa_nil)) (pe_cal c_parts_of (hr.mono (by omega)) (pa_cons (pv 1) pa_nil))))) (pg_name (i := 3) sc_PlainRunner_begin.nd rfl (Or.inl rfl)) (pss_one (ps_expr (pe_bm PySem.F.plainAttrs_list PySem.F.slot_list_append PySem.F.type_list_append mt_append (pe_fld (pv 0) rfl) (pa_cons (pe_tup (pa_cons pe_str (pa_cons (pv 3) (pa_cons (pv 2) pa_nil)))) pa_nil))))))))))), ?_⟩
  cases hlf : leafM d with
  | true =>
    cases ge with
    | num i hi =>
      obtain ⟨a, xs0, rfl, ha, _, hx0⟩ := hd.tup_inv
      obtain ⟨x1, xs, rfl, hk, hx⟩ := hx0.cons_inv
      obtain ⟨x2, xs, rfl, hx2, hx⟩ := hx.cons_inv
      obtain rfl := hx.nil_inv
      obtain ⟨rfl, _⟩ := hk.str_inv
      obtain rfl := hx2.int_inv
      refine ⟨_, rfl, _, _, _, _, rfl, rfl, SqT.of (ha), at0, rfl, _, rfl, ?_⟩
      refine iteT ?_
      refine ⟨_, rfl, _, _, _, _, _, rfl, (m).self, rc.cls, rc.done, rfl, .inl ⟨rfl, _, SqL.of m.done⟩, _, rfl, _, _, _, _, rfl, rfl, SqT.of (ha), at1, _, _, _, rfl, rfl, m.done, ?_, ?_⟩
      · rw [List.length_reverse, List.length_map]
        exact szlt (by show dn.length < 1000000; omega)
      · exact q _ (m.pushV i)
    | late i hi =>
      obtain ⟨a, xs0, rfl, ha, _, hx0⟩ := hd.tup_inv
      obtain ⟨x1, xs, rfl, hk, hx⟩ := hx0.cons_inv
      obtain ⟨x2, xs, rfl, hx2, hx⟩ := hx.cons_inv
      obtain rfl := hx.nil_inv
      obtain ⟨rfl, _⟩ := hk.str_inv
      obtain rfl := hx2.int_inv
      refine ⟨_, rfl, _, _, _, _, rfl, rfl, SqT.of (ha), at0, rfl, _, rfl, ?_⟩
      refine iteF ?_
      refine ⟨_, rfl, _, _, _, _, rfl, rfl, SqT.of (ha), at0, rfl, _, rfl, ?_⟩
      refine iteT ?_
      have hat : atI (env.map V.int) (i : Int) = some (.int (env.getD i 0)) := by
        refine atI_nat ?_
        rw [List.getElem?_map, List.getElem?_eq_getElem hi, List.getD_eq_getElem?_getD, List.getElem?_eq_getElem hi]
        rfl
      refine ⟨_, rfl, _, _, _, _, _, rfl, (m).self, rc.cls, rc.done, rfl, .inl ⟨rfl, _, SqL.of m.done⟩, _, rfl, _, rfl, _, _, _, _, rfl, rfl, SqT.of (ha), at1, _, _, _, _, rfl, rfl, SqL.of he.1, hat, _, _, _, rfl, rfl, m.done, ?_, ?_⟩
      · rw [List.length_reverse, List.length_map]
        exact szlt (by show dn.length < 1000000; omega)
      · exact q _ (m.pushV _)
    | bin _ _ _ _ _ _ => cases hlf
    | call _ _ _ _ _ _ _ => cases hlf
    | ite _ _ _ _ _ _ _ _ => cases hlf
  | false =>
    have hst : stepM R.l ⟨⟨false, d, env⟩ :: ts, dn, n⟩ = ⟨(partsM d).map (fun p => ⟨false, p, env⟩) ++ ⟨true, d, env⟩ :: ts, dn, n⟩ := by
      show (if leafM d = true then _ else _) = _
      rw [if_neg (by rw [hlf]; exact Bool.false_ne_true)]
    rw [hst] at q
    obtain ⟨_, hps⟩ := ge_parts ge hlf
    have hpl := szs_len (partsM d)
    -- the parts are begun, the last first
    have loop : ∀ (H1 : Hp) (p : Addr) (xs : List V), MR R H1 ⟨⟨true, d, env⟩ :: ts, dn, n⟩ → EvP R H1 e env → H1 p = some (.lst xs) → Tds H1 xs (partsM d) → ∀ p2, H1 p2 = none →
        ∃ W : Nat → Nat → L2.St → Hp → Prop, (∃ m, W 0 m [some (.ref R.a), some one, some (.ref e), none] (upd H1 p2 (.lst xs.reverse))) ∧ ∀ i m σ H, W i m σ H →
          ((Itl K p2).stop i H ∧ Q .non H) ∨ ((Itl K p2).go i H ∧ ∃ N : L2.St → Hp → Prop, (∀ σ' H', N σ' H' → ∃ m', m' < m ∧ W (i + 1) m' σ' H') ∧ ∀ x H', (Itl K p2).yld i H x H' → gName 3 x σ H' fun σ2 H2 =>
            tDrop (tBM K "list" rAppend (tFld K (tVar 0) "tasks") (tCons (tTup (tCons (tC (.str "begin")) (tCons (tVar 3) (tCons (tVar 2) tNil)))) tNil)) { nx := N, rt := Q, ct := N, bk := fun _ H' => Q .non H' } σ2 H2) := by
      intro H1 p xs m1 e1 hp hx p2 hp2
      obtain ⟨rs1, t1, _⟩ := m1.tasks
      have hxr := hx.reverse
      have n1 : p2 ≠ R.pT := (ne_of_none t1 hp2).symm
      have n2 : p2 ≠ R.pD := (ne_of_none m1.done hp2).symm
      have S1 : Same H1 (upd H1 p2 (.lst xs.reverse)) := Same.new hp2 _
      refine for_srv (D := { nx := fun _ H' => Q .non H', rt := Q }) (Srv.lst (P := fun H => SqL K H p2 xs.reverse) fun _ h => h) (fun i σ H' => (∃ o, σ = [some (.ref R.a), some one, some (.ref e), o]) ∧ H' p2 = some (.lst xs.reverse) ∧ Tds H' xs.reverse (partsM d).reverse ∧ EvP R H' e env ∧
        MR R H' ⟨(((partsM d).reverse.take i).reverse).map (fun p => ⟨false, p, env⟩) ++ ⟨true, d, env⟩ :: ts, dn, n⟩) (fun i σ H' h => SqL.of h.2.1) ?_ ?_ ?_
      · exact ⟨⟨_, rfl⟩, upd_same, hxr.mono (Same.kp S1), ⟨S1 _ _ e1.1, e1.2⟩, m1.same S1⟩
      · rintro i x σ H2 hxi ⟨⟨o, rfl⟩, hp2', hx2, e2, m2⟩
        obtain ⟨d', hdi, htd⟩ := hx2.get hxi
        obtain ⟨hi, hdi'⟩ := List.getElem?_eq_some_iff.mp hdi
        obtain ⟨rs, t2, ht2⟩ := m2.tasks
        refine ⟨_, rfl, _, _, _, _, _, rfl, (m2).self, rc.cls, rc.tasks, rfl, .inl ⟨rfl, _, SqL.of t2⟩, _, rfl, _, rfl, (by show 3 ≤ sizeLine; decide), fun p3 hp3 => ?_⟩
        have S3 : Same H2 (upd H2 p3 (.tup [.str "begin", x, .ref e])) := Same.new hp3 _
        have m3 := m2.same S3
        have t3 := S3 _ _ t2
        have ht3 := ht2.mono (Same.kp S3) (m2.ev (.of S3))
        have hlen := ht2.length
        have hm4 := m3.push t3 ht3 (x := .ref p3) (t := ⟨false, d', env⟩) (.mk upd_same (htd.mono (Same.kp S3)) ⟨S3 _ _ e2.1, e2.2⟩)
        refine ⟨_, _, _, rfl, rfl, t3, ?_, ⟨_, rfl⟩, ?_, ?_, ?_, ?_⟩
        · rw [List.length_reverse, hlen]
          simp only [List.length_append, List.length_map, List.length_reverse, List.length_take, List.length_cons]
          exact szlt (by omega)
        · rw [upd_ne n1]
          exact S3 _ _ hp2'
        · exact hx2.mono fun b zs hb => by
            rw [upd_ne (ne_obj (S3 _ _ hb) t3 (fun z => by cases z))]
            exact S3 _ _ hb
        · refine ⟨?_, e2.2⟩
          rw [upd_ne e2.2.1]
          exact S3 _ _ e2.1
        · rw [List.take_succ_eq_append_getElem hi, List.reverse_append, hdi']
          exact hm4
      · rintro σ H2 ⟨⟨o, rfl⟩, hp2', hx2, e2, m2⟩
        have hl : xs.reverse.length = (partsM d).reverse.length := hxr.length
        rw [hl, List.take_length, List.reverse_reverse] at m2
        exact q H2 m2
    obtain ⟨rs, t0, ht0⟩ := m.tasks
    have hrl := ht0.length
    -- the task that waits
    have wait : ∀ p, H p = none → MR R (upd (upd H p (.tup [.str "finish", one, .ref e])) R.pT (.lst (rs.reverse ++ [.ref p]))) ⟨⟨true, d, env⟩ :: ts, dn, n⟩ ∧ EvP R (upd (upd H p (.tup [.str "finish", one, .ref e])) R.pT (.lst (rs.reverse ++ [.ref p]))) e env ∧
        Td (upd (upd H p (.tup [.str "finish", one, .ref e])) R.pT (.lst (rs.reverse ++ [.ref p]))) one d ∧ upd H p (.tup [.str "finish", one, .ref e]) R.pT = some (.lst rs.reverse) := by
      intro p hp
      have S3 : Same H (upd H p (.tup [.str "finish", one, .ref e])) := Same.new hp _
      have m3 := m.same S3
      have t3 := S3 _ _ t0
      have ht3 := ht0.mono (Same.kp S3) (m.ev (.of S3))
      have hm4 := m3.push t3 ht3 (x := .ref p) (t := ⟨true, d, env⟩) (.mk upd_same (hd.mono (Same.kp S3)) ⟨S3 _ _ he.1, he.2⟩)
      refine ⟨hm4, ⟨?_, he.2⟩, hd.mono fun b zs hb => ?_, t3⟩
      · rw [upd_ne he.2.1]
        exact S3 _ _ he.1
      · rw [upd_ne (ne_obj (S3 _ _ hb) t3 (fun z => by cases z))]
        exact S3 _ _ hb
    have hlt : rs.reverse.length < sizeLine := by
      rw [List.length_reverse, hrl]
      exact szlt (by show ts.length < 1000000; omega)
    cases ge_form ge hlf with
    | bin k x y hk e0 =>
      subst e0
      obtain ⟨a, xs0, rfl, ha, _, hx0⟩ := hd.tup_inv
      obtain ⟨x1, xs, rfl, hk1, hx⟩ := hx0.cons_inv
      obtain ⟨rfl, _⟩ := hk1.str_inv
      have e1 : decide (V.str k = V.str "number") = false := by rcases hk with rfl | rfl | rfl <;> decide
      have e2 : decide (V.str k = V.str "late") = false := by rcases hk with rfl | rfl | rfl <;> decide
      have e3 : decide (V.str k = V.str "if") = false := by rcases hk with rfl | rfl | rfl <;> decide
      have e4 : partsD (.tup [.str k, x, y]) = some (partsM (.tup [.str k, x, y])) := by rcases hk with rfl | rfl | rfl <;> rfl
      refine ⟨_, rfl, _, _, _, _, rfl, rfl, SqT.of (ha), at0, rfl, _, rfl, ?_⟩
      rw [e1]
      refine iteF ?_
      refine ⟨_, rfl, _, _, _, _, rfl, rfl, SqT.of (ha), at0, rfl, _, rfl, ?_⟩
      rw [e2]
      refine iteF ?_
      refine ⟨_, rfl, _, _, _, _, _, rfl, (m).self, rc.cls, rc.tasks, rfl, .inl ⟨rfl, _, SqL.of t0⟩, _, rfl, _, rfl, (by show 3 ≤ sizeLine; decide), fun p hp => ?_⟩
      obtain ⟨m4, ev4, td4, t3⟩ := wait p hp
      refine ⟨_, _, _, rfl, rfl, t3, hlt, ?_⟩
      obtain ⟨_, _, e5, ha4, _⟩ := seq_len td4
      obtain ⟨a5, xs5, e5, ha5, _, hx5⟩ := td4.tup_inv
      obtain rfl : a = a5 := by injection e5
      obtain ⟨y1, ys, rfl, hy1, _⟩ := hx5.cons_inv
      obtain ⟨rfl, _⟩ := hy1.str_inv
      refine ⟨_, rfl, _, _, _, _, rfl, rfl, SqT.of (ha5), at0, rfl, _, rfl, ?_⟩
      rw [e3]
      refine iteF ?_
      refine ⟨_, rfl, _, _, _, rfl, td4, e4, fun H5 p5 zs5 S5 hp5 hz5 hd5 => ?_⟩
      refine ⟨_, _, rfl, SqL.of hz5, fun p6 hp6 => ?_⟩
      exact ⟨p6, rfl, ⟨_, SqL.of upd_same⟩, loop H5 p5 zs5 (m4.same S5) ⟨S5 _ _ ev4.1, ev4.2⟩ hz5 hd5 p6 hp6⟩
    | call nm as e0 =>
      subst e0
      obtain ⟨a, xs0, rfl, ha, _, hx0⟩ := hd.tup_inv
      obtain ⟨x1, xs, rfl, hk1, hx⟩ := hx0.cons_inv
      obtain ⟨rfl, _⟩ := hk1.str_inv
      have e1 : decide (V.str "call" = V.str "number") = false := by decide
      have e2 : decide (V.str "call" = V.str "late") = false := by decide
      have e3 : decide (V.str "call" = V.str "if") = false := by decide
      have e4 : partsD (.tup [.str "call", .str nm, .tup as]) = some (partsM (.tup [.str "call", .str nm, .tup as])) := rfl
      refine ⟨_, rfl, _, _, _, _, rfl, rfl, SqT.of (ha), at0, rfl, _, rfl, ?_⟩
      rw [e1]
      refine iteF ?_
      refine ⟨_, rfl, _, _, _, _, rfl, rfl, SqT.of (ha), at0, rfl, _, rfl, ?_⟩
      rw [e2]
      refine iteF ?_
      refine ⟨_, rfl, _, _, _, _, _, rfl, (m).self, rc.cls, rc.tasks, rfl, .inl ⟨rfl, _, SqL.of t0⟩, _, rfl, _, rfl, (by show 3 ≤ sizeLine; decide), fun p hp => ?_⟩
      obtain ⟨m4, ev4, td4, t3⟩ := wait p hp
      refine ⟨_, _, _, rfl, rfl, t3, hlt, ?_⟩
      obtain ⟨_, _, e5, ha4, _⟩ := seq_len td4
      obtain ⟨a5, xs5, e5, ha5, _, hx5⟩ := td4.tup_inv
      obtain rfl : a = a5 := by injection e5
      obtain ⟨y1, ys, rfl, hy1, _⟩ := hx5.cons_inv
      obtain ⟨rfl, _⟩ := hy1.str_inv
      refine ⟨_, rfl, _, _, _, _, rfl, rfl, SqT.of (ha5), at0, rfl, _, rfl, ?_⟩
      rw [e3]
      refine iteF ?_
      refine ⟨_, rfl, _, _, _, rfl, td4, e4, fun H5 p5 zs5 S5 hp5 hz5 hd5 => ?_⟩
      refine ⟨_, _, rfl, SqL.of hz5, fun p6 hp6 => ?_⟩
      exact ⟨p6, rfl, ⟨_, SqL.of upd_same⟩, loop H5 p5 zs5 (m4.same S5) ⟨S5 _ _ ev4.1, ev4.2⟩ hz5 hd5 p6 hp6⟩
    | ite u z x y e0 =>
      subst e0
      obtain ⟨a, xs0, rfl, ha, _, hx0⟩ := hd.tup_inv
      obtain ⟨x1, xs, rfl, hk1, hx⟩ := hx0.cons_inv
      obtain ⟨rfl, _⟩ := hk1.str_inv
      have e1 : decide (V.str "if" = V.str "number") = false := by decide
      have e2 : decide (V.str "if" = V.str "late") = false := by decide
      have e3 : decide (V.str "if" = V.str "if") = true := by decide
      have e4 : partsD (.tup [.str "less", u, z]) = some (partsM (.tup [.str "if", .tup [.str "less", u, z], x, y])) := rfl
      refine ⟨_, rfl, _, _, _, _, rfl, rfl, SqT.of (ha), at0, rfl, _, rfl, ?_⟩
      rw [e1]
      refine iteF ?_
      refine ⟨_, rfl, _, _, _, _, rfl, rfl, SqT.of (ha), at0, rfl, _, rfl, ?_⟩
      rw [e2]
      refine iteF ?_
      refine ⟨_, rfl, _, _, _, _, _, rfl, (m).self, rc.cls, rc.tasks, rfl, .inl ⟨rfl, _, SqL.of t0⟩, _, rfl, _, rfl, (by show 3 ≤ sizeLine; decide), fun p hp => ?_⟩
      obtain ⟨m4, ev4, td4, t3⟩ := wait p hp
      refine ⟨_, _, _, rfl, rfl, t3, hlt, ?_⟩
      obtain ⟨_, _, e5, ha4, _⟩ := seq_len td4
      obtain ⟨a5, xs5, e5, ha5, _, hx5⟩ := td4.tup_inv
      obtain rfl : a = a5 := by injection e5
      obtain ⟨y1, ys, rfl, hy1, hx5⟩ := hx5.cons_inv
      obtain ⟨y2, ys, rfl, hy2, _⟩ := hx5.cons_inv
      obtain ⟨rfl, _⟩ := hy1.str_inv
      refine ⟨_, rfl, _, _, _, _, rfl, rfl, SqT.of (ha5), at0, rfl, _, rfl, ?_⟩
      rw [e3]
      refine iteT ?_
      refine ⟨_, rfl, _, _, _, _, rfl, rfl, SqT.of (ha5), at1, _, _, _, rfl, hy2, e4, fun H5 p5 zs5 S5 hp5 hz5 hd5 => ?_⟩
      refine ⟨_, _, rfl, SqL.of hz5, fun p6 hp6 => ?_⟩
      exact ⟨p6, rfl, ⟨_, SqL.of upd_same⟩, loop H5 p5 zs5 (m4.same S5) ⟨S5 _ _ ev4.1, ev4.2⟩ hz5 hd5 p6 hp6⟩
end
end K04
namespace K04
open PySem PySem.Spec PyProof.Rows L2
theorem drop_cons_getD : ∀ (dn : List Int) (i : Nat), i < dn.length → dn.drop i = dn.getD i 0 :: dn.drop (i + 1)
  | x :: r, 0, _ => rfl
  | x :: r, i + 1, h => drop_cons_getD r i (by simpa using h)
section
variable {P : Program} {w : World} {K : PySem.W.Frag} {mg : Str → Option Value} {base : Heap} {Ts : List Addr} {Pt C : Addr}

abbrev n_PlainRunner_finish : List Str := ["self", "one", "lates", "some", "second", "first", "part"]
theorem sc_PlainRunner_finish : FnScope n_PlainRunner_finish ["self", "one", "lates"] (defScope s_PlainRunner_finish) := ⟨rfl, rfl, rfl, by decide +kernel, rfl, by decide +kernel, by decide +kernel⟩
def spFinish (C : Addr) : Sp := fun vs H Q _ => ∃ (R : Rn) (d : D) (env : List Int) (ts : List Tk) (dn : List Int) (n : Int) (one : V) (e : Addr), vs = [.ref R.a, one, .ref e] ∧ R.C = C ∧ MR R H ⟨ts, dn, n⟩ ∧ Td H one d ∧ EvP R H e env ∧
  GE R.l env.length d ∧ leafM d = false ∧ (partsM d).length ≤ dn.length ∧ (∀ i ∈ dn, InV i) ∧ ts.length ≤ 200000 ∧ dn.length ≤ 200000 ∧ ∀ H', MR R H' (stepM R.l ⟨⟨true, d, env⟩ :: ts, dn, n⟩) → Q .non H'
theorem ok_finish (T : Txt K mg) (rc : RunC K C) (dm : DefM K C "finish" "PlainRunner.finish" s_PlainRunner_finish ["self", "one", "lates"]) (c_worked : Cal P w K mg base 1 "worked" ["kind", "one", "other"] spWorked) : MetC P w K mg base 2 C "finish" ["self", "one", "lates"] (spFinish C) := by
  refine dm.ok sc_PlainRunner_finish (fun vs H Q E h => ?_) (fun f cdv A outer s H vs Q E hr h => ?_)
  · obtain ⟨R, d, env, ts, dn, n, one, e, rfl, _⟩ := h
    rfl
  obtain ⟨R, d, env, ts, dn, n, one, e, rfl, rfl, m, hd, he, ge, hlf, hk, hdi, hts, hdn, q⟩ := h
  refine ⟨_, (pss_cons (ps_fld (pv 0) (pe_op op_add (pe_fld (pv 0) rfl) pe_int) rfl)
      (pss_cons (ps_if (pt_cmpR op_eq (pe_ix ix_tup (pv 1) pe_int (fun _ _ => rfl)) pe_str (nomark _)) (pss_cons (ps_set (i := 3) sc_PlainRunner_finish.nd rfl (Or.inl rfl) (pe_revL (pe_lc (own := [("part", 6)]) (g := (gName 6)) (tt := tYes) rfl sc_PlainRunner_finish.nd (pi_tup (pe_ix ix_tup (pv 1) pe_int (fun _ _ => rfl))) (blkOk_by (N := n_PlainRunner_finish) (sc := defScope s_PlainRunner_finish) (by decide +kernel)) (fun _ _ _ _ _ => (pg_name (i := 6) sc_PlainRunner_finish.nd rfl (Or.inl rfl))) (fun _ _ _ _ _ => pts_nil) (fun _ _ _ _ _ => (pe_bm0K' (K := K) rfl PySem.F.plainAttrs_list PySem.F.slot_list_pop PySem.F.type_list_pop mt_pop (pe_fldK (K := K) rfl (pv 0) rfl))))))
      (pss_cons (ps_expr (pe_bm PySem.F.plainAttrs_list PySem.F.slot_list_append PySem.F.type_list_append mt_append (pe_fld (pv 0) rfl) (pa_cons (pe_tup (pa_cons pe_str (pa_cons (pe_dget (hu_of hr) (pe_fld (pv 0) rfl) (pe_ix ix_tup (pv 1) pe_int (fun _ _ => rfl)) (fun _ _ => rfl)) (pa_cons (pv 3) pa_nil)))) pa_nil)))
      (pss_one ps_retN))) pss_nil)
      (pss_cons (ps_par (i := 4) (j := 5) rfl sc_PlainRunner_finish.nd rfl rfl (by decide) rfl rfl (pa_cons (pe_bm0 PySem.F.plainAttrs_list PySem.F.slot_list_pop PySem.F.type_list_pop mt_pop (pe_fld (pv 0) rfl)) (pa_cons (pe_bm0 PySem.F.plainAttrs_list PySem.F.slot_list_pop PySem.F.type_list_pop mt_pop (pe_fld (pv 0) rfl)) pa_nil)) (by with_unfolding_all rfl))
      (pss_one (ps_if (pt_cmpR op_eq (pe_ix ix_tup (pv 1) pe_int (fun _ _ => rfl)) pe_str (nomark _)) (pss_one (ps_expr (pe_bm PySem.F.plainAttrs_list PySem.F.slot_list_append PySem.F.type_list_append mt_append (pe_fld (pv 0) rfl) (pa_cons (pe_tup (pa_cons pe_str (pa_cons (pe_ifExp (pt_cmpR op_lt (pv 5) (pv 4) (nomark _)) (pe_ix ix_tup (pv 1) pe_int (fun _ _ => rfl)) (pe_ix ix_tup (pv 1) pe_int (fun _ _ => rfl))) (pa_cons (pv 2) pa_nil)))) pa_nil)))) (pss_one (ps_expr (pe_bm PySem.F.plainAttrs_list PySem.F.slot_list_append PySem.F.type_list_append mt_append (pe_fld (pv 0) rfl) (pa_cons (pe_cal c_worked (hr.mono (by omega)) (pa_cons (pe_ix ix_tup (pv 1) pe_int (fun _ _ => rfl)) (pa_cons (pv 5) (pa_cons (pv 4) pa_nil)))) pa_nil))))))))), ?_⟩
  refine ⟨_, rfl, _, _, _, _, _, rfl, (m).self, rc.cls, rc.steps, rfl, _, _, rfl, rfl, _, rfl, _, _, _, _, rfl, m.self, rc.cls, rc.steps, (by show 5 < 1000; decide), ?_⟩
  have m1 : MR R (upd H R.a (.ins R.C R.dx (R.fl (n + 1)))) ⟨ts, dn, n + 1⟩ := m.step (n + 1)
  have kp1 := m.kp (mv_A (R := R) (o := .ins R.C R.dx (R.fl (n + 1))))
  have he1 := m.ev (mv_A (R := R) (o := .ins R.C R.dx (R.fl (n + 1)))) e env he
  have hd1 := hd.mono kp1
  have hH1 : upd H R.a (.ins R.C R.dx (putF "steps" (.int (n + 1)) (R.fl n))) = upd H R.a (.ins R.C R.dx (R.fl (n + 1))) := rfl
  show tSeq _ _ _ _ (upd H R.a (.ins R.C R.dx (putF "steps" (.int (n + 1)) (R.fl n))))
  rw [hH1]
  generalize upd H R.a (.ins R.C R.dx (R.fl (n + 1))) = H1 at m1 kp1 he1 hd1
  clear hH1
  have bin2 : ∀ {L : Nat} {d : D}, (partsM d).length = 2 → (partsM d).length ≤ dn.length → ∃ i j dn2, dn = i :: j :: dn2 := fun h2 h3 => by
    rw [h2] at h3
    match dn, h3 with
    | i :: j :: dn2, _ => exact ⟨i, j, dn2, rfl⟩
  cases ge with
  | num i _ => cases hlf
  | late i _ => cases hlf
  | call nm as fn h1 h2 h3 h4 =>
    have hk : as.length ≤ dn.length := hk
    obtain ⟨a, xs0, rfl, ha, _, hx0⟩ := hd1.tup_inv
    obtain ⟨x1, xs, rfl, hk1, hx⟩ := hx0.cons_inv
    obtain ⟨x2, xs, rfl, hx2, hx⟩ := hx.cons_inv
    obtain ⟨x3, xs, rfl, hx3, hx⟩ := hx.cons_inv
    obtain rfl := hx.nil_inv
    obtain ⟨rfl, _⟩ := hk1.str_inv
    obtain ⟨rfl, _⟩ := hx2.str_inv
    obtain ⟨b, zs, rfl, hb, _, hz⟩ := hx3.tup_inv
    have hzl := hz.length
    refine ⟨_, rfl, _, _, _, _, rfl, rfl, SqT.of (ha), at0, rfl, _, rfl, ?_⟩
    refine iteT ?_
    refine ⟨_, rfl, _, _, _, _, rfl, rfl, SqT.of (ha), at2, b, rfl, ⟨_, SqT.of hb⟩, fun D hD => ?_⟩
    have nD1 : D ≠ R.pD := (ne_of_none m1.done hD).symm
    refine lc_srv (Srv.tup (P := fun H => SqT K H b zs) fun _ h => h) (fun i H' => (∀ c o, H1 c = some o → c ≠ R.pD → H' c = some o) ∧ H' R.pD = some (.lst ((dn.drop i).map V.int).reverse) ∧ H' D = some (.lst ((dn.take i).map V.int))) (fun i H' h => SqT.of (h.1 _ _ hb (ne_obj hb m1.done (fun z => by cases z)))) ?_ ?_ ?_
    · refine ⟨fun c o hc _ => Same.new hD _ c o hc, ?_, upd_same⟩
      rw [upd_ne nD1.symm]
      exact m1.done
    · rintro i x H2 hxi ⟨F, hp, hDl⟩
      have hi : i < dn.length := by
        have := (List.getElem?_eq_some_iff.mp hxi).1
        omega
      have hself : H2 R.a = some (.ins R.C R.dx (R.fl (n + 1))) := F _ _ m1.self m1.neA.2
      rw [drop_cons_getD dn i hi] at hp
      refine ⟨rfl, yesI ?_⟩
      refine ⟨_, rfl, _, _, _, _, _, rfl, hself, rc.cls, rc.done, rfl, .inl ⟨rfl, _, SqL.of hp⟩, _, _, _, rfl, rfl, hp, last_of _ _, (dn.take i).map V.int, ?_, ?_, ?_, ?_, ?_⟩
      · rw [upd_ne nD1]
        exact hDl
      · rw [List.length_map, List.length_take]
        exact szlt (by omega)
      · intro c o hc hne
        have hcD : c ≠ D := ne_of_none hc hD
        rw [upd_ne hcD, upd_ne hne]
        exact F c o hc hne
      · rw [upd_ne nD1.symm, upd_same]
        congr 2
        simp
      · rw [upd_same, List.take_succ_eq_append_getElem hi, List.map_append]
        congr 3
        rw [List.getD_eq_getElem?_getD, List.getElem?_eq_getElem hi]
        rfl
    · rintro H2 ⟨F, hp, hDl⟩
      rw [hzl] at hp hDl
      have mv2 : Mv R H1 H2 := fun c o hc _ h2 _ => F c o hc h2
      obtain ⟨rs, t1, ht1⟩ := m1.tasks
      have m2 : MR R H2 ⟨ts, dn.drop as.length, n + 1⟩ := m1.move mv2 (F _ _ m1.self m1.neA.2) ⟨rs, F _ _ t1 m1.ne, ht1.mono (m1.kp mv2) (m1.ev mv2)⟩ hp
      refine ⟨_, _, rfl, SqL.of hDl, fun p3 hp3 => ?_⟩
      have S3 : Same H2 (upd H2 p3 (.lst ((dn.take as.length).map V.int).reverse)) := Same.new hp3 _
      have m3 := m2.same S3
      have n3 : p3 ≠ R.pT := by
        obtain ⟨_, z, _⟩ := m2.tasks
        exact (ne_of_none z hp3).symm
      have n3' : p3 ≠ R.pD := (ne_of_none m2.done hp3).symm
      have ev3 : EvP R (upd H2 p3 (.lst ((dn.take as.length).map V.int).reverse)) p3 (dn.take as.length).reverse := ⟨by rw [upd_same, List.map_reverse], n3, n3'⟩
      obtain ⟨rs3, t3, ht3⟩ := m3.tasks
      obtain ⟨kvs, hB, hkv⟩ := m3.bod
      obtain ⟨v, hv1, hv2⟩ := hkv nm fn h1
      have ha3 := S3 _ _ (F _ _ ha (ne_obj ha m1.done (fun z => by cases z)))
      have hrl := ht3.length
      refine ⟨_, rfl, _, _, _, _, _, rfl, (m3).self, rc.cls, rc.tasks, rfl, .inl ⟨rfl, _, SqL.of t3⟩, _, rfl, _, _, _, _, _, rfl, (m3).self, rc.cls, rc.bodies, rfl, _, rfl, _, _, _, _, rfl, rfl, SqT.of (ha3), at1, R.pB, v, rfl, ?_, _, rfl, (by show 3 ≤ sizeLine; decide), fun p4 hp4 => ?_⟩
      · rw [← hv1]
        exact DGet.k (k := .inr nm) hB
      have S4 : Same (upd H2 p3 (.lst ((dn.take as.length).map V.int).reverse)) (upd (upd H2 p3 (.lst ((dn.take as.length).map V.int).reverse)) p4 (.tup [.str "begin", v, .ref p3])) := Same.new hp4 _
      have m4 := m3.same S4
      have t4 := S4 _ _ t3
      have ht4 := ht3.mono (Same.kp S4) (m3.ev (.of S4))
      refine ⟨_, _, _, rfl, rfl, t4, ?_, ?_⟩
      · rw [List.length_reverse, hrl]
        exact szlt (by show ts.length < 1000000; omega)
      · refine q _ ?_
        have hbf : bodyF R.l nm = bodyD fn := by
          unfold bodyF
          rw [h1]
          rfl
        have e1 : stepM R.l ⟨⟨true, .tup [.str "call", .str nm, .tup as], env⟩ :: ts, dn, n⟩ = ⟨⟨false, bodyD fn, (dn.take as.length).reverse⟩ :: ts, dn.drop as.length, n + 1⟩ := by
          rw [← hbf]
          rfl
        rw [e1]
        exact m4.push t4 ht4 (x := .ref p4) (t := ⟨false, bodyD fn, (dn.take as.length).reverse⟩) (.mk upd_same (hv2.mono (Same.kp S4)) ⟨S4 _ _ ev3.1, ev3.2⟩)
  | bin k x y hkk hx hy =>
    have e0 : (partsM (.tup [.str k, x, y])).length = 2 := by rcases hkk with rfl | rfl | rfl <;> rfl
    obtain ⟨i, j, dn2, rfl⟩ := bin2 (L := 0) e0 hk
    obtain ⟨a, xs0, rfl, ha, _, hx0⟩ := hd1.tup_inv
    obtain ⟨x1, xs, rfl, hk1, hx⟩ := hx0.cons_inv
    obtain ⟨rfl, _⟩ := hk1.str_inv
    have e1 : decide (V.str k = V.str "call") = false := by rcases hkk with rfl | rfl | rfl <;> decide
    have e2 : decide (V.str k = V.str "if") = false := by rcases hkk with rfl | rfl | rfl <;> decide
    have e3 : stepM R.l ⟨⟨true, .tup [.str k, x, y], env⟩ :: ts, i :: j :: dn2, n⟩ = ⟨ts, workedM k j i :: dn2, n + 1⟩ := by rcases hkk with rfl | rfl | rfl <;> rfl
    rw [e3] at q
    refine ⟨_, rfl, _, _, _, _, rfl, rfl, SqT.of (ha), at0, rfl, _, rfl, ?_⟩
    rw [e1]
    refine iteF ?_
    have m2 := m1.popV
    have m3 := m2.popV
    have kp2 := m1.kp (mv_D (R := R) (o := .lst (((i :: j :: dn2).map V.int).reverse).dropLast))
    have kp3 := m2.kp (mv_D (R := R) (o := .lst (((j :: dn2).map V.int).reverse).dropLast))
    refine ⟨_, rfl, _, _, _, _, _, rfl, (m1).self, rc.cls, rc.done, rfl, .inl ⟨rfl, _, SqL.of m1.done⟩, _, _, _, rfl, rfl, m1.done, last_of _ _, ?_⟩
    refine ⟨_, rfl, _, _, _, _, _, rfl, (m2).self, rc.cls, rc.done, rfl, .inl ⟨rfl, _, SqL.of m2.done⟩, _, _, _, rfl, rfl, m2.done, last_of _ _, _, _, rfl, ?_⟩
    have ha3 := kp3 _ _ (kp2 _ _ ha)
    refine ⟨_, rfl, _, _, _, _, rfl, rfl, SqT.of (ha3), at0, rfl, _, rfl, ?_⟩
    rw [e2]
    refine iteF ?_
    refine ⟨_, rfl, _, _, _, _, _, rfl, (m3).self, rc.cls, rc.done, rfl, .inl ⟨rfl, _, SqL.of m3.done⟩, _, rfl, _, _, _, _, rfl, rfl, SqT.of (ha3), at0, _, rfl, _, rfl, k, j, i, rfl, hdi j (by simp), hdi i (by simp), _, _, _, rfl, rfl, m3.done, ?_, ?_⟩
    · rw [List.length_reverse, List.length_map]
      exact szlt (by simp only [List.length_cons] at hdn; show dn2.length < 1000000; omega)
    · exact q _ (m3.pushV _)
  | ite u z x y hu hz hx' hy' =>
    obtain ⟨i, j, dn2, rfl⟩ := bin2 (L := 0) (d := .tup [.str "if", .tup [.str "less", u, z], x, y]) rfl hk
    obtain ⟨a, xs0, rfl, ha, _, hx0⟩ := hd1.tup_inv
    obtain ⟨x1, xs, rfl, hk1, hx⟩ := hx0.cons_inv
    obtain ⟨x2, xs, rfl, _, hx⟩ := hx.cons_inv
    obtain ⟨x3, xs, rfl, hx3, hx⟩ := hx.cons_inv
    obtain ⟨x4, xs, rfl, hx4, hx⟩ := hx.cons_inv
    obtain rfl := hx.nil_inv
    obtain ⟨rfl, _⟩ := hk1.str_inv
    have e3 : stepM R.l ⟨⟨true, .tup [.str "if", .tup [.str "less", u, z], x, y], env⟩ :: ts, i :: j :: dn2, n⟩ = ⟨⟨false, if j < i then x else y, env⟩ :: ts, dn2, n + 1⟩ := rfl
    rw [e3] at q
    refine ⟨_, rfl, _, _, _, _, rfl, rfl, SqT.of (ha), at0, rfl, _, rfl, ?_⟩
    refine iteF ?_
    have m2 := m1.popV
    have m3 := m2.popV
    have mv2 := mv_D (R := R) (H := H1) (o := .lst (((i :: j :: dn2).map V.int).reverse).dropLast)
    have mv3 := mv_D (R := R) (H := upd H1 R.pD (.lst (((i :: j :: dn2).map V.int).reverse).dropLast)) (o := .lst (((j :: dn2).map V.int).reverse).dropLast)
    have kp2 := m1.kp mv2
    have kp3 := m2.kp mv3
    have ev3 := m2.ev mv3 e env (m1.ev mv2 e env he1)
    refine ⟨_, rfl, _, _, _, _, _, rfl, (m1).self, rc.cls, rc.done, rfl, .inl ⟨rfl, _, SqL.of m1.done⟩, _, _, _, rfl, rfl, m1.done, last_of _ _, ?_⟩
    refine ⟨_, rfl, _, _, _, _, _, rfl, (m2).self, rc.cls, rc.done, rfl, .inl ⟨rfl, _, SqL.of m2.done⟩, _, _, _, rfl, rfl, m2.done, last_of _ _, _, _, rfl, ?_⟩
    have ha3 := kp3 _ _ (kp2 _ _ ha)
    have h3' := (hx3.mono kp2).mono kp3
    have h4' := (hx4.mono kp2).mono kp3
    obtain ⟨rs3, t3, ht3⟩ := m3.tasks
    have hrl := ht3.length
    refine ⟨_, rfl, _, _, _, _, rfl, rfl, SqT.of (ha3), at0, rfl, _, rfl, ?_⟩
    refine iteT ?_
    generalize upd (upd H1 R.pD (.lst (((i :: j :: dn2).map V.int).reverse).dropLast)) R.pD (.lst (((j :: dn2).map V.int).reverse).dropLast) = H3 at m3 ev3 ha3 h3' h4' t3 ht3
    -- the branch goes on the stack
    have fin : ∀ (x' : V) (d' : D), Td H3 x' d' → d' = (if j < i then x else y) → ∀ p4, H3 p4 = none → Q .non (upd (upd H3 p4 (.tup [.str "begin", x', .ref e])) R.pT (.lst (rs3.reverse ++ [.ref p4]))) := by
      intro x' d' hx' hd' p4 hp4
      have S4 : Same H3 (upd H3 p4 (.tup [.str "begin", x', .ref e])) := Same.new hp4 _
      have m4 := m3.same S4
      refine q _ ?_
      rw [← hd']
      exact m4.push (S4 _ _ t3) (ht3.mono (Same.kp S4) (m3.ev (.of S4))) (x := .ref p4) (t := ⟨false, d', env⟩) (.mk upd_same (hx'.mono (Same.kp S4)) ⟨S4 _ _ ev3.1, ev3.2⟩)
    have keep : ∀ (x' : V) p4, H3 p4 = none → upd H3 p4 (.tup [.str "begin", x', .ref e]) R.pT = some (.lst rs3.reverse) := fun x' p4 hp4 => Same.new hp4 _ _ _ t3
    have hlt : rs3.reverse.length < sizeLine := by
      rw [List.length_reverse, hrl]
      exact szlt (by show ts.length < 1000000; omega)
    refine ⟨_, rfl, _, _, _, _, _, rfl, (m3).self, rc.cls, rc.tasks, rfl, .inl ⟨rfl, _, SqL.of t3⟩, _, rfl, _, rfl, _, _, rfl, rfl, _, rfl, ?_⟩
    refine ite2 (fun c => ?_) (fun c => ?_)
    · have c' : j < i := of_decide_eq_true c
      refine ⟨_, rfl, _, _, _, _, rfl, rfl, SqT.of (ha3), at2, _, rfl, (by show 3 ≤ sizeLine; decide), fun p4 hp4 => ⟨_, _, _, rfl, rfl, keep _ _ hp4, hlt, ?_⟩⟩
      exact fin _ _ h3' (by rw [if_pos c']) p4 hp4
    · have c' : ¬ j < i := of_decide_eq_false (Bool.eq_false_iff.mpr c)
      refine ⟨_, rfl, _, _, _, _, rfl, rfl, SqT.of (ha3), at3, _, rfl, (by show 3 ≤ sizeLine; decide), fun p4 hp4 => ⟨_, _, _, rfl, rfl, keep _ _ hp4, hlt, ?_⟩⟩
      exact fin _ _ h4' (by rw [if_neg c']) p4 hp4
end
end K04
namespace K04
open PySem PySem.Spec PyProof.Rows L2
section
variable {P : Program} {w : World} {K : PySem.W.Frag} {mg : Str → Option Value} {base : Heap} {Ts : List Addr} {Pt C : Addr}

abbrev n_PlainRunner_value : List Str := ["self", "one", "lates", "kind", "here", "some"]
theorem sc_PlainRunner_value : FnScope n_PlainRunner_value ["self", "one", "lates"] (defScope s_PlainRunner_value) := ⟨rfl, rfl, rfl, by decide +kernel, rfl, by decide +kernel, by decide +kernel⟩
def spValue (C : Addr) : Sp := fun vs H Q _ => ∃ (R : Rn) (env : List Int) (one : V) (e : Addr), vs = [.ref R.a, one, .ref e] ∧ R.C = C ∧ MR R H ⟨[], [], 0⟩ ∧ GP R.l ∧ SmallP R.l ∧ Td H one (bodyD (R.l.headD .non)) ∧ EvP R H e env ∧
  (∀ i ∈ env, InV i) ∧ (env.length : Int) = latesD (R.l.headD .non) ∧ 0 ≤ R.fuel ∧ R.fuel ≤ 150 ∧
  (∀ v n H', EndsM R.l R.fuel (startM R.l env) (some (v, n)) → MR R H' ⟨[], [], n⟩ → Q (.int v) H') ∧ (∀ H' st, EndsM R.l R.fuel (startM R.l env) none → MR R H' st → Q .non H')
theorem ok_value (T : Txt K mg) (rc : RunC K C) (dm : DefM K C "value" "PlainRunner.value" s_PlainRunner_value ["self", "one", "lates"]) (m_begin : MetC P w K mg base 2 C "begin" ["self", "one", "lates"] (spBegin C)) (m_finish : MetC P w K mg base 2 C "finish" ["self", "one", "lates"] (spFinish C)) :
    MetC P w K mg base 3 C "value" ["self", "one", "lates"] (spValue C) := by
  refine dm.ok sc_PlainRunner_value (fun vs H Q E h => ?_) (fun f cdv A outer s H vs Q E hr h => ?_)
  · obtain ⟨R, env, one, e, rfl, _⟩ := h
    rfl
  obtain ⟨R, env, one, e, rfl, rfl, m, G, S, hd, he, hin, hlen, hf0, hf1, q1, q2⟩ := h
  refine ⟨_, (pss_cons (ps_expr (pe_bm PySem.F.plainAttrs_list PySem.F.slot_list_append PySem.F.type_list_append mt_append (pe_fld (pv 0) rfl) (pa_cons (pe_tup (pa_cons pe_str (pa_cons (pv 1) (pa_cons (pv 2) pa_nil)))) pa_nil)))
      (pss_cons (ps_while PassesOwn.never (pt_truth (pe_fld (pv 0) rfl) (by intro _; rfl)) (pss_cons (ps_asg (pe_bm0 PySem.F.plainAttrs_list PySem.F.slot_list_pop PySem.F.type_list_pop mt_pop (pe_fld (pv 0) rfl)) (pg_tup rfl (pgs_cons (pg_name (i := 3) sc_PlainRunner_value.nd rfl (Or.inl rfl)) (pgs_cons (pg_name (i := 4) sc_PlainRunner_value.nd rfl (Or.inl rfl)) (pgs_cons (pg_name (i := 5) sc_PlainRunner_value.nd rfl (Or.inl rfl)) pgs_nil)))))
      (pss_cons (ps_if (pt_cmpR op_eq (pv 3) pe_str (nomark _)) (pss_one (ps_expr (pe_metC m_begin (hr.mono (by omega)) (pv 0) (pa_cons (pv 4) (pa_cons (pv 5) pa_nil))))) (pss_one (ps_expr (pe_metC m_finish (hr.mono (by omega)) (pv 0) (pa_cons (pv 4) (pa_cons (pv 5) pa_nil))))))
      (pss_one (ps_if (pt_cmpR op_gt (pe_fld (pv 0) rfl) (pe_fld (pv 0) rfl) (nomark _)) (pss_one (ps_ret pe_non)) pss_nil)))))
      (pss_one (ps_ret (pe_bm0 PySem.F.plainAttrs_list PySem.F.slot_list_pop PySem.F.type_list_pop mt_pop (pe_fld (pv 0) rfl)))))), ?_⟩
  obtain ⟨rs, t0, ht0⟩ := m.tasks
  have hrs : rs = [] := by
    cases ht0
    rfl
  subst hrs
  refine ⟨_, rfl, _, _, _, _, _, rfl, (m).self, rc.cls, rc.tasks, rfl, .inl ⟨rfl, _, SqL.of t0⟩, _, rfl, _, rfl, (by show 3 ≤ sizeLine; decide), fun p hp => ?_⟩
  have S1 : Same H (upd H p (.tup [.str "begin", one, .ref e])) := Same.new hp _
  have m1 := m.same S1
  have t1 := S1 _ _ t0
  refine ⟨_, _, _, rfl, rfl, t1, (by show 0 < sizeLine; decide), ?_⟩
  have m2 : MR R _ (startM R.l env) := m1.push t1 .nil (x := .ref p) (t := ⟨false, bodyD (R.l.headD .non), env⟩) (.mk upd_same (hd.mono (Same.kp S1)) ⟨S1 _ _ he.1, he.2⟩)
  have g0 := gm_start G S hin hlen
  refine ⟨fun k σ H' => ∃ (st : MS) (o3 o4 o5 : Option V), σ = [some (.ref R.a), some one, some (.ref e), o3, o4, o5] ∧ MR R H' st ∧ GM R.l st ∧ st.n ≤ R.fuel ∧ (∀ r, EndsM R.l R.fuel st r → EndsM R.l R.fuel (startM R.l env) r) ∧ k = mu R.fuel st,
    ⟨_, startM R.l env, none, none, none, rfl, m2, g0, hf0, fun r h => h, rfl⟩, ?_⟩
  rintro k σ H2 ⟨st, o3, o4, o5, rfl, m3, g, hn, hE, rfl⟩
  obtain ⟨rs, t3, ht3⟩ := m3.tasks
  refine ⟨_, rfl, _, _, _, _, _, rfl, (m3).self, rc.cls, rc.tasks, rfl, !rs.reverse.isEmpty, .inl ⟨_, SqL.of t3, rfl⟩, ?_⟩
  obtain ⟨ts, dn, n⟩ := st
  cases ts with
  | nil =>
    have hrs : rs = [] := by
      cases ht3
      rfl
    subst hrs
    refine iteF ?_
    have hfl : flow [] dn.length = some 1 := g.flow
    have hfl : dn.length = 1 := by
      have : some dn.length = some 1 := hfl
      injection this
    obtain ⟨v, rfl⟩ : ∃ v, dn = [v] := by
      match dn, hfl with
      | [v], _ => exact ⟨v, rfl⟩
    refine ⟨_, rfl, _, _, _, _, _, rfl, (m3).self, rc.cls, rc.done, rfl, .inl ⟨rfl, _, SqL.of m3.done⟩, _, _, _, rfl, rfl, m3.done, last_of _ _, ?_⟩
    exact q1 v n _ (hE _ (.done ⟨[], [v], n⟩ rfl)) m3.popV
  | cons t ts =>
    have hne : rs.reverse.isEmpty = false := by
      cases ht3
      simp
    rw [hne]
    refine iteT ?_
    obtain ⟨gm', hmu⟩ := gm_step G S g (by show t :: ts ≠ []; exact fun z => nomatch z)
    have hmu := hmu R.fuel hn
    refine ⟨fun σ' H' => ∃ m', m' < mu R.fuel ⟨t :: ts, dn, n⟩ ∧ ∃ (st : MS) (o3 o4 o5 : Option V), σ' = [some (.ref R.a), some one, some (.ref e), o3, o4, o5] ∧ MR R H' st ∧ GM R.l st ∧ st.n ≤ R.fuel ∧ (∀ r, EndsM R.l R.fuel st r → EndsM R.l R.fuel (startM R.l env) r) ∧ m' = mu R.fuel st,
      fun σ' H' h => h, ?_⟩
    obtain ⟨x, rs2, t4, hx, m4⟩ := m3.pop
    have kp4 := m3.kp (mv_T (R := R) (o := .lst (x :: rs2).reverse.dropLast))
    have ev4 := m3.ev (mv_T (R := R) (o := .lst (x :: rs2).reverse.dropLast))
    refine ⟨_, rfl, _, _, _, _, _, rfl, (m3).self, rc.cls, rc.tasks, rfl, .inl ⟨rfl, _, SqL.of t3⟩, _, _, _, rfl, rfl, t4, last_of _ _, ?_⟩
    generalize upd H2 R.pT (.lst (x :: rs2).reverse.dropLast) = H4 at m4 kp4 ev4
    obtain ⟨ge, gf, genv, glen, gsz⟩ := g.ts t List.mem_cons_self
    have hsz : wts (t :: ts) + dn.length ≤ 800 * (n.toNat + 1) := g.sz
    have hn0 : 0 ≤ n := g.n0
    have hn' : n ≤ R.fuel := hn
    have hwl := wts_len (t :: ts)
    simp only [List.length_cons] at hwl
    -- behind the task
    have after : ∀ (σ' : L2.St) (o3 o4 o5 : Option V) (H5 : Hp), σ' = [some (.ref R.a), some one, some (.ref e), o3, o4, o5] → MR R H5 (stepM R.l ⟨t :: ts, dn, n⟩) →
        tIfS (tTest (tOp (rI0 fun i j => .bl (decide (i > j))) (tFld K (tVar 0) "steps") (tFld K (tVar 0) "fuel"))) (tRet (tC .non)) tNext
          { nx := fun σ' H' => ∃ m', m' < mu R.fuel ⟨t :: ts, dn, n⟩ ∧ ∃ (st : MS) (o3 o4 o5 : Option V), σ' = [some (.ref R.a), some one, some (.ref e), o3, o4, o5] ∧ MR R H' st ∧ GM R.l st ∧ st.n ≤ R.fuel ∧ (∀ r, EndsM R.l R.fuel st r → EndsM R.l R.fuel (startM R.l env) r) ∧ m' = mu R.fuel st, rt := Q } σ' H5 := by
      rintro σ' o3 o4 o5 H5 rfl m5
      refine ⟨_, rfl, _, _, _, _, _, rfl, m5.self, rc.cls, rc.steps, rfl, _, rfl, _, _, _, _, _, rfl, m5.self, rc.cls, rc.fuel, rfl, _, _, rfl, rfl, _, rfl, ?_⟩
      refine ite2 (fun c => ?_) (fun c => ?_)
      · have c' : (stepM R.l ⟨t :: ts, dn, n⟩).n > R.fuel := of_decide_eq_true c
        exact q2 H5 _ (hE _ (.out _ (fun z => nomatch z) c')) m5
      · have c' : ¬ (stepM R.l ⟨t :: ts, dn, n⟩).n > R.fuel := of_decide_eq_false (Bool.eq_false_iff.mpr c)
        exact ⟨_, hmu, _, o3, o4, o5, rfl, m5, gm', by omega, fun r hr => hE r (.go _ r (fun z => nomatch z) c' hr), rfl⟩
    cases hx with
    | mk h1 h2 h3 =>
      rename_i a2 e2 x2
      refine ⟨_, _, rfl, SqT.of (kp4 _ _ h1), rfl, _, _, rfl, _, _, rfl, _, _, rfl, rfl, ?_⟩
      refine ⟨_, rfl, rfl, _, rfl, ?_⟩
      obtain ⟨fin, d, env'⟩ := t
      cases fin with
      | false =>
        refine iteT ?_
        refine ⟨_, rfl, _, _, _, rfl, m4.self, rfl, _, rfl, _, rfl, R, d, env', ts, dn, n, x2, e2, rfl, rfl, m4, h2.mono kp4, ev4 _ _ h3, ge, gsz, by omega, by omega, fun H5 m5 => ?_⟩
        exact after _ _ _ _ H5 rfl m5
      | true =>
        refine iteF ?_
        have hk : (partsM d).length ≤ dn.length := by
          have hfl : (if (partsM d).length ≤ dn.length then flow ts (dn.length - (partsM d).length + 1) else none) = some 1 := g.flow
          by_cases c : (partsM d).length ≤ dn.length
          · exact c
          · rw [if_neg c] at hfl
            cases hfl
        refine ⟨_, rfl, _, _, _, rfl, m4.self, rfl, _, rfl, _, rfl, R, d, env', ts, dn, n, x2, e2, rfl, rfl, m4, h2.mono kp4, ev4 _ _ h3, ge, gf rfl, hk, g.dn, by omega, by omega, fun H5 m5 => ?_⟩
        exact after _ _ _ _ H5 rfl m5

theorem inN_V {i : Int} (h : InN i) : InV i := ⟨h.1, Int.le_trans h.2 (by decide)⟩
/-- a run's end as data -/
def resD : Option (Int × Int) → D
  | none => .non
  | some (v, n) => .tup [.int v, .int n]
abbrev n_plain_run_of : List Str := ["plain", "lates", "fuel", "runner", "value"]
theorem sc_plain_run_of : FnScope n_plain_run_of ["plain", "lates", "fuel"] (defScope s_plain_run_of) := ⟨rfl, rfl, rfl, by decide +kernel, rfl, by decide +kernel, by decide +kernel⟩
/-- the given things of a run -/
structure RunG (H : Hp) (l : List D) (env : List Int) (fuel : Int) (v vl : V) : Prop where
  gp : GP l
  sm : SmallP l
  v : Td H v (.tup l)
  vl : Td H vl (.tup (env.map .int))
  hin : ∀ i ∈ env, InN i
  len : (env.length : Int) = latesD (l.headD .non)
  f0 : 0 ≤ fuel
  f1 : fuel ≤ 150
def spRunOf : Sp := fun vs H Q _ => ∃ (l : List D) (env : List Int) (fuel : Int) (v vl : V), vs = [v, vl, .int fuel] ∧ RunG H l env fuel v vl ∧ ∀ x H' r, Same H H' → EndsM l fuel (startM l env) r → Td H' x (resD r) → Q x H'
theorem map_ints {H : Hp} : ∀ {xs : List V} {env : List Int}, Tds H xs (env.map .int) → xs = env.map V.int
  | _, [], h => h.nil_inv
  | _, i :: env, h => by
    obtain ⟨x, xs, rfl, a, b⟩ := Tds.cons_inv (show Tds H _ (.int i :: env.map .int) from h)
    rw [a.int_inv, map_ints b]
    rfl
theorem ok_run_of (T : Txt K mg) (rc : RunC K C) (dm : Def K mg "plain_run_of" s_plain_run_of ["plain", "lates", "fuel"]) (k_PlainRunner : MakC P w K mg base 1 "PlainRunner" C ["self", "plain", "fuel"] (spInit C)) (m_value : MetC P w K mg base 3 C "value" ["self", "one", "lates"] (spValue C)) :
    Cal P w K mg base 4 "plain_run_of" ["plain", "lates", "fuel"] spRunOf := by
  refine dm.ok sc_plain_run_of (fun vs H Q E h => ?_) (fun f cdv A outer s H vs Q E hr h => ?_)
  · obtain ⟨l, env, fuel, v, vl, rfl, _⟩ := h
    rfl
  obtain ⟨l, env, fuel, v, vl, rfl, g, q⟩ := h
  refine ⟨_, (pss_cons (ps_set (i := 3) sc_plain_run_of.nd rfl (Or.inl rfl) (pe_makC k_PlainRunner (hr.mono (by omega)) (pa_cons (pv 0) (pa_cons (pv 2) pa_nil))))
      (pss_cons (ps_set (i := 4) sc_plain_run_of.nd rfl (Or.inl rfl) (pe_metC m_value (hr.mono (by omega)) (pv 3) (pa_cons (pe_ix ix_tup (pe_ix ix_tup (pv 0) pe_int (fun _ _ => rfl)) pe_int (fun _ _ => rfl)) (pa_cons (pe_callTy call_list_of (by rfl) T.f_list (by decide +kernel) (pa_cons (pv 1) pa_nil)) pa_nil))))
      (pss_one (ps_ret (pe_ifExp (pt_cmpR op_isN (pv 4) pe_non (nomark _)) pe_non (pe_tup (pa_cons (pv 4) (pa_cons (pe_fld (pv 3) rfl) pa_nil)))))))), ?_⟩
  refine ⟨_, rfl, _, rfl, fun a dx ha hdx hne => ?_⟩
  refine ⟨l, v, H, a, dx, fuel, rfl, rfl, ha, hdx, hne, g.v, g.gp, fun R H1 e1 e2 e3 e4 e5 m1 => ⟨rfl, ?_⟩⟩
  subst e1 e2 e3 e4 e5
  obtain ⟨pv, xs, rfl, hp, _, hx⟩ := (g.v.mono (Same.kp m1.old)).tup_inv
  obtain ⟨pl, zs, rfl, hpl, _, hz⟩ := (g.vl.mono (Same.kp m1.old)).tup_inv
  obtain rfl := map_ints hz
  obtain ⟨f, r, hlr⟩ : ∃ f r, R.l = f :: r := by
    cases h : R.l with
    | nil => exact absurd (h ▸ g.gp.pos : 1 ≤ ([] : List D).length) (by decide)
    | cons f r => exact ⟨f, r, rfl⟩
  rw [hlr] at hx
  obtain ⟨x1, xs, rfl, hf, _⟩ := hx.cons_inv
  obtain ⟨s', n', b, hfb, _⟩ := g.gp.fn f (by rw [hlr]; exact List.mem_cons_self)
  subst hfb
  obtain ⟨pf, ys, rfl, hpf, _, hys⟩ := hf.tup_inv
  obtain ⟨y1, ys, rfl, _, hys⟩ := hys.cons_inv
  obtain ⟨y2, ys, rfl, _, hys⟩ := hys.cons_inv
  obtain ⟨y3, ys, rfl, h3, hys⟩ := hys.cons_inv
  obtain rfl := hys.nil_inv
  refine ⟨_, rfl, _, _, _, rfl, m1.self, rfl, _, rfl, _, _, _, _, rfl, rfl, SqT.of (hp), at0, _, _, _, _, rfl, rfl, SqT.of (hpf), at2, _, rfl, _, _, rfl, .inr (SqT.of hpl), fun pe hpe => ?_⟩
  have S2 : Same H1 (upd H1 pe (.lst (env.map V.int))) := Same.new hpe _
  have m2 := m1.same S2
  obtain ⟨rs, t1, _⟩ := m1.tasks
  have hev : EvP R (upd H1 pe (.lst (env.map V.int))) pe env := ⟨upd_same, (ne_of_none t1 hpe).symm, (ne_of_none m1.done hpe).symm⟩
  have hbody : Td (upd H1 pe (.lst (env.map V.int))) y3 (bodyD (R.l.headD .non)) := by
    rw [hlr]
    exact h3.mono (Same.kp S2)
  refine ⟨R, env, y3, pe, rfl, rfl, m2, g.gp, g.sm, hbody, hev, fun i hi => inN_V (g.hin i hi), g.len, g.f0, g.f1, fun v n H' hE m3 => ?_, fun H' st hE m3 => ?_⟩
  · refine ⟨_, rfl, rfl, _, rfl, ?_⟩
    refine iteF ?_
    refine ⟨_, rfl, _, rfl, _, _, _, _, _, rfl, m3.self, rc.cls, rc.steps, rfl, (by show 2 ≤ sizeLine; decide), fun p hp => ?_⟩
    exact q _ _ (some (v, n)) (Same.new' m3.old hp _) hE (.tup upd_same (by show 2 ≤ 1000; decide) (.cons (.int v) (.cons (.int n) .nil)))
  · refine ⟨_, rfl, rfl, _, rfl, ?_⟩
    exact iteT (q _ _ none m3.old hE .non)

abbrev n_plain_run : List Str := ["plain", "lates", "fuel"]
theorem sc_plain_run : FnScope n_plain_run ["plain", "lates", "fuel"] (defScope s_plain_run) := ⟨rfl, rfl, rfl, by decide +kernel, rfl, by decide +kernel, by decide +kernel⟩
def spRun (Ts : List Addr) : Sp := fun vs H Q _ => ∃ (l : List D) (env : List Int) (fuel : Int) (v vl : V), vs = [v, vl, .int fuel] ∧ RunG H l env fuel v vl ∧ isPlainD (.tup l) = true ∧ (D.tup l).sz ≤ 50000 ∧ Tabs Ts H ∧
  ∀ x H' r, ExT Ts H H' → EndsM l fuel (startM l env) r → Td H' x (resD r) → Q x H'
theorem ok_plain_run (T : Txt K mg) (dm : Def K mg "plain_run" s_plain_run ["plain", "lates", "fuel"]) (c_need_plain : Cal P w K mg base 71 "need_plain" ["plain"] (spNeedPlain Ts)) (c_need_lates : Cal P w K mg base 3 "need_lates" ["many", "lates"] (spNeedLates Ts))
    (c_need_fuel : Cal P w K mg base 2 "need_fuel" ["fuel"] spNeedFuel) (c_plain_run_of : Cal P w K mg base 4 "plain_run_of" ["plain", "lates", "fuel"] spRunOf) : Cal P w K mg base 72 "plain_run" ["plain", "lates", "fuel"] (spRun Ts) := by
  refine dm.ok sc_plain_run (fun vs H Q E h => ?_) (fun f cdv A outer s H vs Q E hr h => ?_)
  · obtain ⟨l, env, fuel, v, vl, rfl, _⟩ := h
    rfl
  obtain ⟨l, env, fuel, v, vl, rfl, g, hp, hz, hT, q⟩ := h
  refine ⟨_, (pss_cons (ps_expr (pe_cal c_need_plain (hr.mono (by omega)) (pa_cons (pv 0) pa_nil)))
      (pss_cons (ps_expr (pe_cal c_need_lates (hr.mono (by omega)) (pa_cons (pe_ix ix_tup (pe_ix ix_tup (pv 0) pe_int (fun _ _ => rfl)) pe_int (fun _ _ => rfl)) (pa_cons (pv 1) pa_nil))))
      (pss_cons (ps_expr (pe_cal c_need_fuel (hr.mono (by omega)) (pa_cons (pv 2) pa_nil)))
      (pss_one (ps_ret (pe_cal c_plain_run_of (hr.mono (by omega)) (pa_cons (pv 0) (pa_cons (pv 1) (pa_cons (pv 2) pa_nil))))))))), ?_⟩
  refine ⟨_, rfl, v, .tup l, rfl, g.v, hz, hT, hp, fun H1 e1 => ?_⟩
  have hv1 := g.v.mono e1.kp
  obtain ⟨pv, xs, rfl, hp1, _, hx⟩ := hv1.tup_inv
  obtain ⟨f, r, hlr⟩ : ∃ f r, l = f :: r := by
    cases h : l with
    | nil => exact absurd (h ▸ g.gp.pos : 1 ≤ ([] : List D).length) (by decide)
    | cons f r => exact ⟨f, r, rfl⟩
  have hx0 := hx
  rw [hlr] at hx
  obtain ⟨x1, xs, rfl, hf, _⟩ := hx.cons_inv
  obtain ⟨s', n', b, hfb, _⟩ := g.gp.fn f (by rw [hlr]; exact List.mem_cons_self)
  subst hfb
  obtain ⟨pf, ys, rfl, hpf, _, hys⟩ := hf.tup_inv
  obtain ⟨y1, ys, rfl, _, hys⟩ := hys.cons_inv
  obtain ⟨y2, ys, rfl, h2, hys⟩ := hys.cons_inv
  obtain ⟨y3, ys, rfl, h3, hys⟩ := hys.cons_inv
  obtain rfl := hys.nil_inv
  obtain rfl := h2.int_inv
  have hlen : (env.length : Int) = (n' : Nat) := by
    have := g.len
    rw [hlr] at this
    exact this
  refine ⟨_, rfl, _, _, _, _, rfl, rfl, SqT.of (hp1), at0, _, _, _, _, rfl, rfl, SqT.of (hpf), at1, _, rfl, vl, env, (by show [V.int (n' : Nat), vl] = [V.int env.length, vl]; rw [hlen]), g.vl.mono e1.kp, g.hin, e1.tab, fun H2 e2 => ?_⟩
  have e12 := e1.trans e2
  refine ⟨_, rfl, fuel, rfl, g.f0, Int.le_trans g.f1 (by decide), ?_⟩
  refine ⟨_, rfl, _, rfl, _, rfl, l, env, fuel, _, vl, rfl, ⟨g.gp, g.sm, g.v.mono e12.kp, g.vl.mono e12.kp, g.hin, g.len, g.f0, g.f1⟩, fun x H' r S hE hr => ?_⟩
  exact q x H' r (e12.same S) hE hr
end
end K04
namespace K04
open PySem PySem.Spec PyProof.Rows L2
/-! ### the row of draws -/
structure Row (K : PySem.W.Frag) (S : Addr × List Int) (H : Hp) (r : Addr) : Prop where
  ex : ∃ (i s q : Int), H r = some (.lst [.ref S.1, .int i, .int s, .int q]) ∧ SqL K H S.1 (S.2.map V.int) ∧ S.1 ≠ r ∧ 0 ≤ i ∧ 0 ≤ s ∧ s < 2147483647
theorem Rd.fr {r a : Addr} {u : HO} {H H' : Hp} (f : RFr r H H') (h : Rd H a u) (n : a ≠ r) : Rd H' a u := by
  rcases h with h | ⟨o, h⟩
  · exact .inl (f _ _ h n)
  · exact .inr ⟨o, f _ _ h n⟩
theorem SqL.fr {K : PySem.W.Frag} {r a : Addr} {xs : List V} {H H' : Hp} (f : RFr r H H') (h : SqL K H a xs) (n : a ≠ r) : SqL K H' a xs := by
  rcases h with h | h
  · exact .inl (Rd.fr f h n)
  · exact .inr h
theorem SqT.fr {K : PySem.W.Frag} {r a : Addr} {xs : List V} {H H' : Hp} (f : RFr r H H') (h : SqT K H a xs) (n : a ≠ r) : SqT K H' a xs := by
  rcases h with h | h
  · exact .inl (Rd.fr f h n)
  · exact .inr h
theorem RFr.refl (r : Addr) (H : Hp) : RFr r H H := fun _ _ h _ => h
theorem RFr.trans {r : Addr} {H H1 H2 : Hp} (a : RFr r H H1) (b : RFr r H1 H2) : RFr r H H2 := fun c o h n => b c o (a c o h n) n
theorem RFr.upd {r : Addr} {H H1 : Hp} {o : HO} (a : RFr r H H1) : RFr r H (upd H1 r o) := fun b u h n => by rw [upd_ne n]; exact a b u h n
theorem RFr.same {r : Addr} {H H1 H2 : Hp} (a : RFr r H H1) (b : Same H1 H2) : RFr r H H2 := fun c o h n => b c o (a c o h n)
theorem RFr.new {r : Addr} {H H1 : Hp} {p : Addr} (a : RFr r H H1) (h : H1 p = none) (o : HO) : RFr r H (L2.upd H1 p o) := a.same (Same.new h o)
theorem RFr.mut {r : Addr} {H H1 : Hp} {p : Addr} {o : HO} (a : RFr r H H1) (h : H p = none) : RFr r H (L2.upd H1 p o) := fun b u e n => by
  rw [upd_ne (ne_of_none e h)]
  exact a b u e n
theorem Row.kp {K : PySem.W.Frag} {S : Addr × List Int} {r : Addr} {H H' : Hp} (w : Row K S H r) (f : RFr r H H') : Kp H H' := fun b xs h => by
  obtain ⟨i, s, q, hr, _⟩ := w.ex
  exact f b _ h (ne_obj h hr (fun z => by cases z))
/-- the row stays where nothing but new things comes -/
theorem Row.same {K : PySem.W.Frag} {S : Addr × List Int} {r : Addr} {H H' : Hp} (w : Row K S H r) (e : Same H H') : Row K S H' r := by
  obtain ⟨i, s, q, hr, hs, hn, h⟩ := w.ex
  exact ⟨i, s, q, e _ _ hr, SqL.fr (r := r) (fun b o h _ => e b o h) hs hn, hn, h⟩
/-- .. where code tables grow -/
theorem Rd.ext {a : Addr} {u : HO} {H H' : Hp} (f : Ext H H') (h : Rd H a u) (n : ∀ ps, u ≠ .tbl ps) : Rd H' a u := by
  rcases h with h | ⟨o, h⟩
  · exact .inl (f _ _ h n)
  · exact .inr ⟨o, f _ _ h fun ps z => by cases z⟩
theorem SqL.ext {K : PySem.W.Frag} {a : Addr} {xs : List V} {H H' : Hp} (f : Ext H H') (h : SqL K H a xs) : SqL K H' a xs := by
  rcases h with h | h
  · exact .inl (Rd.ext f h fun ps z => by cases z)
  · exact .inr h
theorem Row.ext {K : PySem.W.Frag} {S : Addr × List Int} {r : Addr} {H H' : Hp} (w : Row K S H r) (e : Ext H H') : Row K S H' r := by
  obtain ⟨i, s, q, hr, hs, hn, h⟩ := w.ex
  exact ⟨i, s, q, e.lst hr, SqL.ext e hs, hn, h⟩
/-- .. where other new things are changed -/
theorem Row.fr {K : PySem.W.Frag} {S : Addr × List Int} {r : Addr} {H H' : Hp} (w : Row K S H r) (f : RFr r H H') (e : H' r = H r) : Row K S H' r := by
  obtain ⟨i, s, q, hr, hs, hn, h⟩ := w.ex
  exact ⟨i, s, q, by rw [e]; exact hr, SqL.fr f hs hn, hn, h⟩
/-- .. where a thing is changed that the first heap does not know -/
theorem Row.mut {K : PySem.W.Frag} {S : Addr × List Int} {r p : Addr} {H H1 : Hp} {o : HO} (w : Row K S H r) (w1 : Row K S H1 r) (hp : H p = none) : Row K S (L2.upd H1 p o) r := by
  obtain ⟨i, s, q, hr, hs, hn, _⟩ := w.ex
  obtain ⟨i1, s1, q1, hr1, hs1, hn1, h1⟩ := w1.ex
  refine ⟨i1, s1, q1, by rw [upd_ne (ne_of_none hr hp)]; exact hr1, ?_, hn1, h1⟩
  rcases hs with (hs | ⟨u, hs⟩) | hs
  · have n := ne_of_none hs hp
    rcases hs1 with (h | ⟨v, h⟩) | h
    · exact .inl (.inl (by rw [upd_ne n]; exact h))
    · exact .inl (.inr ⟨v, by rw [upd_ne n]; exact h⟩)
    · exact .inr h
  · have n := ne_of_none hs hp
    rcases hs1 with (h | ⟨v, h⟩) | h
    · exact .inl (.inl (by rw [upd_ne n]; exact h))
    · exact .inl (.inr ⟨v, by rw [upd_ne n]; exact h⟩)
    · exact .inr h
  · exact .inr hs
theorem Tabs.fr {Ts : List Addr} {K : PySem.W.Frag} {S : Addr × List Int} {r : Addr} {H H' : Hp} (w : Row K S H r) (t : Tabs Ts H) (f : RFr r H H') : Tabs Ts H' := fun P hP => by
  obtain ⟨ps, h1, h2⟩ := t P hP
  obtain ⟨i, s, q, hr, _⟩ := w.ex
  exact ⟨ps, f _ _ h1 (ne_obj h1 hr (fun z => by cases z)), h2⟩
theorem at3' {α : Type} {x y z u : α} {r : List α} : ixN (x :: y :: z :: u :: r).length 3 = some 3 := by
  unfold ixN
  rw [if_pos (by decide), if_pos (by simp only [List.length_cons]; omega)]
  rfl
theorem ixN_of {n : Nat} {j : Nat} (h : j < n) : ixN n (j : Int) = some j := by
  unfold ixN
  rw [if_pos (by omega), if_pos (by omega)]
  rfl
section
variable {P : Program} {w : World} {K : PySem.W.Frag} {mg : Str → Option Value} {base : Heap} {Ts : List Addr} {Pt : Addr} {S : Addr × List Int}

abbrev n__law_taken : List Str := ["_law_row", "_law_many", "_law_found", "_law_cell"]
theorem sc_law_taken : FnScope n__law_taken ["_law_row", "_law_many"] (defScope s__law_taken) := ⟨rfl, rfl, rfl, by decide +kernel, rfl, by decide +kernel, by decide +kernel⟩
def spTaken (K : PySem.W.Frag) (S : Addr × List Int) : Sp := fun vs H Q _ => ∃ (r : Addr) (many : Nat), vs = [.ref r, .int many] ∧ Row K S H r ∧ 0 < many ∧ many ≤ 1000 ∧ ∀ (k : Nat) H', k < many → RFr r H H' → Row K S H' r → Q (.int k) H'
theorem ok_taken (T : Txt K mg) (dm : Def K mg "_law_taken" s__law_taken ["_law_row", "_law_many"]) : Cal P w K mg base 1 "_law_taken" ["_law_row", "_law_many"] (spTaken K S) := by
  refine dm.ok sc_law_taken (fun vs H Q E h => ?_) (fun f cdv A outer s H vs Q E hr h => ?_)
  · obtain ⟨r, many, rfl, _⟩ := h
    rfl
  obtain ⟨r, many, rfl, hw, hm0, hm1, q⟩ := h
  obtain ⟨sc, zs⟩ := S
  obtain ⟨i, s', z, hr0, hs, hn, hi, hs0, hs1⟩ := hw.ex
  dsimp only at hr0 hs hn
  have modlt : ∀ x : Int, ∃ k : Nat, x % (many : Int) = k ∧ k < many := fun x => by
    have h1 := Int.emod_nonneg x (show (many : Int) ≠ 0 by omega)
    have h2 := Int.emod_lt_of_pos x (show (0 : Int) < many by omega)
    exact ⟨(x % (many : Int)).toNat, by omega, by omega⟩
  have qm : ∀ (x : Int) H', RFr r H H' → Row K (sc, zs) H' r → Q (.int (x % (many : Int))) H' := fun x H' f w' => by
    obtain ⟨k, hk, hkm⟩ := modlt x
    rw [hk]
    exact q k H' hkm f w'
  have row' : ∀ (H' : Hp) (i' s'' q' : Int), H' r = some (.lst [.ref sc, .int i', .int s'', .int q']) → RFr r H H' → 0 ≤ i' → 0 ≤ s'' → s'' < 2147483647 → Row K (sc, zs) H' r := fun H' i' s'' q' e f h1 h2 h3 =>
    ⟨i', s'', q', e, SqL.fr f hs hn, hn, h1, h2, h3⟩
  refine ⟨_, (pss_cons (ps_if (pt_cmpR op_gt (pe_ix ix_list (pv 0) pe_int (fun _ _ => rfl)) pe_int (nomark _)) (pss_cons (ps_set (i := 2) sc_law_taken.nd rfl (Or.inl rfl) (pe_op op_mod (pe_callTy call_int1 (by rfl) T.f_int (by decide +kernel) (pa_cons (pe_ix ix_list (pv 0) pe_int (fun _ _ => rfl)) pa_nil)) (pv 1)))
      (pss_cons (ps_asg (pe_op op_fdiv (pe_ix ix_list (pv 0) pe_int (fun _ _ => rfl)) (pv 1)) (pg_sub (pv 0) pe_int set_list))
      (pss_one (ps_ret (pv 2))))) pss_nil)
      (pss_cons (ps_asg (pe_op op_add (pe_ix ix_list (pv 0) pe_int (fun _ _ => rfl)) pe_int) (pg_sub (pv 0) pe_int set_list))
      (pss_cons (ps_if (pt_cmpR op_gt (pe_ix ix_list (pv 0) pe_int (fun _ _ => rfl)) (pe_callB call_len_seq (by rfl) T.f_len PySem.boot_len (pa_cons (pe_ix ix_list (pv 0) pe_int (fun _ _ => rfl)) pa_nil)) (nomark _)) (pss_cons (ps_asg (pe_op op_mod (pe_callTy call_int1 (by rfl) T.f_int (by decide +kernel) (pa_cons (pe_op op_add (pe_op op_mul (pe_ix ix_list (pv 0) pe_int (fun _ _ => rfl)) pe_int) pe_int) pa_nil)) pe_int) (pg_sub (pv 0) pe_int set_list))
      (pss_one (ps_ret (pe_op op_mod (pe_callTy call_int1 (by rfl) T.f_int (by decide +kernel) (pa_cons (pe_op op_fdiv (pe_ix ix_list (pv 0) pe_int (fun _ _ => rfl)) pe_int) pa_nil)) (pv 1))))) pss_nil)
      (pss_cons (ps_set (i := 3) sc_law_taken.nd rfl (Or.inl rfl) (pe_ix ix_list (pe_ix ix_list (pv 0) pe_int (fun _ _ => rfl)) (pe_op op_sub (pe_ix ix_list (pv 0) pe_int (fun _ _ => rfl)) pe_int) (fun _ _ => rfl)))
      (pss_cons (ps_asg (pe_op op_mod (pe_callTy call_int1 (by rfl) T.f_int (by decide +kernel) (pa_cons (pe_op op_add (pe_op op_add (pe_op op_mul (pe_ix ix_list (pv 0) pe_int (fun _ _ => rfl)) pe_int) (pv 3)) pe_int) pa_nil)) pe_int) (pg_sub (pv 0) pe_int set_list))
      (pss_cons (ps_if (pt_cmpR op_ge (pv 3) (pe_op op_pow pe_int pe_int) (nomark _)) (pss_one (ps_asg (pe_op op_fdiv (pv 3) (pv 1)) (pg_sub (pv 0) pe_int set_list))) pss_nil)
      (pss_one (ps_ret (pe_op op_mod (pe_callTy call_int1 (by rfl) T.f_int (by decide +kernel) (pa_cons (pv 3) pa_nil)) (pv 1)))))))))), ?_⟩
  refine ⟨_, rfl, _, _, _, _, rfl, rfl, SqL.of hr0, at3, _, _, rfl, rfl, _, rfl, ?_⟩
  refine ite2 (fun c1 => ?_) (fun c1 => ?_)
  · refine ⟨_, rfl, _, _, _, _, rfl, rfl, SqL.of hr0, at3, .inl ⟨_, rfl, _, rfl, _, _, rfl, rfl, (by omega), ?_⟩⟩
    refine ⟨_, rfl, _, _, _, _, rfl, rfl, SqL.of hr0, at3, _, rfl, _, _, rfl, rfl, ⟨(by omega), (by omega)⟩, _, rfl, r, _, 3, 3, rfl, rfl, hr0, rfl, ?_⟩
    refine ⟨_, rfl, ?_⟩
    exact qm _ _ (RFr.refl r H).upd (row' _ _ _ _ upd_same (RFr.refl r H).upd hi hs0 hs1)
  · have f1 : RFr r H (upd H r (.lst [.ref sc, .int (i + 1), .int s', .int z])) := (RFr.refl r H).upd
    have hr1 : upd H r (.lst [.ref sc, .int (i + 1), .int s', .int z]) r = some (.lst [.ref sc, .int (i + 1), .int s', .int z]) := upd_same
    have hs1' := SqL.fr f1 hs hn
    refine ⟨_, rfl, _, _, _, _, rfl, rfl, SqL.of hr0, at1, _, _, rfl, rfl, _, rfl, r, _, 1, 1, rfl, rfl, hr0, rfl, ?_⟩
    refine ⟨_, rfl, _, _, _, _, rfl, rfl, SqL.of hr1, at1, _, rfl, _, _, _, _, rfl, rfl, SqL.of hr1, at0, _, _, rfl, .inl hs1', _, _, rfl, rfl, _, rfl, ?_⟩
    rw [List.length_map]
    refine ite2 (fun c2 => ?_) (fun c2 => ?_)
    · have h2 : (0 : Int) < 2147483647 := by decide
      have hmul : CMul s' 48271 := .inl ⟨by omega, by omega⟩
      refine ⟨_, rfl, _, _, _, _, rfl, rfl, SqL.of hr1, at2, _, _, rfl, rfl, hmul, _, _, rfl, rfl, .inl ⟨_, rfl, _, _, rfl, rfl, h2, _, rfl, r, _, 2, 2, rfl, rfl, hr1, rfl, ?_⟩⟩
      have hr2 : upd (upd H r (.lst [.ref sc, .int (i + 1), .int s', .int z])) r (.lst [.ref sc, .int (i + 1), .int ((s' * 48271 + 11) % 2147483647), .int z]) r = some (.lst [.ref sc, .int (i + 1), .int ((s' * 48271 + 11) % 2147483647), .int z]) := upd_same
      have f2 : RFr r H (upd (upd H r (.lst [.ref sc, .int (i + 1), .int s', .int z])) r (.lst [.ref sc, .int (i + 1), .int ((s' * 48271 + 11) % 2147483647), .int z])) := f1.upd
      refine ⟨_, rfl, _, _, _, _, rfl, rfl, SqL.of hr2, at2, _, _, rfl, rfl, ⟨by decide, by decide⟩, .inl ⟨_, rfl, _, rfl, _, _, rfl, rfl, (by omega), ?_⟩⟩
      exact qm _ _ f2 (row' _ _ _ _ hr2 f2 (by omega) (Int.emod_nonneg _ (by decide)) (Int.emod_lt_of_pos _ h2))
    · have c2' : ¬ i + 1 > (zs.length : Int) := of_decide_eq_false (Bool.eq_false_iff.mpr c2)
      obtain ⟨n, rfl⟩ : ∃ n : Nat, i = n := ⟨i.toNat, by omega⟩
      have hn1 : n < zs.length := by omega
      have hat : atI (zs.map V.int) ((n : Int) + 1 - 1) = some (.int zs[n]) := by
        rw [show (n : Int) + 1 - 1 = n by omega]
        refine atI_nat ?_
        rw [List.getElem?_map, List.getElem?_eq_getElem hn1]
        rfl
      generalize zs[n] = c at hat
      have h2 : (0 : Int) < 2147483647 := by decide
      have hmul : CMul s' 48271 := .inl ⟨by omega, by omega⟩
      refine ⟨_, rfl, _, _, _, _, rfl, rfl, SqL.of hr1, at0, _, rfl, _, _, _, _, rfl, rfl, SqL.of hr1, at1, _, _, rfl, rfl, _, _, _, _, rfl, rfl, hs1', hat, ?_⟩
      refine ⟨_, rfl, _, _, _, _, rfl, rfl, SqL.of hr1, at2, _, _, rfl, rfl, hmul, _, rfl, _, _, rfl, rfl, _, _, rfl, rfl, .inl ⟨_, rfl, _, _, rfl, rfl, h2, _, rfl, r, _, 2, 2, rfl, rfl, hr1, rfl, ?_⟩⟩
      have hr2 : upd (upd H r (.lst [.ref sc, .int ((n : Int) + 1), .int s', .int z])) r (.lst [.ref sc, .int ((n : Int) + 1), .int ((s' * 48271 + c + 11) % 2147483647), .int z]) r = some (.lst [.ref sc, .int ((n : Int) + 1), .int ((s' * 48271 + c + 11) % 2147483647), .int z]) := upd_same
      have f2 : RFr r H (upd (upd H r (.lst [.ref sc, .int ((n : Int) + 1), .int s', .int z])) r (.lst [.ref sc, .int ((n : Int) + 1), .int ((s' * 48271 + c + 11) % 2147483647), .int z])) := f1.upd
      have g1 := Int.emod_nonneg (s' * 48271 + c + 11) (show (2147483647 : Int) ≠ 0 by decide)
      have g2 := Int.emod_lt_of_pos (s' * 48271 + c + 11) h2
      refine ⟨_, rfl, _, _, rfl, rfl, ⟨by decide, by decide, by decide⟩, _, _, rfl, rfl, _, rfl, ?_⟩
      refine ite2 (fun c3 => ?_) (fun c3 => ?_)
      · refine ⟨_, rfl, _, rfl, _, _, rfl, rfl, ⟨(by omega), (by omega)⟩, _, rfl, r, _, 3, 3, rfl, rfl, hr2, rfl, ?_⟩
        refine ⟨_, rfl, .inl ⟨_, rfl, _, rfl, _, _, rfl, rfl, (by omega), ?_⟩⟩
        exact qm _ _ f2.upd (row' _ _ _ _ upd_same f2.upd (by omega) g1 g2)
      · refine ⟨_, rfl, .inl ⟨_, rfl, _, rfl, _, _, rfl, rfl, (by omega), ?_⟩⟩
        exact qm _ _ f2 (row' _ _ _ _ hr2 f2 (by omega) g1 g2)

abbrev n__law_pick : List Str := ["_law_row", "_law_things"]
theorem sc_law_pick : FnScope n__law_pick ["_law_row", "_law_things"] (defScope s__law_pick) := ⟨rfl, rfl, rfl, by decide +kernel, rfl, by decide +kernel, by decide +kernel⟩
def spPick (K : PySem.W.Frag) (S : Addr × List Int) : Sp := fun vs H Q _ => ∃ (r p : Addr) (xs : List V), vs = [.ref r, .ref p] ∧ Row K S H r ∧ p ≠ r ∧ (SqL K H p xs ∨ SqT K H p xs) ∧ xs ≠ [] ∧ xs.length ≤ 1000 ∧ ∀ (i : Nat) x H', xs[i]? = some x → RFr r H H' → Row K S H' r → Q x H'
theorem ok_pick (T : Txt K mg) (dm : Def K mg "_law_pick" s__law_pick ["_law_row", "_law_things"]) (c_l_taken : Cal P w K mg base 1 "_law_taken" ["_law_row", "_law_many"] (spTaken K S)) : Cal P w K mg base 2 "_law_pick" ["_law_row", "_law_things"] (spPick K S) := by
  refine dm.ok sc_law_pick (fun vs H Q E h => ?_) (fun f cdv A outer s H vs Q E hr h => ?_)
  · obtain ⟨r, p, xs, rfl, _⟩ := h
    rfl
  obtain ⟨r, p, xs, rfl, hw, hpr, hx, hne, hl, q⟩ := h
  refine ⟨_, (pss_one (ps_ret (pe_ix ix_seq (pv 1) (pe_cal c_l_taken (hr.mono (by omega)) (pa_cons (pv 0) (pa_cons (pe_callB call_len_seq (by rfl) T.f_len PySem.boot_len (pa_cons (pv 1) pa_nil)) pa_nil))) (fun _ _ => rfl)))), ?_⟩
  have h0 : 0 < xs.length := by
    cases xs with
    | nil => exact absurd rfl hne
    | cons _ _ => simp
  refine ⟨_, rfl, _, rfl, _, rfl, _, _, rfl, hx, r, xs.length, rfl, hw, h0, hl, fun k H' hk f hw' => ?_⟩
  have hat : atI xs (k : Int) = some xs[k] := atI_nat (List.getElem?_eq_getElem hk)
  rcases hx with hx | hx
  · exact .inl ⟨p, xs, k, _, rfl, rfl, SqL.fr f hx hpr, hat, q k _ H' (List.getElem?_eq_getElem hk) f hw'⟩
  · exact .inr (.inl ⟨p, xs, k, _, rfl, rfl, SqT.fr f hx hpr, hat, q k _ H' (List.getElem?_eq_getElem hk) f hw'⟩)

abbrev n__law_is_int : List Str := ["_law_value"]
theorem sc_law_is_int : FnScope n__law_is_int ["_law_value"] (defScope s__law_is_int) := ⟨rfl, rfl, rfl, by decide +kernel, rfl, by decide +kernel, by decide +kernel⟩
def spIsInt : Sp := fun vs H Q _ => ∃ (v : V) (d : D), vs = [v] ∧ Td H v d ∧ Q (.bl d.isInt) H
theorem ok_is_int (T : Txt K mg) (dm : Def K mg "_law_is_int" s__law_is_int ["_law_value"]) : Cal P w K mg base 1 "_law_is_int" ["_law_value"] spIsInt := by
  refine dm.ok sc_law_is_int (fun vs H Q E h => ?_) (fun f cdv A outer s H vs Q E hr h => ?_)
  · obtain ⟨v, d, rfl, _⟩ := h
    rfl
  obtain ⟨v, d, rfl, hd, q⟩ := h
  refine ⟨_, (pss_one (ps_ret (pe_and (pe_callB call_isi (by rfl) T.f_isinstance (by decide +kernel) (pa_cons (pv 0) (pa_cons (pe_ty "int" T.f_int) pa_nil))) (pe_one (pe_not (pe_callB call_isi (by rfl) T.f_isinstance (by decide +kernel) (pa_cons (pv 0) (pa_cons (pe_ty "bool" T.f_bool) pa_nil)))))))), ?_⟩
  refine ⟨_, rfl, _, _, _, _, _, rfl, .ty _, Td.tyx (hd), kit_ty (kit_int _), _, rfl, ?_⟩
  cases d with
  | int i => exact iteT ⟨_, rfl, _, _, _, _, _, rfl, .ty _, Td.tyx (hd), kit_ty (kit_bool _), _, rfl, q⟩
  | bl b => exact iteT ⟨_, rfl, _, _, _, _, _, rfl, .ty _, Td.tyx (hd), kit_ty (kit_bool _), _, rfl, q⟩
  | non => exact iteF q
  | str s => exact iteF q
  | tup l => exact iteF q

abbrev n__law_name : List Str := ["_law_row"]
theorem sc_law_name : FnScope n__law_name ["_law_row"] (defScope s__law_name) := ⟨rfl, rfl, rfl, by decide +kernel, rfl, by decide +kernel, by decide +kernel⟩
def names8 : List Str := ["f", "g", "h", "pow", "go", "turn", "zig", "low"]
def spName (K : PySem.W.Frag) (S : Addr × List Int) : Sp := fun vs H Q _ => ∃ (r : Addr), vs = [.ref r] ∧ Row K S H r ∧ ∀ (s : Str) H', s ∈ names8 → RFr r H H' → Row K S H' r → Q (.str s) H'
theorem pick_strs {l : List Str} {i : Nat} {x : V} (h : (l.map V.str)[i]? = some x) : ∃ s, s ∈ l ∧ x = .str s := by
  rw [List.getElem?_map] at h
  obtain ⟨s, hs, rfl⟩ := Option.map_eq_some_iff.mp h
  exact ⟨s, List.mem_of_getElem? hs, rfl⟩
theorem ok_name (T : Txt K mg) (dm : Def K mg "_law_name" s__law_name ["_law_row"]) (c_l_pick : Cal P w K mg base 2 "_law_pick" ["_law_row", "_law_things"] (spPick K S)) : Cal P w K mg base 3 "_law_name" ["_law_row"] (spName K S) := by
  refine dm.ok sc_law_name (fun vs H Q E h => ?_) (fun f cdv A outer s H vs Q E hr h => ?_)
  · obtain ⟨r, rfl, _⟩ := h
    rfl
  obtain ⟨r, rfl, hw, q⟩ := h
  refine ⟨_, (pss_one (ps_ret (pe_cal c_l_pick (hr.mono (by omega)) (pa_cons (pv 0) (pa_cons (pe_lst (pa_cons pe_str (pa_cons pe_str (pa_cons pe_str (pa_cons pe_str (pa_cons pe_str (pa_cons pe_str (pa_cons pe_str (pa_cons pe_str pa_nil))))))))) pa_nil))))), ?_⟩
  refine ⟨_, rfl, (by show 8 ≤ sizeLine; decide), fun p hp => ?_⟩
  have S1 : Same H (upd H p (.lst (names8.map V.str))) := Same.new hp _
  have hpr : p ≠ r := by
    obtain ⟨i, s', q', hr0, _⟩ := hw.ex
    exact (ne_of_none hr0 hp).symm
  refine ⟨r, p, names8.map V.str, rfl, hw.same S1, hpr, .inl (SqL.of upd_same), by decide, by decide, fun i x H' hx f hw' => ?_⟩
  obtain ⟨s', hs', rfl⟩ := pick_strs hx
  exact q s' H' hs' (((RFr.refl r H).new hp _).trans f) hw'
end
end K04
namespace K04
open PySem PySem.Spec PyProof.Rows L2
theorem kit_list : ∀ d : D, kitB d.ty "list" = some false
  | .non => (by decide +kernel : kitB "NoneType" "list" = some false)
  | .bl _ => (by decide +kernel : kitB "bool" "list" = some false)
  | .int _ => (by decide +kernel : kitB "int" "list" = some false)
  | .str _ => (by decide +kernel : kitB "str" "list" = some false)
  | .tup _ => (by decide +kernel : kitB "tuple" "list" = some false)
theorem kit_tl {K : PySem.W.Frag} (d : D) : PySem.W.kitAny K (.type d.ty) [.type "tuple", .type "list"] = some d.isTup :=
  kitAny_cons (kit_ty (kit_tup d)) (fun h => by
    rw [h]
    exact kitAny_cons (kit_ty (kit_list d)) (fun _ => rfl) (fun z => nomatch z)) (fun h => h)
def movedM (k : Str) (m e : Int) : Int := if k = "give" then m else if e + m > 0 then e + m else 0
/-- a test of the early number -/
inductive ETest : D → Prop
  | below (n : Int) : ETest (.tup [.str "below", .int n])
  | rest (d m : Int) : 0 < d → ETest (.tup [.str "rest", .int d, .int m])
def holdsM : D → Int → Bool
  | .tup [_, .int n], e => decide (e < n)
  | .tup [_, .int d, .int m], e => decide (e % d = m)
  | _, _ => false
section
variable {P : Program} {w : World} {K : PySem.W.Frag} {mg : Str → Option Value} {base : Heap} {Ts : List Addr} {Pt : Addr}
abbrev n__law_worked : List Str := ["_law_kind", "_law_one", "_law_other", "_law_top"]
theorem sc_law_worked : FnScope n__law_worked ["_law_kind", "_law_one", "_law_other"] (defScope s__law_worked) := ⟨rfl, rfl, rfl, by decide +kernel, rfl, by decide +kernel, by decide +kernel⟩
theorem ok_lworked (T : Txt K mg) (d : Def K mg "_law_worked" s__law_worked ["_law_kind", "_law_one", "_law_other"]) : Cal P w K mg base 1 "_law_worked" ["_law_kind", "_law_one", "_law_other"] spWorked := by
  refine d.ok sc_law_worked (fun vs H Q E h => ?_) (fun f cdv A outer s H vs Q E hr h => ?_)
  · obtain ⟨k, i, j, rfl, _⟩ := h
    rfl
  obtain ⟨k, i, j, rfl, hi, hj, q⟩ := h
  refine ⟨_, (pss_cons (ps_set (i := 3) sc_law_worked.nd rfl (Or.inl rfl) pe_int)
      (pss_cons (ps_if (pt_cmpR op_eq (pv 0) pe_str (nomark _)) (pss_one (ps_ret (pe_callB (call_max2 rfl) (by rfl) T.f_max (by decide +kernel) (pa_cons pe_int (pa_cons (pe_op op_sub (pv 1) (pv 2)) pa_nil))))) pss_nil)
      (pss_one (ps_ret (pe_callB (call_min2 rfl) (by rfl) T.f_min (by decide +kernel) (pa_cons (pv 3) (pa_cons (pe_ifExp (pt_cmpR op_eq (pv 0) pe_str (nomark _)) (pe_op op_add (pv 1) (pv 2)) (pe_op op_mulW (pv 1) (pv 2))) pa_nil))))))), ?_⟩
  refine ⟨_, rfl, rfl, _, rfl, ?_⟩
  have emin : ∀ x : Int, (if x < topV then x else topV) = if topV < x then topV else x := fun x => by
    by_cases h1 : x < topV
    · rw [if_pos h1, if_neg (by omega)]
    · rw [if_neg h1]
      by_cases h2 : topV < x
      · rw [if_pos h2]
      · rw [if_neg h2]
        omega
  refine ite2 (fun c1 => ?_) (fun c1 => ?_)
  · have e : k = "minus" := by
      have := of_decide_eq_true c1
      injection this
    subst e
    have e2 : workedM "minus" i j = if i - j > 0 then i - j else 0 := by
      show (if 0 > i - j then 0 else i - j) = _
      by_cases h1 : i - j > 0
      · rw [if_pos h1, if_neg (by omega)]
      · rw [if_neg h1]
        by_cases h2 : 0 > i - j
        · rw [if_pos h2]
        · rw [if_neg h2]
          omega
    rw [e2] at q
    exact ⟨_, rfl, _, rfl, _, _, rfl, rfl, _, _, rfl, q⟩
  · have e : ¬ k = "minus" := fun z => c1 (decide_eq_true (congrArg V.str z))
    unfold workedM at q
    refine ⟨_, rfl, _, rfl, rfl, _, rfl, ?_⟩
    refine ite2 (fun c2 => ?_) (fun c2 => ?_)
    · have e : k = "plus" := by
        have := of_decide_eq_true c2
        injection this
      rw [if_pos e, ← emin] at q
      exact ⟨_, rfl, _, rfl, _, _, rfl, rfl, _, _, rfl, q⟩
    · have e3 : ¬ k = "plus" := fun z => c2 (decide_eq_true (congrArg V.str z))
      rw [if_neg e3, if_neg e, ← emin] at q
      exact ⟨_, rfl, _, rfl, _, _, rfl, rfl, inV_mul hi hj, _, _, rfl, q⟩

abbrev n__law_moved : List Str := ["_law_move_here", "_law_early"]
theorem sc_law_moved : FnScope n__law_moved ["_law_move_here", "_law_early"] (defScope s__law_moved) := ⟨rfl, rfl, rfl, by decide +kernel, rfl, by decide +kernel, by decide +kernel⟩
def spMoved : Sp := fun vs H Q _ => ∃ (v : V) (k : Str) (m e : Int), vs = [v, .int e] ∧ Td H v (.tup [.str k, .int m]) ∧ Q (.int (movedM k m e)) H
theorem ok_moved (T : Txt K mg) (dm : Def K mg "_law_moved" s__law_moved ["_law_move_here", "_law_early"]) : Cal P w K mg base 1 "_law_moved" ["_law_move_here", "_law_early"] spMoved := by
  refine dm.ok sc_law_moved (fun vs H Q E h => ?_) (fun f cdv A outer s H vs Q E hr h => ?_)
  · obtain ⟨v, k, m, e, rfl, _⟩ := h
    rfl
  obtain ⟨v, k, m, e, rfl, hd, q⟩ := h
  refine ⟨_, (pss_one (ps_ret (pe_ifExp (pt_cmpR op_eq (pe_ix ix_tup (pv 0) pe_int (fun _ _ => rfl)) pe_str (nomark _)) (pe_ix ix_tup (pv 0) pe_int (fun _ _ => rfl)) (pe_callB (call_max2 rfl) (by rfl) T.f_max (by decide +kernel) (pa_cons pe_int (pa_cons (pe_op op_add (pv 1) (pe_ix ix_tup (pv 0) pe_int (fun _ _ => rfl))) pa_nil)))))), ?_⟩
  obtain ⟨a, xs, rfl, ha, _, hx⟩ := hd.tup_inv
  obtain ⟨x1, xs, rfl, h1, hx⟩ := hx.cons_inv
  obtain ⟨x2, xs, rfl, h2, hx⟩ := hx.cons_inv
  obtain rfl := hx.nil_inv
  obtain ⟨rfl, _⟩ := h1.str_inv
  obtain rfl := h2.int_inv
  unfold movedM at q
  refine ⟨_, rfl, _, _, _, _, rfl, rfl, SqT.of (ha), at0, rfl, _, rfl, ?_⟩
  refine ite2 (fun c => ?_) (fun c => ?_)
  · have e : k = "give" := by
      have := of_decide_eq_true c
      injection this
    rw [if_pos e] at q
    exact ⟨_, rfl, _, _, _, _, rfl, rfl, SqT.of (ha), at1, q⟩
  · have e : ¬ k = "give" := fun z => c (decide_eq_true (congrArg V.str z))
    rw [if_neg e] at q
    exact ⟨_, rfl, _, rfl, _, _, _, _, rfl, rfl, SqT.of (ha), at1, _, _, rfl, rfl, _, _, rfl, q⟩

abbrev n__law_holds : List Str := ["_law_test_here", "_law_early"]
theorem sc_law_holds : FnScope n__law_holds ["_law_test_here", "_law_early"] (defScope s__law_holds) := ⟨rfl, rfl, rfl, by decide +kernel, rfl, by decide +kernel, by decide +kernel⟩
def spHolds : Sp := fun vs H Q _ => ∃ (v : V) (d : D) (e : Int), vs = [v, .int e] ∧ Td H v d ∧ ETest d ∧ Q (.bl (holdsM d e)) H
theorem ok_holds (T : Txt K mg) (dm : Def K mg "_law_holds" s__law_holds ["_law_test_here", "_law_early"]) : Cal P w K mg base 1 "_law_holds" ["_law_test_here", "_law_early"] spHolds := by
  refine dm.ok sc_law_holds (fun vs H Q E h => ?_) (fun f cdv A outer s H vs Q E hr h => ?_)
  · obtain ⟨v, d, e, rfl, _⟩ := h
    rfl
  obtain ⟨v, d, e, rfl, hd, ht, q⟩ := h
  refine ⟨_, (pss_one (ps_ret (pe_ifExp (pt_cmpR op_eq (pe_ix ix_tup (pv 0) pe_int (fun _ _ => rfl)) pe_str (nomark _)) (pe_cmpR op_lt (pv 1) (pe_ix ix_tup (pv 0) pe_int (fun _ _ => rfl)) (nomark _)) (pe_cmpR op_eq (pe_op op_mod (pv 1) (pe_ix ix_tup (pv 0) pe_int (fun _ _ => rfl))) (pe_ix ix_tup (pv 0) pe_int (fun _ _ => rfl)) (nomark _))))), ?_⟩
  obtain ⟨a, xs, rfl, ha⟩ : ∃ a xs, v = .ref a ∧ H a = some (.tup xs) := by
    cases ht with
    | below n =>
      obtain ⟨a, xs, e, ha, _⟩ := hd.tup_inv
      exact ⟨a, xs, e, ha⟩
    | rest n m _ =>
      obtain ⟨a, xs, e, ha, _⟩ := hd.tup_inv
      exact ⟨a, xs, e, ha⟩
  cases ht with
  | below n =>
    obtain ⟨a, xs, e0, ha, _, hx⟩ := hd.tup_inv
    obtain ⟨x1, xs, rfl, h1, hx⟩ := hx.cons_inv
    obtain ⟨x2, xs, rfl, h2, hx⟩ := hx.cons_inv
    obtain rfl := hx.nil_inv
    obtain ⟨rfl, _⟩ := h1.str_inv
    obtain rfl := h2.int_inv
    injection e0 with e0
    subst e0
    refine ⟨_, rfl, _, _, _, _, rfl, rfl, SqT.of (ha), at0, rfl, _, rfl, ?_⟩
    refine iteT ?_
    exact ⟨_, rfl, _, rfl, _, _, _, _, rfl, rfl, SqT.of (ha), at1, _, _, rfl, rfl, q⟩
  | rest n m hn =>
    obtain ⟨a, xs, e0, ha, _, hx⟩ := hd.tup_inv
    obtain ⟨x1, xs, rfl, h1, hx⟩ := hx.cons_inv
    obtain ⟨x2, xs, rfl, h2, hx⟩ := hx.cons_inv
    obtain ⟨x3, xs, rfl, h3, hx⟩ := hx.cons_inv
    obtain rfl := hx.nil_inv
    obtain ⟨rfl, _⟩ := h1.str_inv
    obtain rfl := h2.int_inv
    obtain rfl := h3.int_inv
    injection e0 with e0
    subst e0
    refine ⟨_, rfl, _, _, _, _, rfl, rfl, SqT.of (ha), at0, rfl, _, rfl, ?_⟩
    refine iteF ?_
    refine ⟨_, rfl, _, rfl, _, _, _, _, rfl, rfl, SqT.of (ha), at1, _, _, rfl, rfl, hn, _, rfl, _, _, _, _, rfl, rfl, SqT.of (ha), at2, rfl, ?_⟩
    have e : decide (V.int (e % n) = V.int m) = decide (e % n = m) := by
      by_cases h : e % n = m
      · rw [h, decide_eq_true rfl, decide_eq_true rfl]
      · rw [decide_eq_false h, decide_eq_false (fun z => h (by injection z))]
    rw [e]
    exact q

abbrev n__law_parts : List Str := ["_law_one"]
theorem sc_law_parts : FnScope n__law_parts ["_law_one"] (defScope s__law_parts) := ⟨rfl, rfl, rfl, by decide +kernel, rfl, by decide +kernel, by decide +kernel⟩
theorem ok_lparts (T : Txt K mg) (d : Def K mg "_law_parts" s__law_parts ["_law_one"]) : Cal P w K mg base 1 "_law_parts" ["_law_one"] spPartsOf := by
  refine d.ok sc_law_parts (fun vs H Q E h => ?_) (fun f cdv A outer s H vs Q E hr h => ?_)
  · obtain ⟨v, d, ps, rfl, _⟩ := h
    rfl
  obtain ⟨v, d, ps, rfl, hd, hp, q⟩ := h
  refine ⟨_, (pss_cons (ps_if (pt_cmpR op_in_seq (pe_ix ix_tup (pv 0) pe_int (fun _ _ => rfl)) (pe_lst (pa_cons pe_str (pa_cons pe_str (pa_cons pe_str (pa_cons pe_str (pa_cons pe_str pa_nil)))))) rfl) (pss_one (ps_ret (pe_lst pa_nil))) pss_nil)
      (pss_one (ps_ret (pe_ifExp (pt_cmpR op_eq (pe_ix ix_tup (pv 0) pe_int (fun _ _ => rfl)) pe_str (nomark _)) (pe_callTy call_list_of (by rfl) T.f_list (by decide +kernel) (pa_cons (pe_ix ix_tup (pv 0) (pe_un un_neg pe_int) (fun _ _ => rfl)) pa_nil)) (pe_callTy call_list_of (by rfl) T.f_list (by decide +kernel) (pa_cons (pe_slice sl_tupA (pv 0) (po_some pe_int) po_none) pa_nil)))))), ?_⟩
  obtain ⟨k, r, rfl⟩ : ∃ k r, d = .tup (.str k :: r) := by
    unfold partsD at hp
    split at hp
    · exact ⟨_, _, rfl⟩
    · cases hp
  obtain ⟨a, xs0, rfl, ha, hal, hx0⟩ := hd.tup_inv
  obtain ⟨x1, xs, rfl, hk, hx⟩ := hx0.cons_inv
  obtain ⟨rfl, _⟩ := hk.str_inv
  have hp : (if leafK.contains k = true then some [] else if k = "call" then r.getLast?.bind D.toTup else some r) = some ps := hp
  refine ⟨_, rfl, _, _, _, _, rfl, rfl, SqT.of (ha), at0, (by show 5 ≤ sizeLine; decide), fun p0 hp0 => ?_⟩
  refine ⟨_, _, rfl, .inl (.inl (.inl upd_same)), rfl, flat_strs leafK, _, rfl, ?_⟩
  have S0 : Same H (upd H p0 (.lst (leafK.map V.str))) := Same.new hp0 _
  have fr : ∀ p, upd H p0 (.lst (leafK.map V.str)) p = none → H p = none := fun p hh => by
    cases e : H p with
    | none => rfl
    | some o => rw [S0 _ _ e] at hh; cases hh
  refine ite2 (fun c1 => ?_) (fun c1 => ?_)
  · have c1' : leafK.contains k = true := by
      rw [← inV_strs]
      exact c1
    rw [if_pos c1'] at hp
    obtain rfl := (Option.some.inj hp).symm
    refine ⟨(by show 0 ≤ sizeLine; decide), fun p hp => q _ p [] (Same.new' S0 hp _) (fr p hp) upd_same .nil⟩
  · have c1' : ¬ leafK.contains k = true := fun z => c1 (by rw [← inV_strs] at z; exact z)
    rw [if_neg c1'] at hp
    have ha1 := S0 _ _ ha
    refine ⟨_, rfl, _, _, _, _, rfl, rfl, SqT.of (ha1), at0, rfl, _, rfl, ?_⟩
    refine ite2 (fun c2 => ?_) (fun c2 => ?_)
    · have e2 : k = "call" := by
        have := of_decide_eq_true c2
        injection this
      rw [if_pos e2] at hp
      obtain ⟨dl, hl1, hl2⟩ := Option.bind_eq_some_iff.mp hp
      obtain ⟨y, hy1, hy2⟩ := at_last (x := V.str k) hx hl1
      obtain rfl : dl = .tup ps := by
        cases dl with
        | tup l => exact congrArg D.tup (Option.some.inj hl2)
        | _ => cases hl2
      obtain ⟨b, zs, rfl, hb, _, hz⟩ := hy2.tup_inv
      refine ⟨_, rfl, _, rfl, _, _, _, _, rfl, rfl, SqT.of ha1, hy1, _, _, rfl, .inr (SqT.of (S0 _ _ hb)), fun l hl => ?_⟩
      exact q _ l zs (Same.new' S0 hl _) (fr l hl) upd_same (hz.mono (Same.kp (Same.new' S0 hl _)))
    · have e2 : ¬ k = "call" := fun z => c2 (decide_eq_true (congrArg V.str z))
      rw [if_neg e2] at hp
      obtain rfl := Option.some.inj hp
      have full : ∀ (H1 : Hp) (b : Addr), Same H H1 → SqT K H1 b xs → ∀ l, H1 l = none → Q (.ref l) (upd H1 l (.lst xs)) := fun H1 b S1 _ l hl =>
        q _ l xs (Same.new' S1 hl _) (by
          cases e : H l with
          | none => rfl
          | some o => rw [S1 _ _ e] at hl; cases hl) upd_same (hx.mono (Same.kp (Same.new' S1 hl _)))
      have hcut : cutV (V.str k :: xs) (some 1) none = xs := by
        unfold cutV
        rw [show HT.sIx (V.str k :: xs).length 0 (some 1) = 1 from (by show min 1 _ = 1; simp), HT.sIx_none]
        simp
      refine ⟨_, rfl, _, rfl, _, _, rfl, SqT.of ha1, (fun z => absurd z.1 (by show ¬ min 1 (xs.length + 1) = 0; omega)), fun _ p hp => ?_⟩
      rw [hcut]
      refine ⟨_, _, rfl, .inr (SqT.of upd_same), full _ p (Same.new' S0 hp _) (SqT.of upd_same)⟩

abbrev n__law_calls : List Str := ["_law_one", "_law_found", "_law_part"]
theorem sc_law_calls : FnScope n__law_calls ["_law_one"] (defScope s__law_calls) := ⟨rfl, rfl, rfl, by decide +kernel, rfl, by decide +kernel, by decide +kernel⟩
theorem step_lcalls {n : Nat} (T : Txt K mg) (d : Def K mg "_law_calls" s__law_calls ["_law_one"]) (c_l_parts : Cal P w K mg base 1 "_law_parts" ["_law_one"] spPartsOf) (c_l_calls : Cal P w K mg base (n + 1) "_law_calls" ["_law_one"] (spCalls n)) :
    Cal P w K mg base (n + 1 + 1) "_law_calls" ["_law_one"] (spCalls (n + 1)) := by
  refine d.ok sc_law_calls (fun vs H Q E h => ?_) (fun f cdv A outer s H vs Q E hr h => ?_)
  · obtain ⟨v, d, m, cs, _, rfl, _⟩ := h
    rfl
  obtain ⟨v, d, m, cs, hm, rfl, hd, hc, hz, q⟩ := h
  refine ⟨_, (pss_cons (ps_set (i := 1) sc_law_calls.nd rfl (Or.inl rfl) (pe_ifExp (pt_cmpR op_eq (pe_ix ix_tup (pv 0) pe_int (fun _ _ => rfl)) pe_str (nomark _)) (pe_lst (pa_cons (pv 0) pa_nil)) (pe_lst pa_nil)))
      (pss_cons (ps_for PassesOwn.never rfl (pi_list (pe_cal c_l_parts (hr.mono (by omega)) (pa_cons (pv 0) pa_nil))) (pg_name (i := 2) sc_law_calls.nd rfl (Or.inl rfl)) (pss_one (ps_set (i := 1) sc_law_calls.nd rfl (Or.inl rfl) (pe_op op_cat (pv 1) (pe_cal c_l_calls (hr.mono (by omega)) (pa_cons (pv 2) pa_nil))))))
      (pss_one (ps_ret (pv 1))))), ?_⟩
  cases m with
  | zero => cases hc
  | succ m =>
  obtain ⟨ps, hp, hc1⟩ := Option.bind_eq_some_iff.mp hc
  obtain ⟨c2, hc2, hcs⟩ := Option.map_eq_some_iff.mp hc1
  subst hcs
  obtain ⟨k, r, rfl⟩ : ∃ k r, d = .tup (.str k :: r) := by
    unfold partsD at hp
    split at hp
    · exact ⟨_, _, rfl⟩
    · cases hp
  have hd' := hd
  obtain ⟨a, xs0, rfl, ha, hal, hx0⟩ := hd.tup_inv
  obtain ⟨x1, xs, rfl, hk, hx⟩ := hx0.cons_inv
  obtain ⟨rfl, _⟩ := hk.str_inv
  -- the loop
  have rest : ∀ (H1 : Hp) (b : Addr) (ys : List V), Same H H1 → H1 b = some (.lst ys) → Tds H1 ys (ownD (.tup (.str k :: r))) →
      tSeq (tFor (iList K (tCall spPartsOf [] E0 (tCons (tVar 0) tNil))) (gName 2) (tAsg (tOp rCat (tVar 1) (tCall (spCalls n) [] E0 (tCons (tVar 2) tNil))) (gName 1))) (tRet (tVar 1)) { nx := fun _ H' => Q .non H', rt := Q } [some (.ref a), some (.ref b), none] H1 := by
    intro H1 b ys S1 hb hys
    refine ⟨_, rfl, .ref a, _, ps, rfl, hd'.mono (Same.kp S1), hp, fun H2 p zs S2 hp0 hp hzs => ?_⟩
    have S12 := S1.trans S2
    refine ⟨p, rfl, ⟨_, SqL.of hp⟩, for_srv (Srv.lst (P := fun H => SqL K H p zs) fun _ h => h) (fun i σ H' => ∃ (b : Addr) (ys : List V) (x : Option V) (cs : List D), σ = [some (.ref a), some (.ref b), x] ∧ Same H H' ∧ H' b = some (.lst ys) ∧
      H' p = some (.lst zs) ∧ Tds H' zs ps ∧ callsL (callsD m) (ps.take i) = some cs ∧ Tds H' ys (ownD (.tup (.str k :: r)) ++ cs)) (fun i σ H' ⟨_, _, _, _, _, _, _, h, _⟩ => SqL.of h) ?_ ?_ ?_⟩
    · exact ⟨b, ys, none, [], rfl, S12, S2 _ _ hb, hp, hzs, by rw [List.take_zero]; rfl, by rw [List.append_nil]; exact hys.mono (Same.kp S2)⟩
    · rintro i x σ H3 hx ⟨b, ys, x', cs, rfl, S3, hb, hp, hzs, hcs, hys⟩
      obtain ⟨e, he, ht⟩ := hzs.get hx
      obtain ⟨hi, he'⟩ := List.getElem?_eq_some_iff.mp he
      obtain ⟨c1, c2', h1, h2, h3, h4⟩ := callsL_at hc2 hi
      rw [hcs] at h1
      obtain rfl := Option.some.inj h1
      rw [he'] at h2
      refine ⟨_, rfl, _, rfl, x, e, m, c2', by omega, rfl, ht, h2, by simp only [List.length_append] at hz; omega, fun p2 ws H4 S4 hp2 hws => ?_⟩
      have l1 := hys.length
      have l2 := hws.length
      simp only [List.length_append] at l1 hz
      refine ⟨b, p2, ys, ws, rfl, rfl, S4 _ _ hb, hp2, sz100 (by omega), fun p3 hp3 => ?_⟩
      have S5 := Same.new hp3 (.lst (ys ++ ws))
      refine ⟨p3, ys ++ ws, some x, cs ++ c2', rfl, Same.new' (S3.trans S4) hp3 _, upd_same, S5 _ _ (S4 _ _ hp), hzs.mono (Same.kp (S4.trans S5)), h3, ?_⟩
      have z := (hys.mono (Same.kp (S4.trans S5))).append (hws.mono (Same.kp S5))
      rw [List.append_assoc] at z
      exact z
    · rintro σ H3 ⟨b, ys, x', cs, rfl, S3, hb, hp, hzs, hcs, hys⟩
      rw [hzs.length, List.take_length, hc2] at hcs
      obtain rfl := Option.some.inj hcs
      exact ⟨_, rfl, q b ys H3 S3 hb hys⟩
  refine ⟨_, rfl, _, _, _, _, rfl, rfl, SqT.of (ha), at0, rfl, _, rfl, ?_⟩
  refine ite2 (fun c1 => ?_) (fun c1 => ?_)
  · have e : k = "call" := by
      have := of_decide_eq_true c1
      injection this
    refine ⟨_, rfl, (by show 1 ≤ sizeLine; decide), fun p hp => ?_⟩
    refine rest _ p _ (Same.new hp _) upd_same ?_
    show Tds _ _ (if k = "call" then _ else _)
    rw [if_pos e]
    exact .one (hd'.mono (Same.kp (Same.new hp _)))
  · have e : ¬ k = "call" := fun z => c1 (decide_eq_true (congrArg V.str z))
    refine ⟨(by show 0 ≤ sizeLine; decide), fun p hp => ?_⟩
    refine rest _ p _ (Same.new hp _) upd_same ?_
    show Tds _ _ (if k = "call" then _ else _)
    rw [if_neg e]
    exact .nil
theorem ok_lcalls (T : Txt K mg) (d : Def K mg "_law_calls" s__law_calls ["_law_one"]) (c_l_parts : Cal P w K mg base 1 "_law_parts" ["_law_one"] spPartsOf) : ∀ n : Nat, Cal P w K mg base (n + 1) "_law_calls" ["_law_one"] (spCalls n)
  | 0 => (Cal.none d fun vs H Q E ⟨_, _, m, _, h, _⟩ => absurd h (Nat.not_lt_zero m)).mono (by omega)
  | n + 1 => step_lcalls T d c_l_parts (ok_lcalls T d c_l_parts n)

abbrev n__law_alike : List Str := ["_law_found", "_law_due", "_law_k"]
theorem sc_law_alike : FnScope n__law_alike ["_law_found", "_law_due"] (defScope s__law_alike) := ⟨rfl, rfl, rfl, by decide +kernel, rfl, by decide +kernel, by decide +kernel⟩
/-- what is compared here -/
inductive Al : Nat → D → D → Bool → Prop
  | bl (n : Nat) (x y : Bool) : Al n (.bl x) (.bl y) (x == y)
  | int (n : Nat) (i : Int) : Al n (.int i) (.int i) true
  | non (n : Nat) : Al n .non .non true
  | two (n : Nat) (i j : Int) : Al (n + 1) (.tup [.int i, .int j]) (.tup [.int i, .int j]) true
def spAlike (n : Nat) : Sp := fun vs H Q _ => ∃ (v u : V) (d e : D) (m : Nat) (b : Bool), m < n ∧ vs = [v, u] ∧ Td H v d ∧ Td H u e ∧ Al m d e b ∧ ∀ H', Same H H' → Q (.bl b) H'
theorem step_alike {n : Nat} (T : Txt K mg) (dm : Def K mg "_law_alike" s__law_alike ["_law_found", "_law_due"]) (c_l_alike : Cal P w K mg base (n + 1) "_law_alike" ["_law_found", "_law_due"] (spAlike n)) : Cal P w K mg base (n + 1 + 1) "_law_alike" ["_law_found", "_law_due"] (spAlike (n + 1)) := by
  refine dm.ok sc_law_alike (fun vs H Q E h => ?_) (fun f cdv A outer s H vs Q E hr h => ?_)
  · obtain ⟨v, u, d, e, m, b, _, rfl, _⟩ := h
    rfl
  obtain ⟨v, u, d, e, m, b, hm, rfl, hd, he, hal, q⟩ := h
  refine ⟨_, (pss_cons (ps_if (pt_val (pe_callB call_isiT (by rfl) T.f_isinstance (by decide +kernel) (pa_cons (pv 1) (pa_cons (pe_tup (pa_cons (pe_ty "tuple" T.f_tuple) (pa_cons (pe_ty "list" T.f_list) pa_nil))) pa_nil)))) (pss_cons (ps_if (PW.pt (pw_or (pt_not (pt_val (pe_callB call_isiT (by rfl) T.f_isinstance (by decide +kernel) (pa_cons (pv 0) (pa_cons (pe_tup (pa_cons (pe_ty "tuple" T.f_tuple) (pa_cons (pe_ty "list" T.f_list) pa_nil))) pa_nil))))) (pw_or1 (pt_cmpR op_ne (pe_callB call_isi (by rfl) T.f_isinstance (by decide +kernel) (pa_cons (pv 0) (pa_cons (pe_ty "list" T.f_list) pa_nil))) (pe_callB call_isi (by rfl) T.f_isinstance (by decide +kernel) (pa_cons (pv 1) (pa_cons (pe_ty "list" T.f_list) pa_nil))) (nomark _))))) (pss_one (ps_ret pe_bl)) pss_nil)
      (pss_cons (ps_if (pt_cmpR op_ne (pe_callB call_len_seq (by rfl) T.f_len PySem.boot_len (pa_cons (pv 0) pa_nil)) (pe_callB call_len_seq (by rfl) T.f_len PySem.boot_len (pa_cons (pv 1) pa_nil)) (nomark _)) (pss_one (ps_ret pe_bl)) pss_nil)
      (pss_one (ps_ret (pe_cmpR (op_eqNil hr.units0) (pe_lc (own := [("_law_k", 2)]) (g := (gName 2))  rfl sc_law_alike.nd (pi_range1 rfl T.f_range (pa_cons (pe_callB call_len_seq (by rfl) T.f_len PySem.boot_len (pa_cons (pv 1) pa_nil)) pa_nil)) (blkOk_by (N := n__law_alike) (sc := defScope s__law_alike) (by decide +kernel)) (fun _ _ _ _ _ => (pg_name (i := 2) sc_law_alike.nd rfl (Or.inl rfl))) (fun _ _ _ _ _ => pts_one (pt_not (pt_val (pe_cal c_l_alike (hr.mono (by omega)) (pa_cons (pe_ix (ix_tupK (K := K) rfl) (pv 0) (pv 2) (fun _ _ => rfl)) (pa_cons (pe_ix (ix_tupK (K := K) rfl) (pv 1) (pv 2) (fun _ _ => rfl)) pa_nil)))))) (fun _ _ _ _ _ => (pv 2))) (pe_lst pa_nil) (nomark _)))))) pss_nil)
      (pss_cons (ps_if (PW.pt (pw_or (pt_cmpR op_isN (pv 1) pe_non (nomark _)) (pw_or1 (pt_val (pe_callB call_isi (by rfl) T.f_isinstance (by decide +kernel) (pa_cons (pv 1) (pa_cons (pe_ty "str" T.f_str) pa_nil))))))) (pss_one (ps_ret (pe_and (pe_cmpR op_eq (pv 0) (pv 1) (nomark _)) (pe_one (pe_cmpR op_eq (pe_callB call_isi (by rfl) T.f_isinstance (by decide +kernel) (pa_cons (pv 0) (pa_cons (pe_ty "str" T.f_str) pa_nil))) (pe_callB call_isi (by rfl) T.f_isinstance (by decide +kernel) (pa_cons (pv 1) (pa_cons (pe_ty "str" T.f_str) pa_nil))) (nomark _)))))) pss_nil)
      (pss_one (ps_ret (pe_and (pe_callB call_isi (by rfl) T.f_isinstance (by decide +kernel) (pa_cons (pv 0) (pa_cons (pe_ty "int" T.f_int) pa_nil))) (pe_and (pe_cmpR op_eq (pe_callB call_isi (by rfl) T.f_isinstance (by decide +kernel) (pa_cons (pv 0) (pa_cons (pe_ty "bool" T.f_bool) pa_nil))) (pe_callB call_isi (by rfl) T.f_isinstance (by decide +kernel) (pa_cons (pv 1) (pa_cons (pe_ty "bool" T.f_bool) pa_nil))) (nomark _)) (pe_one (pe_cmpR op_eq (pv 0) (pv 1) (nomark _))))))))), ?_⟩
  refine ⟨_, rfl, (by show 2 ≤ sizeLine; decide), fun tp htp => ?_⟩
  have S1 : Same H (upd H tp (.tup [.ty "tuple", .ty "list"])) := Same.new htp _
  have hd1 := hd.mono (Same.kp S1)
  have he1 := he.mono (Same.kp S1)
  refine ⟨_, _, _, _, _, _, rfl, upd_same, .cons (.ty _) (.cons (.ty _) .nil), he1.tyx, kit_tl _, _, rfl, ?_⟩
  have q0 := q _ S1
  cases hal with
  | bl n x y =>
    obtain rfl := hd.bl_inv
    obtain rfl := he.bl_inv
    refine iteF ?_
    refine ⟨_, rfl, rfl, _, rfl, ?_⟩
    refine iteF ?_
    refine ⟨_, rfl, _, _, _, _, _, rfl, .ty _, Td.tyx (he1), kit_ty (kit_str _), _, rfl, ?_⟩
    refine iteF ?_
    refine ⟨_, rfl, _, _, _, _, _, rfl, .ty _, Td.tyx (hd1), kit_ty (kit_int _), _, rfl, ?_⟩
    refine iteT ?_
    refine ⟨_, rfl, _, _, _, _, _, rfl, .ty _, Td.tyx (hd1), kit_ty (kit_bool _), _, rfl, _, _, _, _, _, rfl, .ty _, Td.tyx (he1), kit_ty (kit_bool _), rfl, _, rfl, ?_⟩
    refine iteT ?_
    refine ⟨_, rfl, _, rfl, rfl, ?_⟩
    have e : decide (V.bl x = V.bl y) = (x == y) := by cases x <;> cases y <;> rfl
    rw [e]
    exact q0
  | int n i =>
    obtain rfl := hd.int_inv
    obtain rfl := he.int_inv
    refine iteF ?_
    refine ⟨_, rfl, rfl, _, rfl, ?_⟩
    refine iteF ?_
    refine ⟨_, rfl, _, _, _, _, _, rfl, .ty _, Td.tyx (he1), kit_ty (kit_str _), _, rfl, ?_⟩
    refine iteF ?_
    refine ⟨_, rfl, _, _, _, _, _, rfl, .ty _, Td.tyx (hd1), kit_ty (kit_int _), _, rfl, ?_⟩
    refine iteT ?_
    refine ⟨_, rfl, _, _, _, _, _, rfl, .ty _, Td.tyx (hd1), kit_ty (kit_bool _), _, rfl, _, _, _, _, _, rfl, .ty _, Td.tyx (he1), kit_ty (kit_bool _), rfl, _, rfl, ?_⟩
    refine iteT ?_
    refine ⟨_, rfl, _, rfl, rfl, ?_⟩
    rw [decide_eq_true rfl]
    exact q0
  | non n =>
    obtain rfl := hd.non_inv
    obtain rfl := he.non_inv
    refine iteF ?_
    refine ⟨_, rfl, rfl, _, rfl, ?_⟩
    refine iteT ?_
    refine iteT ?_
    refine ⟨_, rfl, _, rfl, rfl, _, rfl, ?_⟩
    rw [decide_eq_true rfl]
    refine iteT ?_
    exact ⟨_, rfl, _, _, _, _, _, rfl, .ty _, Td.tyx (hd1), kit_ty (kit_str _), _, rfl, _, _, _, _, _, rfl, .ty _, Td.tyx (he1), kit_ty (kit_str _), rfl, q0⟩
  | two m i j =>
    refine iteT ?_
    obtain ⟨a, xs, rfl, ha, _, hx⟩ := hd1.tup_inv
    obtain ⟨c, zs, rfl, hc, _, hz⟩ := he1.tup_inv
    have hxe := map_ints (env := [i, j]) hx
    have hze := map_ints (env := [i, j]) hz
    subst hxe hze
    refine ⟨_, rfl, (by show 2 ≤ sizeLine; decide), fun tq htq => ?_⟩
    have S2 := Same.new htq (.tup [.ty "tuple", .ty "list"])
    have hd2 := hd1.mono (Same.kp S2)
    have he2 := he1.mono (Same.kp S2)
    have ha2 := S2 _ _ ha
    have hc2 := S2 _ _ hc
    have S12 := S1.trans S2
    refine ⟨_, _, _, _, _, _, rfl, upd_same, .cons (.ty _) (.cons (.ty _) .nil), hd2.tyx, kit_tl _, _, rfl, ?_⟩
    refine iteF ?_
    refine ⟨_, rfl, _, _, _, _, _, rfl, .ty _, Td.tyx (hd2), kit_ty (kit_list _), _, rfl, _, _, _, _, _, rfl, .ty _, Td.tyx (he2), kit_ty (kit_list _), rfl, _, rfl, ?_⟩
    rw [decide_eq_true rfl]
    refine iteF ?_
    refine ⟨_, rfl, _, _, rfl, .inr (SqT.of (ha2)), _, rfl, _, _, rfl, .inr (SqT.of (hc2)), rfl, _, rfl, ?_⟩
    rw [decide_eq_true rfl]
    refine iteF ?_
    generalize upd (upd H tp (.tup [.ty "tuple", .ty "list"])) tq (.tup [.ty "tuple", .ty "list"]) = H2 at S12 hd2 he2 ha2 hc2
    refine ⟨_, rfl, _, _, rfl, .inr (SqT.of (hc2)), 2, rfl, by decide, by decide, fun D hD => ?_⟩
    refine lc_srv (Srv.rng (P := fun _ => True) 2) (fun k H' => Same H2 H' ∧ H' D = some (.lst [])) (fun _ _ _ => True.intro) ⟨Same.new hD _, upd_same⟩ ?_ ?_
    · rintro k x H3 hk ⟨S3, hl⟩
      have hki : ∃ y, x = .int (k : Nat) ∧ [i, j][k]? = some y := by
        match k, hk with
        | 0, hk => exact ⟨i, (Option.some.inj hk).symm, rfl⟩
        | 1, hk => exact ⟨j, (Option.some.inj hk).symm, rfl⟩
      obtain ⟨y, rfl, hy⟩ := hki
      have hat : atI [V.int i, V.int j] (k : Int) = some (.int y) := by
        refine atI_nat ?_
        show ([i, j].map V.int)[k]? = _
        rw [List.getElem?_map, hy]
        rfl
      refine ⟨rfl, ?_⟩
      refine ⟨_, rfl, _, rfl, _, _, _, _, rfl, rfl, SqT.of (S3 _ _ ha2), hat, _, rfl, _, rfl, _, _, _, _, rfl, rfl, SqT.of (S3 _ _ hc2), hat, .int y, .int y, .int y, .int y, m, true, by omega, rfl, .int y, .int y, .int m y, fun H4 S4 => ?_⟩
      refine ⟨_, rfl, ?_⟩
      exact iteF ⟨S3.trans S4, S4 _ _ hl⟩
    · rintro H3 ⟨S3, hl⟩
      refine ⟨(by show 0 ≤ sizeLine; decide), fun p hp => ?_⟩
      refine ⟨_, _, _, rfl, rfl, SqL.of (Same.new hp _ _ _ hl), SqL.of upd_same, ?_⟩
      exact q _ (S12.trans (Same.new' S3 hp _))
theorem ok_alike (T : Txt K mg) (dm : Def K mg "_law_alike" s__law_alike ["_law_found", "_law_due"]) : ∀ n : Nat, Cal P w K mg base (n + 1) "_law_alike" ["_law_found", "_law_due"] (spAlike n)
  | 0 => (Cal.none dm fun vs H Q E ⟨_, _, _, _, m, _, h, _⟩ => absurd h (Nat.not_lt_zero m)).mono (by omega)
  | n + 1 => step_alike T dm (ok_alike T dm n)
end
end K04
namespace K04
open PySem PySem.Spec PyProof.Rows L2
/-! ### any data among a dict's text keys -/
/-- a dict whose keys are texts -/
def TxtK (kvs : List (Key × V)) : Prop := ∀ p ∈ kvs, ∃ x, p.1 = .inr x
theorem TxtK.nil : TxtK [] := fun _ h => nomatch h
theorem TxtK.put {kvs : List (Key × V)} {x : Str} {v : V} (h : TxtK kvs) : TxtK (putK kvs (.inr x) v) := fun p hp => by
  unfold putK at hp
  split at hp
  · obtain ⟨q, hq, e⟩ := List.mem_map.mp hp
    obtain ⟨y, hy⟩ := h q hq
    subst e
    by_cases c : q.1 = .inr x
    · rw [if_pos c]; exact ⟨y, hy⟩
    · rw [if_neg c]; exact ⟨y, hy⟩
  · rcases List.mem_append.mp hp with hp | hp
    · exact h p hp
    · rw [List.mem_singleton] at hp
      subst hp
      exact ⟨x, rfl⟩
theorem TxtK.int {kvs : List (Key × V)} (h : TxtK kvs) (i : Int) : valV kvs (.inl i) = none := by
  unfold valV
  have : (kvs.find? fun kv => decide (kv.1 = .inl i)) = none := by
    rw [List.find?_eq_none]
    intro p hp c
    obtain ⟨x, hx⟩ := h p hp
    have := of_decide_eq_true c
    rw [hx] at this
    cases this
  rw [this]
  rfl
/-- bools and texts as keys -/
def bkIs : Bool ⊕ Str → Value → Bool
  | .inl b, .bool c => decide (b = c)
  | .inr x, .str y _ => decide (x = y)
  | _, _ => false
theorem bk_inl {b : Bool} {v : Value} (h : bkIs (.inl b) v = true) : v = .bool b := by
  cases v with
  | bool c =>
    have h : decide (b = c) = true := h
    rw [of_decide_eq_true h]
  | _ => exact nomatch (show false = true from h)
theorem bk_inr {x : Str} {v : Value} (h : bkIs (.inr x) v = true) : ∃ t, v = .str x t := by
  cases v with
  | str y t =>
    have h : decide (x = y) = true := h
    rw [of_decide_eq_true h]
    exact ⟨t, rfl⟩
  | _ => exact nomatch (show false = true from h)
def boolKind (prog : Program) (w : World) : PySem.KeyKind prog w (Bool ⊕ Str) where
  is := bkIs
  hash := fun k => match k with
    | .inl b => hashInt (if b = true then 1 else 0)
    | .inr x => hashStr w x
  inj := fun v a b ha hb => by
    cases a with
    | inl p =>
      have e := bk_inl ha
      subst e
      cases b with
      | inl q =>
        have e := bk_inl hb
        injection e with e
        rw [e]
      | inr x =>
        obtain ⟨t, e⟩ := bk_inr hb
        cases e
    | inr x =>
      obtain ⟨t, e⟩ := bk_inr ha
      subst e
      cases b with
      | inl q => cases bk_inl hb
      | inr y =>
        obtain ⟨t', e⟩ := bk_inr hb
        injection e with e
        rw [e]
  byValue := fun k v h => by
    cases k with
    | inl b => rw [bk_inl h]; rfl
    | inr x => obtain ⟨t, rfl⟩ := bk_inr h; rfl
  pyHash := @fun A E s k v Q hv h => by
    cases k with
    | inl b =>
      have e := bk_inl hv
      subst e
      have h' : Q (hashInt (if b = true then 1 else 0)) { s with toks := s.toks + 1 } := h
      rw [← PySem.reduce_bool] at h'
      refine W.pyHash_slot (T := "bool") rfl F.slot_bool_hash entry_int_hash (args_int_hash _) (beq_builtin_none _) (.inl rfl) ?_
      cases b
      · exact (show wpAny _ _ (do ret (← mkInt 0)) _ _ s from wpAny_bind (wpAny_mkInt (wpAny_pure ⟨_, _, rfl, h'⟩)))
      · exact (show wpAny _ _ (do ret (← mkInt 1)) _ _ s from wpAny_bind (wpAny_mkInt (wpAny_pure ⟨_, _, rfl, h'⟩)))
    | inr x =>
      obtain ⟨t, rfl⟩ := bk_inr hv
      exact wpAny_pyHash_str h
  eqBool := @fun A E s a b u v Q hu hv h => by
    cases a with
    | inl p =>
      have e := bk_inl hu
      subst e
      cases b with
      | inl q =>
        have e := bk_inl hv
        subst e
        have e : decide ((Sum.inl p : Bool ⊕ Str) = Sum.inl q) = (p == q) := by cases p <;> cases q <;> rfl
        rw [e] at h
        exact SeqAt.EqAt.bool_bool p q _ _ _ _ h
      | inr x =>
        obtain ⟨t, rfl⟩ := bk_inr hv
        rw [decide_eq_false (fun z => nomatch z)] at h
        exact SeqAt.EqAt.bool_str p x t _ _ _ _ h
    | inr x =>
      obtain ⟨t, rfl⟩ := bk_inr hu
      cases b with
      | inl q =>
        have e := bk_inl hv
        subst e
        rw [decide_eq_false (fun z => nomatch z)] at h
        exact SeqAt.EqAt.str_bool x t q _ _ _ _ h
      | inr y =>
        obtain ⟨t', rfl⟩ := bk_inr hv
        have e : decide ((Sum.inr x : Bool ⊕ Str) = Sum.inr y) = (x == y) := by
          by_cases c : x = y
          · subst c
            rw [decide_eq_true rfl, beq_self_eq_true]
          · rw [decide_eq_false (fun z => c (by injection z))]
            exact (beq_eq_false_iff_ne.mpr c).symm
        rw [e] at h
        exact SeqAt.EqAt.str_str x t y t' _ _ _ _ h
  «strs» := fun k x t v h => by
    cases k with
    | inl b => cases bk_inl h
    | inr y =>
      obtain ⟨t', e⟩ := bk_inr h
      injection e with e
      subst e
      cases v with
      | str z t =>
        show decide (x = z) = (z == x)
        by_cases c : x = z
        · subst c
          rw [decide_eq_true rfl, beq_self_eq_true]
        · rw [decide_eq_false c]
          exact (beq_eq_false_iff_ne.mpr (fun z => c z.symm)).symm
      | _ => rfl
/-- the entries' keys are texts -/
theorem keys_txt {P : Program} {w : World} {es : Array DictEntry} {vs : List (Key × Value)} (hp : Pairs (mixKind P w) es.toList vs) (ht : ∀ p ∈ vs, ∃ x, p.1 = .inr x) : ∀ e ∈ es, ∃ x t, e.key = .str x t := by
  have : ∀ (l : List DictEntry) (vs : List (Key × Value)), Pairs (mixKind P w) l vs → (∀ p ∈ vs, ∃ x, p.1 = .inr x) → ∀ e ∈ l, ∃ x t, e.key = .str x t := by
    intro l vs hp
    induction hp with
    | nil => intro _ e he; nomatch he
    | cons h1 _ h2 ih =>
      intro ht e he
      rcases List.mem_cons.mp he with rfl | he
      · obtain ⟨x, hx⟩ := ht _ List.mem_cons_self
        rw [hx] at h1
        have h1 : keyIs (.inr x) e.key = true := h1
        rcases keyIs_shape h1 with ⟨i, t, e1, _⟩ | ⟨y, t, _, e1⟩
        · cases e1
        · exact ⟨y, t, e1⟩
      · exact ih (fun p hp => ht p (List.mem_cons_of_mem _ hp)) e he
  exact fun e he => this _ _ hp ht e (Array.mem_toList_iff.mpr he)
theorem bool_map {P : Program} {w : World} {h : Heap} {a : Addr} {vs : List (Key × Value)} (d : h.DictOf (mixKind P w) a vs) (ht : ∀ p ∈ vs, ∃ x, p.1 = .inr x) (b : Bool) : ∃ f, h.MapOf (boolKind P w) a f ∧ f (.inl b) = none := by
  obtain ⟨o, es, ep, ho, hx, hdt, hk, hp, hn⟩ := d
  have hs := keys_txt hp ht
  refine ⟨fun k => findBy (boolKind P w).is es k, ⟨o, es, ep, ho, hx, hdt, fun e he => ?_, fun k => rfl⟩, ?_⟩
  · obtain ⟨x, t, e1⟩ := hs e he
    obtain ⟨k, h1, h2⟩ := hk e he
    have h1 : keyIs k e.key = true := h1
    rcases keyIs_shape h1 with ⟨i, t', _, e2⟩ | ⟨y, t', rfl, e2⟩
    · rw [e1] at e2
      cases e2
    · rw [e1] at e2
      injection e2 with e2
      subst e2
      refine ⟨.inr x, ?_, h2⟩
      show bkIs (.inr x) e.key = true
      rw [e1]
      exact decide_eq_true rfl
  · have q : (es.find? fun e => bkIs (.inl b) e.key) = none := by
      rw [Array.find?_eq_none]
      intro e he hq
      obtain ⟨x, t, e1⟩ := hs e he
      rw [e1] at hq
      cases hq
    show (es.find? fun e => bkIs (.inl b) e.key).map (·.val) = none
    rw [q] <;> rfl
section
variable {prog : Program} {w : World} {A : Around} {E : Value → Shared → Prop} {s : Shared} {d a : Addr} {o : Obj} {es : Array DictEntry} {ep : Nat} {ks : List NestedKey}
theorem tell_tup {stored : List Value} {Q : Bool → Shared → Prop} (nk : NestedIs s.heap (.tup ks) (.ref a)) (dp : (NestedKey.tup ks).depth ≤ 8) (hst : ∀ v ∈ stored, ∃ x t, v = .str x t) (h : Q false s) : wpAny (model prog w) A (tableMayTell (.ref a) stored) Q E s := by
  unfold tableMayTell
  split
  · exact wpAny_pure h
  · refine wpAny_bind (quiet_key _ _ 8 s nk dp A _ _ ?_)
    simp only [Bool.not_true, Bool.false_eq_true, if_false]
    refine wpAny_bind ?_
    refine wpAny_forIn_list _ (fun rest r s' => s' = s ∧ r = (none, ()) ∧ ∀ v ∈ rest, ∃ x t, v = .str x t) _ ?_ ?_ _ _ ⟨rfl, rfl, hst⟩
    · rintro x rest r s' ⟨rfl, rfl, hr⟩
      obtain ⟨y, t, rfl⟩ := hr x List.mem_cons_self
      rw [eqIsQuiet_byValue 8 (show carriedByValue (.str y t) = true from rfl)]
      refine wpAny_bind (wpAny_pure ?_)
      simp only [Bool.not_true, Bool.false_eq_true, if_false]
      exact wpAny_pure ⟨rfl, rfl, fun v hv => hr v (List.mem_cons_of_mem _ hv)⟩
    · rintro r s' ⟨rfl, rfl, _⟩
      exact wpAny_pure h
theorem find_tup {hsh : Int} {Q : Option Nat → Shared → Prop} (hu : A.units + 8 < cLine) (ho : s.heap.get? d = some o) (hd : o.data = .dict es ep) (hk : ∀ e ∈ es, ∃ x t, e.key = .str x t) (nk : NestedIs s.heap (.tup ks) (.ref a)) (dp : (NestedKey.tup ks).depth ≤ 8)
    (h : Q none s) : wpAny (model prog w) A (dictFind d (.ref a) hsh) Q E s := by
  have hany : ¬ (es.any fun e => e.key == Value.ref a && e.hash != hsh) = true := by
    rw [← Array.any_toList, List.any_eq_true]
    rintro ⟨e, hin, hc⟩
    obtain ⟨x, t, e1⟩ := hk e (Array.mem_toList_iff.mp hin)
    rw [e1, Bool.and_eq_true] at hc
    exact absurd (eq_of_beq hc.1) (fun z => nomatch z)
  have hst : ∀ v ∈ (placesWithHash es.size (fun i => es[i]?.map (·.hash)) hsh).filterMap (fun i => es[i]?.map (·.key)), ∃ x t, v = .str x t := by
    intro v hv
    obtain ⟨i, _, hi⟩ := List.mem_filterMap.mp hv
    cases hei : es[i]? with
    | none => rw [hei] at hi; cases hi
    | some e =>
      rw [hei] at hi
      obtain rfl : e.key = v := by simpa using hi
      exact hk e (Array.mem_of_getElem? hei)
  unfold dictFind
  try with_reducible refine wpAny_holding ?_
  refine wpAny_bind (wpAny_dictEntries ho hd ?_)
  dsimp only
  rw [if_neg (show ¬ ((Value.ref a :: (placesWithHash es.size (fun i => es[i]?.map (·.hash)) hsh).filterMap (fun i => es[i]?.map (·.key))).all carriedByValue) = true by simp [carriedByValue])]
  rw [if_neg hany]
  by_cases hone : (((placesWithHash es.size (fun i => es[i]?.map (·.hash)) hsh).filterMap (fun i => es[i]?.map (·.key))) == [Value.ref a]) = true <;>
  (first | rw [if_pos hone] | rw [if_neg hone]) <;> (first | refine wpAny_bind (wpAny_pure ?_) | refine wpAny_bind (tell_tup nk dp hst ?_)) <;> (
    rw [if_neg (by simp)]
    refine wpAny_bind ?_
    refine wpAny_forIn_list _ (fun rest b s' => s' = s ∧ b = (none, none)) _ ?_ ?_ _ _ ⟨rfl, rfl⟩
    · rintro x rest b s' ⟨rfl, rfl⟩
      cases hex : es[x]? with
      | none => exact wpAny_pure ⟨rfl, rfl⟩
      | some e =>
        obtain ⟨y, t, e1⟩ := hk e (Array.mem_of_getElem? hex)
        dsimp only
        by_cases hh : (e.hash == hsh) = true
        · rw [if_pos hh, e1]
          have hne : SeqAt.EqAt A s' (.str y t) (.ref a) false := SeqAt.EqAt.cast (eqAt_key (.text y) (.tup ks) A s' _ _ (.text y t) nk (by simp only [NestedKey.depth]; omega)) rfl
          refine wpAny_bind (wpAny_dictEpoch ho hd (wpAny_bind (hne _ _ _ _ (wpAny_bind (wpAny_dictEpoch ho hd ?_)))))
          show wpAny _ _ (if (ep != ep) = true then _ else _) _ E _
          rw [if_neg (by simp)]
          simp only [Bool.false_eq_true, if_false]
          refine wpAny_bind (wpAny_rule ?_)
          first | rw [if_neg (by simp)] | skip
          first
            | exact wpAny_pure ⟨rfl, rfl⟩
            | exact wpAny_bind (wpAny_pure (wpAny_pure ⟨rfl, rfl⟩))
        · rw [if_neg hh]
          exact wpAny_pure ⟨rfl, rfl⟩
    · rintro b s' ⟨rfl, rfl⟩
      exact wpAny_pure h)
theorem get_tup {Q : Option Value → Shared → Prop} (hu : A.units + 8 < cLine) (ho : s.heap.get? d = some o) (hd : o.data = .dict es ep) (hk : ∀ e ∈ es, ∃ x t, e.key = .str x t) (nk : NestedIs s.heap (.tup ks) (.ref a)) (dp : (NestedKey.tup ks).depth ≤ 8)
    (h : Q none { s with toks := s.toks + (NestedKey.tup ks).draws }) : wpAny (model prog w) A (dictGet d (.ref a)) Q E s := by
  unfold dictGet
  try with_reducible refine wpAny_holding ?_
  refine wpAny_bind (pyHash_key _ _ _ _ _ nk (by omega) (wpAny_bind (find_tup (s := { s with toks := s.toks + (NestedKey.tup ks).draws }) hu ho hd hk nk dp ?_)))
  exact wpAny_pure h
theorem contains_tup {Q : Bool → Shared → Prop} (hu : A.units + 9 < cLine) (ho : s.heap.get? d = some o) (hx : o.cls = .type "dict") (hd : o.data = .dict es ep) (low : (d == sysModules) = false) (hk : ∀ e ∈ es, ∃ x t, e.key = .str x t) (nk : NestedIs s.heap (.tup ks) (.ref a)) (dp : (NestedKey.tup ks).depth ≤ 8)
    (h : Q false { s with toks := s.toks + (NestedKey.tup ks).draws }) : wpAny (model prog w) A (contains (.ref d) (.ref a)) Q E s := by
  have hT : s.TypeIs (.ref d) "dict" := ⟨o, ho, hx⟩
  refine wpAny_contains_slot hT F.slot_dict_contains ?_
  refine call_meetsIn F.slot_dict_contains hT F.entry_dict_contains (F.args_dict_contains_2 _ _) (S := fun A' R s' => A' = A ∧ s' = s ∧ R (.ok (.ret (.bool false))) { s with toks := s.toks + (NestedKey.tup ks).draws }) (fun A' R s' hS => ?_) ⟨rfl, rfl, wpAny_truthy_bool h⟩
  obtain ⟨rfl, rfl, hq⟩ := hS
  show wpAny _ _ (dictGet d (.ref a) >>= _) _ _ _
  refine wpAny_bind (get_tup (by simp only [Around.in1_units]; omega) ho hd hk nk dp ?_)
  show wpAny _ _ (Builtin.Dict.pendingKey? d (.ref a) >>= _) _ _ _
  exact wpAny_bind (wpAny_pendingKey_other low (wpAny_pure hq))
end
theorem hu9 {A : Around} {k : Nat} (hr : Room k A) : A.units + 9 < cLine := by have := hr.un; omega
theorem hu64 {A : Around} {k : Nat} (hr : Room k A) : A.units + 64 < cLine := by have := hr.un; omega
theorem hu65 {A : Around} {k : Nat} (hr : Room k A) : A.units + 65 < cLine := by have := hr.un; omega
/-! ### data as keys -/
mutual
def D.key : D → NestedKey
  | .non => .none
  | .bl b => .num (if b = true then 1 else 0)
  | .int i => .num i
  | .str s => .text s
  | .tup l => .tup (D.keys l)
def D.keys : List D → List NestedKey
  | [] => []
  | d :: r => d.key :: D.keys r
end
section
variable {X : Cx} {pins : List (Addr × Obj)} {σ : L2.St} {H : Hp} {s : Shared}
mutual
theorem key_is (I : Inv X pins σ H s) : ∀ (d : D) (v : V) (u : Value), Td H v d → RelV v u → NestedIs s.heap d.key u
  | .non, _, _, h, r => by
    obtain rfl := h.non_inv
    cases (show _ = Value.none from r)
    exact .none
  | .bl b, _, _, h, r => by
    obtain rfl := h.bl_inv
    cases (show _ = Value.bool b from r)
    exact .bool rfl
  | .int i, _, _, h, r => by
    obtain rfl := h.int_inv
    obtain ⟨t, rfl⟩ := (show ∃ t, _ = Value.int i t from r)
    exact .int i t
  | .str x, _, _, h, r => by
    obtain ⟨rfl, _⟩ := h.str_inv
    obtain ⟨t, rfl⟩ := (show ∃ t, _ = Value.str x t from r)
    exact .text x t
  | .tup l, _, _, h, r => by
    obtain ⟨a, xs, rfl, ha, _, hx⟩ := h.tup_inv
    cases (show _ = Value.ref a from r)
    obtain ⟨its, rv, ⟨o, ho, hc, n, hd⟩, _⟩ := I.tuple (SqT.of ha)
    exact .tup ho hc hd (keys_is I l xs its hx rv)
theorem keys_is (I : Inv X pins σ H s) : ∀ (l : List D) (vs : List V) (us : List Value), Tds H vs l → Vals vs us → NestedAll s.heap (D.keys l) us
  | [], _, _, h, r => by
    obtain rfl := h.nil_inv
    cases r
    exact .nil
  | d :: l, _, _, h, r => by
    obtain ⟨x, xs, rfl, h1, h2⟩ := h.cons_inv
    cases r with
    | cons r1 r2 => exact .cons (key_is I d _ _ h1 r1) (keys_is I l _ _ h2 r2)
end
end
/-- the value at a key of any kind -/
def valD (kvs : List (Key × V)) : D → Option V
  | .str s => valV kvs (.inr s)
  | _ => none
/-- y not in d, d's keys texts -/
def tDNotInA (ty td : TE) : TE := fun σ H Q => ty σ H fun y H1 => td σ H1 fun x H2 => ∃ a kvs d, x = .ref a ∧ H2 a = some (.dK kvs) ∧ TxtK kvs ∧ Td H2 y d ∧ d.key.depth ≤ 8 ∧ Q (.bl (!(valD kvs d).isSome)) H2
theorem pc_dnotinA {X : Cx} {i o : Expr} {ty td : TE} (hu : X.A.units + 9 < cLine) (hi : PE X i ty) (ho : PE X o td) : PC X .NotIn i o (tDNotInA ty td) := by
  refine ⟨fun pins s σ H Q I h => ?_⟩
  refine thn (hi.run pins s σ H _ I h) fun iv s1 ⟨y, H1, I1, ry, q1⟩ => thn (ho.run pins s1 σ H1 _ I1 q1) fun u s2 ⟨x, H2, I2, rx, a, kvs, d, ex, hk, tk, hd, dp, q2⟩ => ?_
  subst ex
  obtain rfl : u = Value.ref a := rx
  have hnk := key_is I2 d y iv hd ry
  obtain ⟨z, low, vs, rel, dd⟩ := dk_rd I2.hok (.inl hk)
  have ht : ∀ p ∈ vs, ∃ x, p.1 = .inr x := fun p hp => by
    have e := rel.keys
    have : p.1 ∈ kvs.map (·.1) := by rw [e]; exact List.mem_map_of_mem hp
    obtain ⟨q, hq, e2⟩ := List.mem_map.mp this
    obtain ⟨x, hx⟩ := tk q hq
    exact ⟨x, by rw [← e2]; exact hx⟩
  cases d with
  | str x =>
    obtain ⟨rfl, _⟩ := hd.str_inv
    exact d_notIn (by omega) I2 (DGet.k (k := .inr x) hk) ry fun s3 I3 => ⟨.bl (!(valV kvs (.inr x)).isSome), H2, I3, rfl, q2⟩
  | int j =>
    obtain rfl := hd.int_inv
    refine d_notIn (by omega) I2 (DGet.k (k := .inl j) hk) ry fun s3 I3 => ?_
    rw [tk.int j]
    exact ⟨.bl true, H2, I3, rfl, q2⟩
  | non =>
    obtain rfl := hd.non_inv
    obtain rfl : iv = Value.none := ry
    exact d_notInNone I2 (.inl hk) fun s3 I3 => ⟨.bl true, H2, I3, rfl, q2⟩
  | bl b =>
    obtain rfl := hd.bl_inv
    obtain rfl : iv = Value.bool b := ry
    obtain ⟨f, hm, hf⟩ := bool_map dd ht b
    refine wpAny_notIn_of (show (boolKind X.prog X.w).is (.inl b) (.bool b) = true from decide_eq_true rfl) low hm ?_
    rw [hf]
    exact ⟨.bl true, H2, I2.tok _, rfl, q2⟩
  | tup l =>
    obtain ⟨b, xs, rfl, _⟩ := hd.tup_inv
    obtain rfl : iv = Value.ref b := ry
    obtain ⟨oo, es, ep, h1, h2, h3, h4, h5, h6⟩ := dd
    show wpAny _ _ (contains (.ref a) (.ref b) >>= fun r => pure (Value.bool (!r))) _ _ s2
    refine wpAny_bind (contains_tup hu h1 h2.1 h3 low (keys_txt h5 ht) hnk dp (wpAny_pure ⟨.bl true, H2, I2.tok _, rfl, q2⟩))
end K04
namespace K04
open PySem PySem.Spec PyProof.Rows L2
/-- [.. for x in a known sequence if test]: is the list empty? -/
theorem lc_filt {J : It} {xs : List V} {bs : List Bool} {H1 : Hp} {D : Addr} {ix : Nat} {tt : TT} {te : TE} {σ : L2.St} {Q : Hp → Prop} (S : Srv J (fun H => Same H1 H) xs) (hD : H1 D = none) (hl : xs.length = bs.length) (hlen : xs.length ≤ 100000)
    (hs : ∀ (i : Nat) x b H2, xs[i]? = some x → bs[i]? = some b → Same H1 H2 → ∀ Q' : Bool → Hp → Prop, (∀ H3, Same H2 H3 → Q' (!b) H3) → tt ((wipe σ [ix]).set ix (some x)) H2 Q')
    (hte : ∀ x H2 (Q' : VK), (∀ y, Q' y H2) → te ((wipe σ [ix]).set ix (some x)) H2 Q')
    (he : ∀ H' acc, Same H1 H' → H' D = some (.lst acc) → acc.isEmpty = bs.all id → Q H') :
    ∃ W : Nat → Nat → Hp → Prop, (∃ m, W 0 m (upd H1 D (.lst []))) ∧ ∀ i m H, W i m H →
      (J.stop i H ∧ Q H) ∨ (J.go i H ∧ ∃ Nx : Hp → Prop, (∀ H', Nx H' → ∃ m', m' < m ∧ W (i + 1) m' H') ∧ ∀ x H', J.yld i H x H' → gName ix x (wipe σ [ix]) H' fun σ2 H2 => wipe σ2 [ix] = wipe σ [ix] ∧ tt σ2 H2 fun b H3 =>
        if b = true then te σ2 H3 fun y H4 => ∃ acc, H4 D = some (.lst acc) ∧ acc.length < sizeLine ∧ Nx (upd H4 D (.lst (acc ++ [y]))) else Nx H3) := by
  refine lc_srv S (fun i H' => Same H1 H' ∧ ∃ acc, H' D = some (.lst acc) ∧ acc.length ≤ i ∧ acc.isEmpty = (bs.take i).all id) (fun i H h => h.1) ⟨Same.new hD _, [], upd_same, Nat.le_refl _, rfl⟩ ?_ ?_
  · rintro i x H2 hx ⟨S2, acc, ha, hal, hae⟩
    have hi : i < bs.length := by
      have := (List.getElem?_eq_some_iff.mp hx).1
      omega
    have ht : (bs.take (i + 1)).all id = ((bs.take i).all id && bs[i]) := by
      rw [List.take_succ_eq_append_getElem hi, List.all_append, List.all_cons, List.all_nil, Bool.and_true]
      rfl
    refine ⟨wipe_one, hs i x bs[i] H2 hx (List.getElem?_eq_getElem hi) S2 _ fun H3 S3 => ?_⟩
    cases hb : bs[i] with
    | true =>
      refine iteF ⟨S2.trans S3, acc, S3 _ _ ha, by omega, ?_⟩
      rw [ht, hb, Bool.and_true]
      exact hae
    | false =>
      refine iteT (hte _ _ _ fun y => ⟨acc, S3 _ _ ha, szlt (by omega), Same.mut (S2.trans S3) hD, acc ++ [y], upd_same, by simp only [List.length_append, List.length_singleton]; omega, ?_⟩)
      rw [ht, hb, Bool.and_false]
      cases acc <;> rfl
  · rintro H2 ⟨S2, acc, ha, _, hae⟩
    rw [hl, List.take_length] at hae
    exact he H2 acc S2 ha hae
mutual
def D.pd : D → PyData
  | .non => .none
  | .bl b => .bool b
  | .int i => .int i
  | .str s => .str s
  | .tup l => .tuple (D.pds l)
def D.pds : List D → List PyData
  | [] => []
  | d :: r => d.pd :: D.pds r
end
mutual
theorem dp_of {K : PySem.W.Frag} {H : Hp} : ∀ (d : D) (v : V), Td H v d → Dp K H v d.pd
  | .non, _, h => by rw [h.non_inv]; exact .non
  | .bl b, _, h => by rw [h.bl_inv]; exact .bl b
  | .int i, _, h => by rw [h.int_inv]; exact .int i
  | .str s, _, h => by rw [h.str_inv.1]; exact .str s
  | .tup l, _, h => by
    obtain ⟨a, xs, rfl, ha, _, hx⟩ := h.tup_inv
    exact .tup (SqT.of ha) (dps_of l xs hx)
theorem dps_of {K : PySem.W.Frag} {H : Hp} : ∀ (l : List D) (vs : List V), Tds H vs l → DpAll K H vs (D.pds l)
  | [], _, h => by rw [h.nil_inv]; exact .nil
  | d :: l, _, h => by
    obtain ⟨x, xs, rfl, h1, h2⟩ := h.cons_inv
    exact .cons (dp_of d x h1) (dps_of l xs h2)
end
/-- is the thing the text less? -/
def isLess : D → Bool
  | .str s => decide (s = "less")
  | _ => false
theorem eqv_less (d : D) : PyData.eqv d.pd (.str "less") = isLess d := by
  cases d with
  | str s =>
    show (s == ("less" : Str)) = decide (s = "less")
    by_cases c : s = "less"
    · subst c
      rw [beq_self_eq_true, decide_eq_true rfl]
    · rw [decide_eq_false c]
      exact beq_eq_false_iff_ne.mpr c
  | _ => rfl
mutual
/-- what the text compares stays shallow -/
def CK : D → Prop
  | .tup l => (∀ x r, l = .str "call" :: x :: r → x.key.depth ≤ 8) ∧ (∀ h t r, l = .str "if" :: .tup (h :: t) :: r → SeqAt.shaped h.pd = true) ∧ CKs l
  | .non => True
  | .bl _ => True
  | .int _ => True
  | .str _ => True
def CKs : List D → Prop
  | [] => True
  | d :: r => CK d ∧ CKs r
end
theorem CKs.mem : ∀ {l : List D} {d : D}, CKs l → d ∈ l → CK d
  | x :: r, d, h, hd => by
    rw [CKs] at h
    rcases List.mem_cons.mp hd with rfl | hd
    · exact h.1
    · exact CKs.mem h.2 hd
def callF (kvs : List (Key × V)) (x : D) (r : List D) (f : D → Bool) : Bool := match r with
  | [.tup as] => (valD kvs x).isSome && (decide (valD kvs x = some (.int as.length)) && as.all f)
  | _ => false
def ifF (x : D) (r : List D) (f g : D → Bool) : Bool := match x, r with
  | .tup [h, u, z], [a, b] => isLess h && ([u, z].all g && [a, b].all f)
  | _, _ => false
theorem callF_not {kvs : List (Key × V)} {x : D} {r : List D} {f : D → Bool} (h : ¬ r.length = 1) : callF kvs x r f = false := by
  unfold callF
  split
  · exact absurd rfl h
  · rfl
theorem ifF_not {x : D} {r : List D} {f g : D → Bool} (h : ¬ r.length = 2) : ifF x r f g = false := by
  unfold ifF
  split
  · exact absurd rfl h
  · rfl
theorem ifF_not3 {t r : List D} {f g : D → Bool} (h : ¬ t.length = 3) : ifF (.tup t) r f g = false := by
  unfold ifF
  split
  · rename_i hh
    injection hh with hh
    exact absurd (by rw [hh]; rfl) h
  · rfl
/-- the law's own test of a part -/
def lawF (kvs : List (Key × V)) (k : Str) (x : D) (r : List D) (L : Int) (f g : D → Bool) : Bool :=
  if k = "number" then decide (r.length = 0) && isIn x 0 (10 ^ 30)
  else if k = "late" then decide (r.length = 0) && isIn x 0 (L - 1)
  else if pairsS.contains k = true then decide (r.length = 1) && (x :: r).all f
  else if k = "call" then callF kvs x r f
  else if k = "if" then ifF x r f g
  else false
def lawE (kvs : List (Key × V)) : Nat → D → Int → Bool
  | 0, _, _ => false
  | m + 1, .tup (.str k :: x :: r), L => lawF kvs k x r L (fun d => lawE kvs m d L) (fun d => match m with
      | j + 1 => lawE kvs j d L
      | _ => false)
  | _ + 1, _, _ => false
theorem lawE_tup (kvs : List (Key × V)) (m : Nat) (k : Str) (x : D) (r : List D) (L : Int) : lawE kvs (m + 1) (.tup (.str k :: x :: r)) L = lawF kvs k x r L (fun d => lawE kvs m d L) (fun d => lawE kvs (m - 1) d L) := by
  cases m with
  | zero => rfl
  | succ j => rfl
section
variable {P : Program} {w : World} {K : PySem.W.Frag} {mg : Str → Option Value} {base : Heap} {Ts : List Addr} {Pt : Addr}

abbrev n__law_is_name : List Str := ["_law_name_here", "_law_first", "_law_last", "_law_sign"]
theorem sc_law_is_name : FnScope n__law_is_name ["_law_name_here"] (defScope s__law_is_name) := ⟨rfl, rfl, rfl, by decide +kernel, rfl, by decide +kernel, by decide +kernel⟩
def spLName : Sp := fun vs H Q _ => ∃ (v : V) (d : D), vs = [v] ∧ Td H v d ∧ ∀ H', Same H H' → Q (.bl (plainNmD d)) H'
theorem signs_len {s : Str} (h : s.length ≤ 1000) : (s.cps.toList.map fun c => V.str ⟨#[c]⟩).length ≤ 100000 := by
  rw [List.length_map, Array.length_toList]
  exact Nat.le_trans h (by decide)
theorem ok_lname (T : Txt K mg) (dm : Def K mg "_law_is_name" s__law_is_name ["_law_name_here"]) : Cal P w K mg base 1 "_law_is_name" ["_law_name_here"] spLName := by
  refine dm.ok sc_law_is_name (fun vs H Q E h => ?_) (fun f cdv A outer s H vs Q E hr h => ?_)
  · obtain ⟨v, d, rfl, _⟩ := h
    rfl
  obtain ⟨v, d, rfl, hd, q⟩ := h
  have stop : ∀ H', Same H H' → plainNmD d = false → Q (.bl false) H' := fun H' e z => by
    have := q H' e
    rw [z] at this
    exact this
  have S0 : Same H H := fun _ _ h => h
  refine ⟨_, (pss_cons (ps_if (PW.pt (pw_or (pt_not (pt_val (pe_callB call_isi (by rfl) T.f_isinstance (by decide +kernel) (pa_cons (pv 0) (pa_cons (pe_ty "str" T.f_str) pa_nil))))) (pw_or1 (pt_cmpR op_ne (pe_m1 F.slot_str_count F.type_str_count mt_count (pv 0) pe_str) pe_int (nomark _))))) (pss_one (ps_ret pe_bl)) pss_nil)
      (pss_cons (ps_asg (pe_split (pv 0) pe_str) (pg_unl rfl (pgs_cons (pg_name (i := 1) sc_law_is_name.nd rfl (Or.inl rfl)) (pgs_cons (pg_name (i := 2) sc_law_is_name.nd rfl (Or.inl rfl)) pgs_nil))))
      (pss_cons (ps_if (pt_not (pt_chain op_le op_le pe_int (pe_callB call_len_str (by rfl) T.f_len PySem.boot_len (pa_cons (pv 1) pa_nil)) pe_int)) (pss_one (ps_ret pe_bl)) pss_nil)
      (pss_cons (ps_if (pt_cmpR (op_neNil hr.units0) (pe_lc (own := [("_law_sign", 3)]) (g := (gName 3))  rfl sc_law_is_name.nd (pi_str (pv 1)) (blkOk_by (N := n__law_is_name) (sc := defScope s__law_is_name) (by decide +kernel)) (fun _ _ _ _ _ => (pg_name (i := 3) sc_law_is_name.nd rfl (Or.inl rfl))) (fun _ _ _ _ _ => pts_one (pt_cmpR op_notIn_sign (pv 3) pe_str rfl)) (fun _ _ _ _ _ => (pv 3))) (pe_lst pa_nil) (nomark _)) (pss_one (ps_ret pe_bl)) pss_nil)
      (pss_cons (ps_if (pt_cmpR op_in_seq (pv 1) (pe_lst (pa_cons pe_str (pa_cons pe_str (pa_cons pe_str (pa_cons pe_str (pa_cons pe_str (pa_cons pe_str (pa_cons pe_str (pa_cons pe_str (pa_cons pe_str pa_nil)))))))))) rfl) (pss_one (ps_ret pe_bl)) pss_nil)
      (pss_one (ps_ret (pe_and (pe_chain op_le op_le pe_int (pe_callB call_len_str (by rfl) T.f_len PySem.boot_len (pa_cons (pv 2) pa_nil)) pe_int) (pe_and (pe_cmpR (op_eqNil hr.units0) (pe_lc (own := [("_law_sign", 3)]) (g := (gName 3))  rfl sc_law_is_name.nd (pi_str (pv 2)) (blkOk_by (N := n__law_is_name) (sc := defScope s__law_is_name) (by decide +kernel)) (fun _ _ _ _ _ => (pg_name (i := 3) sc_law_is_name.nd rfl (Or.inl rfl))) (fun _ _ _ _ _ => pts_one (pt_cmpR op_notIn_sign (pv 3) pe_str rfl)) (fun _ _ _ _ _ => (pv 3))) (pe_lst pa_nil) (nomark _)) (pe_and (pe_cmpR op_eq (pe_callTy call_str_int (by rfl) T.f_str (by decide +kernel) (pa_cons (pe_callTy call_int_str (by rfl) T.f_int (by decide +kernel) (pa_cons (pv 2) pa_nil)) pa_nil)) (pv 2) (nomark _)) (pe_one (pe_cmpR op_le (pe_callTy call_int_str (by rfl) T.f_int (by decide +kernel) (pa_cons (pv 2) pa_nil)) pe_int (nomark _))))))))))))), ?_⟩
  refine ⟨_, rfl, _, _, _, _, _, rfl, .ty _, Td.tyx (hd), kit_ty (kit_str _), _, rfl, ?_⟩
  cases d with
  | str z =>
    obtain ⟨rfl, hz⟩ := hd.str_inv
    refine iteF ?_
    refine ⟨_, rfl, ⟨_, rfl⟩, _, _, rfl, rfl, rfl, _, rfl, ?_⟩
    refine ite2 (fun c1 => ?_) (fun c1 => ?_)
    · refine stop H S0 ?_
      have c1' : ¬ Txt.count z "_" = 1 := fun e => by
        rw [show V.int (Txt.count z "_") = V.int 1 from congrArg V.int e] at c1
        simp at c1
      show plainNm z = false
      unfold plainNm
      rw [decide_eq_false c1', Bool.false_and]
    · have c1' : Txt.count z "_" = 1 := by
        have h1 : ¬ (!decide (V.int (Txt.count z "_") = V.int 1)) = true := c1
        have h2 : decide (V.int (Txt.count z "_") = V.int 1) = true := by simpa using h1
        have := of_decide_eq_true h2
        injection this
      obtain ⟨fs, ls, esp, hf, hl⟩ := split_two c1'
      have eN : plainNm z = (nmOk fs && numOk ls) := by
        unfold plainNm
        rw [decide_eq_true c1', esp, Bool.true_and]
      refine ⟨_, rfl, ⟨_, rfl⟩, z, _, rfl, rfl, us_len, sz100 (by omega), fun p hp => ?_⟩
      have S1 : Same H (upd H p (.lst ((Txt.split z "_").map V.str))) := Same.new hp _
      refine ⟨p, _, rfl, SqL.of upd_same, by rw [esp]; rfl, ?_⟩
      generalize hH1 : upd H p (.lst ((Txt.split z "_").map V.str)) = H1 at S1 ⊢
      rw [esp]
      refine ⟨_, _, rfl, _, _, rfl, rfl, ?_⟩
      have stop1 : ∀ H', Same H H' → nmOk fs = false → Q (.bl false) H' := fun H' e z => stop H' e (by show plainNm _ = false; rw [eN, z, Bool.false_and])
      refine ⟨_, rfl, _, rfl, sz100 (by omega), _, _, rfl, rfl, _, rfl, ?_⟩
      have tail : 1 ≤ fs.length → fs.length ≤ 8 → ∀ D, H1 D = none → ∃ W : Nat → Nat → Hp → Prop, (∃ m, W 0 m (upd H1 D (.lst []))) ∧ True := fun _ _ _ _ => ⟨fun _ _ _ => True, ⟨0, True.intro⟩, True.intro⟩
      clear tail
      refine ite2 (fun c2 => ?_) (fun c2 => ?_)
      · refine ⟨_, _, rfl, rfl, _, rfl, ?_⟩
        have c2' : ((1 : Int) ≤ (fs.length : Int)) := of_decide_eq_true c2
        refine ite2 (fun c3 => ?_) (fun c3 => ?_)
        · refine stop1 H1 S1 ?_
          have c3' : ¬ ((fs.length : Int) ≤ 8) := of_decide_eq_false (by simpa using c3)
          unfold nmOk
          rw [decide_eq_false (p := fs.length ≤ 8) (by omega)]
          simp
        · have c3' : ((fs.length : Int) ≤ 8) := by simpa using c3
          refine ⟨_, rfl, fs, rfl, fun D hD => ?_⟩
          refine lc_filt (Srv.str fs) hD (bs := fs.cps.toList.map letterC) (by rw [List.length_map, List.length_map]) (signs_len (by omega)) (fun i x b H2 hx hb S2 Q' q' => ?_) (fun x H2 Q' q' => ⟨x, rfl, q' x⟩) fun H2 acc S2 ha hae => ?_
          · rw [List.getElem?_map] at hx hb
            obtain ⟨c, hc, rfl⟩ := Option.map_eq_some_iff.mp hx
            rw [hc] at hb
            obtain rfl := Option.some.inj hb
            exact ⟨_, rfl, c, lettersS, rfl, rfl, _, rfl, q' H2 (fun _ _ h => h)⟩
          · have S12 := S1.trans S2
            refine ⟨(by show 0 ≤ sizeLine; decide), fun p2 hp2 => ?_⟩
            have S3 := Same.new' S12 hp2 (.lst [])
            refine ⟨_, _, _, rfl, rfl, SqL.of (Same.new hp2 _ _ _ ha), SqL.of upd_same, _, rfl, ?_⟩
            rw [hae]
            rw [List.all_map] at hae
            rw [List.all_map]
            have hcomp : fs.cps.toList.all (id ∘ letterC) = fs.cps.toList.all letterC := rfl
            rw [hcomp]
            cases eL : fs.cps.toList.all letterC with
            | false =>
              refine iteT (stop1 _ S3 ?_)
              unfold nmOk
              rw [eL]
              simp
            | true =>
            refine iteF ?_
            refine ⟨_, rfl, (by show 9 ≤ sizeLine; decide), fun p4 hp4 => ?_⟩
            have S4 := Same.new' S3 hp4 (.lst (takenS.map V.str))
            refine ⟨_, _, rfl, .inl (SqL.of upd_same), rfl, flat_strs takenS, _, rfl, ?_⟩
            refine ite2 (fun c4 => ?_) (fun c4 => ?_)
            · refine stop1 _ S4 ?_
              have c4' : takenS.contains fs = true := by
                rw [← inV_strs]
                exact c4
              unfold nmOk
              rw [c4']
              simp
            · have c4' : takenS.contains fs = false := by
                rw [← inV_strs]
                exact Bool.eq_false_iff.mpr c4
              have eF : nmOk fs = true := by
                unfold nmOk
                rw [c4', eL, decide_eq_true (p := 1 ≤ fs.length) (by omega), decide_eq_true (p := fs.length ≤ 8) (by omega)]
                rfl
              have eN2 : plainNmD (.str z) = numOk ls := by
                show plainNm z = _
                rw [eN, eF, Bool.true_and]
              have stop2 : ∀ H', Same H H' → numOk ls = false → Q (.bl false) H' := fun H' e z => stop H' e (eN2.trans z)
              rw [eN2] at q
              refine ⟨_, rfl, _, rfl, sz100 (by omega), _, _, rfl, rfl, _, rfl, ?_⟩
              have numX : ∀ H', Same H H' → (1 ≤ ls.length ∧ ls.length ≤ 8 → False) → Q (.bl false) H' := fun H' e hh => stop2 H' e (by
                unfold numOk
                by_cases h1 : 1 ≤ ls.length
                · by_cases h2 : ls.length ≤ 8
                  · exact absurd (hh ⟨h1, h2⟩) id
                  · rw [decide_eq_false h2]
                    simp
                · rw [decide_eq_false h1]
                  simp)
              refine ite2 (fun c5 => ?_) (fun c5 => ?_)
              · have c5' : ((1 : Int) ≤ (ls.length : Int)) := of_decide_eq_true c5
                refine ⟨_, _, rfl, rfl, _, rfl, ?_⟩
                refine ite2 (fun c6 => ?_) (fun c6 => ?_)
                · have c6' : ((ls.length : Int) ≤ 8) := of_decide_eq_true c6
                  refine ⟨_, rfl, ls, rfl, fun D2 hD2 => ?_⟩
                  refine lc_filt (Srv.str ls) hD2 (bs := ls.cps.toList.map digitC) (by rw [List.length_map, List.length_map]) (signs_len (by omega)) (fun i x b H5 hx hb S5 Q' q' => ?_) (fun x H5 Q' q' => ⟨x, rfl, q' x⟩) fun H5 acc5 S5 ha5 hae5 => ?_
                  · rw [List.getElem?_map] at hx hb
                    obtain ⟨c, hc, rfl⟩ := Option.map_eq_some_iff.mp hx
                    rw [hc] at hb
                    obtain rfl := Option.some.inj hb
                    exact ⟨_, rfl, c, digitsS, rfl, rfl, _, rfl, q' H5 (fun _ _ h => h)⟩
                  · have S45 := S4.trans S5
                    refine ⟨(by show 0 ≤ sizeLine; decide), fun p6 hp6 => ?_⟩
                    have S6 := Same.new' S45 hp6 (.lst [])
                    refine ⟨_, _, _, rfl, rfl, SqL.of (Same.new hp6 _ _ _ ha5), SqL.of upd_same, _, rfl, ?_⟩
                    rw [hae5, List.all_map]
                    have hcomp : ls.cps.toList.all (id ∘ digitC) = ls.cps.toList.all digitC := rfl
                    rw [hcomp]
                    cases eD : ls.cps.toList.all digitC with
                    | false =>
                      refine iteF (stop2 _ S6 ?_)
                      unfold numOk
                      rw [eD]
                      simp
                    | true =>
                      refine iteT ?_
                      obtain ⟨n, hn, hn8⟩ := dig_int eD (by omega) (by omega)
                      have eM : numOk ls = (decide (Str.ofString (toString (n : Int)) = ls) && decide ((n : Int) ≤ 10000000)) := by
                        unfold numOk
                        rw [eD, decide_eq_true (p := 1 ≤ ls.length) (by omega), decide_eq_true (p := ls.length ≤ 8) (by omega), hn]
                        simp
                      refine ⟨_, rfl, ls, _, rfl, hn, by omega, _, rfl, log_small hn8, _, rfl, rfl, _, rfl, ?_⟩
                      refine ite2 (fun c7 => ?_) (fun c7 => ?_)
                      · have c7' : Str.ofString (toString (n : Int)) = ls := by
                          have := of_decide_eq_true c7
                          injection this
                        refine ⟨_, rfl, ls, _, rfl, hn, by omega, _, _, rfl, rfl, ?_⟩
                        have := q _ S6
                        rw [eM, decide_eq_true c7', Bool.true_and] at this
                        exact this
                      · have c7' : ¬ Str.ofString (toString (n : Int)) = ls := fun z => c7 (decide_eq_true (congrArg V.str z))
                        refine stop2 _ S6 ?_
                        rw [eM, decide_eq_false c7', Bool.false_and]
                · have c6' : ¬ ((ls.length : Int) ≤ 8) := of_decide_eq_false (Bool.eq_false_iff.mpr c6)
                  exact numX _ S4 fun z => c6' (by omega)
              · have c5' : ¬ ((1 : Int) ≤ (ls.length : Int)) := of_decide_eq_false (Bool.eq_false_iff.mpr c5)
                exact ⟨_, rfl, iteF (numX _ S4 fun z => c5' (by omega))⟩
      · refine ⟨_, rfl, iteT ?_⟩
        have c1' : ¬ ((1 : Int) ≤ (fs.length : Int)) := of_decide_eq_false (Bool.eq_false_iff.mpr c2)
        refine stop1 H1 S1 ?_
        unfold nmOk
        rw [decide_eq_false (p := 1 ≤ fs.length) (by omega)]
        simp
  | non => exact iteT (stop H S0 rfl)
  | bl b => exact iteT (stop H S0 rfl)
  | int i => exact iteT (stop H S0 rfl)
  | tup l => exact iteT (stop H S0 rfl)
end
end K04
namespace K04
open PySem PySem.Spec PyProof.Rows L2
theorem Tds.get2 {H : Hp} {xs : List V} {ds : List D} (h : Tds H xs ds) {i : Nat} {x : V} (hx : xs[i]? = some x) : ∃ d, ds[i]? = some d ∧ d ∈ ds ∧ Td H x d := by
  obtain ⟨d, h1, h2⟩ := h.get hx
  exact ⟨d, h1, List.mem_of_getElem? h1, h2⟩
theorem ck_tup {l : List D} (h : CK (.tup l)) : (∀ x r, l = .str "call" :: x :: r → x.key.depth ≤ 8) ∧ (∀ h t r, l = .str "if" :: .tup (h :: t) :: r → SeqAt.shaped h.pd = true) ∧ CKs l := by
  rw [CK] at h
  exact h
theorem inV2 (k : Str) (l : List Str) {b : Bool} (h : l.contains k = b) : inV (.str k) (l.map V.str) = b := by rw [inV_strs, h]
section
variable {P : Program} {w : World} {K : PySem.W.Frag} {mg : Str → Option Value} {base : Heap} {Ts : List Addr} {Pt : Addr}

abbrev n__law_is_plain_part : List Str := ["_law_one", "_law_lates_here", "_law_sizes", "_law_deep", "_law_top", "_law_part"]
theorem sc_law_is_plain_part : FnScope n__law_is_plain_part ["_law_one", "_law_lates_here", "_law_sizes", "_law_deep"] (defScope s__law_is_plain_part) := ⟨rfl, rfl, rfl, by decide +kernel, rfl, by decide +kernel, by decide +kernel⟩
def spPart (n : Nat) : Sp := fun vs H Q _ => ∃ (v : V) (d : D) (L dp : Int) (D' : Addr) (kvs : List (Key × V)), vs = [v, .int L, .ref D', .int dp] ∧ Td H v d ∧ H D' = some (.dK kvs) ∧ TxtK kvs ∧ IntsK kvs ∧ CK d ∧ dp.toNat < n ∧ ∀ H', Same H H' → Q (.bl (lawE kvs dp.toNat d L)) H'
/-- [part for part in b if not is_plain_part(part, lates, sizes, deep - c)] -/
theorem lparts {n : Nat} {v : V} {L dp c : Int} {D' : Addr} {kvs : List (Key × V)} {o4 o5 : Option V} {b Dl : Addr} {xs : List V} {ds : List D} {H0 H1 : Hp} {Q : Hp → Prop} (S0 : Same H0 H1) (hb : H1 b = some (.tup xs)) (hxl : xs.length ≤ 1000) (hx : Tds H1 xs ds) (hk : H1 D' = some (.dK kvs)) (tk : TxtK kvs) (ik : IntsK kvs)
    (hc : ∀ d ∈ ds, CK d) (hn : (dp - c).toNat < n) (hD : H1 Dl = none) (he : ∀ H' acc, Same H0 H' → H' Dl = some (.lst acc) → acc.isEmpty = ds.all (fun d => lawE kvs (dp - c).toNat d L) → Q H') :
    ∃ W : Nat → Nat → Hp → Prop, (∃ m, W 0 m (upd H1 Dl (.lst []))) ∧ ∀ i m H, W i m H →
      ((Itt K b).stop i H ∧ Q H) ∨ ((Itt K b).go i H ∧ ∃ Nx : Hp → Prop, (∀ H', Nx H' → ∃ m', m' < m ∧ W (i + 1) m' H') ∧ ∀ x H', (Itt K b).yld i H x H' → gName 5 x (wipe [some v, some (.int L), some (.ref D'), some (.int dp), o4, o5] [5]) H' fun σ2 H2 => wipe σ2 [5] = wipe [some v, some (.int L), some (.ref D'), some (.int dp), o4, o5] [5] ∧
        tNot (tB (tCall (spPart n) [] E0 (tCons (tVar 5) (tCons (tVar 1) (tCons (tVar 2) (tCons (tOp (rI0 fun i j => .int (i - j)) (tVar 3) (tC (.int c))) tNil)))))) σ2 H2 fun b H3 =>
        if b = true then (tVar 5) σ2 H3 fun y H4 => ∃ acc, H4 Dl = some (.lst acc) ∧ acc.length < sizeLine ∧ Nx (upd H4 Dl (.lst (acc ++ [y]))) else Nx H3) := by
  refine lc_filt (Srv.tup (P := fun H => Same H1 H) fun H h => SqT.of (h _ _ hb)) hD (bs := ds.map fun d => lawE kvs (dp - c).toNat d L) (by rw [List.length_map]; exact hx.length) (Nat.le_trans hxl (by decide)) (fun i x b' H2 hxi hbi S2 Q' q' => ?_) (fun x H2 Q' q' => ⟨x, rfl, q' x⟩) fun H2 acc S2 ha hae => ?_
  · obtain ⟨d, hd1, hd2, hd3⟩ := hx.get2 hxi
    rw [List.getElem?_map, hd1] at hbi
    obtain rfl := Option.some.inj hbi
    exact ⟨_, rfl, _, rfl, _, rfl, _, rfl, _, _, rfl, rfl, x, d, L, dp - c, D', kvs, rfl, hd3.mono (Same.kp S2), S2 _ _ hk, tk, ik, hc d hd2, hn, fun H3 S3 => ⟨_, rfl, q' H3 S3⟩⟩
  · rw [List.all_map] at hae
    exact he H2 acc (S0.trans S2) ha hae
theorem step_part {n : Nat} (T : Txt K mg) (dm : Def K mg "_law_is_plain_part" s__law_is_plain_part ["_law_one", "_law_lates_here", "_law_sizes", "_law_deep"]) (c_l_is_int : Cal P w K mg base 1 "_law_is_int" ["_law_value"] spIsInt)
    (c_l_is_plain_part : Cal P w K mg base (n + 2) "_law_is_plain_part" ["_law_one", "_law_lates_here", "_law_sizes", "_law_deep"] (spPart n)) : Cal P w K mg base (n + 2 + 1) "_law_is_plain_part" ["_law_one", "_law_lates_here", "_law_sizes", "_law_deep"] (spPart (n + 1)) := by
  refine dm.ok sc_law_is_plain_part (fun vs H Q E h => ?_) (fun f cdv A outer s H vs Q E hr h => ?_)
  · obtain ⟨v, d, L, dp, D', kvs, rfl, _⟩ := h
    rfl
  obtain ⟨v, d, L, dp, D', kvs, rfl, hd, hk, tk, ik, ck, hdp, q⟩ := h
  have S0 : Same H H := fun _ _ h => h
  have q0 := q H S0
  refine ⟨_, (pss_cons (ps_if (PW.pt (pw_or (pt_cmpR op_lt (pv 3) pe_int (nomark _)) (pw_or (pt_not (pt_val (pe_callB call_isi (by rfl) T.f_isinstance (by decide +kernel) (pa_cons (pv 0) (pa_cons (pe_ty "tuple" T.f_tuple) pa_nil))))) (pw_or (pt_cmpR op_lt (pe_callB call_len_seq (by rfl) T.f_len PySem.boot_len (pa_cons (pv 0) pa_nil)) pe_int (nomark _)) (pw_or1 (pt_not (pt_val (pe_callB call_isi (by rfl) T.f_isinstance (by decide +kernel) (pa_cons (pe_ix ix_tup (pv 0) pe_int (fun _ _ => rfl)) (pa_cons (pe_ty "str" T.f_str) pa_nil)))))))))) (pss_one (ps_ret pe_bl)) pss_nil)
      (pss_cons (ps_if (pt_cmpR op_in_seq (pe_ix ix_tup (pv 0) pe_int (fun _ _ => rfl)) (pe_lst (pa_cons pe_str (pa_cons pe_str pa_nil))) rfl) (pss_cons (ps_set (i := 4) sc_law_is_plain_part.nd rfl (Or.inl rfl) (pe_ifExp (pt_cmpR op_eq (pe_ix ix_tup (pv 0) pe_int (fun _ _ => rfl)) pe_str (nomark _)) pe_int (pe_op op_sub (pv 1) pe_int)))
      (pss_one (ps_ret (pe_and (pe_cmpR op_eq (pe_callB call_len_seq (by rfl) T.f_len PySem.boot_len (pa_cons (pv 0) pa_nil)) pe_int (nomark _)) (pe_and (pe_cal c_l_is_int (hr.mono (by omega)) (pa_cons (pe_ix ix_tup (pv 0) pe_int (fun _ _ => rfl)) pa_nil)) (pe_one (pe_chain op_le op_le pe_int (pe_ix ix_tup (pv 0) pe_int (fun _ _ => rfl)) (pv 4)))))))) pss_nil)
      (pss_cons (ps_if (pt_cmpR op_in_seq (pe_ix ix_tup (pv 0) pe_int (fun _ _ => rfl)) (pe_lst (pa_cons pe_str (pa_cons pe_str (pa_cons pe_str pa_nil)))) rfl) (pss_one (ps_ret (pe_and (pe_cmpR op_eq (pe_callB call_len_seq (by rfl) T.f_len PySem.boot_len (pa_cons (pv 0) pa_nil)) pe_int (nomark _)) (pe_one (pe_cmpR (op_eqNil hr.units0) (pe_lc (own := [("_law_part", 5)]) (g := (gName 5))  rfl sc_law_is_plain_part.nd (pi_tup (pe_slice sl_tupA (pv 0) (po_some pe_int) po_none)) (blkOk_by (N := n__law_is_plain_part) (sc := defScope s__law_is_plain_part) (by decide +kernel)) (fun _ _ _ _ _ => (pg_name (i := 5) sc_law_is_plain_part.nd rfl (Or.inl rfl))) (fun _ _ _ _ _ => pts_one (pt_not (pt_val (pe_cal c_l_is_plain_part (hr.mono (by omega)) (pa_cons (pv 5) (pa_cons (pv 1) (pa_cons (pv 2) (pa_cons (pe_op op_sub (pv 3) pe_int) pa_nil)))))))) (fun _ _ _ _ _ => (pv 5))) (pe_lst pa_nil) (nomark _)))))) pss_nil)
      (pss_cons (ps_if (pt_cmpR op_eq (pe_ix ix_tup (pv 0) pe_int (fun _ _ => rfl)) pe_str (nomark _)) (pss_cons (ps_if (pt_cmpR op_ne (pe_callB call_len_seq (by rfl) T.f_len PySem.boot_len (pa_cons (pv 0) pa_nil)) pe_int (nomark _)) (pss_one (ps_ret pe_bl)) pss_nil)
      (pss_cons (ps_if (pt_cmp (pc_dnotinA (hu9 hr) (pe_ix ix_tup (pv 0) pe_int (fun _ _ => rfl)) (pv 2)) rfl) (pss_one (ps_ret pe_bl)) pss_nil)
      (pss_cons (ps_if (pt_not (pt_val (pe_callB call_isi (by rfl) T.f_isinstance (by decide +kernel) (pa_cons (pe_ix ix_tup (pv 0) pe_int (fun _ _ => rfl)) (pa_cons (pe_ty "tuple" T.f_tuple) pa_nil))))) (pss_one (ps_ret pe_bl)) pss_nil)
      (pss_cons (ps_if (pt_cmpR op_ne (pe_callB call_len_seq (by rfl) T.f_len PySem.boot_len (pa_cons (pe_ix ix_tup (pv 0) pe_int (fun _ _ => rfl)) pa_nil)) (pe_dget (hu_of hr) (pv 2) (pe_ix ix_tup (pv 0) pe_int (fun _ _ => rfl)) (fun _ _ => rfl)) (nomark _)) (pss_one (ps_ret pe_bl)) pss_nil)
      (pss_one (ps_ret (pe_cmpR (op_eqNil hr.units0) (pe_lc (own := [("_law_part", 5)]) (g := (gName 5))  rfl sc_law_is_plain_part.nd (pi_tup (pe_ix ix_tup (pv 0) pe_int (fun _ _ => rfl))) (blkOk_by (N := n__law_is_plain_part) (sc := defScope s__law_is_plain_part) (by decide +kernel)) (fun _ _ _ _ _ => (pg_name (i := 5) sc_law_is_plain_part.nd rfl (Or.inl rfl))) (fun _ _ _ _ _ => pts_one (pt_not (pt_val (pe_cal c_l_is_plain_part (hr.mono (by omega)) (pa_cons (pv 5) (pa_cons (pv 1) (pa_cons (pv 2) (pa_cons (pe_op op_sub (pv 3) pe_int) pa_nil)))))))) (fun _ _ _ _ _ => (pv 5))) (pe_lst pa_nil) (nomark _)))))))) pss_nil)
      (pss_cons (ps_if (pt_cmpR op_ne (pe_ix ix_tup (pv 0) pe_int (fun _ _ => rfl)) pe_str (nomark _)) (pss_one (ps_ret pe_bl)) pss_nil)
      (pss_cons (ps_if (pt_cmpR op_ne (pe_callB call_len_seq (by rfl) T.f_len PySem.boot_len (pa_cons (pv 0) pa_nil)) pe_int (nomark _)) (pss_one (ps_ret pe_bl)) pss_nil)
      (pss_cons (ps_if (pt_not (pt_val (pe_callB call_isi (by rfl) T.f_isinstance (by decide +kernel) (pa_cons (pe_ix ix_tup (pv 0) pe_int (fun _ _ => rfl)) (pa_cons (pe_ty "tuple" T.f_tuple) pa_nil))))) (pss_one (ps_ret pe_bl)) pss_nil)
      (pss_cons (ps_if (pt_cmpR op_ne (pe_callB call_len_seq (by rfl) T.f_len PySem.boot_len (pa_cons (pe_ix ix_tup (pv 0) pe_int (fun _ _ => rfl)) pa_nil)) pe_int (nomark _)) (pss_one (ps_ret pe_bl)) pss_nil)
      (pss_cons (ps_if (pt_cmpR (op_neD (hu64 hr)) (pe_ix ix_tup (pe_ix ix_tup (pv 0) pe_int (fun _ _ => rfl)) pe_int (fun _ _ => rfl)) pe_str (nomark _)) (pss_one (ps_ret pe_bl)) pss_nil)
      (pss_cons (ps_if (pt_cmpR (op_neNil hr.units0) (pe_lc (own := [("_law_part", 5)]) (g := (gName 5))  rfl sc_law_is_plain_part.nd (pi_tup (pe_slice sl_tupA (pe_ix ix_tup (pv 0) pe_int (fun _ _ => rfl)) (po_some pe_int) po_none)) (blkOk_by (N := n__law_is_plain_part) (sc := defScope s__law_is_plain_part) (by decide +kernel)) (fun _ _ _ _ _ => (pg_name (i := 5) sc_law_is_plain_part.nd rfl (Or.inl rfl))) (fun _ _ _ _ _ => pts_one (pt_not (pt_val (pe_cal c_l_is_plain_part (hr.mono (by omega)) (pa_cons (pv 5) (pa_cons (pv 1) (pa_cons (pv 2) (pa_cons (pe_op op_sub (pv 3) pe_int) pa_nil)))))))) (fun _ _ _ _ _ => (pv 5))) (pe_lst pa_nil) (nomark _)) (pss_one (ps_ret pe_bl)) pss_nil)
      (pss_one (ps_ret (pe_cmpR (op_eqNil hr.units0) (pe_lc (own := [("_law_part", 5)]) (g := (gName 5))  rfl sc_law_is_plain_part.nd (pi_tup (pe_slice sl_tupA (pv 0) (po_some pe_int) po_none)) (blkOk_by (N := n__law_is_plain_part) (sc := defScope s__law_is_plain_part) (by decide +kernel)) (fun _ _ _ _ _ => (pg_name (i := 5) sc_law_is_plain_part.nd rfl (Or.inl rfl))) (fun _ _ _ _ _ => pts_one (pt_not (pt_val (pe_cal c_l_is_plain_part (hr.mono (by omega)) (pa_cons (pv 5) (pa_cons (pv 1) (pa_cons (pv 2) (pa_cons (pe_op op_sub (pv 3) pe_int) pa_nil)))))))) (fun _ _ _ _ _ => (pv 5))) (pe_lst pa_nil) (nomark _)))))))))))))), ?_⟩
  refine ⟨_, rfl, _, _, rfl, rfl, _, rfl, ?_⟩
  refine ite2 (fun c0 => ?_) (fun c0 => ?_)
  · have c0' : dp < 1 := of_decide_eq_true c0
    have e : dp.toNat = 0 := by omega
    rw [e] at q0
    exact iteT q0
  have c0' : ¬ dp < 1 := of_decide_eq_false (Bool.eq_false_iff.mpr c0)
  obtain ⟨m, rfl⟩ : ∃ m : Nat, dp = ((m + 1 : Nat) : Int) := ⟨(dp - 1).toNat, by omega⟩
  have edp : (((m + 1 : Nat) : Int)).toNat = m + 1 := by omega
  rw [edp] at q q0 hdp
  have edp1 : (((m + 1 : Nat) : Int) - 1).toNat = m := by omega
  have edp2 : (((m + 1 : Nat) : Int) - 2).toNat = m - 1 := by omega
  refine ⟨_, rfl, _, _, _, _, _, rfl, .ty _, Td.tyx (hd), kit_ty (kit_tup _), _, rfl, ?_⟩
  cases d with
  | tup l =>
    refine iteF ?_
    obtain ⟨a, xs0, rfl, ha, hxl, hx0⟩ := hd.tup_inv
    obtain ⟨ck1, ck2, ck3⟩ := ck_tup ck
    refine ⟨_, rfl, _, _, rfl, .inr (SqT.of (ha)), _, _, rfl, rfl, _, rfl, ?_⟩
    refine ite2 (fun c1 => ?_) (fun c1 => ?_)
    · have c1' : ((xs0.length : Nat) : Int) < 2 := of_decide_eq_true c1
      have hl := hx0.length
      have e : lawE kvs (m + 1) (.tup l) L = false := by
        match l, hl with
        | [], _ => rfl
        | [.str _], _ => rfl
        | [.non], _ => rfl
        | [.bl _], _ => rfl
        | [.int _], _ => rfl
        | [.tup _], _ => rfl
        | _ :: _ :: _, hl => exact absurd hl (by simp only [List.length_cons]; omega)
      rw [e] at q0
      exact iteT q0
    have c1' : ¬ ((xs0.length : Nat) : Int) < 2 := of_decide_eq_false (Bool.eq_false_iff.mpr c1)
    obtain ⟨hd0, x, r, rfl⟩ : ∃ h x r, l = h :: x :: r := by
      have hl := hx0.length
      match l, hl with
      | h :: x :: r, _ => exact ⟨h, x, r, rfl⟩
      | [_], hl => exact absurd hl (by simp only [List.length_cons, List.length_nil]; omega)
      | [], hl => exact absurd hl (by simp only [List.length_nil]; omega)
    obtain ⟨y0, xs1, rfl, h0, hx1⟩ := hx0.cons_inv
    obtain ⟨y1, xs2, rfl, h1, hx2⟩ := hx1.cons_inv
    refine ⟨_, rfl, _, _, _, _, rfl, rfl, SqT.of (ha), at0, _, _, _, _, _, rfl, .ty _, Td.tyx (h0), kit_ty (kit_str _), _, rfl, ?_⟩
    have hlen : (y0 :: y1 :: xs2).length = r.length + 2 := by
      have := hx0.length
      simpa using this
    cases hd0 with
    | str k =>
      refine iteF ?_
      obtain ⟨rfl, hkl⟩ := h0.str_inv
      rw [lawE_tup] at q q0
      refine ⟨_, rfl, _, _, _, _, rfl, rfl, SqT.of (ha), at0, (by show 2 ≤ sizeLine; decide), fun p1 hp1 => ?_⟩
      have S1 := Same.new' S0 hp1 (.lst ([("number" : Str), "late"].map V.str))
      refine ⟨_, _, rfl, .inl (SqL.of upd_same), rfl, flat_strs [("number" : Str), "late"], _, rfl, ?_⟩
      have ha1 := S1 _ _ ha
      have h1' := h1.mono (Same.kp S1)
      -- a list's emptiness, as a test's end
      refine ite2 (fun c2 => ?_) (fun c2 => ?_)
      · have c2' : [("number" : Str), "late"].contains k = true := by
          rw [← inV_strs]
          exact c2
        have hkk : k = "number" ∨ k = "late" := by
          have := List.contains_iff_mem.mp c2'
          simpa using this
        have tail : ∀ (top : Int) (o5 : Option V), lawF kvs k x r L (fun d => lawE kvs m d L) (fun d => lawE kvs (m - 1) d L) = (decide (r.length = 0) && isIn x 0 top) →
            tRet (tAndV (tOp rEq (tCB (fun xs H Q => ∃ p ys, xs = [.ref p] ∧ (SqL K H p ys ∨ SqT K H p ys) ∧ Q (.int ys.length) H) (tCons (tVar 0) tNil)) (tC (.int 2))) (tAndV (tCall spIsInt [] E0 (tCons (tOp (rIxT K) (tVar 0) (tC (.int 1))) tNil)) (tChain (rI0 fun i j => .bl (decide (i ≤ j))) (rI0 fun i j => .bl (decide (i ≤ j))) (tC (.int 0)) (tOp (rIxT K) (tVar 0) (tC (.int 1))) (tVar 4))))
            { nx := fun _ H' => Q .non H', rt := Q } [some (.ref a), some (.int L), some (.ref D'), some (.int ((m + 1 : Nat) : Int)), some (.int top), o5] (upd H p1 (.lst ([("number" : Str), "late"].map V.str))) := by
          intro top o5 e
          rw [e] at q
          have q1 := q _ S1
          refine ⟨_, rfl, _, _, rfl, .inr (SqT.of (ha1)), rfl, _, rfl, ?_⟩
          refine ite2 (fun c3 => ?_) (fun c3 => ?_)
          · have c3' : r.length = 0 := by
              have := of_decide_eq_true c3
              injection this
              omega
            rw [decide_eq_true c3', Bool.true_and] at q1
            refine ⟨_, rfl, _, _, _, _, rfl, rfl, SqT.of (ha1), at1, y1, x, rfl, h1', _, rfl, ?_⟩
            cases x with
            | int i =>
              obtain rfl := h1'.int_inv
              refine iteT ?_
              refine ⟨_, rfl, _, _, _, _, rfl, rfl, SqT.of (ha1), at1, _, _, rfl, rfl, _, rfl, ?_⟩
              refine ite2 (fun c4 => ?_) (fun c4 => ?_)
              · refine ⟨_, rfl, _, _, rfl, rfl, ?_⟩
                have e4 : isIn (.int i) 0 top = decide (i ≤ top) := by
                  show (decide (0 ≤ i) && decide (i ≤ top)) = _
                  rw [c4, Bool.true_and]
                rw [e4] at q1
                exact q1
              · have e4 : isIn (.int i) 0 top = false := by
                  show (decide (0 ≤ i) && decide (i ≤ top)) = _
                  rw [Bool.eq_false_iff.mpr c4, Bool.false_and]
                rw [e4] at q1
                exact q1
            | non => exact iteF q1
            | bl b => exact iteF q1
            | str s => exact iteF q1
            | tup l => exact iteF q1
          · have c3' : ¬ r.length = 0 := fun z => c3 (by rw [hlen, z]; rfl)
            rw [decide_eq_false c3', Bool.false_and] at q1
            have e5 : decide (V.int (((V.str k :: y1 :: xs2).length : Nat) : Int) = V.int 2) = false := Bool.eq_false_iff.mpr c3
            exact q1
        refine ⟨_, rfl, _, _, _, _, rfl, rfl, SqT.of (ha1), at0, rfl, _, rfl, ?_⟩
        refine ite2 (fun c3 => ?_) (fun c3 => ?_)
        · have e : k = "number" := by
            have := of_decide_eq_true c3
            injection this
          refine tail _ _ ?_
          unfold lawF
          rw [if_pos e]
          rfl
        · have e : ¬ k = "number" := fun z => c3 (decide_eq_true (congrArg V.str z))
          refine ⟨_, rfl, _, _, rfl, rfl, ?_⟩
          refine tail _ _ ?_
          unfold lawF
          rw [if_neg e, if_pos (hkk.resolve_left e)]
      have ek1 : ¬ k = "number" := fun z => c2 (inV2 k ["number", "late"] (by rw [z]; rfl))
      have ek2 : ¬ k = "late" := fun z => c2 (inV2 k ["number", "late"] (by rw [z]; rfl))
      have hx2' := hx2.mono (Same.kp S1)
      refine ⟨_, rfl, _, _, _, _, rfl, rfl, SqT.of (ha1), at0, (by show 3 ≤ sizeLine; decide), fun p2 hp2 => ?_⟩
      have S2 := Same.new' S1 hp2 (.lst (pairsS.map V.str))
      have ha2 := S2 _ _ ha
      have hk2 := S2 _ _ hk
      refine ⟨_, _, rfl, .inl (SqL.of upd_same), rfl, flat_strs pairsS, _, rfl, ?_⟩
      refine ite2 (fun c3 => ?_) (fun c3 => ?_)
      · have c3' : pairsS.contains k = true := by
          rw [← inV_strs]
          exact c3
        have e : lawF kvs k x r L (fun d => lawE kvs m d L) (fun d => lawE kvs (m - 1) d L) = (decide (r.length = 1) && (x :: r).all (fun d => lawE kvs m d L)) := by
          unfold lawF
          rw [if_neg ek1, if_neg ek2, if_pos c3']
        rw [e] at q
        refine ⟨_, rfl, _, _, rfl, .inr (SqT.of (ha2)), rfl, _, rfl, ?_⟩
        refine ite2 (fun c4 => ?_) (fun c4 => ?_)
        · have c4' : r.length = 1 := by
            have := of_decide_eq_true c4
            injection this
            omega
          rw [decide_eq_true c4', Bool.true_and] at q
          have hcut : cutV (V.str k :: y1 :: xs2) (some 1) none = y1 :: xs2 := by
            unfold cutV
            rw [show HT.sIx (V.str k :: y1 :: xs2).length 0 (some 1) = 1 from (by show min 1 _ = 1; simp), HT.sIx_none]
            simp
          refine ⟨_, rfl, _, rfl, _, _, rfl, SqT.of ha2, (fun z => absurd z.1 (by show ¬ min 1 ((y1 :: xs2).length + 1) = 0; omega)), fun _ p hp => ?_⟩
          rw [hcut]
          have S3 := Same.new' S2 hp (.tup (y1 :: xs2))
          refine ⟨p, rfl, ⟨_, SqT.of upd_same⟩, fun Dl hDl => ?_⟩
          refine lparts (c := 1) S3 upd_same (by simp only [List.length_cons] at hxl ⊢; omega) (hx1.mono (Same.kp S3)) (S3 _ _ hk) tk ik (fun d hd => ck3.mem (List.mem_cons_of_mem _ hd)) (by rw [edp1]; omega) hDl fun H4 acc S4 hal hae => ?_
          refine ⟨(by show 0 ≤ sizeLine; decide), fun p5 hp5 => ⟨_, _, _, rfl, rfl, SqL.of (Same.new hp5 _ _ _ hal), SqL.of upd_same, ?_⟩⟩
          rw [hae, edp1]
          exact q _ (Same.new' S4 hp5 _)
        · have c4' : ¬ r.length = 1 := fun z => c4 (by rw [hlen, z]; rfl)
          rw [decide_eq_false c4', Bool.false_and] at q
          exact q _ S2
      have c3' : ¬ pairsS.contains k = true := fun z => c3 (by rw [← inV_strs] at z; exact z)
      refine ⟨_, rfl, _, _, _, _, rfl, rfl, SqT.of (ha2), at0, rfl, _, rfl, ?_⟩
      refine ite2 (fun c4 => ?_) (fun c4 => ?_)
      · have ek3 : k = "call" := by
          have := of_decide_eq_true c4
          injection this
        have e : lawF kvs k x r L (fun d => lawE kvs m d L) (fun d => lawE kvs (m - 1) d L) = callF kvs x r (fun d => lawE kvs m d L) := by
          unfold lawF
          rw [if_neg ek1, if_neg ek2, if_neg c3', if_pos ek3]
        rw [e] at q
        refine ⟨_, rfl, _, _, rfl, .inr (SqT.of (ha2)), rfl, _, rfl, ?_⟩
        refine ite2 (fun c5 => ?_) (fun c5 => ?_)
        · have c5' : ¬ r.length = 1 := fun z => by
            have c5 : (!decide (V.int (((V.str k :: y1 :: xs2).length : Nat) : Int) = V.int 3)) = true := c5
            rw [hlen, z] at c5
            exact absurd c5 (by decide)
          rw [callF_not c5'] at q
          exact q _ S2
        have c5' : r.length = 1 := by
          have c5 : ¬ (!decide (V.int (((V.str k :: y1 :: xs2).length : Nat) : Int) = V.int 3)) = true := c5
          have h2 : decide (V.int (((V.str k :: y1 :: xs2).length : Nat) : Int) = V.int 3) = true := by simpa using c5
          have := of_decide_eq_true h2
          injection this
          omega
        obtain ⟨y, rfl⟩ : ∃ y, r = [y] := by
          match r, c5' with
          | [y], _ => exact ⟨y, rfl⟩
        obtain ⟨y2, xs3, rfl, h2, hx3⟩ := hx2.cons_inv
        obtain rfl := hx3.nil_inv
        have hdx := ck1 x [y] (by rw [ek3])
        refine ⟨_, rfl, _, _, _, _, rfl, rfl, SqT.of (ha2), at1, _, rfl, D', kvs, x, rfl, hk2, tk, h1.mono (Same.kp S2), hdx, _, rfl, ?_⟩
        cases ev : valD kvs x with
        | none =>
          have e2 : callF kvs x [y] (fun d => lawE kvs m d L) = false := by
            cases y with
            | tup as =>
              show ((valD kvs x).isSome && _) = false
              rw [ev]
              rfl
            | _ => rfl
          rw [e2] at q
          exact iteT (q _ S2)
        | some val =>
          refine iteF ?_
          obtain ⟨s', rfl⟩ : ∃ s', x = .str s' := by
            cases x with
            | str s' => exact ⟨s', rfl⟩
            | _ => cases ev
          have ev' : valV kvs (.inr s') = some val := ev
          obtain ⟨j, rfl⟩ := ik _ _ ev'
          obtain ⟨rfl, _⟩ := h1.str_inv
          refine ⟨_, rfl, _, _, _, _, rfl, rfl, SqT.of (ha2), at2, _, _, _, _, _, rfl, .ty _, Td.tyx (h2.mono (Same.kp S2)), kit_ty (kit_tup _), _, rfl, ?_⟩
          cases y with
          | tup as =>
            refine iteF ?_
            have q' : ∀ H', Same H H' → Q (.bl (decide (some (V.int j) = some (.int as.length)) && as.all (fun d => lawE kvs m d L))) H' := fun H' e => by
              have z : Q (.bl ((valD kvs (.str s')).isSome && (decide (valD kvs (.str s') = some (.int as.length)) && as.all (fun d => lawE kvs m d L)))) H' := q H' e
              rw [ev] at z
              exact z
            obtain ⟨g, gs, rfl, hg, hgl, hgs⟩ := (h2.mono (Same.kp S2)).tup_inv
            have hgl2 := hgs.length
            refine ⟨_, rfl, _, _, _, _, rfl, rfl, SqT.of (ha2), at2, _, _, rfl, .inr (SqT.of (hg)), _, rfl, _, rfl, _, _, _, _, rfl, rfl, SqT.of (ha2), at1, D', .int j, rfl, ?_, rfl, _, rfl, ?_⟩
            · rw [← ev']
              exact DGet.k (k := .inr s') hk2
            refine ite2 (fun c6 => ?_) (fun c6 => ?_)
            · have c6' : ¬ j = (as.length : Int) := fun z => by
                have c6 : (!decide (V.int ((gs.length : Nat) : Int) = V.int j)) = true := c6
                rw [z, hgl2] at c6
                simp at c6
              rw [decide_eq_false (fun z => c6' (by injection z with z; injection z)), Bool.false_and] at q'
              exact q' _ S2
            · have c6' : j = (as.length : Int) := by
                have c6 : ¬ (!decide (V.int ((gs.length : Nat) : Int) = V.int j)) = true := c6
                have h2 : decide (V.int ((gs.length : Nat) : Int) = V.int j) = true := by simpa using c6
                have := of_decide_eq_true h2
                injection this
                omega
              rw [decide_eq_true (by rw [c6']), Bool.true_and] at q'
              refine ⟨_, rfl, _, _, _, _, rfl, rfl, SqT.of (ha2), at2, g, rfl, ⟨_, SqT.of hg⟩, fun Dl hDl => ?_⟩
              have cka : CKs as := (ck_tup (ck3.mem (d := .tup as) (by simp))).2.2
              refine lparts (c := 1) S2 hg hgl hgs hk2 tk ik (fun d hd => cka.mem hd) (by rw [edp1]; omega) hDl fun H4 acc S4 hal hae => ?_
              refine ⟨(by show 0 ≤ sizeLine; decide), fun p5 hp5 => ⟨_, _, _, rfl, rfl, SqL.of (Same.new hp5 _ _ _ hal), SqL.of upd_same, ?_⟩⟩
              rw [hae, edp1]
              exact q' _ (Same.new' S4 hp5 _)
          | _ => exact iteT (q _ S2)
      have ek3 : ¬ k = "call" := fun z => c4 (decide_eq_true (congrArg V.str z))
      refine ⟨_, rfl, _, _, _, _, rfl, rfl, SqT.of (ha2), at0, rfl, _, rfl, ?_⟩
      refine ite2 (fun c5 => ?_) (fun c5 => ?_)
      · have ek4 : ¬ k = "if" := fun z => by
          have c5 : (!decide (V.str k = V.str "if")) = true := c5
          rw [z] at c5
          simp at c5
        have e : lawF kvs k x r L (fun d => lawE kvs m d L) (fun d => lawE kvs (m - 1) d L) = false := by
          unfold lawF
          rw [if_neg ek1, if_neg ek2, if_neg c3', if_neg ek3, if_neg ek4]
        rw [e] at q
        exact q _ S2
      have ek4 : k = "if" := by
        have c5 : ¬ (!decide (V.str k = V.str "if")) = true := c5
        have h2 : decide (V.str k = V.str "if") = true := by simpa using c5
        have := of_decide_eq_true h2
        injection this
      have e : lawF kvs k x r L (fun d => lawE kvs m d L) (fun d => lawE kvs (m - 1) d L) = ifF x r (fun d => lawE kvs m d L) (fun d => lawE kvs (m - 1) d L) := by
        unfold lawF
        rw [if_neg ek1, if_neg ek2, if_neg c3', if_neg ek3, if_pos ek4]
      rw [e] at q
      clear e
      refine ⟨_, rfl, _, _, rfl, .inr (SqT.of (ha2)), rfl, _, rfl, ?_⟩
      refine ite2 (fun c6 => ?_) (fun c6 => ?_)
      · have c6' : ¬ r.length = 2 := fun z => by
          have c6 : (!decide (V.int (((V.str k :: y1 :: xs2).length : Nat) : Int) = V.int 4)) = true := c6
          rw [hlen, z] at c6
          exact absurd c6 (by decide)
        rw [ifF_not c6'] at q
        exact q _ S2
      have c6' : r.length = 2 := by
        have c6 : ¬ (!decide (V.int (((V.str k :: y1 :: xs2).length : Nat) : Int) = V.int 4)) = true := c6
        have h2 : decide (V.int (((V.str k :: y1 :: xs2).length : Nat) : Int) = V.int 4) = true := by simpa using c6
        have := of_decide_eq_true h2
        injection this
        omega
      obtain ⟨ya, yb, rfl⟩ : ∃ ya yb, r = [ya, yb] := by
        match r, c6' with
        | [ya, yb], _ => exact ⟨ya, yb, rfl⟩
      obtain ⟨y2, xs3, rfl, h2, hx3⟩ := hx2.cons_inv
      obtain ⟨y3, xs4, rfl, h3, hx4⟩ := hx3.cons_inv
      obtain rfl := hx4.nil_inv
      have h1s := h1.mono (Same.kp S2)
      refine ⟨_, rfl, _, _, _, _, rfl, rfl, SqT.of (ha2), at1, _, _, _, _, _, rfl, .ty _, Td.tyx (h1s), kit_ty (kit_tup _), _, rfl, ?_⟩
      cases x with
      | tup t =>
        refine iteF ?_
        obtain ⟨g, gs, rfl, hg, hgl, hgs⟩ := h1s.tup_inv
        have hgl2 := hgs.length
        refine ⟨_, rfl, _, _, _, _, rfl, rfl, SqT.of (ha2), at1, _, _, rfl, .inr (SqT.of (hg)), rfl, _, rfl, ?_⟩
        refine ite2 (fun c7 => ?_) (fun c7 => ?_)
        · have c7' : ¬ t.length = 3 := fun z => by
            have c7 : (!decide (V.int ((gs.length : Nat) : Int) = V.int 3)) = true := c7
            rw [hgl2, z] at c7
            exact absurd c7 (by decide)
          rw [ifF_not3 c7'] at q
          exact q _ S2
        have c7' : t.length = 3 := by
          have c7 : ¬ (!decide (V.int ((gs.length : Nat) : Int) = V.int 3)) = true := c7
          have h2 : decide (V.int ((gs.length : Nat) : Int) = V.int 3) = true := by simpa using c7
          have := of_decide_eq_true h2
          injection this
          omega
        obtain ⟨hh, u, z, rfl⟩ : ∃ hh u z, t = [hh, u, z] := by
          match t, c7' with
          | [hh, u, z], _ => exact ⟨hh, u, z, rfl⟩
        have q' : ∀ H', Same H H' → Q (.bl (isLess hh && ([u, z].all (fun d => lawE kvs (m - 1) d L) && [ya, yb].all (fun d => lawE kvs m d L)))) H' := fun H' e => q H' e
        have ckt := ck_tup (ck3.mem (d := .tup [hh, u, z]) (by simp))
        obtain ⟨z0, zs, rfl, hz0, hzs⟩ := hgs.cons_inv
        have hsh := ck2 hh [u, z] [ya, yb] (by rw [ek4])
        refine ⟨_, rfl, _, _, _, _, rfl, rfl, SqT.of (ha2), at1, _, _, _, _, rfl, rfl, SqT.of (hg), at0, hh.pd, .str "less", dp_of hh _ hz0, .str _, hsh, (by decide +kernel), _, rfl, ?_⟩
        rw [eqv_less]
        cases eL : isLess hh with
        | false =>
          rw [eL, Bool.false_and] at q'
          exact iteT (q' _ S2)
        | true =>
          refine iteF ?_
          rw [eL, Bool.true_and] at q'
          have hcut : cutV (z0 :: zs) (some 1) none = zs := by
            unfold cutV
            rw [show HT.sIx (z0 :: zs).length 0 (some 1) = 1 from (by show min 1 _ = 1; simp), HT.sIx_none]
            simp
          refine ⟨_, rfl, _, _, _, _, rfl, rfl, SqT.of (ha2), at1, _, rfl, _, _, rfl, SqT.of hg, (fun w => absurd w.1 (by show ¬ min 1 (zs.length + 1) = 0; omega)), fun _ p hp => ?_⟩
          rw [hcut]
          have S3 := Same.new' S2 hp (.tup zs)
          refine ⟨p, rfl, ⟨_, SqT.of upd_same⟩, fun Dl hDl => ?_⟩
          refine lparts (c := 2) S3 upd_same (by simp only [List.length_cons] at hgl; omega) (hzs.mono (Same.kp (Same.new hp _))) (S3 _ _ hk) tk ik (fun d hd => ckt.2.2.mem (List.mem_cons_of_mem _ hd)) (by rw [edp2]; omega) hDl fun H4 acc S4 hal hae => ?_
          refine ⟨(by show 0 ≤ sizeLine; decide), fun p5 hp5 => ⟨_, _, _, rfl, rfl, SqL.of (Same.new hp5 _ _ _ hal), SqL.of upd_same, _, rfl, ?_⟩⟩
          have S5 := Same.new' S4 hp5 (.lst [])
          rw [hae, edp2]
          cases eG : [u, z].all (fun d => lawE kvs (m - 1) d L) with
          | false =>
            rw [eG, Bool.false_and] at q'
            exact iteT (q' _ S5)
          | true =>
            rw [eG, Bool.true_and] at q'
            refine iteF ?_
            have ha5 := S5 _ _ ha
            have hcut2 : cutV (V.str k :: V.ref g :: [y2, y3]) (some 2) none = [y2, y3] := rfl
            refine ⟨_, rfl, _, rfl, _, _, rfl, SqT.of ha5, (fun w => absurd w.1 (show ¬ HT.sIx 4 0 (some 2) = 0 by decide)), fun _ p6 hp6 => ?_⟩
            rw [hcut2]
            have S6 := Same.new' S5 hp6 (.tup [y2, y3])
            refine ⟨p6, rfl, ⟨_, SqT.of upd_same⟩, fun Dl2 hDl2 => ?_⟩
            refine lparts (c := 1) S6 upd_same (by show 2 ≤ 1000; decide) ((two_some h2 h3).mono (Same.kp S6)) (S6 _ _ hk) tk ik (fun d hd => ck3.mem (List.mem_cons_of_mem _ (List.mem_cons_of_mem _ hd))) (by rw [edp1]; omega) hDl2 fun H7 acc7 S7 hal7 hae7 => ?_
            refine ⟨(by show 0 ≤ sizeLine; decide), fun p8 hp8 => ⟨_, _, _, rfl, rfl, SqL.of (Same.new hp8 _ _ _ hal7), SqL.of upd_same, ?_⟩⟩
            rw [hae7, edp1]
            exact q' _ (Same.new' S7 hp8 _)
      | _ => exact iteT (q _ S2)
    | non =>
      exact iteT q0
    | bl b => exact iteT q0
    | int i => exact iteT q0
    | tup l => exact iteT q0
  | non => exact iteT (iteT q0)
  | bl b => exact iteT (iteT q0)
  | int i => exact iteT (iteT q0)
  | str s => exact iteT (iteT q0)
theorem ok_part (T : Txt K mg) (dm : Def K mg "_law_is_plain_part" s__law_is_plain_part ["_law_one", "_law_lates_here", "_law_sizes", "_law_deep"]) (c_l_is_int : Cal P w K mg base 1 "_law_is_int" ["_law_value"] spIsInt) :
    ∀ n : Nat, Cal P w K mg base (n + 2) "_law_is_plain_part" ["_law_one", "_law_lates_here", "_law_sizes", "_law_deep"] (spPart n)
  | 0 => (Cal.none dm fun vs H Q E ⟨_, _, _, _, _, _, _, _, _, _, _, _, h, _⟩ => absurd h (Nat.not_lt_zero _)).mono (by omega)
  | n + 1 => step_part T dm c_l_is_int (ok_part T dm c_l_is_int n)
end
end K04
namespace K04
open PySem PySem.Spec PyProof.Rows L2
/-! ### the law's answer is the program's -/
theorem all_and {α : Type} (f g : α → Bool) : ∀ l : List α, l.all (fun x => f x && g x) = (l.all f && l.all g)
  | [] => rfl
  | x :: r => by
    rw [List.all_cons, List.all_cons, List.all_cons, all_and f g r]
    cases f x <;> cases g x <;> cases r.all f <;> rfl
theorem all_congr' {α : Type} {f g : α → Bool} : ∀ {l : List α}, (∀ x ∈ l, f x = g x) → l.all f = l.all g
  | [], _ => rfl
  | x :: r, h => by rw [List.all_cons, List.all_cons, h x List.mem_cons_self, all_congr' fun y hy => h y (List.mem_cons_of_mem _ hy)]
/-- the calls of so deep a part answer to the sizes -/
def okC (kvs : List (Key × V)) (m : Nat) (d : D) : Bool := ((callsD m d).getD []).all (callOk kvs)
theorem okC_parts {kvs : List (Key × V)} {m : Nat} {d : D} {ps : List D} (h1 : partsD d = some ps) (h2 : ∀ p ∈ ps, ∃ cs, callsD m p = some cs) : okC kvs (m + 1) d = ((ownD d).all (callOk kvs) && ps.all (okC kvs m)) := by
  have key : ∀ ps : List D, (∀ p ∈ ps, ∃ cs, callsD m p = some cs) → ∃ cs, callsL (callsD m) ps = some cs ∧ cs.all (callOk kvs) = ps.all (okC kvs m) := by
    intro ps
    induction ps with
    | nil => exact fun _ => ⟨[], rfl, rfl⟩
    | cons p r ih =>
      intro h
      obtain ⟨a, ha⟩ := h p List.mem_cons_self
      obtain ⟨b, hb, he⟩ := ih fun q hq => h q (List.mem_cons_of_mem _ hq)
      refine ⟨a ++ b, ?_, ?_⟩
      · unfold callsL
        rw [ha, hb]
        rfl
      · rw [List.all_append, he, List.all_cons]
        congr 1
        unfold okC
        rw [ha]
        rfl
  obtain ⟨cs, hcs, he⟩ := key ps h2
  have e : callsD (m + 1) d = some (ownD d ++ cs) := by
    unfold callsD
    rw [h1]
    show (callsL (callsD m) ps).map _ = _
    rw [hcs]
    rfl
  unfold okC
  rw [e]
  show (ownD d ++ cs).all _ = _
  rw [List.all_append, he]
  rfl
/-- names that stand among the sizes are plain, their sizes small -/
def GoodK (kvs : List (Key × V)) : Prop := ∀ s i, valV kvs (.inr s) = some (.int i) → plainNm s = true ∧ i ≤ 4
theorem callF_eq {kvs : List (Key × V)} (gk : GoodK kvs) (ik : IntsK kvs) (x y : D) (f : D → Bool) :
    callF kvs x [y] f = ((plainNmD x && callArgs y f) && callOk kvs (.tup [.str "call", x, y])) := by
  cases y with
  | tup as =>
    show ((valD kvs x).isSome && (decide (valD kvs x = some (.int as.length)) && as.all f)) = ((plainNmD x && (decide (as.length ≤ 4) && as.all f)) && _)
    cases x with
    | str s =>
      show ((valV kvs (.inr s)).isSome && (decide (valV kvs (.inr s) = some (.int as.length)) && as.all f)) = ((plainNm s && (decide (as.length ≤ 4) && as.all f)) && decide ((valV kvs (.inr s)).getD (.int (-1)) = .int as.length))
      cases ev : valV kvs (.inr s) with
      | none =>
        have : decide ((none : Option V).getD (.int (-1)) = .int as.length) = false := decide_eq_false fun z => by
          have z : V.int (-1) = .int as.length := z
          injection z with z
          omega
        rw [this, Bool.and_false]
        rfl
      | some v =>
        obtain ⟨i, rfl⟩ := ik _ _ ev
        obtain ⟨hp, hi⟩ := gk s i ev
        by_cases c : i = (as.length : Int)
        · rw [hp, decide_eq_true (p := some (V.int i) = some (.int as.length)) (by rw [c]), decide_eq_true (p := as.length ≤ 4) (by omega), decide_eq_true (p := (some (V.int i)).getD (.int (-1)) = .int as.length) (by rw [c]; rfl)]
          cases as.all f <;> rfl
        · rw [decide_eq_false (p := some (V.int i) = some (.int as.length)) (fun z => c (by injection z with z; injection z)), decide_eq_false (p := (some (V.int i)).getD (.int (-1)) = .int as.length) (fun z => c (by have z : V.int i = .int as.length := z; injection z))]
          rw [Bool.and_false]
          rfl
    | _ => rfl
  | non => exact (Bool.and_false _).symm.trans (congrArg _ (by cases x <;> rfl))
  | bl b => exact (Bool.and_false _).symm.trans (congrArg _ (by cases x <;> rfl))
  | int i => exact (Bool.and_false _).symm.trans (congrArg _ (by cases x <;> rfl))
  | str s => exact (Bool.and_false _).symm.trans (congrArg _ (by cases x <;> rfl))
theorem lawE_eq {kvs : List (Key × V)} (gk : GoodK kvs) (ik : IntsK kvs) (L : Int) : ∀ (N m : Nat) (d : D), m ≤ N → lawE kvs m d L = (plainE m d L && okC kvs m d)
  | _, 0, d, _ => by
    cases d <;> rfl
  | 0, m + 1, d, h => absurd h (by omega)
  | N + 1, m + 1, d, h => by
    have ih : ∀ j, j ≤ m → ∀ d, lawE kvs j d L = (plainE j d L && okC kvs j d) := fun j hj d => lawE_eq gk ik L N j d (by omega)
    have short : ∀ d, isTuple d 2 = false → isTuple d 3 = false → isTuple d 4 = false → lawE kvs (m + 1) d L = false → lawE kvs (m + 1) d L = (plainE (m + 1) d L && okC kvs (m + 1) d) := fun d h2 h3 h4 e => by rw [e, plainE_other h2 h3 h4, Bool.false_and]
    have pd : ∀ j d, plainE j d L = true → ∃ cs, callsD j d = some cs := fun j d hp => by
      obtain ⟨cs, h, _⟩ := plainE_calls hp
      exact ⟨cs, h⟩
    -- parts of one depth
    have parts : ∀ (ps : List D) (d : D), partsD d = some ps → ownD d = [] → ps.all (fun p => lawE kvs m p L) = (ps.all (fun p => plainE m p L) && okC kvs (m + 1) d) := fun ps d h1 h2 => by
      rw [all_congr' fun p _ => ih m (Nat.le_refl m) p, all_and]
      cases e : ps.all (fun p => plainE m p L) with
      | false => rfl
      | true =>
        rw [okC_parts h1 fun p hp => pd m p (List.all_eq_true.mp e p hp), h2]
        rfl
    match d with
    | .non => rfl
    | .bl _ => rfl
    | .int _ => rfl
    | .str _ => rfl
    | .tup [] => rfl
    | .tup (.non :: r) => exact short _ rfl rfl rfl rfl
    | .tup (.bl _ :: r) => exact short _ rfl rfl rfl rfl
    | .tup (.int _ :: r) => exact short _ rfl rfl rfl rfl
    | .tup (.tup _ :: r) => exact short _ rfl rfl rfl rfl
    | .tup [.str k] => exact short _ rfl rfl rfl rfl
    | .tup (.str k :: x :: r) =>
      have hne : ∀ {a b : Str}, k = a → a ≠ b → ¬ k = b := fun h1 h2 h3 => h2 (h1.symm.trans h3)
      match r with
      | [] =>
        have e1 : plainE (m + 1) (.tup [.str k, x]) L = if k = "number" then isIn x 0 (10 ^ 30) else (decide (k = "late") && isIn x 0 (L - 1)) := rfl
        have e2 : k = "number" ∨ k = "late" → okC kvs (m + 1) (.tup [.str k, x]) = true := fun h => by
          have hp : partsD (.tup [.str k, x]) = some [] := by rcases h with rfl | rfl <;> rfl
          have ho : ownD (.tup [.str k, x]) = [] := by rcases h with rfl | rfl <;> rfl
          rw [okC_parts hp (fun _ h => nomatch h), ho]
          rfl
        rw [lawE_tup, e1]
        unfold lawF
        by_cases k1 : k = "number"
        · rw [if_pos k1, if_pos k1, e2 (.inl k1), Bool.and_true]
          rfl
        · rw [if_neg k1, if_neg k1]
          by_cases k2 : k = "late"
          · rw [if_pos k2, e2 (.inr k2), Bool.and_true, decide_eq_true k2]
            rfl
          · rw [if_neg k2, decide_eq_false k2, Bool.false_and, Bool.false_and]
            have e3 : callF kvs x [] (fun d => lawE kvs m d L) = false := rfl
            have e4 : ifF x [] (fun d => lawE kvs m d L) (fun d => lawE kvs (m - 1) d L) = false := ifF_not (by decide)
            rw [e3, e4]
            split
            · rfl
            · split
              · rfl
              · split <;> rfl
      | [y] =>
        have e1 : plainE (m + 1) (.tup [.str k, x, y]) L = if pairsS.contains k = true then [x, y].all (fun a => plainE m a L) else (decide (k = "call") && (plainNmD x && callArgs y (fun a => plainE m a L))) := rfl
        rw [lawE_tup, e1]
        unfold lawF
        by_cases k3 : pairsS.contains k = true
        · have hk := pairs_cases k3
          have k1 : ¬ k = "number" := by rcases hk with rfl | rfl | rfl <;> decide
          have k2 : ¬ k = "late" := by rcases hk with rfl | rfl | rfl <;> decide
          rw [if_neg k1, if_neg k2, if_pos k3, if_pos k3]
          exact parts [x, y] _ (by rcases hk with rfl | rfl | rfl <;> rfl) (by rcases hk with rfl | rfl | rfl <;> rfl)
        · rw [if_neg k3, if_neg k3]
          by_cases k4 : k = "call"
          · subst k4
            rw [if_neg (by decide), if_neg (by decide), if_pos rfl, callF_eq gk ik, decide_eq_true rfl, Bool.true_and]
            cases plainNmD x with
            | false => rfl
            | true =>
              rw [Bool.true_and, Bool.true_and]
              cases y with
              | tup as =>
                show ((decide (as.length ≤ 4) && as.all (fun d => lawE kvs m d L)) && _) = ((decide (as.length ≤ 4) && as.all (fun d => plainE m d L)) && _)
                rw [all_congr' fun p _ => ih m (Nat.le_refl m) p, all_and]
                cases decide (as.length ≤ 4) with
                | false => rfl
                | true =>
                  rw [Bool.true_and, Bool.true_and]
                  cases e : as.all (fun p => plainE m p L) with
                  | false => rfl
                  | true =>
                    rw [okC_parts (ps := as) rfl fun p hp => pd m p (List.all_eq_true.mp e p hp)]
                    have ho : ownD (.tup [.str "call", x, .tup as]) = [.tup [.str "call", x, .tup as]] := rfl
                    rw [ho, List.all_cons, List.all_nil, Bool.and_true, Bool.true_and, Bool.true_and, Bool.and_comm]
              | non => rfl
              | bl b => rfl
              | int i => rfl
              | str s => rfl
          · rw [decide_eq_false k4, Bool.false_and, Bool.false_and, if_neg k4]
            have e4 : ifF x [y] (fun d => lawE kvs m d L) (fun d => lawE kvs (m - 1) d L) = false := ifF_not (by simp)
            rw [e4]
            split
            · rfl
            · split
              · rfl
              · split <;> rfl
      | [y, z] =>
        obtain ⟨g, e1, gj, g0⟩ := plainE_if m k x y z L
        rw [lawE_tup, e1]
        unfold lawF
        by_cases k5 : k = "if"
        · subst k5
          rw [if_neg (by decide), if_neg (by decide), if_neg (by decide), if_neg (by decide), if_pos rfl, decide_eq_true rfl, Bool.true_and]
          by_cases ht : ∃ h u w, x = .tup [h, u, w]
          · obtain ⟨h0, u, w, rfl⟩ := ht
            show (isLess h0 && ([u, w].all (fun d => lawE kvs (m - 1) d L) && [y, z].all (fun d => lawE kvs m d L))) = _
            by_cases hm : m < 2
            · have e2 : m - 1 = 0 := by omega
              have e3 : [u, w].all (fun d => lawE kvs (m - 1) d L) = false := by
                rw [e2]
                rfl
              rw [g0 hm, e3, Bool.false_and, Bool.and_false]
              rfl
            · obtain ⟨j, rfl⟩ : ∃ j, m = j + 2 := ⟨m - 2, by omega⟩
              have e2 : lessArgs (.tup [h0, u, w]) (fun a => plainE (j + 1) a L) = (isLess h0 && [u, w].all (fun a => plainE (j + 1) a L)) := by cases h0 <;> rfl
              rw [gj j rfl, e2]
              cases hh : isLess h0 with
              | false => rfl
              | true =>
                have hs : h0 = .str "less" := by
                  cases h0 with
                  | str s =>
                    have hh : decide (s = "less") = true := hh
                    rw [of_decide_eq_true hh]
                  | _ => cases hh
                subst hs
                rw [Bool.true_and, Bool.true_and, show j + 2 - 1 = j + 1 by omega, all_congr' fun p _ => ih (j + 1) (by omega) p, all_and, all_congr' fun p _ => ih (j + 2) (Nat.le_refl _) p, all_and]
                cases e3 : [u, w].all (fun p => plainE (j + 1) p L) with
                | false => rfl
                | true =>
                  cases e4 : [y, z].all (fun p => plainE (j + 2) p L) with
                  | false =>
                    rw [Bool.false_and, Bool.and_false]
                    rfl
                  | true =>
                    have hu : ∀ p ∈ [u, w], ∃ cs, callsD (j + 1) p = some cs := fun p hp => pd _ p (List.all_eq_true.mp e3 p hp)
                    have hy : ∀ p ∈ [y, z], ∃ cs, callsD (j + 2) p = some cs := fun p hp => pd _ p (List.all_eq_true.mp e4 p hp)
                    have e5 : okC kvs (j + 2) (.tup [.str "less", u, w]) = [u, w].all (okC kvs (j + 1)) := okC_parts (m := j + 1) (ps := [u, w]) rfl hu
                    have hl : ∃ cs, callsD (j + 2) (.tup [.str "less", u, w]) = some cs := by
                      obtain ⟨c1, h1⟩ := hu u (by simp)
                      obtain ⟨c2, h2⟩ := hu w (by simp)
                      refine ⟨[] ++ (c1 ++ (c2 ++ [])), ?_⟩
                      show (callsL (callsD (j + 1)) [u, w]).map _ = _
                      unfold callsL
                      rw [h1]
                      unfold callsL
                      rw [h2]
                      rfl
                    have e6 : okC kvs (j + 2 + 1) (.tup [.str "if", .tup [.str "less", u, w], y, z]) = ([].all (callOk kvs) && [D.tup [.str "less", u, w], y, z].all (okC kvs (j + 2))) := okC_parts (m := j + 2) (ps := [.tup [.str "less", u, w], y, z]) rfl fun p hp => by
                      rcases List.mem_cons.mp hp with rfl | hp
                      · exact hl
                      · exact hy p hp
                    have e7 : [D.tup [.str "less", u, w], y, z].all (okC kvs (j + 2)) = (okC kvs (j + 2) (.tup [.str "less", u, w]) && [y, z].all (okC kvs (j + 2))) := rfl
                    rw [e6, e7, e5]
                    generalize [u, w].all (okC kvs (j + 1)) = p1
                    generalize [y, z].all (okC kvs (j + 2)) = p2
                    cases p1 <;> cases p2 <;> rfl
          · have e2 : ifF x [y, z] (fun d => lawE kvs m d L) (fun d => lawE kvs (m - 1) d L) = false := by
              unfold ifF
              split
              · exact absurd ⟨_, _, _, rfl⟩ ht
              · rfl
            rw [e2]
            have e3 : g = false := by
              by_cases hm : m < 2
              · exact g0 hm
              · rw [gj (m - 2) (by omega)]
                unfold lessArgs
                split
                · exact absurd ⟨_, _, _, rfl⟩ ht
                · rfl
            rw [e3]
            rfl
        · rw [decide_eq_false k5, Bool.false_and, Bool.false_and, if_neg k5, callF_not (by simp)]
          split
          · rfl
          · split
            · rfl
            · split
              · rfl
              · split <;> rfl
      | a :: b :: c :: r' =>
        refine short _ ?_ ?_ ?_ ?_
        · exact decide_eq_false (by show ¬ (x :: a :: b :: c :: r').length + 1 = 2; simp only [List.length_cons]; omega)
        · exact decide_eq_false (by show ¬ (x :: a :: b :: c :: r').length + 1 = 3; simp only [List.length_cons]; omega)
        · exact decide_eq_false (by show ¬ (x :: a :: b :: c :: r').length + 1 = 4; simp only [List.length_cons]; omega)
        · rw [lawE_tup]
          unfold lawF
          rw [callF_not (by simp only [List.length_cons]; omega), ifF_not (by simp only [List.length_cons]; omega)]
          have h0 : decide ((a :: b :: c :: r').length = 0) = false := decide_eq_false (by simp)
          have h1 : decide ((a :: b :: c :: r').length = 1) = false := decide_eq_false (by simp)
          rw [h0, h1]
          split
          · rfl
          · split
            · rfl
            · split
              · rfl
              · split
                · rfl
                · split <;> rfl
/-- a function as it stands in a plain program: name, number, body -/
def TrF (d : D) : Prop := ∃ s L b, d = .tup [.str s, .int L, b]
def nlF (d : D) : Bool := plainNm (nameD d) && (decide (0 ≤ latesD d) && decide (latesD d ≤ 4))
def nodF : List D → List (Key × V) → Bool
  | [], _ => true
  | d :: r, kvs => !(valV kvs (.inr (nameD d))).isSome && nodF r (putD kvs d)
def goodF : List D → Bool → List (Key × V) → Bool
  | [], g, _ => g
  | d :: r, g, kvs => goodF r (g && (plainNm (nameD d) && (!(valV kvs (.inr (nameD d))).isSome && (decide (0 ≤ latesD d) && decide (latesD d ≤ 4))))) (putD kvs d)
theorem goodF_eq : ∀ (l : List D) (g : Bool) (kvs : List (Key × V)), goodF l g kvs = (g && (l.all nlF && nodF l kvs))
  | [], g, _ => by
    show g = (g && (true && true))
    cases g <;> rfl
  | d :: r, g, kvs => by
    show goodF r _ _ = _
    rw [goodF_eq r, List.all_cons]
    show _ = (g && ((nlF d && r.all nlF) && (!(valV kvs (.inr (nameD d))).isSome && nodF r (putD kvs d))))
    unfold nlF
    generalize plainNm (nameD d) = a
    generalize (valV kvs (.inr (nameD d))).isSome = b
    generalize decide (0 ≤ latesD d) = c
    generalize decide (latesD d ≤ 4) = e
    generalize r.all _ = f
    generalize nodF r _ = h
    cases g <;> cases a <;> cases b <;> cases c <;> cases e <;> cases f <;> cases h <;> rfl
theorem nodF_eq : ∀ (l : List D) (kvs : List (Key × V)), nodF l kvs = decide ((l.foldl putD kvs).length = kvs.length + l.length)
  | [], kvs => by
    show true = _
    exact (decide_eq_true rfl).symm
  | d :: r, kvs => by
    show (!(valV kvs (.inr (nameD d))).isSome && nodF r (putD kvs d)) = decide ((r.foldl putD (putD kvs d)).length = kvs.length + (r.length + 1))
    rw [nodF_eq r]
    cases ev : valV kvs (.inr (nameD d)) with
    | none =>
      have e : (putD kvs d).length = kvs.length + 1 := by
        unfold putD
        rw [putK_new _ ev, List.length_append]
        rfl
      rw [e, show kvs.length + 1 + r.length = kvs.length + (r.length + 1) by omega]
      rfl
    | some v =>
      have e : (putD kvs d).length = kvs.length := by
        unfold putD putK
        rw [if_pos (by rw [valV_any, ev]; rfl), List.length_map]
      have := foldl_len r (putD kvs d)
      rw [decide_eq_false (p := (r.foldl putD (putD kvs d)).length = kvs.length + (r.length + 1)) (by omega)]
      rfl
theorem sizes_ok {l : List D} (hn : l.all nlF = true) : GoodK (sizesK l) := fun s i e => by
  rw [sizesK_look] at e
  obtain ⟨d, hd, e2⟩ := Option.map_eq_some_iff.mp e
  obtain ⟨hm, hs⟩ := lookF_mem hd
  have h := List.all_eq_true.mp hn d hm
  unfold nlF at h
  simp only [Bool.and_eq_true, decide_eq_true_eq] at h
  injection e2 with e2
  rw [← hs, ← e2]
  exact ⟨h.1, h.2.2⟩
theorem sizes_txt : ∀ (l : List D) {kvs : List (Key × V)}, TxtK kvs → TxtK (l.foldl putD kvs)
  | [], _, h => h
  | d :: r, _, h => sizes_txt r h.put
/-- the law's own test of a plain program -/
def lawP (l : List D) : Bool := goodF l (decide (1 ≤ l.length) && decide (l.length ≤ 300)) [] && l.all (fun d => lawE (sizesK l) 30 (bodyD d) (latesD d))
theorem lawP_eq {l : List D} (ht : ∀ d ∈ l, TrF d) : lawP l = isPlainD (.tup l) := by
  have e : isPlainD (.tup l) = (decide (1 ≤ l.length) && (decide (l.length ≤ 300) && (l.all plainF && (decide ((sizesK l).length = l.length) && l.all (callsOk (sizesK l)))))) := rfl
  rw [e]
  unfold lawP
  rw [goodF_eq, nodF_eq]
  have e2 : decide ((l.foldl putD []).length = ([] : List (Key × V)).length + l.length) = decide ((sizesK l).length = l.length) := by
    show decide ((sizesK l).length = 0 + l.length) = _
    rw [Nat.zero_add]
  rw [e2]
  have e3 : l.all plainF = (l.all nlF && l.all (fun d => plainE 30 (bodyD d) (latesD d))) := by
    rw [← all_and]
    refine all_congr' fun d hd => ?_
    obtain ⟨s, L, b, rfl⟩ := ht d hd
    show (plainNm s && ((decide (0 ≤ L) && decide (L ≤ 4)) && plainE 30 b L)) = ((plainNm s && (decide (0 ≤ L) && decide (L ≤ 4))) && plainE 30 b L)
    generalize plainNm s = p1
    generalize decide (0 ≤ L) = p2
    generalize decide (L ≤ 4) = p3
    generalize plainE 30 b L = p4
    cases p1 <;> cases p2 <;> cases p3 <;> cases p4 <;> rfl
  rw [e3]
  cases hn : l.all nlF with
  | false =>
    cases decide (1 ≤ l.length) <;> cases decide (l.length ≤ 300) <;> rfl
  | true =>
    have e4 : l.all (fun d => lawE (sizesK l) 30 (bodyD d) (latesD d)) = (l.all (fun d => plainE 30 (bodyD d) (latesD d)) && l.all (callsOk (sizesK l))) := by
      rw [← all_and]
      exact all_congr' fun d _ => lawE_eq (sizes_ok hn) (foldl_ints l IntsK.nil) _ 30 30 _ (Nat.le_refl _)
    rw [e4]
    generalize decide (1 ≤ l.length) = a
    generalize decide (l.length ≤ 300) = b
    generalize decide ((sizesK l).length = l.length) = c
    generalize l.all _ = f
    generalize l.all _ = h
    cases a <;> cases b <;> cases c <;> cases f <;> cases h <;> rfl
section
variable {P : Program} {w : World} {K : PySem.W.Frag} {mg : Str → Option Value} {base : Heap} {Ts : List Addr} {Pt : Addr}

abbrev n__law_is_plain : List Str := ["_law_value", "_law_sizes", "_law_good", "_law_name_here", "_law_lates_here", "_law_body_here"]
theorem sc_law_is_plain : FnScope n__law_is_plain ["_law_value"] (defScope s__law_is_plain) := ⟨rfl, rfl, rfl, by decide +kernel, rfl, by decide +kernel, by decide +kernel⟩
def spLPlain : Sp := fun vs H Q _ => ∃ (v : V) (l : List D), vs = [v] ∧ Td H v (.tup l) ∧ (∀ d ∈ l, TrF d) ∧ (∀ d ∈ l, CK (bodyD d)) ∧ ∀ H', Same H H' → Q (.bl (isPlainD (.tup l))) H'
theorem ok_lplain (T : Txt K mg) (dm : Def K mg "_law_is_plain" s__law_is_plain ["_law_value"]) (c_l_is_int : Cal P w K mg base 1 "_law_is_int" ["_law_value"] spIsInt) (c_l_is_name : Cal P w K mg base 1 "_law_is_name" ["_law_name_here"] spLName)
    (c_l_is_plain_part : Cal P w K mg base 33 "_law_is_plain_part" ["_law_one", "_law_lates_here", "_law_sizes", "_law_deep"] (spPart 31)) : Cal P w K mg base 34 "_law_is_plain" ["_law_value"] spLPlain := by
  refine dm.ok sc_law_is_plain (fun vs H Q E h => ?_) (fun f cdv A outer s H vs Q E hr h => ?_)
  · obtain ⟨v, l, rfl, _⟩ := h
    rfl
  obtain ⟨v, l, rfl, hd, ht, hck, q⟩ := h
  rw [← lawP_eq ht] at q
  refine ⟨_, (pss_cons (ps_asg (pe_tup (pa_cons pe_dnewK (pa_cons (pe_chain op_le op_le pe_int (pe_callB call_len_seq (by rfl) T.f_len PySem.boot_len (pa_cons (pv 0) pa_nil)) pe_int) pa_nil))) (pg_tup rfl (pgs_cons (pg_name (i := 1) sc_law_is_plain.nd rfl (Or.inr rfl)) (pgs_cons (pg_name (i := 2) sc_law_is_plain.nd rfl (Or.inl rfl)) pgs_nil))))
      (pss_cons (ps_for PassesOwn.never rfl (pi_tup (pv 0)) (pg_tup rfl (pgs_cons (pg_name (i := 3) sc_law_is_plain.nd rfl (Or.inl rfl)) (pgs_cons (pg_name (i := 4) sc_law_is_plain.nd rfl (Or.inl rfl)) (pgs_cons (pg_name (i := 5) sc_law_is_plain.nd rfl (Or.inl rfl)) pgs_nil)))) (pss_cons (ps_set (i := 2) sc_law_is_plain.nd rfl (Or.inl rfl) (pe_and (pv 2) (pe_and (pe_cal c_l_is_name (hr.mono (by omega)) (pa_cons (pv 3) pa_nil)) (pe_and (pe_cmp (pc_dnotin (hu_of hr) (pv 3) (pv 1)) rfl) (pe_and (pe_cal c_l_is_int (hr.mono (by omega)) (pa_cons (pv 4) pa_nil)) (pe_one (pe_chain op_le op_le pe_int (pv 4) pe_int)))))))
      (pss_one (ps_dput (hu_of hr) (pv 1) (pv 3) (pv 4) rfl))))
      (pss_one (ps_ret (pe_and (pv 2) (pe_one (pe_cmpR (op_eqNil hr.units0) (pe_lc (own := [("_law_name_here", 3), ("_law_lates_here", 4), ("_law_body_here", 5)]) (g := (gTup K 3 (gCons (gName 3) (gCons (gName 4) (gCons (gName 5) gNil)))))  rfl sc_law_is_plain.nd (pi_tup (pv 0)) (blkOk_by (N := n__law_is_plain) (sc := defScope s__law_is_plain) (by decide +kernel)) (fun _ _ _ _ _ => (pg_tup rfl (pgs_cons (pg_name (i := 3) sc_law_is_plain.nd rfl (Or.inl rfl)) (pgs_cons (pg_name (i := 4) sc_law_is_plain.nd rfl (Or.inl rfl)) (pgs_cons (pg_name (i := 5) sc_law_is_plain.nd rfl (Or.inl rfl)) pgs_nil))))) (fun _ _ _ _ _ => pts_one (pt_not (pt_val (pe_cal c_l_is_plain_part (hr.mono (by omega)) (pa_cons (pv 5) (pa_cons (pv 4) (pa_cons (pv 1) (pa_cons pe_int pa_nil)))))))) (fun _ _ _ _ _ => pe_int)) (pe_lst pa_nil) (nomark _)))))))), ?_⟩
  obtain ⟨a, xs, rfl, ha, hxl, hx⟩ := hd.tup_inv
  have hl := hx.length
  refine fun D hD => ?_
  have S1 : Same H (upd H D (.dK [])) := Same.new hD _
  -- behind the first line
  have main : ∀ (H1 : Hp) (o3 o4 o5 : Option V), Same H H1 → H1 D = some (.dK []) →
      tSeq (tFor (iTup K (tVar 0)) (gTup K 3 (gCons (gName 3) (gCons (gName 4) (gCons (gName 5) gNil)))) (tSeq (tAsg (tAndV (tVar 2) (tAndV (tCall spLName [] E0 (tCons (tVar 3) tNil)) (tAndV (tDNotIn (tVar 3) (tVar 1)) (tAndV (tCall spIsInt [] E0 (tCons (tVar 4) tNil))
        (tChain (rI0 fun i j => .bl (decide (i ≤ j))) (rI0 fun i j => .bl (decide (i ≤ j))) (tC (.int 0)) (tVar 4) (tC (.int 4))))))) (gName 2)) (sDPut (tVar 1) (tVar 3) (tVar 4))))
        (tRet (tAndV (tVar 2) (tOp (rEqNil K) (tLc (iTup K (tVar 0)) (gTup K 3 (gCons (gName 3) (gCons (gName 4) (gCons (gName 5) gNil)))) (tNot (tB (tCall (spPart 31) [] E0 (tCons (tVar 5) (tCons (tVar 4) (tCons (tVar 1) (tCons (tC (.int 30)) tNil))))))) (tC (.int 1)) [3, 4, 5]) (tLst tNil))))
        { nx := fun _ H' => Q .non H', rt := Q } [some (.ref a), some (.ref D), some (.bl (decide (1 ≤ l.length) && decide (l.length ≤ 300))), o3, o4, o5] H1 := by
    intro H1 o3 o4 o5 S1 hk1
    have ha1 := S1 _ _ ha
    refine ⟨_, rfl, a, rfl, ⟨_, SqT.of ha1⟩, for_srv (Srv.tup (P := fun H' => Same H H') fun H' h => SqT.of (h _ _ ha)) (fun i σ H' => Same H H' ∧ ∃ (g : Bool) (kvs : List (Key × V)) (o3 o4 o5 : Option V), σ = [some (.ref a), some (.ref D), some (.bl g), o3, o4, o5] ∧ H' D = some (.dK kvs) ∧
      kvs = (l.take i).foldl putD [] ∧ goodF l (decide (1 ≤ l.length) && decide (l.length ≤ 300)) [] = goodF (l.drop i) g kvs) (fun i σ H' h => h.1) ?_ ?_ ?_⟩
    · exact ⟨S1, _, [], o3, o4, o5, rfl, hk1, rfl, rfl⟩
    · rintro i x σ H2 hxi ⟨S2, g, kvs, o3, o4, o5, rfl, hk2, hkv, hgo⟩
      obtain ⟨d, hd1, hd2, htd⟩ := hx.get2 hxi
      obtain ⟨hi, hd3⟩ := List.getElem?_eq_some_iff.mp hd1
      obtain ⟨s', L, b, rfl⟩ := ht d hd2
      obtain ⟨y, ys, rfl, hy, _, hys⟩ := (htd.mono (Same.kp S2)).tup_inv
      obtain ⟨y1, ys, rfl, h1, hys⟩ := hys.cons_inv
      obtain ⟨y2, ys, rfl, h2, hys⟩ := hys.cons_inv
      obtain ⟨y3, ys, rfl, h3, hys⟩ := hys.cons_inv
      obtain rfl := hys.nil_inv
      obtain ⟨rfl, _⟩ := h1.str_inv
      obtain rfl := h2.int_inv
      have hdrop : l.drop i = .tup [.str s', .int L, b] :: l.drop (i + 1) := by
        rw [← hd3]
        exact (List.getElem_cons_drop hi).symm
      have hkl : kvs.length ≤ 1000 := by
        have := foldl_len (l.take i) []
        rw [← hkv, List.length_take] at this
        simp only [List.length_nil] at this
        omega
      refine ⟨_, _, rfl, SqT.of hy, rfl, _, _, rfl, _, _, rfl, _, _, rfl, rfl, ?_⟩
      -- the new good
      have put : ∀ (g2 : Bool) (H3 : Hp), Same H2 H3 → g2 = (g && (plainNm s' && (!(valV kvs (.inr s')).isSome && (decide (0 ≤ L) && decide (L ≤ 4))))) →
          sDPut (tVar 1) (tVar 3) (tVar 4) { nx := fun σ H' => Same H H' ∧ ∃ (g : Bool) (kvs : List (Key × V)) (o3 o4 o5 : Option V), σ = [some (.ref a), some (.ref D), some (.bl g), o3, o4, o5] ∧ H' D = some (.dK kvs) ∧ kvs = (l.take (i + 1)).foldl putD [] ∧ goodF l (decide (1 ≤ l.length) && decide (l.length ≤ 300)) [] = goodF (l.drop (i + 1)) g kvs, rt := Q } [some (.ref a), some (.ref D), some (.bl g2), some (.str s'), some (.int L), some y3] H3 := by
        intro g2 H3 S3 hg2
        refine ⟨_, rfl, _, rfl, _, rfl, D, _, rfl, DPut.k (k := .inr s') (S3 _ _ hk2) (small1000 hkl), Same.mut (S2.trans S3) hD, g2, putK kvs (.inr s') (.int L), _, _, _, rfl, upd_same, ?_, ?_⟩
        · rw [List.take_succ_eq_append_getElem hi, List.foldl_append, hd3, ← hkv]
          rfl
        · rw [hgo, hdrop, hg2]
          rfl
      refine ⟨_, rfl, _, rfl, ?_⟩
      cases g with
      | false => exact iteF (put false H2 (fun _ _ h => h) rfl)
      | true =>
        refine iteT ?_
        refine ⟨_, rfl, .str s', .str s', rfl, h1, fun H3 S3 => ?_⟩
        refine ⟨_, rfl, ?_⟩
        cases hp : plainNmD (.str s') with
        | false => exact iteF (put false H3 S3 (by rw [show plainNm s' = false from hp]; rfl))
        | true =>
          have hp : plainNm s' = true := hp
          refine iteT ?_
          refine ⟨_, rfl, _, rfl, D, valV kvs (.inr s'), rfl, DGet.k (k := .inr s') (S3 _ _ hk2), _, rfl, ?_⟩
          cases hv : (valV kvs (.inr s')).isSome with
          | true => exact iteF (put false H3 S3 (by rw [hp, hv]; rfl))
          | false =>
            refine iteT ?_
            refine ⟨_, rfl, .int L, .int L, rfl, .int L, _, rfl, ?_⟩
            refine iteT ?_
            refine ⟨_, rfl, _, _, rfl, rfl, _, rfl, ?_⟩
            refine ite2 (fun c => ?_) (fun c => ?_)
            · exact ⟨_, _, rfl, rfl, put _ H3 S3 (by rw [hp, hv, c]; rfl)⟩
            · exact put false H3 S3 (by rw [hp, hv, Bool.eq_false_iff.mpr c]; rfl)
    · rintro σ H2 ⟨S2, g, kvs, o3, o4, o5, rfl, hk2, hkv, hgo⟩
      rw [hl, List.take_length] at hkv
      rw [hl, List.drop_length] at hgo
      have hkv : kvs = sizesK l := hkv
      have hgo : goodF l (decide (1 ≤ l.length) && decide (l.length ≤ 300)) [] = g := hgo
      have q2 : ∀ H', Same H H' → Q (.bl (g && l.all (fun d => lawE kvs 30 (bodyD d) (latesD d)))) H' := fun H' e => by
        have := q H' e
        unfold lawP at this
        rw [hgo, ← hkv] at this
        exact this
      refine ⟨_, rfl, _, rfl, ?_⟩
      cases g with
      | false => exact iteF (q2 H2 S2)
      | true =>
        refine iteT ?_
        have tk : TxtK kvs := by rw [hkv]; exact sizes_txt l TxtK.nil
        have ik : IntsK kvs := by rw [hkv]; exact foldl_ints l IntsK.nil
        refine ⟨_, rfl, a, rfl, ⟨_, SqT.of (S2 _ _ ha)⟩, fun Dl hDl => ?_⟩
        refine lc_srv (Srv.tup (P := fun H' => Same H2 H') fun H' h => SqT.of (h _ _ (S2 _ _ ha))) (fun i H' => Same H2 H' ∧ ∃ acc, H' Dl = some (.lst acc) ∧ acc.length ≤ i ∧ acc.isEmpty = (l.take i).all (fun d => lawE kvs 30 (bodyD d) (latesD d))) (fun i H' h => h.1) ⟨Same.new hDl _, [], upd_same, Nat.le_refl _, rfl⟩ ?_ ?_
        · rintro i x H3 hxi ⟨S3, acc, hacc, hal, hae⟩
          obtain ⟨d, hd1, hd2, htd⟩ := hx.get2 hxi
          obtain ⟨hi, hd3⟩ := List.getElem?_eq_some_iff.mp hd1
          obtain ⟨s', L, b, rfl⟩ := ht d hd2
          have ckb : CK b := hck _ hd2
          obtain ⟨y, ys, rfl, hy, _, hys⟩ := (htd.mono (Same.kp (S2.trans S3))).tup_inv
          obtain ⟨y1, ys, rfl, h1, hys⟩ := hys.cons_inv
          obtain ⟨y2, ys, rfl, h2, hys⟩ := hys.cons_inv
          obtain ⟨y3, ys, rfl, h3, hys⟩ := hys.cons_inv
          obtain rfl := hys.nil_inv
          obtain rfl := h2.int_inv
          have htk : (l.take (i + 1)).all (fun d => lawE kvs 30 (bodyD d) (latesD d)) = ((l.take i).all (fun d => lawE kvs 30 (bodyD d) (latesD d)) && lawE kvs 30 b L) := by
            rw [List.take_succ_eq_append_getElem hi, List.all_append, List.all_cons, List.all_nil, Bool.and_true, hd3]
            rfl
          refine ⟨_, _, rfl, SqT.of hy, rfl, _, _, rfl, _, _, rfl, _, _, rfl, rfl, rfl, ?_⟩
          refine ⟨_, rfl, _, rfl, _, rfl, y3, b, L, 30, D, kvs, rfl, h3, S3 _ _ hk2, tk, ik, ckb, by decide, fun H4 S4 => ⟨_, rfl, ?_⟩⟩
          show (if (!lawE kvs 30 b L) = true then _ else _)
          cases hb : lawE kvs 30 b L with
          | true =>
            refine iteF ⟨S3.trans S4, acc, S4 _ _ hacc, by omega, ?_⟩
            rw [htk, hb, Bool.and_true]
            exact hae
          | false =>
            refine iteT ⟨acc, S4 _ _ hacc, szlt (by omega), Same.mut (S3.trans S4) hDl, acc ++ [.int 1], upd_same, by simp only [List.length_append, List.length_singleton]; omega, ?_⟩
            rw [htk, hb, Bool.and_false]
            cases acc <;> rfl
        · rintro H3 ⟨S3, acc, hacc, hal, hae⟩
          rw [hl, List.take_length] at hae
          refine ⟨(by show 0 ≤ sizeLine; decide), fun p5 hp5 => ⟨_, _, _, rfl, rfl, SqL.of (Same.new hp5 _ _ _ hacc), SqL.of upd_same, ?_⟩⟩
          rw [hae]
          exact q2 _ (Same.new' (S2.trans S3) hp5 _)
  -- the first line
  have eg : (decide (1 ≤ l.length) && decide (l.length ≤ 300)) = (decide ((1 : Int) ≤ (xs.length : Nat)) && decide (((xs.length : Nat) : Int) ≤ 300)) := by
    congr 1
    · exact decide_eq_decide.mpr (by omega)
    · exact decide_eq_decide.mpr (by omega)
  refine ⟨_, rfl, _, _, rfl, .inr (SqT.of (Same.new hD _ _ _ ha)), _, _, rfl, rfl, _, rfl, ?_⟩
  have fin : ∀ gg : Bool, gg = (decide (1 ≤ l.length) && decide (l.length ≤ 300)) → ∀ p, upd H D (.dK []) p = none → tSeq (tFor (iTup K (tVar 0)) (gTup K 3 (gCons (gName 3) (gCons (gName 4) (gCons (gName 5) gNil)))) (tSeq (tAsg (tAndV (tVar 2) (tAndV (tCall spLName [] E0 (tCons (tVar 3) tNil)) (tAndV (tDNotIn (tVar 3) (tVar 1)) (tAndV (tCall spIsInt [] E0 (tCons (tVar 4) tNil))
        (tChain (rI0 fun i j => .bl (decide (i ≤ j))) (rI0 fun i j => .bl (decide (i ≤ j))) (tC (.int 0)) (tVar 4) (tC (.int 4))))))) (gName 2)) (sDPut (tVar 1) (tVar 3) (tVar 4))))
        (tRet (tAndV (tVar 2) (tOp (rEqNil K) (tLc (iTup K (tVar 0)) (gTup K 3 (gCons (gName 3) (gCons (gName 4) (gCons (gName 5) gNil)))) (tNot (tB (tCall (spPart 31) [] E0 (tCons (tVar 5) (tCons (tVar 4) (tCons (tVar 1) (tCons (tC (.int 30)) tNil))))))) (tC (.int 1)) [3, 4, 5]) (tLst tNil))))
        { nx := fun _ H' => Q .non H', rt := Q } [some (.ref a), some (.ref D), some (.bl gg), none, none, none] (upd (upd H D (.dK [])) p (.tup [.ref D, .bl gg])) := fun gg hg p hp => by
    subst hg
    exact main _ none none none (Same.new' S1 hp _) (Same.new hp _ _ _ upd_same)
  refine ite2 (fun c => ?_) (fun c => ?_)
  · refine ⟨_, _, rfl, rfl, (by show 2 ≤ sizeLine; decide), fun p hp => ⟨_, _, rfl, SqT.of upd_same, rfl, _, _, rfl, _, _, rfl, rfl, ?_⟩⟩
    refine fin _ ?_ p hp
    rw [eg, c, Bool.true_and]
  · refine ⟨(by show 2 ≤ sizeLine; decide), fun p hp => ⟨_, _, rfl, SqT.of upd_same, rfl, _, _, rfl, _, _, rfl, rfl, ?_⟩⟩
    refine fin _ ?_ p hp
    rw [eg, Bool.eq_false_iff.mpr c, Bool.false_and]
end
end K04
namespace K04
open PySem PySem.Spec PyProof.Rows L2
/-! ### lists from behind -/
theorem cut_m1 (x : V) (rs : List V) : cutV (x :: rs).reverse none (some (-1)) = rs.reverse := by
  unfold cutV
  have e : HT.sIx (x :: rs).reverse.length (x :: rs).reverse.length (some (-1)) = rs.length := by
    show (if (-1 : Int) < 0 then ((-1 : Int) + ((x :: rs).reverse.length : Int)).toNat else min (Int.toNat (-1)) (x :: rs).reverse.length) = rs.length
    rw [if_pos (by decide), List.length_reverse, List.length_cons]
    omega
  rw [e, HT.sIx_none, List.drop_zero, Nat.sub_zero, List.reverse_cons]
  exact List.take_left' (by simp)
theorem cut_m2 (x y : V) (rs : List V) : cutV (x :: y :: rs).reverse none (some (-2)) = rs.reverse := by
  unfold cutV
  have e : HT.sIx (x :: y :: rs).reverse.length (x :: y :: rs).reverse.length (some (-2)) = rs.length := by
    show (if (-2 : Int) < 0 then ((-2 : Int) + ((x :: y :: rs).reverse.length : Int)).toNat else min (Int.toNat (-2)) (x :: y :: rs).reverse.length) = rs.length
    rw [if_pos (by decide), List.length_reverse, List.length_cons, List.length_cons]
    omega
  rw [e, HT.sIx_none, List.drop_zero, Nat.sub_zero, List.reverse_cons, List.reverse_cons, List.append_assoc]
  exact List.take_left' (by simp)
theorem cut_lo (xs : List V) (k : Nat) (h : k ≤ xs.length) : cutV xs.reverse (some ((xs.length : Int) - k)) none = (xs.take k).reverse := by
  unfold cutV
  have e : HT.sIx xs.reverse.length 0 (some ((xs.length : Int) - k)) = xs.length - k := by
    rw [show (xs.length : Int) - k = ((xs.length - k : Nat) : Int) by omega, HT.sIx_nat, List.length_reverse]
    omega
  rw [e, HT.sIx_none, List.drop_reverse, show xs.length - (xs.length - k) = k by omega, List.take_of_length_le]
  rw [List.length_reverse, List.length_take, List.length_reverse]
  omega
theorem cut_hi (xs : List V) (k : Nat) (h : k ≤ xs.length) : cutV xs.reverse none (some ((xs.length : Int) - k)) = (xs.drop k).reverse := by
  unfold cutV
  have e : HT.sIx xs.reverse.length xs.reverse.length (some ((xs.length : Int) - k)) = xs.length - k := by
    rw [show (xs.length : Int) - k = ((xs.length - k : Nat) : Int) by omega, HT.sIx_nat, List.length_reverse]
    omega
  rw [e, HT.sIx_none, List.drop_zero, Nat.sub_zero, List.take_reverse, show xs.length - (xs.length - k) = k by omega]
theorem at_m1 (x : V) (rs : List V) : atI (x :: rs).reverse (-1) = some x := by
  unfold atI
  rw [List.length_reverse, List.length_cons, ixN_last]
  show (x :: rs).reverse[rs.length]? = some x
  rw [List.reverse_cons, List.getElem?_append_right (by simp)]
  simp
theorem at_m2 (x y : V) (rs : List V) : atI (x :: y :: rs).reverse (-2) = some y := by
  unfold atI
  have e : ixN (x :: y :: rs).reverse.length (-2) = some rs.length := by
    unfold ixN
    rw [if_neg (by decide), List.length_reverse, List.length_cons, List.length_cons, if_pos (by omega)]
    congr 1
    omega
  rw [e]
  show (x :: y :: rs).reverse[rs.length]? = some y
  rw [List.reverse_cons, List.reverse_cons, List.getElem?_append_left (by simp), List.getElem?_append_right (by simp)]
  simp
theorem cut_1 (x : V) (xs : List V) : cutV (x :: xs) (some 1) none = xs := by
  unfold cutV
  rw [show HT.sIx (x :: xs).length 0 (some 1) = 1 from (by show min 1 _ = 1; simp), HT.sIx_none]
  simp
theorem cut_1n (x : V) (xs : List V) : ¬ (HT.sIx (x :: xs).length 0 (some 1) = 0 ∧ HT.sIx (x :: xs).length (x :: xs).length none = (x :: xs).length) := fun z => absurd z.1 (by show ¬ min 1 (xs.length + 1) = 0; omega)
/-- the numbers of a task of the law's own run -/
def EvL (H : Hp) (e : Addr) (env : List Int) : Prop := H e = some (.lst (env.map V.int)) ∨ H e = some (.tup (env.map V.int))
theorem EvL.same {H H' : Hp} (s : Same H H') (e : Addr) (env : List Int) (h : EvL H e env) : EvL H' e env := h.elim (fun h => .inl (s _ _ h)) (fun h => .inr (s _ _ h))
theorem TksR.append {kb kf : Str} {Ev : Hp → Addr → List Int → Prop} {H : Hp} {vs ws : List V} {ts us : List Tk} (a : TksR kb kf Ev H vs ts) (b : TksR kb kf Ev H ws us) : TksR kb kf Ev H (vs ++ ws) (ts ++ us) := by
  induction a with
  | nil => exact b
  | cons h _ ih => exact .cons h ih
theorem TksR.cons_inv {kb kf : Str} {Ev : Hp → Addr → List Int → Prop} {H : Hp} {vs : List V} {t : Tk} {ts : List Tk} (a : TksR kb kf Ev H vs (t :: ts)) : ∃ x xs, vs = x :: xs ∧ TkR kb kf Ev H x t ∧ TksR kb kf Ev H xs ts := by
  cases a with
  | cons h1 h2 => exact ⟨_, _, rfl, h1, h2⟩
theorem TkR.inv {kb kf : Str} {Ev : Hp → Addr → List Int → Prop} {H : Hp} {v : V} {t : Tk} (a : TkR kb kf Ev H v t) : ∃ p e x, v = .ref p ∧ H p = some (.tup [.str (if t.fin = true then kf else kb), x, .ref e]) ∧ Td H x t.d ∧ Ev H e t.env := by
  cases a with
  | mk h1 h2 h3 => exact ⟨_, _, _, rfl, h1, h2, h3⟩
theorem TksR.imp {kb kf : Str} {Ev Ev' : Hp → Addr → List Int → Prop} {H : Hp} {vs : List V} {ts : List Tk} (h : ∀ e env, Ev H e env → Ev' H e env) (a : TksR kb kf Ev H vs ts) : TksR kb kf Ev' H vs ts := by
  induction a with
  | nil => exact .nil
  | cons b _ ih =>
    refine .cons ?_ ih
    cases b with
    | mk h1 h2 h3 => exact .mk h1 h2 (h _ _ h3)
theorem TksR.sm {kb kf : Str} {H H' : Hp} {vs : List V} {ts : List Tk} (s : Same H H') (a : TksR kb kf EvL H vs ts) : TksR kb kf EvL H' vs ts := a.mono (Same.kp s) (EvL.same s)
/-- the law's own run as it stands -/
structure LSt (l : List D) (pB : Addr) (H0 H : Hp) (pT pD : Addr) (st : MS) : Prop where
  old : Same H0 H
  tasks : ∃ rs, H pT = some (.lst rs.reverse) ∧ TksR "in" "out" EvL H rs st.ts
  done : H pD = some (.lst (st.dn.map V.int).reverse)
  bod : ∃ kvs, H pB = some (.dK kvs) ∧ ∀ nm f, lookF l nm = some f → ∃ v, valV kvs (.inr nm) = some v ∧ Td H v (bodyD f)
theorem LSt.same {l : List D} {pB : Addr} {H0 H H' : Hp} {pT pD : Addr} {st : MS} (a : LSt l pB H0 H pT pD st) (s : Same H H') : LSt l pB H0 H' pT pD st := by
  obtain ⟨o, ⟨rs, h1, h2⟩, hd, kvs, h3, h4⟩ := a
  refine ⟨o.trans s, ⟨rs, s _ _ h1, h2.sm s⟩, s _ _ hd, kvs, s _ _ h3, fun nm f hf => ?_⟩
  obtain ⟨v, h5, h6⟩ := h4 nm f hf
  exact ⟨v, h5, h6.mono (Same.kp s)⟩
section
variable {P : Program} {w : World} {K : PySem.W.Frag} {mg : Str → Option Value} {base : Heap} {Ts : List Addr} {Pt : Addr}

abbrev n__law_plain_run : List Str := ["_law_plain", "_law_lates_here", "_law_fuel", "_law_bodies", "_law_steps", "_law_done", "_law_name_here", "_law_many", "_law_body_here", "_law_todo", "_law_kind", "_law_one", "_law_some", "_law_parts_here", "_law_own", "_law_part"]
theorem sc_law_plain_run : FnScope n__law_plain_run ["_law_plain", "_law_lates_here", "_law_fuel"] (defScope s__law_plain_run) := ⟨rfl, rfl, rfl, by decide +kernel, rfl, by decide +kernel, by decide +kernel⟩
theorem ok_lrun (T : Txt K mg) (dm : Def K mg "_law_plain_run" s__law_plain_run ["_law_plain", "_law_lates_here", "_law_fuel"]) (c_l_worked : Cal P w K mg base 1 "_law_worked" ["_law_kind", "_law_one", "_law_other"] spWorked) : Cal P w K mg base 2 "_law_plain_run" ["_law_plain", "_law_lates_here", "_law_fuel"] spRunOf := by
  refine dm.ok sc_law_plain_run (fun vs H Q E h => ?_) (fun f cdv A outer s H vs Q E hr h => ?_)
  · obtain ⟨l, env, fuel, v, vl, rfl, _⟩ := h
    rfl
  obtain ⟨l, env, fuel, v, vl, rfl, gr, q⟩ := h
  refine ⟨_, (pss_cons (ps_par3 (i := 3) (j := 4) (l := 5) rfl sc_law_plain_run.nd rfl rfl rfl (by decide) (by decide) (by decide) rfl rfl rfl (pa_cons pe_dnewK (pa_cons pe_int (pa_cons (pe_lst pa_nil) pa_nil))) (by with_unfolding_all rfl))
      (pss_cons (ps_for PassesOwn.never rfl (pi_tup (pv 0)) (pg_tup rfl (pgs_cons (pg_name (i := 6) sc_law_plain_run.nd rfl (Or.inl rfl)) (pgs_cons (pg_name (i := 7) sc_law_plain_run.nd rfl (Or.inl rfl)) (pgs_cons (pg_name (i := 8) sc_law_plain_run.nd rfl (Or.inl rfl)) pgs_nil)))) (pss_one (ps_dput (hu_of hr) (pv 3) (pv 6) (pv 8) rfl)))
      (pss_cons (ps_set (i := 9) sc_law_plain_run.nd rfl (Or.inl rfl) (pe_lst (pa_cons (pe_tup (pa_cons pe_str (pa_cons (pe_ix ix_tup (pe_ix ix_tup (pv 0) pe_int (fun _ _ => rfl)) pe_int (fun _ _ => rfl)) (pa_cons (pv 1) pa_nil)))) pa_nil)))
      (pss_cons (ps_while PassesOwn.never (pt_cmpR (op_neNil hr.units0) (pv 9) (pe_lst pa_nil) (nomark _)) (pss_cons (ps_asg (pe_ix ix_list (pv 9) (pe_un un_neg pe_int) (fun _ _ => rfl)) (pg_tup rfl (pgs_cons (pg_name (i := 10) sc_law_plain_run.nd rfl (Or.inl rfl)) (pgs_cons (pg_name (i := 11) sc_law_plain_run.nd rfl (Or.inl rfl)) (pgs_cons (pg_name (i := 12) sc_law_plain_run.nd rfl (Or.inr rfl)) pgs_nil)))))
      (pss_cons (ps_set (i := 9) sc_law_plain_run.nd rfl (Or.inl rfl) (pe_slice sl_list (pv 9) po_none (po_some (pe_un un_neg pe_int))))
      (pss_cons (ps_if (PW.pt (pw_and (pt_cmpR op_eq (pv 10) pe_str (nomark _)) (pw_and1 (pt_cmpR op_in_seq (pe_ix ix_tup (pv 11) pe_int (fun _ _ => rfl)) (pe_lst (pa_cons pe_str (pa_cons pe_str pa_nil))) rfl)))) (pss_one (ps_set (i := 5) sc_law_plain_run.nd rfl (Or.inl rfl) (pe_op op_cat (pv 5) (pe_lst (pa_cons (pe_ifExp (pt_cmpR op_eq (pe_ix ix_tup (pv 11) pe_int (fun _ _ => rfl)) pe_str (nomark _)) (pe_ix ix_tup (pv 11) pe_int (fun _ _ => rfl)) (pe_ix ix_seq (pv 12) (pe_ix ix_tup (pv 11) pe_int (fun _ _ => rfl)) (fun _ _ => rfl))) pa_nil))))) (pss_one (ps_if (pt_cmpR op_eq (pv 10) pe_str (nomark _)) (pss_cons (ps_set (i := 13) sc_law_plain_run.nd rfl (Or.inl rfl) (pe_ifExp (pt_cmpR op_eq (pe_ix ix_tup (pv 11) pe_int (fun _ _ => rfl)) pe_str (nomark _)) (pe_slice sl_tupA (pe_ix ix_tup (pv 11) pe_int (fun _ _ => rfl)) (po_some pe_int) po_none) (pe_ifExp (pt_cmpR op_eq (pe_ix ix_tup (pv 11) pe_int (fun _ _ => rfl)) pe_str (nomark _)) (pe_ix ix_tup (pv 11) pe_int (fun _ _ => rfl)) (pe_slice sl_tupA (pv 11) (po_some pe_int) po_none))))
      (pss_one (ps_set (i := 9) sc_law_plain_run.nd rfl (Or.inl rfl) (pe_op op_cat (pe_op op_cat (pv 9) (pe_lst (pa_cons (pe_tup (pa_cons pe_str (pa_cons (pv 11) (pa_cons (pv 12) pa_nil)))) pa_nil))) (pe_lc (own := [("_law_part", 15)]) (g := (gName 15)) (tt := tYes) rfl sc_law_plain_run.nd (pi_tup (pe_revT (pv 13))) (blkOk_by (N := n__law_plain_run) (sc := defScope s__law_plain_run) (by decide +kernel)) (fun _ _ _ _ _ => (pg_name (i := 15) sc_law_plain_run.nd rfl (Or.inl rfl))) (fun _ _ _ _ _ => pts_nil) (fun _ _ _ _ _ => (pe_tup (pa_cons pe_str (pa_cons (pv 15) (pa_cons (pv 12) pa_nil)))))))))) (pss_cons (ps_set (i := 4) sc_law_plain_run.nd rfl (Or.inl rfl) (pe_op op_add (pv 4) pe_int))
      (pss_one (ps_if (pt_cmpR op_eq (pe_ix ix_tup (pv 11) pe_int (fun _ _ => rfl)) pe_str (nomark _)) (pss_cons (ps_set (i := 7) sc_law_plain_run.nd rfl (Or.inl rfl) (pe_callB call_len_seq (by rfl) T.f_len PySem.boot_len (pa_cons (pe_ix ix_tup (pv 11) pe_int (fun _ _ => rfl)) pa_nil)))
      (pss_cons (ps_par (i := 14) (j := 5) rfl sc_law_plain_run.nd rfl rfl (by decide) rfl rfl (pa_cons (pe_slice sl_list (pv 5) (po_some (pe_op op_sub (pe_callB call_len_seq (by rfl) T.f_len PySem.boot_len (pa_cons (pv 5) pa_nil)) (pv 7))) po_none) (pa_cons (pe_slice sl_list (pv 5) po_none (po_some (pe_op op_sub (pe_callB call_len_seq (by rfl) T.f_len PySem.boot_len (pa_cons (pv 5) pa_nil)) (pv 7)))) pa_nil)) (by with_unfolding_all rfl))
      (pss_one (ps_set (i := 9) sc_law_plain_run.nd rfl (Or.inl rfl) (pe_op op_cat (pv 9) (pe_lst (pa_cons (pe_tup (pa_cons pe_str (pa_cons (pe_dget (hu_of hr) (pv 3) (pe_ix ix_tup (pv 11) pe_int (fun _ _ => rfl)) (fun _ _ => rfl)) (pa_cons (pv 14) pa_nil)))) pa_nil))))))) (pss_one (ps_if (pt_cmpR op_eq (pe_ix ix_tup (pv 11) pe_int (fun _ _ => rfl)) pe_str (nomark _)) (pss_one (ps_par (i := 9) (j := 5) rfl sc_law_plain_run.nd rfl rfl (by decide) rfl rfl (pa_cons (pe_op op_cat (pv 9) (pe_lst (pa_cons (pe_tup (pa_cons pe_str (pa_cons (pe_ifExp (pt_cmpR op_lt (pe_ix ix_list (pv 5) (pe_un un_neg pe_int) (fun _ _ => rfl)) (pe_ix ix_list (pv 5) (pe_un un_neg pe_int) (fun _ _ => rfl)) (nomark _)) (pe_ix ix_tup (pv 11) pe_int (fun _ _ => rfl)) (pe_ix ix_tup (pv 11) pe_int (fun _ _ => rfl))) (pa_cons (pv 12) pa_nil)))) pa_nil))) (pa_cons (pe_slice sl_list (pv 5) po_none (po_some (pe_un un_neg pe_int))) pa_nil)) (by with_unfolding_all rfl))) (pss_one (ps_set (i := 5) sc_law_plain_run.nd rfl (Or.inl rfl) (pe_op op_cat (pe_slice sl_list (pv 5) po_none (po_some (pe_un un_neg pe_int))) (pe_lst (pa_cons (pe_cal c_l_worked (hr.mono (by omega)) (pa_cons (pe_ix ix_tup (pv 11) pe_int (fun _ _ => rfl)) (pa_cons (pe_ix ix_list (pv 5) (pe_un un_neg pe_int) (fun _ _ => rfl)) (pa_cons (pe_ix ix_list (pv 5) (pe_un un_neg pe_int) (fun _ _ => rfl)) pa_nil)))) pa_nil)))))))))))))
      (pss_one (ps_if (pt_cmpR op_gt (pv 4) (pv 2) (nomark _)) (pss_one (ps_ret pe_non)) pss_nil))))))
      (pss_one (ps_ret (pe_tup (pa_cons (pe_ix ix_list (pv 5) pe_int (fun _ _ => rfl)) (pa_cons (pv 4) pa_nil))))))))), ?_⟩
  have G := gr.gp
  refine fun pB hB => ?_
  refine ⟨(by show 0 ≤ sizeLine; decide), fun pD0 hD0 => ⟨_, _, _, rfl, ?_⟩⟩
  have SB : Same H (upd H pB (.dK [])) := Same.new hB _
  have SD : Same H (upd (upd H pB (.dK [])) pD0 (.lst [])) := Same.new' SB hD0 _
  have nBD : pD0 ≠ pB := fun z => by rw [z, upd_same] at hD0; cases hD0
  obtain ⟨a, xs, rfl, ha, _, hx⟩ := gr.v.tup_inv
  have hl := hx.length
  refine ⟨_, rfl, a, rfl, ⟨_, SqT.of (SD _ _ ha)⟩, for_srv (Srv.tup (P := fun H' => Same H H') fun H' h => SqT.of (h _ _ ha)) (fun i σ H' => Same H H' ∧ (∃ o6 o7 o8, σ = [some (.ref a), some vl, some (.int fuel), some (.ref pB), some (.int 0), some (.ref pD0), o6, o7, o8, none, none, none, none, none, none, none]) ∧ H' pD0 = some (.lst []) ∧
    ∃ kvs, H' pB = some (.dK kvs) ∧ kvs.length ≤ i ∧ ∀ nm f, lookF (l.take i) nm = some f → ∃ v, valV kvs (.inr nm) = some v ∧ Td H' v (bodyD f)) (fun i σ H' h => h.1) ?_ ?_ ?_⟩
  · exact ⟨SD, ⟨none, none, none, rfl⟩, upd_same, [], by rw [upd_ne nBD.symm]; exact upd_same, Nat.le_refl _, fun nm f h => nomatch h⟩
  · rintro i x σ H4 hxi ⟨S4, ⟨o6, o7, o8, rfl⟩, hd4, kvs, hk, hkl, hkv⟩
    obtain ⟨d, hdi, hdm, htd⟩ := hx.get2 hxi
    obtain ⟨hi, hdi'⟩ := List.getElem?_eq_some_iff.mp hdi
    obtain ⟨s', n', b, rfl, _⟩ := G.fn d hdm
    have hle := G.le
    obtain ⟨y, ys, rfl, hy, _, hys⟩ := (htd.mono (Same.kp S4)).tup_inv
    obtain ⟨y1, ys, rfl, h1, hys⟩ := hys.cons_inv
    obtain ⟨y2, ys, rfl, h2, hys⟩ := hys.cons_inv
    obtain ⟨y3, ys, rfl, h3, hys⟩ := hys.cons_inv
    obtain rfl := hys.nil_inv
    obtain ⟨rfl, _⟩ := h1.str_inv
    refine ⟨_, _, rfl, SqT.of hy, rfl, _, _, rfl, _, _, rfl, _, _, rfl, rfl, ?_⟩
    have kp5 : Kp H4 (upd H4 pB (.dK (putK kvs (.inr s') y3))) := fun b zs hb => by
      rw [upd_ne (ne_obj hb hk (fun z => by cases z))]
      exact hb
    refine ⟨_, rfl, _, rfl, _, rfl, pB, _, rfl, DPut.k (k := .inr s') hk (szlt (by omega)), Same.mut S4 hB, ⟨_, _, _, rfl⟩, by rw [upd_ne nBD]; exact hd4, _, upd_same, by have := length_putK kvs (.inr s') y3; omega, fun nm f hf => ?_⟩
    rw [lookF_take hi] at hf
    rw [valV_put2]
    have e : nameD l[i] = s' := by rw [hdi']; rfl
    by_cases c : nm = nameD l[i]
    · rw [if_pos c] at hf
      obtain rfl := Option.some.inj hf
      refine ⟨y3, if_pos (by rw [c, e]), ?_⟩
      rw [hdi']
      exact h3.mono kp5
    · rw [if_neg c] at hf
      obtain ⟨v, h6, h7⟩ := hkv nm f hf
      refine ⟨v, ?_, h7.mono kp5⟩
      rw [if_neg (fun z => c (by rw [e]; injection z))]
      exact h6
  · rintro σ H1 ⟨S1, ⟨o6, o7, o8, rfl⟩, hd1, kvs, hk, hkl, hkv⟩
    rw [hl, List.take_length] at hkv
    have hx1 := hx.mono (Same.kp S1)
    have ha1 := S1 _ _ ha
    obtain ⟨fd, r, hlr⟩ : ∃ f r, l = f :: r := by
      cases h : l with
      | nil => exact absurd (h ▸ G.pos : 1 ≤ ([] : List D).length) (by decide)
      | cons f r => exact ⟨f, r, rfl⟩
    have hx0 := hx1
    rw [hlr] at hx0
    obtain ⟨x1, xs1, rfl, hf, _⟩ := hx0.cons_inv
    obtain ⟨s', n', b, hfb, _⟩ := G.fn fd (by rw [hlr]; exact List.mem_cons_self)
    subst hfb
    obtain ⟨pf, ys, rfl, hpf, _, hys⟩ := hf.tup_inv
    obtain ⟨y1, ys, rfl, _, hys⟩ := hys.cons_inv
    obtain ⟨y2, ys, rfl, _, hys⟩ := hys.cons_inv
    obtain ⟨y3, ys, rfl, h3, hys⟩ := hys.cons_inv
    obtain rfl := hys.nil_inv
    obtain ⟨pl, zs, rfl, hpl, _, hz⟩ := (gr.vl.mono (Same.kp S1)).tup_inv
    obtain rfl := map_ints hz
    refine ⟨_, rfl, _, _, _, _, rfl, rfl, SqT.of (ha1), at0, _, _, _, _, rfl, rfl, SqT.of (hpf), at2, _, rfl, (by show 3 ≤ sizeLine; decide), fun p1 hp1 => ⟨(by show 1 ≤ sizeLine; decide), fun p2 hp2 => ?_⟩⟩
    have Sa := Same.new hp1 (.tup [.str "in", y3, .ref pl])
    have Sb := Same.new' Sa hp2 (.lst [.ref p1])
    have hbody : bodyD (l.headD .non) = b := by rw [hlr]; rfl
    have st0 : LSt l pB H (upd (upd H1 p1 (.tup [.str "in", y3, .ref pl])) p2 (.lst [.ref p1])) p2 pD0 (startM l env) := by
      refine ⟨S1.trans Sb, ⟨[.ref p1], upd_same, .cons (.mk (t := ⟨false, bodyD (l.headD .non), env⟩) (Same.new hp2 _ _ _ upd_same) ?_ (.inr (Sb _ _ hpl))) .nil⟩, Sb _ _ hd1, kvs, Sb _ _ hk, fun nm f hf => ?_⟩
      · rw [hbody]
        exact h3.mono (Same.kp Sb)
      · obtain ⟨v, h6, h7⟩ := hkv nm f hf
        exact ⟨v, h6, h7.mono (Same.kp Sb)⟩
    have g0 := gm_start G gr.sm (fun i hi => inN_V (gr.hin i hi)) gr.len
    refine ⟨fun k σ H' => ∃ (st : MS) (pT pD : Addr) (o6 o7 o8 o10 o11 o12 o13 o14 o15 : Option V), σ = [some (.ref a), some (.ref pl), some (.int fuel), some (.ref pB), some (.int st.n), some (.ref pD), o6, o7, o8, some (.ref pT), o10, o11, o12, o13, o14, o15] ∧ LSt l pB H H' pT pD st ∧ GM l st ∧ st.n ≤ fuel ∧
      (∀ r, EndsM l fuel st r → EndsM l fuel (startM l env) r) ∧ k = mu fuel st, ⟨_, startM l env, p2, pD0, o6, o7, o8, none, none, none, none, none, none, rfl, st0, g0, gr.f0, fun r h => h, rfl⟩, ?_⟩
    rintro k σ H2 ⟨st, pT, pD, o6, o7, o8, o10, o11, o12, o13, o14, o15, rfl, LS, g, hn, hE, rfl⟩
    obtain ⟨rs, t1, ht1⟩ := LS.tasks
    refine ⟨_, rfl, (by show 0 ≤ sizeLine; decide), fun pe hpe => ?_⟩
    have LS := LS.same (Same.new hpe (.lst []))
    have t1 := Same.new hpe (.lst []) _ _ t1
    have ht1 := ht1.sm (Same.new hpe (.lst []))
    refine ⟨_, _, _, rfl, rfl, SqL.of t1, SqL.of upd_same, _, rfl, ?_⟩
    generalize upd H2 pe (.lst []) = H3 at LS t1 ht1
    obtain ⟨ts, dn, n⟩ := st
    cases ts with
    | nil =>
      have hrs : rs = [] := by
        cases ht1
        rfl
      subst hrs
      refine iteF ?_
      have hfl : flow [] dn.length = some 1 := g.flow
      have hfl : dn.length = 1 := by
        have : some dn.length = some 1 := hfl
        injection this
      obtain ⟨v, rfl⟩ : ∃ v, dn = [v] := by
        match dn, hfl with
        | [v], _ => exact ⟨v, rfl⟩
      refine ⟨_, rfl, _, _, _, _, rfl, rfl, SqL.of LS.done, at0, _, rfl, (by show 2 ≤ sizeLine; decide), fun p hp => ?_⟩
      exact q _ _ (some (v, n)) (Same.new' LS.old hp _) (hE _ (.done ⟨[], [v], n⟩ rfl)) (.tup upd_same (by show 2 ≤ 1000; decide) (.cons (.int v) (.cons (.int n) .nil)))
    | cons t ts =>
      obtain ⟨x, rs, rfl, hxt, hrt⟩ := ht1.cons_inv
      have hne : (x :: rs).reverse.isEmpty = false := by simp
      rw [hne]
      refine iteT ?_
      obtain ⟨gm', hmu⟩ := gm_step G gr.sm g (by show t :: ts ≠ []; exact fun z => nomatch z)
      have hmu := hmu fuel hn
      refine ⟨fun σ' H' => ∃ m', m' < mu fuel ⟨t :: ts, dn, n⟩ ∧ ∃ (st : MS) (pT pD : Addr) (o6 o7 o8 o10 o11 o12 o13 o14 o15 : Option V), σ' = [some (.ref a), some (.ref pl), some (.int fuel), some (.ref pB), some (.int st.n), some (.ref pD), o6, o7, o8, some (.ref pT), o10, o11, o12, o13, o14, o15] ∧ LSt l pB H H' pT pD st ∧ GM l st ∧ st.n ≤ fuel ∧
        (∀ r, EndsM l fuel st r → EndsM l fuel (startM l env) r) ∧ m' = mu fuel st, fun σ' H' h => h, ?_⟩
      -- behind the task
      have after : ∀ (pT pD : Addr) (o6 o7 o8 o10 o11 o12 o13 o14 o15 : Option V) (H5 : Hp), LSt l pB H H5 pT pD (stepM l ⟨t :: ts, dn, n⟩) →
          tIfS (tTest (tOp (rI0 fun i j => .bl (decide (i > j))) (tVar 4) (tVar 2))) (tRet (tC .non)) tNext
            { nx := fun σ' H' => ∃ m', m' < mu fuel ⟨t :: ts, dn, n⟩ ∧ ∃ (st : MS) (pT pD : Addr) (o6 o7 o8 o10 o11 o12 o13 o14 o15 : Option V), σ' = [some (.ref a), some (.ref pl), some (.int fuel), some (.ref pB), some (.int st.n), some (.ref pD), o6, o7, o8, some (.ref pT), o10, o11, o12, o13, o14, o15] ∧ LSt l pB H H' pT pD st ∧ GM l st ∧ st.n ≤ fuel ∧ (∀ r, EndsM l fuel st r → EndsM l fuel (startM l env) r) ∧ m' = mu fuel st, rt := Q }
            [some (.ref a), some (.ref pl), some (.int fuel), some (.ref pB), some (.int (stepM l ⟨t :: ts, dn, n⟩).n), some (.ref pD), o6, o7, o8, some (.ref pT), o10, o11, o12, o13, o14, o15] H5 := by
        intro pT pD o6 o7 o8 o10 o11 o12 o13 o14 o15 H5 L5
        refine ⟨_, rfl, _, rfl, _, _, rfl, rfl, _, rfl, ?_⟩
        refine ite2 (fun c => ?_) (fun c => ?_)
        · have c' : (stepM l ⟨t :: ts, dn, n⟩).n > fuel := of_decide_eq_true c
          exact q _ _ none L5.old (hE _ (.out _ (fun z => nomatch z) c')) .non
        · have c' : ¬ (stepM l ⟨t :: ts, dn, n⟩).n > fuel := of_decide_eq_false (Bool.eq_false_iff.mpr c)
          exact ⟨_, hmu, _, pT, pD, o6, o7, o8, o10, o11, o12, o13, o14, o15, rfl, L5, gm', by omega, fun r hr => hE r (.go _ r (fun z => nomatch z) c' hr), rfl⟩
      obtain ⟨ge, gf, genv, glen, gsz⟩ := g.ts t List.mem_cons_self
      have hsz : wts (t :: ts) + dn.length ≤ 800 * (n.toNat + 1) := g.sz
      have hn0 : 0 ≤ n := g.n0
      have hn' : n ≤ fuel := hn
      have hf1 := gr.f1
      have hwl := wts_len (t :: ts)
      have hrl := hrt.length
      simp only [List.length_cons] at hwl
      obtain ⟨a2, e2, x2, rfl, h1, h2, h3⟩ := hxt.inv
      · refine ⟨_, rfl, _, rfl, _, _, _, _, rfl, rfl, SqL.of t1, at_m1 _ _, _, _, rfl, SqT.of h1, rfl, _, _, rfl, _, _, rfl, _, _, rfl, rfl, ?_⟩
        refine ⟨_, rfl, _, rfl, _, rfl, _, _, rfl, SqL.of t1, fun pT2 hpT2 => ?_⟩
        rw [cut_m1]
        have S4 := Same.new hpT2 (.lst rs.reverse)
        have hrt4 := hrt.sm S4
        have L4 : LSt l pB H (upd H3 pT2 (.lst rs.reverse)) pT2 pD ⟨ts, dn, n⟩ := by
          have z := LS.same S4
          exact ⟨z.old, ⟨rs, upd_same, hrt4⟩, z.done, z.bod⟩
        have h2 := h2.mono (Same.kp S4)
        have h3 := EvL.same S4 _ _ h3
        have t4 : upd H3 pT2 (.lst rs.reverse) pT2 = some (.lst rs.reverse) := upd_same
        generalize upd H3 pT2 (.lst rs.reverse) = H4 at L4 h2 h3 t4 hrt4
        have hb2 := L4.bod
        have hd4 := L4.done
        have len2 : ∀ (q : V), (rs.reverse ++ [q]).length ≤ sizeLine := fun q => by
          rw [List.length_append, List.length_reverse, List.length_singleton, hrl]
          exact sz100 (by omega)
        -- a new todo with one task more
        have push : ∀ (H5 : Hp) (pl1 : Addr) (y : V) (u : Tk) (pD : Addr) (dn : List Int) (n : Int), LSt l pB H H5 pT2 pD ⟨ts, dn, n⟩ → Same H4 H5 → TkR "in" "out" EvL H5 y u → ∀ p, H5 p = none → LSt l pB H (upd H5 p (.lst (rs.reverse ++ [y]))) p pD ⟨u :: ts, dn, n⟩ := by
          intro H5 pl1 y u pD dn n L5 S45 hy p hp
          have S6 := Same.new hp (.lst (rs.reverse ++ [y]))
          have z := L5.same S6
          exact ⟨z.old, ⟨y :: rs, by rw [upd_same, List.reverse_cons], .cons (hy.mono (Same.kp S6) (EvL.same S6)) (hrt4.sm (S45.trans S6))⟩, z.done, z.bod⟩
        obtain ⟨fin, d, env'⟩ := t
        cases fin with
        | false =>
          have hin : decide (V.str (if (⟨false, d, env'⟩ : Tk).fin = true then "out" else "in") = V.str "in") = true := rfl
          cases hlf : leafM d with
          | true =>
            have hst : stepM l ⟨⟨false, d, env'⟩ :: ts, dn, n⟩ = ⟨ts, leafV d env' :: dn, n⟩ := by
              show (if leafM d = true then _ else _) = _
              rw [if_pos hlf]
            rw [hst] at after
            -- the value goes on
            have put : ∀ (H5 : Hp) (i : Int), i = leafV d env' → Same H4 H5 → ∀ p1, H5 p1 = none → ∀ p2, upd H5 p1 (.lst [.int i]) p2 = none → LSt l pB H (upd (upd H5 p1 (.lst [.int i])) p2 (.lst ((dn.map V.int).reverse ++ [.int i]))) pT2 p2 ⟨ts, leafV d env' :: dn, n⟩ := by
              intro H5 i hi S5 p1 hp1 p2 hp2
              subst hi
              have z := (L4.same S5).same (Same.new' (Same.new hp1 (.lst [.int (leafV d env')])) hp2 (.lst ((dn.map V.int).reverse ++ [.int (leafV d env')])))
              exact ⟨z.old, z.tasks, by rw [upd_same, List.map_cons, List.reverse_cons], z.bod⟩
            have dlen : ∀ (i : V), ((dn.map V.int).reverse).length + ([i] : List V).length ≤ sizeLine := fun i => by
              rw [List.length_reverse, List.length_map]
              exact sz100 (by simp only [List.length_singleton]; omega)
            refine ⟨_, rfl, rfl, _, rfl, ?_⟩
            refine iteT ?_
            cases ge with
            | num i hi =>
              obtain ⟨b2, ys, rfl, hb, _, hy⟩ := h2.tup_inv
              obtain ⟨y1, ys, rfl, g1, hy⟩ := hy.cons_inv
              obtain ⟨y2, ys, rfl, g2, hy⟩ := hy.cons_inv
              obtain rfl := hy.nil_inv
              obtain ⟨rfl, _⟩ := g1.str_inv
              obtain rfl := g2.int_inv
              refine ⟨_, rfl, _, _, _, _, rfl, rfl, SqT.of (hb), at0, (by show 2 ≤ sizeLine; decide), fun p3 hp3 => ?_⟩
              have S5 := Same.new hp3 (.lst [.str "number", .str "late"])
              refine ⟨_, _, rfl, .inl (SqL.of upd_same), rfl, rfl, _, rfl, ?_⟩
              refine iteT ?_
              refine ⟨_, rfl, _, rfl, _, _, _, _, rfl, rfl, SqT.of (S5 _ _ hb), at0, rfl, _, rfl, ?_⟩
              refine iteT ?_
              refine ⟨_, rfl, _, _, _, _, rfl, rfl, SqT.of (S5 _ _ hb), at1, (by show 1 ≤ sizeLine; decide), fun p4 hp4 => ?_⟩
              refine ⟨_, _, _, _, rfl, rfl, Same.new hp4 _ _ _ (S5 _ _ hd4), upd_same, dlen _, fun p5 hp5 => ?_⟩
              exact after _ _ _ _ _ _ _ _ _ _ _ _ (put _ i rfl S5 p4 hp4 p5 hp5)
            | late i hi =>
              obtain ⟨b2, ys, rfl, hb, _, hy⟩ := h2.tup_inv
              obtain ⟨y1, ys, rfl, g1, hy⟩ := hy.cons_inv
              obtain ⟨y2, ys, rfl, g2, hy⟩ := hy.cons_inv
              obtain rfl := hy.nil_inv
              obtain ⟨rfl, _⟩ := g1.str_inv
              obtain rfl := g2.int_inv
              have hat : atI (env'.map V.int) (i : Int) = some (.int (env'.getD i 0)) := by
                refine atI_nat ?_
                rw [List.getElem?_map, List.getElem?_eq_getElem hi, List.getD_eq_getElem?_getD, List.getElem?_eq_getElem hi]
                rfl
              refine ⟨_, rfl, _, _, _, _, rfl, rfl, SqT.of (hb), at0, (by show 2 ≤ sizeLine; decide), fun p3 hp3 => ?_⟩
              have S5 := Same.new hp3 (.lst [.str "number", .str "late"])
              refine ⟨_, _, rfl, .inl (SqL.of upd_same), rfl, rfl, _, rfl, ?_⟩
              refine iteT ?_
              refine ⟨_, rfl, _, rfl, _, _, _, _, rfl, rfl, SqT.of (S5 _ _ hb), at0, rfl, _, rfl, ?_⟩
              refine iteF ?_
              refine ⟨_, rfl, _, rfl, _, _, _, _, rfl, rfl, SqT.of (S5 _ _ hb), at1, ?_⟩
              have tail : ∀ (w : V), w = .int (env'.getD i 0) → tLst tNil [] H4 (fun _ _ => True) → True := fun _ _ _ => True.intro
              clear tail
              rcases EvL.same S5 _ _ h3 with h3' | h3'
              · refine .inl ⟨_, _, _, _, rfl, rfl, SqL.of h3', hat, (by show 1 ≤ sizeLine; decide), fun p4 hp4 => ?_⟩
                refine ⟨_, _, _, _, rfl, rfl, Same.new hp4 _ _ _ (S5 _ _ hd4), upd_same, dlen _, fun p5 hp5 => ?_⟩
                exact after _ _ _ _ _ _ _ _ _ _ _ _ (put _ _ rfl S5 p4 hp4 p5 hp5)
              · refine .inr (.inl ⟨_, _, _, _, rfl, rfl, SqT.of h3', hat, (by show 1 ≤ sizeLine; decide), fun p4 hp4 => ?_⟩)
                refine ⟨_, _, _, _, rfl, rfl, Same.new hp4 _ _ _ (S5 _ _ hd4), upd_same, dlen _, fun p5 hp5 => ?_⟩
                exact after _ _ _ _ _ _ _ _ _ _ _ _ (put _ _ rfl S5 p4 hp4 p5 hp5)
            | bin _ _ _ _ _ _ => cases hlf
            | call _ _ _ _ _ _ _ => cases hlf
            | ite _ _ _ _ _ _ _ _ => cases hlf
          | false =>
            have hst : stepM l ⟨⟨false, d, env'⟩ :: ts, dn, n⟩ = ⟨(partsM d).map (fun p => ⟨false, p, env'⟩) ++ ⟨true, d, env'⟩ :: ts, dn, n⟩ := by
              show (if leafM d = true then _ else _) = _
              rw [if_neg (by rw [hlf]; exact Bool.false_ne_true)]
            rw [hst] at after
            obtain ⟨_, hps⟩ := ge_parts ge hlf
            have hps : D.szs (partsM d) + 2 ≤ d.sz := hps
            have hpl : (partsM d).length ≤ 400 := by
              have := szs_len (partsM d)
              have hz : d.sz ≤ 400 := gsz
              omega
            -- behind the parts
            have goOn : ∀ (H5 : Hp) (pp : Addr) (zs : List V), Same H4 H5 → H5 pp = some (.tup zs) → Tds H5 zs (partsM d) →
                tAsg (tOp rCat (tOp rCat (tVar 9) (tLst (tCons (tTup (tCons (tC (.str "out")) (tCons (tVar 11) (tCons (tVar 12) tNil)))) tNil))) (tLc (iTup K (tRevT K (tVar 13))) (gName 15) tYes (tTup (tCons (tC (.str "in")) (tCons (tVar 15) (tCons (tVar 12) tNil)))) [15])) (gName 9)
                { nx := tIfS (tTest (tOp (rI0 fun i j => .bl (decide (i > j))) (tVar 4) (tVar 2))) (tRet (tC .non)) tNext { nx := fun σ' H' => ∃ m', m' < mu fuel ⟨⟨false, d, env'⟩ :: ts, dn, n⟩ ∧ ∃ (st : MS) (pT pD : Addr) (o6 o7 o8 o10 o11 o12 o13 o14 o15 : Option V), σ' = [some (.ref a), some (.ref pl), some (.int fuel), some (.ref pB), some (.int st.n), some (.ref pD), o6, o7, o8, some (.ref pT), o10, o11, o12, o13, o14, o15] ∧ LSt l pB H H' pT pD st ∧ GM l st ∧ st.n ≤ fuel ∧ (∀ r, EndsM l fuel st r → EndsM l fuel (startM l env) r) ∧ m' = mu fuel st, rt := Q }, rt := Q }
                [some (.ref a), some (.ref pl), some (.int fuel), some (.ref pB), some (.int n), some (.ref pD), o6, o7, o8, some (.ref pT2), some (.str "in"), some x2, some (.ref e2), some (.ref pp), o14, o15] H5 := by
              intro H5 pp zs S5 hpp hzs
              have hxr := hzs.reverse
              have hzl := hzs.length
              have h2' := h2.mono (Same.kp S5)
              have h3' := EvL.same S5 _ _ h3
              have t5 := S5 _ _ t4
              refine ⟨_, rfl, _, rfl, _, rfl, (by show 3 ≤ sizeLine; decide), fun p1 hp1 => ⟨(by show 1 ≤ sizeLine; decide), fun p2 hp2 => ?_⟩⟩
              have S6 := Same.new hp1 (.tup [.str "out", x2, .ref e2])
              have S7 := Same.new' S6 hp2 (.lst [.ref p1])
              refine ⟨_, _, _, _, rfl, rfl, S7 _ _ t5, upd_same, (by have := len2 (.ref p1); rw [List.length_append] at this; exact this), fun p3 hp3 => ?_⟩
              have S8 := Same.new' S7 hp3 (.lst (rs.reverse ++ [.ref p1]))
              have hp1t : upd (upd (upd H5 p1 (.tup [.str "out", x2, .ref e2])) p2 (.lst [.ref p1])) p3 (.lst (rs.reverse ++ [.ref p1])) p1 = some (.tup [.str "out", x2, .ref e2]) := Same.new' (Same.new hp2 _) hp3 _ _ _ upd_same
              refine ⟨_, rfl, pp, zs, rfl, SqT.of (S8 _ _ hpp), fun p4 hp4 => ?_⟩
              have S9 := Same.new' S8 hp4 (.tup zs.reverse)
              refine ⟨p4, rfl, ⟨_, SqT.of upd_same⟩, fun Dl hDl => ?_⟩
              have hp4t : upd (upd (upd (upd H5 p1 (.tup [.str "out", x2, .ref e2])) p2 (.lst [.ref p1])) p3 (.lst (rs.reverse ++ [.ref p1]))) p4 (.tup zs.reverse) p4 = some (.tup zs.reverse) := upd_same
              have hp3t : upd (upd (upd (upd H5 p1 (.tup [.str "out", x2, .ref e2])) p2 (.lst [.ref p1])) p3 (.lst (rs.reverse ++ [.ref p1]))) p4 (.tup zs.reverse) p3 = some (.lst (rs.reverse ++ [.ref p1])) := Same.new hp4 _ _ _ upd_same
              have hp1t := Same.new hp4 (.tup zs.reverse) _ _ hp1t
              generalize upd (upd (upd (upd H5 p1 (.tup [.str "out", x2, .ref e2])) p2 (.lst [.ref p1])) p3 (.lst (rs.reverse ++ [.ref p1]))) p4 (.tup zs.reverse) = H9 at S9 hDl hp4t hp3t hp1t
              refine lc_srv (Srv.tup (P := fun H' => Same H9 H') fun H' h => SqT.of (h _ _ hp4t)) (fun i H' => Same H9 H' ∧ ∃ ws, H' Dl = some (.lst ws.reverse) ∧ TksR "in" "out" (fun H e env => e = e2 ∧ EvL H e env) H' ws ((((partsM d).reverse.take i).reverse).map fun p => (⟨false, p, env'⟩ : Tk))) (fun i H' h => h.1) ?_ ?_ ?_
              · exact ⟨Same.new hDl _, [], upd_same, .nil⟩
              · rintro i x H6 hxi ⟨S10, ws, hDw, hws⟩
                obtain ⟨d', hdi, hdm, htd⟩ := hxr.get2 hxi
                obtain ⟨hi, hdi'⟩ := List.getElem?_eq_some_iff.mp hdi
                have htd := htd.mono (Same.kp (S9.trans S10))
                have h3'' := EvL.same (S9.trans S10) _ _ h3'
                refine ⟨rfl, yesI ?_⟩
                refine ⟨_, rfl, _, rfl, (by show 3 ≤ sizeLine; decide), fun p6 hp6 => ?_⟩
                have S11 := Same.new hp6 (.tup [.str "in", x, .ref e2])
                have hwl2 := hws.length
                refine ⟨ws.reverse, S11 _ _ hDw, ?_, Same.mut (S10.trans S11) hDl, .ref p6 :: ws, by rw [upd_same, List.reverse_cons], ?_⟩
                · rw [List.length_reverse, hwl2, List.length_map, List.length_reverse, List.length_take]
                  rw [List.length_reverse] at hi ⊢
                  exact szlt (by omega)
                · rw [List.take_succ_eq_append_getElem hi, List.reverse_append, hdi']
                  have kpm : Kp H6 (upd (upd H6 p6 (.tup [.str "in", x, .ref e2])) Dl (.lst (ws.reverse ++ [.ref p6]))) := fun b zs hb => by
                    rw [upd_ne (ne_obj hb hDw (fun z => by cases z))]
                    exact S11 _ _ hb
                  have e2D : e2 ≠ Dl := by
                    rcases EvL.same S9 _ _ h3' with z | z
                    · exact ne_of_none z hDl
                    · exact ne_of_none z hDl
                  have evm : ∀ e env, e ≠ Dl → EvL H6 e env → EvL (upd (upd H6 p6 (.tup [.str "in", x, .ref e2])) Dl (.lst (ws.reverse ++ [.ref p6]))) e env := fun e env hne h => by
                    rcases h with h | h
                    · exact .inl (by rw [upd_ne hne]; exact S11 _ _ h)
                    · exact .inr (by rw [upd_ne hne]; exact S11 _ _ h)
                  have p6D : p6 ≠ Dl := (ne_of_none hDw hp6).symm
                  exact .cons (.mk (t := ⟨false, d', env'⟩) (by rw [upd_ne p6D]; exact upd_same) (htd.mono kpm) ⟨rfl, evm _ _ e2D h3''⟩) (hws.mono kpm fun e env h => ⟨h.1, evm e env (by rw [h.1]; exact e2D) h.2⟩)
              · rintro H6 ⟨S10, ws, hDw, hws⟩
                rw [List.length_reverse, hzl, show (partsM d).length = (partsM d).reverse.length by simp, List.take_length, List.reverse_reverse] at hws
                have hwl2 := hws.length
                rw [List.length_map] at hwl2
                refine ⟨_, _, _, _, rfl, rfl, S10 _ _ hp3t, hDw, ?_, fun p7 hp7 => ?_⟩
                · rw [List.length_append, List.length_reverse, List.length_reverse, List.length_singleton, hrl, hwl2]
                  exact sz100 (by omega)
                · have S12 := Same.new' S10 hp7 (.lst (rs.reverse ++ [.ref p1] ++ ws.reverse))
                  have Sall := (S5.trans S9).trans S12
                  have z := L4.same Sall
                  refine after _ _ _ _ _ _ _ _ _ _ _ _ ⟨z.old, ⟨ws ++ (.ref p1 :: rs), ?_, ?_⟩, z.done, z.bod⟩
                  · rw [upd_same, List.reverse_append, List.reverse_cons]
                  · refine ((hws.imp fun e env h => h.2).sm (Same.new hp7 _)).append (.cons (.mk (t := ⟨true, d, env'⟩) (S12 _ _ hp1t) (h2'.mono (Same.kp (S9.trans S12))) (EvL.same (S9.trans S12) _ _ h3')) (hrt4.sm Sall))
            refine ⟨_, rfl, rfl, _, rfl, ?_⟩
            refine iteT ?_
            cases ge_form ge hlf with
            | bin k x y hk e0 =>
              have e0 : d = .tup [.str k, x, y] := e0
              subst e0
              obtain ⟨b2, ys, rfl, hb, _, hy⟩ := h2.tup_inv
              obtain ⟨y1, ys, rfl, g1, hyt⟩ := hy.cons_inv
              obtain ⟨rfl, _⟩ := g1.str_inv
              have hkn : inV (.str k) ([("number" : Str), "late"].map V.str) = false := inV2 k ["number", "late"] (by rcases hk with rfl | rfl | rfl <;> decide)
              have e2' : decide (V.str k = V.str "if") = false := by rcases hk with rfl | rfl | rfl <;> decide
              have e3' : decide (V.str k = V.str "call") = false := by rcases hk with rfl | rfl | rfl <;> decide
              have hpm : partsM (.tup [.str k, x, y]) = [x, y] := by rcases hk with rfl | rfl | rfl <;> rfl
              refine ⟨_, rfl, _, _, _, _, rfl, rfl, SqT.of (hb), at0, (by show 2 ≤ sizeLine; decide), fun p3 hp3 => ?_⟩
              have S5 := Same.new hp3 (.lst [.str "number", .str "late"])
              refine ⟨_, _, rfl, .inl (SqL.of upd_same), rfl, rfl, _, rfl, ?_⟩
              rw [show inV (.str k) [V.str "number", V.str "late"] = false from hkn]
              refine iteF ?_
              refine ⟨_, rfl, rfl, _, rfl, ?_⟩
              refine iteT ?_
              refine ⟨_, rfl, _, _, _, _, rfl, rfl, SqT.of (S5 _ _ hb), at0, rfl, _, rfl, ?_⟩
              rw [e2']
              refine iteF ?_
              refine ⟨_, rfl, _, _, _, _, rfl, rfl, SqT.of (S5 _ _ hb), at0, rfl, _, rfl, ?_⟩
              rw [e3']
              refine iteF ?_
              refine ⟨_, rfl, _, rfl, _, _, rfl, SqT.of (S5 _ _ hb), (fun z => (cut_1n _ _ z).elim), fun _ p6 hp6 => ?_⟩
              rw [cut_1]
              have S6 := Same.new' S5 hp6 (.tup ys)
              exact goOn _ p6 ys S6 upd_same (by rw [hpm]; exact hyt.mono (Same.kp S6))
            | call nm as e0 =>
              have e0 : d = .tup [.str "call", .str nm, .tup as] := e0
              subst e0
              obtain ⟨b2, ys, rfl, hb, _, hy⟩ := h2.tup_inv
              obtain ⟨y1, ys, rfl, g1, hy⟩ := hy.cons_inv
              obtain ⟨y2, ys, rfl, g2, hy⟩ := hy.cons_inv
              obtain ⟨y3, ys, rfl, g3, hy⟩ := hy.cons_inv
              obtain rfl := hy.nil_inv
              obtain ⟨rfl, _⟩ := g1.str_inv
              obtain ⟨b3, zs, rfl, hb3, _, hzs⟩ := g3.tup_inv
              refine ⟨_, rfl, _, _, _, _, rfl, rfl, SqT.of (hb), at0, (by show 2 ≤ sizeLine; decide), fun p3 hp3 => ?_⟩
              have S5 := Same.new hp3 (.lst [.str "number", .str "late"])
              refine ⟨_, _, rfl, .inl (SqL.of upd_same), rfl, rfl, _, rfl, ?_⟩
              refine iteF ?_
              refine ⟨_, rfl, rfl, _, rfl, ?_⟩
              refine iteT ?_
              refine ⟨_, rfl, _, _, _, _, rfl, rfl, SqT.of (S5 _ _ hb), at0, rfl, _, rfl, ?_⟩
              refine iteF ?_
              refine ⟨_, rfl, _, _, _, _, rfl, rfl, SqT.of (S5 _ _ hb), at0, rfl, _, rfl, ?_⟩
              refine iteT ?_
              refine ⟨_, rfl, _, _, _, _, rfl, rfl, SqT.of (S5 _ _ hb), at2, ?_⟩
              exact goOn _ b3 zs S5 (S5 _ _ hb3) (hzs.mono (Same.kp S5))
            | ite u z x y e0 =>
              have e0 : d = .tup [.str "if", .tup [.str "less", u, z], x, y] := e0
              subst e0
              obtain ⟨b2, ys, rfl, hb, _, hy⟩ := h2.tup_inv
              obtain ⟨y1, ys, rfl, g1, hy⟩ := hy.cons_inv
              obtain ⟨y2, ys, rfl, g2, hy⟩ := hy.cons_inv
              obtain ⟨rfl, _⟩ := g1.str_inv
              obtain ⟨b3, zs, rfl, hb3, _, hzs⟩ := g2.tup_inv
              obtain ⟨z1, zs, rfl, _, hzs⟩ := hzs.cons_inv
              refine ⟨_, rfl, _, _, _, _, rfl, rfl, SqT.of (hb), at0, (by show 2 ≤ sizeLine; decide), fun p3 hp3 => ?_⟩
              have S5 := Same.new hp3 (.lst [.str "number", .str "late"])
              refine ⟨_, _, rfl, .inl (SqL.of upd_same), rfl, rfl, _, rfl, ?_⟩
              refine iteF ?_
              refine ⟨_, rfl, rfl, _, rfl, ?_⟩
              refine iteT ?_
              refine ⟨_, rfl, _, _, _, _, rfl, rfl, SqT.of (S5 _ _ hb), at0, rfl, _, rfl, ?_⟩
              refine iteT ?_
              refine ⟨_, rfl, _, _, _, _, rfl, rfl, SqT.of (S5 _ _ hb), at1, _, rfl, _, _, rfl, SqT.of (S5 _ _ hb3), (fun z => (cut_1n _ _ z).elim), fun _ p6 hp6 => ?_⟩
              rw [cut_1]
              have S6 := Same.new' S5 hp6 (.tup zs)
              exact goOn _ p6 zs S6 upd_same (hzs.mono (Same.kp S6))
        | true =>
          have hlf := gf rfl
          have hk : (partsM d).length ≤ dn.length := by
            have hfl : (if (partsM d).length ≤ dn.length then flow ts (dn.length - (partsM d).length + 1) else none) = some 1 := g.flow
            by_cases c : (partsM d).length ≤ dn.length
            · exact c
            · rw [if_neg c] at hfl
              cases hfl
          have hdi := g.dn
          refine ⟨_, rfl, rfl, _, rfl, ?_⟩
          refine iteF ?_
          refine iteF ?_
          refine ⟨_, rfl, rfl, _, rfl, ?_⟩
          refine iteF ?_
          refine ⟨_, rfl, _, _, rfl, rfl, ?_⟩
          cases ge with
          | num i _ => cases hlf
          | late i _ => cases hlf
          | call nm as fn h5 h6 h7 h8 =>
            have hk : as.length ≤ dn.length := hk
            obtain ⟨b2, ys, rfl, hb, _, hy⟩ := h2.tup_inv
            obtain ⟨y1, ys, rfl, g1, hy⟩ := hy.cons_inv
            obtain ⟨y2, ys, rfl, g2, hy⟩ := hy.cons_inv
            obtain ⟨y3, ys, rfl, g3, hy⟩ := hy.cons_inv
            obtain rfl := hy.nil_inv
            obtain ⟨rfl, _⟩ := g1.str_inv
            obtain ⟨rfl, _⟩ := g2.str_inv
            obtain ⟨b3, zs, rfl, hb3, _, hzs⟩ := g3.tup_inv
            have hzl := hzs.length
            refine ⟨_, rfl, _, _, _, _, rfl, rfl, SqT.of (hb), at0, rfl, _, rfl, ?_⟩
            refine iteT ?_
            refine ⟨_, rfl, _, _, _, _, rfl, rfl, SqT.of (hb), at2, _, _, rfl, .inr (SqT.of (hb3)), ?_⟩
            have hdl : ((dn.map V.int).reverse.length : Int) - (zs.length : Nat) = ((dn.map V.int).length : Int) - (as.length : Nat) := by rw [List.length_reverse, hzl]
            have hkm : as.length ≤ (dn.map V.int).length := by rw [List.length_map]; exact hk
            refine ⟨_, rfl, _, rfl, _, _, rfl, .inl (SqL.of hd4), _, rfl, _, _, rfl, rfl, _, rfl, _, _, rfl, SqL.of hd4, fun p3 hp3 => ?_⟩
            rw [hdl, cut_lo _ _ hkm]
            have S5 := Same.new hp3 (.lst ((dn.map V.int).take as.length).reverse)
            refine ⟨_, rfl, _, rfl, _, _, rfl, .inl (SqL.of (S5 _ _ hd4)), _, rfl, _, _, rfl, rfl, _, rfl, _, _, rfl, SqL.of (S5 _ _ hd4), fun p4 hp4 => ?_⟩
            rw [hdl, cut_hi _ _ hkm]
            have S6 := Same.new' S5 hp4 (.lst ((dn.map V.int).drop as.length).reverse)
            have hp3t := Same.new hp4 (.lst ((dn.map V.int).drop as.length).reverse) _ _ (upd_same (H := H4) (a := p3) (o := .lst ((dn.map V.int).take as.length).reverse))
            have hp4t : upd (upd H4 p3 (.lst ((dn.map V.int).take as.length).reverse)) p4 (.lst ((dn.map V.int).drop as.length).reverse) p4 = some (.lst ((dn.map V.int).drop as.length).reverse) := upd_same
            refine ⟨_, _, rfl, ?_⟩
            generalize upd (upd H4 p3 (.lst ((dn.map V.int).take as.length).reverse)) p4 (.lst ((dn.map V.int).drop as.length).reverse) = H6 at S6 hp3t hp4t
            have L6 : LSt l pB H H6 pT2 p4 ⟨ts, dn.drop as.length, n + 1⟩ := by
              have z := L4.same S6
              exact ⟨z.old, z.tasks, by rw [hp4t, List.map_drop], z.bod⟩
            obtain ⟨kvs6, hk6, hv6⟩ := L6.bod
            obtain ⟨v, hv1, hv2⟩ := hv6 nm fn h5
            refine ⟨_, rfl, _, rfl, _, rfl, _, _, _, _, rfl, rfl, SqT.of (S6 _ _ hb), at1, pB, v, rfl, ?_, _, rfl, (by show 3 ≤ sizeLine; decide), fun p5 hp5 => ⟨(by show 1 ≤ sizeLine; decide), fun p6 hp6 => ?_⟩⟩
            · rw [← hv1]
              exact DGet.k (k := .inr nm) hk6
            have S7 := Same.new hp5 (.tup [.str "in", v, .ref p3])
            have S8 := Same.new' S7 hp6 (.lst [.ref p5])
            refine ⟨_, _, _, _, rfl, rfl, S8 _ _ (S6 _ _ t4), upd_same, (by have := len2 (.ref p5); rw [List.length_append] at this; exact this), fun p7 hp7 => ?_⟩
            have hbf : bodyF l nm = bodyD fn := by
              unfold bodyF
              rw [h5]
              rfl
            have e1 : stepM l ⟨⟨true, .tup [.str "call", .str nm, .tup as], env'⟩ :: ts, dn, n⟩ = ⟨⟨false, bodyD fn, (dn.take as.length).reverse⟩ :: ts, dn.drop as.length, n + 1⟩ := by
              rw [← hbf]
              rfl
            rw [e1] at after
            refine after _ _ _ _ _ _ _ _ _ _ _ _ (push _ p5 (.ref p5) ⟨false, bodyD fn, (dn.take as.length).reverse⟩ p4 (dn.drop as.length) (n + 1) (L6.same S8) (S6.trans S8) (.mk (Same.new hp6 _ _ _ upd_same) (hv2.mono (Same.kp S8)) (.inl ?_)) p7 hp7)
            rw [S8 _ _ hp3t, List.map_reverse, List.map_take]
          | bin k x y hkk hx' hy' =>
            have e0 : (partsM (.tup [.str k, x, y])).length = 2 := by rcases hkk with rfl | rfl | rfl <;> rfl
            have hk : 2 ≤ dn.length := by rw [← e0]; exact hk
            obtain ⟨i, j, dn2, rfl⟩ : ∃ i j dn2, dn = i :: j :: dn2 := by
              match dn, hk with
              | i :: j :: dn2, _ => exact ⟨i, j, dn2, rfl⟩
            obtain ⟨b2, ys, rfl, hb, _, hy⟩ := h2.tup_inv
            obtain ⟨y1, ys, rfl, g1, hy⟩ := hy.cons_inv
            obtain ⟨rfl, _⟩ := g1.str_inv
            have e1 : decide (V.str k = V.str "call") = false := by rcases hkk with rfl | rfl | rfl <;> decide
            have e2' : decide (V.str k = V.str "if") = false := by rcases hkk with rfl | rfl | rfl <;> decide
            have e3 : stepM l ⟨⟨true, .tup [.str k, x, y], env'⟩ :: ts, i :: j :: dn2, n⟩ = ⟨ts, workedM k j i :: dn2, n + 1⟩ := by rcases hkk with rfl | rfl | rfl <;> rfl
            rw [e3] at after
            refine ⟨_, rfl, _, _, _, _, rfl, rfl, SqT.of (hb), at0, rfl, _, rfl, ?_⟩
            rw [e1]
            refine iteF ?_
            refine ⟨_, rfl, _, _, _, _, rfl, rfl, SqT.of (hb), at0, rfl, _, rfl, ?_⟩
            rw [e2']
            refine iteF ?_
            refine ⟨_, rfl, _, rfl, _, rfl, _, _, rfl, SqL.of hd4, fun p3 hp3 => ?_⟩
            have hcut : cutV ((i :: j :: dn2).map V.int).reverse none (some (-2)) = (dn2.map V.int).reverse := cut_m2 _ _ _
            rw [hcut]
            have S5 := Same.new hp3 (.lst (dn2.map V.int).reverse)
            refine ⟨_, rfl, _, _, _, _, rfl, rfl, SqT.of (S5 _ _ hb), at0, _, rfl, _, rfl, _, _, _, _, rfl, rfl, SqL.of (S5 _ _ hd4), at_m2 _ _ _, _, rfl, _, rfl, _, _, _, _, rfl, rfl, SqL.of (S5 _ _ hd4), at_m1 _ _, k, j, i, rfl, hdi j (by simp), hdi i (by simp), (by show 1 ≤ sizeLine; decide), fun p4 hp4 => ?_⟩
            refine ⟨_, _, _, _, rfl, rfl, Same.new hp4 _ _ _ upd_same, upd_same, ?_, fun p5 hp5 => ?_⟩
            · rw [List.length_reverse, List.length_map]
              simp only [List.length_cons] at hsz
              exact sz100 (by simp only [List.length_singleton]; omega)
            · have S7 := Same.new' (Same.new' S5 hp4 (.lst [.int (workedM k j i)])) hp5 (.lst ((dn2.map V.int).reverse ++ [.int (workedM k j i)]))
              have z := L4.same S7
              exact after _ _ _ _ _ _ _ _ _ _ _ _ ⟨z.old, z.tasks, by rw [upd_same, List.map_cons, List.reverse_cons], z.bod⟩
          | ite u z x y hu hz hx' hy' =>
            have hk : 2 ≤ dn.length := hk
            obtain ⟨i, j, dn2, rfl⟩ : ∃ i j dn2, dn = i :: j :: dn2 := by
              match dn, hk with
              | i :: j :: dn2, _ => exact ⟨i, j, dn2, rfl⟩
            obtain ⟨b2, ys, rfl, hb, _, hy⟩ := h2.tup_inv
            obtain ⟨y1, ys, rfl, g1, hy⟩ := hy.cons_inv
            obtain ⟨y2, ys, rfl, _, hy⟩ := hy.cons_inv
            obtain ⟨y3, ys, rfl, g3, hy⟩ := hy.cons_inv
            obtain ⟨y4, ys, rfl, g4, hy⟩ := hy.cons_inv
            obtain rfl := hy.nil_inv
            obtain ⟨rfl, _⟩ := g1.str_inv
            have e3 : stepM l ⟨⟨true, .tup [.str "if", .tup [.str "less", u, z], x, y], env'⟩ :: ts, i :: j :: dn2, n⟩ = ⟨⟨false, if j < i then x else y, env'⟩ :: ts, dn2, n + 1⟩ := rfl
            rw [e3] at after
            refine ⟨_, rfl, _, _, _, _, rfl, rfl, SqT.of (hb), at0, rfl, _, rfl, ?_⟩
            refine iteF ?_
            refine ⟨_, rfl, _, _, _, _, rfl, rfl, SqT.of (hb), at0, rfl, _, rfl, ?_⟩
            refine iteT ?_
            have hcut : cutV ((i :: j :: dn2).map V.int).reverse none (some (-2)) = (dn2.map V.int).reverse := cut_m2 _ _ _
            have fin : ∀ (x' : V) (d' : D), Td H4 x' d' → d' = (if j < i then x else y) → ∀ p5, H4 p5 = none → ∀ p6, upd H4 p5 (.tup [.str "in", x', .ref e2]) p6 = none → ∀ p7, upd (upd H4 p5 (.tup [.str "in", x', .ref e2])) p6 (.lst [.ref p5]) p7 = none →
                ∀ p8, upd (upd (upd H4 p5 (.tup [.str "in", x', .ref e2])) p6 (.lst [.ref p5])) p7 (.lst (rs.reverse ++ [.ref p5])) p8 = none → LSt l pB H (upd (upd (upd (upd H4 p5 (.tup [.str "in", x', .ref e2])) p6 (.lst [.ref p5])) p7 (.lst (rs.reverse ++ [.ref p5]))) p8 (.lst (dn2.map V.int).reverse)) p7 p8 ⟨⟨false, if j < i then x else y, env'⟩ :: ts, dn2, n + 1⟩ := by
              intro x' d' hx' hd' p5 hp5 p6 hp6 p7 hp7 p8 hp8
              have S5 := Same.new hp5 (.tup [.str "in", x', .ref e2])
              have S6 := Same.new' S5 hp6 (.lst [.ref p5])
              have z := (push _ p5 (.ref p5) ⟨false, d', env'⟩ pD (i :: j :: dn2) (n + 1) (by have z := L4.same S6; exact ⟨z.old, z.tasks, z.done, z.bod⟩) S6 (.mk (Same.new hp6 _ _ _ upd_same) (hx'.mono (Same.kp S6)) (EvL.same S6 _ _ h3)) p7 hp7).same (Same.new hp8 (.lst (dn2.map V.int).reverse))
              rw [← hd']
              exact ⟨z.old, z.tasks, upd_same, z.bod⟩
            refine ⟨_, rfl, _, rfl, _, rfl, _, _, _, _, rfl, rfl, SqL.of hd4, at_m2 _ _ _, _, rfl, _, rfl, _, _, _, _, rfl, rfl, SqL.of hd4, at_m1 _ _, _, _, rfl, rfl, _, rfl, ?_⟩
            refine ite2 (fun c => ?_) (fun c => ?_)
            · have c' : j < i := of_decide_eq_true c
              refine ⟨_, rfl, _, _, _, _, rfl, rfl, SqT.of (hb), at2, _, rfl, (by show 3 ≤ sizeLine; decide), fun p5 hp5 => ⟨(by show 1 ≤ sizeLine; decide), fun p6 hp6 => ?_⟩⟩
              refine ⟨_, _, _, _, rfl, rfl, Same.new hp6 _ _ _ (Same.new hp5 _ _ _ t4), upd_same, (by have := len2 (.ref p5); rw [List.length_append] at this; exact this), fun p7 hp7 => ?_⟩
              refine ⟨_, rfl, _, rfl, _, rfl, _, _, rfl, SqL.of (Same.new hp7 _ _ _ (Same.new hp6 _ _ _ (Same.new hp5 _ _ _ hd4))), fun p8 hp8 => ?_⟩
              rw [hcut]
              refine ⟨_, _, rfl, ?_⟩
              exact after _ _ _ _ _ _ _ _ _ _ _ _ (fin _ x g3 (by rw [if_pos c']) p5 hp5 p6 hp6 p7 hp7 p8 hp8)
            · have c' : ¬ j < i := of_decide_eq_false (Bool.eq_false_iff.mpr c)
              refine ⟨_, rfl, _, _, _, _, rfl, rfl, SqT.of (hb), at3, _, rfl, (by show 3 ≤ sizeLine; decide), fun p5 hp5 => ⟨(by show 1 ≤ sizeLine; decide), fun p6 hp6 => ?_⟩⟩
              refine ⟨_, _, _, _, rfl, rfl, Same.new hp6 _ _ _ (Same.new hp5 _ _ _ t4), upd_same, (by have := len2 (.ref p5); rw [List.length_append] at this; exact this), fun p7 hp7 => ?_⟩
              refine ⟨_, rfl, _, rfl, _, rfl, _, _, rfl, SqL.of (Same.new hp7 _ _ _ (Same.new hp6 _ _ _ (Same.new hp5 _ _ _ hd4))), fun p8 hp8 => ?_⟩
              rw [hcut]
              refine ⟨_, _, rfl, ?_⟩
              exact after _ _ _ _ _ _ _ _ _ _ _ _ (fin _ y g4 (by rw [if_neg c']) p5 hp5 p6 hp6 p7 hp7 p8 hp8)
end
end K04
namespace K04
open PySem PySem.Spec PyProof.Rows L2
/-! ### early expressions as data -/
def calmK : List Str := ["late", "call"]
def doneK : List Str := ["number", "early", "below", "rest"]
mutual
/-- no late number and no call -/
def earlyD : D → Bool
  | .tup (.str k :: r) => if calmK.contains k = true then false else if doneK.contains k = true then true else earlyDs r
  | .tup _ => true
  | .non => true
  | .bl _ => true
  | .int _ => true
  | .str _ => true
def earlyDs : List D → Bool
  | [] => true
  | d :: r => earlyD d && earlyDs r
end
theorem earlyDs_all : ∀ l : List D, earlyDs l = l.all earlyD
  | [] => rfl
  | d :: r => by rw [earlyDs, List.all_cons, earlyDs_all r]
inductive EMove : D → Prop
  | give (n : Nat) : n ≤ 5 → EMove (.tup [.str "give", .int n])
  | move (i : Int) : -5 ≤ i → i ≤ 5 → EMove (.tup [.str "move", .int i])
/-- an expression of the law's programs, so deep at most -/
inductive WE (N : List (Str × Nat)) (L : Nat) : Nat → D → Prop
  | num (n : Nat) (i : Nat) : i ≤ 1000 → WE N L n (.tup [.str "number", .int i])
  | early (n : Nat) : WE N L n (.tup [.str "early"])
  | late (n i : Nat) : i < L → WE N L n (.tup [.str "late", .int i])
  | bin (n : Nat) (k : Str) (x y : D) : k = "plus" ∨ k = "minus" ∨ k = "times" → WE N L n x → WE N L n y → WE N L (n + 1) (.tup [.str k, x, y])
  | ifE (n : Nat) (t x y : D) : ETest t → WE N L n x → WE N L n y → WE N L (n + 1) (.tup [.str "if", t, x, y])
  | ifL (n : Nat) (u z x y : D) : WE N L (n - 1) u → WE N L (n - 1) z → (earlyD u && earlyD z) = false → WE N L n x → WE N L n y → WE N L (n + 1) (.tup [.str "if", .tup [.str "less", u, z], x, y])
  | call (n : Nat) (nm : Str) (mv : D) (as : List D) : (nm, as.length) ∈ N → as.length ≤ 2 → EMove mv → (∀ a ∈ as, WE N L (n - 1) a) → WE N L (n + 1) (.tup [.str "call", .str nm, mv, .tup as])
theorem WE.sub {N N' : List (Str × Nat)} {L : Nat} (h : ∀ p ∈ N, p ∈ N') {n : Nat} {d : D} (w : WE N L n d) : WE N' L n d := by
  induction w with
  | num n i hi => exact .num n i hi
  | early n => exact .early n
  | late n i hi => exact .late n i hi
  | bin n k x y hk _ _ hx hy => exact .bin n k x y hk hx hy
  | ifE n t x y ht _ _ hx hy => exact .ifE n t x y ht hx hy
  | ifL n u z x y _ _ he _ _ hu hz hx hy => exact .ifL n u z x y hu hz he hx hy
  | call n nm mv as hm hl he _ ih => exact .call n nm mv as (h _ hm) hl he ih
/-- a thing whose parts have names -/
inductive HN : Nat → D → Prop
  | leaf (n : Nat) (k : Str) (r : List D) : calmK.contains k = true ∨ doneK.contains k = true → HN n (.tup (.str k :: r))
  | node (n : Nat) (k : Str) (r : List D) : (∀ p ∈ r, HN n p) → HN (n + 1) (.tup (.str k :: r))
theorem HN.mono {n m : Nat} {d : D} (h : HN n d) (hm : n ≤ m) : HN m d := by
  induction h generalizing m with
  | leaf n k r h => exact .leaf m k r h
  | node n k r h ih =>
    obtain ⟨j, rfl⟩ : ∃ j, m = j + 1 := ⟨m - 1, by omega⟩
    exact .node j k r fun p hp => ih p hp (by omega)
theorem WE.hn {N : List (Str × Nat)} {L : Nat} {n : Nat} {d : D} (w : WE N L n d) : HN (2 * n) d := by
  induction w with
  | num n i hi => exact .leaf _ _ _ (.inr (by decide))
  | early n => exact .leaf _ _ _ (.inr (by decide))
  | late n i hi => exact .leaf _ _ _ (.inl (by decide))
  | bin n k x y hk _ _ hx hy =>
    refine .node (2 * n + 1) _ _ fun p hp => ?_
    rcases List.mem_cons.mp hp with rfl | hp
    · exact hx.mono (by omega)
    · rw [List.mem_singleton] at hp
      subst hp
      exact hy.mono (by omega)
  | ifE n t x y ht _ _ hx hy =>
    refine .node (2 * n + 1) _ _ fun p hp => ?_
    rcases List.mem_cons.mp hp with rfl | hp
    · cases ht with
      | below n => exact .leaf _ _ _ (.inr (by decide))
      | rest d m _ => exact .leaf _ _ _ (.inr (by decide))
    · rcases List.mem_cons.mp hp with rfl | hp
      · exact hx.mono (by omega)
      · rw [List.mem_singleton] at hp
        subst hp
        exact hy.mono (by omega)
  | ifL n u z x y _ _ he _ _ hu hz hx hy =>
    refine .node (2 * n + 1) _ _ fun p hp => ?_
    rcases List.mem_cons.mp hp with rfl | hp
    · refine .node (2 * n) _ _ fun p hp => ?_
      rcases List.mem_cons.mp hp with rfl | hp
      · exact hu.mono (by omega)
      · rw [List.mem_singleton] at hp
        subst hp
        exact hz.mono (by omega)
    · rcases List.mem_cons.mp hp with rfl | hp
      · exact hx.mono (by omega)
      · rw [List.mem_singleton] at hp
        subst hp
        exact hy.mono (by omega)
  | call n nm mv as hm hl he _ ih => exact .leaf _ _ _ (.inl (by decide))
section
variable {P : Program} {w : World} {K : PySem.W.Frag} {mg : Str → Option Value} {base : Heap} {Ts : List Addr} {Pt : Addr} {S : Addr × List Int}

abbrev n__law_is_early : List Str := ["_law_one", "_law_part"]
theorem sc_law_is_early : FnScope n__law_is_early ["_law_one"] (defScope s__law_is_early) := ⟨rfl, rfl, rfl, by decide +kernel, rfl, by decide +kernel, by decide +kernel⟩
def spEarly (n : Nat) : Sp := fun vs H Q _ => ∃ (v : V) (d : D) (m : Nat), m < n ∧ vs = [v] ∧ Td H v d ∧ HN m d ∧ ∀ H', Same H H' → Q (.bl (earlyD d)) H'
theorem step_early {n : Nat} (T : Txt K mg) (dm : Def K mg "_law_is_early" s__law_is_early ["_law_one"]) (c_l_is_early : Cal P w K mg base (n + 1) "_law_is_early" ["_law_one"] (spEarly n)) : Cal P w K mg base (n + 1 + 1) "_law_is_early" ["_law_one"] (spEarly (n + 1)) := by
  refine dm.ok sc_law_is_early (fun vs H Q E h => ?_) (fun f cdv A outer s H vs Q E hr h => ?_)
  · obtain ⟨v, d, m, _, rfl, _⟩ := h
    rfl
  obtain ⟨v, d, m, hm, rfl, hd, hn, q⟩ := h
  refine ⟨_, (pss_cons (ps_if (pt_cmpR op_in_seq (pe_ix ix_tup (pv 0) pe_int (fun _ _ => rfl)) (pe_lst (pa_cons pe_str (pa_cons pe_str pa_nil))) rfl) (pss_one (ps_ret pe_bl)) pss_nil)
      (pss_cons (ps_if (pt_cmpR op_in_seq (pe_ix ix_tup (pv 0) pe_int (fun _ _ => rfl)) (pe_lst (pa_cons pe_str (pa_cons pe_str (pa_cons pe_str (pa_cons pe_str pa_nil))))) rfl) (pss_one (ps_ret pe_bl)) pss_nil)
      (pss_one (ps_ret (pe_cmpR (op_eqNil hr.units0) (pe_lc (own := [("_law_part", 1)]) (g := (gName 1))  rfl sc_law_is_early.nd (pi_tup (pe_slice sl_tupA (pv 0) (po_some pe_int) po_none)) (blkOk_by (N := n__law_is_early) (sc := defScope s__law_is_early) (by decide +kernel)) (fun _ _ _ _ _ => (pg_name (i := 1) sc_law_is_early.nd rfl (Or.inl rfl))) (fun _ _ _ _ _ => pts_one (pt_not (pt_val (pe_cal c_l_is_early (hr.mono (by omega)) (pa_cons (pv 1) pa_nil))))) (fun _ _ _ _ _ => (pv 1))) (pe_lst pa_nil) (nomark _)))))), ?_⟩
  obtain ⟨k, r, rfl, hkr⟩ : ∃ k r, d = .tup (.str k :: r) ∧ ((calmK.contains k = true ∨ doneK.contains k = true) ∨ ∃ j, m = j + 1 ∧ ∀ p ∈ r, HN j p) := by
    cases hn with
    | leaf _ k r h => exact ⟨k, r, rfl, .inl h⟩
    | node j k r h => exact ⟨k, r, rfl, .inr ⟨j, rfl, h⟩⟩
  have e : earlyD (.tup (.str k :: r)) = if calmK.contains k = true then false else if doneK.contains k = true then true else r.all earlyD := by
    rw [earlyD, earlyDs_all]
  rw [e] at q
  have S0 : Same H H := fun _ _ h => h
  obtain ⟨a, xs0, rfl, ha, hal, hx0⟩ := hd.tup_inv
  obtain ⟨x1, xs, rfl, hk, hx⟩ := hx0.cons_inv
  obtain ⟨rfl, _⟩ := hk.str_inv
  refine ⟨_, rfl, _, _, _, _, rfl, rfl, SqT.of (ha), at0, (by show 2 ≤ sizeLine; decide), fun p1 hp1 => ?_⟩
  have S1 := Same.new' S0 hp1 (.lst (calmK.map V.str))
  refine ⟨_, _, rfl, .inl (SqL.of upd_same), rfl, flat_strs calmK, _, rfl, ?_⟩
  refine ite2 (fun c1 => ?_) (fun c1 => ?_)
  · have c1' : calmK.contains k = true := by
      rw [← inV_strs]
      exact c1
    rw [if_pos c1'] at q
    exact q _ S1
  have c1' : ¬ calmK.contains k = true := fun z => c1 (by rw [← inV_strs] at z; exact z)
  rw [if_neg c1'] at q
  refine ⟨_, rfl, _, _, _, _, rfl, rfl, SqT.of (S1 _ _ ha), at0, (by show 4 ≤ sizeLine; decide), fun p2 hp2 => ?_⟩
  have S2 := Same.new' S1 hp2 (.lst (doneK.map V.str))
  refine ⟨_, _, rfl, .inl (SqL.of upd_same), rfl, flat_strs doneK, _, rfl, ?_⟩
  refine ite2 (fun c2 => ?_) (fun c2 => ?_)
  · have c2' : doneK.contains k = true := by
      rw [← inV_strs]
      exact c2
    rw [if_pos c2'] at q
    exact q _ S2
  have c2' : ¬ doneK.contains k = true := fun z => c2 (by rw [← inV_strs] at z; exact z)
  rw [if_neg c2'] at q
  rcases hkr with (h | h) | ⟨j, rfl, hp⟩
  · exact absurd h c1'
  · exact absurd h c2'
  refine ⟨_, rfl, _, rfl, _, _, rfl, SqT.of (S2 _ _ ha), (fun z => (cut_1n _ _ z).elim), fun _ p3 hp3 => ?_⟩
  rw [cut_1]
  have S3 := Same.new' S2 hp3 (.tup xs)
  have hx3 := hx.mono (Same.kp S3)
  refine ⟨p3, rfl, ⟨_, SqT.of upd_same⟩, fun Dl hDl => ?_⟩
  refine lc_filt (H1 := upd (upd (upd H p1 (.lst (calmK.map V.str))) p2 (.lst (doneK.map V.str))) p3 (.tup xs)) (Srv.tup fun H' h => SqT.of (h _ _ upd_same)) hDl (bs := r.map earlyD) (by rw [List.length_map]; exact hx.length) (by simp only [List.length_cons] at hal; omega) (fun i x b' H4 hxi hbi S4 Q' q' => ?_) (fun x H4 Q' q' => ⟨x, rfl, q' x⟩) fun H4 acc S4 hacc hae => ?_
  · obtain ⟨d, hd1, hd2, hd3⟩ := hx3.get2 hxi
    rw [List.getElem?_map, hd1] at hbi
    obtain rfl := Option.some.inj hbi
    exact ⟨_, rfl, x, d, j, by omega, rfl, hd3.mono (Same.kp S4), hp d hd2, fun H5 S5 => ⟨_, rfl, q' H5 S5⟩⟩
  · rw [List.all_map] at hae
    refine ⟨(by show 0 ≤ sizeLine; decide), fun p5 hp5 => ⟨_, _, _, rfl, rfl, SqL.of (Same.new hp5 _ _ _ hacc), SqL.of upd_same, ?_⟩⟩
    rw [hae]
    exact q _ (Same.new' (S3.trans S4) hp5 _)
theorem ok_early (T : Txt K mg) (dm : Def K mg "_law_is_early" s__law_is_early ["_law_one"]) : ∀ n : Nat, Cal P w K mg base (n + 1) "_law_is_early" ["_law_one"] (spEarly n)
  | 0 => (Cal.none dm fun vs H Q E ⟨_, _, m, h, _⟩ => absurd h (Nat.not_lt_zero m)).mono (by omega)
  | n + 1 => step_early T dm (ok_early T dm n)

abbrev n__law_move : List Str := ["_law_row", "_law_is_hot"]
theorem sc_law_move : FnScope n__law_move ["_law_row", "_law_is_hot"] (defScope s__law_move) := ⟨rfl, rfl, rfl, by decide +kernel, rfl, by decide +kernel, by decide +kernel⟩
def spMove (K : PySem.W.Frag) (S : Addr × List Int) : Sp := fun vs H Q _ => ∃ (r : Addr) (hot : Bool), vs = [.ref r, .bl hot] ∧ Row K S H r ∧ ∀ v d H', RFr r H H' → Row K S H' r → Td H' v d → EMove d → Q v H'
theorem Row.ne {K : PySem.W.Frag} {S : Addr × List Int} {H : Hp} {r p : Addr} (hw : Row K S H r) (hp : H p = none) : p ≠ r := by
  obtain ⟨i, s', q', hr0, _⟩ := hw.ex
  exact (ne_of_none hr0 hp).symm
theorem pick_ints {l : List Int} {i : Nat} {x : V} (h : (l.map V.int)[i]? = some x) : ∃ s, s ∈ l ∧ x = .int s := by
  rw [List.getElem?_map] at h
  obtain ⟨s, hs, rfl⟩ := Option.map_eq_some_iff.mp h
  exact ⟨s, List.mem_of_getElem? hs, rfl⟩
theorem ok_move (T : Txt K mg) (dm : Def K mg "_law_move" s__law_move ["_law_row", "_law_is_hot"]) (c_l_taken : Cal P w K mg base 1 "_law_taken" ["_law_row", "_law_many"] (spTaken K S)) (c_l_pick : Cal P w K mg base 2 "_law_pick" ["_law_row", "_law_things"] (spPick K S)) :
    Cal P w K mg base 3 "_law_move" ["_law_row", "_law_is_hot"] (spMove K S) := by
  refine dm.ok sc_law_move (fun vs H Q E h => ?_) (fun f cdv A outer s H vs Q E hr h => ?_)
  · obtain ⟨r, hot, rfl, _⟩ := h
    rfl
  obtain ⟨r, hot, rfl, hw, q⟩ := h
  refine ⟨_, (pss_cons (ps_if (pt_cmpR op_eq (pe_cal c_l_taken (hr.mono (by omega)) (pa_cons (pv 0) (pa_cons pe_int pa_nil))) pe_int (nomark _)) (pss_one (ps_ret (pe_tup (pa_cons pe_str (pa_cons (pe_cal c_l_taken (hr.mono (by omega)) (pa_cons (pv 0) (pa_cons pe_int pa_nil))) pa_nil))))) pss_nil)
      (pss_cons (ps_if (PW.pt (pw_or (pt_val (pv 1)) (pw_or1 (pt_cmpR op_eq (pe_cal c_l_taken (hr.mono (by omega)) (pa_cons (pv 0) (pa_cons pe_int pa_nil))) pe_int (nomark _))))) (pss_one (ps_ret (pe_tup (pa_cons pe_str (pa_cons (pe_cal c_l_pick (hr.mono (by omega)) (pa_cons (pv 0) (pa_cons (pe_lst (pa_cons pe_int (pa_cons pe_int (pa_cons pe_int (pa_cons pe_int (pa_cons (pe_un un_neg pe_int) (pa_cons (pe_un un_neg pe_int) pa_nil))))))) pa_nil))) pa_nil))))) pss_nil)
      (pss_one (ps_ret (pe_tup (pa_cons pe_str (pa_cons (pe_cal c_l_pick (hr.mono (by omega)) (pa_cons (pv 0) (pa_cons (pe_lst (pa_cons (pe_un un_neg pe_int) (pa_cons (pe_un un_neg pe_int) (pa_cons (pe_un un_neg pe_int) (pa_cons (pe_un un_neg pe_int) (pa_cons pe_int pa_nil)))))) pa_nil))) pa_nil))))))), ?_⟩
  -- a pick among small numbers
  have tail : ∀ (l : List Int) (H1 : Hp), l ≠ [] → l.length ≤ 10 → (∀ i ∈ l, -5 ≤ i ∧ i ≤ 5) → RFr r H H1 → Row K S H1 r → ∀ p, H1 p = none → spPick K S [.ref r, .ref p] (upd H1 p (.lst (l.map V.int))) (fun x H2 => ([V.str "move", x].length ≤ sizeLine ∧ ∀ p2, H2 p2 = none → Q (.ref p2) (upd H2 p2 (.tup [.str "move", x])))) E := by
    intro l H1 hl hl10 hb f1 w1 p hp
    refine ⟨r, p, l.map V.int, rfl, w1.same (Same.new hp _), w1.ne hp, .inl (SqL.of upd_same), fun z => hl (List.map_eq_nil_iff.mp z), by rw [List.length_map]; omega, fun i x H2 hx f2 w2 => ?_⟩
    obtain ⟨j, hj, rfl⟩ := pick_ints hx
    obtain ⟨h1, h2⟩ := hb j hj
    refine ⟨(by show 2 ≤ sizeLine; decide), fun p2 hp2 => ?_⟩
    have S3 := Same.new hp2 (.tup [.str "move", .int j])
    exact q _ (.tup [.str "move", .int j]) _ (((f1.new hp _).trans f2).same S3) (w2.same S3) (.tup upd_same (by show 2 ≤ 1000; decide) (.cons (.str _ (by decide)) (.cons (.int j) .nil))) (.move j h1 h2)
  refine ⟨_, rfl, r, 6, rfl, hw, by decide, by decide, fun k H1 hk f1 w1 => ?_⟩
  refine ⟨rfl, _, rfl, ?_⟩
  refine ite2 (fun c => ?_) (fun c => ?_)
  · refine ⟨_, rfl, r, 6, rfl, w1, by decide, by decide, fun k2 H2 hk2 f2 w2 => ⟨(by show 2 ≤ sizeLine; decide), fun p hp => ?_⟩⟩
    have S3 := Same.new hp (.tup [.str "give", .int (k2 : Nat)])
    exact q _ (.tup [.str "give", .int (k2 : Nat)]) _ ((f1.trans f2).same S3) (w2.same S3) (.tup upd_same (by show 2 ≤ 1000; decide) (.cons (.str _ (by decide)) (.cons (.int _) .nil))) (.give k2 (by omega))
  · refine ⟨_, rfl, _, rfl, ?_⟩
    cases hot with
    | true =>
      refine iteT ?_
      refine iteT ?_
      exact ⟨_, rfl, _, rfl, _, rfl, (by show 6 ≤ sizeLine; decide), fun p hp => tail [0, 1, 2, 5, -1, -3] H1 (by decide) (by decide) (by decide) f1 w1 p hp⟩
    | false =>
      refine iteF ?_
      refine ⟨_, rfl, r, 8, rfl, w1, by decide, by decide, fun k2 H2 hk2 f2 w2 => ?_⟩
      refine ⟨rfl, _, rfl, ?_⟩
      refine ite2 (fun c2 => ?_) (fun c2 => ?_)
      · exact ⟨_, rfl, _, rfl, _, rfl, (by show 6 ≤ sizeLine; decide), fun p hp => tail [0, 1, 2, 5, -1, -3] H2 (by decide) (by decide) (by decide) (f1.trans f2) w2 p hp⟩
      · exact ⟨_, rfl, _, rfl, _, rfl, _, rfl, _, rfl, (by show 5 ≤ sizeLine; decide), fun p hp => tail [-1, -1, -2, -3, 0] H2 (by decide) (by decide) (by decide) (f1.trans f2) w2 p hp⟩
end
end K04
namespace K04
open PySem PySem.Spec PyProof.Rows L2
def nmD (p : Str × Nat) : D := .tup [.str p.1, .int (p.2 : Nat)]
/-- the names and numbers that the text may call -/
structure Nm (H : Hp) (pn : Addr) (N : List (Str × Nat)) : Prop where
  ex : ∃ xs, H pn = some (.lst xs) ∧ Tds H xs (N.map nmD)
theorem Nm.fr {K : PySem.W.Frag} {S : Addr × List Int} {H H' : Hp} {r pn : Addr} {N : List (Str × Nat)} (m : Nm H pn N) (w : Row K S H r) (hn : pn ≠ r) (f : RFr r H H') : Nm H' pn N := by
  obtain ⟨xs, h1, h2⟩ := m.ex
  exact ⟨xs, f _ _ h1 hn, h2.mono (w.kp f)⟩
def TForm (N : List (Str × Nat)) (L n : Nat) (t : D) : Prop := ETest t ∨ ∃ u z, t = .tup [.str "less", u, z] ∧ WE N L n u ∧ WE N L n z ∧ (earlyD u && earlyD z) = false
section
variable {P : Program} {w : World} {K : PySem.W.Frag} {mg : Str → Option Value} {base : Heap} {Ts : List Addr} {Pt : Addr} {S : Addr × List Int}
/-- the given things of a draw of an expression -/
structure EG (K : PySem.W.Frag) (S : Addr × List Int) (H : Hp) (r pn : Addr) (N : List (Str × Nat)) (L : Nat) : Prop where
  row : Row K S H r
  nm : Nm H pn N
  ne : pn ≠ r
  two : ∀ p ∈ N, p.2 ≤ 2
  len : N.length ≤ 100
  L : L ≤ 100
theorem EG.fr {H H' : Hp} {r pn : Addr} {N : List (Str × Nat)} {L : Nat} (g : EG K S H r pn N L) (f : RFr r H H') (w' : Row K S H' r) : EG K S H' r pn N L := ⟨w', g.nm.fr g.row g.ne f, g.ne, g.two, g.len, g.L⟩
def spTest (K : PySem.W.Frag) (S : Addr × List Int) (n : Nat) : Sp := fun vs H Q _ => ∃ (r pn : Addr) (dp : Int) (L : Nat) (N : List (Str × Nat)) (hot : Bool), vs = [.ref r, .int dp, .int L, .ref pn, .bl hot] ∧ EG K S H r pn N L ∧ (dp - 1).toNat < n ∧
  ∀ v t H', RFr r H H' → Row K S H' r → Td H' v t → TForm N L (dp - 1).toNat t → Q v H'
def spExpr (K : PySem.W.Frag) (S : Addr × List Int) (n : Nat) : Sp := fun vs H Q _ => ∃ (r pn : Addr) (dp : Int) (L : Nat) (N : List (Str × Nat)) (hot : Bool), vs = [.ref r, .int dp, .int L, .ref pn, .bl hot] ∧ EG K S H r pn N L ∧ dp.toNat < n ∧
  ∀ v d H', RFr r H H' → Row K S H' r → Td H' v d → WE N L dp.toNat d → Q v H'

abbrev n__law_test : List Str := ["_law_row", "_law_deep", "_law_lates_here", "_law_names", "_law_is_hot", "_law_way", "_law_divisor", "_law_one", "_law_other"]
theorem sc_law_test : FnScope n__law_test ["_law_row", "_law_deep", "_law_lates_here", "_law_names", "_law_is_hot"] (defScope s__law_test) := ⟨rfl, rfl, rfl, by decide +kernel, rfl, by decide +kernel, by decide +kernel⟩
theorem ok_test {n k : Nat} (hk : 40 ≤ k) (hn : n ≤ 10) (T : Txt K mg) (dm : Def K mg "_law_test" s__law_test ["_law_row", "_law_deep", "_law_lates_here", "_law_names", "_law_is_hot"]) (c_l_taken : Cal P w K mg base 1 "_law_taken" ["_law_row", "_law_many"] (spTaken K S)) (c_l_pick : Cal P w K mg base 2 "_law_pick" ["_law_row", "_law_things"] (spPick K S))
    (c_l_is_early : Cal P w K mg base 31 "_law_is_early" ["_law_one"] (spEarly 30)) (c_l_expression : Cal P w K mg base k "_law_expression" ["_law_row", "_law_deep", "_law_lates_here", "_law_names", "_law_is_hot"] (spExpr K S n)) :
    Cal P w K mg base (k + 1) "_law_test" ["_law_row", "_law_deep", "_law_lates_here", "_law_names", "_law_is_hot"] (spTest K S n) := by
  refine dm.ok sc_law_test (fun vs H Q E h => ?_) (fun f cdv A outer s H vs Q E hr h => ?_)
  · obtain ⟨r, pn, dp, L, N, hot, rfl, _⟩ := h
    rfl
  obtain ⟨r, pn, dp, L, N, hot, rfl, g, hdp, q⟩ := h
  refine ⟨_, (pss_cons (ps_set (i := 5) sc_law_test.nd rfl (Or.inl rfl) (pe_cal c_l_taken (hr.mono (by omega)) (pa_cons (pv 0) (pa_cons pe_int pa_nil))))
      (pss_cons (ps_if (pt_cmpR op_lt (pv 5) pe_int (nomark _)) (pss_one (ps_ret (pe_tup (pa_cons pe_str (pa_cons (pe_cal c_l_pick (hr.mono (by omega)) (pa_cons (pv 0) (pa_cons (pe_lst (pa_cons pe_int (pa_cons pe_int (pa_cons pe_int (pa_cons pe_int (pa_cons pe_int pa_nil)))))) pa_nil))) pa_nil))))) pss_nil)
      (pss_cons (ps_if (pt_cmpR op_eq (pv 5) pe_int (nomark _)) (pss_cons (ps_set (i := 6) sc_law_test.nd rfl (Or.inl rfl) (pe_op op_add pe_int (pe_cal c_l_taken (hr.mono (by omega)) (pa_cons (pv 0) (pa_cons pe_int pa_nil)))))
      (pss_one (ps_ret (pe_tup (pa_cons pe_str (pa_cons (pv 6) (pa_cons (pe_cal c_l_taken (hr.mono (by omega)) (pa_cons (pv 0) (pa_cons (pv 6) pa_nil))) pa_nil))))))) pss_nil)
      (pss_cons (ps_par (i := 7) (j := 8) rfl sc_law_test.nd rfl rfl (by decide) rfl rfl (pa_cons (pe_cal c_l_expression (hr.mono (by omega)) (pa_cons (pv 0) (pa_cons (pe_op op_sub (pv 1) pe_int) (pa_cons (pv 2) (pa_cons (pv 3) (pa_cons (pv 4) pa_nil)))))) (pa_cons (pe_cal c_l_expression (hr.mono (by omega)) (pa_cons (pv 0) (pa_cons (pe_op op_sub (pv 1) pe_int) (pa_cons (pv 2) (pa_cons (pv 3) (pa_cons (pv 4) pa_nil)))))) pa_nil)) (by with_unfolding_all rfl))
      (pss_cons (ps_if (PW.pt (pw_and (pt_val (pe_cal c_l_is_early (hr.mono (by omega)) (pa_cons (pv 7) pa_nil))) (pw_and1 (pt_val (pe_cal c_l_is_early (hr.mono (by omega)) (pa_cons (pv 8) pa_nil)))))) (pss_one (ps_ret (pe_ifExp (pt_cmpR op_eq (pv 2) pe_int (nomark _)) (pe_tup (pa_cons pe_str (pa_cons (pe_op op_add pe_int (pe_cal c_l_taken (hr.mono (by omega)) (pa_cons (pv 0) (pa_cons pe_int pa_nil)))) pa_nil))) (pe_tup (pa_cons pe_str (pa_cons (pv 7) (pa_cons (pe_tup (pa_cons pe_str (pa_cons (pe_cal c_l_taken (hr.mono (by omega)) (pa_cons (pv 0) (pa_cons (pv 2) pa_nil))) pa_nil))) pa_nil))))))) pss_nil)
      (pss_one (ps_ret (pe_tup (pa_cons pe_str (pa_cons (pv 7) (pa_cons (pv 8) pa_nil))))))))))), ?_⟩
  refine ⟨_, rfl, r, 5, rfl, g.row, by decide, by decide, fun k1 H1 hk1 f1 w1 => ?_⟩
  have g1 := g.fr f1 w1
  refine ⟨_, rfl, _, _, rfl, rfl, _, rfl, ?_⟩
  refine ite2 (fun c1 => ?_) (fun c1 => ?_)
  · refine ⟨_, rfl, (by show 5 ≤ sizeLine; decide), fun p hp => ?_⟩
    refine ⟨r, p, ([1, 1, 2, 4, 6] : List Int).map V.int, rfl, w1.same (Same.new hp _), w1.ne hp, .inl (SqL.of upd_same), by decide, by decide, fun i x H2 hx f2 w2 => ?_⟩
    obtain ⟨j, hj, rfl⟩ := pick_ints hx
    refine ⟨(by show 2 ≤ sizeLine; decide), fun p2 hp2 => ?_⟩
    have S3 := Same.new hp2 (.tup [.str "below", .int j])
    exact q _ (.tup [.str "below", .int j]) _ (((f1.new hp _).trans f2).same S3) (w2.same S3) (.tup upd_same (by show 2 ≤ 1000; decide) (.cons (.str _ (by decide)) (.cons (.int j) .nil))) (.inl (.below j))
  refine ⟨_, rfl, rfl, _, rfl, ?_⟩
  refine ite2 (fun c2 => ?_) (fun c2 => ?_)
  · refine ⟨_, rfl, r, 3, rfl, w1, by decide, by decide, fun k2 H2 hk2 f2 w2 => ?_⟩
    refine ⟨_, _, rfl, rfl, ?_⟩
    refine ⟨_, rfl, _, rfl, _, rfl, r, 2 + k2, (by show [V.ref r, V.int (2 + (k2 : Nat))] = [V.ref r, V.int ((2 + k2 : Nat) : Int)]; congr 3), w2, by omega, by omega, fun k3 H3 hk3 f3 w3 => ⟨(by show 3 ≤ sizeLine; decide), fun p hp => ?_⟩⟩
    have S4 := Same.new hp (.tup [.str "rest", .int (2 + (k2 : Nat)), .int (k3 : Nat)])
    exact q _ (.tup [.str "rest", .int (2 + (k2 : Nat)), .int (k3 : Nat)]) _ (((f1.trans f2).trans f3).same S4) (w3.same S4) (.tup upd_same (by show 3 ≤ 1000; decide) (.cons (.str _ (by decide)) (.cons (.int _) (.cons (.int _) .nil)))) (.inl (.rest _ _ (by omega)))
  refine ⟨_, rfl, _, rfl, _, _, rfl, rfl, _, rfl, _, rfl, _, rfl, r, pn, dp - 1, L, N, hot, rfl, g1, hdp, fun v1 d1 H2 f2 w2 t1 e1 => ?_⟩
  have g2 := g1.fr f2 w2
  refine ⟨_, rfl, _, rfl, _, _, rfl, rfl, _, rfl, _, rfl, _, rfl, r, pn, dp - 1, L, N, hot, rfl, g2, hdp, fun v2 d2 H3 f3 w3 t2 e2 => ?_⟩
  have g3 := g2.fr f3 w3
  have t1' := t1.mono (w2.kp f3)
  have f123 := (f1.trans f2).trans f3
  refine ⟨_, _, rfl, ?_⟩
  -- the two as they came
  have less : ∀ (H4 : Hp), Same H3 H4 → (earlyD d1 && earlyD d2) = false → ∀ p, H4 p = none → Q (.ref p) (upd H4 p (.tup [.str "less", v1, v2])) := fun H4 S4 he p hp => by
    have S5 := Same.new' S4 hp (.tup [.str "less", v1, v2])
    exact q _ (.tup [.str "less", d1, d2]) _ (f123.same S5) (w3.same S5) (.tup upd_same (by show 3 ≤ 1000; decide) (.cons (.str _ (by decide)) (.cons (t1'.mono (Same.kp S5)) (.cons (t2.mono (Same.kp S5)) .nil)))) (.inr ⟨d1, d2, rfl, e1, e2, he⟩)
  refine ⟨_, rfl, v1, d1, 2 * (dp - 1).toNat, by omega, rfl, t1', e1.hn, fun H4 S4 => ?_⟩
  refine ⟨_, rfl, ?_⟩
  cases he1 : earlyD d1 with
  | false => exact iteF (iteF ⟨_, rfl, _, rfl, (by show 3 ≤ sizeLine; decide), fun p hp => less H4 S4 (by rw [he1]; rfl) p hp⟩)
  | true =>
    refine iteT ?_
    refine ⟨_, rfl, v2, d2, 2 * (dp - 1).toNat, by omega, rfl, t2.mono (Same.kp S4), e2.hn, fun H5 S5 => ?_⟩
    have S35 := S4.trans S5
    refine ⟨_, rfl, ?_⟩
    cases he2 : earlyD d2 with
    | false => exact iteF ⟨_, rfl, _, rfl, (by show 3 ≤ sizeLine; decide), fun p hp => less H5 S35 (by rw [he1, he2]; rfl) p hp⟩
    | true =>
      refine iteT ?_
      have w5 := w3.same S35
      have f5 := f123.same S35
      refine ⟨_, rfl, rfl, _, rfl, ?_⟩
      refine ite2 (fun c3 => ?_) (fun c3 => ?_)
      · refine ⟨_, rfl, r, 4, rfl, w5, by decide, by decide, fun k4 H6 hk4 f6 w6 => ⟨_, _, rfl, rfl, (by show 2 ≤ sizeLine; decide), fun p hp => ?_⟩⟩
        have S7 := Same.new hp (.tup [.str "below", .int (1 + (k4 : Nat))])
        exact q _ (.tup [.str "below", .int (1 + (k4 : Nat))]) _ ((f5.trans f6).same S7) (w6.same S7) (.tup upd_same (by show 2 ≤ 1000; decide) (.cons (.str _ (by decide)) (.cons (.int _) .nil))) (.inl (.below _))
      · have hL : 0 < L := by
          have : ¬ L = 0 := fun z => c3 (decide_eq_true (by rw [z]; rfl))
          omega
        have hL100 := g.L
        refine ⟨_, rfl, _, rfl, _, rfl, r, L, rfl, w5, hL, by omega, fun k4 H6 hk4 f6 w6 => ⟨(by show 2 ≤ sizeLine; decide), fun p hp => ⟨(by show 3 ≤ sizeLine; decide), fun p2 hp2 => ?_⟩⟩⟩
        have S7 := Same.new hp (.tup [.str "late", .int (k4 : Nat)])
        have S8 := Same.new' S7 hp2 (.tup [.str "less", v1, .ref p])
        have tl : Td (upd (upd H6 p (.tup [.str "late", .int (k4 : Nat)])) p2 (.tup [.str "less", v1, .ref p])) (.ref p) (.tup [.str "late", .int (k4 : Nat)]) := .tup (Same.new hp2 _ _ _ upd_same) (by show 2 ≤ 1000; decide) (.cons (.str _ (by decide)) (.cons (.int _) .nil))
        refine q _ (.tup [.str "less", d1, .tup [.str "late", .int (k4 : Nat)]]) _ ((f5.trans f6).same S8) (w6.same S8) (.tup upd_same (by show 3 ≤ 1000; decide) (.cons (.str _ (by decide)) (.cons (((t1'.mono (Same.kp S35)).mono (w5.kp f6)).mono (Same.kp S8)) (.cons tl .nil)))) (.inr ⟨d1, _, rfl, e1, .late _ k4 hk4, ?_⟩)
        rw [he1]
        rfl

abbrev n__law_expression : List Str := ["_law_row", "_law_deep", "_law_lates_here", "_law_names", "_law_is_hot", "_law_way", "_law_kind", "_law_test_here", "_law_name_here", "_law_many", "_law_k"]
theorem sc_law_expression : FnScope n__law_expression ["_law_row", "_law_deep", "_law_lates_here", "_law_names", "_law_is_hot"] (defScope s__law_expression) := ⟨rfl, rfl, rfl, by decide +kernel, rfl, by decide +kernel, by decide +kernel⟩
theorem ex_first {dp : Int} {r : Addr} {H : Hp} {D : Ends} {o2 o3 o4 o5 o6 o7 o8 o9 o10 : Option V} (hw : Row K S H r) (h : ∀ (w : Nat) H1, (w < 3 ∨ 0 < dp) → RFr r H H1 → Row K S H1 r → D.nx [some (.ref r), some (.int dp), o2, o3, o4, some (.int (w : Nat)), o6, o7, o8, o9, o10] H1) :
    tAsg (tIf (tTest (tOp (rI0 fun i j => .bl (decide (i > j))) (tVar 1) (tC (.int 0)))) (tCall (spTaken K S) [] E0 (tCons (tVar 0) (tCons (tC (.int 10)) tNil))) (tCall (spTaken K S) [] E0 (tCons (tVar 0) (tCons (tC (.int 3)) tNil)))) (gName 5) D [some (.ref r), some (.int dp), o2, o3, o4, o5, o6, o7, o8, o9, o10] H := by
  refine ⟨_, rfl, _, _, rfl, rfl, _, rfl, ?_⟩
  refine ite2 (fun c => ?_) (fun c => ?_)
  · exact ⟨_, rfl, r, 10, rfl, hw, by decide, by decide, fun k H1 hk f w => h k H1 (.inr (of_decide_eq_true c)) f w⟩
  · exact ⟨_, rfl, r, 3, rfl, hw, by decide, by decide, fun k H1 hk f w => h k H1 (.inl hk) f w⟩
theorem dec_nat (w j : Nat) : decide (V.int (w : Nat) = V.int (j : Nat)) = decide (w = j) := decide_eq_decide.mpr ⟨fun z => by injection z with z; omega, fun z => by rw [z]⟩
theorem ex_num {w L : Nat} {H : Hp} {Q : Bool → Hp → Prop} {o0 o1 o3 o4 : Option V} {σ : L2.St} (h : Q (decide (w = 0 ∨ w = 2 ∧ L = 0)) H) :
    tOr (tTest (tOp rEq (tVar 5) (tC (.int 0)))) (tAnd (tTest (tOp rEq (tVar 5) (tC (.int 2)))) (tTest (tOp rEq (tVar 2) (tC (.int 0))))) (o0 :: o1 :: some (.int (L : Nat)) :: o3 :: o4 :: some (.int (w : Nat)) :: σ) H Q := by
  refine ⟨_, rfl, rfl, _, rfl, ?_⟩
  have e0 : decide (V.int (w : Nat) = V.int 0) = decide (w = 0) := dec_nat w 0
  have e2 : decide (V.int (w : Nat) = V.int 2) = decide (w = 2) := dec_nat w 2
  have e3 : decide (V.int (L : Nat) = V.int 0) = decide (L = 0) := dec_nat L 0
  rw [e0]
  by_cases h0 : w = 0
  · rw [decide_eq_true (p := w = 0 ∨ w = 2 ∧ L = 0) (.inl h0)] at h
    rw [decide_eq_true h0]
    exact iteT h
  · rw [decide_eq_false h0]
    refine iteF ⟨_, rfl, rfl, _, rfl, ?_⟩
    rw [e2]
    by_cases h2 : w = 2
    · rw [decide_eq_true h2]
      refine iteT ⟨_, rfl, rfl, _, rfl, ?_⟩
      rw [e3]
      have e : decide (w = 0 ∨ w = 2 ∧ L = 0) = decide (L = 0) := decide_eq_decide.mpr ⟨fun z => z.elim (fun z => absurd z h0) (fun z => z.2), fun z => .inr ⟨h2, z⟩⟩
      rw [e] at h
      exact h
    · rw [decide_eq_false h2]
      rw [decide_eq_false (p := w = 0 ∨ w = 2 ∧ L = 0) (fun z => z.elim h0 (fun z => h2 z.1))] at h
      exact iteF h
theorem ex_if {w : Nat} {pn : Addr} {N : List (Str × Nat)} {H : Hp} {Q : Bool → Hp → Prop} {o0 o1 o2 o4 : Option V} {σ : L2.St} (nm : Nm H pn N) (h : ∀ b H1, Same H H1 → (b = false → N ≠ []) → Q b H1) :
    tOr (tTest (tOp (rI0 fun i j => .bl (decide (i < j))) (tVar 5) (tC (.int 8)))) (tTest (tOp (rEqNil K) (tVar 3) (tLst tNil))) (o0 :: o1 :: o2 :: some (.ref pn) :: o4 :: some (.int (w : Nat)) :: σ) H Q := by
  refine ⟨_, rfl, _, _, rfl, rfl, _, rfl, ?_⟩
  refine ite2 (fun c => ?_) (fun c => ?_)
  · exact h true H (fun _ _ h => h) (fun z => nomatch z)
  · obtain ⟨xs, h1, h2⟩ := nm.ex
    refine ⟨_, rfl, (by show 0 ≤ sizeLine; decide), fun p hp => ⟨_, _, _, rfl, rfl, SqL.of (Same.new hp _ _ _ h1), SqL.of upd_same, _, rfl, ?_⟩⟩
    refine h _ _ (Same.new hp _) fun z hN => ?_
    subst hN
    have := h2.length
    cases xs with
    | nil => cases z
    | cons _ _ => simp at this
theorem step_expr {n k : Nat} (hk : 40 ≤ k) (hn : n ≤ 10) (T : Txt K mg) (dm : Def K mg "_law_expression" s__law_expression ["_law_row", "_law_deep", "_law_lates_here", "_law_names", "_law_is_hot"]) (c_l_taken : Cal P w K mg base 1 "_law_taken" ["_law_row", "_law_many"] (spTaken K S)) (c_l_pick : Cal P w K mg base 2 "_law_pick" ["_law_row", "_law_things"] (spPick K S))
    (c_l_move : Cal P w K mg base 3 "_law_move" ["_law_row", "_law_is_hot"] (spMove K S)) (c_l_test : Cal P w K mg base (k + 1) "_law_test" ["_law_row", "_law_deep", "_law_lates_here", "_law_names", "_law_is_hot"] (spTest K S n)) (c_l_expression : Cal P w K mg base k "_law_expression" ["_law_row", "_law_deep", "_law_lates_here", "_law_names", "_law_is_hot"] (spExpr K S n)) :
    Cal P w K mg base (k + 1 + 1) "_law_expression" ["_law_row", "_law_deep", "_law_lates_here", "_law_names", "_law_is_hot"] (spExpr K S (n + 1)) := by
  refine dm.ok sc_law_expression (fun vs H Q E h => ?_) (fun f cdv A outer s H vs Q E hr h => ?_)
  · obtain ⟨r, pn, dp, L, N, hot, rfl, _⟩ := h
    rfl
  obtain ⟨r, pn, dp, L, N, hot, rfl, g, hdp, q⟩ := h
  refine ⟨_, (pss_cons (ps_set (i := 5) sc_law_expression.nd rfl (Or.inl rfl) (pe_ifExp (pt_cmpR op_gt (pv 1) pe_int (nomark _)) (pe_cal c_l_taken (hr.mono (by omega)) (pa_cons (pv 0) (pa_cons pe_int pa_nil))) (pe_cal c_l_taken (hr.mono (by omega)) (pa_cons (pv 0) (pa_cons pe_int pa_nil)))))
      (pss_cons (ps_if (PW.pt (pw_or (pt_cmpR op_eq (pv 5) pe_int (nomark _)) (pw_or1 (PW.pt (pw_and (pt_cmpR op_eq (pv 5) pe_int (nomark _)) (pw_and1 (pt_cmpR op_eq (pv 2) pe_int (nomark _)))))))) (pss_one (ps_ret (pe_tup (pa_cons pe_str (pa_cons (pe_cal c_l_pick (hr.mono (by omega)) (pa_cons (pv 0) (pa_cons (pe_lst (pa_cons pe_int (pa_cons pe_int (pa_cons pe_int (pa_cons pe_int (pa_cons pe_int (pa_cons pe_int pa_nil))))))) pa_nil))) pa_nil))))) pss_nil)
      (pss_cons (ps_if (pt_cmpR op_eq (pv 5) pe_int (nomark _)) (pss_one (ps_ret (pe_tup (pa_cons pe_str pa_nil)))) pss_nil)
      (pss_cons (ps_if (pt_cmpR op_eq (pv 5) pe_int (nomark _)) (pss_one (ps_ret (pe_tup (pa_cons pe_str (pa_cons (pe_cal c_l_taken (hr.mono (by omega)) (pa_cons (pv 0) (pa_cons (pv 2) pa_nil))) pa_nil))))) pss_nil)
      (pss_cons (ps_if (pt_cmpR op_lt (pv 5) pe_int (nomark _)) (pss_cons (ps_set (i := 6) sc_law_expression.nd rfl (Or.inl rfl) (pe_cal c_l_pick (hr.mono (by omega)) (pa_cons (pv 0) (pa_cons (pe_lst (pa_cons pe_str (pa_cons pe_str (pa_cons pe_str pa_nil)))) pa_nil))))
      (pss_one (ps_ret (pe_tup (pa_cons (pv 6) (pa_cons (pe_cal c_l_expression (hr.mono (by omega)) (pa_cons (pv 0) (pa_cons (pe_op op_sub (pv 1) pe_int) (pa_cons (pv 2) (pa_cons (pv 3) (pa_cons (pv 4) pa_nil)))))) (pa_cons (pe_cal c_l_expression (hr.mono (by omega)) (pa_cons (pv 0) (pa_cons (pe_op op_sub (pv 1) pe_int) (pa_cons (pv 2) (pa_cons (pv 3) (pa_cons (pv 4) pa_nil)))))) pa_nil))))))) pss_nil)
      (pss_cons (ps_if (PW.pt (pw_or (pt_cmpR op_lt (pv 5) pe_int (nomark _)) (pw_or1 (pt_cmpR (op_eqNil hr.units0) (pv 3) (pe_lst pa_nil) (nomark _))))) (pss_cons (ps_set (i := 7) sc_law_expression.nd rfl (Or.inl rfl) (pe_cal c_l_test (hr.mono (by omega)) (pa_cons (pv 0) (pa_cons (pe_op op_sub (pv 1) pe_int) (pa_cons (pv 2) (pa_cons (pv 3) (pa_cons (pv 4) pa_nil)))))))
      (pss_one (ps_ret (pe_tup (pa_cons pe_str (pa_cons (pv 7) (pa_cons (pe_cal c_l_expression (hr.mono (by omega)) (pa_cons (pv 0) (pa_cons (pe_op op_sub (pv 1) pe_int) (pa_cons (pv 2) (pa_cons (pv 3) (pa_cons (pv 4) pa_nil)))))) (pa_cons (pe_cal c_l_expression (hr.mono (by omega)) (pa_cons (pv 0) (pa_cons (pe_op op_sub (pv 1) pe_int) (pa_cons (pv 2) (pa_cons (pv 3) (pa_cons (pv 4) pa_nil)))))) pa_nil)))))))) pss_nil)
      (pss_cons (ps_asg (pe_cal c_l_pick (hr.mono (by omega)) (pa_cons (pv 0) (pa_cons (pv 3) pa_nil))) (pg_tup rfl (pgs_cons (pg_name (i := 8) sc_law_expression.nd rfl (Or.inl rfl)) (pgs_cons (pg_name (i := 9) sc_law_expression.nd rfl (Or.inl rfl)) pgs_nil))))
      (pss_one (ps_ret (pe_tup (pa_cons pe_str (pa_cons (pv 8) (pa_cons (pe_cal c_l_move (hr.mono (by omega)) (pa_cons (pv 0) (pa_cons (pv 4) pa_nil))) (pa_cons (pe_callTy call_tuple_of (by rfl) T.f_tuple (by decide +kernel) (pa_cons (pe_lc (own := [("_law_k", 10)]) (g := (gName 10)) (tt := tYes) rfl sc_law_expression.nd (pi_range1 rfl T.f_range (pa_cons (pv 9) pa_nil)) (blkOk_by (N := n__law_expression) (sc := defScope s__law_expression) (by decide +kernel)) (fun _ _ _ _ _ => (pg_name (i := 10) sc_law_expression.nd rfl (Or.inl rfl))) (fun _ _ _ _ _ => pts_nil) (fun _ _ _ _ _ => (pe_cal c_l_expression (hr.mono (by omega)) (pa_cons (pv 0) (pa_cons (pe_op op_sub (pv 1) pe_int) (pa_cons (pv 2) (pa_cons (pv 3) (pa_cons (pv 4) pa_nil)))))))) pa_nil)) pa_nil)))))))))))))), ?_⟩
  have hL100 := g.L
  refine ex_first (dp := dp) g.row (fun w H1 hw f1 w1 => ?_)
  have g1 := g.fr f1 w1
  refine ex_num ?_
  refine ite2 (fun c0 => ?_) (fun c0 => ?_)
  · refine ⟨_, rfl, (by show 6 ≤ sizeLine; decide), fun p hp => ?_⟩
    refine ⟨r, p, ([0, 1, 2, 3, 7, 40] : List Int).map V.int, rfl, w1.same (Same.new hp _), w1.ne hp, .inl (SqL.of upd_same), by decide, by decide, fun i x H2 hx f2 w2 => ?_⟩
    obtain ⟨j, hj, rfl⟩ := pick_ints hx
    have hjj : ∃ j' : Nat, j = j' ∧ j' ≤ 1000 := by
      have : ∀ j ∈ ([0, 1, 2, 3, 7, 40] : List Int), 0 ≤ j ∧ j ≤ 40 := by decide
      have := this j hj
      exact ⟨j.toNat, by omega, by omega⟩
    obtain ⟨j', rfl, hj'⟩ := hjj
    refine ⟨(by show 2 ≤ sizeLine; decide), fun p2 hp2 => ?_⟩
    have S3 := Same.new hp2 (.tup [.str "number", .int (j' : Nat)])
    exact q _ (.tup [.str "number", .int (j' : Nat)]) _ (((f1.new hp _).trans f2).same S3) (w2.same S3) (.tup upd_same (by show 2 ≤ 1000; decide) (.cons (.str _ (by decide)) (.cons (.int _) .nil))) (.num _ j' hj')
  have c0' : ¬ (w = 0 ∨ w = 2 ∧ L = 0) := of_decide_eq_false (Bool.eq_false_iff.mpr c0)
  refine ⟨_, rfl, rfl, _, rfl, ?_⟩
  rw [show decide (V.int (w : Nat) = V.int 1) = decide (w = 1) from dec_nat w 1]
  refine ite2 (fun c1 => ?_) (fun c1 => ?_)
  · refine ⟨(by show 1 ≤ sizeLine; decide), fun p hp => ?_⟩
    have S2 := Same.new hp (.tup [.str "early"])
    exact q _ (.tup [.str "early"]) _ (f1.same S2) (w1.same S2) (.tup upd_same (by show 1 ≤ 1000; decide) (.cons (.str _ (by decide)) .nil)) (.early _)
  have c1' : ¬ w = 1 := of_decide_eq_false (Bool.eq_false_iff.mpr c1)
  refine ⟨_, rfl, rfl, _, rfl, ?_⟩
  rw [show decide (V.int (w : Nat) = V.int 2) = decide (w = 2) from dec_nat w 2]
  refine ite2 (fun c2 => ?_) (fun c2 => ?_)
  · have c2' : w = 2 := of_decide_eq_true c2
    have hL : 0 < L := by
      have : ¬ L = 0 := fun z => c0' (.inr ⟨c2', z⟩)
      omega
    refine ⟨_, rfl, _, rfl, r, L, rfl, w1, hL, by omega, fun k2 H2 hk2 f2 w2 => ⟨(by show 2 ≤ sizeLine; decide), fun p hp => ?_⟩⟩
    have S3 := Same.new hp (.tup [.str "late", .int (k2 : Nat)])
    exact q _ (.tup [.str "late", .int (k2 : Nat)]) _ ((f1.trans f2).same S3) (w2.same S3) (.tup upd_same (by show 2 ≤ 1000; decide) (.cons (.str _ (by decide)) (.cons (.int _) .nil))) (.late _ k2 hk2)
  have c2' : ¬ w = 2 := of_decide_eq_false (Bool.eq_false_iff.mpr c2)
  have hdp0 : 0 < dp := by
    rcases hw with h | h
    · omega
    · exact h
  obtain ⟨m, rfl⟩ : ∃ m : Nat, dp = ((m + 1 : Nat) : Int) := ⟨(dp - 1).toNat, by omega⟩
  have e0 : (((m + 1 : Nat) : Int)).toNat = m + 1 := by omega
  have e1 : (((m + 1 : Nat) : Int) - 1).toNat = m := by omega
  have e2 : (((m + 1 : Nat) : Int) - 1 - 1).toNat = m - 1 := by omega
  have e2' : (((m + 1 : Nat) : Int) - 2).toNat = m - 1 := by omega
  rw [e0] at q hdp
  refine ⟨_, rfl, _, _, rfl, rfl, _, rfl, ?_⟩
  refine ite2 (fun c6 => ?_) (fun c6 => ?_)
  · refine ⟨_, rfl, (by show 3 ≤ sizeLine; decide), fun p hp => ?_⟩
    refine ⟨r, p, pairsS.map V.str, rfl, w1.same (Same.new hp _), w1.ne hp, .inl (SqL.of upd_same), by decide, by decide, fun i x H2 hx f2 w2 => ?_⟩
    obtain ⟨kk, hkk, rfl⟩ := pick_strs hx
    have hkk' := pairs_cases (List.contains_iff_mem.mpr hkk)
    have f02 := (f1.new hp _).trans f2
    have g2 := g.fr f02 w2
    refine ⟨_, rfl, _, rfl, _, rfl, _, _, rfl, rfl, _, rfl, _, rfl, _, rfl, r, pn, ((m + 1 : Nat) : Int) - 1, L, N, hot, rfl, g2, by rw [e1]; omega, fun v1 d1 H3 f3 w3 t1 h1 => ?_⟩
    have g3 := g2.fr f3 w3
    refine ⟨_, rfl, _, rfl, _, _, rfl, rfl, _, rfl, _, rfl, _, rfl, r, pn, ((m + 1 : Nat) : Int) - 1, L, N, hot, rfl, g3, by rw [e1]; omega, fun v2 d2 H4 f4 w4 t2 h2 => ⟨(by show 3 ≤ sizeLine; decide), fun p5 hp5 => ?_⟩⟩
    rw [e1] at h1 h2
    have S5 := Same.new hp5 (.tup [.str kk, v1, v2])
    have hkl : kk.length ≤ 1000 := by rcases hkk' with rfl | rfl | rfl <;> decide
    exact q _ (.tup [.str kk, d1, d2]) _ (((f02.trans f3).trans f4).same S5) (w4.same S5) (.tup upd_same (by show 3 ≤ 1000; decide) (.cons (.str _ hkl) (.cons ((t1.mono (w3.kp f4)).mono (Same.kp S5)) (.cons (t2.mono (Same.kp S5)) .nil)))) (.bin m kk d1 d2 hkk' h1 h2)
  refine ex_if g1.nm (fun b H2 S2 hb => ?_)
  have f2 := f1.same S2
  have w2 := w1.same S2
  have g2 := g.fr f2 w2
  cases b with
  | true =>
    refine iteT ?_
    refine ⟨_, rfl, _, rfl, _, _, rfl, rfl, _, rfl, _, rfl, _, rfl, r, pn, ((m + 1 : Nat) : Int) - 1, L, N, hot, rfl, g2, by rw [e2]; omega, fun v0 t H3 f3 w3 tt ht => ?_⟩
    rw [e2] at ht
    have g3 := g2.fr f3 w3
    refine ⟨_, rfl, _, rfl, _, rfl, _, _, rfl, rfl, _, rfl, _, rfl, _, rfl, r, pn, ((m + 1 : Nat) : Int) - 1, L, N, hot, rfl, g3, by rw [e1]; omega, fun v1 d1 H4 f4 w4 t1 h1 => ?_⟩
    have g4 := g3.fr f4 w4
    refine ⟨_, rfl, _, rfl, _, _, rfl, rfl, _, rfl, _, rfl, _, rfl, r, pn, ((m + 1 : Nat) : Int) - 1, L, N, hot, rfl, g4, by rw [e1]; omega, fun v2 d2 H5 f5 w5 t2 h2 => ⟨(by show 4 ≤ sizeLine; decide), fun p5 hp5 => ?_⟩⟩
    rw [e1] at h1 h2
    have S6 := Same.new hp5 (.tup [.str "if", v0, v1, v2])
    have hWE : WE N L (m + 1) (.tup [.str "if", t, d1, d2]) := by
      rcases ht with ht | ⟨u, z, rfl, hu, hz, he⟩
      · exact .ifE m t d1 d2 ht h1 h2
      · exact .ifL m u z d1 d2 hu hz he h1 h2
    exact q _ (.tup [.str "if", t, d1, d2]) _ ((((f2.trans f3).trans f4).trans f5).same S6) (w5.same S6) (.tup upd_same (by show 4 ≤ 1000; decide) (.cons (.str _ (by decide)) (.cons (((tt.mono (w3.kp f4)).mono (w4.kp f5)).mono (Same.kp S6)) (.cons ((t1.mono (w4.kp f5)).mono (Same.kp S6)) (.cons (t2.mono (Same.kp S6)) .nil))))) hWE
  | false =>
    refine iteF ?_
    have hN := hb rfl
    obtain ⟨xs, hp1, hx1⟩ := g2.nm.ex
    have hxl := hx1.length
    rw [List.length_map] at hxl
    have hNl := g.len
    refine ⟨_, rfl, _, rfl, r, pn, xs, rfl, w2, g.ne, .inl (SqL.of hp1), fun z => hN (by rw [z] at hxl; exact List.length_eq_zero_iff.mp hxl.symm), by omega, fun i x H3 hx f3 w3 => ?_⟩
    obtain ⟨d, hd1, hd2, hd3⟩ := hx1.get2 hx
    obtain ⟨⟨nm, many⟩, hmem, rfl⟩ := List.mem_map.mp hd2
    have htwo : many ≤ 2 := g.two _ hmem
    have hd3 := hd3.mono (w2.kp f3)
    obtain ⟨a, ys, rfl, ha, _, hys⟩ := hd3.tup_inv
    obtain ⟨y1, ys, rfl, h1, hys⟩ := hys.cons_inv
    obtain ⟨y2, ys, rfl, h2, hys⟩ := hys.cons_inv
    obtain rfl := hys.nil_inv
    obtain ⟨rfl, hnl⟩ := h1.str_inv
    obtain rfl := h2.int_inv
    have g3 := g2.fr f3 w3
    refine ⟨_, _, rfl, SqT.of ha, rfl, _, _, rfl, _, _, rfl, rfl, ?_⟩
    refine ⟨_, rfl, _, rfl, _, rfl, r, hot, rfl, w3, fun v0 mv H4 f4 w4 t0 hmv => ?_⟩
    have g4 := g3.fr f4 w4
    refine ⟨_, rfl, (many : Int), rfl, (by omega), (by omega), fun Dl hDl => ?_⟩
    rw [show ((many : Nat) : Int).toNat = many by omega]
    have hDr := w4.ne hDl
    refine lc_srv (Srv.rng (P := fun _ => True) many) (fun i H' => RFr r H4 H' ∧ Row K S H' r ∧ ∃ zs ds, H' Dl = some (.lst zs) ∧ Tds H' zs ds ∧ ds.length = i ∧ ∀ a ∈ ds, WE N L (m - 1) a) (fun _ _ _ => True.intro) ?_ ?_ ?_
    · exact ⟨(RFr.refl r H4).new hDl _, w4.same (Same.new hDl _), [], [], upd_same, .nil, rfl, fun _ h => nomatch h⟩
    · rintro i x H5 hxi ⟨f5, w5, zs, ds, hz, hzs, hdl, hall⟩
      have him : i < many := by
        have := (List.getElem?_eq_some_iff.mp hxi).1
        simpa using this
      have g5 := g4.fr f5 w5
      refine ⟨rfl, yesI ?_⟩
      refine ⟨_, rfl, _, rfl, _, _, rfl, rfl, _, rfl, _, rfl, _, rfl, r, pn, ((m + 1 : Nat) : Int) - 2, L, N, hot, rfl, g5, by rw [e2']; omega, fun v1 d1 H6 f6 w6 t1 h1 => ?_⟩
      rw [e2'] at h1
      have hz6 := f6 _ _ hz hDr
      have hzl := hzs.length
      have kp : Kp H6 (upd H6 Dl (.lst (zs ++ [v1]))) := fun b us hb => by
        rw [upd_ne (ne_obj hb hz6 (fun z => by cases z))]
        exact hb
      refine ⟨zs, hz6, szlt (by omega), (f5.trans f6).mut hDl, w4.mut w6 hDl, zs ++ [v1], ds ++ [d1], upd_same, ((hzs.mono (w5.kp f6)).mono kp).append (.one (t1.mono kp)), by rw [List.length_append, hdl]; rfl, fun a ha => ?_⟩
      rcases List.mem_append.mp ha with ha | ha
      · exact hall a ha
      · rw [List.mem_singleton] at ha
        subst ha
        exact h1
    · rintro H5 ⟨f5, w5, zs, ds, hz, hzs, hdl, hall⟩
      have hlen : ds.length = many := by simpa using hdl
      have hzl := hzs.length
      refine ⟨_, _, rfl, .inl ⟨SqL.of hz, fun pt hpt => ⟨(by show 4 ≤ sizeLine; decide), fun p6 hp6 => ?_⟩⟩⟩
      have S6 := Same.new hpt (.tup zs)
      have S7 := Same.new' S6 hp6 (.tup [.str "call", .str nm, v0, .ref pt])
      refine q _ (.tup [.str "call", .str nm, mv, .tup ds]) _ ((((f2.trans f3).trans f4).trans f5).same S7) (w5.same S7) (.tup upd_same (by show 4 ≤ 1000; decide) (.cons (.str _ (by decide)) (.cons (.str _ hnl) (.cons ((t0.mono (w4.kp f5)).mono (Same.kp S7)) (.cons (.tup (Same.new hp6 _ _ _ upd_same) (by omega) (hzs.mono (Same.kp S7))) .nil))))) ?_
      exact .call m nm mv ds (by rw [hlen]; exact hmem) (by omega) hmv hall
theorem ok_expr (T : Txt K mg) (dm : Def K mg "_law_expression" s__law_expression ["_law_row", "_law_deep", "_law_lates_here", "_law_names", "_law_is_hot"]) (dt : Def K mg "_law_test" s__law_test ["_law_row", "_law_deep", "_law_lates_here", "_law_names", "_law_is_hot"]) (c_l_taken : Cal P w K mg base 1 "_law_taken" ["_law_row", "_law_many"] (spTaken K S)) (c_l_pick : Cal P w K mg base 2 "_law_pick" ["_law_row", "_law_things"] (spPick K S))
    (c_l_move : Cal P w K mg base 3 "_law_move" ["_law_row", "_law_is_hot"] (spMove K S)) (c_l_is_early : Cal P w K mg base 31 "_law_is_early" ["_law_one"] (spEarly 30)) : ∀ n : Nat, n ≤ 10 → Cal P w K mg base (40 + 2 * n) "_law_expression" ["_law_row", "_law_deep", "_law_lates_here", "_law_names", "_law_is_hot"] (spExpr K S n)
  | 0, _ => (Cal.none dm fun vs H Q E ⟨_, _, _, _, _, _, _, _, h, _⟩ => absurd h (Nat.not_lt_zero _)).mono (by omega)
  | n + 1, hn => by
    have ih := ok_expr T dm dt c_l_taken c_l_pick c_l_move c_l_is_early n (by omega)
    have t := ok_test (k := 40 + 2 * n) (by omega) (by omega) T dt c_l_taken c_l_pick c_l_is_early ih
    exact (step_expr (k := 40 + 2 * n) (by omega) (by omega) T dm c_l_taken c_l_pick c_l_move t ih).mono (by omega)
end
end K04
namespace K04
open PySem PySem.Spec PyProof.Rows L2
/-- a body of the law's programs -/
def BE (N : List (Str × Nat)) (L : Nat) (b : D) : Prop := WE N L 4 b ∨ ∃ c b', b = .tup [.str "if", .tup [.str "below", .int 1], c, b'] ∧ WE N L 1 c ∧ WE N L 4 b'
abbrev Pr := List ((Str × Nat) × D)
def fnD (p : (Str × Nat) × D) : D := .tup [.str p.1.1, .int (p.1.2 : Nat), p.2]
def progD (pr : Pr) : D := .tup (pr.map fnD)
structure NG (N : List (Str × Nat)) : Prop where
  len : N.length ≤ 4
  nod : (N.map (·.1)).Nodup
  nm : ∀ p ∈ N, p.1 ∈ names8
  two : ∀ p ∈ N, p.2 ≤ 2
/-- a program of the law -/
structure PG (pr : Pr) : Prop where
  ng : NG (pr.map (·.1))
  ne : pr ≠ []
  body : ∀ p ∈ pr, BE (pr.map (·.1)) p.1.2 p.2
theorem names8_len {s : Str} (h : s ∈ names8) : s.length ≤ 1000 := by
  have : ∀ s ∈ names8, s.length ≤ 1000 := by decide +kernel
  exact this s h
section
variable {P : Program} {w : World} {K : PySem.W.Frag} {mg : Str → Option Value} {base : Heap} {Ts : List Addr} {Pt : Addr} {S : Addr × List Int}

abbrev n__law_program : List Str := ["_law_row", "_law_is_hot", "_law_names", "_law_found", "_law_turn", "_law_name_here", "_law_one", "_law_many", "_law_body_here", "_law_rest"]
theorem sc_law_program : FnScope n__law_program ["_law_row", "_law_is_hot"] (defScope s__law_program) := ⟨rfl, rfl, rfl, by decide +kernel, rfl, by decide +kernel, by decide +kernel⟩
def spProgram (K : PySem.W.Frag) (S : Addr × List Int) : Sp := fun vs H Q _ => ∃ (r : Addr) (hot : Bool), vs = [.ref r, .bl hot] ∧ Row K S H r ∧ ∀ v pr H', RFr r H H' → Row K S H' r → Td H' v (progD pr) → PG pr → Q v H'
theorem ok_program (T : Txt K mg) (dm : Def K mg "_law_program" s__law_program ["_law_row", "_law_is_hot"]) (c_l_taken : Cal P w K mg base 1 "_law_taken" ["_law_row", "_law_many"] (spTaken K S)) (c_l_name : Cal P w K mg base 3 "_law_name" ["_law_row"] (spName K S))
    (c_l_expression : Cal P w K mg base 50 "_law_expression" ["_law_row", "_law_deep", "_law_lates_here", "_law_names", "_law_is_hot"] (spExpr K S 5)) : Cal P w K mg base 51 "_law_program" ["_law_row", "_law_is_hot"] (spProgram K S) := by
  refine dm.ok sc_law_program (fun vs H Q E h => ?_) (fun f cdv A outer s H vs Q E hr h => ?_)
  · obtain ⟨r, hot, rfl, _⟩ := h
    rfl
  obtain ⟨r, hot, rfl, hw, q⟩ := h
  refine ⟨_, (pss_cons (ps_par (i := 2) (j := 3) rfl sc_law_program.nd rfl rfl (by decide) rfl rfl (pa_cons (pe_lst pa_nil) (pa_cons (pe_lst pa_nil) pa_nil)) (by with_unfolding_all rfl))
      (pss_cons (ps_for PassesOwn.never rfl (pi_range1 rfl T.f_range (pa_cons (pe_op op_add pe_int (pe_cal c_l_taken (hr.mono (by omega)) (pa_cons (pv 0) (pa_cons pe_int pa_nil)))) pa_nil)) (pg_name (i := 4) sc_law_program.nd rfl (Or.inl rfl)) (pss_cons (ps_set (i := 5) sc_law_program.nd rfl (Or.inl rfl) (pe_cal c_l_name (hr.mono (by omega)) (pa_cons (pv 0) pa_nil)))
      (pss_one (ps_if (pt_cmpR op_notIn_seq (pv 5) (pe_lc (own := [("_law_one", 6), ("_law_many", 7)]) (g := (gTup K 2 (gCons (gName 6) (gCons (gName 7) gNil)))) (tt := tYes) rfl sc_law_program.nd (pi_list (pv 2)) (blkOk_by (N := n__law_program) (sc := defScope s__law_program) (by decide +kernel)) (fun _ _ _ _ _ => (pg_tup rfl (pgs_cons (pg_name (i := 6) sc_law_program.nd rfl (Or.inl rfl)) (pgs_cons (pg_name (i := 7) sc_law_program.nd rfl (Or.inl rfl)) pgs_nil)))) (fun _ _ _ _ _ => pts_nil) (fun _ _ _ _ _ => (pv 6))) rfl) (pss_one (ps_expr (pe_bm PySem.F.plainAttrs_list PySem.F.slot_list_append PySem.F.type_list_append mt_append (pv 2) (pa_cons (pe_tup (pa_cons (pv 5) (pa_cons (pe_cal c_l_taken (hr.mono (by omega)) (pa_cons (pv 0) (pa_cons pe_int pa_nil))) pa_nil))) pa_nil)))) pss_nil))))
      (pss_cons (ps_for PassesOwn.never rfl (pi_list (pv 2)) (pg_tup rfl (pgs_cons (pg_name (i := 5) sc_law_program.nd rfl (Or.inl rfl)) (pgs_cons (pg_name (i := 7) sc_law_program.nd rfl (Or.inl rfl)) pgs_nil))) (pss_cons (ps_set (i := 8) sc_law_program.nd rfl (Or.inl rfl) (pe_cal c_l_expression (hr.mono (by omega)) (pa_cons (pv 0) (pa_cons pe_int (pa_cons (pv 7) (pa_cons (pv 2) (pa_cons (pv 1) pa_nil)))))))
      (pss_cons (ps_if (pt_cmpR op_gt (pe_cal c_l_taken (hr.mono (by omega)) (pa_cons (pv 0) (pa_cons pe_int pa_nil))) pe_int (nomark _)) (pss_cons (ps_set (i := 9) sc_law_program.nd rfl (Or.inl rfl) (pe_cal c_l_expression (hr.mono (by omega)) (pa_cons (pv 0) (pa_cons pe_int (pa_cons (pv 7) (pa_cons (pe_lst pa_nil) (pa_cons pe_bl pa_nil)))))))
      (pss_one (ps_set (i := 8) sc_law_program.nd rfl (Or.inl rfl) (pe_tup (pa_cons pe_str (pa_cons (pe_tup (pa_cons pe_str (pa_cons pe_int pa_nil))) (pa_cons (pv 9) (pa_cons (pv 8) pa_nil)))))))) pss_nil)
      (pss_one (ps_expr (pe_bm PySem.F.plainAttrs_list PySem.F.slot_list_append PySem.F.type_list_append mt_append (pv 3) (pa_cons (pe_tup (pa_cons (pv 5) (pa_cons (pv 7) (pa_cons (pv 8) pa_nil)))) pa_nil)))))))
      (pss_one (ps_ret (pe_callTy call_tuple_of (by rfl) T.f_tuple (by decide +kernel) (pa_cons (pv 3) pa_nil))))))), ?_⟩
  refine ⟨(by show 0 ≤ sizeLine; decide), fun pn hpn => ⟨(by show 0 ≤ sizeLine; decide), fun pf hpf => ⟨_, _, rfl, ?_⟩⟩⟩
  have S1 := Same.new hpn (.lst [])
  have S2 := Same.new' S1 hpf (.lst [])
  have nfn : pf ≠ pn := fun z => by rw [z, upd_same] at hpf; cases hpf
  have hpf0 : H pf = none := by rw [upd_ne nfn] at hpf; exact hpf
  have hn0 : upd (upd H pn (.lst [])) pf (.lst []) pn = some (.lst []) := by rw [upd_ne nfn.symm]; exact upd_same
  have hf0 : upd (upd H pn (.lst [])) pf (.lst []) pf = some (.lst []) := upd_same
  have w2 := hw.same S2
  have nr := hw.ne hpn
  have fr := hw.ne hpf0
  refine ⟨_, rfl, r, 4, rfl, w2, by decide, by decide, fun k1 H1 hk1 f1 w1 => ?_⟩
  have fH1 : RFr r H H1 := ((RFr.refl r H).same S2).trans f1
  refine ⟨_, _, rfl, rfl, ((1 + k1 : Nat) : Int), (by show [V.int (1 + (k1 : Nat))] = [V.int ((1 + k1 : Nat) : Int)]; congr 2), by omega, by omega, ?_⟩
  rw [show (((1 + k1 : Nat) : Int)).toNat = 1 + k1 by omega]
  refine for_srv (Srv.rng (P := fun _ => True) (1 + k1)) (fun i σ H' => (∃ o4 o5 o6 o7 o8 o9, σ = [some (.ref r), some (.bl hot), some (.ref pn), some (.ref pf), o4, o5, o6, o7, o8, o9]) ∧ RFr r H H' ∧ Row K S H' r ∧ H' pf = some (.lst []) ∧ ∃ N, Nm H' pn N ∧ NG N ∧ N.length ≤ i ∧ (0 < i → N ≠ [])) (fun _ _ _ _ => True.intro) ?_ ?_ ?_
  · exact ⟨⟨none, none, none, none, none, none, rfl⟩, fH1, w1, f1 _ _ hf0 fr, [], ⟨[], f1 _ _ hn0 nr, .nil⟩, ⟨by decide, List.nodup_nil, (fun _ h => nomatch h), (fun _ h => nomatch h)⟩, Nat.le_refl _, fun h => absurd h (by decide)⟩
  · rintro i x σ H2 hxi ⟨⟨o4, o5, o6, o7, o8, o9, rfl⟩, f2, w2, hf2, N, nm, ng, hNi, hNe⟩
    have hi4 : i < 1 + k1 := by
      have := (List.getElem?_eq_some_iff.mp hxi).1
      simpa using this
    refine ⟨_, rfl, r, rfl, w2, fun s' H3 hs' f3 w3 => ?_⟩
    have nm3 := nm.fr w2 nr f3
    obtain ⟨xs, hx1, hx2⟩ := nm3.ex
    have hxl := hx2.length
    rw [List.length_map] at hxl
    have hf3 := f3 _ _ hf2 fr
    refine ⟨_, rfl, _, rfl, pn, rfl, ⟨_, SqL.of hx1⟩, fun Dl hDl => ?_⟩
    refine lc_srv (Srv.lst (P := fun H' => Same H3 H') fun H' h => SqL.of (h _ _ hx1)) (fun j H' => Same H3 H' ∧ H' Dl = some (.lst ((N.take j).map fun p => V.str p.1))) (fun j H' h => h.1) ⟨Same.new hDl _, upd_same⟩ ?_ ?_
    · rintro j y H4 hyj ⟨S4, hl⟩
      obtain ⟨d, hd1, hd2, hd3⟩ := hx2.get2 hyj
      rw [List.getElem?_map] at hd1
      obtain ⟨⟨nm1, many1⟩, hN1, rfl⟩ := Option.map_eq_some_iff.mp hd1
      obtain ⟨hj, hj2⟩ := List.getElem?_eq_some_iff.mp hN1
      obtain ⟨a, ys, rfl, ha, _, hys⟩ := (hd3.mono (Same.kp S4)).tup_inv
      obtain ⟨y1, ys, rfl, h1, hys⟩ := hys.cons_inv
      obtain ⟨y2, ys, rfl, h2, hys⟩ := hys.cons_inv
      obtain rfl := hys.nil_inv
      obtain ⟨rfl, _⟩ := h1.str_inv
      have hNl := ng.len
      refine ⟨_, _, rfl, SqT.of ha, rfl, _, _, rfl, _, _, rfl, rfl, rfl, yesI ?_⟩
      refine ⟨_, rfl, _, hl, ?_, Same.mut S4 hDl, ?_⟩
      · rw [List.length_map, List.length_take]
        exact szlt (by omega)
      · rw [upd_same, List.take_succ_eq_append_getElem hj, List.map_append, hj2]
        rfl
    · rintro H4 ⟨S4, hl⟩
      rw [hxl, List.take_length] at hl
      have hstr : (N.map fun p => V.str p.1) = (N.map (·.1)).map V.str := by rw [List.map_map]; rfl
      rw [hstr] at hl
      refine ⟨_, _, rfl, .inl (SqL.of hl), rfl, flat_strs _, _, rfl, ?_⟩
      have f4 := (f2.trans f3).same S4
      have w4 := w3.same S4
      have nm4 := nm3.fr w3 nr ((RFr.refl r H3).same S4)
      refine ite2 (fun c => ?_) (fun c => ?_)
      · have hnot : s' ∉ N.map (·.1) := fun z => by
          have c : (!inV (.str s') ((N.map (·.1)).map V.str)) = true := c
          rw [inV_strs, List.contains_iff_mem.mpr z] at c
          cases c
        refine ⟨_, rfl, .inl ⟨rfl, _, SqL.of (S4 _ _ hx1)⟩, _, rfl, _, rfl, r, 3, rfl, w4, by decide, by decide, fun k2 H5 hk2 f5 w5 => ⟨(by show 2 ≤ sizeLine; decide), fun p hp => ?_⟩⟩
        have hx5 := f5 _ _ (S4 _ _ hx1) nr
        have hxt5 := ((hx2.mono (Same.kp S4)).mono (w4.kp f5))
        have S6 := Same.new hp (.tup [.str s', .int (k2 : Nat)])
        have hNl := ng.len
        refine ⟨_, _, _, rfl, rfl, S6 _ _ hx5, szlt (by omega), ?_⟩
        have kp : Kp (upd H5 p (.tup [.str s', .int (k2 : Nat)])) (upd (upd H5 p (.tup [.str s', .int (k2 : Nat)])) pn (.lst (xs ++ [.ref p]))) := fun b us hb => by
          rw [upd_ne (ne_obj hb (S6 _ _ hx5) (fun z => by cases z))]
          exact hb
        have tp : Td (upd (upd H5 p (.tup [.str s', .int (k2 : Nat)])) pn (.lst (xs ++ [.ref p]))) (.ref p) (nmD (s', k2)) := Td.mono kp (.tup upd_same (by show 2 ≤ 1000; decide) (.cons (.str _ (names8_len hs')) (.cons (.int _) .nil)))
        refine ⟨⟨_, _, _, _, _, _, rfl⟩, ((f4.trans f5).same S6).mut hpn, hw.mut (w5.same S6) hpn, ?_, N ++ [(s', k2)], ⟨xs ++ [.ref p], upd_same, ?_⟩, ⟨?_, ?_, ?_, ?_⟩, ?_, fun _ => by simp⟩
        · rw [upd_ne nfn]
          exact S6 _ _ (f5 _ _ (S4 _ _ hf3) fr)
        · rw [List.map_append]
          exact ((hxt5.mono (Same.kp S6)).mono kp).append (.one tp)
        · rw [List.length_append, List.length_singleton]
          omega
        · rw [List.map_append]
          refine List.nodup_append.mpr ⟨ng.nod, by simp, fun a ha b hb => ?_⟩
          have hb : b ∈ [s'] := hb
          rw [List.mem_singleton] at hb
          subst hb
          exact fun z => hnot (by rw [← z]; exact ha)
        · intro p hp
          rcases List.mem_append.mp hp with hp | hp
          · exact ng.nm p hp
          · rw [List.mem_singleton] at hp
            subst hp
            exact hs'
        · intro p hp
          rcases List.mem_append.mp hp with hp | hp
          · exact ng.two p hp
          · rw [List.mem_singleton] at hp
            subst hp
            show k2 ≤ 2
            omega
        · rw [List.length_append, List.length_singleton]
          omega
      · have hne : N ≠ [] := fun z => by
          apply c
          subst z
          rfl
        exact ⟨⟨_, _, _, _, _, _, rfl⟩, f4, w4, S4 _ _ hf3, N, nm4, ng, by omega, fun _ => hne⟩
  · rintro σ H2 ⟨⟨o4, o5, o6, o7, o8, o9, rfl⟩, f2, w2, hf2, N, nm, ng, _, hNe⟩
    have hNe := hNe (by simp; omega)
    obtain ⟨xs, hx1, hx2⟩ := nm.ex
    have hxl := hx2.length
    rw [List.length_map] at hxl
    refine ⟨_, rfl, pn, rfl, ⟨_, SqL.of hx1⟩, for_srv (Srv.lst (P := fun H' => H' pn = some (.lst xs)) fun H' h => SqL.of h) (fun i σ H' => (∃ o4 o5 o6 o7 o8 o9, σ = [some (.ref r), some (.bl hot), some (.ref pn), some (.ref pf), o4, o5, o6, o7, o8, o9]) ∧ H' pn = some (.lst xs) ∧ RFr r H H' ∧ Row K S H' r ∧ Tds H' xs (N.map nmD) ∧
      ∃ (zs : List V) (pr : Pr), H' pf = some (.lst zs) ∧ Tds H' zs (pr.map fnD) ∧ pr.map (·.1) = N.take i ∧ ∀ p ∈ pr, BE N p.1.2 p.2) (fun i σ H' h => h.2.1) ?_ ?_ ?_⟩
    · exact ⟨⟨_, _, _, _, _, _, rfl⟩, hx1, f2, w2, hx2, [], [], hf2, .nil, rfl, (fun _ h => nomatch h)⟩
    · rintro i x σ H3 hxi ⟨⟨o4, o5, o6, o7, o8, o9, rfl⟩, hx3, f3, w3, hxt, zs, pr, hz, hzt, hpr, hbe⟩
      obtain ⟨d, hd1, hd2, hd3⟩ := hxt.get2 hxi
      rw [List.getElem?_map] at hd1
      obtain ⟨⟨nm1, many1⟩, hN1, rfl⟩ := Option.map_eq_some_iff.mp hd1
      obtain ⟨hj, hj2⟩ := List.getElem?_eq_some_iff.mp hN1
      have hmem := List.mem_of_getElem? hN1
      have htwo : many1 ≤ 2 := ng.two _ hmem
      have hNl := ng.len
      obtain ⟨a, ys, rfl, ha, _, hys⟩ := hd3.tup_inv
      obtain ⟨y1, ys, rfl, h1, hys⟩ := hys.cons_inv
      obtain ⟨y2, ys, rfl, h2, hys⟩ := hys.cons_inv
      obtain rfl := hys.nil_inv
      obtain ⟨rfl, hnl⟩ := h1.str_inv
      obtain rfl := h2.int_inv
      refine ⟨_, _, rfl, SqT.of ha, rfl, _, _, rfl, _, _, rfl, rfl, ?_⟩
      have eg : EG K S H3 r pn N many1 := ⟨w3, ⟨xs, hx3, hxt⟩, nr, ng.two, by omega, by omega⟩
      refine ⟨_, rfl, _, rfl, _, rfl, _, rfl, r, pn, 4, many1, N, hot, rfl, eg, by decide, fun v1 b1 H4 f4 w4 t1 e1 => ?_⟩
      have e1 : WE N many1 4 b1 := e1
      -- the function goes on
      have put : ∀ (H5 : Hp) (v : V) (b : D) (o8 o9 : Option V), RFr r H4 H5 → Row K S H5 r → Td H5 v b → BE N many1 b → tDrop (tBM K "list" rAppend (tVar 3) (tCons (tTup (tCons (tVar 5) (tCons (tVar 7) (tCons (tVar 8) tNil)))) tNil))
          { nx := fun σ H' => (∃ o4 o5 o6 o7 o8 o9, σ = [some (.ref r), some (.bl hot), some (.ref pn), some (.ref pf), o4, o5, o6, o7, o8, o9]) ∧ H' pn = some (.lst xs) ∧ RFr r H H' ∧ Row K S H' r ∧ Tds H' xs (N.map nmD) ∧ ∃ (zs : List V) (pr : Pr), H' pf = some (.lst zs) ∧ Tds H' zs (pr.map fnD) ∧ pr.map (·.1) = N.take (i + 1) ∧ ∀ p ∈ pr, BE N p.1.2 p.2, rt := Q }
          [some (.ref r), some (.bl hot), some (.ref pn), some (.ref pf), o4, some (.str nm1), o6, some (.int (many1 : Nat)), some v, o9] H5 := by
        intro H5 v b o8 o9 f5 w5 tv be
        have f45 := f4.trans f5
        have hz5 := f45 _ _ hz fr
        have hzt5 := (hzt.mono (w3.kp f4)).mono (w4.kp f5)
        have hprl : pr.length ≤ 4 := by
          have e := congrArg List.length hpr
          rw [List.length_map, List.length_take] at e
          omega
        have hzl := hzt.length
        rw [List.length_map] at hzl
        refine ⟨_, rfl, .inl ⟨rfl, _, SqL.of hz5⟩, _, rfl, _, rfl, _, rfl, (by show 3 ≤ sizeLine; decide), fun p hp => ?_⟩
        have S6 := Same.new hp (.tup [.str nm1, .int (many1 : Nat), v])
        refine ⟨_, _, _, rfl, rfl, S6 _ _ hz5, szlt (by omega), ?_⟩
        have kp : Kp (upd H5 p (.tup [.str nm1, .int (many1 : Nat), v])) (upd (upd H5 p (.tup [.str nm1, .int (many1 : Nat), v])) pf (.lst (zs ++ [.ref p]))) := fun b us hb => by
          rw [upd_ne (ne_obj hb (S6 _ _ hz5) (fun z => by cases z))]
          exact hb
        have tp : Td (upd (upd H5 p (.tup [.str nm1, .int (many1 : Nat), v])) pf (.lst (zs ++ [.ref p]))) (.ref p) (fnD ((nm1, many1), b)) := Td.mono kp (.tup upd_same (by show 3 ≤ 1000; decide) (.cons (.str _ hnl) (.cons (.int _) (.cons (tv.mono (Same.kp S6)) .nil))))
        refine ⟨⟨_, _, _, _, _, _, rfl⟩, ?_, ((f3.trans f45).same S6).mut hpf0, hw.mut (w5.same S6) hpf0, ((((hxt.mono (w3.kp f4)).mono (w4.kp f5)).mono (Same.kp S6)).mono kp), zs ++ [.ref p], pr ++ [((nm1, many1), b)], upd_same, ?_, ?_, ?_⟩
        · rw [upd_ne nfn.symm]
          exact S6 _ _ (f45 _ _ hx3 nr)
        · rw [List.map_append]
          exact ((hzt5.mono (Same.kp S6)).mono kp).append (.one tp)
        · rw [List.map_append, hpr, List.take_succ_eq_append_getElem hj, hj2]
          rfl
        · intro p hp
          rcases List.mem_append.mp hp with hp | hp
          · exact hbe p hp
          · rw [List.mem_singleton] at hp
            subst hp
            exact be
      refine ⟨_, rfl, r, 5, rfl, w4, by decide, by decide, fun k2 H5 hk2 f5 w5 => ?_⟩
      refine ⟨_, _, rfl, rfl, _, rfl, ?_⟩
      refine ite2 (fun c => ?_) (fun c => ?_)
      · refine ⟨_, rfl, _, rfl, (by show 0 ≤ sizeLine; decide), fun pe hpe => ?_⟩
        have S6 := Same.new hpe (.lst [])
        have w6 := w5.same S6
        have ne := w5.ne hpe
        have eg2 : EG K S (upd H5 pe (.lst [])) r pe [] many1 := ⟨w6, ⟨[], upd_same, .nil⟩, ne, fun _ h => (nomatch h), by decide, by omega⟩
        refine ⟨r, pe, 1, many1, [], false, rfl, eg2, by decide, fun v2 c2 H7 f7 w7 t2 e2 => ?_⟩
        have e2 : WE [] many1 1 c2 := e2
        have f57 : RFr r H4 H7 := (f5.same S6).trans f7
        have t1' := t1.mono (w4.kp f57)
        refine ⟨(by show 2 ≤ sizeLine; decide), fun p1 hp1 => ⟨_, rfl, _, rfl, (by show 4 ≤ sizeLine; decide), fun p2 hp2 => ?_⟩⟩
        have S8 := Same.new hp1 (.tup [.str "below", .int 1])
        have S9 := Same.new' S8 hp2 (.tup [.str "if", .ref p1, v2, v1])
        refine put _ (.ref p2) (.tup [.str "if", .tup [.str "below", .int 1], c2, b1]) none _ (f57.same S9) (w7.same S9) (.tup upd_same (by show 4 ≤ 1000; decide) (.cons (.str _ (by decide)) (.cons (.tup (Same.new hp2 _ _ _ upd_same) (by show 2 ≤ 1000; decide) (.cons (.str _ (by decide)) (.cons (.int _) .nil))) (.cons (t2.mono (Same.kp S9)) (.cons (t1'.mono (Same.kp S9)) .nil))))) (.inr ⟨c2, b1, rfl, e2.sub (fun p hp => absurd hp List.not_mem_nil), e1⟩)
      · exact put _ v1 b1 none _ f5 w5 (t1.mono (w4.kp f5)) (.inl e1)
    · rintro σ H3 ⟨⟨o4, o5, o6, o7, o8, o9, rfl⟩, hx3, f3, w3, hxt, zs, pr, hz, hzt, hpr, hbe⟩
      rw [hxl, List.take_length] at hpr
      have hNl := ng.len
      have hzl := hzt.length
      rw [List.length_map] at hzl
      have hprl : pr.length ≤ 4 := by
        have e := congrArg List.length hpr
        rw [List.length_map] at e
        omega
      refine ⟨_, rfl, _, _, rfl, .inl ⟨SqL.of hz, fun pt hpt => ?_⟩⟩
      have S4 := Same.new hpt (.tup zs)
      refine q _ pr _ (f3.same S4) (w3.same S4) (.tup upd_same (by omega) (hzt.mono (Same.kp S4))) ⟨by rw [hpr]; exact ng, fun z => hNe (by rw [← hpr, z]; rfl), by rw [hpr]; exact hbe⟩
end
end K04
namespace K04
open PySem PySem.Spec PyProof.Rows L2
mutual
/-- what is left of an expression when the early number is known -/
def leftD (e : Int) : D → D
  | .tup [.str _] => .tup [.str "number", .int e]
  | .tup [.str k, x] => .tup [.str k, x]
  | .tup [.str k, x, y] => if (earlyD x && earlyD y) = true then .tup [.str "number", .int (workedM k (argD (leftD e x)).toInt (argD (leftD e y)).toInt)] else .tup [.str k, leftD e x, leftD e y]
  | .tup [.str _, .str nm, mv, .tup as] => .tup [.str "call", .str (ptName nm (movedM (headD mv) (argD mv).toInt e).toNat), .tup (leftDs e as)]
  | .tup [.str _, .tup [.str m, u, z], x, y] => if m = "less" then .tup [.str "if", .tup [.str "less", leftD e u, leftD e z], leftD e x, leftD e y] else if holdsM (.tup [.str m, u, z]) e = true then leftD e x else leftD e y
  | .tup [.str _, t, x, y] => if holdsM t e = true then leftD e x else leftD e y
  | d => d
def leftDs (e : Int) : List D → List D
  | [] => []
  | d :: r => leftD e d :: leftDs e r
end
theorem leftDs_map (e : Int) : ∀ l : List D, leftDs e l = l.map (leftD e)
  | [] => by rw [leftDs]; rfl
  | d :: r => by rw [leftDs, leftDs_map e r]; rfl
theorem left_num (e : Int) (i : Nat) : leftD e (.tup [.str "number", .int i]) = .tup [.str "number", .int i] := by rw [leftD]
theorem left_early (e : Int) : leftD e (.tup [.str "early"]) = .tup [.str "number", .int e] := by rw [leftD]
theorem left_late (e : Int) (i : Nat) : leftD e (.tup [.str "late", .int i]) = .tup [.str "late", .int i] := by rw [leftD]
theorem left_bin (e : Int) (k : Str) (x y : D) : leftD e (.tup [.str k, x, y]) = if (earlyD x && earlyD y) = true then .tup [.str "number", .int (workedM k (argD (leftD e x)).toInt (argD (leftD e y)).toInt)] else .tup [.str k, leftD e x, leftD e y] := by rw [leftD]
theorem left_call (e : Int) (nm : Str) (mv : D) (as : List D) : leftD e (.tup [.str "call", .str nm, mv, .tup as]) = .tup [.str "call", .str (ptName nm (movedM (headD mv) (argD mv).toInt e).toNat), .tup (as.map (leftD e))] := by rw [leftD, leftDs_map]
theorem left_less (e : Int) (u z x y : D) : leftD e (.tup [.str "if", .tup [.str "less", u, z], x, y]) = .tup [.str "if", .tup [.str "less", leftD e u, leftD e z], leftD e x, leftD e y] := by rw [leftD, if_pos rfl]
theorem left_test (e : Int) {t : D} (x y : D) (h : ETest t) : leftD e (.tup [.str "if", t, x, y]) = if holdsM t e = true then leftD e x else leftD e y := by
  cases h with
  | below n => rw [leftD] <;> (intros; simp_all)
  | rest d m hd => rw [leftD, if_neg (by decide)]
end K04
namespace K04
open PySem PySem.Spec PyProof.Rows L2
def numS (k : Nat) : Str := Str.ofString (toString (k : Int))
def most : Nat := 220
theorem pt_nm : ∀ nm ∈ names8, nmOk nm = true := by decide +kernel
theorem pt_num : ∀ k ∈ List.range most, (numOk (numS k) && decide (intText? (numS k) = some (k : Int)) && decide ((numS k).length ≤ 10)) = true := by decide +kernel
theorem pt_two : ∀ nm ∈ names8, ∀ k ∈ List.range most, (decide (Txt.count (ptName nm k) "_" = 1) && (decide (Txt.split (ptName nm k) "_" = [nm, numS k]) && decide ((ptName nm k).length ≤ 20))) = true := by decide +kernel
structure PtOk (nm : Str) (k : Nat) : Prop where
  plain : plainNm (ptName nm k) = true
  split : Txt.split (ptName nm k) "_" = [nm, numS k]
  int : intText? (numS k) = some (k : Int)
  len : (ptName nm k).length ≤ 20
  nlen : (numS k).length ≤ 10
theorem pt_ok {nm : Str} {k : Nat} (hn : nm ∈ names8) (hk : k < most) : PtOk nm k := by
  have hk' := List.mem_range.mpr hk
  have h1 := pt_nm nm hn
  have h2 := pt_num k hk'
  have h3 := pt_two nm hn k hk'
  simp only [Bool.and_eq_true, decide_eq_true_eq] at h2 h3
  refine ⟨?_, h3.2.1, h2.1.2, h3.2.2, h2.2⟩
  unfold plainNm
  rw [h3.2.1, decide_eq_true h3.1]
  show (true && (nmOk nm && numOk (numS k))) = true
  rw [h1, h2.1.1]
  rfl
theorem pt_inj {nm nm' : Str} {k k' : Nat} (h : PtOk nm k) (h' : PtOk nm' k') (e : ptName nm k = ptName nm' k') : nm = nm' ∧ k = k' := by
  have h1 := h.split
  rw [e, h'.split] at h1
  injection h1 with h1 h2
  injection h2 with h2 _
  refine ⟨h1.symm, ?_⟩
  have h3 := h.int
  rw [← h2, h'.int] at h3
  injection h3 with h3
  omega
end K04
namespace K04
open PySem PySem.Spec PyProof.Rows L2
/-- what is left of an early expression is a number -/
theorem left_is_num {N : List (Str × Nat)} {L : Nat} {e : Int} (he : InV e) {n : Nat} {d : D} (w : WE N L n d) : earlyD d = true → ∃ i, leftD e d = .tup [.str "number", .int i] ∧ InV i := by
  induction w with
  | num n i hi =>
    intro _
    refine ⟨i, left_num e i, by omega, ?_⟩
    have : (1000 : Int) ≤ topV := by decide
    omega
  | early n => exact fun _ => ⟨e, left_early e, he⟩
  | late n i hi =>
    intro h
    rw [earlyD] at h
    exact absurd h (by rw [if_pos (by decide)]; exact Bool.false_ne_true)
  | bin n k x y hk _ _ hx hy =>
    intro h
    have h2 : (earlyD x && earlyD y) = true := by
      rw [earlyD, if_neg (by rcases hk with rfl | rfl | rfl <;> decide), if_neg (by rcases hk with rfl | rfl | rfl <;> decide), earlyDs, earlyDs, earlyDs, Bool.and_true] at h
      exact h
    rw [Bool.and_eq_true] at h2
    obtain ⟨i, hi, vi⟩ := hx h2.1
    obtain ⟨j, hj, vj⟩ := hy h2.2
    refine ⟨workedM k i j, ?_, worked_in vi vj⟩
    rw [left_bin, if_pos (by rw [h2.1, h2.2]; rfl), hi, hj]
    rfl
  | ifE n t x y ht _ _ hx hy =>
    intro h
    rw [earlyD, if_neg (by decide), if_neg (by decide), earlyDs, earlyDs, earlyDs, earlyDs, Bool.and_true] at h
    simp only [Bool.and_eq_true] at h
    rw [left_test e x y ht]
    split
    · exact hx h.2.1
    · exact hy h.2.2
  | ifL n u z x y _ _ hez _ _ hu hz hx hy =>
    intro h
    rw [earlyD, if_neg (by decide), if_neg (by decide), earlyDs, earlyD, if_neg (by decide), if_neg (by decide), earlyDs, earlyDs, earlyDs, Bool.and_true, hez, Bool.false_and] at h
    cases h
  | call n nm mv as hm hl he _ ih =>
    intro h
    rw [earlyD] at h
    exact absurd h (by rw [if_pos (by decide)]; exact Bool.false_ne_true)
theorem moved_le {mv : D} (h : EMove mv) {e : Nat} : ∃ k : Nat, movedM (headD mv) (argD mv).toInt e = k ∧ k ≤ e + 5 := by
  cases h with
  | give n hn =>
    refine ⟨n, ?_, by omega⟩
    show movedM "give" (n : Int) e = n
    unfold movedM
    rw [if_pos rfl]
  | move i h1 h2 =>
    have e1 : movedM (headD (.tup [.str "move", .int i])) (argD (.tup [.str "move", .int i])).toInt e = if (e : Int) + i > 0 then (e : Int) + i else 0 := by
      show movedM "move" i e = _
      unfold movedM
      rw [if_neg (by decide)]
    rw [e1]
    by_cases c : (e : Int) + i > 0
    · rw [if_pos c]
      exact ⟨((e : Int) + i).toNat, by omega, by omega⟩
    · rw [if_neg c]
      exact ⟨0, rfl, by omega⟩
/-- a call in what is left -/
def LCall (N : List (Str × Nat)) (e : Nat) (c : D) : Prop := ∃ nm k as, c = .tup [.str "call", .str (ptName nm k), .tup as] ∧ (nm, as.length) ∈ N ∧ k ≤ e + 5
/-- what is left is plain, its calls are known -/
theorem left_plain {N : List (Str × Nat)} {L e : Nat} (hN : ∀ p ∈ N, p.1 ∈ names8) (he : e + 5 < most) {n : Nat} {d : D} (w : WE N L n d) : ∀ m, 2 * n + 1 ≤ m → plainE m (leftD e d) L = true ∧ ∃ cs, callsD m (leftD e d) = some cs ∧ ∀ c ∈ cs, LCall N e c := by
  have heV : InV (e : Int) := ⟨by omega, by have : (300 : Int) ≤ topV := by decide
                                            have : most = 220 := rfl
                                            omega⟩
  have leaf : ∀ (m : Nat) (d : D), 1 ≤ m → partsD d = some [] → ownD d = [] → ∃ cs, callsD m d = some cs ∧ ∀ c ∈ cs, LCall N e c := fun m d hm h1 h2 => by
    obtain ⟨j, rfl⟩ : ∃ j, m = j + 1 := ⟨m - 1, by omega⟩
    refine ⟨[], ?_, fun c hc => nomatch hc⟩
    unfold callsD
    rw [h1, h2]
    rfl
  have numP : ∀ (m : Nat) (i : Int), 1 ≤ m → InV i → plainE m (.tup [.str "number", .int i]) L = true ∧ ∃ cs, callsD m (.tup [.str "number", .int i]) = some cs ∧ ∀ c ∈ cs, LCall N e c := fun m i hm hi => by
    refine ⟨?_, leaf m _ hm rfl rfl⟩
    obtain ⟨j, rfl⟩ : ∃ j, m = j + 1 := ⟨m - 1, by omega⟩
    show (decide (0 ≤ i) && decide (i ≤ 10 ^ 30)) = true
    rw [decide_eq_true hi.1, decide_eq_true (show i ≤ 10 ^ 30 from hi.2)]
    rfl
  have parts : ∀ (m : Nat) (d : D) (ps : List D), partsD d = some ps → (∀ c ∈ ownD d, LCall N e c) → (∀ p ∈ ps, ∃ cs, callsD m p = some cs ∧ ∀ c ∈ cs, LCall N e c) → ∃ cs, callsD (m + 1) d = some cs ∧ ∀ c ∈ cs, LCall N e c := by
    intro m d ps h1 h2 h3
    have key : ∀ ps : List D, (∀ p ∈ ps, ∃ cs, callsD m p = some cs ∧ ∀ c ∈ cs, LCall N e c) → ∃ cs, callsL (callsD m) ps = some cs ∧ ∀ c ∈ cs, LCall N e c := by
      intro ps
      induction ps with
      | nil => exact fun _ => ⟨[], rfl, fun c hc => nomatch hc⟩
      | cons p r ih =>
        intro h
        obtain ⟨a, ha, h4⟩ := h p List.mem_cons_self
        obtain ⟨b, hb, h5⟩ := ih fun q hq => h q (List.mem_cons_of_mem _ hq)
        refine ⟨a ++ b, ?_, fun c hc => (List.mem_append.mp hc).elim (h4 c) (h5 c)⟩
        unfold callsL
        rw [ha, hb]
        rfl
    obtain ⟨cs, hcs, h6⟩ := key ps h3
    refine ⟨ownD d ++ cs, ?_, fun c hc => (List.mem_append.mp hc).elim (h2 c) (h6 c)⟩
    unfold callsD
    rw [h1]
    show (callsL (callsD m) ps).map _ = _
    rw [hcs]
    rfl
  induction w with
  | num n i hi =>
    intro m hm
    rw [left_num]
    exact numP m i (by omega) ⟨by omega, by have : (1000 : Int) ≤ topV := by decide
                                            omega⟩
  | early n =>
    intro m hm
    rw [left_early]
    exact numP m e (by omega) heV
  | late n i hi =>
    intro m hm
    rw [left_late]
    refine ⟨?_, leaf m _ (by omega) rfl rfl⟩
    obtain ⟨j, rfl⟩ : ∃ j, m = j + 1 := ⟨m - 1, by omega⟩
    show (decide ((0 : Int) ≤ (i : Nat)) && decide (((i : Nat) : Int) ≤ L - 1)) = true
    rw [decide_eq_true (by omega), decide_eq_true (by omega)]
    rfl
  | bin n k x y hk wx wy hx hy =>
    intro m hm
    obtain ⟨j, rfl⟩ : ∃ j, m = j + 1 := ⟨m - 1, by omega⟩
    by_cases h2 : (earlyD x && earlyD y) = true
    · obtain ⟨i, hi, vi⟩ := left_is_num heV (.bin n k x y hk wx wy) (by
        rw [earlyD, if_neg (by rcases hk with rfl | rfl | rfl <;> decide), if_neg (by rcases hk with rfl | rfl | rfl <;> decide), earlyDs, earlyDs, earlyDs, Bool.and_true]
        exact h2)
      rw [hi]
      exact numP _ i (by omega) vi
    · rw [left_bin, if_neg h2]
      obtain ⟨p1, c1⟩ := hx j (by omega)
      obtain ⟨p2, c2⟩ := hy j (by omega)
      have hp : partsD (.tup [.str k, leftD e x, leftD e y]) = some [leftD e x, leftD e y] := by rcases hk with rfl | rfl | rfl <;> rfl
      have ho : ownD (.tup [.str k, leftD e x, leftD e y]) = [] := by rcases hk with rfl | rfl | rfl <;> rfl
      refine ⟨?_, parts j _ _ hp (by rw [ho]; exact fun c hc => nomatch hc) fun p hp => ?_⟩
      · have e1 : plainE (j + 1) (.tup [.str k, leftD e x, leftD e y]) L = if pairsS.contains k = true then [leftD e x, leftD e y].all (fun a => plainE j a L) else (decide (k = "call") && (plainNmD (leftD e x) && callArgs (leftD e y) (fun a => plainE j a L))) := rfl
        rw [e1, if_pos (by rcases hk with rfl | rfl | rfl <;> decide)]
        simp only [List.all_cons, List.all_nil, p1, p2, Bool.and_true]
      · rcases List.mem_cons.mp hp with rfl | hp
        · exact c1
        · rw [List.mem_singleton] at hp
          subst hp
          exact c2
  | ifE n t x y ht _ _ hx hy =>
    intro m hm
    rw [left_test e x y ht]
    split
    · exact hx m (by omega)
    · exact hy m (by omega)
  | ifL n u z x y _ _ hez _ _ hu hz hx hy =>
    intro m hm
    obtain ⟨j, rfl⟩ : ∃ j, m = j + 2 + 1 := ⟨m - 3, by omega⟩
    rw [left_less]
    obtain ⟨p1, c1⟩ := hu (j + 1) (by omega)
    obtain ⟨p2, c2⟩ := hz (j + 1) (by omega)
    obtain ⟨p3, c3⟩ := hx (j + 2) (by omega)
    obtain ⟨p4, c4⟩ := hy (j + 2) (by omega)
    refine ⟨?_, parts (j + 2) _ [.tup [.str "less", leftD e u, leftD e z], leftD e x, leftD e y] rfl (fun c hc => nomatch hc) fun p hp => ?_⟩
    · obtain ⟨g, e1, gj, _⟩ := plainE_if (j + 2) "if" (.tup [.str "less", leftD e u, leftD e z]) (leftD e x) (leftD e y) L
      rw [e1, gj j rfl]
      show (true && ((true && [leftD e u, leftD e z].all (fun a => plainE (j + 1) a L)) && [leftD e x, leftD e y].all (fun a => plainE (j + 2) a L))) = true
      simp only [List.all_cons, List.all_nil, p1, p2, p3, p4, Bool.and_true]
    · rcases List.mem_cons.mp hp with rfl | hp
      · refine parts (j + 1) _ [leftD e u, leftD e z] rfl (fun c hc => nomatch hc) fun p hp => ?_
        rcases List.mem_cons.mp hp with rfl | hp
        · exact c1
        · rw [List.mem_singleton] at hp
          subst hp
          exact c2
      · rcases List.mem_cons.mp hp with rfl | hp
        · exact c3
        · rw [List.mem_singleton] at hp
          subst hp
          exact c4
  | call n nm mv as hm2 hl hmv _ ih =>
    intro m hm
    obtain ⟨j, rfl⟩ : ∃ j, m = j + 1 := ⟨m - 1, by omega⟩
    obtain ⟨k, hk, hke⟩ := moved_le (e := e) hmv
    rw [left_call, hk, Int.toNat_natCast]
    have pk := pt_ok (hN _ hm2) (show k < most by omega)
    refine ⟨?_, parts j _ (as.map (leftD e)) rfl (fun c hc => ?_) fun p hp => ?_⟩
    · show (true && (plainNm (ptName nm k) && (decide ((as.map (leftD e)).length ≤ 4) && (as.map (leftD e)).all (fun a => plainE j a L)))) = true
      rw [pk.plain, decide_eq_true (by rw [List.length_map]; omega)]
      have : (as.map (leftD e)).all (fun a => plainE j a L) = true := by
        rw [List.all_eq_true]
        intro p hp
        obtain ⟨a, ha, rfl⟩ := List.mem_map.mp hp
        exact (ih a ha j (by omega)).1
      rw [this]
      rfl
    · have hc : c ∈ [D.tup [.str "call", .str (ptName nm k), .tup (as.map (leftD e))]] := hc
      rw [List.mem_singleton] at hc
      exact ⟨nm, k, as.map (leftD e), hc, by rw [List.length_map]; exact hm2, hke⟩
    · obtain ⟨a, ha, rfl⟩ := List.mem_map.mp hp
      exact (ih a ha j (by omega)).2
/-- how much is left -/
def sN : Nat → Nat
  | 0 => 3
  | n + 1 => 4 + 2 * sN (n - 1) + 2 * sN n
theorem sN_three : ∀ n, 3 ≤ sN n
  | 0 => by
    rw [sN]
    exact Nat.le_refl 3
  | n + 1 => by
    rw [sN]
    omega
theorem sN_four : sN 4 ≤ 400 := by simp [sN]
theorem szs_le {l : List D} {b : Nat} (h : ∀ d ∈ l, d.sz ≤ b) : D.szs l ≤ l.length * b := by
  induction l with
  | nil => exact Nat.zero_le _
  | cons x r ih =>
    rw [D.szs, List.length_cons, Nat.add_mul]
    have := h x List.mem_cons_self
    have := ih fun d hd => h d (List.mem_cons_of_mem _ hd)
    omega
theorem left_sz {N : List (Str × Nat)} {L : Nat} {e : Int} {n : Nat} {d : D} (w : WE N L n d) : (leftD e d).sz ≤ sN n := by
  induction w with
  | num n i hi =>
    rw [left_num]
    exact sN_three n
  | early n =>
    rw [left_early]
    exact sN_three n
  | late n i hi =>
    rw [left_late]
    exact sN_three n
  | bin n k x y hk _ _ hx hy =>
    rw [left_bin, sN]
    split
    · simp only [D.sz, D.szs]
      omega
    · simp only [D.sz, D.szs]
      omega
  | ifE n t x y ht _ _ hx hy =>
    rw [left_test e x y ht, sN]
    split <;> omega
  | ifL n u z x y _ _ hez _ _ hu hz hx hy =>
    rw [left_less, sN]
    simp only [D.sz, D.szs]
    omega
  | call n nm mv as hm hl hmv _ ih =>
    rw [left_call, sN]
    simp only [D.sz, D.szs]
    have h1 := szs_le (l := as.map (leftD e)) (b := sN (n - 1)) fun d hd => by
      obtain ⟨a, ha, rfl⟩ := List.mem_map.mp hd
      exact ih a ha
    rw [List.length_map] at h1
    have h2 : as.length * sN (n - 1) ≤ 2 * sN (n - 1) := Nat.mul_le_mul_right _ hl
    omega
theorem left_tup {N : List (Str × Nat)} {L : Nat} {e : Int} {n : Nat} {d : D} (w : WE N L n d) : ∃ l, leftD e d = .tup l := by
  induction w with
  | num n i hi => exact ⟨_, left_num e i⟩
  | early n => exact ⟨_, left_early e⟩
  | late n i hi => exact ⟨_, left_late e i⟩
  | bin n k x y hk _ _ hx hy =>
    rw [left_bin]
    split <;> exact ⟨_, rfl⟩
  | ifE n t x y ht _ _ hx hy =>
    rw [left_test e x y ht]
    split
    · exact hx
    · exact hy
  | ifL n u z x y _ _ hez _ _ hu hz hx hy => exact ⟨_, left_less e u z x y⟩
  | call n nm mv as hm hl hmv _ ih => exact ⟨_, left_call e nm mv as⟩
theorem left_ck {N : List (Str × Nat)} {L : Nat} {e : Int} {n : Nat} {d : D} (w : WE N L n d) : CK (leftD e d) := by
  have neS : ∀ {a b : Str} {r r' : List D}, a ≠ b → D.str a :: r = .str b :: r' → False := fun h z => by
    injection z with z _
    injection z with z
    exact h z
  have leaf : ∀ (k : Str) (i : Int), k ≠ "call" → k ≠ "if" → CK (.tup [.str k, .int i]) := fun k i h1 h2 => by
    rw [CK]
    refine ⟨fun x r h => (neS h1 h).elim, fun h t r e => (neS h2 e).elim, ?_⟩
    simp only [CKs, CK, and_self]
  induction w with
  | num n i hi =>
    rw [left_num]
    exact leaf _ _ (by decide) (by decide)
  | early n =>
    rw [left_early]
    exact leaf _ _ (by decide) (by decide)
  | late n i hi =>
    rw [left_late]
    exact leaf _ _ (by decide) (by decide)
  | bin n k x y hk _ _ hx hy =>
    rw [left_bin]
    split
    · exact leaf _ _ (by decide) (by decide)
    · rw [CK]
      refine ⟨fun x r h => (neS (by rcases hk with rfl | rfl | rfl <;> decide) h).elim, fun h t r e => (neS (by rcases hk with rfl | rfl | rfl <;> decide) e).elim, ?_⟩
      simp only [CKs, CK]
      exact ⟨True.intro, hx, hy, True.intro⟩
  | ifE n t x y ht _ _ hx hy =>
    rw [left_test e x y ht]
    split
    · exact hx
    · exact hy
  | ifL n u z x y _ _ hez _ _ hu hz hx hy =>
    rw [left_less, CK]
    refine ⟨fun x r h => (neS (by decide) h).elim, fun h t r e => ?_, ?_⟩
    · injection e with _ e
      injection e with e _
      injection e with e
      injection e with e _
      subst e
      decide +kernel
    · simp only [CKs, CK]
      exact ⟨True.intro, ⟨fun x r h => (neS (by decide) h).elim, fun h t r e => (neS (by decide) e).elim, True.intro, hu, hz, True.intro⟩, hx, hy, True.intro⟩
  | call n nm mv as hm hl hmv was ih =>
    rw [left_call, CK]
    refine ⟨fun x r h => ?_, fun h t r e => (neS (by decide) e).elim, ?_⟩
    · injection h with _ h
      injection h with h _
      subst h
      show (0 : Nat) ≤ 8
      omega
    · simp only [CKs, CK]
      have all : ∀ l : List D, (∀ d ∈ l, CK d) → CKs l := by
        intro l
        induction l with
        | nil =>
          intro _
          simp only [CKs]
        | cons d r ih =>
          intro h
          simp only [CKs]
          exact ⟨h d List.mem_cons_self, ih fun x hx => h x (List.mem_cons_of_mem _ hx)⟩
      have hd : ∀ (s : Str) (r : List D), as.map (leftD e) = .str s :: r → False := fun s r h => by
        cases as with
        | nil => cases h
        | cons a r2 =>
          have h : leftD e a :: r2.map (leftD e) = .str s :: r := h
          injection h with h _
          obtain ⟨l, hl⟩ := left_tup (e := e) (was a List.mem_cons_self)
          rw [hl] at h
          cases h
      refine ⟨True.intro, True.intro, ⟨fun x r h => (hd _ _ h).elim, fun h t r e => (hd _ _ e).elim, all _ fun d hd => ?_⟩, True.intro⟩
      obtain ⟨a, ha, rfl⟩ := List.mem_map.mp hd
      exact ih a ha
end K04
namespace K04
open PySem PySem.Spec PyProof.Rows L2
/-! ### points -/
abbrev Ptn := Str × Nat
def ptD (p : Ptn) : D := .tup [.str p.1, .int (p.2 : Nat)]
theorem Tds.perm {H : Hp} {xs ys : List V} (h : ys.Perm xs) : ∀ {pts : List Ptn}, Tds H xs (pts.map ptD) → ∃ pts' : List Ptn, pts'.Perm pts ∧ Tds H ys (pts'.map ptD) := by
  induction h with
  | nil =>
    intro pts h
    cases pts with
    | nil => exact ⟨[], .refl _, .nil⟩
    | cons p r => cases h
  | cons x _ ih =>
    intro pts h
    cases pts with
    | nil => cases h
    | cons p r =>
      obtain ⟨x', xs, e, h1, h2⟩ := Tds.cons_inv (show Tds H _ (ptD p :: r.map ptD) from h)
      injection e with e1 e2
      subst e1 e2
      obtain ⟨q, hq, hp⟩ := ih h2
      exact ⟨p :: q, hq.cons p, .cons h1 hp⟩
  | swap x y l =>
    intro pts h
    match pts, h with
    | p :: q :: r, h =>
      obtain ⟨x', xs, e, h1, h2⟩ := Tds.cons_inv (show Tds H _ (ptD p :: (q :: r).map ptD) from h)
      injection e with e1 e2
      subst e1 e2
      obtain ⟨x', xs, e, h3, h4⟩ := Tds.cons_inv (show Tds H _ (ptD q :: r.map ptD) from h2)
      injection e with e1 e2
      subst e1 e2
      exact ⟨q :: p :: r, .swap p q r, .cons h3 (.cons h1 h4)⟩
    | [p], h =>
      obtain ⟨x', xs, e, h1, h2⟩ := Tds.cons_inv (show Tds H _ (ptD p :: [].map ptD) from h)
      injection e with e1 e2
      subst e2
      cases h2
    | [], h => cases h
  | trans _ _ ih1 ih2 =>
    intro pts h
    obtain ⟨p, hp, h1⟩ := ih2 h
    obtain ⟨q, hq, h2⟩ := ih1 h1
    exact ⟨q, hq.trans hp, h2⟩
def rSortedPt (K : PySem.W.Frag) : List V → Hp → VK → Prop := fun vs H Q => ∃ (a : Addr) (xs : List V) (pts : List Ptn), vs = [V.ref a] ∧ H a = some (.lst xs) ∧ Tds H xs (pts.map ptD) ∧
  ∀ ys p, ys.Perm xs → H p = none → Q (.ref p) (upd H p (.lst ys))
def shp : Nat → Bool := fun i => decide (i = 0)
theorem tups_of {P : Program} {w : World} {H : Hp} {h : Heap} (ok : HOk P w H h) : ∀ {xs : List V} {us : List Value} {pts : List Ptn}, Tds H xs (pts.map ptD) → Vals xs us →
    (∃ fs, TupsOf h shp us fs) ∧ ∀ v ∈ us, (∃ a, v = .ref a) ∧ ∃ l, PyProof.Rows.G.tupKeyC h shp v = some l := by
  intro xs us pts
  induction pts generalizing xs us with
  | nil =>
    intro h1 h2
    obtain rfl := h1.nil_inv
    cases h2
    exact ⟨⟨[], .nil⟩, fun _ h => nomatch h⟩
  | cons p r ih =>
    intro h1 h2
    obtain ⟨x, xs, rfl, ha, hb⟩ := Tds.cons_inv (show Tds H _ (ptD p :: r.map ptD) from h1)
    cases h2 with
    | cons r1 r2 =>
      rename_i u us
      obtain ⟨⟨fs, hfs⟩, hk⟩ := ih hb r2
      obtain ⟨a, ys, rfl, hy, _, hys⟩ := ha.tup_inv
      obtain ⟨y1, ys, rfl, g1, hys⟩ := hys.cons_inv
      obtain ⟨y2, ys, rfl, g2, hys⟩ := hys.cons_inv
      obtain rfl := hys.nil_inv
      obtain ⟨rfl, _⟩ := g1.str_inv
      obtain rfl := g2.int_inv
      obtain rfl : u = Value.ref a := r1
      obtain ⟨_, its, r', o, ho, hc, n, hd⟩ := (show ObjOk P w H h a (.tup [.str p.1, .int (p.2 : Nat)]) from ok a _ hy)
      obtain ⟨u1, u2, rfl, ri, rj⟩ := vals2 r'
      obtain ⟨t1, rfl⟩ := ri
      obtain ⟨t2, rfl⟩ := rj
      refine ⟨⟨Value.str p.1 t1 :: fs, .cons ⟨a, o, _, n, rfl, ho, hc, hd, rfl, fun z => absurd z (by decide), fun _ => ⟨_, _, rfl⟩⟩ hfs⟩, fun v hv => ?_⟩
      rcases List.mem_cons.mp hv with rfl | hv
      · refine ⟨⟨a, rfl⟩, [Sum.inr p.1.cps.toList, Sum.inl (p.2 : Nat)], ?_⟩
        have e1 : PyProof.Rows.G.isTupObj h (.ref a) = true := by
          show (match h.get? a with | some o => _ | none => false) = true
          rw [ho]
          show (match o.cls with | .type n => n == "tuple" | _ => false) = true
          rw [hc]
          rfl
        unfold PyProof.Rows.G.tupKeyC
        rw [if_pos e1]
        show (match h.get? a with | some o => _ | none => none) = _
        rw [ho]
        show (match o.data with | .seq xs _ => _ | _ => none) = _
        rw [hd]
        rfl
      · exact hk v hv
theorem call_sortedPt {X : Cx} : CallR X (.builtin "sorted") (rSortedPt X.K) := by
  intro pins s σ H vs us Q I r h
  obtain ⟨a, xs, pts, rfl, ha, hx, q⟩ := h
  obtain ⟨its, rv, hl, hz⟩ := I.list (SqL.of (K := X.K) ha)
  obtain ⟨u, rfl, ru⟩ := vals1 r
  obtain rfl : u = Value.ref a := ru
  obtain ⟨⟨fs, hfs⟩, hk⟩ := tups_of I.hok hx rv
  have hlen := rv.length
  refine PyProof.Rows.G.sorted_tups hl.isList hfs (fun v hv => (hk v hv).2) (by omega) fun st' hp _ _ => ?_
  have hperm : ((arrOf st').map (·.2)).toList.Perm its := by
    have h1 : (arrOf st').toList.Perm (its.zip its) := by
      rw [← pairsOf_toList]
      exact Array.perm_iff_toList_perm.mp hp
    have h2 := h1.map (·.2)
    have h3 : (its.zip its).map (·.2) = its := by rw [List.map_snd_zip (Nat.le_refl _)]
    rw [h3] at h2
    rw [Array.toList_map]
    exact h2
  obtain ⟨e1, e2⟩ := refs_back rv fun x m => by
    obtain ⟨i, hi⟩ := List.getElem?_of_mem m
    obtain ⟨d, hd1, hd3⟩ := hx.get hi
    rw [List.getElem?_map] at hd1
    obtain ⟨p, _, rfl⟩ := Option.map_eq_some_iff.mp hd1
    obtain ⟨t, _, e, _⟩ := hd3.tup_inv
    exact ⟨t, e⟩
  obtain ⟨n, hn⟩ := sortedAll_at s.heap its ((arrOf st').map (·.2))
  have h3 : ∀ u ∈ ((arrOf st').map (·.2)).toList, ∃ a, u = Value.ref a := fun u hu => e2 u (hperm.mem_iff.mp hu)
  have hb : (((arrOf st').map (·.2)).toList.map backV).Perm xs := by
    rw [e1]
    exact hperm.map backV
  refine ⟨.ref (s.heap.objs.size + 1), upd H (s.heap.objs.size + 1) (.lst (((arrOf st').map (·.2)).toList.map backV)), I.laid (t' := s.toks) (fun b o e => sortedAll_old e) (Nat.le_succ _) ⟨?_, _, n, vals_back h3, ?_⟩, rfl, q _ _ hb (I.hok.fresh (Nat.le_succ _))⟩
  · rw [hb.length_eq]
    exact hz
  · rw [Array.toArray_toList]
    exact hn
end K04
namespace K04
open PySem PySem.Spec PyProof.Rows L2
theorem filt_one {pr : Pr} {p : (Str × Nat) × D} (hnd : ((pr.map (·.1)).map (·.1)).Nodup) (hp : p ∈ pr) : ∃ r, pr.filter (fun z => decide (z.1.1 = p.1.1)) = p :: r := by
  induction pr with
  | nil => nomatch hp
  | cons x r ih =>
    rw [List.map_cons, List.map_cons, List.nodup_cons] at hnd
    rcases List.mem_cons.mp hp with rfl | hp
    · exact ⟨_, List.filter_cons_of_pos (decide_eq_true rfl)⟩
    · have hne : ¬ x.1.1 = p.1.1 := fun z => hnd.1 (by rw [z]; exact List.mem_map_of_mem (List.mem_map_of_mem hp))
      rw [List.filter_cons_of_neg (by rw [decide_eq_false hne]; exact Bool.false_ne_true)]
      exact ih hnd.2 hp
section
variable {P : Program} {w : World} {K : PySem.W.Frag} {mg : Str → Option Value} {base : Heap} {Ts : List Addr} {Pt : Addr} {S : Addr × List Int}

abbrev n__law_left : List Str := ["_law_one", "_law_early", "_law_name_here", "_law_test_here", "_law_first", "_law_second", "_law_part"]
theorem sc_law_left : FnScope n__law_left ["_law_one", "_law_early"] (defScope s__law_left) := ⟨rfl, rfl, rfl, by decide +kernel, rfl, by decide +kernel, by decide +kernel⟩
def spLeft (n : Nat) : Sp := fun vs H Q _ => ∃ (v : V) (d : D) (e m L : Nat) (N : List (Str × Nat)), m < n ∧ vs = [v, .int e] ∧ Td H v d ∧ WE N L m d ∧ (∀ p ∈ N, p.1 ∈ names8) ∧ e + 5 < most ∧ ∀ v' H', Same H H' → Td H' v' (leftD e d) → Q v' H'
theorem step_left {n : Nat} (hn10 : n ≤ 10) (T : Txt K mg) (dm : Def K mg "_law_left" s__law_left ["_law_one", "_law_early"]) (c_l_holds : Cal P w K mg base 1 "_law_holds" ["_law_test_here", "_law_early"] spHolds) (c_l_moved : Cal P w K mg base 1 "_law_moved" ["_law_move_here", "_law_early"] spMoved)
    (c_l_worked : Cal P w K mg base 1 "_law_worked" ["_law_kind", "_law_one", "_law_other"] spWorked) (c_l_is_early : Cal P w K mg base 31 "_law_is_early" ["_law_one"] (spEarly 30)) (c_l_left : Cal P w K mg base (n + 40) "_law_left" ["_law_one", "_law_early"] (spLeft n)) : Cal P w K mg base (n + 40 + 1) "_law_left" ["_law_one", "_law_early"] (spLeft (n + 1)) := by
  refine dm.ok sc_law_left (fun vs H Q E h => ?_) (fun f cdv A outer s H vs Q E hr h => ?_)
  · obtain ⟨v, d, e, m, L, N, _, rfl, _⟩ := h
    rfl
  obtain ⟨v, d, e, m, L, N, hm, rfl, hd, hwe, hN, he, q⟩ := h
  have S0 : Same H H := fun _ _ h => h
  have heV : InV (e : Int) := ⟨by omega, by have : (300 : Int) ≤ topV := by decide
                                            have : most = 220 := rfl
                                            omega⟩
  refine ⟨_, (pss_cons (ps_if (pt_cmpR op_in_seq (pe_ix ix_tup (pv 0) pe_int (fun _ _ => rfl)) (pe_lst (pa_cons pe_str (pa_cons pe_str pa_nil))) rfl) (pss_one (ps_ret (pv 0))) pss_nil)
      (pss_cons (ps_if (pt_cmpR op_eq (pe_ix ix_tup (pv 0) pe_int (fun _ _ => rfl)) pe_str (nomark _)) (pss_one (ps_ret (pe_tup (pa_cons pe_str (pa_cons (pv 1) pa_nil))))) pss_nil)
      (pss_cons (ps_if (PW.pt (pw_and (pt_cmpR op_eq (pe_ix ix_tup (pv 0) pe_int (fun _ _ => rfl)) pe_str (nomark _)) (pw_and1 (pt_cmpR op_ne (pe_ix ix_tup (pe_ix ix_tup (pv 0) pe_int (fun _ _ => rfl)) pe_int (fun _ _ => rfl)) pe_str (nomark _))))) (pss_one (ps_ret (pe_cal c_l_left (hr.mono (by omega)) (pa_cons (pe_ifExp (pt_val (pe_cal c_l_holds (hr.mono (by omega)) (pa_cons (pe_ix ix_tup (pv 0) pe_int (fun _ _ => rfl)) (pa_cons (pv 1) pa_nil)))) (pe_ix ix_tup (pv 0) pe_int (fun _ _ => rfl)) (pe_ix ix_tup (pv 0) pe_int (fun _ _ => rfl))) (pa_cons (pv 1) pa_nil))))) pss_nil)
      (pss_cons (ps_if (pt_cmpR op_eq (pe_ix ix_tup (pv 0) pe_int (fun _ _ => rfl)) pe_str (nomark _)) (pss_cons (ps_set (i := 3) sc_law_left.nd rfl (Or.inl rfl) (pe_tup (pa_cons pe_str (pa_cons (pe_cal c_l_left (hr.mono (by omega)) (pa_cons (pe_ix ix_tup (pe_ix ix_tup (pv 0) pe_int (fun _ _ => rfl)) pe_int (fun _ _ => rfl)) (pa_cons (pv 1) pa_nil))) (pa_cons (pe_cal c_l_left (hr.mono (by omega)) (pa_cons (pe_ix ix_tup (pe_ix ix_tup (pv 0) pe_int (fun _ _ => rfl)) pe_int (fun _ _ => rfl)) (pa_cons (pv 1) pa_nil))) pa_nil)))))
      (pss_one (ps_ret (pe_tup (pa_cons pe_str (pa_cons (pv 3) (pa_cons (pe_cal c_l_left (hr.mono (by omega)) (pa_cons (pe_ix ix_tup (pv 0) pe_int (fun _ _ => rfl)) (pa_cons (pv 1) pa_nil))) (pa_cons (pe_cal c_l_left (hr.mono (by omega)) (pa_cons (pe_ix ix_tup (pv 0) pe_int (fun _ _ => rfl)) (pa_cons (pv 1) pa_nil))) pa_nil)))))))) pss_nil)
      (pss_cons (ps_if (pt_cmpR op_eq (pe_ix ix_tup (pv 0) pe_int (fun _ _ => rfl)) pe_str (nomark _)) (pss_cons (ps_set (i := 2) sc_law_left.nd rfl (Or.inl rfl) (pe_op op_add_str (pe_op op_add_str (pe_ix ix_tup (pv 0) pe_int (fun _ _ => rfl)) pe_str) (pe_callTy call_str_int (by rfl) T.f_str (by decide +kernel) (pa_cons (pe_cal c_l_moved (hr.mono (by omega)) (pa_cons (pe_ix ix_tup (pv 0) pe_int (fun _ _ => rfl)) (pa_cons (pv 1) pa_nil))) pa_nil))))
      (pss_one (ps_ret (pe_tup (pa_cons pe_str (pa_cons (pv 2) (pa_cons (pe_callTy call_tuple_of (by rfl) T.f_tuple (by decide +kernel) (pa_cons (pe_lc (own := [("_law_part", 6)]) (g := (gName 6)) (tt := tYes) rfl sc_law_left.nd (pi_tup (pe_ix ix_tup (pv 0) pe_int (fun _ _ => rfl))) (blkOk_by (N := n__law_left) (sc := defScope s__law_left) (by decide +kernel)) (fun _ _ _ _ _ => (pg_name (i := 6) sc_law_left.nd rfl (Or.inl rfl))) (fun _ _ _ _ _ => pts_nil) (fun _ _ _ _ _ => (pe_cal c_l_left (hr.mono (by omega)) (pa_cons (pv 6) (pa_cons (pv 1) pa_nil))))) pa_nil)) pa_nil))))))) pss_nil)
      (pss_cons (ps_par (i := 4) (j := 5) rfl sc_law_left.nd rfl rfl (by decide) rfl rfl (pa_cons (pe_cal c_l_left (hr.mono (by omega)) (pa_cons (pe_ix ix_tup (pv 0) pe_int (fun _ _ => rfl)) (pa_cons (pv 1) pa_nil))) (pa_cons (pe_cal c_l_left (hr.mono (by omega)) (pa_cons (pe_ix ix_tup (pv 0) pe_int (fun _ _ => rfl)) (pa_cons (pv 1) pa_nil))) pa_nil)) (by with_unfolding_all rfl))
      (pss_cons (ps_if (pt_val (pe_cal c_l_is_early (hr.mono (by omega)) (pa_cons (pv 0) pa_nil))) (pss_one (ps_ret (pe_tup (pa_cons pe_str (pa_cons (pe_cal c_l_worked (hr.mono (by omega)) (pa_cons (pe_ix ix_tup (pv 0) pe_int (fun _ _ => rfl)) (pa_cons (pe_ix ix_tup (pv 4) pe_int (fun _ _ => rfl)) (pa_cons (pe_ix ix_tup (pv 5) pe_int (fun _ _ => rfl)) pa_nil)))) pa_nil))))) pss_nil)
      (pss_one (ps_ret (pe_tup (pa_cons (pe_ix ix_tup (pv 0) pe_int (fun _ _ => rfl)) (pa_cons (pv 4) (pa_cons (pv 5) pa_nil))))))))))))), ?_⟩
  -- the first question
  have first : ∀ (a : Addr) (k : Str) (xs : List V) (b : Bool) (Q' : Bool → Hp → Prop), H a = some (.tup (.str k :: xs)) → [("number" : Str), "late"].contains k = b → (∀ H', Same H H' → Q' b H') →
      tTest (tOp (rIn K false) (tOp (rIxT K) (tVar 0) (tC (.int 0))) (tLst (tCons (tC (.str "number")) (tCons (tC (.str "late")) tNil)))) [some (.ref a), some (.int e), none, none, none, none, none] H Q' := by
    intro a k xs b Q' ha hb hq
    refine ⟨_, rfl, _, _, _, _, rfl, rfl, SqT.of (ha), at0, (by show 2 ≤ sizeLine; decide), fun p1 hp1 => ⟨_, _, rfl, .inl (SqL.of upd_same), rfl, flat_strs [("number" : Str), "late"], _, rfl, ?_⟩⟩
    have e1 : (if false = true then !inV (V.str k) ([("number" : Str), "late"].map V.str) else inV (V.str k) ([("number" : Str), "late"].map V.str)) = b := inV2 k _ hb
    show Q' (if false = true then !inV (V.str k) ([("number" : Str), "late"].map V.str) else inV (V.str k) ([("number" : Str), "late"].map V.str)) _
    rw [e1]
    exact hq _ (Same.new hp1 _)
  cases hwe with
  | num n i hi =>
    obtain ⟨a, xs, rfl, ha, _, hx⟩ := hd.tup_inv
    obtain ⟨x1, xs, rfl, h1, _⟩ := hx.cons_inv
    obtain ⟨rfl, _⟩ := h1.str_inv
    refine first a _ _ true _ ha (by decide) fun H1 S1 => iteT ⟨_, rfl, ?_⟩
    rw [left_num] at q
    exact q _ _ S1 (hd.mono (Same.kp S1))
  | late n i hi =>
    obtain ⟨a, xs, rfl, ha, _, hx⟩ := hd.tup_inv
    obtain ⟨x1, xs, rfl, h1, _⟩ := hx.cons_inv
    obtain ⟨rfl, _⟩ := h1.str_inv
    refine first a _ _ true _ ha (by decide) fun H1 S1 => iteT ⟨_, rfl, ?_⟩
    rw [left_late] at q
    exact q _ _ S1 (hd.mono (Same.kp S1))
  | early n =>
    obtain ⟨a, xs, rfl, ha, _, hx⟩ := hd.tup_inv
    obtain ⟨x1, xs, rfl, h1, _⟩ := hx.cons_inv
    obtain ⟨rfl, _⟩ := h1.str_inv
    refine first a _ _ false _ ha (by decide) fun H1 S1 => iteF ?_
    refine ⟨_, rfl, _, _, _, _, rfl, rfl, SqT.of (S1 _ _ ha), at0, rfl, _, rfl, ?_⟩
    refine iteT ⟨_, rfl, (by show 2 ≤ sizeLine; decide), fun p hp => ?_⟩
    rw [left_early] at q
    exact q _ _ (Same.new' S1 hp _) (.tup upd_same (by show 2 ≤ 1000; decide) (.cons (.str _ (by decide)) (.cons (.int _) .nil)))
  | bin n k x y hk wx wy =>
    have wb : WE N L (n + 1) (.tup [.str k, x, y]) := .bin n k x y hk wx wy
    obtain ⟨a, xs, rfl, ha, _, hx⟩ := hd.tup_inv
    obtain ⟨x1, xs, rfl, h1, hx⟩ := hx.cons_inv
    obtain ⟨x2, xs, rfl, h2, hx⟩ := hx.cons_inv
    obtain ⟨x3, xs, rfl, h3, hx⟩ := hx.cons_inv
    obtain rfl := hx.nil_inv
    obtain ⟨rfl, hkl⟩ := h1.str_inv
    refine first a _ _ false _ ha (by rcases hk with rfl | rfl | rfl <;> decide) fun H1 S1 => iteF ?_
    have ha1 := S1 _ _ ha
    refine ⟨_, rfl, _, _, _, _, rfl, rfl, SqT.of (ha1), at0, rfl, _, rfl, ?_⟩
    rw [show decide (V.str k = V.str "early") = false by rcases hk with rfl | rfl | rfl <;> decide]
    refine iteF ?_
    have eif : decide (V.str k = V.str "if") = false := by rcases hk with rfl | rfl | rfl <;> decide
    have eca : decide (V.str k = V.str "call") = false := by rcases hk with rfl | rfl | rfl <;> decide
    refine ⟨_, rfl, _, _, _, _, rfl, rfl, SqT.of (ha1), at0, rfl, _, rfl, ?_⟩
    rw [eif]
    refine iteF (iteF ?_)
    refine ⟨_, rfl, _, _, _, _, rfl, rfl, SqT.of (ha1), at0, rfl, _, rfl, ?_⟩
    rw [eif]
    refine iteF ?_
    refine ⟨_, rfl, _, _, _, _, rfl, rfl, SqT.of (ha1), at0, rfl, _, rfl, ?_⟩
    rw [eca]
    refine iteF ?_
    refine ⟨_, rfl, _, _, _, _, rfl, rfl, SqT.of (ha1), at1, _, rfl, x2, x, e, n, L, N, by omega, rfl, h2.mono (Same.kp S1), wx, hN, he, fun v1 H2 S2 t1 => ?_⟩
    refine ⟨_, rfl, _, _, _, _, rfl, rfl, SqT.of (S2 _ _ ha1), at2, _, rfl, x3, y, e, n, L, N, by omega, rfl, h3.mono (Same.kp (S1.trans S2)), wy, hN, he, fun v2 H3 S3 t2 => ?_⟩
    have S13 := (S1.trans S2).trans S3
    have t1 := t1.mono (Same.kp S3)
    have ha3 := S13 _ _ ha
    refine ⟨_, _, rfl, ?_⟩
    refine ⟨_, rfl, .ref a, .tup [.str k, x, y], 2 * (n + 1), by omega, rfl, hd.mono (Same.kp S13), wb.hn, fun H4 S4 => ?_⟩
    refine ⟨_, rfl, ?_⟩
    have ee : earlyD (.tup [.str k, x, y]) = (earlyD x && earlyD y) := by
      rw [earlyD, if_neg (by rcases hk with rfl | rfl | rfl <;> decide), if_neg (by rcases hk with rfl | rfl | rfl <;> decide), earlyDs, earlyDs, earlyDs, Bool.and_true]
    have S14 := S13.trans S4
    have ha4 := S4 _ _ ha3
    rw [left_bin] at q
    cases hE : (earlyD x && earlyD y) with
    | true =>
      rw [ee, hE]
      refine iteT ?_
      rw [Bool.and_eq_true] at hE
      obtain ⟨i, hi, vi⟩ := left_is_num heV wx hE.1
      obtain ⟨j, hj, vj⟩ := left_is_num heV wy hE.2
      rw [if_pos (by rw [hE.1, hE.2]; rfl), hi, hj] at q
      rw [hi] at t1
      rw [hj] at t2
      obtain ⟨b1, ys, rfl, hb1, _, hy⟩ := (t1.mono (Same.kp S4)).tup_inv
      obtain ⟨y1, ys, rfl, _, hy⟩ := hy.cons_inv
      obtain ⟨y2, ys, rfl, g2, hy⟩ := hy.cons_inv
      obtain rfl := hy.nil_inv
      obtain rfl := g2.int_inv
      obtain ⟨b2, ys, rfl, hb2, _, hy⟩ := (t2.mono (Same.kp S4)).tup_inv
      obtain ⟨z1, ys, rfl, _, hy⟩ := hy.cons_inv
      obtain ⟨z2, ys, rfl, g3, hy⟩ := hy.cons_inv
      obtain rfl := hy.nil_inv
      obtain rfl := g3.int_inv
      refine ⟨_, rfl, _, _, _, _, rfl, rfl, SqT.of (ha4), at0, _, rfl, _, _, _, _, rfl, rfl, SqT.of (hb1), at1, _, rfl, _, _, _, _, rfl, rfl, SqT.of (hb2), at1, k, i, j, rfl, vi, vj, (by show 2 ≤ sizeLine; decide), fun p hp => ?_⟩
      exact q _ _ (Same.new' S14 hp _) (.tup upd_same (by show 2 ≤ 1000; decide) (.cons (.str _ (by decide)) (.cons (.int _) .nil)))
    | false =>
      rw [ee, hE]
      refine iteF ?_
      rw [if_neg (by rw [hE]; exact Bool.false_ne_true)] at q
      refine ⟨_, rfl, _, _, _, _, rfl, rfl, SqT.of (ha4), at0, _, rfl, _, rfl, (by show 3 ≤ sizeLine; decide), fun p hp => ?_⟩
      have S5 := Same.new hp (.tup [.str k, v1, v2])
      exact q _ _ (S14.trans S5) (.tup upd_same (by show 3 ≤ 1000; decide) (.cons (.str _ hkl) (.cons ((t1.mono (Same.kp S4)).mono (Same.kp S5)) (.cons ((t2.mono (Same.kp S4)).mono (Same.kp S5)) .nil))))
  | ifE n t x y ht wx wy =>
    obtain ⟨a, xs, rfl, ha, _, hx⟩ := hd.tup_inv
    obtain ⟨x1, xs, rfl, h1, hx⟩ := hx.cons_inv
    obtain ⟨x2, xs, rfl, h2, hx⟩ := hx.cons_inv
    obtain ⟨x3, xs, rfl, h3, hx⟩ := hx.cons_inv
    obtain ⟨x4, xs, rfl, h4, hx⟩ := hx.cons_inv
    obtain rfl := hx.nil_inv
    obtain ⟨rfl, _⟩ := h1.str_inv
    refine first a _ _ false _ ha (by decide) fun H1 S1 => iteF ?_
    have ha1 := S1 _ _ ha
    refine ⟨_, rfl, _, _, _, _, rfl, rfl, SqT.of (ha1), at0, rfl, _, rfl, ?_⟩
    refine iteF ?_
    refine ⟨_, rfl, _, _, _, _, rfl, rfl, SqT.of (ha1), at0, rfl, _, rfl, ?_⟩
    refine iteT ?_
    obtain ⟨b, kk, zs, rfl, hb, hkk⟩ : ∃ b kk zs, x2 = .ref b ∧ H b = some (.tup (.str kk :: zs)) ∧ ¬ kk = "less" := by
      cases ht with
      | below n =>
        obtain ⟨b, zs, rfl, hb, _, hz⟩ := h2.tup_inv
        obtain ⟨z1, zs, rfl, g1, _⟩ := hz.cons_inv
        obtain ⟨rfl, _⟩ := g1.str_inv
        exact ⟨b, _, _, rfl, hb, by decide⟩
      | rest n m _ =>
        obtain ⟨b, zs, rfl, hb, _, hz⟩ := h2.tup_inv
        obtain ⟨z1, zs, rfl, g1, _⟩ := hz.cons_inv
        obtain ⟨rfl, _⟩ := g1.str_inv
        exact ⟨b, _, _, rfl, hb, by decide⟩
    refine ⟨_, rfl, _, _, _, _, rfl, rfl, SqT.of (ha1), at1, _, _, _, _, rfl, rfl, SqT.of (S1 _ _ hb), at0, rfl, _, rfl, ?_⟩
    rw [show (!decide (V.str kk = V.str "less")) = true by rw [decide_eq_false (fun z => hkk (by injection z))]; rfl]
    refine iteT ?_
    refine ⟨_, rfl, _, _, _, _, rfl, rfl, SqT.of (ha1), at1, _, rfl, .ref b, t, e, rfl, h2.mono (Same.kp S1), ht, _, rfl, ?_⟩
    rw [left_test e x y ht] at q
    refine ite2 (fun c => ?_) (fun c => ?_)
    · rw [if_pos c] at q
      exact ⟨_, rfl, _, _, _, _, rfl, rfl, SqT.of (ha1), at2, _, rfl, x3, x, e, n, L, N, by omega, rfl, h3.mono (Same.kp S1), wx, hN, he, fun v1 H2 S2 t1 => q _ _ (S1.trans S2) t1⟩
    · rw [if_neg c] at q
      exact ⟨_, rfl, _, _, _, _, rfl, rfl, SqT.of (ha1), at3, _, rfl, x4, y, e, n, L, N, by omega, rfl, h4.mono (Same.kp S1), wy, hN, he, fun v1 H2 S2 t1 => q _ _ (S1.trans S2) t1⟩
  | ifL n u z x y wu wz hez wx wy =>
    obtain ⟨a, xs, rfl, ha, _, hx⟩ := hd.tup_inv
    obtain ⟨x1, xs, rfl, h1, hx⟩ := hx.cons_inv
    obtain ⟨x2, xs, rfl, h2, hx⟩ := hx.cons_inv
    obtain ⟨x3, xs, rfl, h3, hx⟩ := hx.cons_inv
    obtain ⟨x4, xs, rfl, h4, hx⟩ := hx.cons_inv
    obtain rfl := hx.nil_inv
    obtain ⟨rfl, _⟩ := h1.str_inv
    obtain ⟨b, zs, rfl, hb, _, hz⟩ := h2.tup_inv
    obtain ⟨z1, zs, rfl, g1, hz⟩ := hz.cons_inv
    obtain ⟨z2, zs, rfl, g2, hz⟩ := hz.cons_inv
    obtain ⟨z3, zs, rfl, g3, hz⟩ := hz.cons_inv
    obtain rfl := hz.nil_inv
    obtain ⟨rfl, _⟩ := g1.str_inv
    refine first a _ _ false _ ha (by decide) fun H1 S1 => iteF ?_
    have ha1 := S1 _ _ ha
    have hb1 := S1 _ _ hb
    refine ⟨_, rfl, _, _, _, _, rfl, rfl, SqT.of (ha1), at0, rfl, _, rfl, ?_⟩
    refine iteF ?_
    refine ⟨_, rfl, _, _, _, _, rfl, rfl, SqT.of (ha1), at0, rfl, _, rfl, ?_⟩
    refine iteT ?_
    refine ⟨_, rfl, _, _, _, _, rfl, rfl, SqT.of (ha1), at1, _, _, _, _, rfl, rfl, SqT.of (hb1), at0, rfl, _, rfl, ?_⟩
    refine iteF ?_
    refine ⟨_, rfl, _, _, _, _, rfl, rfl, SqT.of (ha1), at0, rfl, _, rfl, ?_⟩
    refine iteT ?_
    rw [left_less] at q
    refine ⟨_, rfl, _, _, _, _, rfl, rfl, SqT.of (ha1), at1, _, _, _, _, rfl, rfl, SqT.of (hb1), at1, _, rfl, z2, u, e, n - 1, L, N, by omega, rfl, g2.mono (Same.kp S1), wu, hN, he, fun v1 H2 S2 t1 => ?_⟩
    refine ⟨_, rfl, _, _, _, _, rfl, rfl, SqT.of (S2 _ _ ha1), at1, _, _, _, _, rfl, rfl, SqT.of (S2 _ _ hb1), at2, _, rfl, z3, z, e, n - 1, L, N, by omega, rfl, g3.mono (Same.kp (S1.trans S2)), wz, hN, he, fun v2 H3 S3 t2 => ⟨(by show 3 ≤ sizeLine; decide), fun p1 hp1 => ?_⟩⟩
    have S4 := Same.new hp1 (.tup [.str "less", v1, v2])
    have S34 := S3.trans S4
    have tt : Td (upd H3 p1 (.tup [.str "less", v1, v2])) (.ref p1) (.tup [.str "less", leftD e u, leftD e z]) := .tup upd_same (by show 3 ≤ 1000; decide) (.cons (.str _ (by decide)) (.cons (t1.mono (Same.kp S34)) (.cons (t2.mono (Same.kp S4)) .nil)))
    have S14 := ((S1.trans S2).trans S3).trans S4
    have ha4 := S14 _ _ ha
    refine ⟨_, rfl, _, rfl, _, _, _, _, rfl, rfl, SqT.of (ha4), at2, _, rfl, x3, x, e, n, L, N, by omega, rfl, h3.mono (Same.kp S14), wx, hN, he, fun v3 H5 S5 t3 => ?_⟩
    refine ⟨_, rfl, _, _, _, _, rfl, rfl, SqT.of (S5 _ _ ha4), at3, _, rfl, x4, y, e, n, L, N, by omega, rfl, h4.mono (Same.kp (S14.trans S5)), wy, hN, he, fun v4 H6 S6 t4 => ⟨(by show 4 ≤ sizeLine; decide), fun p2 hp2 => ?_⟩⟩
    have S7 := Same.new hp2 (.tup [.str "if", .ref p1, v3, v4])
    exact q _ _ (((S14.trans S5).trans S6).trans S7) (.tup upd_same (by show 4 ≤ 1000; decide) (.cons (.str _ (by decide)) (.cons (tt.mono (Same.kp ((S5.trans S6).trans S7))) (.cons (t3.mono (Same.kp (S6.trans S7))) (.cons (t4.mono (Same.kp S7)) .nil)))))
  | call n nm mv as hm2 hl hmv was =>
    obtain ⟨a, xs, rfl, ha, _, hx⟩ := hd.tup_inv
    obtain ⟨x1, xs, rfl, h1, hx⟩ := hx.cons_inv
    obtain ⟨x2, xs, rfl, h2, hx⟩ := hx.cons_inv
    obtain ⟨x3, xs, rfl, h3, hx⟩ := hx.cons_inv
    obtain ⟨x4, xs, rfl, h4, hx⟩ := hx.cons_inv
    obtain rfl := hx.nil_inv
    obtain ⟨rfl, _⟩ := h1.str_inv
    obtain ⟨rfl, hnl⟩ := h2.str_inv
    obtain ⟨b, zs, rfl, hb, hbl, hz⟩ := h4.tup_inv
    have hzl := hz.length
    refine first a _ _ false _ ha (by decide) fun H1 S1 => iteF ?_
    have ha1 := S1 _ _ ha
    have hb1 := S1 _ _ hb
    refine ⟨_, rfl, _, _, _, _, rfl, rfl, SqT.of (ha1), at0, rfl, _, rfl, ?_⟩
    refine iteF ?_
    refine ⟨_, rfl, _, _, _, _, rfl, rfl, SqT.of (ha1), at0, rfl, _, rfl, ?_⟩
    refine iteF (iteF ?_)
    refine ⟨_, rfl, _, _, _, _, rfl, rfl, SqT.of (ha1), at0, rfl, _, rfl, ?_⟩
    refine iteF ?_
    refine ⟨_, rfl, _, _, _, _, rfl, rfl, SqT.of (ha1), at0, rfl, _, rfl, ?_⟩
    refine iteT ?_
    obtain ⟨k, hk, hke⟩ := moved_le (e := e) hmv
    have pk := pt_ok (hN _ hm2) (show k < most by omega)
    rw [left_call, hk, Int.toNat_natCast] at q
    obtain ⟨km, im, hmvf⟩ : ∃ km im, mv = .tup [.str km, .int im] := by
      cases hmv with
      | give n _ => exact ⟨_, _, rfl⟩
      | move i _ _ => exact ⟨_, _, rfl⟩
    subst hmvf
    have hk : movedM km im e = k := hk
    have hlen := pk.len
    have hus : ("_" : Str).length = 1 := by decide
    have hnl8 : nm.length ≤ 1000 := hnl
    have hkl := pk.nlen
    refine ⟨_, rfl, _, _, _, _, rfl, rfl, SqT.of (ha1), at1, _, _, rfl, rfl, sz100 (by rw [hus]; omega), _, rfl, _, _, _, _, rfl, rfl, SqT.of (ha1), at2, _, rfl, x3, km, im, e, rfl, h3.mono (Same.kp S1), (k : Int), (by rw [hk]), ?_, _, _, rfl, rfl, sz100 ?_, _, rfl, _, rfl, _, _, _, _, rfl, rfl, SqT.of (ha1), at3, b, rfl, ⟨_, SqT.of hb1⟩, fun Dl hDl => ?_⟩
    · exact log_small (by have : most = 220 := rfl
                          omega)
    · have happ : (nm ++ ("_" : Str)).length = nm.length + 1 := by
        show (nm.cps ++ ("_" : Str).cps).size = _
        rw [Array.size_append]
        rfl
      rw [happ]
      have : (numS k).length ≤ 10 := hkl
      show nm.length + 1 + (numS k).length ≤ 1000000
      omega
    refine lc_srv (Srv.tup (P := fun H' => Same H1 H') fun H' h => SqT.of (h _ _ hb1)) (fun i H' => Same H1 H' ∧ ∃ ws, H' Dl = some (.lst ws) ∧ Tds H' ws ((as.take i).map (leftD e))) (fun i H' h => h.1) ⟨Same.new hDl _, [], upd_same, .nil⟩ ?_ ?_
    · rintro i y H2 hyi ⟨S2, ws, hw, hws⟩
      obtain ⟨d, hd1, hd2, hd3⟩ := hz.get2 hyi
      obtain ⟨hi, hd4⟩ := List.getElem?_eq_some_iff.mp hd1
      have hwl := hws.length
      refine ⟨rfl, yesI ?_⟩
      refine ⟨_, rfl, _, rfl, y, d, e, n - 1, L, N, by omega, rfl, hd3.mono (Same.kp (S1.trans S2)), was d hd2, hN, he, fun v1 H3 S3 t1 => ?_⟩
      have kp : Kp H3 (upd H3 Dl (.lst (ws ++ [v1]))) := fun c us hc => by
        rw [upd_ne (ne_obj hc (S3 _ _ hw) (fun z => by cases z))]
        exact hc
      refine ⟨ws, S3 _ _ hw, ?_, Same.mut (S2.trans S3) hDl, ws ++ [v1], upd_same, ?_⟩
      · rw [hwl, List.length_map, List.length_take]
        exact szlt (by omega)
      · rw [List.take_succ_eq_append_getElem hi, List.map_append, hd4]
        exact ((hws.mono (Same.kp S3)).mono kp).append (.one (t1.mono kp))
    · rintro H2 ⟨S2, ws, hw, hws⟩
      rw [hzl, List.take_length] at hws
      have hwl := hws.length
      rw [List.length_map] at hwl
      refine ⟨_, _, rfl, .inl ⟨SqL.of hw, fun pt hpt => ⟨(by show 3 ≤ sizeLine; decide), fun p6 hp6 => ?_⟩⟩⟩
      have S3 := Same.new hpt (.tup ws)
      have S4 := Same.new' S3 hp6 (.tup [.str "call", .str (ptName nm k), .ref pt])
      exact q _ _ ((S1.trans S2).trans S4) (.tup upd_same (by show 3 ≤ 1000; decide) (.cons (.str _ (by decide)) (.cons (.str _ (Nat.le_trans hlen (by decide))) (.cons (.tup (Same.new hp6 _ _ _ upd_same) (by omega) (hws.mono (Same.kp S4))) .nil))))
theorem ok_left (T : Txt K mg) (dm : Def K mg "_law_left" s__law_left ["_law_one", "_law_early"]) (c_l_holds : Cal P w K mg base 1 "_law_holds" ["_law_test_here", "_law_early"] spHolds) (c_l_moved : Cal P w K mg base 1 "_law_moved" ["_law_move_here", "_law_early"] spMoved)
    (c_l_worked : Cal P w K mg base 1 "_law_worked" ["_law_kind", "_law_one", "_law_other"] spWorked) (c_l_is_early : Cal P w K mg base 31 "_law_is_early" ["_law_one"] (spEarly 30)) : ∀ n : Nat, n ≤ 10 → Cal P w K mg base (n + 40) "_law_left" ["_law_one", "_law_early"] (spLeft n)
  | 0, _ => (Cal.none dm fun vs H Q E ⟨_, _, _, m, _, _, h, _⟩ => absurd h (Nat.not_lt_zero m)).mono (by omega)
  | n + 1, hn => (step_left (by omega) T dm c_l_holds c_l_moved c_l_worked c_l_is_early (ok_left T dm c_l_holds c_l_moved c_l_worked c_l_is_early n (by omega))).mono (by omega)

abbrev n__law_body : List Str := ["_law_program_here", "_law_name_here", "_law_one", "_law_many", "_law_body_here"]
theorem sc_law_body : FnScope n__law_body ["_law_program_here", "_law_name_here"] (defScope s__law_body) := ⟨rfl, rfl, rfl, by decide +kernel, rfl, by decide +kernel, by decide +kernel⟩
def spBody : Sp := fun vs H Q _ => ∃ (v : V) (pr : Pr) (p : (Str × Nat) × D), vs = [v, .str p.1.1] ∧ Td H v (progD pr) ∧ p ∈ pr ∧ ((pr.map (·.1)).map (·.1)).Nodup ∧ ∀ v' H', Same H H' → Td H' v' p.2 → Q v' H'
theorem ok_body (T : Txt K mg) (dm : Def K mg "_law_body" s__law_body ["_law_program_here", "_law_name_here"]) : Cal P w K mg base 1 "_law_body" ["_law_program_here", "_law_name_here"] spBody := by
  refine dm.ok sc_law_body (fun vs H Q E h => ?_) (fun f cdv A outer s H vs Q E hr h => ?_)
  · obtain ⟨v, pr, p, rfl, _⟩ := h
    rfl
  obtain ⟨v, pr, p, rfl, hd, hp, hnd, q⟩ := h
  refine ⟨_, (pss_one (ps_ret (pe_ix ix_list (pe_lc (own := [("_law_one", 2), ("_law_many", 3), ("_law_body_here", 4)]) (g := (gTup K 3 (gCons (gName 2) (gCons (gName 3) (gCons (gName 4) gNil)))))  rfl sc_law_body.nd (pi_tup (pv 0)) (blkOk_by (N := n__law_body) (sc := defScope s__law_body) (by decide +kernel)) (fun _ _ _ _ _ => (pg_tup rfl (pgs_cons (pg_name (i := 2) sc_law_body.nd rfl (Or.inl rfl)) (pgs_cons (pg_name (i := 3) sc_law_body.nd rfl (Or.inl rfl)) (pgs_cons (pg_name (i := 4) sc_law_body.nd rfl (Or.inl rfl)) pgs_nil))))) (fun _ _ _ _ _ => pts_one (pt_cmpR op_eq (pv 2) (pv 1) (nomark _))) (fun _ _ _ _ _ => (pv 4))) pe_int (fun _ _ => rfl)))), ?_⟩
  obtain ⟨a, xs, rfl, ha, hal, hx⟩ := hd.tup_inv
  have hxl := hx.length
  rw [List.length_map] at hxl
  refine ⟨_, rfl, a, rfl, ⟨_, SqT.of ha⟩, fun Dl hDl => ?_⟩
  refine lc_srv (Srv.tup (P := fun H' => Same H H') fun H' h => SqT.of (h _ _ ha)) (fun i H' => Same H H' ∧ ∃ ws, H' Dl = some (.lst ws) ∧ ws.length ≤ i ∧ Tds H' ws (((pr.take i).filter fun z => decide (z.1.1 = p.1.1)).map (·.2))) (fun i H' h => h.1) ⟨Same.new hDl _, [], upd_same, Nat.le_refl _, .nil⟩ ?_ ?_
  · rintro i y H2 hyi ⟨S2, ws, hw, hwl, hws⟩
    obtain ⟨d, hd1, hd2, hd3⟩ := hx.get2 hyi
    rw [List.getElem?_map] at hd1
    obtain ⟨z, hz, rfl⟩ := Option.map_eq_some_iff.mp hd1
    obtain ⟨hi, hz2⟩ := List.getElem?_eq_some_iff.mp hz
    obtain ⟨b, ys, rfl, hb, _, hy⟩ := (hd3.mono (Same.kp S2)).tup_inv
    obtain ⟨y1, ys, rfl, g1, hy⟩ := hy.cons_inv
    obtain ⟨y2, ys, rfl, g2, hy⟩ := hy.cons_inv
    obtain ⟨y3, ys, rfl, g3, hy⟩ := hy.cons_inv
    obtain rfl := hy.nil_inv
    obtain ⟨rfl, _⟩ := g1.str_inv
    refine ⟨_, _, rfl, SqT.of hb, rfl, _, _, rfl, _, _, rfl, _, _, rfl, rfl, rfl, ?_⟩
    refine ⟨_, rfl, _, rfl, rfl, _, rfl, ?_⟩
    have hf : (pr.take (i + 1)).filter (fun z => decide (z.1.1 = p.1.1)) = (pr.take i).filter (fun z => decide (z.1.1 = p.1.1)) ++ if z.1.1 = p.1.1 then [z] else [] := by
      rw [List.take_succ_eq_append_getElem hi, List.filter_append, hz2]
      congr 1
      by_cases c : z.1.1 = p.1.1
      · rw [if_pos c, List.filter_cons_of_pos (by rw [decide_eq_true c])]
        rfl
      · rw [if_neg c, List.filter_cons_of_neg (by rw [decide_eq_false c]; exact Bool.false_ne_true)]
        rfl
    have hdec : decide (V.str z.1.1 = V.str p.1.1) = decide (z.1.1 = p.1.1) := decide_eq_decide.mpr ⟨fun h => by injection h, fun h => by rw [h]⟩
    rw [hdec, hf]
    by_cases c : z.1.1 = p.1.1
    · rw [decide_eq_true c, if_pos c]
      have kp : Kp H2 (upd H2 Dl (.lst (ws ++ [y3]))) := fun c us hc => by
        rw [upd_ne (ne_obj hc hw (fun z => by cases z))]
        exact hc
      refine iteT ⟨_, rfl, ws, hw, szlt (by omega), Same.mut S2 hDl, ws ++ [y3], upd_same, by rw [List.length_append, List.length_singleton]; omega, ?_⟩
      rw [List.map_append]
      exact (hws.mono kp).append (.one (g3.mono kp))
    · rw [decide_eq_false c, if_neg c, List.append_nil]
      exact iteF ⟨S2, ws, hw, by omega, hws⟩
  · rintro H2 ⟨S2, ws, hw, _, hws⟩
    rw [hxl, List.take_length] at hws
    obtain ⟨r, hr⟩ := filt_one hnd hp
    rw [hr] at hws
    obtain ⟨y, ys, rfl, hy, _⟩ := hws.cons_inv
    exact ⟨_, _, _, _, rfl, rfl, SqL.of hw, at0, q _ _ S2 hy⟩

abbrev n__law_lates : List Str := ["_law_program_here", "_law_name_here", "_law_one", "_law_many", "_law_body_here"]
theorem sc_law_lates : FnScope n__law_lates ["_law_program_here", "_law_name_here"] (defScope s__law_lates) := ⟨rfl, rfl, rfl, by decide +kernel, rfl, by decide +kernel, by decide +kernel⟩
def spLLates : Sp := fun vs H Q _ => ∃ (v : V) (pr : Pr) (p : (Str × Nat) × D), vs = [v, .str p.1.1] ∧ Td H v (progD pr) ∧ p ∈ pr ∧ ((pr.map (·.1)).map (·.1)).Nodup ∧ ∀ H', Same H H' → Q (.int (p.1.2 : Nat)) H'
theorem ok_llates (T : Txt K mg) (dm : Def K mg "_law_lates" s__law_lates ["_law_program_here", "_law_name_here"]) : Cal P w K mg base 1 "_law_lates" ["_law_program_here", "_law_name_here"] spLLates := by
  refine dm.ok sc_law_lates (fun vs H Q E h => ?_) (fun f cdv A outer s H vs Q E hr h => ?_)
  · obtain ⟨v, pr, p, rfl, _⟩ := h
    rfl
  obtain ⟨v, pr, p, rfl, hd, hp, hnd, q⟩ := h
  refine ⟨_, (pss_one (ps_ret (pe_ix ix_list (pe_lc (own := [("_law_one", 2), ("_law_many", 3), ("_law_body_here", 4)]) (g := (gTup K 3 (gCons (gName 2) (gCons (gName 3) (gCons (gName 4) gNil)))))  rfl sc_law_lates.nd (pi_tup (pv 0)) (blkOk_by (N := n__law_lates) (sc := defScope s__law_lates) (by decide +kernel)) (fun _ _ _ _ _ => (pg_tup rfl (pgs_cons (pg_name (i := 2) sc_law_lates.nd rfl (Or.inl rfl)) (pgs_cons (pg_name (i := 3) sc_law_lates.nd rfl (Or.inl rfl)) (pgs_cons (pg_name (i := 4) sc_law_lates.nd rfl (Or.inl rfl)) pgs_nil))))) (fun _ _ _ _ _ => pts_one (pt_cmpR op_eq (pv 2) (pv 1) (nomark _))) (fun _ _ _ _ _ => (pv 3))) pe_int (fun _ _ => rfl)))), ?_⟩
  obtain ⟨a, xs, rfl, ha, hal, hx⟩ := hd.tup_inv
  have hxl := hx.length
  rw [List.length_map] at hxl
  refine ⟨_, rfl, a, rfl, ⟨_, SqT.of ha⟩, fun Dl hDl => ?_⟩
  refine lc_srv (Srv.tup (P := fun H' => Same H H') fun H' h => SqT.of (h _ _ ha)) (fun i H' => Same H H' ∧ ∃ ws, H' Dl = some (.lst ws) ∧ ws.length ≤ i ∧ ws = (((pr.take i).filter fun z => decide (z.1.1 = p.1.1)).map fun z => V.int (z.1.2 : Nat))) (fun i H' h => h.1) ⟨Same.new hDl _, [], upd_same, Nat.le_refl _, rfl⟩ ?_ ?_
  · rintro i y H2 hyi ⟨S2, ws, hw, hwl, hws⟩
    obtain ⟨d, hd1, hd2, hd3⟩ := hx.get2 hyi
    rw [List.getElem?_map] at hd1
    obtain ⟨z, hz, rfl⟩ := Option.map_eq_some_iff.mp hd1
    obtain ⟨hi, hz2⟩ := List.getElem?_eq_some_iff.mp hz
    obtain ⟨b, ys, rfl, hb, _, hy⟩ := (hd3.mono (Same.kp S2)).tup_inv
    obtain ⟨y1, ys, rfl, g1, hy⟩ := hy.cons_inv
    obtain ⟨y2, ys, rfl, g2, hy⟩ := hy.cons_inv
    obtain ⟨y3, ys, rfl, g3, hy⟩ := hy.cons_inv
    obtain rfl := hy.nil_inv
    obtain ⟨rfl, _⟩ := g1.str_inv
    obtain rfl := g2.int_inv
    refine ⟨_, _, rfl, SqT.of hb, rfl, _, _, rfl, _, _, rfl, _, _, rfl, rfl, rfl, ?_⟩
    refine ⟨_, rfl, _, rfl, rfl, _, rfl, ?_⟩
    have hf : (pr.take (i + 1)).filter (fun z => decide (z.1.1 = p.1.1)) = (pr.take i).filter (fun z => decide (z.1.1 = p.1.1)) ++ if z.1.1 = p.1.1 then [z] else [] := by
      rw [List.take_succ_eq_append_getElem hi, List.filter_append, hz2]
      congr 1
      by_cases c : z.1.1 = p.1.1
      · rw [if_pos c, List.filter_cons_of_pos (by rw [decide_eq_true c])]
        rfl
      · rw [if_neg c, List.filter_cons_of_neg (by rw [decide_eq_false c]; exact Bool.false_ne_true)]
        rfl
    have hdec : decide (V.str z.1.1 = V.str p.1.1) = decide (z.1.1 = p.1.1) := decide_eq_decide.mpr ⟨fun h => by injection h, fun h => by rw [h]⟩
    rw [hdec, hf]
    by_cases c : z.1.1 = p.1.1
    · rw [decide_eq_true c, if_pos c]
      refine iteT ⟨_, rfl, ws, hw, szlt (by omega), Same.mut S2 hDl, ws ++ [.int (z.1.2 : Nat)], upd_same, by rw [List.length_append, List.length_singleton]; omega, ?_⟩
      rw [List.map_append, hws]
      rfl
    · rw [decide_eq_false c, if_neg c, List.append_nil]
      exact iteF ⟨S2, ws, hw, by omega, hws⟩
  · rintro H2 ⟨S2, ws, hw, _, hws⟩
    rw [hxl, List.take_length] at hws
    obtain ⟨r, hr⟩ := filt_one hnd hp
    rw [hr] at hws
    subst hws
    exact ⟨_, _, _, _, rfl, rfl, SqL.of hw, at0, q _ S2⟩
end
end K04
namespace K04
open PySem PySem.Spec PyProof.Rows L2
theorem WE.mono {N : List (Str × Nat)} {L n m : Nat} {d : D} (w : WE N L n d) (h : n ≤ m) : WE N L m d := by
  induction w generalizing m with
  | num n i hi => exact .num m i hi
  | early n => exact .early m
  | late n i hi => exact .late m i hi
  | bin n k x y hk _ _ hx hy =>
    obtain ⟨j, rfl⟩ : ∃ j, m = j + 1 := ⟨m - 1, by omega⟩
    exact .bin j k x y hk (hx (by omega)) (hy (by omega))
  | ifE n t x y ht _ _ hx hy =>
    obtain ⟨j, rfl⟩ : ∃ j, m = j + 1 := ⟨m - 1, by omega⟩
    exact .ifE j t x y ht (hx (by omega)) (hy (by omega))
  | ifL n u z x y _ _ he _ _ hu hz hx hy =>
    obtain ⟨j, rfl⟩ : ∃ j, m = j + 1 := ⟨m - 1, by omega⟩
    exact .ifL j u z x y (hu (by omega)) (hz (by omega)) he (hx (by omega)) (hy (by omega))
  | call n nm mv as hm hl hmv _ ih =>
    obtain ⟨j, rfl⟩ : ∃ j, m = j + 1 := ⟨m - 1, by omega⟩
    exact .call j nm mv as hm hl hmv fun a ha => ih a ha (by omega)
theorem BE.we {N : List (Str × Nat)} {L : Nat} {b : D} (h : BE N L b) : WE N L 5 b := by
  rcases h with h | ⟨c, b', rfl, hc, hb⟩
  · exact h.mono (by decide)
  · exact .ifE 4 _ _ _ (.below 1) (hc.mono (by decide)) hb
theorem BE.sz {N : List (Str × Nat)} {L : Nat} {b : D} (h : BE N L b) (e : Int) : (leftD e b).sz ≤ 400 := by
  have h4 := sN_four
  rcases h with h | ⟨c, b', rfl, hc, hb⟩
  · have := left_sz (e := e) h
    omega
  · rw [left_test e _ _ (.below 1)]
    have h1 := left_sz (e := e) (hc.mono (show 1 ≤ 4 by decide))
    have h2 := left_sz (e := e) hb
    split <;> omega
theorem eqv_pt (a b : Ptn) : PyData.eqv (ptD a).pd (ptD b).pd = decide (a = b) := by
  obtain ⟨s, k⟩ := a
  obtain ⟨s', k'⟩ := b
  have e : PyData.eqv (ptD (s, k)).pd (ptD (s', k')).pd = ((s == s') && (((k : Nat) : Int) == ((k' : Nat) : Int))) := by
    show PyData.eqv (.tuple [.str s, .int (k : Nat)]) (.tuple [.str s', .int (k' : Nat)]) = _
    simp only [PyData.eqv, PyData.eqvAll, Bool.and_true]
  rw [e]
  by_cases c : s = s'
  · subst c
    rw [beq_self_eq_true, Bool.true_and]
    by_cases c2 : k = k'
    · subst c2
      rw [beq_self_eq_true]
      exact (decide_eq_true rfl).symm
    · rw [beq_eq_false_iff_ne.mpr (fun z => c2 (by omega))]
      exact (decide_eq_false fun z => c2 (by injection z)).symm
  · rw [beq_eq_false_iff_ne.mpr c, Bool.false_and]
    exact (decide_eq_false fun z => c (by injection z)).symm
theorem any_pt (q : Ptn) : ∀ pts : List Ptn, ((D.pds (pts.map ptD)).any fun z => PyData.eqv z (ptD q).pd) = decide (q ∈ pts)
  | [] => (decide_eq_false (fun h => nomatch h)).symm
  | p :: r => by
    show (PyData.eqv (ptD p).pd (ptD q).pd || (D.pds (r.map ptD)).any _) = _
    rw [eqv_pt, any_pt q r]
    by_cases c : p = q
    · rw [decide_eq_true c, Bool.true_or]
      exact (decide_eq_true (by rw [c]; exact List.mem_cons_self)).symm
    · rw [decide_eq_false c, Bool.false_or]
      exact decide_eq_decide.mpr ⟨fun h => List.mem_cons_of_mem _ h, fun h => (List.mem_cons.mp h).resolve_left (fun z => c z.symm)⟩
theorem names_ok : ∀ s ∈ names8, PyData.strOk s = true := by decide +kernel
theorem shaped_pt {q : Ptn} (h : q.1 ∈ names8) : SeqAt.shaped (ptD q).pd = true := by
  obtain ⟨s, k⟩ := q
  show SeqAt.shaped (.tuple [.str s, .int (k : Nat)]) = true
  unfold SeqAt.shaped
  simp only [PyData.canLay0, PyData.canLayAll0, names_ok s h, PyData.depth, PyData.depthAll]
  rfl
theorem shaped_pts {pts : List Ptn} (h : ∀ q ∈ pts, q.1 ∈ names8) : SeqAt.shaped (.list (D.pds (pts.map ptD))) = true := by
  have h1 : ∀ pts : List Ptn, (∀ q ∈ pts, q.1 ∈ names8) → PyData.canLayAll0 (D.pds (pts.map ptD)) = true ∧ PyData.depthAll (D.pds (pts.map ptD)) ≤ 1 := by
    intro pts
    induction pts with
    | nil => exact fun _ => ⟨rfl, by show 0 ≤ 1; omega⟩
    | cons q r ih =>
      intro h
      obtain ⟨h1, h2⟩ := ih fun q hq => h q (List.mem_cons_of_mem _ hq)
      have hs := names_ok q.1 (h q List.mem_cons_self)
      constructor
      · show (PyData.canLay0 (.tuple [.str q.1, .int (q.2 : Nat)]) && PyData.canLayAll0 (D.pds (r.map ptD))) = true
        simp only [PyData.canLay0, PyData.canLayAll0, hs, h1]
        rfl
      · show max (PyData.depth (.tuple [.str q.1, .int (q.2 : Nat)])) (PyData.depthAll (D.pds (r.map ptD))) ≤ 1
        simp only [PyData.depth, PyData.depthAll]
        omega
  obtain ⟨h2, h3⟩ := h1 pts h
  show (PyData.canLayAll0 (D.pds (pts.map ptD)) && decide (PyData.depthAll (D.pds (pts.map ptD)) + 1 ≤ 64)) = true
  rw [h2, Bool.true_and]
  exact decide_eq_true (by omega)
theorem none_same {H H' : Hp} {p : Addr} (S : Same H H') (h : H' p = none) : H p = none := by
  cases e : H p with
  | none => rfl
  | some u =>
    have := S _ _ e
    rw [h] at this
    cases this
theorem td_ptS {H H' : Hp} {a : Addr} {s : Str} {k : Nat} (_ : Same H H') (h : H' a = some (.tup [.str s, .int (k : Nat)])) (hl : s.length ≤ 1000) : Td H' (.ref a) (ptD (s, k)) :=
  .tup h (by show 2 ≤ 1000; decide) (.cons (.str _ hl) (.cons (.int _) .nil))
/-- what the law's list of a point's calls is -/
structure CP (pr : Pr) (p : Ptn) (f : (Str × Nat) × D) (pts : List Ptn) : Prop where
  all : ∀ cs, callsD 30 (leftD p.2 f.2) = some cs → ∀ nm k as, D.tup [.str "call", .str (ptName nm k), .tup as] ∈ cs → nm ∈ names8 → k < most → (nm, k) ∈ pts
  nm : ∀ q ∈ pts, (∃ m, (q.1, m) ∈ pr.map (·.1)) ∧ q.2 ≤ p.2 + 5
  len : pts.length ≤ 400
section
variable {P : Program} {w : World} {K : PySem.W.Frag} {mg : Str → Option Value} {base : Heap} {Ts : List Addr} {Pt : Addr} {S : Addr × List Int}

abbrev n__law_called : List Str := ["_law_program_here", "_law_point", "_law_found", "_law_call", "_law_name_here", "_law_number"]
theorem sc_law_called : FnScope n__law_called ["_law_program_here", "_law_point"] (defScope s__law_called) := ⟨rfl, rfl, rfl, by decide +kernel, rfl, by decide +kernel, by decide +kernel⟩
def spCalled : Sp := fun vs H Q _ => ∃ (v vp : V) (pr : Pr) (p : Ptn) (f : (Str × Nat) × D), vs = [v, vp] ∧ Td H v (progD pr) ∧ Td H vp (ptD p) ∧ PG pr ∧ f ∈ pr ∧ f.1.1 = p.1 ∧ p.2 + 5 < most ∧
  ∀ (l : Addr) xs pts H', H l = none → Same H H' → H' l = some (.lst xs) → Tds H' xs (pts.map ptD) → CP pr p f pts → Q (.ref l) H'
theorem ok_called (T : Txt K mg) (dm : Def K mg "_law_called" s__law_called ["_law_program_here", "_law_point"]) (c_l_calls : Cal P w K mg base 32 "_law_calls" ["_law_one"] (spCalls 31)) (c_l_left : Cal P w K mg base 46 "_law_left" ["_law_one", "_law_early"] (spLeft 6))
    (c_l_body : Cal P w K mg base 1 "_law_body" ["_law_program_here", "_law_name_here"] spBody) : Cal P w K mg base 47 "_law_called" ["_law_program_here", "_law_point"] spCalled := by
  refine dm.ok sc_law_called (fun vs H Q E h => ?_) (fun fa cdv A outer s H vs Q E hr h => ?_)
  · obtain ⟨v, vp, pr, p, f, rfl, _⟩ := h
    rfl
  obtain ⟨v, vp, pr, p, f, rfl, hv, hp, G, hf, hfn, hmo, q⟩ := h
  refine ⟨_, (pss_cons (ps_set (i := 2) sc_law_called.nd rfl (Or.inl rfl) (pe_lst pa_nil))
      (pss_cons (ps_for PassesOwn.never rfl (pi_list (pe_cal c_l_calls (hr.mono (by omega)) (pa_cons (pe_cal c_l_left (hr.mono (by omega)) (pa_cons (pe_cal c_l_body (hr.mono (by omega)) (pa_cons (pv 0) (pa_cons (pe_ix ix_tup (pv 1) pe_int (fun _ _ => rfl)) pa_nil))) (pa_cons (pe_ix ix_tup (pv 1) pe_int (fun _ _ => rfl)) pa_nil))) pa_nil))) (pg_name (i := 3) sc_law_called.nd rfl (Or.inl rfl)) (pss_cons (ps_asg (pe_split (pe_ix ix_tup (pv 3) pe_int (fun _ _ => rfl)) pe_str) (pg_unl rfl (pgs_cons (pg_name (i := 4) sc_law_called.nd rfl (Or.inl rfl)) (pgs_cons (pg_name (i := 5) sc_law_called.nd rfl (Or.inl rfl)) pgs_nil))))
      (pss_one (ps_set (i := 2) sc_law_called.nd rfl (Or.inl rfl) (pe_op op_cat (pv 2) (pe_op op_rep (pe_lst (pa_cons (pe_tup (pa_cons (pv 4) (pa_cons (pe_callTy call_int_str (by rfl) T.f_int (by decide +kernel) (pa_cons (pv 5) pa_nil)) pa_nil))) pa_nil)) (pe_callTy call_int1 (by rfl) T.f_int (by decide +kernel) (pa_cons (pe_cmpR (op_notInD (hu65 hr)) (pe_tup (pa_cons (pv 4) (pa_cons (pe_callTy call_int_str (by rfl) T.f_int (by decide +kernel) (pa_cons (pv 5) pa_nil)) pa_nil))) (pv 2) rfl) pa_nil))))))))
      (pss_one (ps_ret (pe_callB call_sortedPt (by rfl) T.f_sorted (by decide +kernel) (pa_cons (pv 2) pa_nil)))))), ?_⟩
  have hN : ∀ z ∈ pr.map (·.1), z.1 ∈ names8 := G.ng.nm
  have be := G.body f hf
  have we := be.we
  obtain ⟨hpl, cs, hcs, hca⟩ := left_plain hN hmo we 30 (by decide)
  have hsz := be.sz (p.2 : Nat)
  have hcl := callsD_sz 30 _ cs hcs
  obtain ⟨pa, ys, rfl, hpa, _, hys⟩ := hp.tup_inv
  obtain ⟨y1, ys, rfl, g1, hys⟩ := hys.cons_inv
  obtain ⟨y2, ys, rfl, g2, hys⟩ := hys.cons_inv
  obtain rfl := hys.nil_inv
  obtain ⟨rfl, _⟩ := g1.str_inv
  obtain rfl := g2.int_inv
  refine ⟨(by show 0 ≤ sizeLine; decide), fun p0 hp0 => ?_⟩
  have S0 := Same.new hp0 (.lst [])
  have hpa0 := S0 _ _ hpa
  refine ⟨_, rfl, _, rfl, _, _, _, _, rfl, rfl, SqT.of (hpa0), at0, v, pr, f, (by show [v, V.str p.1] = [v, V.str f.1.1]; rw [hfn]), hv.mono (Same.kp S0), hf, G.ng.nod, fun v1 H1 S1 t1 => ?_⟩
  refine ⟨_, rfl, _, _, _, _, rfl, rfl, SqT.of (S1 _ _ hpa0), at1, v1, f.2, p.2, 5, f.1.2, pr.map (·.1), by decide, rfl, t1, we, hN, hmo, fun v2 H2 S2 t2 => ?_⟩
  refine ⟨v2, leftD p.2 f.2, 30, cs, by decide, rfl, t2, hcs, by omega, fun lc zs H3 S3 hz hzs => ?_⟩
  have S03 := ((S0.trans S1).trans S2).trans S3
  have hp03 := ((S1.trans S2).trans S3) _ _ (upd_same (H := H) (a := p0) (o := .lst []))
  refine ⟨lc, rfl, ⟨_, SqL.of hz⟩, for_srv (Srv.lst (P := fun H' => Same H3 H') fun H' h => SqL.of (h _ _ hz)) (fun i σ H' => Same H3 H' ∧ ∃ (pF : Addr) (ws : List V) (pts : List Ptn) (o3 o4 o5 : Option V), σ = [some v, some (.ref pa), some (.ref pF), o3, o4, o5] ∧ H' pF = some (.lst ws) ∧ Tds H' ws (pts.map ptD) ∧ pts.length ≤ i ∧
    (∀ nm k as, D.tup [.str "call", .str (ptName nm k), .tup as] ∈ cs.take i → nm ∈ names8 → k < most → (nm, k) ∈ pts) ∧ ∀ z ∈ pts, (∃ m, (z.1, m) ∈ pr.map (·.1)) ∧ z.2 ≤ p.2 + 5) (fun i σ H' h => h.1) ?_ ?_ ?_⟩
  · exact ⟨fun _ _ h => h, p0, [], [], none, none, none, rfl, hp03, .nil, Nat.le_refl _, (fun nm k as h => nomatch h), (fun z h => nomatch h)⟩
  · rintro i x σ H4 hxi ⟨S4, pF, ws, pts, o3, o4, o5, rfl, hF, hws, hpl, hall, hnm⟩
    obtain ⟨d, hd1, hd2, hd3⟩ := hzs.get2 hxi
    obtain ⟨hi, hd4⟩ := List.getElem?_eq_some_iff.mp hd1
    obtain ⟨nm, k, as, rfl, hmem, hke⟩ := hca d hd2
    have hn8 := hN _ hmem
    have hn8 : nm ∈ names8 := hn8
    have hkm : k < most := by omega
    have pk := pt_ok hn8 hkm
    have hplen := pk.len
    have hnlen := pk.nlen
    obtain ⟨a, us, rfl, ha, _, hus⟩ := (hd3.mono (Same.kp S4)).tup_inv
    obtain ⟨u1, us, rfl, _, hus⟩ := hus.cons_inv
    obtain ⟨u2, us, rfl, e2, hus⟩ := hus.cons_inv
    obtain ⟨rfl, _⟩ := e2.str_inv
    refine ⟨_, rfl, _, _, _, _, rfl, rfl, SqT.of (ha), at1, ⟨_, rfl⟩, ptName nm k, _, rfl, rfl, us_len, sz100 (by omega), fun p5 hp5 => ?_⟩
    have S5 := Same.new hp5 (.lst ((Txt.split (ptName nm k) "_").map V.str))
    refine ⟨p5, _, rfl, SqL.of upd_same, by rw [pk.split]; rfl, ?_⟩
    rw [pk.split] at S5 ⊢
    refine ⟨_, _, rfl, _, _, rfl, rfl, ?_⟩
    have hF5 := S5 _ _ hF
    have hws5 := hws.mono (Same.kp S5)
    refine ⟨_, rfl, _, rfl, _, rfl, numS k, _, rfl, pk.int, by omega, (by show 2 ≤ sizeLine; decide), fun p6 hp6 => ⟨(by show 1 ≤ sizeLine; decide), fun p7 hp7 => ?_⟩⟩
    have S6 := Same.new hp6 (.tup [.str nm, .int (k : Nat)])
    have S7 := Same.new' S6 hp7 (.lst [.ref p6])
    refine ⟨_, rfl, _, rfl, numS k, _, rfl, pk.int, by omega, (by show 2 ≤ sizeLine; decide), fun p8 hp8 => ?_⟩
    have S8 := Same.new' S7 hp8 (.tup [.str nm, .int (k : Nat)])
    have hnl : nm.length ≤ 1000 := names8_len hn8
    have t8 := td_ptS S8 upd_same hnl
    have t6 := td_ptS S8 (Same.new hp8 _ _ _ (Same.new hp7 _ _ _ upd_same)) hnl
    have hF8 := S8 _ _ hF5
    have hws8 := hws5.mono (Same.kp S8)
    have hp7t := Same.new hp8 (.tup [.str nm, .int (k : Nat)]) _ _ (upd_same (H := _) (a := p7) (o := .lst [.ref p6]))
    have hpn : ∀ z ∈ pts, z.1 ∈ names8 := fun z hz => by
      obtain ⟨⟨m, hm⟩, _⟩ := hnm z hz
      exact hN (z.1, m) hm
    have hwl := hws8.length
    rw [List.length_map] at hwl
    refine ⟨_, rfl, (ptD (nm, k)).pd, D.pds (pts.map ptD), dp_of _ _ t8, .lst (SqL.of hF8) (dps_of _ _ hws8), shaped_pt hn8, shaped_pts hpn, ?_⟩
    rw [any_pt]
    refine .inr ⟨_, rfl, ?_⟩
    have S48 := S5.trans S8
    by_cases hin : (nm, k) ∈ pts
    · rw [decide_eq_true hin]
      refine ⟨_, _, _, rfl, rfl, hp7t, (by decide), (by decide), (by show 1 * 0 ≤ sizeLine; decide), fun p9 hp9 => ?_⟩
      have S9 := Same.new hp9 (.lst ([] : List V))
      refine ⟨_, _, _, _, rfl, rfl, S9 _ _ hF8, upd_same, sz100 (by rw [hwl]; show pts.length + 0 ≤ 1000000; omega), fun p10 hp10 => ?_⟩
      have S10 := Same.new hp10 (.lst (ws ++ []))
      refine ⟨((S4.trans S48).trans S9).trans S10, p10, ws, pts, _, _, _, rfl, (upd_same.trans (congrArg (fun z => some (HO.lst z)) (List.append_nil ws))), hws8.mono (Same.kp (S9.trans S10)), by omega, ?_, hnm⟩
      intro nm' k' as' hm' hn' hk'
      rw [List.take_succ_eq_append_getElem hi, hd4] at hm'
      rcases List.mem_append.mp hm' with hm' | hm'
      · exact hall nm' k' as' hm' hn' hk'
      · rw [List.mem_singleton] at hm'
        injection hm' with hm'
        injection hm' with _ hm'
        injection hm' with hm' _
        injection hm' with hm'
        obtain ⟨e1, e2⟩ := pt_inj (pt_ok hn' hk') pk hm'
        rw [e1, e2]
        exact hin
    · rw [decide_eq_false hin]
      refine ⟨_, _, _, rfl, rfl, hp7t, (by decide), (by decide), (by show 1 * 1 ≤ sizeLine; decide), fun p9 hp9 => ?_⟩
      have S9 := Same.new hp9 (.lst [.ref p6])
      refine ⟨_, _, _, _, rfl, rfl, S9 _ _ hF8, upd_same, sz100 (by rw [hwl]; show pts.length + 1 ≤ 1000000; omega), fun p10 hp10 => ?_⟩
      have S10 := Same.new hp10 (.lst (ws ++ [.ref p6]))
      refine ⟨((S4.trans S48).trans S9).trans S10, p10, ws ++ [.ref p6], pts ++ [(nm, k)], _, _, _, rfl, upd_same, ?_, by rw [List.length_append, List.length_singleton]; omega, ?_, ?_⟩
      · rw [List.map_append]
        exact (hws8.append (.one t6)).mono (Same.kp (S9.trans S10))
      · intro nm' k' as' hm' hn' hk'
        rw [List.take_succ_eq_append_getElem hi, hd4] at hm'
        rcases List.mem_append.mp hm' with hm' | hm'
        · exact List.mem_append_left _ (hall nm' k' as' hm' hn' hk')
        · rw [List.mem_singleton] at hm'
          injection hm' with hm'
          injection hm' with _ hm'
          injection hm' with hm' _
          injection hm' with hm'
          obtain ⟨e1, e2⟩ := pt_inj (pt_ok hn' hk') pk hm'
          rw [e1, e2]
          exact List.mem_append_right _ (List.mem_singleton.mpr rfl)
      · intro z hz
        rcases List.mem_append.mp hz with hz | hz
        · exact hnm z hz
        · rw [List.mem_singleton] at hz
          subst hz
          exact ⟨⟨_, hmem⟩, hke⟩
  · rintro σ H4 ⟨S4, pF, ws, pts, o3, o4, o5, rfl, hF, hws, hpl, hall, hnm⟩
    rw [hzs.length] at hpl hall
    rw [List.take_length] at hall
    refine ⟨_, rfl, pF, ws, pts, rfl, hF, hws, fun ys p6 hperm hp6 => ?_⟩
    obtain ⟨pts', hpp, hys⟩ := hws.perm hperm
    have S5 := Same.new hp6 (.lst ys)
    refine q p6 ys pts' _ (none_same (S03.trans S4) hp6) ((S03.trans S4).trans S5) upd_same (hys.mono (Same.kp S5)) ⟨fun cs' hcs' nm k as hm hn hk => ?_, fun z hz => hnm z (hpp.mem_iff.mp hz), by rw [hpp.length_eq]; omega⟩
    rw [hcs] at hcs'
    obtain rfl := Option.some.inj hcs'
    exact hpp.mem_iff.mpr (hall nm k as hm hn hk)
end
end K04
namespace K04
open PySem PySem.Spec PyProof.Rows L2
def keyP (q : Ptn) : List Key := [.inr q.1, .inl (q.2 : Nat)]
/-- closed under the calls -/
def Cl (pr : Pr) (q : Ptn) (pts : List Ptn) : Prop := ∀ f ∈ pr, f.1.1 = q.1 → ∀ cs, callsD 30 (leftD q.2 f.2) = some cs → ∀ nm k as, D.tup [.str "call", .str (ptName nm k), .tup as] ∈ cs → nm ∈ names8 → k < most → (nm, k) ∈ pts
/-- what the law's points are -/
structure PP (pr : Pr) (p : Ptn) (pts : List Ptn) : Prop where
  mem : p ∈ pts
  nod : pts.Nodup
  len : pts.length ≤ 40
  nm : ∀ q ∈ pts, (∃ m, (q.1, m) ∈ pr.map (·.1)) ∧ q.2 ≤ 201
  cl : ∀ q ∈ pts, Cl pr q pts
theorem nod_one {α β : Type} {g : α → β} : ∀ {l : List α} {a b : α}, (l.map g).Nodup → a ∈ l → b ∈ l → g a = g b → a = b
  | [], _, _, _, h, _, _ => nomatch h
  | x :: r, a, b, hn, ha, hb, e => by
    rw [List.map_cons, List.nodup_cons] at hn
    rcases List.mem_cons.mp ha with ha | ha <;> rcases List.mem_cons.mp hb with hb | hb
    · rw [ha, hb]
    · exact absurd (List.mem_map.mpr ⟨b, hb, by rw [← e, ha]⟩) hn.1
    · exact absurd (List.mem_map.mpr ⟨a, ha, by rw [e, hb]⟩) hn.1
    · exact nod_one hn.2 ha hb e
structure PI (pr : Pr) (p : Ptn) (H0 H : Hp) (pF pD : Addr) (ws : List V) (kvs : List (List Key × V)) (pts : List Ptn) : Prop where
  old : Same H0 H
  nF : H0 pF = none
  nD : H0 pD = none
  hF : H pF = some (.lst ws)
  hD : H pD = some (.dT kvs)
  td : Tds H ws (pts.map ptD)
  kl : kvs.length ≤ pts.length
  kv : ∀ q : Ptn, (valV kvs (keyP q)).isSome = decide (q ∈ pts)
  mem : p ∈ pts
  nod : pts.Nodup
  nm : ∀ q ∈ pts, (∃ m, (q.1, m) ∈ pr.map (·.1)) ∧ q.2 ≤ 1 + 5 * pts.length
theorem kp_upd {H : Hp} {a : Addr} {o o' : HO} (h : H a = some o) (hn : ∀ xs, HO.tup xs ≠ o) : Kp H (upd H a o') := fun b zs hb => by
  rw [upd_ne (ne_obj hb h (hn _))]
  exact hb
theorem PI.same {pr : Pr} {p : Ptn} {H0 H H' : Hp} {pF pD : Addr} {ws : List V} {kvs : List (List Key × V)} {pts : List Ptn} (a : PI pr p H0 H pF pD ws kvs pts) (s : Same H H') : PI pr p H0 H' pF pD ws kvs pts :=
  ⟨a.old.trans s, a.nF, a.nD, s _ _ a.hF, s _ _ a.hD, a.td.mono (Same.kp s), a.kl, a.kv, a.mem, a.nod, a.nm⟩
theorem PI.upd {pr : Pr} {p : Ptn} {H0 H : Hp} {pF pD pM : Addr} {ws ms ms' : List V} {kvs : List (List Key × V)} {pts : List Ptn} (a : PI pr p H0 H pF pD ws kvs pts) (hM : H pM = some (.lst ms)) (h0 : H0 pM = none) (hn : pF ≠ pM) : PI pr p H0 (upd H pM (.lst ms')) pF pD ws kvs pts :=
  ⟨Same.mut a.old h0, a.nF, a.nD, by rw [upd_ne hn]; exact a.hF, by rw [upd_ne (ne_obj a.hD hM (fun z => by cases z))]; exact a.hD, a.td.mono (kp_upd hM fun _ z => by cases z), a.kl, a.kv, a.mem, a.nod, a.nm⟩
theorem keyP_inj {a b : Ptn} (h : keyP a = keyP b) : a = b := by
  obtain ⟨s, k⟩ := a
  obtain ⟨s', k'⟩ := b
  injection h with h1 h2
  injection h1 with h1
  injection h2 with h2 _
  injection h2 with h2
  have h1 : s = s' := h1
  have h2 : (k : Int) = (k' : Int) := h2
  obtain rfl := h1
  obtain rfl : k = k' := by omega
  rfl
theorem PI.add {pr : Pr} {p r : Ptn} {H0 H : Hp} {pF pD : Addr} {ws : List V} {kvs : List (List Key × V)} {pts : List Ptn} {x y : V} (a : PI pr p H0 H pF pD ws kvs pts) (hr : r ∉ pts) (hx : Td H x (ptD r)) (hm : ∃ m, (r.1, m) ∈ pr.map (·.1)) (hk : r.2 ≤ 1 + 5 * (pts.length + 1)) :
    PI pr p H0 (L2.upd (L2.upd H pD (.dT (putK kvs (keyP r) y))) pF (.lst (ws ++ [x]))) pF pD (ws ++ [x]) (putK kvs (keyP r) y) (pts ++ [r]) := by
  have hne : pF ≠ pD := ne_obj a.hF a.hD (fun z => by cases z)
  have kp : Kp H (L2.upd (L2.upd H pD (.dT (putK kvs (keyP r) y))) pF (.lst (ws ++ [x]))) := Kp.trans (kp_upd a.hD fun _ z => by cases z) (kp_upd (o := .lst ws) (by rw [upd_ne hne]; exact a.hF) fun _ z => by cases z)
  refine ⟨Same.mut (Same.mut a.old a.nD) a.nF, a.nF, a.nD, upd_same, by rw [upd_ne hne.symm]; exact upd_same, ?_, ?_, fun q => ?_, List.mem_append_left _ a.mem, ?_, fun q hq => ?_⟩
  · rw [List.map_append]
    exact (a.td.append (.one hx)).mono kp
  · have := length_putK kvs (keyP r) y
    have := a.kl
    rw [List.length_append, List.length_singleton]
    omega
  · rw [valV_put]
    by_cases c : keyP q = keyP r
    · rw [if_pos c, keyP_inj c]
      exact (decide_eq_true (List.mem_append_right _ (List.mem_singleton.mpr rfl))).symm
    · rw [if_neg c, a.kv q]
      exact decide_eq_decide.mpr ⟨fun h => List.mem_append_left _ h, fun h => (List.mem_append.mp h).resolve_right fun z => c (by rw [List.mem_singleton.mp z])⟩
  · refine List.nodup_append.mpr ⟨a.nod, List.nodup_cons.mpr ⟨fun z => (nomatch z), List.nodup_nil⟩, fun u hu z hz e => hr ?_⟩
    rw [List.mem_singleton] at hz
    rw [← hz, ← e]
    exact hu
  · rw [List.length_append, List.length_singleton]
    rcases List.mem_append.mp hq with hq | hq
    · obtain ⟨h1, h2⟩ := a.nm q hq
      exact ⟨h1, by omega⟩
    · rw [List.mem_singleton] at hq
      subst hq
      exact ⟨hm, hk⟩
theorem Cl.mono {pr : Pr} {q : Ptn} {pts pts' : List Ptn} (h : Cl pr q pts) (hs : ∀ z ∈ pts, z ∈ pts') : Cl pr q pts' := fun f hf e cs hcs nm k as hm hn hk => hs _ (h f hf e cs hcs nm k as hm hn hk)
section
variable {P : Program} {w : World} {K : PySem.W.Frag} {mg : Str → Option Value} {base : Heap} {Ts : List Addr} {Pt : Addr} {S : Addr × List Int}

abbrev n__law_points : List Str := ["_law_program_here", "_law_point", "_law_most", "_law_found", "_law_walk", "_law_seen", "_law_more", "_law_here", "_law_there"]
theorem sc_law_points : FnScope n__law_points ["_law_program_here", "_law_point", "_law_most"] (defScope s__law_points) := ⟨rfl, rfl, rfl, by decide +kernel, rfl, by decide +kernel, by decide +kernel⟩
def spPoints : Sp := fun vs H Q _ => ∃ (v vp : V) (pr : Pr) (p : Ptn), vs = [v, vp, .int 40] ∧ Td H v (progD pr) ∧ Td H vp (ptD p) ∧ PG pr ∧ (∃ m, (p.1, m) ∈ pr.map (·.1)) ∧ p.2 ≤ 6 ∧
  (∀ H', Same H H' → Q .non H') ∧
  ∀ (l : Addr) xs pts H', Same H H' → H' l = some (.lst xs) → Tds H' xs (pts.map ptD) → PP pr p pts → Q (.ref l) H'
theorem ok_points (T : Txt K mg) (dm : Def K mg "_law_points" s__law_points ["_law_program_here", "_law_point", "_law_most"]) (c_l_called : Cal P w K mg base 47 "_law_called" ["_law_program_here", "_law_point"] spCalled) : Cal P w K mg base 48 "_law_points" ["_law_program_here", "_law_point", "_law_most"] spPoints := by
  refine dm.ok sc_law_points (fun vs H Q E h => ?_) (fun fa cdv A outer s H vs Q E hr h => ?_)
  · obtain ⟨v, vp, pr, p, rfl, _⟩ := h
    rfl
  obtain ⟨v, vp, pr, p, rfl, hv, hp, G, hpm, hp6, qn, q⟩ := h
  refine ⟨_, (pss_cons (ps_par (i := 3) (j := 4) rfl sc_law_points.nd rfl rfl (by decide) rfl rfl (pa_cons (pe_lst (pa_cons (pv 1) pa_nil)) (pa_cons (pe_lst (pa_cons (pv 1) pa_nil)) pa_nil)) (by with_unfolding_all rfl))
      (pss_cons (ps_set (i := 5) sc_law_points.nd rfl (Or.inl rfl) pe_dnewT)
      (pss_cons (ps_dput (hu_of hr) (pv 5) (pv 1) pe_bl rfl)
      (pss_cons (ps_while PassesOwn.never (pt_cmpR (op_neNil hr.units0) (pv 4) (pe_lst pa_nil) (nomark _)) (pss_cons (ps_set (i := 6) sc_law_points.nd rfl (Or.inl rfl) (pe_lst pa_nil))
      (pss_cons (ps_for PassesOwn.never rfl (pi_list (pv 4)) (pg_name (i := 7) sc_law_points.nd rfl (Or.inl rfl)) (pss_one (ps_for PassesOwn.never rfl (pi_list (pe_cal c_l_called (hr.mono (by omega)) (pa_cons (pv 0) (pa_cons (pv 7) pa_nil)))) (pg_name (i := 8) sc_law_points.nd rfl (Or.inl rfl)) (pss_one (ps_if (pt_cmp (pc_dnotin (hu_of hr) (pv 8) (pv 5)) rfl) (pss_cons (ps_dput (hu_of hr) (pv 5) (pv 8) pe_bl rfl)
      (pss_cons (ps_expr (pe_bm PySem.F.plainAttrs_list PySem.F.slot_list_append PySem.F.type_list_append mt_append (pv 3) (pa_cons (pv 8) pa_nil)))
      (pss_one (ps_expr (pe_bm PySem.F.plainAttrs_list PySem.F.slot_list_append PySem.F.type_list_append mt_append (pv 6) (pa_cons (pv 8) pa_nil)))))) pss_nil)))))
      (pss_cons (ps_if (pt_cmpR op_gt (pe_callB call_len_seq (by rfl) T.f_len PySem.boot_len (pa_cons (pv 3) pa_nil)) (pv 2) (nomark _)) (pss_one (ps_ret pe_non)) pss_nil)
      (pss_one (ps_set (i := 4) sc_law_points.nd rfl (Or.inl rfl) (pv 6)))))))
      (pss_one (ps_ret (pe_callB call_sortedPt (by rfl) T.f_sorted (by decide +kernel) (pa_cons (pv 3) pa_nil)))))))), ?_⟩
  obtain ⟨pa, ys, rfl, hpa, hpl, hys⟩ := hp.tup_inv
  have hp0 : Td H (.ref pa) (ptD p) := .tup hpa hpl hys
  obtain ⟨y1, ys, rfl, g1, hys⟩ := hys.cons_inv
  obtain ⟨y2, ys, rfl, g2, hys⟩ := hys.cons_inv
  obtain rfl := hys.nil_inv
  obtain ⟨rfl, _⟩ := g1.str_inv
  obtain rfl := g2.int_inv
  refine ⟨_, rfl, (by show 1 ≤ sizeLine; decide), fun pF hpF => ⟨_, rfl, (by show 1 ≤ sizeLine; decide), fun pW hpW => ⟨_, _, rfl, fun pD hpD => ?_⟩⟩⟩
  have S1 := Same.new hpF (.lst [.ref pa])
  have S2 := Same.new' S1 hpW (.lst [.ref pa])
  have S3 := Same.new' S2 hpD (.dT [])
  have nWF : pW ≠ pF := fun z => by rw [z, upd_same] at hpW; cases hpW
  refine ⟨_, rfl, _, rfl, pD, _, rfl, DPut.t (k := keyP p) upd_same (S3 _ _ hpa) (by show 0 < sizeLine; decide), ?_⟩
  have I0 : PI pr p H (upd (upd (upd (upd H pF (.lst [.ref pa])) pW (.lst [.ref pa])) pD (.dT [])) pD (.dT (putK [] (keyP p) (.bl true)))) pF pD [.ref pa] (putK [] (keyP p) (.bl true)) [p] := by
    have nFD : pF ≠ pD := fun z => by
      rw [← z, upd_ne nWF.symm, upd_same] at hpD
      cases hpD
    refine ⟨Same.mut S3 (none_same S2 hpD), hpF, none_same S2 hpD, by rw [upd_ne nFD, upd_ne nFD, upd_ne nWF.symm, upd_same], upd_same, ?_, length_putK [] (keyP p) (.bl true), fun q => ?_, List.mem_cons_self, List.nodup_cons.mpr ⟨fun z => (nomatch z), List.nodup_nil⟩, fun q hq => ?_⟩
    · exact (Tds.one hp0).mono (Kp.trans (Same.kp S3) (kp_upd upd_same fun _ z => by cases z))
    · rw [valV_put]
      by_cases c : keyP q = keyP p
      · rw [if_pos c, keyP_inj c]
        exact (decide_eq_true List.mem_cons_self).symm
      · rw [if_neg c]
        exact (decide_eq_false fun z => c (by rw [List.mem_singleton.mp z])).symm
    · rw [List.mem_singleton] at hq
      rw [hq]
      exact ⟨hpm, by show p.2 ≤ 1 + 5 * 1; omega⟩
  have hW0 : (upd (upd (upd (upd H pF (.lst [.ref pa])) pW (.lst [.ref pa])) pD (.dT [])) pD (.dT (putK [] (keyP p) (.bl true)))) pW = some (.lst [.ref pa]) := by
    have nWD : pW ≠ pD := fun z => by
      rw [← z, upd_same] at hpD
      cases hpD
    rw [upd_ne nWD, upd_ne nWD, upd_same]
  generalize upd (upd (upd (upd H pF (.lst [.ref pa])) pW (.lst [.ref pa])) pD (.dT [])) pD (.dT (putK [] (keyP p) (.bl true))) = H1 at I0 hW0
  refine ⟨fun k σ H' => ∃ (pW : Addr) (wk ws : List V) (kvs : List (List Key × V)) (walk pts : List Ptn) (o6 o7 o8 : Option V), σ = [some v, some (.ref pa), some (.int 40), some (.ref pF), some (.ref pW), some (.ref pD), o6, o7, o8] ∧ PI pr p H H' pF pD ws kvs pts ∧ H' pW = some (.lst wk) ∧ pW ≠ pF ∧ Tds H' wk (walk.map ptD) ∧ (∀ z ∈ walk, z ∈ pts) ∧ walk.length ≤ pts.length ∧ pts.length ≤ 40 ∧
    (∀ q ∈ pts, q ∉ walk → Cl pr q pts) ∧ k = 41 - pts.length + (if wk = [] then 0 else 1), ⟨_, pW, [.ref pa], _, _, [p], [p], none, none, none, rfl, I0, hW0, nWF, I0.td, fun z h => h, Nat.le_refl _, (by show 1 ≤ 40; decide), fun q h h' => absurd h h', rfl⟩, ?_⟩
  rintro k σ H2 ⟨pW, wk, ws, kvs, walk, pts, o6, o7, o8, rfl, I, hW, hWF, hwk, hwp, hwl, h40, hcl, rfl⟩
  refine ⟨_, rfl, (by show 0 ≤ sizeLine; decide), fun pe hpe => ?_⟩
  have Se := Same.new hpe (.lst ([] : List V))
  have I := I.same Se
  have hW := Se _ _ hW
  have hwk := hwk.mono (Same.kp Se)
  refine ⟨_, _, _, rfl, rfl, SqL.of hW, SqL.of upd_same, _, rfl, ?_⟩
  generalize upd H2 pe (.lst []) = H3 at I hW hwk
  have hwkl := hwk.length
  rw [List.length_map] at hwkl
  cases hwe : wk with
  | nil =>
    subst hwe
    refine iteF ?_
    obtain rfl : walk = [] := by
      cases walk with
      | nil => rfl
      | cons z r => exact absurd hwkl (by simp)
    refine ⟨_, rfl, pF, ws, pts, rfl, I.hF, I.td, fun ys p6 hperm hp6 => ?_⟩
    obtain ⟨pts', hpp, hys⟩ := I.td.perm hperm
    have S5 := Same.new hp6 (.lst ys)
    refine q p6 ys pts' _ (I.old.trans S5) upd_same (hys.mono (Same.kp S5)) ⟨hpp.mem_iff.mpr I.mem, hpp.nodup_iff.mpr I.nod, by rw [hpp.length_eq]; exact h40, fun z hz => ?_, fun z hz => (hcl z (hpp.mem_iff.mp hz) (fun h => nomatch h)).mono fun z hz => hpp.mem_iff.mpr hz⟩
    obtain ⟨h1, h2⟩ := I.nm z (hpp.mem_iff.mp hz)
    exact ⟨h1, by omega⟩
  | cons x0 wr =>
    rw [← hwe]
    have hne : wk.isEmpty = false := by rw [hwe]; rfl
    rw [hne]
    have hk1 : (if wk = [] then 0 else 1) = 1 := if_neg (by rw [hwe]; exact fun z => nomatch z)
    rw [hk1]
    refine iteT ⟨fun σ' H' => ∃ m', m' < 41 - pts.length + 1 ∧ ∃ (pW : Addr) (wk ws : List V) (kvs : List (List Key × V)) (walk pts : List Ptn) (o6 o7 o8 : Option V), σ' = [some v, some (.ref pa), some (.int 40), some (.ref pF), some (.ref pW), some (.ref pD), o6, o7, o8] ∧ PI pr p H H' pF pD ws kvs pts ∧ H' pW = some (.lst wk) ∧ pW ≠ pF ∧ Tds H' wk (walk.map ptD) ∧ (∀ z ∈ walk, z ∈ pts) ∧ walk.length ≤ pts.length ∧ pts.length ≤ 40 ∧
      (∀ q ∈ pts, q ∉ walk → Cl pr q pts) ∧ m' = 41 - pts.length + (if wk = [] then 0 else 1), fun σ' H' h => h, ?_⟩
    refine ⟨(by show 0 ≤ sizeLine; decide), fun pM hpM => ?_⟩
    have SM := Same.new hpM (.lst ([] : List V))
    have hMF : pF ≠ pM := fun z => by
      have := I.hF
      rw [z, hpM] at this
      cases this
    have hMW : pW ≠ pM := fun z => by
      have := hW
      rw [z, hpM] at this
      cases this
    have hM0 := none_same I.old hpM
    have hF0 := I.nF
    have I1 := I.same SM
    have hW1 := SM _ _ hW
    have hwk1 := hwk.mono (Same.kp SM)
    generalize hgen : upd H3 pM (.lst []) = H4 at I1 hW1 hwk1 SM
    have hM4 : H4 pM = some (.lst []) := by rw [← hgen]; exact upd_same
    clear hgen
    refine ⟨_, rfl, pW, rfl, ⟨_, SqL.of hW1⟩, for_srv (Srv.lst (P := fun H' => H' pW = some (.lst wk)) fun H' h => SqL.of h) (fun i σ H' => H' pW = some (.lst wk) ∧ Tds H' wk (walk.map ptD) ∧ ∃ (ws ms : List V) (kvs : List (List Key × V)) (more : List Ptn) (o7 o8 : Option V), σ = [some v, some (.ref pa), some (.int 40), some (.ref pF), some (.ref pW), some (.ref pD), some (.ref pM), o7, o8] ∧ PI pr p H H' pF pD ws kvs (pts ++ more) ∧ H' pM = some (.lst ms) ∧ Tds H' ms (more.map ptD) ∧ more.length ≤ 400 * i ∧ ∀ z ∈ walk.take i, Cl pr z (pts ++ more)) (fun i σ H' h => h.1) ?_ ?_ ?_⟩
    · exact ⟨hW1, hwk1, ws, [], kvs, [], o7, o8, rfl, by rw [List.append_nil]; exact I1, hM4, .nil, Nat.zero_le _, fun z hz => nomatch hz⟩
    · rintro i x σ H5 hxi ⟨hW5, hwk5, ws5, ms5, kvs5, more5, o7, o8, rfl, I5, hM5, hms5, hml5, hcl5⟩
      obtain ⟨d, hd1, hd2, hd3⟩ := hwk5.get2 hxi
      rw [List.getElem?_map] at hd1
      obtain ⟨here, hh, rfl⟩ := Option.map_eq_some_iff.mp hd1
      obtain ⟨hi, hh2⟩ := List.getElem?_eq_some_iff.mp hh
      have hhm := hwp _ (List.mem_of_getElem? hh)
      obtain ⟨⟨m, hm⟩, hh3⟩ := I.nm _ hhm
      obtain ⟨f, hf, hfe⟩ := List.mem_map.mp hm
      have hfn : f.1.1 = here.1 := by rw [hfe]
      refine ⟨_, rfl, _, rfl, v, x, pr, here, f, rfl, hv.mono (Same.kp I5.old), hd3, G, hf, hfn, (by show here.2 + 5 < 220; omega), fun lc zs cps H6 hlc S6 hz hzs CPh => ?_⟩
      have hlF : lc ≠ pF := fun z => by
        have := I5.hF
        rw [← z, hlc] at this
        cases this
      have hlM : lc ≠ pM := fun z => by
        rw [z, hM5] at hlc
        cases hlc
      refine ⟨lc, rfl, ⟨_, SqL.of hz⟩, for_srv (Srv.lst (P := fun H' => H' lc = some (.lst zs)) fun H' h => SqL.of h) (fun j σ H' => H' lc = some (.lst zs) ∧ Tds H' zs (cps.map ptD) ∧ H' pW = some (.lst wk) ∧ Tds H' wk (walk.map ptD) ∧ ∃ (ws ms : List V) (kvs : List (List Key × V)) (more : List Ptn) (o8 : Option V), σ = [some v, some (.ref pa), some (.int 40), some (.ref pF), some (.ref pW), some (.ref pD), some (.ref pM), some x, o8] ∧ PI pr p H H' pF pD ws kvs (pts ++ more) ∧ H' pM = some (.lst ms) ∧ Tds H' ms (more.map ptD) ∧ more.length ≤ 400 * i + j ∧ (∀ z ∈ walk.take i, Cl pr z (pts ++ more)) ∧ ∀ z ∈ cps.take j, z ∈ pts ++ more) (fun i σ H' h => h.1) ?_ ?_ ?_⟩
      · exact ⟨hz, hzs, S6 _ _ hW5, hwk5.mono (Same.kp S6), ws5, ms5, kvs5, more5, o8, rfl, I5.same S6, S6 _ _ hM5, hms5.mono (Same.kp S6), hml5, hcl5, fun z hz => nomatch hz⟩
      · rintro j y σ H7 hyj ⟨hz7, hzs7, hW7, hwk7, ws7, ms7, kvs7, more7, o8, rfl, I7, hM7, hms7, hml7, hcl7, hin7⟩
        obtain ⟨d, hd1, _, hd4⟩ := hzs7.get2 hyj
        rw [List.getElem?_map] at hd1
        obtain ⟨r, hr1, rfl⟩ := Option.map_eq_some_iff.mp hd1
        obtain ⟨hj, hr2⟩ := List.getElem?_eq_some_iff.mp hr1
        obtain ⟨hrm, hrk⟩ := CPh.nm _ (List.mem_of_getElem? hr1)
        have htd := hd4
        obtain ⟨b, us, rfl, hb, _, hus⟩ := hd4.tup_inv
        obtain ⟨u1, us, rfl, g1, hus⟩ := hus.cons_inv
        obtain ⟨u2, us, rfl, g2, hus⟩ := hus.cons_inv
        obtain rfl := hus.nil_inv
        obtain ⟨rfl, _⟩ := g1.str_inv
        obtain rfl := g2.int_inv
        have hck := CPh.len
        have hkl := I7.kl
        rw [List.length_append] at hkl
        have hwl7 := I7.td.length
        rw [List.length_map, List.length_append] at hwl7
        have hml := hms7.length
        rw [List.length_map] at hml
        have hi40 : i ≤ 40 := by omega
        refine ⟨_, rfl, _, rfl, pD, _, rfl, DGet.t (k := keyP r) I7.hD hb, _, rfl, ?_⟩
        rw [I7.kv r]
        have hne : pF ≠ pD := ne_obj I7.hF I7.hD (fun z => by cases z)
        by_cases hin : r ∈ pts ++ more7
        · rw [decide_eq_true hin]
          refine iteF ⟨hz7, hzs7, hW7, hwk7, ws7, ms7, kvs7, more7, _, rfl, I7, hM7, hms7, by omega, hcl7, fun z hz => ?_⟩
          rw [List.take_succ_eq_append_getElem hj, hr2] at hz
          rcases List.mem_append.mp hz with hz | hz
          · exact hin7 z hz
          · rw [List.mem_singleton.mp hz]
            exact hin
        · rw [decide_eq_false hin]
          refine iteT ⟨_, rfl, _, rfl, pD, _, rfl, DPut.t (k := keyP r) I7.hD hb (szlt (by omega)), ?_⟩
          have hFa : (upd H7 pD (.dT (putK kvs7 (keyP r) (.bl true)))) pF = some (.lst ws7) := by rw [upd_ne hne]; exact I7.hF
          refine ⟨_, rfl, .inl ⟨rfl, _, SqL.of hFa⟩, _, rfl, _, _, _, rfl, rfl, hFa, szlt (by omega), ?_⟩
          have I8 := I7.add (y := .bl true) hin htd hrm (by rw [List.length_append]; omega)
          have hMD : pM ≠ pD := ne_obj hM7 I7.hD (fun z => by cases z)
          have kp8 : Kp H7 (upd (upd H7 pD (.dT (putK kvs7 (keyP r) (.bl true)))) pF (.lst (ws7 ++ [.ref b]))) := Kp.trans (kp_upd I7.hD fun _ z => by cases z) (kp_upd hFa fun _ z => by cases z)
          have hM8 : (upd (upd H7 pD (.dT (putK kvs7 (keyP r) (.bl true)))) pF (.lst (ws7 ++ [.ref b]))) pM = some (.lst ms7) := by rw [upd_ne hMF.symm, upd_ne hMD]; exact hM7
          have hW8 : (upd (upd H7 pD (.dT (putK kvs7 (keyP r) (.bl true)))) pF (.lst (ws7 ++ [.ref b]))) pW = some (.lst wk) := by rw [upd_ne hWF, upd_ne (ne_obj hW7 I7.hD (fun z => by cases z))]; exact hW7
          have hz8 : (upd (upd H7 pD (.dT (putK kvs7 (keyP r) (.bl true)))) pF (.lst (ws7 ++ [.ref b]))) lc = some (.lst zs) := by rw [upd_ne hlF, upd_ne (ne_obj hz7 I7.hD (fun z => by cases z))]; exact hz7
          refine ⟨_, rfl, .inl ⟨rfl, _, SqL.of hM8⟩, _, rfl, _, _, _, rfl, rfl, hM8, szlt (by omega), ?_⟩
          have kp9 := Kp.trans kp8 (kp_upd (o' := .lst (ms7 ++ [.ref b])) hM8 fun _ z => by cases z)
          refine ⟨by rw [upd_ne hlM]; exact hz8, hzs7.mono kp9, by rw [upd_ne hMW]; exact hW8, hwk7.mono kp9, _, ms7 ++ [.ref b], _, more7 ++ [r], _, rfl, by rw [← List.append_assoc]; exact I8.upd hM8 hM0 hMF, upd_same, ?_, by rw [List.length_append, List.length_singleton]; omega, fun z hz => (hcl7 z hz).mono fun u hu => ?_, fun z hz => ?_⟩
          · rw [List.map_append]
            exact (hms7.append (.one htd)).mono kp9
          · rw [← List.append_assoc]
            exact List.mem_append_left _ hu
          · rw [← List.append_assoc]
            rw [List.take_succ_eq_append_getElem hj, hr2] at hz
            rcases List.mem_append.mp hz with hz | hz
            · exact List.mem_append_left _ (hin7 z hz)
            · exact List.mem_append_right _ hz
      · rintro σ H7 ⟨hz7, hzs7, hW7, hwk7, ws7, ms7, kvs7, more7, o8, rfl, I7, hM7, hms7, hml7, hcl7, hin7⟩
        have hzl := hzs.length
        rw [List.length_map] at hzl
        rw [hzl, List.take_length] at hin7
        have hck := CPh.len
        refine ⟨hW7, hwk7, ws7, ms7, kvs7, more7, _, _, rfl, I7, hM7, hms7, by omega, fun z hz => ?_⟩
        rw [List.take_succ_eq_append_getElem hi, hh2] at hz
        rcases List.mem_append.mp hz with hz | hz
        · exact hcl7 z hz
        · rw [List.mem_singleton.mp hz]
          intro f' hf' hfe' cs hcs nm k as hm' hn hk
          obtain rfl : f' = f := nod_one (g := fun z => z.1.1) (by have h := G.ng.nod; rw [List.map_map] at h; exact h) hf' hf (by show f'.1.1 = f.1.1; rw [hfe', hfn])
          exact hin7 _ (CPh.all cs hcs nm k as hm' hn hk)
    · rintro σ H5 ⟨hW5, hwk5, ws5, ms5, kvs5, more5, o7, o8, rfl, I5, hM5, hms5, hml5, hcl5⟩
      rw [hwkl, List.take_length] at hcl5
      have hwl5 := I5.td.length
      rw [List.length_map, List.length_append] at hwl5
      refine ⟨_, rfl, _, _, rfl, .inl (SqL.of I5.hF), _, rfl, _, _, rfl, rfl, _, rfl, ?_⟩
      rw [hwl5]
      refine ite2 (fun c => ?_) (fun c => ?_)
      · exact qn _ I5.old
      · have c : ¬ (((pts.length + more5.length : Nat) : Int) > 40) := of_decide_eq_false (Bool.eq_false_iff.mpr c)
        refine ⟨_, rfl, _, ?_, pM, ms5, ws5, kvs5, more5, pts ++ more5, _, _, _, rfl, I5, hM5, hMF.symm, hms5, fun z hz => List.mem_append_right _ hz, by rw [List.length_append]; omega, by rw [List.length_append]; omega, fun z hz hn => ?_, rfl⟩
        · have hml := hms5.length
          rw [List.length_map] at hml
          rw [List.length_append]
          by_cases e : ms5 = []
          · rw [if_pos e]
            omega
          · rw [if_neg e]
            have : 0 < ms5.length := List.length_pos_iff.mpr e
            omega
        · rcases List.mem_append.mp hz with hz | hz
          · by_cases hw : z ∈ walk
            · exact hcl5 z hw
            · exact (hcl z hz hw).mono fun u hu => List.mem_append_left _ hu
          · exact absurd hz hn
end
end K04
namespace K04
open PySem PySem.Spec PyProof.Rows L2
theorem neDK {X : Cx} {K : PySem.W.Frag} (hu : X.A.units + 64 < cLine) (h : X.K = K) : OpR X (compareOp .NotEq) (rNeD K) := by subst h; exact op_neD hu
theorem order_perm {p : Ptn} {pts : List Ptn} (hn : pts.Nodup) (hm : p ∈ pts) : (p :: pts.filter fun z => decide (z ≠ p)).Perm pts := by
  induction pts with
  | nil => exact nomatch hm
  | cons x r ih =>
    rw [List.nodup_cons] at hn
    by_cases c : x = p
    · subst c
      rw [List.filter_cons_of_neg (by simp)]
      have : r.filter (fun z => decide (z ≠ x)) = r := List.filter_eq_self.mpr fun a ha => decide_eq_true fun z => hn.1 (z ▸ ha)
      rw [this]
    · rw [List.filter_cons_of_pos (by rw [decide_eq_true c])]
      have hm : p ∈ r := (List.mem_cons.mp hm).resolve_left fun z => c z.symm
      exact (List.Perm.swap _ _ _).trans ((ih hn.2 hm).cons x)
/-- the function of a point's name -/
def fnOf (pr : Pr) (q : Ptn) : (Str × Nat) × D := (pr.find? fun z => decide (z.1.1 = q.1)).getD (("", 0), .non)
def stD (pr : Pr) (q : Ptn) : D := .tup [.str (ptName q.1 q.2), .int ((fnOf pr q).1.2 : Nat), leftD q.2 (fnOf pr q).2]
theorem fnOf_mem {pr : Pr} {q : Ptn} (h : ∃ m, (q.1, m) ∈ pr.map (·.1)) : fnOf pr q ∈ pr ∧ (fnOf pr q).1.1 = q.1 := by
  unfold fnOf
  cases e : pr.find? (fun z => decide (z.1.1 = q.1)) with
  | none =>
    obtain ⟨m, hm⟩ := h
    obtain ⟨f, hf, hfe⟩ := List.mem_map.mp hm
    exact absurd (decide_eq_true (by show f.1.1 = q.1; rw [hfe])) (List.find?_eq_none.mp e f hf)
  | some f => exact ⟨List.mem_of_find?_eq_some e, of_decide_eq_true (List.find?_some (p := fun z : (Str × Nat) × D => decide (z.1.1 = q.1)) e)⟩
section
variable {P : Program} {w : World} {K : PySem.W.Frag} {mg : Str → Option Value} {base : Heap} {Ts : List Addr} {Pt : Addr} {S : Addr × List Int}

abbrev n__law_staged : List Str := ["_law_program_here", "_law_name_here", "_law_early", "_law_most", "_law_some", "_law_order", "_law_point", "_law_one", "_law_k"]
theorem sc_law_staged : FnScope n__law_staged ["_law_program_here", "_law_name_here", "_law_early", "_law_most"] (defScope s__law_staged) := ⟨rfl, rfl, rfl, by decide +kernel, rfl, by decide +kernel, by decide +kernel⟩
def spStaged : Sp := fun vs H Q _ => ∃ (v : V) (pr : Pr) (nm : Str) (e : Nat), vs = [v, .str nm, .int e, .int 40] ∧ Td H v (progD pr) ∧ PG pr ∧ (∃ m, (nm, m) ∈ pr.map (·.1)) ∧ e ≤ 6 ∧
  (∀ H', Same H H' → Q .non H') ∧ ∀ v' order H', Same H H' → Td H' v' (.tup (order.map (stD pr))) → PP pr (nm, e) order → Q v' H'
theorem ok_staged (T : Txt K mg) (dm : Def K mg "_law_staged" s__law_staged ["_law_program_here", "_law_name_here", "_law_early", "_law_most"]) (c_l_points : Cal P w K mg base 48 "_law_points" ["_law_program_here", "_law_point", "_law_most"] spPoints)
    (c_l_lates : Cal P w K mg base 1 "_law_lates" ["_law_program_here", "_law_name_here"] spLLates) (c_l_body : Cal P w K mg base 1 "_law_body" ["_law_program_here", "_law_name_here"] spBody) (c_l_left : Cal P w K mg base 46 "_law_left" ["_law_one", "_law_early"] (spLeft 6)) : Cal P w K mg base 49 "_law_staged" ["_law_program_here", "_law_name_here", "_law_early", "_law_most"] spStaged := by
  refine dm.ok sc_law_staged (fun vs H Q E h => ?_) (fun fa cdv A outer s H vs Q E hr h => ?_)
  · obtain ⟨v, pr, nm, e, rfl, _⟩ := h
    rfl
  obtain ⟨v, pr, nm, e, rfl, hv, G, hpm, hp6, qn, q⟩ := h
  refine ⟨_, (pss_cons (ps_set (i := 4) sc_law_staged.nd rfl (Or.inl rfl) (pe_cal c_l_points (hr.mono (by omega)) (pa_cons (pv 0) (pa_cons (pe_tup (pa_cons (pv 1) (pa_cons (pv 2) pa_nil))) (pa_cons (pv 3) pa_nil)))))
      (pss_cons (ps_if (pt_cmpR op_isN (pv 4) pe_non (nomark _)) (pss_one (ps_ret pe_non)) pss_nil)
      (pss_cons (ps_set (i := 5) sc_law_staged.nd rfl (Or.inl rfl) (pe_op op_cat (pe_lst (pa_cons (pe_tup (pa_cons (pv 1) (pa_cons (pv 2) pa_nil))) pa_nil)) (pe_lc (own := [("_law_point", 6)]) (g := (gName 6))  rfl sc_law_staged.nd (pi_list (pv 4)) (blkOk_by (N := n__law_staged) (sc := defScope s__law_staged) (by decide +kernel)) (fun _ _ _ _ _ => (pg_name (i := 6) sc_law_staged.nd rfl (Or.inl rfl))) (fun _ _ _ _ _ => pts_one (pt_cmpR (neDK (K := K) (hu64 hr) rfl) (pv 6) (pe_tup (pa_cons (pv 1) (pa_cons (pv 2) pa_nil))) (nomark _))) (fun _ _ _ _ _ => (pv 6)))))
      (pss_one (ps_ret (pe_callTy call_tuple_of (by rfl) T.f_tuple (by decide +kernel) (pa_cons (pe_lc (own := [("_law_one", 7), ("_law_k", 8)]) (g := (gTup K 2 (gCons (gName 7) (gCons (gName 8) gNil)))) (tt := tYes) rfl sc_law_staged.nd (pi_list (pv 5)) (blkOk_by (N := n__law_staged) (sc := defScope s__law_staged) (by decide +kernel)) (fun _ _ _ _ _ => (pg_tup rfl (pgs_cons (pg_name (i := 7) sc_law_staged.nd rfl (Or.inl rfl)) (pgs_cons (pg_name (i := 8) sc_law_staged.nd rfl (Or.inl rfl)) pgs_nil)))) (fun _ _ _ _ _ => pts_nil) (fun _ _ _ _ _ => (pe_tup (pa_cons (pe_op op_add_str (pe_op op_add_str (pv 7) pe_str) (pe_callTy call_str_int (by rfl) T.f_str (by decide +kernel) (pa_cons (pv 8) pa_nil))) (pa_cons (pe_cal c_l_lates (hr.mono (by omega)) (pa_cons (pv 0) (pa_cons (pv 7) pa_nil))) (pa_cons (pe_cal c_l_left (hr.mono (by omega)) (pa_cons (pe_cal c_l_body (hr.mono (by omega)) (pa_cons (pv 0) (pa_cons (pv 7) pa_nil))) (pa_cons (pv 8) pa_nil))) pa_nil)))))) pa_nil))))))), ?_⟩
  refine ⟨_, rfl, _, rfl, _, rfl, (by show 2 ≤ sizeLine; decide), fun pt hpt => ?_⟩
  have St := Same.new hpt (.tup [.str nm, .int e])
  have hn8 : nm ∈ names8 := by
    obtain ⟨m, hm⟩ := hpm
    exact G.ng.nm (nm, m) hm
  have tpt := td_ptS St upd_same (names8_len hn8)
  refine ⟨_, rfl, v, _, pr, (nm, e), rfl, hv.mono (Same.kp St), tpt, G, hpm, hp6, fun H1 S1 => ?_, fun l xs pts H1 S1 hl hxs PPh => ?_⟩
  · refine ⟨_, rfl, rfl, _, rfl, ?_⟩
    exact iteT (qn _ (St.trans S1))
  refine ⟨_, rfl, rfl, _, rfl, ?_⟩
  refine iteF ?_
  have S01 := St.trans S1
  have hn8' := fun z hz => G.ng.nm z hz
  have hxl := hxs.length
  rw [List.length_map] at hxl
  have hp40 := PPh.len
  refine ⟨_, rfl, _, rfl, (by show 2 ≤ sizeLine; decide), fun p1 hp1 => ⟨(by show 1 ≤ sizeLine; decide), fun p2 hp2 => ?_⟩⟩
  have Sa := Same.new hp1 (.tup [.str nm, .int e])
  have Sb := Same.new' Sa hp2 (.lst [.ref p1])
  have t1 := td_ptS Sb (Same.new hp2 _ _ _ upd_same) (names8_len hn8)
  have hp2l : (upd (upd H1 p1 (.tup [.str nm, .int e])) p2 (.lst [.ref p1])) p2 = some (.lst [.ref p1]) := upd_same
  generalize upd (upd H1 p1 (.tup [.str nm, .int e])) p2 (.lst [.ref p1]) = H2 at Sb t1 hp2l
  have hl2 := Sb _ _ hl
  refine ⟨_, rfl, l, rfl, ⟨_, SqL.of hl2⟩, fun Dl hDl => ?_⟩
  refine lc_srv (Srv.lst (P := fun H' => Same H2 H') fun H' h => SqL.of (h _ _ hl2)) (fun i H' => Same H2 H' ∧ ∃ ws, H' Dl = some (.lst ws) ∧ ws.length ≤ i ∧ Tds H' ws (((pts.take i).filter fun z => decide (z ≠ (nm, e))).map ptD)) (fun i H' h => h.1) ⟨Same.new hDl _, [], upd_same, Nat.le_refl _, .nil⟩ ?_ ?_
  · rintro i y H3 hyi ⟨S3, ws, hw, hwl, hws⟩
    obtain ⟨d, hd1, hd2, hd3⟩ := hxs.get2 hyi
    rw [List.getElem?_map] at hd1
    obtain ⟨z, hz, rfl⟩ := Option.map_eq_some_iff.mp hd1
    obtain ⟨hi, hz2⟩ := List.getElem?_eq_some_iff.mp hz
    have hzm := List.mem_of_getElem? hz
    have hz8 : z.1 ∈ names8 := by
      obtain ⟨⟨m, hm⟩, _⟩ := PPh.nm z hzm
      exact G.ng.nm (z.1, m) hm
    refine ⟨rfl, ?_⟩
    refine ⟨_, rfl, _, rfl, _, rfl, (by show 2 ≤ sizeLine; decide), fun p4 hp4 => ?_⟩
    have S4 := Same.new hp4 (.tup [.str nm, .int e])
    have t4 := td_ptS S4 upd_same (names8_len hn8)
    have tz := hd3.mono (Same.kp ((Sb.trans S3).trans S4))
    refine ⟨_, _, dp_of _ _ tz, dp_of _ _ t4, shaped_pt hz8, shaped_pt hn8, ?_⟩
    rw [eqv_pt]
    have hf : (pts.take (i + 1)).filter (fun z => decide (z ≠ (nm, e))) = (pts.take i).filter (fun z => decide (z ≠ (nm, e))) ++ if z ≠ (nm, e) then [z] else [] := by
      rw [List.take_succ_eq_append_getElem hi, List.filter_append, hz2]
      congr 1
      by_cases c : z ≠ (nm, e)
      · rw [if_pos c, List.filter_cons_of_pos (by rw [decide_eq_true c])]
        rfl
      · rw [if_neg c, List.filter_cons_of_neg (by rw [decide_eq_false c]; exact Bool.false_ne_true)]
        rfl
    refine ⟨_, rfl, ?_⟩
    rw [hf]
    by_cases c : z = (nm, e)
    · rw [decide_eq_true c, if_neg (fun h => h c), List.append_nil]
      exact iteF ⟨S3.trans S4, ws, S4 _ _ hw, by omega, hws.mono (Same.kp S4)⟩
    · rw [decide_eq_false c, if_pos c]
      have hw4 := S4 _ _ hw
      have kp := kp_upd (o' := .lst (ws ++ [y])) hw4 fun _ z => by cases z
      refine iteT ⟨_, rfl, ws, hw4, szlt (by omega), Same.mut (S3.trans S4) hDl, ws ++ [y], upd_same, by rw [List.length_append, List.length_singleton]; omega, ?_⟩
      rw [List.map_append]
      exact ((hws.mono (Same.kp S4)).mono kp).append (.one (tz.mono kp))
  · rintro H3 ⟨S3, ws, hw, hwl, hws⟩
    rw [hxl, List.take_length] at hws
    have S02 := S01.trans (Sb.trans S3)
    have hp23 := S3 _ _ hp2l
    have hwl2 := hws.length
    refine ⟨_, _, _, _, rfl, rfl, hp23, hw, sz100 (by show 1 + ws.length ≤ 1000000; omega), fun pO hpO => ?_⟩
    have SO := Same.new hpO (.lst ([.ref p1] ++ ws))
    have hO : (upd H3 pO (.lst ([.ref p1] ++ ws))) pO = some (.lst ([.ref p1] ++ ws)) := upd_same
    have tO : Tds (upd H3 pO (.lst ([.ref p1] ++ ws))) ([.ref p1] ++ ws) ((((nm, e) : Ptn) :: pts.filter fun z => decide (z ≠ (nm, e))).map ptD) := (Tds.cons (t1.mono (Same.kp S3)) hws).mono (Same.kp SO)
    have PO : PP pr (nm, e) (((nm, e) : Ptn) :: pts.filter fun z => decide (z ≠ (nm, e))) := by
      have hperm := order_perm PPh.nod PPh.mem
      exact ⟨List.mem_cons_self, hperm.nodup_iff.mpr PPh.nod, by rw [hperm.length_eq]; exact PPh.len, fun z hz => PPh.nm z (hperm.mem_iff.mp hz), fun z hz => (PPh.cl z (hperm.mem_iff.mp hz)).mono fun u hu => hperm.mem_iff.mpr hu⟩
    generalize (((nm, e) : Ptn) :: pts.filter fun z => decide (z ≠ (nm, e))) = order at tO PO
    generalize [V.ref p1] ++ ws = os at SO hO tO
    have S04 := S02.trans SO
    generalize upd H3 pO (.lst os) = H4 at SO hO tO S04
    have hol := tO.length
    rw [List.length_map] at hol
    have ho40 := PO.len
    refine ⟨_, rfl, pO, rfl, ⟨_, SqL.of hO⟩, fun Dm hDm => ?_⟩
    refine lc_srv (Srv.lst (P := fun H' => Same H4 H') fun H' h => SqL.of (h _ _ hO)) (fun i H' => Same H4 H' ∧ ∃ ws, H' Dm = some (.lst ws) ∧ ws.length ≤ i ∧ Tds H' ws ((order.take i).map (stD pr))) (fun i H' h => h.1) ⟨Same.new hDm _, [], upd_same, Nat.le_refl _, .nil⟩ ?_ ?_
    · rintro i y H5 hyi ⟨S5, ws, hw, hwl, hws⟩
      obtain ⟨d, hd1, hd2, hd3⟩ := tO.get2 hyi
      rw [List.getElem?_map] at hd1
      obtain ⟨z, hz, rfl⟩ := Option.map_eq_some_iff.mp hd1
      obtain ⟨hi, hz2⟩ := List.getElem?_eq_some_iff.mp hz
      have hzm := List.mem_of_getElem? hz
      obtain ⟨hzn, hzk⟩ := PO.nm z hzm
      obtain ⟨hf, hfn⟩ := fnOf_mem hzn
      have hz8 : z.1 ∈ names8 := by
        obtain ⟨m, hm⟩ := hzn
        exact G.ng.nm (z.1, m) hm
      obtain ⟨b, us, rfl, hb, _, hus⟩ := (hd3.mono (Same.kp S5)).tup_inv
      obtain ⟨u1, us, rfl, g1, hus⟩ := hus.cons_inv
      obtain ⟨u2, us, rfl, g2, hus⟩ := hus.cons_inv
      obtain rfl := hus.nil_inv
      obtain ⟨rfl, hzl⟩ := g1.str_inv
      obtain rfl := g2.int_inv
      have pk := pt_ok hz8 (show z.2 < most by have : most = 220 := rfl
                                               omega)
      have hkl := pk.nlen
      have hus : ("_" : Str).length = 1 := by decide
      have hv5 := hv.mono (Same.kp (S04.trans S5))
      have hmo : most = 220 := rfl
      have we := (G.body _ hf).we
      refine ⟨_, _, rfl, SqT.of hb, rfl, _, _, rfl, _, _, rfl, rfl, rfl, yesI ?_⟩
      refine ⟨_, rfl, _, _, rfl, rfl, sz100 (by rw [hus]; omega), _, rfl, (z.2 : Int), rfl, log_small (by omega), _, _, rfl, rfl, sz100 ?_, _, rfl, _, rfl, v, pr, fnOf pr z, (by show [v, V.str z.1] = [v, V.str (fnOf pr z).1.1]; rw [hfn]), hv5, hf, G.ng.nod, fun H6 S6 => ?_⟩
      · have happ : (z.1 ++ ("_" : Str)).length = z.1.length + 1 := by
          show (z.1.cps ++ ("_" : Str).cps).size = _
          rw [Array.size_append]
          rfl
        rw [happ]
        have : (numS z.2).length ≤ 10 := hkl
        show z.1.length + 1 + (numS z.2).length ≤ 1000000
        omega
      refine ⟨_, rfl, _, rfl, v, pr, fnOf pr z, (by show [v, V.str z.1] = [v, V.str (fnOf pr z).1.1]; rw [hfn]), hv5.mono (Same.kp S6), hf, G.ng.nod, fun v1 H7 S7 t7 => ?_⟩
      refine ⟨_, rfl, v1, (fnOf pr z).2, z.2, 5, (fnOf pr z).1.2, pr.map (·.1), by decide, rfl, t7, we, (fun q hq => G.ng.nm q hq), by omega, fun v2 H8 S8 t8 => ?_⟩
      refine ⟨(by show 3 ≤ sizeLine; decide), fun p9 hp9 => ?_⟩
      have S9 := Same.new hp9 (.tup [.str (ptName z.1 z.2), .int ((fnOf pr z).1.2 : Nat), v2])
      have S59 := ((S6.trans S7).trans S8).trans S9
      have hw9 := S59 _ _ hw
      refine ⟨ws, hw9, szlt (by omega), Same.mut (S5.trans S59) hDm, ws ++ [.ref p9], upd_same, by rw [List.length_append, List.length_singleton]; omega, ?_⟩
      have kp := kp_upd (o' := .lst (ws ++ [.ref p9])) hw9 fun _ z => by cases z
      rw [List.take_succ_eq_append_getElem hi, List.map_append, hz2]
      have hnl := pk.len
      exact ((hws.mono (Same.kp S59)).mono kp).append (.one (Td.mono kp (.tup upd_same (by show 3 ≤ 1000; decide) (.cons (.str _ (Nat.le_trans hnl (by decide))) (.cons (.int _) (.cons (t8.mono (Same.kp S9)) .nil))))))
    · rintro H5 ⟨S5, ws, hw, hwl, hws⟩
      rw [hol, List.take_length] at hws
      refine ⟨_, _, rfl, .inl ⟨SqL.of hw, fun pt hpt => ?_⟩⟩
      have S6 := Same.new hpt (.tup ws)
      exact q _ order _ ((S04.trans S5).trans S6) (.tup upd_same (by omega) (hws.mono (Same.kp S6))) PO
end
end K04
namespace K04
open PySem PySem.Spec PyProof.Rows L2
theorem nodF_of : ∀ (l : List D) (kvs : List (Key × V)), (l.map nameD).Nodup → (∀ d ∈ l, valV kvs (.inr (nameD d)) = none) → nodF l kvs = true
  | [], _, _, _ => rfl
  | d :: r, kvs, hn, hk => by
    rw [List.map_cons, List.nodup_cons] at hn
    show (!(valV kvs (.inr (nameD d))).isSome && nodF r (putD kvs d)) = true
    rw [hk d List.mem_cons_self, nodF_of r (putD kvs d) hn.2 fun d' hd' => ?_]
    · rfl
    · unfold putD
      rw [valV_put2, if_neg (fun z => hn.1 (by injection z with z; exact List.mem_map.mpr ⟨d', hd', z⟩))]
      exact hk d' (List.mem_cons_of_mem _ hd')
theorem lookF_ex (nm : Str) : ∀ (l : List D) (acc : Option D), (acc.isSome = true ∨ ∃ d ∈ l, nameD d = nm) → (l.foldl (fun acc d => if nm = nameD d then some d else acc) acc).isSome = true
  | [], acc, h => h.resolve_right fun ⟨d, hd, _⟩ => nomatch hd
  | d :: r, acc, h => by
    show (r.foldl _ (if nm = nameD d then some d else acc)).isSome = true
    refine lookF_ex nm r _ ?_
    by_cases c : nm = nameD d
    · rw [if_pos c]
      exact .inl rfl
    · rw [if_neg c]
      rcases h with h | ⟨x, hx, hxn⟩
      · exact .inl h
      · rcases List.mem_cons.mp hx with hx | hx
        · exact absurd (by rw [← hx, hxn]) c
        · exact .inr ⟨x, hx, hxn⟩
structure PlainOk (l : List D) : Prop where
  pl : isPlainD (.tup l) = true
  tr : ∀ d ∈ l, TrF d
  ck : ∀ d ∈ l, CK (bodyD d)
  sm : SmallP l
  sz : (D.tup l).sz ≤ 45000
  tp : ∀ d ∈ l, ∃ s L b, d = .tup [.str s, .int (L : Nat), b] ∧ s.length ≤ 20 ∧ L ≤ 4
theorem staged_plain {pr : Pr} {p : Ptn} {order : List Ptn} (G : PG pr) (PO : PP pr p order) : PlainOk (order.map (stD pr)) := by
  have hmo : most = 220 := rfl
  have hN : ∀ z ∈ pr.map (·.1), z.1 ∈ names8 := G.ng.nm
  have h8 : ∀ q ∈ order, q.1 ∈ names8 := fun q hq => by
    obtain ⟨⟨m, hm⟩, _⟩ := PO.nm q hq
    exact hN (q.1, m) hm
  have hpt : ∀ q ∈ order, PtOk q.1 q.2 := fun q hq => pt_ok (h8 q hq) (by have := (PO.nm q hq).2; omega)
  have hfm : ∀ q ∈ order, fnOf pr q ∈ pr ∧ (fnOf pr q).1.1 = q.1 := fun q hq => fnOf_mem (PO.nm q hq).1
  have hbe : ∀ q ∈ order, BE (pr.map (·.1)) (fnOf pr q).1.2 (fnOf pr q).2 := fun q hq => G.body _ (hfm q hq).1
  have hL : ∀ q ∈ order, (fnOf pr q).1.2 ≤ 2 := fun q hq => G.ng.two _ (List.mem_map.mpr ⟨_, (hfm q hq).1, rfl⟩)
  have hlp := fun q hq => left_plain (L := (fnOf pr q).1.2) (e := q.2) hN (by have := (PO.nm q hq).2; omega) (hbe q hq).we 30 (by decide)
  have hnd : ((order.map (stD pr)).map nameD).Nodup := by
    rw [List.map_map]
    refine List.pairwise_map.mpr ?_
    refine List.Pairwise.imp_of_mem (fun {a b} ha hb hab => ?_) PO.nod
    intro e
    have e : ptName a.1 a.2 = ptName b.1 b.2 := e
    obtain ⟨e1, e2⟩ := pt_inj (hpt a ha) (hpt b hb) e
    exact hab (Prod.ext e1 e2)
  have hlk : ∀ nm k, (nm, k) ∈ order → lookF (order.map (stD pr)) (ptName nm k) = some (stD pr (nm, k)) := fun nm k hm => by
    have hs : (lookF (order.map (stD pr)) (ptName nm k)).isSome = true := lookF_ex _ _ none (.inr ⟨stD pr (nm, k), List.mem_map.mpr ⟨_, hm, rfl⟩, rfl⟩)
    obtain ⟨d, hd⟩ := Option.isSome_iff_exists.mp hs
    obtain ⟨h1, h2⟩ := lookF_mem hd
    obtain ⟨z, hz, rfl⟩ := List.mem_map.mp h1
    have e : ptName z.1 z.2 = ptName nm k := h2
    obtain ⟨e1, e2⟩ := pt_inj (hpt z hz) (hpt _ hm) e
    obtain rfl : z = (nm, k) := Prod.ext e1 e2
    exact hd
  have hlen : 1 ≤ order.length := List.length_pos_of_mem PO.mem
  have h40 := PO.len
  have hsm : ∀ q ∈ order, (leftD q.2 (fnOf pr q).2).sz ≤ 400 := fun q hq => (hbe q hq).sz _
  refine ⟨?_, fun d hd => ?_, fun d hd => ?_, fun d hd => ?_, ?_, fun d hd => ?_⟩
  · show (decide (1 ≤ (order.map (stD pr)).length) && (decide ((order.map (stD pr)).length ≤ 300) && ((order.map (stD pr)).all plainF && (decide ((sizesK (order.map (stD pr))).length = (order.map (stD pr)).length) && (order.map (stD pr)).all (callsOk (sizesK (order.map (stD pr)))))))) = true
    rw [decide_eq_true (by rw [List.length_map]; exact hlen), decide_eq_true (by rw [List.length_map]; omega)]
    have h3 : (order.map (stD pr)).all plainF = true := by
      rw [List.all_eq_true]
      intro d hd
      obtain ⟨q, hq, rfl⟩ := List.mem_map.mp hd
      show (plainNm (ptName q.1 q.2) && (isIn (.int ((fnOf pr q).1.2 : Nat)) 0 4 && plainE 30 (leftD q.2 (fnOf pr q).2) ((fnOf pr q).1.2 : Nat))) = true
      rw [(hpt q hq).plain, (hlp q hq).1]
      have := hL q hq
      have e : isIn (.int ((fnOf pr q).1.2 : Nat)) 0 4 = true := by
        show (decide (0 ≤ (((fnOf pr q).1.2 : Nat) : Int)) && decide ((((fnOf pr q).1.2 : Nat) : Int) ≤ 4)) = true
        rw [decide_eq_true (by omega), decide_eq_true (by omega)]
        rfl
      rw [e]
      rfl
    have h4 : decide ((sizesK (order.map (stD pr))).length = (order.map (stD pr)).length) = true := by
      have := nodF_of _ [] hnd fun d hd => rfl
      rw [nodF_eq] at this
      have := of_decide_eq_true this
      exact decide_eq_true (this.trans (by rw [List.length_nil, Nat.zero_add]))
    have h5 : (order.map (stD pr)).all (callsOk (sizesK (order.map (stD pr)))) = true := by
      rw [List.all_eq_true]
      intro d hd
      obtain ⟨q, hq, rfl⟩ := List.mem_map.mp hd
      obtain ⟨_, cs, hcs, hca⟩ := hlp q hq
      show ((callsD 30 (leftD q.2 (fnOf pr q).2)).getD []).all _ = true
      rw [hcs]
      show cs.all _ = true
      rw [List.all_eq_true]
      intro c hc
      obtain ⟨nm, k, as, rfl, hm, hk⟩ := hca c hc
      have hkm : k < most := by have := (PO.nm q hq).2; omega
      have hin := PO.cl q hq (fnOf pr q) (hfm q hq).1 (hfm q hq).2 cs hcs nm k as hc (hN _ hm) hkm
      show decide ((valV (sizesK (order.map (stD pr))) (.inr (ptName nm k))).getD (.int (-1)) = .int as.length) = true
      rw [sizesK_look, hlk nm k hin]
      show decide (V.int ((fnOf pr (nm, k)).1.2 : Nat) = .int as.length) = true
      obtain ⟨h1, h2⟩ := hfm _ hin
      have e : (fnOf pr (nm, k)).1 = (nm, as.length) := nod_one G.ng.nod (List.mem_map.mpr ⟨_, h1, rfl⟩) hm h2
      rw [e]
      exact decide_eq_true rfl
    rw [h3, h4, h5]
    rfl
  · obtain ⟨q, hq, rfl⟩ := List.mem_map.mp hd
    exact ⟨_, _, _, rfl⟩
  · obtain ⟨q, hq, rfl⟩ := List.mem_map.mp hd
    show CK (leftD q.2 (fnOf pr q).2)
    exact left_ck (hbe q hq).we
  · obtain ⟨q, hq, rfl⟩ := List.mem_map.mp hd
    exact hsm q hq
  · show D.szs (order.map (stD pr)) + 1 ≤ 45000
    have := szs_le (l := order.map (stD pr)) (b := 1000) fun d hd => by
      obtain ⟨q, hq, rfl⟩ := List.mem_map.mp hd
      have := hsm q hq
      show D.szs [.str (ptName q.1 q.2), .int ((fnOf pr q).1.2 : Nat), leftD q.2 (fnOf pr q).2] + 1 ≤ 1000
      simp only [D.szs, D.sz]
      omega
    rw [List.length_map] at this
    have : order.length * 1000 ≤ 40 * 1000 := Nat.mul_le_mul_right _ h40
    omega
  · obtain ⟨q, hq, rfl⟩ := List.mem_map.mp hd
    exact ⟨_, _, _, rfl, (hpt q hq).len, by have := hL q hq; omega⟩
end K04
namespace K04
open PySem PySem.Spec PyProof.Rows L2
def rEqNilT (K : PySem.W.Frag) : R2 := fun x y H Q => ∃ a b xs, x = .ref a ∧ y = .ref b ∧ SqT K H a xs ∧ SqT K H b [] ∧ Q (.bl xs.isEmpty) H
theorem op_eqNilT {X : Cx} (hu : X.A.units < cLine) : OpR X (compareOp .Eq) (rEqNilT X.K) := by
  intro pins s σ H x y v u Q I rx ry h
  obtain ⟨a, b, xs, rfl, rfl, ha, hb, q⟩ := h
  cases rx
  cases ry
  obtain ⟨its, rv, pl, hz⟩ := I.tuple ha
  obtain ⟨its2, rv2, pl2, hz2⟩ := I.tuple hb
  have hl := rv.length
  have hl2 := rv2.length
  have e2 : its2 = [] := List.length_eq_zero_iff.mp hl2.symm
  subst e2
  refine SeqAt.eq_tupleAt (e := fun _ => true) pl pl2 hu (fun j _ h2 => absurd h2 (by simp)) ?_
  refine ⟨.bl xs.isEmpty, H, I, ?_, q⟩
  cases xs with
  | nil =>
    have e1 : its = [] := List.length_eq_zero_iff.mp hl.symm
    subst e1
    rfl
  | cons x r =>
    cases its with
    | nil => exact absurd hl (by simp)
    | cons y t => rfl
/-- a slice of a tuple, the whole or not -/
theorem slA {K : PySem.W.Frag} {H : Hp} {a : Addr} {xs : List V} {lo hi : Option Int} {Q : VK} (hx : H a = some (.tup xs)) (q : ∀ b H', Same H H' → H' b = some (.tup (cutV xs lo hi)) → Q (.ref b) H') : rSlA K (.ref a) lo hi H Q := by
  refine ⟨a, xs, rfl, SqT.of hx, fun h => q a H (fun _ _ h => h) ?_, fun _ p hp => q p _ (Same.new hp _) upd_same⟩
  rw [hx]
  unfold cutV
  rw [h.1, h.2, List.drop_zero, Nat.sub_zero, List.take_length]
/-- a sum of two tuples, empty or not -/
theorem catA {K : PySem.W.Frag} {H : Hp} {a b : Addr} {xs ys : List V} {Q : VK} (ha : H a = some (.tup xs)) (hb : H b = some (.tup ys)) (hz : xs.length + ys.length ≤ sizeLine) (q : ∀ c H', Same H H' → H' c = some (.tup (xs ++ ys)) → Q (.ref c) H') : rCatA K (.ref a) (.ref b) H Q := by
  refine ⟨a, b, xs, ys, rfl, rfl, SqT.of ha, SqT.of hb, hz, fun h => q b H (fun _ _ h => h) ?_, fun _ h => q a H (fun _ _ h => h) ?_, fun _ _ p hp => q p _ (Same.new hp _) upd_same⟩
  · rw [hb, h, List.nil_append]
  · rw [ha, h, List.append_nil]
theorem cut_hi' (xs : List V) (k : Nat) (h : k ≤ xs.length) : cutV xs none (some (k : Int)) = xs.take k := by
  unfold cutV
  rw [HT.sIx_none, HT.sIx_nat, List.drop_zero, Nat.sub_zero, Nat.min_eq_left h]
theorem cut_lo' (xs : List V) (k : Nat) (h : k ≤ xs.length) : cutV xs (some (k : Int)) none = xs.drop k := by
  unfold cutV
  rw [HT.sIx_none, HT.sIx_nat, Nat.min_eq_left h]
  exact List.take_of_length_le (by rw [List.length_drop]; exact Nat.le_refl _)
/-! ### one thing changed -/
def kindsD : List D := [.non, .int 3, .tup [.str "number", .int (-1)], .tup [.str "late", .int 2], .tup [.str "late", .int 4], .tup [.str "early"], .tup [.str "below", .int 3], .tup [], .bl true, .str "f_0", .str "f_01", .tup [.str "less", .tup [.str "number", .int 1], .tup [.str "number", .int 2]], .tup [.str "number", .int 1000000000000000000000000000001]]
inductive Bent : D → D → Prop
  | here (d k : D) : k ∈ kindsD → Bent d k
  | at (l : List D) (i : Nat) (d d' : D) : l[i]? = some d → Bent d d' → Bent (.tup l) (.tup (l.take i ++ [d'] ++ l.drop (i + 1)))
mutual
def D.dep : D → Nat
  | .non => 0
  | .bl _ => 0
  | .int _ => 0
  | .str _ => 0
  | .tup l => D.deps l + 1
def D.deps : List D → Nat
  | [] => 0
  | d :: r => max d.dep (D.deps r)
end
theorem deps_mem {d : D} : ∀ {l : List D}, d ∈ l → d.dep ≤ D.deps l
  | x :: r, h => by
    rw [D.deps]
    rcases List.mem_cons.mp h with e | h
    · subst e; omega
    · have := deps_mem h; omega
end K04
namespace K04
open PySem PySem.Spec PyProof.Rows L2
theorem Same.s1 {H H' : Hp} (S : Same H H') {a : Addr} {o : HO} (h : H a = some o) : H' a = some o := S _ _ h
section
variable {P : Program} {w : World} {K : PySem.W.Frag} {mg : Str → Option Value} {base : Heap} {Ts : List Addr} {Pt : Addr} {S : Addr × List Int}

abbrev n__law_bent : List Str := ["_law_row", "_law_one", "_law_kinds", "_law_at"]
theorem sc_law_bent : FnScope n__law_bent ["_law_row", "_law_one"] (defScope s__law_bent) := ⟨rfl, rfl, rfl, by decide +kernel, rfl, by decide +kernel, by decide +kernel⟩
def spBent (K : PySem.W.Frag) (S : Addr × List Int) (n : Nat) : Sp := fun vs H Q _ => ∃ (r : Addr) (v : V) (d : D), vs = [.ref r, v] ∧ Row K S H r ∧ Td H v d ∧ d.dep < n ∧ ∀ v' d' H', RFr r H H' → Row K S H' r → Td H' v' d' → Bent d d' → Q v' H'
theorem step_bent {n : Nat} (T : Txt K mg) (dm : Def K mg "_law_bent" s__law_bent ["_law_row", "_law_one"]) (c_l_taken : Cal P w K mg base 1 "_law_taken" ["_law_row", "_law_many"] (spTaken K S)) (c_l_pick : Cal P w K mg base 2 "_law_pick" ["_law_row", "_law_things"] (spPick K S))
    (c_l_bent : Cal P w K mg base (n + 2) "_law_bent" ["_law_row", "_law_one"] (spBent K S n)) : Cal P w K mg base (n + 1 + 2) "_law_bent" ["_law_row", "_law_one"] (spBent K S (n + 1)) := by
  refine dm.ok sc_law_bent (fun vs H Q E h => ?_) (fun fa cdv A outer s H vs Q E hr h => ?_)
  · obtain ⟨r, v, d, rfl, _⟩ := h
    rfl
  obtain ⟨r, v, d, rfl, hw, hv, hd, q⟩ := h
  refine ⟨_, (pss_cons (ps_if (PW.pt (pw_or (pt_not (pt_val (pe_callB call_isi (by rfl) T.f_isinstance (by decide +kernel) (pa_cons (pv 1) (pa_cons (pe_ty "tuple" T.f_tuple) pa_nil))))) (pw_or (pt_cmpR (op_eqNilT hr.units0) (pv 1) (pe_tup pa_nil) (nomark _)) (pw_or1 (pt_cmpR op_eq (pe_cal c_l_taken (hr.mono (by omega)) (pa_cons (pv 0) (pa_cons pe_int pa_nil))) pe_int (nomark _)))))) (pss_cons (ps_set (i := 2) sc_law_bent.nd rfl (Or.inl rfl) (pe_lst (pa_cons pe_non (pa_cons pe_int (pa_cons (pe_tup (pa_cons pe_str (pa_cons (pe_un un_neg pe_int) pa_nil))) (pa_cons (pe_tup (pa_cons pe_str (pa_cons pe_int pa_nil))) (pa_cons (pe_tup (pa_cons pe_str (pa_cons pe_int pa_nil))) (pa_cons (pe_tup (pa_cons pe_str pa_nil)) (pa_cons (pe_tup (pa_cons pe_str (pa_cons pe_int pa_nil))) (pa_cons (pe_tup pa_nil) (pa_cons pe_bl (pa_cons pe_str (pa_cons pe_str pa_nil)))))))))))))
      (pss_cons (ps_set (i := 2) sc_law_bent.nd rfl (Or.inl rfl) (pe_op op_cat (pv 2) (pe_lst (pa_cons (pe_tup (pa_cons pe_str (pa_cons (pe_tup (pa_cons pe_str (pa_cons pe_int pa_nil))) (pa_cons (pe_tup (pa_cons pe_str (pa_cons pe_int pa_nil))) pa_nil)))) (pa_cons (pe_tup (pa_cons pe_str (pa_cons pe_int pa_nil))) pa_nil)))))
      (pss_one (ps_ret (pe_cal c_l_pick (hr.mono (by omega)) (pa_cons (pv 0) (pa_cons (pv 2) pa_nil))))))) pss_nil)
      (pss_cons (ps_set (i := 3) sc_law_bent.nd rfl (Or.inl rfl) (pe_cal c_l_taken (hr.mono (by omega)) (pa_cons (pv 0) (pa_cons (pe_callB call_len_seq (by rfl) T.f_len PySem.boot_len (pa_cons (pv 1) pa_nil)) pa_nil))))
      (pss_one (ps_ret (pe_op op_catA (pe_op op_catA (pe_slice sl_tupA (pv 1) po_none (po_some (pv 3))) (pe_tup (pa_cons (pe_cal c_l_bent (hr.mono (by omega)) (pa_cons (pv 0) (pa_cons (pe_ix ix_tup (pv 1) (pv 3) (fun _ _ => rfl)) pa_nil))) pa_nil))) (pe_slice sl_tupA (pv 1) (po_some (pe_op op_add (pv 3) pe_int)) po_none)))))), ?_⟩
  refine ⟨_, rfl, _, _, _, _, _, rfl, .ty _, Td.tyx (hv), kit_ty (kit_tup _), _, rfl, ?_⟩
  have fr : RFr r H H := RFr.refl r H
  have leaf : d.isTup = false ∨ ∃ l, d = .tup l := by
    cases d with
    | tup l => exact .inr ⟨l, rfl⟩
    | _ => exact .inl rfl
  rcases leaf with ht | ⟨l, rfl⟩
  · rw [ht]
    refine iteT (iteT ?_)
    have f1 := fr
    have w1 := hw
    refine ⟨_, rfl, (by show 2 ≤ sizeLine; decide), fun p1 hp1 => ?_⟩
    have sp1 := Same.new hp1 (.tup [.str "number", .int (-1)])
    refine ⟨(by show 2 ≤ sizeLine; decide), fun p2 hp2 => ?_⟩
    have sp2 := Same.new hp2 (.tup [.str "late", .int 2])
    refine ⟨(by show 2 ≤ sizeLine; decide), fun p3 hp3 => ?_⟩
    have sp3 := Same.new hp3 (.tup [.str "late", .int 4])
    refine ⟨(by show 1 ≤ sizeLine; decide), fun p4 hp4 => ?_⟩
    have sp4 := Same.new hp4 (.tup [.str "early"])
    refine ⟨(by show 2 ≤ sizeLine; decide), fun p5 hp5 => ?_⟩
    have sp5 := Same.new hp5 (.tup [.str "below", .int 3])
    refine ⟨(by show 0 ≤ sizeLine; decide), fun p6 hp6 => ?_⟩
    have sp6 := Same.new hp6 (.tup [])
    refine ⟨(by show 11 ≤ sizeLine; decide), fun pa1 hpa1 => ?_⟩
    have spa1 := Same.new hpa1 (.lst [.non, .int 3, .ref p1, .ref p2, .ref p3, .ref p4, .ref p5, .ref p6, .bl true, .str "f_0", .str "f_01"])
    refine ⟨_, rfl, (by show 2 ≤ sizeLine; decide), fun p7 hp7 => ?_⟩
    have sp7 := Same.new hp7 (.tup [.str "number", .int 1])
    refine ⟨(by show 2 ≤ sizeLine; decide), fun p8 hp8 => ?_⟩
    have sp8 := Same.new hp8 (.tup [.str "number", .int 2])
    refine ⟨(by show 3 ≤ sizeLine; decide), fun p9 hp9 => ?_⟩
    have sp9 := Same.new hp9 (.tup [.str "less", .ref p7, .ref p8])
    refine ⟨(by show 2 ≤ sizeLine; decide), fun p10 hp10 => ?_⟩
    have sp10 := Same.new hp10 (.tup [.str "number", .int 1000000000000000000000000000001])
    refine ⟨(by show 2 ≤ sizeLine; decide), fun pa2 hpa2 => ?_⟩
    have spa2 := Same.new hpa2 (.lst [.ref p9, .ref p10])
    refine ⟨_, _, _, _, rfl, rfl, (spa2 _ _ (sp10 _ _ (sp9 _ _ (sp8 _ _ (sp7 _ _ upd_same))))), upd_same, (by show 13 ≤ sizeLine; decide), fun pz hpz => ?_⟩
    have spz := Same.new hpz (.lst [.non, .int 3, .ref p1, .ref p2, .ref p3, .ref p4, .ref p5, .ref p6, .bl true, .str "f_0", .str "f_01", .ref p9, .ref p10])
    have epz := spz
    have epa2 := spa2.trans epz
    have ep10 := sp10.trans epa2
    have ep9 := sp9.trans ep10
    have ep8 := sp8.trans ep9
    have ep7 := sp7.trans ep8
    have epa1 := spa1.trans ep7
    have ep6 := sp6.trans epa1
    have ep5 := sp5.trans ep6
    have ep4 := sp4.trans ep5
    have ep3 := sp3.trans ep4
    have ep2 := sp2.trans ep3
    have ep1 := sp1.trans ep2
    have t1 : Td _ (.ref p1) (.tup [.str "number", .int (-1)]) := .tup (ep2 _ _ upd_same) (by show 2 ≤ 1000; decide) (.cons (.str _ (by decide)) (.cons (.int _) .nil))
    have t2 : Td _ (.ref p2) (.tup [.str "late", .int 2]) := .tup (ep3 _ _ upd_same) (by show 2 ≤ 1000; decide) (.cons (.str _ (by decide)) (.cons (.int _) .nil))
    have t3 : Td _ (.ref p3) (.tup [.str "late", .int 4]) := .tup (ep4 _ _ upd_same) (by show 2 ≤ 1000; decide) (.cons (.str _ (by decide)) (.cons (.int _) .nil))
    have t4 : Td _ (.ref p4) (.tup [.str "early"]) := .tup (ep5 _ _ upd_same) (by show 1 ≤ 1000; decide) (.cons (.str _ (by decide)) .nil)
    have t5 : Td _ (.ref p5) (.tup [.str "below", .int 3]) := .tup (ep6 _ _ upd_same) (by show 2 ≤ 1000; decide) (.cons (.str _ (by decide)) (.cons (.int _) .nil))
    have t6 : Td _ (.ref p6) (.tup []) := .tup (epa1 _ _ upd_same) (by show 0 ≤ 1000; decide) .nil
    have t7 : Td _ (.ref p7) (.tup [.str "number", .int 1]) := .tup (ep8 _ _ upd_same) (by show 2 ≤ 1000; decide) (.cons (.str _ (by decide)) (.cons (.int _) .nil))
    have t8 : Td _ (.ref p8) (.tup [.str "number", .int 2]) := .tup (ep9 _ _ upd_same) (by show 2 ≤ 1000; decide) (.cons (.str _ (by decide)) (.cons (.int _) .nil))
    have t9 : Td _ (.ref p9) (.tup [.str "less", .tup [.str "number", .int 1], .tup [.str "number", .int 2]]) := .tup (ep10 _ _ upd_same) (by show 3 ≤ 1000; decide) (.cons (.str _ (by decide)) (.cons t7 (.cons t8 .nil)))
    have t10 : Td _ (.ref p10) (.tup [.str "number", .int 1000000000000000000000000000001]) := .tup (epa2 _ _ upd_same) (by show 2 ≤ 1000; decide) (.cons (.str _ (by decide)) (.cons (.int _) .nil))
    have tk : Tds _ [.non, .int 3, .ref p1, .ref p2, .ref p3, .ref p4, .ref p5, .ref p6, .bl true, .str "f_0", .str "f_01", .ref p9, .ref p10] kindsD := .cons .non (.cons (.int 3) (.cons t1 (.cons t2 (.cons t3 (.cons t4 (.cons t5 (.cons t6 (.cons (.bl true) (.cons (.str _ (by decide)) (.cons (.str _ (by decide)) (.cons t9 (.cons t10 .nil))))))))))))
    have wz := w1.same ep1
    have fz := f1.same ep1
    have nz := (w1.same (sp1.trans (sp2.trans (sp3.trans (sp4.trans (sp5.trans (sp6.trans (spa1.trans (sp7.trans (sp8.trans (sp9.trans (sp10.trans spa2)))))))))))).ne hpz
    refine ⟨_, rfl, _, rfl, r, pz, _, rfl, wz, nz, .inl (SqL.of upd_same), (fun z => nomatch z), (by show 13 ≤ 1000; decide), fun i x H' hx f' w' => ?_⟩
    obtain ⟨d', hd1, hd2, hd3⟩ := tk.get2 hx
    exact q x d' H' (fz.trans f') w' (hd3.mono (wz.kp f')) (.here _ _ hd2)
  obtain ⟨a, xs, rfl, ha, hal, hxs⟩ := hv.tup_inv
  refine iteF ?_
  refine ⟨_, rfl, (by show 0 ≤ sizeLine; decide), fun p0 hp0 => ?_⟩
  have s0 := Same.new hp0 (.tup ([] : List V))
  have f1 := fr.same s0
  have w1 := hw.same s0
  have ha1 := s0 _ _ ha
  refine ⟨_, _, _, rfl, rfl, SqT.of ha1, SqT.of upd_same, _, rfl, ?_⟩
  have hxs1 := hxs.mono (Same.kp s0)
  generalize upd H p0 (.tup ([] : List V)) = H1 at f1 w1 ha1 hxs1
  cases xs with
  | nil =>
    refine iteT (iteT ?_)
    refine ⟨_, rfl, (by show 2 ≤ sizeLine; decide), fun p1 hp1 => ?_⟩
    have sp1 := Same.new hp1 (.tup [.str "number", .int (-1)])
    refine ⟨(by show 2 ≤ sizeLine; decide), fun p2 hp2 => ?_⟩
    have sp2 := Same.new hp2 (.tup [.str "late", .int 2])
    refine ⟨(by show 2 ≤ sizeLine; decide), fun p3 hp3 => ?_⟩
    have sp3 := Same.new hp3 (.tup [.str "late", .int 4])
    refine ⟨(by show 1 ≤ sizeLine; decide), fun p4 hp4 => ?_⟩
    have sp4 := Same.new hp4 (.tup [.str "early"])
    refine ⟨(by show 2 ≤ sizeLine; decide), fun p5 hp5 => ?_⟩
    have sp5 := Same.new hp5 (.tup [.str "below", .int 3])
    refine ⟨(by show 0 ≤ sizeLine; decide), fun p6 hp6 => ?_⟩
    have sp6 := Same.new hp6 (.tup [])
    refine ⟨(by show 11 ≤ sizeLine; decide), fun pa1 hpa1 => ?_⟩
    have spa1 := Same.new hpa1 (.lst [.non, .int 3, .ref p1, .ref p2, .ref p3, .ref p4, .ref p5, .ref p6, .bl true, .str "f_0", .str "f_01"])
    refine ⟨_, rfl, (by show 2 ≤ sizeLine; decide), fun p7 hp7 => ?_⟩
    have sp7 := Same.new hp7 (.tup [.str "number", .int 1])
    refine ⟨(by show 2 ≤ sizeLine; decide), fun p8 hp8 => ?_⟩
    have sp8 := Same.new hp8 (.tup [.str "number", .int 2])
    refine ⟨(by show 3 ≤ sizeLine; decide), fun p9 hp9 => ?_⟩
    have sp9 := Same.new hp9 (.tup [.str "less", .ref p7, .ref p8])
    refine ⟨(by show 2 ≤ sizeLine; decide), fun p10 hp10 => ?_⟩
    have sp10 := Same.new hp10 (.tup [.str "number", .int 1000000000000000000000000000001])
    refine ⟨(by show 2 ≤ sizeLine; decide), fun pa2 hpa2 => ?_⟩
    have spa2 := Same.new hpa2 (.lst [.ref p9, .ref p10])
    refine ⟨_, _, _, _, rfl, rfl, (spa2 _ _ (sp10 _ _ (sp9 _ _ (sp8 _ _ (sp7 _ _ upd_same))))), upd_same, (by show 13 ≤ sizeLine; decide), fun pz hpz => ?_⟩
    have spz := Same.new hpz (.lst [.non, .int 3, .ref p1, .ref p2, .ref p3, .ref p4, .ref p5, .ref p6, .bl true, .str "f_0", .str "f_01", .ref p9, .ref p10])
    have epz := spz
    have epa2 := spa2.trans epz
    have ep10 := sp10.trans epa2
    have ep9 := sp9.trans ep10
    have ep8 := sp8.trans ep9
    have ep7 := sp7.trans ep8
    have epa1 := spa1.trans ep7
    have ep6 := sp6.trans epa1
    have ep5 := sp5.trans ep6
    have ep4 := sp4.trans ep5
    have ep3 := sp3.trans ep4
    have ep2 := sp2.trans ep3
    have ep1 := sp1.trans ep2
    have t1 : Td _ (.ref p1) (.tup [.str "number", .int (-1)]) := .tup (ep2 _ _ upd_same) (by show 2 ≤ 1000; decide) (.cons (.str _ (by decide)) (.cons (.int _) .nil))
    have t2 : Td _ (.ref p2) (.tup [.str "late", .int 2]) := .tup (ep3 _ _ upd_same) (by show 2 ≤ 1000; decide) (.cons (.str _ (by decide)) (.cons (.int _) .nil))
    have t3 : Td _ (.ref p3) (.tup [.str "late", .int 4]) := .tup (ep4 _ _ upd_same) (by show 2 ≤ 1000; decide) (.cons (.str _ (by decide)) (.cons (.int _) .nil))
    have t4 : Td _ (.ref p4) (.tup [.str "early"]) := .tup (ep5 _ _ upd_same) (by show 1 ≤ 1000; decide) (.cons (.str _ (by decide)) .nil)
    have t5 : Td _ (.ref p5) (.tup [.str "below", .int 3]) := .tup (ep6 _ _ upd_same) (by show 2 ≤ 1000; decide) (.cons (.str _ (by decide)) (.cons (.int _) .nil))
    have t6 : Td _ (.ref p6) (.tup []) := .tup (epa1 _ _ upd_same) (by show 0 ≤ 1000; decide) .nil
    have t7 : Td _ (.ref p7) (.tup [.str "number", .int 1]) := .tup (ep8 _ _ upd_same) (by show 2 ≤ 1000; decide) (.cons (.str _ (by decide)) (.cons (.int _) .nil))
    have t8 : Td _ (.ref p8) (.tup [.str "number", .int 2]) := .tup (ep9 _ _ upd_same) (by show 2 ≤ 1000; decide) (.cons (.str _ (by decide)) (.cons (.int _) .nil))
    have t9 : Td _ (.ref p9) (.tup [.str "less", .tup [.str "number", .int 1], .tup [.str "number", .int 2]]) := .tup (ep10 _ _ upd_same) (by show 3 ≤ 1000; decide) (.cons (.str _ (by decide)) (.cons t7 (.cons t8 .nil)))
    have t10 : Td _ (.ref p10) (.tup [.str "number", .int 1000000000000000000000000000001]) := .tup (epa2 _ _ upd_same) (by show 2 ≤ 1000; decide) (.cons (.str _ (by decide)) (.cons (.int _) .nil))
    have tk : Tds _ [.non, .int 3, .ref p1, .ref p2, .ref p3, .ref p4, .ref p5, .ref p6, .bl true, .str "f_0", .str "f_01", .ref p9, .ref p10] kindsD := .cons .non (.cons (.int 3) (.cons t1 (.cons t2 (.cons t3 (.cons t4 (.cons t5 (.cons t6 (.cons (.bl true) (.cons (.str _ (by decide)) (.cons (.str _ (by decide)) (.cons t9 (.cons t10 .nil))))))))))))
    have wz := w1.same ep1
    have fz := f1.same ep1
    have nz := (w1.same (sp1.trans (sp2.trans (sp3.trans (sp4.trans (sp5.trans (sp6.trans (spa1.trans (sp7.trans (sp8.trans (sp9.trans (sp10.trans spa2)))))))))))).ne hpz
    refine ⟨_, rfl, _, rfl, r, pz, _, rfl, wz, nz, .inl (SqL.of upd_same), (fun z => nomatch z), (by show 13 ≤ 1000; decide), fun i x H' hx f' w' => ?_⟩
    obtain ⟨d', hd1, hd2, hd3⟩ := tk.get2 hx
    exact q x d' H' (fz.trans f') w' (hd3.mono (wz.kp f')) (.here _ _ hd2)
  | cons x0 xr =>
    have hne : (x0 :: xr).isEmpty = false := rfl
    rw [hne]
    refine iteF ?_
    generalize hxg : x0 :: xr = xs at ha ha1 hal hxs hxs1
    refine ⟨_, rfl, r, 3, rfl, w1, by decide, by decide, fun k H2 hk f2 w2 => ?_⟩
    refine ⟨rfl, _, rfl, ?_⟩
    have f1 := f1.trans f2
    have kp2 := w1.kp f2
    have w1 := w2
    have ha2 := kp2 _ _ ha1
    have hxs2 := hxs1.mono kp2
    refine ite2 (fun c => ?_) (fun c => ?_)
    · refine ⟨_, rfl, (by show 2 ≤ sizeLine; decide), fun p1 hp1 => ?_⟩
      have sp1 := Same.new hp1 (.tup [.str "number", .int (-1)])
      refine ⟨(by show 2 ≤ sizeLine; decide), fun p2 hp2 => ?_⟩
      have sp2 := Same.new hp2 (.tup [.str "late", .int 2])
      refine ⟨(by show 2 ≤ sizeLine; decide), fun p3 hp3 => ?_⟩
      have sp3 := Same.new hp3 (.tup [.str "late", .int 4])
      refine ⟨(by show 1 ≤ sizeLine; decide), fun p4 hp4 => ?_⟩
      have sp4 := Same.new hp4 (.tup [.str "early"])
      refine ⟨(by show 2 ≤ sizeLine; decide), fun p5 hp5 => ?_⟩
      have sp5 := Same.new hp5 (.tup [.str "below", .int 3])
      refine ⟨(by show 0 ≤ sizeLine; decide), fun p6 hp6 => ?_⟩
      have sp6 := Same.new hp6 (.tup [])
      refine ⟨(by show 11 ≤ sizeLine; decide), fun pa1 hpa1 => ?_⟩
      have spa1 := Same.new hpa1 (.lst [.non, .int 3, .ref p1, .ref p2, .ref p3, .ref p4, .ref p5, .ref p6, .bl true, .str "f_0", .str "f_01"])
      refine ⟨_, rfl, (by show 2 ≤ sizeLine; decide), fun p7 hp7 => ?_⟩
      have sp7 := Same.new hp7 (.tup [.str "number", .int 1])
      refine ⟨(by show 2 ≤ sizeLine; decide), fun p8 hp8 => ?_⟩
      have sp8 := Same.new hp8 (.tup [.str "number", .int 2])
      refine ⟨(by show 3 ≤ sizeLine; decide), fun p9 hp9 => ?_⟩
      have sp9 := Same.new hp9 (.tup [.str "less", .ref p7, .ref p8])
      refine ⟨(by show 2 ≤ sizeLine; decide), fun p10 hp10 => ?_⟩
      have sp10 := Same.new hp10 (.tup [.str "number", .int 1000000000000000000000000000001])
      refine ⟨(by show 2 ≤ sizeLine; decide), fun pa2 hpa2 => ?_⟩
      have spa2 := Same.new hpa2 (.lst [.ref p9, .ref p10])
      refine ⟨_, _, _, _, rfl, rfl, (spa2 _ _ (sp10 _ _ (sp9 _ _ (sp8 _ _ (sp7 _ _ upd_same))))), upd_same, (by show 13 ≤ sizeLine; decide), fun pz hpz => ?_⟩
      have spz := Same.new hpz (.lst [.non, .int 3, .ref p1, .ref p2, .ref p3, .ref p4, .ref p5, .ref p6, .bl true, .str "f_0", .str "f_01", .ref p9, .ref p10])
      have epz := spz
      have epa2 := spa2.trans epz
      have ep10 := sp10.trans epa2
      have ep9 := sp9.trans ep10
      have ep8 := sp8.trans ep9
      have ep7 := sp7.trans ep8
      have epa1 := spa1.trans ep7
      have ep6 := sp6.trans epa1
      have ep5 := sp5.trans ep6
      have ep4 := sp4.trans ep5
      have ep3 := sp3.trans ep4
      have ep2 := sp2.trans ep3
      have ep1 := sp1.trans ep2
      have t1 : Td _ (.ref p1) (.tup [.str "number", .int (-1)]) := .tup (ep2 _ _ upd_same) (by show 2 ≤ 1000; decide) (.cons (.str _ (by decide)) (.cons (.int _) .nil))
      have t2 : Td _ (.ref p2) (.tup [.str "late", .int 2]) := .tup (ep3 _ _ upd_same) (by show 2 ≤ 1000; decide) (.cons (.str _ (by decide)) (.cons (.int _) .nil))
      have t3 : Td _ (.ref p3) (.tup [.str "late", .int 4]) := .tup (ep4 _ _ upd_same) (by show 2 ≤ 1000; decide) (.cons (.str _ (by decide)) (.cons (.int _) .nil))
      have t4 : Td _ (.ref p4) (.tup [.str "early"]) := .tup (ep5 _ _ upd_same) (by show 1 ≤ 1000; decide) (.cons (.str _ (by decide)) .nil)
      have t5 : Td _ (.ref p5) (.tup [.str "below", .int 3]) := .tup (ep6 _ _ upd_same) (by show 2 ≤ 1000; decide) (.cons (.str _ (by decide)) (.cons (.int _) .nil))
      have t6 : Td _ (.ref p6) (.tup []) := .tup (epa1 _ _ upd_same) (by show 0 ≤ 1000; decide) .nil
      have t7 : Td _ (.ref p7) (.tup [.str "number", .int 1]) := .tup (ep8 _ _ upd_same) (by show 2 ≤ 1000; decide) (.cons (.str _ (by decide)) (.cons (.int _) .nil))
      have t8 : Td _ (.ref p8) (.tup [.str "number", .int 2]) := .tup (ep9 _ _ upd_same) (by show 2 ≤ 1000; decide) (.cons (.str _ (by decide)) (.cons (.int _) .nil))
      have t9 : Td _ (.ref p9) (.tup [.str "less", .tup [.str "number", .int 1], .tup [.str "number", .int 2]]) := .tup (ep10 _ _ upd_same) (by show 3 ≤ 1000; decide) (.cons (.str _ (by decide)) (.cons t7 (.cons t8 .nil)))
      have t10 : Td _ (.ref p10) (.tup [.str "number", .int 1000000000000000000000000000001]) := .tup (epa2 _ _ upd_same) (by show 2 ≤ 1000; decide) (.cons (.str _ (by decide)) (.cons (.int _) .nil))
      have tk : Tds _ [.non, .int 3, .ref p1, .ref p2, .ref p3, .ref p4, .ref p5, .ref p6, .bl true, .str "f_0", .str "f_01", .ref p9, .ref p10] kindsD := .cons .non (.cons (.int 3) (.cons t1 (.cons t2 (.cons t3 (.cons t4 (.cons t5 (.cons t6 (.cons (.bl true) (.cons (.str _ (by decide)) (.cons (.str _ (by decide)) (.cons t9 (.cons t10 .nil))))))))))))
      have wz := w1.same ep1
      have fz := f1.same ep1
      have nz := (w1.same (sp1.trans (sp2.trans (sp3.trans (sp4.trans (sp5.trans (sp6.trans (spa1.trans (sp7.trans (sp8.trans (sp9.trans (sp10.trans spa2)))))))))))).ne hpz
      refine ⟨_, rfl, _, rfl, r, pz, _, rfl, wz, nz, .inl (SqL.of upd_same), (fun z => nomatch z), (by show 13 ≤ 1000; decide), fun i x H' hx f' w' => ?_⟩
      obtain ⟨d', hd1, hd2, hd3⟩ := tk.get2 hx
      exact q x d' H' (fz.trans f') w' (hd3.mono (wz.kp f')) (.here _ _ hd2)
    · have hpos : 0 < xs.length := by rw [← hxg]; exact Nat.succ_pos _
      refine ⟨_, rfl, _, rfl, _, _, rfl, .inr (SqT.of ha2), r, xs.length, rfl, w1, hpos, hal, fun at_ H3 hat f3 w3 => ?_⟩
      have kp3 := w1.kp f3
      have ha3 := kp3 _ _ ha2
      have hxs3 := hxs2.mono kp3
      have f3 := f1.trans f3
      obtain ⟨x, hx⟩ : ∃ x, xs[at_]? = some x := ⟨xs[at_], List.getElem?_eq_getElem hat⟩
      obtain ⟨dx, hdx, hdm, tdx⟩ := hxs3.get2 hx
      have hdep : dx.dep < n := by
        have := deps_mem hdm
        rw [D.dep] at hd
        omega
      refine ⟨_, rfl, _, rfl, _, rfl, slA ha3 fun b1 H4 S4 hb1 => ?_⟩
      have w4 := w3.same S4
      have ha4 := S4 _ _ ha3
      refine ⟨_, rfl, _, rfl, _, rfl, _, _, _, _, rfl, rfl, SqT.of (ha4), atI_nat hx, r, x, dx, rfl, w4, tdx.mono (Same.kp S4), hdep, fun v5 d5 H5 f5 w5 t5 hb5 => ?_⟩
      have kp5 := w4.kp f5
      refine ⟨(by show 1 ≤ sizeLine; decide), fun p6 hp6 => ?_⟩
      have S6 := Same.new hp6 (.tup [v5])
      have hb6 := S6 _ _ (kp5 _ _ hb1)
      rw [cut_hi' xs at_ (by omega)] at hb6
      refine catA hb6 upd_same (sz100 (by rw [List.length_take]; show min at_ xs.length + 1 ≤ 1000000; omega)) fun c7 H7 S7 hc7 => ?_
      have ha7 := S7 _ _ (S6 _ _ (kp5 _ _ ha4))
      refine ⟨_, rfl, _, rfl, _, _, rfl, rfl, _, rfl, ?_⟩
      unfold tNoPart
      refine slA ha7 fun b8 H8 S8 hb8 => ?_
      rw [show (at_ : Int) + 1 = ((at_ + 1 : Nat) : Int) from rfl, cut_lo' xs (at_ + 1) (by omega)] at hb8
      have hc8 := S8 _ _ hc7
      refine catA hc8 hb8 (sz100 ?_) fun c9 H9 S9 hc9 => ?_
      · rw [List.length_append, List.length_take, List.length_drop]
        show min at_ xs.length + 1 + _ ≤ 1000000
        omega
      have S69 := ((S6.trans S7).trans S8).trans S9
      have kp39 : Kp H3 H9 := Kp.trans (Same.kp S4) (Kp.trans kp5 (Same.kp S69))
      have hxs9 := hxs3.mono kp39
      refine q _ _ H9 (((f3.same S4).trans f5).same S69) (w5.same S69) (.tup hc9 ?_ (((hxs9.take at_).append (.one (t5.mono (Same.kp S69)))).append (hxs9.drop (at_ + 1)))) (.at _ _ _ _ hdx hb5)
      rw [List.length_append, List.length_append, List.length_take, List.length_drop]
      show min at_ xs.length + 1 + _ ≤ 1000
      omega
theorem ok_bent (T : Txt K mg) (dm : Def K mg "_law_bent" s__law_bent ["_law_row", "_law_one"]) (c_l_taken : Cal P w K mg base 1 "_law_taken" ["_law_row", "_law_many"] (spTaken K S)) (c_l_pick : Cal P w K mg base 2 "_law_pick" ["_law_row", "_law_things"] (spPick K S)) :
    ∀ n : Nat, Cal P w K mg base (n + 2) "_law_bent" ["_law_row", "_law_one"] (spBent K S n)
  | 0 => (Cal.none dm fun vs H Q E ⟨_, _, d, _, _, _, h, _⟩ => absurd h (Nat.not_lt_zero _)).mono (by omega)
  | n + 1 => step_bent T dm c_l_taken c_l_pick (ok_bent T dm c_l_taken c_l_pick n)
end
end K04
namespace K04
open PySem PySem.Spec PyProof.Rows L2
theorem left_dep {N : List (Str × Nat)} {L : Nat} {e : Int} {n : Nat} {d : D} (w : WE N L n d) : (leftD e d).dep ≤ 2 * n + 1 := by
  induction w with
  | num n i hi =>
    rw [left_num]
    simp only [D.dep, D.deps]
    omega
  | early n =>
    rw [left_early]
    simp only [D.dep, D.deps]
    omega
  | late n i hi =>
    rw [left_late]
    simp only [D.dep, D.deps]
    omega
  | bin n k x y hk _ _ hx hy =>
    rw [left_bin]
    split
    · simp only [D.dep, D.deps]
      omega
    · simp only [D.dep, D.deps]
      omega
  | ifE n t x y ht _ _ hx hy =>
    rw [left_test e x y ht]
    split <;> omega
  | ifL n u z x y _ _ hez _ _ hu hz hx hy =>
    rw [left_less]
    simp only [D.dep, D.deps]
    omega
  | call n nm mv as hm hl hmv _ ih =>
    rw [left_call]
    simp only [D.dep, D.deps]
    have h1 : D.deps (as.map (leftD e)) ≤ 2 * (n - 1) + 1 := by
      have : ∀ l : List D, (∀ d ∈ l, d.dep ≤ 2 * (n - 1) + 1) → D.deps l ≤ 2 * (n - 1) + 1 := by
        intro l
        induction l with
        | nil =>
          intro _
          rw [D.deps]
          omega
        | cons d r ih =>
          intro h
          rw [D.deps]
          have := h d List.mem_cons_self
          have := ih fun x hx => h x (List.mem_cons_of_mem _ hx)
          omega
      refine this _ fun d hd => ?_
      obtain ⟨a, ha, rfl⟩ := List.mem_map.mp hd
      exact ih a ha
    omega
/-- the shapes that a plain expression has at its calls and tests -/
inductive SG : D → Prop
  | leaf (k : Str) (i : Int) : k ≠ "call" → k ≠ "if" → SG (.tup [.str k, .int i])
  | bin (k : Str) (x y : D) : k ≠ "call" → k ≠ "if" → SG x → SG y → SG (.tup [.str k, x, y])
  | call (nm : Str) (as : List D) : (∀ a ∈ as, SG a) → SG (.tup [.str "call", .str nm, .tup as])
  | ite (u z x y : D) : SG u → SG z → SG x → SG y → SG (.tup [.str "if", .tup [.str "less", u, z], x, y])
theorem GE.sg {l : List D} {L : Nat} {d : D} (h : GE l L d) : SG d := by
  induction h with
  | num i _ => exact .leaf _ _ (by decide) (by decide)
  | late i _ => exact .leaf _ _ (by decide) (by decide)
  | bin k x y hk _ _ hx hy => exact .bin k x y (by rcases hk with rfl | rfl | rfl <;> decide) (by rcases hk with rfl | rfl | rfl <;> decide) hx hy
  | call nm as f _ _ _ _ ih => exact .call nm as ih
  | ite u z x y _ _ _ _ hu hz hx hy => exact .ite u z x y hu hz hx hy
theorem ck_of {h : D} {r : List D} (h1 : h ≠ .str "call") (h2 : h ≠ .str "if") (hh : CK h) (hr : CKs r) : CK (.tup (h :: r)) := by
  rw [CK]
  refine ⟨fun x t e => (h1 (by injection e)).elim, fun x t u e => (h2 (by injection e)).elim, ?_⟩
  rw [CKs]
  exact ⟨hh, hr⟩
theorem ck_str (s : Str) : CK (.str s) := by simp only [CK]
theorem ck_int (s : Int) : CK (.int s) := by simp only [CK]
theorem ck_nil : CKs [] := by simp only [CKs]
theorem ck_cons {d : D} {r : List D} (h : CK d) (hr : CKs r) : CKs (d :: r) := by
  rw [CKs]
  exact ⟨h, hr⟩
theorem str_ne {a b : Str} (h : a ≠ b) : D.str a ≠ D.str b := fun z => h (by injection z)
theorem kinds_ck : ∀ k ∈ kindsD, CK k := by
  intro k hk
  have two : ∀ (s : Str) (i : Int), s ≠ "call" → s ≠ "if" → CK (.tup [.str s, .int i]) := fun s i h1 h2 => ck_of (str_ne h1) (str_ne h2) (ck_str s) (ck_cons (ck_int i) ck_nil)
  unfold kindsD at hk
  simp only [List.mem_cons, List.not_mem_nil, or_false] at hk
  rcases hk with rfl | rfl | rfl | rfl | rfl | rfl | rfl | rfl | rfl | rfl | rfl | rfl | rfl
  · simp only [CK]
  · exact ck_int _
  · exact two _ _ (by decide) (by decide)
  · exact two _ _ (by decide) (by decide)
  · exact two _ _ (by decide) (by decide)
  · exact ck_of (str_ne (by decide)) (str_ne (by decide)) (ck_str _) ck_nil
  · exact two _ _ (by decide) (by decide)
  · rw [CK]
    exact ⟨(fun x r e => by cases e), (fun h t r e => by cases e), ck_nil⟩
  · simp only [CK]
  · exact ck_str _
  · exact ck_str _
  · exact ck_of (str_ne (by decide)) (str_ne (by decide)) (ck_str _) (ck_cons (two _ _ (by decide) (by decide)) (ck_cons (two _ _ (by decide) (by decide)) ck_nil))
  · exact two _ _ (by decide) (by decide)
theorem kinds_head : ∀ k ∈ kindsD, k ≠ .str "call" ∧ k ≠ .str "if" := by
  intro k hk
  unfold kindsD at hk
  simp only [List.mem_cons, List.not_mem_nil, or_false] at hk
  rcases hk with rfl | rfl | rfl | rfl | rfl | rfl | rfl | rfl | rfl | rfl | rfl | rfl | rfl
  all_goals first
    | exact ⟨str_ne (by decide), str_ne (by decide)⟩
    | exact ⟨(fun z => by cases z), (fun z => by cases z)⟩
theorem kinds_key : ∀ k ∈ kindsD, k.key.depth ≤ 8 := by decide +kernel
theorem kinds_shaped : ∀ k ∈ kindsD, SeqAt.shaped k.pd = true := by decide +kernel
theorem kinds_hd : ∀ k ∈ kindsD, ∀ h t, k = .tup (h :: t) → SeqAt.shaped h.pd = true := by
  intro k hk h t e
  unfold kindsD at hk
  simp only [List.mem_cons, List.not_mem_nil, or_false] at hk
  rcases hk with rfl | rfl | rfl | rfl | rfl | rfl | rfl | rfl | rfl | rfl | rfl | rfl | rfl
  all_goals first
    | (injection e with e; injection e with e _; subst e; decide +kernel)
    | (cases e; done)
    | (injection e with e; cases e; done)
theorem Bent.leafy {d d' : D} (h : Bent d d') (ht : d.isTup = false) : d' ∈ kindsD := by
  cases h with
  | here _ _ hk => exact hk
  | «at» l i d d' _ _ => cases ht
theorem SG.ck {d : D} (h : SG d) : CK d := by
  induction h with
  | leaf k i h1 h2 => exact ck_of (str_ne h1) (str_ne h2) (ck_str k) (ck_cons (ck_int i) ck_nil)
  | bin k x y h1 h2 _ _ hx hy => exact ck_of (str_ne h1) (str_ne h2) (ck_str k) (ck_cons hx (ck_cons hy ck_nil))
  | call nm as has ih =>
    rw [CK]
    refine ⟨fun x r e => ?_, fun x t r e => ?_, ck_cons (ck_str _) (ck_cons (ck_str _) (ck_cons ?_ ck_nil))⟩
    · injection e with _ e
      injection e with e _
      subst e
      show (0 : Nat) ≤ 8
      omega
    · injection e with e _
      injection e with e
      exact absurd e (by decide)
    · cases as with
      | nil =>
        rw [CK]
        exact ⟨(fun x r e => by cases e), (fun h t r e => by cases e), ck_nil⟩
      | cons a r =>
        have all : ∀ l : List D, (∀ d ∈ l, CK d) → CKs l := by
          intro l
          induction l with
          | nil => exact fun _ => ck_nil
          | cons d r ih => exact fun h => ck_cons (h d List.mem_cons_self) (ih fun x hx => h x (List.mem_cons_of_mem _ hx))
        have ha := has a List.mem_cons_self
        have hne : ∀ s, a ≠ .str s := fun s z => by
          rw [z] at ha
          cases ha
        exact ck_of (hne _) (hne _) (ih a List.mem_cons_self) (all r fun x hx => ih x (List.mem_cons_of_mem _ hx))
  | ite u z x y _ _ _ _ hu hz hx hy =>
    rw [CK]
    refine ⟨fun x r e => ?_, fun h t r e => ?_, ck_cons (ck_str _) (ck_cons (ck_of (str_ne (by decide)) (str_ne (by decide)) (ck_str _) (ck_cons hu (ck_cons hz ck_nil))) (ck_cons hx (ck_cons hy ck_nil)))⟩
    · injection e with e _
      injection e with e
      exact absurd e (by decide)
    · injection e with _ e
      injection e with e _
      injection e with e
      injection e with e _
      subst e
      decide +kernel
theorem kinds_sz : ∀ k ∈ kindsD, k.sz ≤ 10 := by decide +kernel
theorem Bent.sz {d d' : D} (h : Bent d d') : d'.sz ≤ d.sz + 10 := by
  induction h with
  | here d k hk =>
    have := kinds_sz k hk
    omega
  | «at» l i d d' hd _ ih =>
    have key : ∀ (l : List D) (i : Nat), l[i]? = some d → D.szs (l.take i ++ [d'] ++ l.drop (i + 1)) + d.sz = D.szs l + d'.sz := by
      intro l
      induction l with
      | nil => intro i h; exact nomatch h
      | cons x r ihr =>
        intro i h
        cases i with
        | zero =>
          injection h with h
          subst h
          show D.szs (d' :: r) + x.sz = D.szs (x :: r) + d'.sz
          rw [D.szs, D.szs]
          omega
        | succ i =>
          have := ihr i h
          show D.szs (x :: (r.take i ++ [d'] ++ r.drop (i + 1))) + d.sz = _
          rw [D.szs, D.szs]
          omega
    have := key l i hd
    rw [D.sz, D.sz]
    omega
theorem ck_all : ∀ l : List D, (∀ d ∈ l, CK d) → CKs l
  | [], _ => ck_nil
  | d :: r, h => ck_cons (h d List.mem_cons_self) (ck_all r fun x hx => h x (List.mem_cons_of_mem _ hx))
theorem ck_args {as : List D} {d' : D} (hs : ∀ a ∈ as, SG a) (ih : ∀ a ∈ as, ∀ d', Bent a d' → CK d') (h : Bent (.tup as) d') : CK d' := by
  cases h with
  | here _ _ hk => exact kinds_ck _ hk
  | «at» l i d d' hd hb =>
    have hm := List.mem_of_getElem? hd
    have hne : ∀ s, d' ≠ .str s ∨ d' ∈ kindsD := fun s => by
      cases hb with
      | here _ _ hk => exact .inr hk
      | «at» _ _ _ _ _ _ => exact .inl fun z => by cases z
    have hc : d' ≠ .str "call" := (hne "call").elim id fun hk => (kinds_head _ hk).1
    have hi : d' ≠ .str "if" := (hne "if").elim id fun hk => (kinds_head _ hk).2
    have hall : ∀ x ∈ as.take i ++ [d'] ++ as.drop (i + 1), CK x ∧ x ≠ .str "call" ∧ x ≠ .str "if" := by
      have hold : ∀ x ∈ as, CK x ∧ x ≠ .str "call" ∧ x ≠ .str "if" := fun x hx => by
        have := hs x hx
        refine ⟨this.ck, fun z => ?_, fun z => ?_⟩
        · rw [z] at this
          cases this
        · rw [z] at this
          cases this
      intro x hx
      rcases List.mem_append.mp hx with hx | hx
      · rcases List.mem_append.mp hx with hx | hx
        · exact hold x (List.mem_of_mem_take hx)
        · rw [List.mem_singleton] at hx
          subst hx
          exact ⟨ih d hm _ hb, hc, hi⟩
      · exact hold x (List.mem_of_mem_drop hx)
    generalize as.take i ++ [d'] ++ as.drop (i + 1) = m at hall
    cases m with
    | nil =>
      rw [CK]
      exact ⟨(fun x r e => by cases e), (fun h t r e => by cases e), ck_nil⟩
    | cons x r =>
      obtain ⟨h1, h2, h3⟩ := hall x List.mem_cons_self
      exact ck_of h2 h3 h1 (ck_all r fun y hy => (hall y (List.mem_cons_of_mem _ hy)).1)
theorem Bent.ck {d : D} (h : SG d) : ∀ d', Bent d d' → CK d' := by
  induction h with
  | leaf k i h1 h2 =>
    intro d' hb
    cases hb with
    | here _ _ hk => exact kinds_ck _ hk
    | «at» l j d d' hd hb =>
      match j, hd with
      | 0, hd =>
        injection hd with hd
        have hk := hb.leafy (by rw [← hd]; rfl)
        exact ck_of (kinds_head _ hk).1 (kinds_head _ hk).2 (kinds_ck _ hk) (ck_cons (ck_int i) ck_nil)
      | 1, hd =>
        injection hd with hd
        have hk := hb.leafy (by rw [← hd]; rfl)
        exact ck_of (str_ne h1) (str_ne h2) (ck_str _) (ck_cons (kinds_ck _ hk) ck_nil)
  | bin k x y h1 h2 sx sy hx hy =>
    intro d' hb
    cases hb with
    | here _ _ hk => exact kinds_ck _ hk
    | «at» l j d d' hd hb =>
      match j, hd with
      | 0, hd =>
        injection hd with hd
        have hk := hb.leafy (by rw [← hd]; rfl)
        exact ck_of (kinds_head _ hk).1 (kinds_head _ hk).2 (kinds_ck _ hk) (ck_cons sx.ck (ck_cons sy.ck ck_nil))
      | 1, hd =>
        injection hd with hd
        subst hd
        exact ck_of (str_ne h1) (str_ne h2) (ck_str _) (ck_cons (hx _ hb) (ck_cons sy.ck ck_nil))
      | 2, hd =>
        injection hd with hd
        subst hd
        exact ck_of (str_ne h1) (str_ne h2) (ck_str _) (ck_cons sx.ck (ck_cons (hy _ hb) ck_nil))
  | call nm as has ih =>
    intro d' hb
    have hA : CK (.tup as) := by
      have := (SG.call nm as has).ck
      rw [CK] at this
      exact CKs.mem this.2.2 (.tail _ (.tail _ (.head _)))
    cases hb with
    | here _ _ hk => exact kinds_ck _ hk
    | «at» l j d d' hd hb =>
      have hcall : ∀ x y, x.key.depth ≤ 8 → CK x → CK y → CK (.tup [.str "call", x, y]) := fun x y hd hx hy => by
        rw [CK]
        refine ⟨fun x r e => ?_, fun x t r e => ?_, ck_cons (ck_str _) (ck_cons hx (ck_cons hy ck_nil))⟩
        · injection e with _ e
          injection e with e _
          rw [← e]
          exact hd
        · injection e with e _
          injection e with e
          exact absurd e (by decide)
      match j, hd with
      | 0, hd =>
        injection hd with hd
        have hk := hb.leafy (by rw [← hd]; rfl)
        exact ck_of (kinds_head _ hk).1 (kinds_head _ hk).2 (kinds_ck _ hk) (ck_cons (ck_str _) (ck_cons hA ck_nil))
      | 1, hd =>
        injection hd with hd
        have hk := hb.leafy (by rw [← hd]; rfl)
        exact hcall _ _ (kinds_key _ hk) (kinds_ck _ hk) hA
      | 2, hd =>
        injection hd with hd
        subst hd
        exact hcall _ _ (by show (0 : Nat) ≤ 8; omega) (ck_str _) (ck_args has ih hb)
  | ite u z x y su sz sx sy hu hz hx hy =>
    intro d' hb
    have hif : ∀ t x y, (∀ h r, t = .tup (h :: r) → SeqAt.shaped h.pd = true) → CK t → CK x → CK y → CK (.tup [.str "if", t, x, y]) := fun t x y hd ht hx hy => by
      rw [CK]
      refine ⟨fun x r e => ?_, fun x t r e => ?_, ck_cons (ck_str _) (ck_cons ht (ck_cons hx (ck_cons hy ck_nil)))⟩
      · injection e with e _
        injection e with e
        exact absurd e (by decide)
      · injection e with _ e
        injection e with e _
        exact hd _ _ e
    have hless : ∀ u z, CK u → CK z → CK (.tup [.str "less", u, z]) := fun u z hu hz => ck_of (str_ne (by decide)) (str_ne (by decide)) (ck_str _) (ck_cons hu (ck_cons hz ck_nil))
    have sless : ∀ (u z h : D) (r : List D), D.tup [.str "less", u, z] = .tup (h :: r) → SeqAt.shaped h.pd = true := fun u z h r e => by
      injection e with e
      injection e with e _
      subst e
      decide +kernel
    cases hb with
    | here _ _ hk => exact kinds_ck _ hk
    | «at» l j d d' hd hb =>
      match j, hd with
      | 0, hd =>
        injection hd with hd
        have hk := hb.leafy (by rw [← hd]; rfl)
        exact ck_of (kinds_head _ hk).1 (kinds_head _ hk).2 (kinds_ck _ hk) (ck_cons (hless u z su.ck sz.ck) (ck_cons sx.ck (ck_cons sy.ck ck_nil)))
      | 1, hd =>
        injection hd with hd
        subst hd
        cases hb with
        | here _ _ hk => exact hif _ _ _ (kinds_hd _ hk) (kinds_ck _ hk) sx.ck sy.ck
        | «at» _ m e e' he hb =>
          match m, he with
          | 0, he =>
            injection he with he
            have hk := hb.leafy (by rw [← he]; rfl)
            refine hif _ _ _ (fun h r q => ?_) (ck_of (kinds_head _ hk).1 (kinds_head _ hk).2 (kinds_ck _ hk) (ck_cons su.ck (ck_cons sz.ck ck_nil))) sx.ck sy.ck
            injection q with q
            injection q with q _
            rw [← q]
            exact kinds_shaped _ hk
          | 1, he =>
            injection he with he
            subst he
            exact hif _ _ _ (sless _ _) (hless _ _ (hu _ hb) sz.ck) sx.ck sy.ck
          | 2, he =>
            injection he with he
            subst he
            exact hif _ _ _ (sless _ _) (hless _ _ su.ck (hz _ hb)) sx.ck sy.ck
      | 2, hd =>
        injection hd with hd
        subst hd
        exact hif _ _ _ (sless _ _) (hless _ _ su.ck sz.ck) (hx _ hb) sy.ck
      | 3, hd =>
        injection hd with hd
        subst hd
        exact hif _ _ _ (sless _ _) (hless _ _ su.ck sz.ck) sx.ck (hy _ hb)
end K04
namespace K04
open PySem PySem.Spec PyProof.Rows L2
/-- the plain program of the law where none was staged -/
def dflD : List D := [.tup [.str "f_0", .int (1 : Nat), .tup [.str "call", .str "f_0", .tup [.tup [.str "late", .int 0]]]]]
structure PL (l : List D) : Prop where
  ok : PlainOk l
  dp : ∀ d ∈ l, (bodyD d).dep < 30
theorem dfl_pl : PL dflD := by
  have one : ∀ d ∈ dflD, d = .tup [.str "f_0", .int (1 : Nat), .tup [.str "call", .str "f_0", .tup [.tup [.str "late", .int 0]]]] := fun d hd => by
    unfold dflD at hd
    rw [List.mem_singleton] at hd
    exact hd
  refine ⟨⟨by decide +kernel, fun d hd => ?_, fun d hd => ?_, fun d hd => ?_, by decide +kernel, fun d hd => ?_⟩, fun d hd => ?_⟩ <;> rw [one d hd]
  · exact ⟨_, _, _, rfl⟩
  · show CK (.tup [.str "call", .str "f_0", .tup [.tup [.str "late", .int 0]]])
    exact (SG.call "f_0" [.tup [.str "late", .int 0]] fun a ha => by
      rw [List.mem_singleton] at ha
      rw [ha]
      exact .leaf _ _ (by decide) (by decide)).ck
  · decide +kernel
  · exact ⟨_, _, _, rfl, by decide, by decide⟩
  · decide +kernel
theorem staged_pl {pr : Pr} {p : Ptn} {order : List Ptn} (G : PG pr) (PO : PP pr p order) : PL (order.map (stD pr)) := by
  refine ⟨staged_plain G PO, fun d hd => ?_⟩
  obtain ⟨q, hq, rfl⟩ := List.mem_map.mp hd
  show (leftD q.2 (fnOf pr q).2).dep < 30
  obtain ⟨h1, h2⟩ := fnOf_mem (PO.nm q hq).1
  have := left_dep (e := q.2) (G.body _ h1).we
  omega
/-- the row and the tables -/
structure LG (K : PySem.W.Frag) (S : Addr × List Int) (Ts : List Addr) (r : Addr) (H : Hp) : Prop where
  row : Row K S H r
  tab : Tabs Ts H
section
variable {K : PySem.W.Frag} {S : Addr × List Int} {Ts : List Addr} {r : Addr} {H H' : Hp}
theorem LG.same (g : LG K S Ts r H) (s : Same H H') : LG K S Ts r H' := ⟨g.row.same s, g.tab.same s⟩
theorem LG.fr (g : LG K S Ts r H) (f : RFr r H H') (w : Row K S H' r) : LG K S Ts r H' := ⟨w, Tabs.fr g.row g.tab f⟩
theorem LG.ext (g : LG K S Ts r H) (e : ExT Ts H H') : LG K S Ts r H' := ⟨g.row.ext e.ext, e.tab⟩
/-- all but the row and the tables is as it was -/
def Fr (r : Addr) (H H' : Hp) : Prop := ∀ b o, H b = some o → b ≠ r → (∀ ps, o ≠ .tbl ps) → H' b = some o
theorem Fr.trans {H1 : Hp} (a : Fr r H H1) (b : Fr r H1 H') : Fr r H H' := fun c o h n m => b c o (a c o h n m) n m
theorem Fr.refl (r : Addr) (H : Hp) : Fr r H H := fun _ _ h _ _ => h
theorem Fr.same (s : Same H H') : Fr r H H' := fun b o h _ _ => s b o h
theorem Fr.fr (f : RFr r H H') : Fr r H H' := fun b o h n _ => f b o h n
theorem Fr.ext (e : ExT Ts H H') : Fr r H H' := fun b o h _ m => e.ext b o h m
theorem Fr.kp (f : Fr r H H') (w : Row K S H r) : Kp H H' := fun b xs h => by
  obtain ⟨i, s, q, hr, _⟩ := w.ex
  exact f b _ h (ne_obj h hr (fun z => by cases z)) fun ps z => by cases z
theorem Fr.lst (f : Fr r H H') {b : Addr} {xs : List V} (h : H b = some (.lst xs)) (n : b ≠ r) : H' b = some (.lst xs) := f b _ h n fun ps z => by cases z
/-- if not _law_alike(is_plain(v), _law_is_plain(v)): return False -/
theorem chk2 {D : Ends} {σ : L2.St} {i : Nat} {v : V} {l : List K04.D} (hσ : σ[i]? = some (some v)) (hv : Td H v (.tup l)) (hz : (K04.D.tup l).sz ≤ 50000) (ht : ∀ d ∈ l, TrF d) (hc : ∀ d ∈ l, CK (bodyD d)) (tb : Tabs Ts H) (next : ∀ H', ExT Ts H H' → D.nx σ H') :
    tIfS (tNot (tB (tCall (spAlike 3) [] E0 (tCons (tCall (spIsPlain K Ts) [] E0 (tCons (tVar i) tNil)) (tCons (tCall spLPlain [] E0 (tCons (tVar i) tNil)) tNil))))) (tRet (tC (.bl false))) tNext D σ H := by
  refine ⟨_, hσ, .inl ⟨v, _, rfl, hv, hz, tb, fun H1 e1 => ?_⟩⟩
  refine ⟨_, hσ, v, l, rfl, hv.mono e1.kp, ht, hc, fun H2 S2 => ?_⟩
  refine ⟨_, _, _, _, 0, _, by decide, rfl, .bl _, .bl _, .bl 0 _ _, fun H3 S3 => ⟨_, rfl, ?_⟩⟩
  rw [beq_self_eq_true]
  exact iteF (next _ ((e1.same S2).same S3))
theorem chk1 {D : Ends} {σ : L2.St} {i : Nat} {v : V} {b : Bool} (hσ : σ[i]? = some (some v)) (hp : ∀ (Q : VK) (E : XK), (∀ H', ExT Ts H H' → Q (.bl b) H') → spIsPlain K Ts [v] H Q E) (next : ∀ H', ExT Ts H H' → D.nx σ H') :
    tIfS (tNot (tB (tCall (spAlike 3) [] E0 (tCons (tCall (spIsPlain K Ts) [] E0 (tCons (tVar i) tNil)) (tCons (tC (.bl b)) tNil))))) (tRet (tC (.bl false))) tNext D σ H := by
  refine ⟨_, hσ, ?_⟩
  dsimp only [tNil, List.cons_append, List.nil_append]
  refine hp _ _ fun H1 e1 => ?_
  refine ⟨_, _, _, _, 0, _, by decide, rfl, .bl _, .bl _, .bl 0 _ _, fun H3 S3 => ⟨_, rfl, ?_⟩⟩
  rw [beq_self_eq_true]
  exact iteF (next _ (e1.same S3))
end
end K04
namespace K04
open PySem PySem.Spec PyProof.Rows L2
/-- what both answers can be asked about -/
structure VO (l : List D) : Prop where
  sz : (D.tup l).sz ≤ 50000
  tr : ∀ d ∈ l, TrF d
  ck : ∀ d ∈ l, CK (bodyD d)
theorem szs_app : ∀ (a b : List D), D.szs (a ++ b) = D.szs a + D.szs b
  | [], b => by rw [List.nil_append, D.szs, Nat.zero_add]
  | x :: r, b => by rw [List.cons_append, D.szs, D.szs, szs_app r b, Nat.add_assoc]
theorem szs_drop : ∀ (l : List D) (n : Nat), D.szs (l.drop n) ≤ D.szs l
  | [], n => by rw [List.drop_nil]; exact Nat.le_refl _
  | x :: r, 0 => Nat.le_refl _
  | x :: r, n + 1 => by
    have := szs_drop r n
    rw [List.drop_succ_cons, D.szs]
    omega
/-- one thing of a list is another -/
theorem szs_put {d d' : D} : ∀ {l : List D} {i : Nat}, l[i]? = some d → D.szs (l.take i ++ [d'] ++ l.drop (i + 1)) + d.sz = D.szs l + d'.sz
  | [], i, h => nomatch h
  | x :: r, 0, h => by
    injection h with h
    subst h
    show D.szs (d' :: r) + x.sz = D.szs (x :: r) + d'.sz
    rw [D.szs, D.szs]
    omega
  | x :: r, i + 1, h => by
    have := szs_put (d' := d') (l := r) (i := i) h
    show D.szs (x :: (r.take i ++ [d'] ++ r.drop (i + 1))) + d.sz = _
    rw [D.szs, D.szs]
    omega
theorem mem_put {d' e : D} {l : List D} {i : Nat} (h : e ∈ l.take i ++ [d'] ++ l.drop (i + 1)) : e ∈ l ∨ e = d' := by
  rcases List.mem_append.mp h with h | h
  · rcases List.mem_append.mp h with h | h
    · exact .inl (List.mem_of_mem_take h)
    · exact .inr (List.mem_singleton.mp h)
  · exact .inl (List.mem_of_mem_drop h)
/-- a function of such a program -/
structure FO (s : Str) (L : Nat) (b : D) : Prop where
  s : s.length ≤ 20
  L : L ≤ 4
  sg : SG b
  sz : b.sz ≤ 400
  dep : b.dep < 30
section
variable {l : List D}
theorem PL.fn (p : PL l) {d : D} (h : d ∈ l) : ∃ s L b, d = .tup [.str s, .int (L : Nat), b] ∧ FO s L b := by
  obtain ⟨s, L, b, e, h1, h2⟩ := p.ok.tp d h
  obtain ⟨s', n, b', e', _, _, g⟩ := (gp_of p.ok.pl).fn d h
  have sm := p.ok.sm d h
  have dp := p.dp d h
  rw [e] at e' sm dp
  injection e' with e'
  injection e' with e1 e'
  injection e' with e2 e'
  injection e' with e3 _
  exact ⟨s, L, b, e, h1, h2, by rw [e3]; exact g.sg, sm, dp⟩
theorem PL.vo (p : PL l) : VO l := ⟨Nat.le_trans p.ok.sz (by decide), p.ok.tr, p.ok.ck⟩
theorem PL.put (p : PL l) {s : Str} {L : Nat} {b b' : D} {L' : Int} {i : Nat} (h : l[i]? = some (.tup [.str s, .int (L : Nat), b])) (hs : b'.sz ≤ b.sz + 10) (hc : CK b') : VO (l.take i ++ [.tup [.str s, .int L', b']] ++ l.drop (i + 1)) := by
  refine ⟨?_, fun d hd => ?_, fun d hd => ?_⟩
  · have h1 := szs_put (d' := .tup [.str s, .int L', b']) h
    have h2 := p.ok.sz
    rw [D.sz] at h2 ⊢
    simp only [D.sz, D.szs] at h1
    omega
  · rcases mem_put hd with hd | rfl
    · exact p.ok.tr d hd
    · exact ⟨_, _, _, rfl⟩
  · rcases mem_put hd with hd | rfl
    · exact p.ok.ck d hd
    · exact hc
theorem PL.bent (p : PL l) {s : Str} {L : Nat} {b b' : D} {i : Nat} (h : l[i]? = some (.tup [.str s, .int (L : Nat), b])) (f : FO s L b) (hb : Bent b b') : VO (l.take i ++ [.tup [.str s, .int (L : Nat), b']] ++ l.drop (i + 1)) :=
  p.put h hb.sz (Bent.ck f.sg b' hb)
theorem PL.lates (p : PL l) {s : Str} {L : Nat} {b : D} {i : Nat} (h : l[i]? = some (.tup [.str s, .int (L : Nat), b])) (f : FO s L b) : VO (l.take i ++ [.tup [.str s, .int ((L : Int) + 1), b]] ++ l.drop (i + 1)) :=
  p.put h (Nat.le_add_right _ _) f.sg.ck
theorem PL.twice (p : PL l) : VO (l ++ l.take 1) := by
  refine ⟨?_, fun d hd => ?_, fun d hd => ?_⟩
  · have h2 := p.ok.sz
    rw [D.sz] at h2 ⊢
    rw [szs_app]
    have : D.szs (l.take 1) ≤ 1000 := by
      cases l with
      | nil => rw [List.take_nil, D.szs]; omega
      | cons x r =>
        obtain ⟨s, L, b, rfl, f⟩ := p.fn (List.mem_cons_self (a := x) (l := r))
        have := f.sz
        show D.szs [.tup [.str s, .int (L : Nat), b]] ≤ 1000
        simp only [D.szs, D.sz]
        omega
    omega
  · exact p.ok.tr d ((List.mem_append.mp hd).elim id List.mem_of_mem_take)
  · exact p.ok.ck d ((List.mem_append.mp hd).elim id List.mem_of_mem_take)
theorem PL.rest (p : PL l) : VO (l.drop 1) := by
  refine ⟨?_, fun d hd => p.ok.tr d (List.mem_of_mem_drop hd), fun d hd => p.ok.ck d (List.mem_of_mem_drop hd)⟩
  have h2 := p.ok.sz
  have := szs_drop l 1
  rw [D.sz] at h2 ⊢
  omega
theorem vo_one (s : Str) : VO [.tup [.str s, .int 0, .tup [.str "number", .int 1]]] := by
  refine ⟨by simp only [D.sz, D.szs]; omega, fun d hd => ?_, fun d hd => ?_⟩ <;> rw [List.mem_singleton.mp hd]
  · exact ⟨_, _, _, rfl⟩
  · exact (SG.leaf "number" 1 (by decide) (by decide)).ck
theorem PL.len (p : PL l) : 1 ≤ l.length ∧ l.length ≤ 300 := ⟨(gp_of p.ok.pl).pos, (gp_of p.ok.pl).le⟩
end
/-! ### values that are none -/
theorem no_one (d : D) (h : plainF d = false) : isPlainD (.tup [d]) = false := by
  show (decide (1 ≤ 1) && (decide (1 ≤ 300) && ([d].all plainF && _))) = false
  rw [List.all_cons, h]
  rfl
theorem no_two (s : Str) (L : Int) : plainF (.tup [.str s, .int L]) = false := rfl
theorem no_three : plainF (.int 3) = false := rfl
/-- no plain program, as it stands in a heap -/
inductive NoV (H : Hp) : V → Prop
  | d (x : V) (d : D) : Td H x d → d.sz ≤ 50000 → isPlainD d = false → NoV H x
  | l (a : Addr) (xs : List V) : H a = some (.lst xs) → NoV H (.ref a)
  | k (a : Addr) (kvs : List (Key × V)) : H a = some (.dK kvs) → NoV H (.ref a)
  | t (a b : Addr) (xs : List V) : H a = some (.tup [.ref b]) → H b = some (.lst xs) → NoV H (.ref a)
section
variable {K : PySem.W.Frag} {Ts : List Addr} {H H' : Hp} {x : V}
theorem NoV.ext (h : NoV H x) (e : Ext H H') : NoV H' x := by
  cases h with
  | d _ d h1 h2 h3 => exact .d _ d (h1.mono e.kp) h2 h3
  | l a xs h1 => exact .l a xs (e.lst h1)
  | k a kvs h1 => exact .k a kvs (e _ _ h1 fun ps z => by cases z)
  | t a b xs h1 h2 => exact .t a b xs (e.tup h1) (e.lst h2)
theorem NoV.sp (h : NoV H x) (tb : Tabs Ts H) {Q : VK} {E : XK} (q : ∀ H', ExT Ts H H' → Q (.bl false) H') : spIsPlain K Ts [x] H Q E := by
  cases h with
  | d _ d h1 h2 h3 =>
    refine .inl ⟨x, d, rfl, h1, h2, tb, fun H' e => ?_⟩
    rw [h3]
    exact q H' e
  | l a xs h1 => exact .inr (.inl ⟨_, "list", rfl, .base (.lst h1), by decide +kernel, q _ (ExT.refl tb)⟩)
  | k a kvs h1 => exact .inr (.inl ⟨_, "dict", rfl, .base (.dK h1), by decide +kernel, q _ (ExT.refl tb)⟩)
  | t a b xs h1 h2 => exact .inr (.inr ⟨a, b, xs, rfl, h1, h2, tb, q⟩)
end
/-! ### steps of the law -/
def oneD (s : Str) : D := .tup [.tup [.str s, .int 0, .tup [.str "number", .int 1]]]
theorem st_one {s : Str} {tr : TA} {σ : L2.St} {H : Hp} {Q : List V → Hp → Prop} (hs : s.length ≤ 1000) (next : ∀ c H', Same H H' → Td H' (.ref c) (oneD s) → tr σ H' fun xs H2 => Q (.ref c :: xs) H2) :
    tCons (tTup (tCons (tTup (tCons (tC (.str s)) (tCons (tC (.int 0)) (tCons (tTup (tCons (tC (.str "number")) (tCons (tC (.int 1)) tNil))) tNil)))) tNil)) tr σ H Q := by
  refine ⟨(by show 2 ≤ sizeLine; decide), fun a ha => ⟨(by show 3 ≤ sizeLine; decide), fun b hb => ⟨(by show 1 ≤ sizeLine; decide), fun c hc => ?_⟩⟩⟩
  have s1 := Same.new ha (.tup [.str "number", .int 1])
  have s2 := Same.new hb (.tup [.str s, .int 0, .ref a])
  have s3 := Same.new hc (.tup [.ref b])
  exact next c _ ((s1.trans s2).trans s3) (.tup upd_same (by show 1 ≤ 1000; decide) (.cons (.tup (s3 _ _ upd_same) (by show 3 ≤ 1000; decide) (.cons (.str _ hs) (.cons (.int _) (.cons (.tup (s3 _ _ (s2 _ _ upd_same)) (by show 2 ≤ 1000; decide) (.cons (.str _ (by decide)) (.cons (.int _) .nil))) .nil)))) .nil))
theorem RunG.kp {H H' : Hp} {l : List D} {env : List Int} {fuel : Int} {v vl : V} (g : RunG H l env fuel v vl) (k : Kp H H') : RunG H' l env fuel v vl := ⟨g.gp, g.sm, g.v.mono k, g.vl.mono k, g.hin, g.len, g.f0, g.f1⟩
end K04
namespace K04
open PySem PySem.Spec PyProof.Rows L2
/-- a new list, no thing of the module -/
def tLstK (K : PySem.W.Frag) (t : TA) : TE := fun σ H Q => t σ H fun xs H1 => xs.length ≤ sizeLine ∧ ∀ p, H1 p = none → K.lookup p = none → Q (.ref p) (upd H1 p (.lst xs))
theorem pe_lstK {X : Cx} {es : List Expr} {t : TA} {pos : Pos} (h : PA X es t) : PE X (.List es pos) (tLstK X.K t) := by
  refine ⟨fun pins s σ H Q I hq => ?_⟩
  refine wpAny_List_spliced (thn (h.run pos pins s σ H _ I hq) fun us s1 ⟨xs, H1, I1, r, z, q⟩ => ⟨by rw [← r.length]; exact z, ?_⟩)
  have hf : H1 s1.heap.objs.size = none := I1.hok.fresh (Nat.le_refl _)
  have hk : X.K.lookup s1.heap.objs.size = none := by
    cases e : X.K.lookup s1.heap.objs.size with
    | none => rfl
    | some o => exact absurd (Heap.lt_size (I1.bk _ _ (I1.mod.kin _ _ e))) (Nat.lt_irrefl _)
  refine ⟨.ref s1.heap.objs.size, upd H1 s1.heap.objs.size (.lst xs), I1.laid (t' := s1.toks) (fun b u e => Heap.get?_push_of_some _ e) (Nat.le_refl _) ?_, rfl, q _ hf hk⟩
  exact ⟨z, us, 0, r, Heap.get?_push_size _ rfl⟩
theorem row_first {K : PySem.W.Frag} {S : Addr × List Int} {H : Hp} {r : Addr} (hs : SqL K H S.1 (S.2.map V.int)) (h : H r = none) (hk : K.lookup r = none) : Row K S (L2.upd H r (.lst [.ref S.1, .int 0, .int 14004, .int 0])) r := by
  have hn : S.1 ≠ r := by
    rcases hs with (hs | ⟨o, hs⟩) | ⟨o, its, n, hs, _⟩
    · exact ne_of_none hs h
    · exact ne_of_none hs h
    · intro z
      rw [z, hk] at hs
      cases hs
  exact ⟨0, 14004, 0, upd_same, SqL.fr (r := r) ((RFr.refl r H).new h _) hs hn, hn, by decide, by decide, by decide⟩
section
variable {P : Program} {w : World} {K : PySem.W.Frag} {mg : Str → Option Value} {base : Heap} {Ts : List Addr} {Pt : Addr} {S : Addr × List Int}

theorem set_same {α : Type} {v : α} : ∀ {σ : List α} {i : Nat}, σ[i]? = some v → σ.set i v = σ
  | [], i, h => nomatch h
  | x :: r, 0, h => by
    injection h with h
    rw [h]
    rfl
  | x :: r, i + 1, h => by
    show x :: r.set i v = x :: r
    rw [set_same (σ := r) (i := i) h]
theorem st_dfl {D : Ends} {R : TS} {σ : L2.St} {H : Hp} {r : Addr} {v : V} (g : LG K S Ts r H) (hσ : σ[6]? = some (some v)) (hv : v = .non ∨ ∃ l, Td H v (.tup l) ∧ PL l) (next : ∀ v' l H', LG K S Ts r H' → Td H' v' (.tup l) → PL l → R D (σ.set 6 (some v')) H') :
    tSeq (tIfS (tTest (tOp (fun x y H Q => y = V.non ∧ Q (V.bl (decide (x = V.non))) H) (tVar 6) (tC .non))) (tAsg (tTup (tCons (tTup (tCons (tC (.str "f_0")) (tCons (tC (.int 1)) (tCons (tTup (tCons (tC (.str "call")) (tCons (tC (.str "f_0")) (tCons (tTup (tCons (tTup (tCons (tC (.str "late")) (tCons (tC (.int 0)) tNil))) tNil)) tNil)))) tNil)))) tNil)) (gName 6)) tNext) R D σ H := by
  refine ⟨_, hσ, rfl, _, rfl, ?_⟩
  rcases hv with rfl | ⟨l, hv, hl⟩
  · rw [decide_eq_true rfl]
    refine iteT ⟨(by show 2 ≤ sizeLine; decide), fun p1 hp1 => ⟨(by show 1 ≤ sizeLine; decide), fun p2 hp2 => ⟨(by show 3 ≤ sizeLine; decide), fun p3 hp3 => ⟨(by show 3 ≤ sizeLine; decide), fun p4 hp4 => ⟨(by show 1 ≤ sizeLine; decide), fun p5 hp5 => ?_⟩⟩⟩⟩⟩
    have s1 := Same.new hp1 (.tup [.str "late", .int 0])
    have s2 := Same.new hp2 (.tup [.ref p1])
    have s3 := Same.new hp3 (.tup [.str "call", .str "f_0", .ref p2])
    have s4 := Same.new hp4 (.tup [.str "f_0", .int 1, .ref p3])
    have s5 := Same.new hp5 (.tup [.ref p4])
    have e4 := s4.trans s5
    have e3 := s3.trans e4
    have e2 := s2.trans e3
    refine next _ dflD _ (g.same (s1.trans e2)) (.tup upd_same (by show 1 ≤ 1000; decide) (.cons (.tup (s5 _ _ upd_same) (by show 3 ≤ 1000; decide) (.cons (.str _ (by decide)) (.cons (.int _) (.cons (.tup (e4 _ _ upd_same) (by show 3 ≤ 1000; decide) (.cons (.str _ (by decide)) (.cons (.str _ (by decide)) (.cons (.tup (e3 _ _ upd_same) (by show 1 ≤ 1000; decide) (.cons (.tup (e2 _ _ upd_same) (by show 2 ≤ 1000; decide) (.cons (.str _ (by decide)) (.cons (.int _) .nil))) .nil)) .nil)))) .nil)))) .nil)) dfl_pl
  · have hne : v ≠ .non := by
      obtain ⟨a, xs, rfl, _⟩ := hv.tup_inv
      exact fun z => by cases z
    rw [decide_eq_false hne]
    refine iteF ?_
    have := next v l H g hv hl
    rw [set_same hσ] at this
    exact this

abbrev n_law : List Str := ["_law_script", "_law_row", "_law_program_here", "_law_name_here", "_law_many", "_law_body_here", "_law_plain", "_law_at", "_law_first", "_law_size", "_law_part", "_law_turn", "_law_other", "_law_other_row", "_law_value", "_law_lates_here", "_law_fuel", "_law_k"]
theorem sc_law : FnScope n_law ["_law_script"] (defScope s_law) := ⟨rfl, rfl, rfl, by decide +kernel, rfl, by decide +kernel, by decide +kernel⟩
/-- a staging's result in one -/
def spStaged2 : Sp := fun vs H Q _ => ∃ (v : V) (pr : Pr) (nm : Str) (e : Nat), vs = [v, .str nm, .int e, .int 40] ∧ Td H v (progD pr) ∧ PG pr ∧ (∃ m, (nm, m) ∈ pr.map (·.1)) ∧ e ≤ 6 ∧
  ∀ v' H', Same H H' → (v' = .non ∨ ∃ l, Td H' v' (.tup l) ∧ PL l) → Q v' H'
theorem staged2 (c : Cal P w K mg base 49 "_law_staged" ["_law_program_here", "_law_name_here", "_law_early", "_law_most"] spStaged) : Cal P w K mg base 49 "_law_staged" ["_law_program_here", "_law_name_here", "_law_early", "_law_most"] spStaged2 := by
  refine c.imp fun vs H Q E h => ?_
  obtain ⟨v, pr, nm, e, rfl, hv, G, hm, he, q⟩ := h
  exact ⟨v, pr, nm, e, rfl, hv, G, hm, he, fun H' s => q _ H' s (.inl rfl), fun v' order H' s t po => q v' H' s (.inr ⟨_, t, staged_pl G po⟩)⟩
def spLaw (K : PySem.W.Frag) (Ts : List Addr) : Sp := fun vs H Q _ => ∃ S : Addr × List Int, vs = [.ref S.1] ∧ SqL K H S.1 (S.2.map V.int) ∧ Tabs Ts H ∧ ∀ H', Q (.bl true) H'
theorem ok_law (T : Txt K mg) {fL : Addr} {fdL : FuncData} (FL : Fun K "law" "law" s_law fL fdL) (c_l_program : ∀ S, Cal P w K mg base 51 "_law_program" ["_law_row", "_law_is_hot"] (spProgram K S)) (c_l_taken : ∀ S, Cal P w K mg base 1 "_law_taken" ["_law_row", "_law_many"] (spTaken K S)) (c_l_pick : ∀ S, Cal P w K mg base 2 "_law_pick" ["_law_row", "_law_things"] (spPick K S))
    (c_l_staged : Cal P w K mg base 49 "_law_staged" ["_law_program_here", "_law_name_here", "_law_early", "_law_most"] spStaged) (c_l_alike : Cal P w K mg base 4 "_law_alike" ["_law_found", "_law_due"] (spAlike 3)) (c_is_plain : Cal P w K mg base 70 "is_plain" ["value"] (spIsPlain K Ts))
    (c_l_is_plain : Cal P w K mg base 34 "_law_is_plain" ["_law_value"] spLPlain) (c_l_bent : ∀ S, Cal P w K mg base 32 "_law_bent" ["_law_row", "_law_one"] (spBent K S 30)) (c_plain_run : Cal P w K mg base 72 "plain_run" ["plain", "lates", "fuel"] (spRun Ts))
    (c_l_plain_run : Cal P w K mg base 2 "_law_plain_run" ["_law_plain", "_law_lates_here", "_law_fuel"] spRunOf) : FnOk P w K mg base CX0 73 fL fdL ["_law_script"] (spLaw K Ts) := by
  refine FL.ok sc_law (fun vs H Q E h => ?_) (fun cdv A outer s H vs Q E hr h => ?_)
  · obtain ⟨S, rfl, _⟩ := h
    rfl
  obtain ⟨S, rfl, hs, tb, q⟩ := h
  have c_l_staged := staged2 c_l_staged
  have c_l_program := c_l_program S
  have c_l_taken := c_l_taken S
  have c_l_pick := c_l_pick S
  have c_l_bent := c_l_bent S
  refine ⟨_, (pss_cons (ps_set (i := 1) sc_law.nd rfl (Or.inr rfl) (pe_lstK (pa_cons (pv 0) (pa_cons pe_int (pa_cons pe_int (pa_cons pe_int pa_nil))))))
      (pss_cons (ps_set (i := 2) sc_law.nd rfl (Or.inl rfl) (pe_cal c_l_program (hr.mono (by omega)) (pa_cons (pv 1) (pa_cons pe_bl pa_nil))))
      (pss_cons (ps_asg (pe_cal c_l_pick (hr.mono (by omega)) (pa_cons (pv 1) (pa_cons (pv 2) pa_nil))) (pg_tup rfl (pgs_cons (pg_name (i := 3) sc_law.nd rfl (Or.inl rfl)) (pgs_cons (pg_name (i := 4) sc_law.nd rfl (Or.inl rfl)) (pgs_cons (pg_name (i := 5) sc_law.nd rfl (Or.inl rfl)) pgs_nil)))))
      (pss_cons (ps_set (i := 6) sc_law.nd rfl (Or.inl rfl) (pe_cal c_l_staged (hr.mono (by omega)) (pa_cons (pv 2) (pa_cons (pv 3) (pa_cons (pe_cal c_l_taken (hr.mono (by omega)) (pa_cons (pv 1) (pa_cons pe_int pa_nil))) (pa_cons pe_int pa_nil))))))
      (pss_cons (ps_if (pt_cmpR op_isN (pv 6) pe_non (nomark _)) (pss_one (ps_set (i := 6) sc_law.nd rfl (Or.inl rfl) (pe_tup (pa_cons (pe_tup (pa_cons pe_str (pa_cons pe_int (pa_cons (pe_tup (pa_cons pe_str (pa_cons pe_str (pa_cons (pe_tup (pa_cons (pe_tup (pa_cons pe_str (pa_cons pe_int pa_nil))) pa_nil)) pa_nil)))) pa_nil)))) pa_nil)))) pss_nil)
      (pss_cons (ps_if (pt_not (pt_val (pe_cal c_l_alike (hr.mono (by omega)) (pa_cons (pe_cal c_is_plain (hr.mono (by omega)) (pa_cons (pv 6) pa_nil)) (pa_cons pe_bl pa_nil))))) (pss_one (ps_ret pe_bl)) pss_nil)
      (pss_cons (ps_set (i := 7) sc_law.nd rfl (Or.inl rfl) (pe_cal c_l_taken (hr.mono (by omega)) (pa_cons (pv 1) (pa_cons (pe_callB call_len_seq (by rfl) T.f_len PySem.boot_len (pa_cons (pv 6) pa_nil)) pa_nil))))
      (pss_cons (ps_asg (pe_ix ix_tup (pv 6) (pv 7) (fun _ _ => rfl)) (pg_tup rfl (pgs_cons (pg_name (i := 8) sc_law.nd rfl (Or.inl rfl)) (pgs_cons (pg_name (i := 9) sc_law.nd rfl (Or.inl rfl)) (pgs_cons (pg_name (i := 10) sc_law.nd rfl (Or.inl rfl)) pgs_nil)))))
      (pss_cons (ps_for PassesOwn.never rfl (pi_range1 rfl T.f_range (pa_cons pe_int pa_nil)) (pg_name (i := 11) sc_law.nd rfl (Or.inl rfl)) (pss_cons (ps_set (i := 12) sc_law.nd rfl (Or.inl rfl) (pe_op op_catA (pe_op op_catA (pe_slice sl_tupA (pv 6) po_none (po_some (pv 7))) (pe_tup (pa_cons (pe_tup (pa_cons (pv 8) (pa_cons (pv 9) (pa_cons (pe_cal c_l_bent (hr.mono (by omega)) (pa_cons (pv 1) (pa_cons (pv 10) pa_nil))) pa_nil)))) pa_nil))) (pe_slice sl_tupA (pv 6) (po_some (pe_op op_add (pv 7) pe_int)) po_none)))
      (pss_one (ps_if (pt_not (pt_val (pe_cal c_l_alike (hr.mono (by omega)) (pa_cons (pe_cal c_is_plain (hr.mono (by omega)) (pa_cons (pv 12) pa_nil)) (pa_cons (pe_cal c_l_is_plain (hr.mono (by omega)) (pa_cons (pv 12) pa_nil)) pa_nil))))) (pss_one (ps_ret pe_bl)) pss_nil))))
      (pss_cons (ps_set (i := 13) sc_law.nd rfl (Or.inl rfl) (pe_lst (pa_cons (pe_op op_catA (pv 6) (pe_slice sl_tupA (pv 6) po_none (po_some pe_int))) (pa_cons (pe_slice sl_tupA (pv 6) (po_some pe_int) po_none) (pa_cons (pe_op op_catA (pe_op op_catA (pe_slice sl_tupA (pv 6) po_none (po_some (pv 7))) (pe_tup (pa_cons (pe_tup (pa_cons (pv 8) (pa_cons (pe_op op_add (pv 9) pe_int) (pa_cons (pv 10) pa_nil)))) pa_nil))) (pe_slice sl_tupA (pv 6) (po_some (pe_op op_add (pv 7) pe_int)) po_none)) pa_nil)))))
      (pss_cons (ps_set (i := 13) sc_law.nd rfl (Or.inl rfl) (pe_op op_cat (pv 13) (pe_lst (pa_cons (pe_tup (pa_cons (pe_tup (pa_cons pe_str (pa_cons pe_int (pa_cons (pe_tup (pa_cons pe_str (pa_cons pe_int pa_nil))) pa_nil)))) pa_nil)) (pa_cons (pe_tup (pa_cons (pe_tup (pa_cons pe_str (pa_cons pe_int (pa_cons (pe_tup (pa_cons pe_str (pa_cons pe_int pa_nil))) pa_nil)))) pa_nil)) (pa_cons (pe_tup (pa_cons (pe_tup (pa_cons pe_str (pa_cons pe_int (pa_cons (pe_tup (pa_cons pe_str (pa_cons pe_int pa_nil))) pa_nil)))) pa_nil)) pa_nil))))))
      (pss_cons (ps_set (i := 13) sc_law.nd rfl (Or.inl rfl) (pe_op op_cat (pv 13) (pe_lst (pa_cons (pe_tup (pa_cons (pe_tup (pa_cons pe_str (pa_cons pe_int (pa_cons (pe_tup (pa_cons pe_str (pa_cons pe_int pa_nil))) pa_nil)))) pa_nil)) (pa_cons (pe_tup (pa_cons (pe_tup (pa_cons pe_str (pa_cons pe_int (pa_cons (pe_tup (pa_cons pe_str (pa_cons pe_int pa_nil))) pa_nil)))) pa_nil)) pa_nil)))))
      (pss_cons (ps_for PassesOwn.never rfl (pi_list (pv 13)) (pg_name (i := 12) sc_law.nd rfl (Or.inl rfl)) (pss_one (ps_if (pt_not (pt_val (pe_cal c_l_alike (hr.mono (by omega)) (pa_cons (pe_cal c_is_plain (hr.mono (by omega)) (pa_cons (pv 12) pa_nil)) (pa_cons (pe_cal c_l_is_plain (hr.mono (by omega)) (pa_cons (pv 12) pa_nil)) pa_nil))))) (pss_one (ps_ret pe_bl)) pss_nil)))
      (pss_cons (ps_for PassesOwn.never rfl (pi_list (pe_lst (pa_cons pe_non (pa_cons pe_int (pa_cons pe_str (pa_cons (pe_callTy call_list_of (by rfl) T.f_list (by decide +kernel) (pa_cons (pv 6) pa_nil)) (pa_cons (pe_tup (pa_cons pe_int pa_nil)) (pa_cons (pe_tup (pa_cons (pe_tup (pa_cons (pv 8) (pa_cons (pv 9) pa_nil))) pa_nil)) (pa_cons (pe_tup (pa_cons (pe_lst (pa_cons (pv 8) (pa_cons (pv 9) (pa_cons (pv 10) pa_nil)))) pa_nil)) (pa_cons pe_dnewK pa_nil)))))))))) (pg_name (i := 14) sc_law.nd rfl (Or.inl rfl)) (pss_one (ps_if (pt_not (pt_val (pe_cal c_l_alike (hr.mono (by omega)) (pa_cons (pe_cal c_is_plain (hr.mono (by omega)) (pa_cons (pv 14) pa_nil)) (pa_cons pe_bl pa_nil))))) (pss_one (ps_ret pe_bl)) pss_nil)))
      (pss_cons (ps_par (i := 15) (j := 16) rfl sc_law.nd rfl rfl (by decide) rfl rfl (pa_cons (pe_callTy call_tuple_of (by rfl) T.f_tuple (by decide +kernel) (pa_cons (pe_lc (own := [("_law_k", 17)]) (g := (gName 17)) (tt := tYes) rfl sc_law.nd (pi_range1 rfl T.f_range (pa_cons (pe_ix ix_tup (pe_ix ix_tup (pv 6) pe_int (fun _ _ => rfl)) pe_int (fun _ _ => rfl)) pa_nil)) (blkOk_by (N := n_law) (sc := defScope s_law) (by decide +kernel)) (fun _ _ _ _ _ => (pg_name (i := 17) sc_law.nd rfl (Or.inl rfl))) (fun _ _ _ _ _ => pts_nil) (fun _ _ _ _ _ => (pe_cal c_l_pick (hr.mono (by omega)) (pa_cons (pv 1) (pa_cons (pe_lst (pa_cons pe_int (pa_cons pe_int (pa_cons pe_int (pa_cons pe_int (pa_cons pe_int (pa_cons pe_int pa_nil))))))) pa_nil))))) pa_nil)) (pa_cons (pe_cal c_l_pick (hr.mono (by omega)) (pa_cons (pv 1) (pa_cons (pe_lst (pa_cons pe_int (pa_cons pe_int (pa_cons pe_int (pa_cons pe_int (pa_cons pe_int (pa_cons pe_int (pa_cons pe_int pa_nil)))))))) pa_nil))) pa_nil)) (by with_unfolding_all rfl))
      (pss_one (ps_ret (pe_cal c_l_alike (hr.mono (by omega)) (pa_cons (pe_cal c_plain_run (hr.mono (by omega)) (pa_cons (pv 6) (pa_cons (pv 15) (pa_cons (pv 16) pa_nil)))) (pa_cons (pe_cal c_l_plain_run (hr.mono (by omega)) (pa_cons (pv 6) (pa_cons (pv 15) (pa_cons (pv 16) pa_nil)))) pa_nil)))))))))))))))))))), ?_⟩
  refine ⟨_, rfl, (by show 4 ≤ sizeLine; decide), fun r hr0 hk0 => ?_⟩
  have S0 := Same.new hr0 (.lst [.ref S.1, .int 0, .int 14004, .int 0])
  have g0 : LG K S Ts r _ := ⟨row_first hs hr0 hk0, tb.same S0⟩
  refine ⟨_, rfl, r, false, rfl, g0.row, fun v pr H1 f1 w1 tv G => ?_⟩
  have g1 := g0.fr f1 w1
  obtain ⟨a, xs, rfl, ha, hal, hxs⟩ := tv.tup_inv
  have hxl := hxs.length
  rw [List.length_map] at hxl
  have hpos : 0 < pr.length := List.length_pos_iff.mpr G.ne
  have har : a ≠ r := by
    obtain ⟨i, s, q, hr, _⟩ := w1.ex
    exact ne_obj ha hr (fun z => by cases z)
  refine ⟨_, rfl, _, rfl, r, a, xs, rfl, w1, har, .inr (SqT.of ha), (fun z => by rw [z] at hxl; simp only [List.length_nil] at hxl; omega), hal, fun i x H2 hx f2 w2 => ?_⟩
  have g2 := g1.fr f2 w2
  obtain ⟨d, hd1, hd2, hd3⟩ := (hxs.mono (w1.kp f2)).get2 hx
  obtain ⟨f, hf, rfl⟩ := List.mem_map.mp hd2
  obtain ⟨b, ys, rfl, hb, _, hys⟩ := hd3.tup_inv
  obtain ⟨y1, ys, rfl, h1, hys⟩ := hys.cons_inv
  obtain ⟨y2, ys, rfl, h2, hys⟩ := hys.cons_inv
  obtain ⟨y3, ys, rfl, h3, hys⟩ := hys.cons_inv
  obtain rfl := hys.nil_inv
  obtain ⟨rfl, _⟩ := h1.str_inv
  obtain rfl := h2.int_inv
  refine ⟨_, _, rfl, SqT.of hb, rfl, _, _, rfl, _, _, rfl, _, _, rfl, rfl, ?_⟩
  refine ⟨_, rfl, _, rfl, _, rfl, r, 7, rfl, w2, by decide, by decide, fun k H3 hk f3 w3 => ?_⟩
  have g3 := g2.fr f3 w3
  have tv3 := tv.mono (Kp.trans (w1.kp f2) (w2.kp f3))
  refine ⟨_, pr, f.1.1, k, rfl, tv3, G, ⟨f.1.2, List.mem_map.mpr ⟨f, hf, rfl⟩⟩, by omega, fun v H4 S4 hv => ?_⟩
  refine st_dfl (g3.same S4) (by rfl) hv fun v l H5 g5 t5 pl => ?_
  refine chk1 (b := true) (by rfl) (fun Q E q => .inl ⟨v, .tup l, rfl, t5, pl.vo.sz, g5.tab, fun H' e => ?_⟩) fun H6 e6 => ?_
  · rw [pl.ok.pl]
    exact q _ e
  have g6 := g5.ext e6
  have t6 := t5.mono e6.kp
  obtain ⟨pl1, pl300⟩ := pl.len
  obtain ⟨pv, pxs, rfl, hp6, hpl, hpx6⟩ := t6.tup_inv
  have hlen := hpx6.length
  refine ⟨_, rfl, _, rfl, _, _, rfl, .inr (SqT.of hp6), r, pxs.length, rfl, g6.row, by omega, hpl, fun at_ H7 hat f7 w7 => ?_⟩
  have g7 := g6.fr f7 w7
  have hp7 := g6.row.kp f7 _ _ hp6
  have hpx7 := hpx6.mono (g6.row.kp f7)
  obtain ⟨xa, hxa⟩ : ∃ x, pxs[at_]? = some x := ⟨pxs[at_], List.getElem?_eq_getElem hat⟩
  obtain ⟨da, hda, hdm, tda⟩ := hpx7.get2 hxa
  obtain ⟨sa, La, ba, rfl, fo⟩ := pl.fn hdm
  obtain ⟨pa, pys, rfl, hpa, _, hpys⟩ := tda.tup_inv
  obtain ⟨z1, pys, rfl, k1, hpys⟩ := hpys.cons_inv
  obtain ⟨z2, pys, rfl, k2, hpys⟩ := hpys.cons_inv
  obtain ⟨vb, pys, rfl, k3, hpys⟩ := hpys.cons_inv
  obtain rfl := hpys.nil_inv
  obtain ⟨rfl, _⟩ := k1.str_inv
  obtain rfl := k2.int_inv
  refine ⟨_, rfl, _, rfl, _, _, _, _, rfl, rfl, SqT.of (hp7), atI_nat hxa, _, _, rfl, SqT.of hpa, rfl, _, _, rfl, _, _, rfl, _, _, rfl, rfl, ?_⟩
  refine ⟨6, rfl, by decide, by decide, ?_⟩
  refine for_srv (Srv.rng (P := fun _ => True) 6) (fun i σ H' => (∃ o11 o12, σ = [some (.ref S.1), some (.ref r), some (.ref a), some (.str f.1.1), some (.int (f.1.2 : Nat)), some y3, some (.ref pv), some (.int (at_ : Nat)), some (.str sa), some (.int (La : Nat)), some vb, o11, o12, none, none, none, none, none]) ∧ LG K S Ts r H' ∧ H' pv = some (.tup pxs) ∧ Tds H' pxs l ∧ Td H' vb ba) (fun _ _ _ _ => True.intro) ⟨⟨none, none, rfl⟩, g7, hp7, hpx7, k3⟩ ?_ ?_
  · rintro i x σ H8 hxi ⟨⟨o11, o12, rfl⟩, g8, hp8, hpx8, tb8⟩
    refine ⟨_, rfl, _, rfl, _, rfl, slA hp8 fun b1 H9 S9 hb1 => ?_⟩
    rw [cut_hi' pxs at_ (by omega)] at hb1
    have g9 := g8.same S9
    have hp9 := S9 _ _ hp8
    have hpx9 := hpx8.mono (Same.kp S9)
    have tb9 := tb8.mono (Same.kp S9)
    refine ⟨_, rfl, _, rfl, _, rfl, _, rfl, r, vb, ba, rfl, g9.row, tb9, fo.dep, fun v5 d5 H10 f10 w10 t10 hb10 => ?_⟩
    have g10 := g9.fr f10 w10
    have kp10 := g9.row.kp f10
    have hp10 := kp10 _ _ hp9
    have hb1' := kp10 _ _ hb1
    have hpx10 := hpx9.mono kp10
    have tb10 := tb9.mono kp10
    refine ⟨(by show 3 ≤ sizeLine; decide), fun p5 hp5 => ⟨(by show 1 ≤ sizeLine; decide), fun p6 hp6 => ?_⟩⟩
    have S11 := Same.new hp5 (.tup [.str sa, .int (La : Nat), v5])
    have S12 := Same.new hp6 (.tup [.ref p5])
    refine catA (S12 _ _ (S11 _ _ hb1')) upd_same (sz100 (by rw [List.length_take]; show min at_ pxs.length + 1 ≤ 1000000; omega)) fun c7 H13 S13 hc7 => ?_
    have S10 := (S11.trans S12).trans S13
    refine ⟨_, rfl, _, rfl, _, _, rfl, rfl, _, rfl, ?_⟩
    unfold tNoPart
    refine slA (S10 _ _ hp10) fun b8 H14 S14 hb8 => ?_
    rw [show (at_ : Int) + 1 = ((at_ + 1 : Nat) : Int) from rfl, cut_lo' pxs (at_ + 1) (by omega)] at hb8
    refine catA (S14 _ _ hc7) hb8 (sz100 ?_) fun c9 H15 S15 hc9 => ?_
    · rw [List.length_append, List.length_take, List.length_drop]
      show min at_ pxs.length + 1 + _ ≤ 1000000
      omega
    have S16 := S10.trans (S14.trans S15)
    have td5 : Td (L2.upd (L2.upd H10 p5 (.tup [.str sa, .int (La : Nat), v5])) p6 (.tup [.ref p5])) (.ref p5) (.tup [.str sa, .int (La : Nat), d5]) := .tup (S12 _ _ upd_same) (by show 3 ≤ 1000; decide) (.cons (.str _ (Nat.le_trans fo.s (by decide))) (.cons (.int _) (.cons (t10.mono (Same.kp (S11.trans S12))) .nil)))
    have hpxF := hpx10.mono (Same.kp S16)
    have vo := pl.bent hda fo hb10
    refine chk2 (l := l.take at_ ++ [.tup [.str sa, .int (La : Nat), d5]] ++ l.drop (at_ + 1)) (by rfl) (.tup hc9 ?_ (((hpxF.take at_).append (.one (td5.mono (Same.kp (S13.trans (S14.trans S15)))))).append (hpxF.drop (at_ + 1)))) vo.sz vo.tr vo.ck (g10.same S16).tab fun H17 e17 => ?_
    · rw [List.length_append, List.length_append, List.length_take, List.length_drop]
      show min at_ pxs.length + 1 + _ ≤ 1000
      omega
    exact ⟨⟨_, _, rfl⟩, (g10.same S16).ext e17, e17.kp _ _ (S16 _ _ hp10), hpxF.mono e17.kp, (tb10.mono (Same.kp S16)).mono e17.kp⟩
  · rintro σ H8 ⟨⟨o11, o12, rfl⟩, g8, hp8, hpx8, tb8⟩
    refine ⟨_, rfl, _, rfl, _, rfl, slA hp8 fun b1 H9 S9 hb1 => ?_⟩
    have hb1 : H9 b1 = some (.tup (pxs.take 1)) := by
      rw [← cut_hi' pxs 1 (by omega)]
      exact hb1
    refine catA (S9 _ _ hp8) hb1 (sz100 (by rw [List.length_take]; show pxs.length + min 1 pxs.length ≤ 1000000; omega)) fun c1 H10 S10 hc1 => ?_
    have S810 := S9.trans S10
    refine ⟨_, rfl, _, rfl, ?_⟩
    unfold tNoPart
    refine slA (S810 _ _ hp8) fun b2 H11 S11 hb2 => ?_
    have hb2 : H11 b2 = some (.tup (pxs.drop 1)) := by
      rw [← cut_lo' pxs 1 (by omega)]
      exact hb2
    have S811 := S810.trans S11
    have hp11 := S811 _ _ hp8
    refine ⟨_, rfl, _, rfl, _, rfl, slA hp11 fun b3 H12 S12 hb3 => ?_⟩
    rw [cut_hi' pxs at_ (by omega)] at hb3
    refine ⟨_, rfl, _, rfl, _, _, rfl, rfl, _, rfl, (by show 3 ≤ sizeLine; decide), fun p5 hp5 => ⟨(by show 1 ≤ sizeLine; decide), fun p6 hp6 => ?_⟩⟩
    have S13 := Same.new hp5 (.tup [.str sa, .int ((La : Int) + 1), vb])
    have S14 := Same.new hp6 (.tup [.ref p5])
    refine catA (S14 _ _ (S13 _ _ hb3)) upd_same (sz100 (by rw [List.length_take]; show min at_ pxs.length + 1 ≤ 1000000; omega)) fun c7 H15 S15 hc7 => ?_
    have S815 := S811.trans (S12.trans ((S13.trans S14).trans S15))
    refine ⟨_, rfl, _, rfl, _, _, rfl, rfl, _, rfl, ?_⟩
    refine slA (S815 _ _ hp8) fun b8 H16 S16 hb8 => ?_
    rw [show (at_ : Int) + 1 = ((at_ + 1 : Nat) : Int) from rfl, cut_lo' pxs (at_ + 1) (by omega)] at hb8
    refine catA (S16 _ _ hc7) hb8 (sz100 ?_) fun c9 H17 S17 hc9 => ?_
    · rw [List.length_append, List.length_take, List.length_drop]
      show min at_ pxs.length + 1 + _ ≤ 1000000
      omega
    have S1117 := S12.trans (((S13.trans S14).trans S15).trans (S16.trans S17))
    have S817 := S811.trans S1117
    have hpx17 := hpx8.mono (Same.kp S817)
    have tb17 := tb8.mono (Same.kp S817)
    have v1 : Td H17 (.ref c1) (.tup (l ++ l.take 1)) := .tup (S1117 _ _ (S11 _ _ hc1)) (by rw [List.length_append, List.length_take]; show pxs.length + min 1 pxs.length ≤ 1000; omega) (hpx17.append (hpx17.take 1))
    have v2 : Td H17 (.ref b2) (.tup (l.drop 1)) := .tup (S1117 _ _ hb2) (by rw [List.length_drop]; omega) (hpx17.drop 1)
    have v5 : Td H17 (.ref p5) (.tup [.str sa, .int ((La : Int) + 1), ba]) := .tup ((S15.trans (S16.trans S17)) _ _ (S14 _ _ upd_same)) (by show 3 ≤ 1000; decide) (.cons (.str _ (Nat.le_trans fo.s (by decide))) (.cons (.int _) (.cons tb17 .nil)))
    have v3 : Td H17 (.ref c9) (.tup (l.take at_ ++ [.tup [.str sa, .int ((La : Int) + 1), ba]] ++ l.drop (at_ + 1))) := .tup hc9 (by
      rw [List.length_append, List.length_append, List.length_take, List.length_drop]
      show min at_ pxs.length + 1 + _ ≤ 1000
      omega) (((hpx17.take at_).append (.one v5)).append (hpx17.drop (at_ + 1)))
    refine ⟨(by show 3 ≤ sizeLine; decide), fun l1 hl1 => ?_⟩
    have S18 := Same.new hl1 (.lst [.ref c1, .ref b2, .ref c9])
    have L1 : (L2.upd H17 l1 (.lst [.ref c1, .ref b2, .ref c9])) l1 = some (.lst [.ref c1, .ref b2, .ref c9]) := upd_same
    generalize L2.upd H17 l1 (.lst [.ref c1, .ref b2, .ref c9]) = H18 at S18 L1
    refine ⟨_, rfl, ?_⟩
    refine st_one (by decide) fun d1 H19 S19 u1 => ?_
    refine st_one (by decide) fun d2 H20 S20 u2 => ?_
    refine st_one (by decide) fun d3 H21 S21 u3 => ?_
    refine ⟨(by show 3 ≤ sizeLine; decide), fun l2 hl2 => ?_⟩
    have S22 := Same.new hl2 (.lst [.ref d1, .ref d2, .ref d3])
    have S1821 := (S19.trans S20).trans S21
    refine ⟨_, _, _, _, rfl, rfl, S22 _ _ (S1821 _ _ L1), upd_same, (by show 6 ≤ sizeLine; decide), fun l3 hl3 => ?_⟩
    have S23 := Same.new hl3 (.lst ([V.ref c1, .ref b2, .ref c9] ++ [V.ref d1, .ref d2, .ref d3]))
    have L3 : (L2.upd (L2.upd H21 l2 (.lst [.ref d1, .ref d2, .ref d3])) l3 (.lst ([V.ref c1, .ref b2, .ref c9] ++ [V.ref d1, .ref d2, .ref d3]))) l3 = some (.lst ([V.ref c1, .ref b2, .ref c9] ++ [V.ref d1, .ref d2, .ref d3])) := upd_same
    have S2123 := S22.trans S23
    generalize hH23 : L2.upd (L2.upd H21 l2 (.lst [.ref d1, .ref d2, .ref d3])) l3 (.lst ([V.ref c1, .ref b2, .ref c9] ++ [V.ref d1, .ref d2, .ref d3])) = H23 at S2123 L3
    have L3 : H23 l3 = some (.lst [.ref c1, .ref b2, .ref c9, .ref d1, .ref d2, .ref d3]) := L3
    refine ⟨_, rfl, ?_⟩
    refine st_one (by decide) fun d4 H24 S24 u4 => ?_
    refine st_one (by decide) fun d5 H25 S25 u5 => ?_
    refine ⟨(by show 2 ≤ sizeLine; decide), fun l4 hl4 => ?_⟩
    have S26 := Same.new hl4 (.lst [.ref d4, .ref d5])
    have S2325 := S24.trans S25
    refine ⟨_, _, _, _, rfl, rfl, S26 _ _ (S2325 _ _ L3), upd_same, (by show 8 ≤ sizeLine; decide), fun l5 hl5 => ?_⟩
    have S27 := Same.new hl5 (.lst ([V.ref c1, .ref b2, .ref c9, .ref d1, .ref d2, .ref d3] ++ [V.ref d4, .ref d5]))
    have L5 : (L2.upd (L2.upd H25 l4 (.lst [.ref d4, .ref d5])) l5 (.lst ([V.ref c1, .ref b2, .ref c9, .ref d1, .ref d2, .ref d3] ++ [V.ref d4, .ref d5]))) l5 = some (.lst ([V.ref c1, .ref b2, .ref c9, .ref d1, .ref d2, .ref d3] ++ [V.ref d4, .ref d5])) := upd_same
    have S2527 := S26.trans S27
    generalize L2.upd (L2.upd H25 l4 (.lst [.ref d4, .ref d5])) l5 (.lst ([V.ref c1, .ref b2, .ref c9, .ref d1, .ref d2, .ref d3] ++ [V.ref d4, .ref d5])) = H27 at S2527 L5
    have L5 : H27 l5 = some (.lst [V.ref c1, .ref b2, .ref c9, .ref d1, .ref d2, .ref d3, .ref d4, .ref d5]) := L5
    have S1727 : Same H17 H27 := S18.trans (S1821.trans (S2123.trans (S2325.trans S2527)))
    have tw : Tds H27 [V.ref c1, .ref b2, .ref c9, .ref d1, .ref d2, .ref d3, .ref d4, .ref d5] (([l ++ l.take 1, l.drop 1, l.take at_ ++ [.tup [.str sa, .int ((La : Int) + 1), ba]] ++ l.drop (at_ + 1), [.tup [.str "f", .int 0, .tup [.str "number", .int 1]]], [.tup [.str "f_00", .int 0, .tup [.str "number", .int 1]]], [.tup [.str "f_10000001", .int 0, .tup [.str "number", .int 1]]], [.tup [.str "e_1", .int 0, .tup [.str "number", .int 1]]], [.tup [.str "f__1", .int 0, .tup [.str "number", .int 1]]]] : List (List D)).map D.tup) := .cons (v1.mono (Same.kp S1727)) (.cons (v2.mono (Same.kp S1727)) (.cons (v3.mono (Same.kp S1727)) (.cons (u1.mono (Same.kp ((S20.trans S21).trans (S2123.trans (S2325.trans S2527))))) (.cons (u2.mono (Same.kp (S21.trans (S2123.trans (S2325.trans S2527))))) (.cons (u3.mono (Same.kp (S2123.trans (S2325.trans S2527)))) (.cons (u4.mono (Same.kp (S25.trans S2527))) (.cons (u5.mono (Same.kp S2527)) .nil)))))))
    have hvo : ∀ m ∈ ([l ++ l.take 1, l.drop 1, l.take at_ ++ [.tup [.str sa, .int ((La : Int) + 1), ba]] ++ l.drop (at_ + 1), [.tup [.str "f", .int 0, .tup [.str "number", .int 1]]], [.tup [.str "f_00", .int 0, .tup [.str "number", .int 1]]], [.tup [.str "f_10000001", .int 0, .tup [.str "number", .int 1]]], [.tup [.str "e_1", .int 0, .tup [.str "number", .int 1]]], [.tup [.str "f__1", .int 0, .tup [.str "number", .int 1]]]] : List (List D)), VO m := by
      intro m hm
      simp only [List.mem_cons, List.not_mem_nil, or_false] at hm
      rcases hm with rfl | rfl | rfl | rfl | rfl | rfl | rfl | rfl
      · exact pl.twice
      · exact pl.rest
      · exact pl.lates hda fo
      all_goals exact vo_one _
    generalize [V.ref c1, .ref b2, .ref c9, .ref d1, .ref d2, .ref d3, .ref d4, .ref d5] = ws at L5 tw
    generalize ([l ++ l.take 1, l.drop 1, l.take at_ ++ [.tup [.str sa, .int ((La : Int) + 1), ba]] ++ l.drop (at_ + 1), [.tup [.str "f", .int 0, .tup [.str "number", .int 1]]], [.tup [.str "f_00", .int 0, .tup [.str "number", .int 1]]], [.tup [.str "f_10000001", .int 0, .tup [.str "number", .int 1]]], [.tup [.str "e_1", .int 0, .tup [.str "number", .int 1]]], [.tup [.str "f__1", .int 0, .tup [.str "number", .int 1]]]] : List (List D)) = ds at tw hvo
    have S827 := S817.trans S1727
    have g27 := g8.same S827
    have hp27 := S827 _ _ hp8
    have hpx27 := hpx8.mono (Same.kp S827)
    have tb27 := tb8.mono (Same.kp S827)
    refine ⟨_, rfl, l5, rfl, ⟨_, SqL.of L5⟩, for_srv (Srv.lst (P := fun H' => H' l5 = some (.lst ws)) fun H' h => SqL.of h) (fun i σ H' => (∃ o11 o12, σ = [some (.ref S.1), some (.ref r), some (.ref a), some (.str f.1.1), some (.int (f.1.2 : Nat)), some y3, some (.ref pv), some (.int (at_ : Nat)), some (.str sa), some (.int (La : Nat)), some vb, o11, o12, some (.ref l5), none, none, none, none]) ∧ LG K S Ts r H' ∧ H' pv = some (.tup pxs) ∧ Tds H' pxs l ∧ Td H' vb ba ∧ H' l5 = some (.lst ws) ∧ Tds H' ws (ds.map D.tup)) (fun i σ H' h => h.2.2.2.2.2.1) ⟨⟨_, _, rfl⟩, g27, hp27, hpx27, tb27, L5, tw⟩ ?_ ?_⟩
    · rintro i x σ H28 hxi ⟨⟨o11, o12, rfl⟩, g28, hp28, hpx28, tb28, L28, tw28⟩
      obtain ⟨d, hd1, hd2, hd3⟩ := tw28.get2 hxi
      obtain ⟨m, hm, rfl⟩ := List.mem_map.mp hd2
      have vo := hvo m hm
      unfold gName
      refine chk2 (l := m) (by rfl) hd3 vo.sz vo.tr vo.ck g28.tab fun H29 e29 => ?_
      exact ⟨⟨_, _, rfl⟩, g28.ext e29, e29.kp _ _ hp28, hpx28.mono e29.kp, tb28.mono e29.kp, e29.ext.lst L28, tw28.mono e29.kp⟩
    rintro σ H28 ⟨⟨o11, o12, rfl⟩, g28, hp28, hpx28, tb28, _, _⟩
    refine ⟨_, rfl, _, _, rfl, .inr (SqT.of hp28), fun m1 hm1 => ⟨(by show 1 ≤ sizeLine; decide), fun q1 hq1 => ⟨_, rfl, _, rfl, (by show 2 ≤ sizeLine; decide), fun q2 hq2 => ⟨(by show 1 ≤ sizeLine; decide), fun q3 hq3 => ⟨_, rfl, _, rfl, _, rfl, (by show 3 ≤ sizeLine; decide), fun q4 hq4 => ⟨(by show 1 ≤ sizeLine; decide), fun q5 hq5 => fun q6 hq6 => ⟨(by show 8 ≤ sizeLine; decide), fun q7 hq7 => ?_⟩⟩⟩⟩⟩⟩⟩
    have U1 := Same.new hm1 (.lst pxs)
    have U2 := Same.new hq1 (.tup [.int 3])
    have U3 := Same.new hq2 (.tup [.str sa, .int (La : Nat)])
    have U4 := Same.new hq3 (.tup [.ref q2])
    have U5 := Same.new hq4 (.lst [.str sa, .int (La : Nat), vb])
    have U6 := Same.new hq5 (.tup [.ref q4])
    have U7 := Same.new hq6 (.dK [])
    have U8 := Same.new hq7 (.lst [V.non, .int 3, .str "f_0", .ref m1, .ref q1, .ref q3, .ref q5, .ref q6])
    have U68 := U6.trans (U7.trans U8)
    have U48 := U4.trans (U5.trans U68)
    have U28 := U2.trans (U3.trans U48)
    have U18 := U1.trans U28
    have n4 := U28 _ _ upd_same
    have n5 := (U3.trans U48) _ _ upd_same
    have n5' := U48 _ _ upd_same
    have n6 := (U5.trans U68) _ _ upd_same
    have n7 := U68 _ _ upd_same
    have n7' := (U7.trans U8) _ _ upd_same
    have n8 := U8 _ _ upd_same
    refine ⟨q7, rfl, ⟨_, SqL.of upd_same⟩, ?_⟩
    have N7 : (L2.upd (L2.upd (L2.upd (L2.upd (L2.upd (L2.upd (L2.upd (L2.upd H28 m1 (.lst pxs)) q1 (.tup [.int 3])) q2 (.tup [.str sa, .int (La : Nat)])) q3 (.tup [.ref q2])) q4 (.lst [.str sa, .int (La : Nat), vb])) q5 (.tup [.ref q4])) q6 (.dK [])) q7 (.lst [V.non, .int 3, .str "f_0", .ref m1, .ref q1, .ref q3, .ref q5, .ref q6])) q7 = some (.lst [V.non, .int 3, .str "f_0", .ref m1, .ref q1, .ref q3, .ref q5, .ref q6]) := upd_same
    generalize L2.upd (L2.upd (L2.upd (L2.upd (L2.upd (L2.upd (L2.upd (L2.upd H28 m1 (.lst pxs)) q1 (.tup [.int 3])) q2 (.tup [.str sa, .int (La : Nat)])) q3 (.tup [.ref q2])) q4 (.lst [.str sa, .int (La : Nat), vb])) q5 (.tup [.ref q4])) q6 (.dK [])) q7 (.lst [V.non, .int 3, .str "f_0", .ref m1, .ref q1, .ref q3, .ref q5, .ref q6]) = H29 at U18 n4 n5 n5' n6 n7 n7' n8 N7
    have hno : ∀ x ∈ [V.non, .int 3, .str "f_0", .ref m1, .ref q1, .ref q3, .ref q5, .ref q6], NoV H29 x := by
      intro x hx
      simp only [List.mem_cons, List.not_mem_nil, or_false] at hx
      rcases hx with rfl | rfl | rfl | rfl | rfl | rfl | rfl | rfl
      · exact .d _ .non .non (by decide +kernel) rfl
      · exact .d _ (.int 3) (.int 3) (by decide +kernel) rfl
      · exact .d _ (.str "f_0") (.str _ (by decide)) (by decide +kernel) rfl
      · exact .l _ _ n4
      · exact .d _ (.tup [.int 3]) (.tup n5 (by show 1 ≤ 1000; decide) (.cons (.int 3) .nil)) (by decide +kernel) (no_one _ no_three)
      · exact .d _ (.tup [.tup [.str sa, .int (La : Nat)]]) (.tup n6 (by show 1 ≤ 1000; decide) (.cons (.tup n5' (by show 2 ≤ 1000; decide) (.cons (.str _ (Nat.le_trans fo.s (by decide))) (.cons (.int _) .nil))) .nil)) (by simp only [D.sz, D.szs]; omega) (no_one _ (no_two _ _))
      · exact .t _ _ _ n7' n7
      · exact .k _ _ n8
    generalize [V.non, .int 3, .str "f_0", .ref m1, .ref q1, .ref q3, .ref q5, .ref q6] = ns at N7 hno
    have g29 := g28.same U18
    have hp29 := U18 _ _ hp28
    have hpx29 := hpx28.mono (Same.kp U18)
    refine for_srv (Srv.lst (P := fun H' => H' q7 = some (.lst ns)) fun H' h => SqL.of h) (fun i σ H' => (∃ o14, σ = [some (.ref S.1), some (.ref r), some (.ref a), some (.str f.1.1), some (.int (f.1.2 : Nat)), some y3, some (.ref pv), some (.int (at_ : Nat)), some (.str sa), some (.int (La : Nat)), some vb, o11, o12, some (.ref l5), o14, none, none, none]) ∧ LG K S Ts r H' ∧ H' pv = some (.tup pxs) ∧ Tds H' pxs l ∧ H' q7 = some (.lst ns) ∧ ∀ x ∈ ns, NoV H' x) (fun i σ H' h => h.2.2.2.2.1) ⟨⟨_, rfl⟩, g29, hp29, hpx29, N7, hno⟩ ?_ ?_
    · rintro i x σ H30 hxi ⟨⟨o14, rfl⟩, g30, hp30, hpx30, N30, hno30⟩
      unfold gName
      refine chk1 (b := false) (by rfl) (fun Q E q => (hno30 x (List.mem_of_getElem? hxi)).sp g30.tab q) fun H31 e31 => ?_
      exact ⟨⟨_, rfl⟩, g30.ext e31, e31.kp _ _ hp30, hpx30.mono e31.kp, e31.ext.lst N30, fun y hy => (hno30 y hy).ext e31.ext⟩
    rintro σ H30 ⟨⟨o14, rfl⟩, g30, hp30, hpx30, _, _⟩
    obtain ⟨d0, lr, hl0⟩ : ∃ d0 lr, l = d0 :: lr := by
      cases l with
      | nil => exact absurd pl1 (by decide)
      | cons d r => exact ⟨d, r, rfl⟩
    obtain ⟨s0, L0, b0, e0, fo0⟩ := pl.fn (show d0 ∈ l by rw [hl0]; exact List.mem_cons_self)
    have hpx30' := hpx30
    rw [hl0] at hpx30'
    obtain ⟨x0, xr, hx0, td0, _⟩ := hpx30'.cons_inv
    rw [e0] at td0
    obtain ⟨p0, ys0, rfl, hp0, _, hys0⟩ := td0.tup_inv
    obtain ⟨w1, ys0, rfl, j1, hys0⟩ := hys0.cons_inv
    obtain ⟨w2', ys0, rfl, j2, hys0⟩ := hys0.cons_inv
    obtain ⟨w3', ys0, rfl, j3, hys0⟩ := hys0.cons_inv
    obtain rfl := hys0.nil_inv
    obtain rfl := j2.int_inv
    have hL4 := fo0.L
    refine ⟨_, rfl, _, _, _, _, rfl, rfl, SqT.of (hp30), by rw [hx0]; exact at0, _, _, _, _, rfl, rfl, SqT.of (hp0), at1, (L0 : Int), rfl, by omega, by omega, fun Dl hDl => ?_⟩
    rw [show ((L0 : Nat) : Int).toNat = L0 by omega]
    have hDr := g30.row.ne hDl
    refine lc_srv (Srv.rng (P := fun _ => True) L0) (fun i H' => RFr r H30 H' ∧ Row K S H' r ∧ ∃ env : List Int, H' Dl = some (.lst (env.map V.int)) ∧ env.length = i ∧ ∀ e ∈ env, InN e) (fun _ _ _ => True.intro) ⟨(RFr.refl r H30).new hDl _, g30.row.same (Same.new hDl _), [], upd_same, rfl, fun _ h => nomatch h⟩ ?_ ?_
    · rintro i x H31 hxi ⟨f31, w31, env, hz, hel, hall⟩
      have hi : i < L0 := by
        have := (List.getElem?_eq_some_iff.mp hxi).1
        simpa using this
      refine ⟨rfl, yesI ?_⟩
      refine ⟨_, rfl, (by show 6 ≤ sizeLine; decide), fun p1 hp1 => ?_⟩
      have S32 := Same.new hp1 (.lst (([0, 1, 2, 5, 100, 1000000] : List Int).map V.int))
      refine ⟨r, p1, ([0, 1, 2, 5, 100, 1000000] : List Int).map V.int, rfl, w31.same S32, w31.ne hp1, .inl (SqL.of upd_same), (fun z => nomatch z), (by show 6 ≤ 1000; decide), fun j y H33 hy f33 w33 => ?_⟩
      obtain ⟨e, he, rfl⟩ := pick_ints hy
      have hz33 := f33 _ _ (S32 _ _ hz) hDr
      refine ⟨env.map V.int, hz33, szlt (by rw [List.length_map]; omega), ((f31.same S32).trans f33).mut hDl, g30.row.mut w33 hDl, env ++ [e], (by rw [List.map_append]; exact upd_same), by rw [List.length_append, hel]; rfl, fun e' he' => ?_⟩
      rcases List.mem_append.mp he' with he' | he'
      · exact hall e' he'
      · rw [List.mem_singleton] at he'
        subst he'
        simp only [List.mem_cons, List.not_mem_nil, or_false] at he
        rcases he with rfl | rfl | rfl | rfl | rfl | rfl <;> exact ⟨by decide, by decide⟩
    · rintro H31 ⟨f31, w31, env, hz, hel, hall⟩
      have hel : env.length = L0 := by simpa using hel
      refine ⟨_, _, rfl, .inl ⟨SqL.of hz, fun pt hpt => ?_⟩⟩
      have S32 := Same.new hpt (.tup (env.map V.int))
      refine ⟨_, rfl, (by show 7 ≤ sizeLine; decide), fun p2 hp2 => ?_⟩
      have S33 := Same.new hp2 (.lst (([0, 1, 3, 10, 30, 90, 150] : List Int).map V.int))
      have w33 := w31.same (S32.trans S33)
      refine ⟨r, p2, ([0, 1, 3, 10, 30, 90, 150] : List Int).map V.int, rfl, w33, (w31.same S32).ne hp2, .inl (SqL.of upd_same), (fun z => nomatch z), (by show 7 ≤ 1000; decide), fun j y H34 hy f34 w34 => ?_⟩
      obtain ⟨fu, hfu, rfl⟩ := pick_ints hy
      have hfu2 : 0 ≤ fu ∧ fu ≤ 150 := by
        simp only [List.mem_cons, List.not_mem_nil, or_false] at hfu
        rcases hfu with rfl | rfl | rfl | rfl | rfl | rfl | rfl <;> exact ⟨by decide, by decide⟩
      refine ⟨_, _, rfl, ?_⟩
      have F := (f31.same (S32.trans S33)).trans f34
      have kp := g30.row.kp F
      have hpt34 := w33.kp f34 _ _ (S33 _ _ upd_same)
      have g34 := g30.fr F w34
      have tenv : ∀ env : List Int, Tds H34 (env.map V.int) (env.map D.int) := fun env => by
        induction env with
        | nil => exact .nil
        | cons e r ih => exact .cons (.int e) ih
      have rg : RunG H34 l env fu (.ref pv) (.ref pt) := ⟨gp_of pl.ok.pl, pl.ok.sm, .tup (kp _ _ hp30) hpl (hpx30.mono kp), .tup hpt34 (by rw [List.length_map]; omega) (tenv env), hall, by rw [hl0, e0, hel]; rfl, hfu2.1, hfu2.2⟩
      refine ⟨_, rfl, _, rfl, _, rfl, l, env, fu, _, _, rfl, rg, pl.ok.pl, pl.vo.sz, g34.tab, fun x1 H35 r1 e35 En1 t1 => ?_⟩
      refine ⟨_, rfl, _, rfl, _, rfl, l, env, fu, _, _, rfl, rg.kp e35.kp, fun x2 H36 r2 S36 En2 t2 => ?_⟩
      obtain rfl := ends_inj En1 En2
      have t1' := t1.mono (Same.kp S36)
      cases r1 with
      | none => exact ⟨_, _, _, _, 0, true, by decide, rfl, t1', t2, .non 0, fun H' _ => q H'⟩
      | some p =>
        obtain ⟨v, n⟩ := p
        exact ⟨_, _, _, _, 1, true, by decide, rfl, t1', t2, .two 0 _ _, fun H' _ => q H'⟩
end
end K04
namespace K04
open PySem PySem.Spec PyProof.Rows L2
abbrev R : PySem.W.OpenRow := PySem.W.OpenLaw.row PySem.Challenge.rw_staged_k04_whole_plain_programs
def d_is_in : He.DefD := ⟨("is_in", none), "is_in", "is_in", defArgs s_is_in, defBody s_is_in, defScope s_is_in, [], []⟩
def d_is_name : He.DefD := ⟨("is_name", none), "is_name", "is_name", defArgs s_is_name, defBody s_is_name, defScope s_is_name, [], []⟩
def d_is_tuple : He.DefD := ⟨("is_tuple", none), "is_tuple", "is_tuple", defArgs s_is_tuple, defBody s_is_tuple, defScope s_is_tuple, [], []⟩
def d_parts_of : He.DefD := ⟨("parts_of", none), "parts_of", "parts_of", defArgs s_parts_of, defBody s_parts_of, defScope s_parts_of, [], []⟩
def d_calls_of : He.DefD := ⟨("calls_of", none), "calls_of", "calls_of", defArgs s_calls_of, defBody s_calls_of, defScope s_calls_of, [], []⟩
def d_worked : He.DefD := ⟨("worked", none), "worked", "worked", defArgs s_worked, defBody s_worked, defScope s_worked, [], []⟩
def d_need_lates : He.DefD := ⟨("need_lates", none), "need_lates", "need_lates", defArgs s_need_lates, defBody s_need_lates, defScope s_need_lates, [], []⟩
def d_need_fuel : He.DefD := ⟨("need_fuel", none), "need_fuel", "need_fuel", defArgs s_need_fuel, defBody s_need_fuel, defScope s_need_fuel, [], []⟩
def d_point_of : He.DefD := ⟨("point_of", none), "point_of", "point_of", defArgs s_point_of, defBody s_point_of, defScope s_point_of, [], []⟩
def d_is_plain_expression : He.DefD := ⟨("is_plain_expression", none), "is_plain_expression", "is_plain_expression", defArgs s_is_plain_expression, defBody s_is_plain_expression, defScope s_is_plain_expression, [], []⟩
def d_is_plain_function : He.DefD := ⟨("is_plain_function", none), "is_plain_function", "is_plain_function", defArgs s_is_plain_function, defBody s_is_plain_function, defScope s_is_plain_function, [], []⟩
def d_is_plain : He.DefD := ⟨("is_plain", none), "is_plain", "is_plain", defArgs s_is_plain, defBody s_is_plain, defScope s_is_plain, [], []⟩
def d_need_plain : He.DefD := ⟨("need_plain", none), "need_plain", "need_plain", defArgs s_need_plain, defBody s_need_plain, defScope s_need_plain, [], []⟩
def d_PlainRunner_init : He.DefD := ⟨("PlainRunner", some "__init__"), "__init__", "PlainRunner.__init__", defArgs s_PlainRunner_init, defBody s_PlainRunner_init, defScope s_PlainRunner_init, [], []⟩
def d_PlainRunner_begin : He.DefD := ⟨("PlainRunner", some "begin"), "begin", "PlainRunner.begin", defArgs s_PlainRunner_begin, defBody s_PlainRunner_begin, defScope s_PlainRunner_begin, [], []⟩
def d_PlainRunner_finish : He.DefD := ⟨("PlainRunner", some "finish"), "finish", "PlainRunner.finish", defArgs s_PlainRunner_finish, defBody s_PlainRunner_finish, defScope s_PlainRunner_finish, [], []⟩
def d_PlainRunner_value : He.DefD := ⟨("PlainRunner", some "value"), "value", "PlainRunner.value", defArgs s_PlainRunner_value, defBody s_PlainRunner_value, defScope s_PlainRunner_value, [], []⟩
def d_plain_run_of : He.DefD := ⟨("plain_run_of", none), "plain_run_of", "plain_run_of", defArgs s_plain_run_of, defBody s_plain_run_of, defScope s_plain_run_of, [], []⟩
def d_plain_run : He.DefD := ⟨("plain_run", none), "plain_run", "plain_run", defArgs s_plain_run, defBody s_plain_run, defScope s_plain_run, [], []⟩
def d__law_taken : He.DefD := ⟨("_law_taken", none), "_law_taken", "_law_taken", defArgs s__law_taken, defBody s__law_taken, defScope s__law_taken, [], []⟩
def d__law_pick : He.DefD := ⟨("_law_pick", none), "_law_pick", "_law_pick", defArgs s__law_pick, defBody s__law_pick, defScope s__law_pick, [], []⟩
def d__law_alike : He.DefD := ⟨("_law_alike", none), "_law_alike", "_law_alike", defArgs s__law_alike, defBody s__law_alike, defScope s__law_alike, [], []⟩
def d__law_is_int : He.DefD := ⟨("_law_is_int", none), "_law_is_int", "_law_is_int", defArgs s__law_is_int, defBody s__law_is_int, defScope s__law_is_int, [], []⟩
def d__law_name : He.DefD := ⟨("_law_name", none), "_law_name", "_law_name", defArgs s__law_name, defBody s__law_name, defScope s__law_name, [], []⟩
def d__law_expression : He.DefD := ⟨("_law_expression", none), "_law_expression", "_law_expression", defArgs s__law_expression, defBody s__law_expression, defScope s__law_expression, [], []⟩
def d__law_move : He.DefD := ⟨("_law_move", none), "_law_move", "_law_move", defArgs s__law_move, defBody s__law_move, defScope s__law_move, [], []⟩
def d__law_is_early : He.DefD := ⟨("_law_is_early", none), "_law_is_early", "_law_is_early", defArgs s__law_is_early, defBody s__law_is_early, defScope s__law_is_early, [], []⟩
def d__law_test : He.DefD := ⟨("_law_test", none), "_law_test", "_law_test", defArgs s__law_test, defBody s__law_test, defScope s__law_test, [], []⟩
def d__law_program : He.DefD := ⟨("_law_program", none), "_law_program", "_law_program", defArgs s__law_program, defBody s__law_program, defScope s__law_program, [], []⟩
def d__law_parts : He.DefD := ⟨("_law_parts", none), "_law_parts", "_law_parts", defArgs s__law_parts, defBody s__law_parts, defScope s__law_parts, [], []⟩
def d__law_nodes : He.DefD := ⟨("_law_nodes", none), "_law_nodes", "_law_nodes", defArgs s__law_nodes, defBody s__law_nodes, defScope s__law_nodes, [], []⟩
def d__law_calls : He.DefD := ⟨("_law_calls", none), "_law_calls", "_law_calls", defArgs s__law_calls, defBody s__law_calls, defScope s__law_calls, [], []⟩
def d__law_body : He.DefD := ⟨("_law_body", none), "_law_body", "_law_body", defArgs s__law_body, defBody s__law_body, defScope s__law_body, [], []⟩
def d__law_lates : He.DefD := ⟨("_law_lates", none), "_law_lates", "_law_lates", defArgs s__law_lates, defBody s__law_lates, defScope s__law_lates, [], []⟩
def d__law_worked : He.DefD := ⟨("_law_worked", none), "_law_worked", "_law_worked", defArgs s__law_worked, defBody s__law_worked, defScope s__law_worked, [], []⟩
def d__law_moved : He.DefD := ⟨("_law_moved", none), "_law_moved", "_law_moved", defArgs s__law_moved, defBody s__law_moved, defScope s__law_moved, [], []⟩
def d__law_holds : He.DefD := ⟨("_law_holds", none), "_law_holds", "_law_holds", defArgs s__law_holds, defBody s__law_holds, defScope s__law_holds, [], []⟩
def d__law_left : He.DefD := ⟨("_law_left", none), "_law_left", "_law_left", defArgs s__law_left, defBody s__law_left, defScope s__law_left, [], []⟩
def d__law_called : He.DefD := ⟨("_law_called", none), "_law_called", "_law_called", defArgs s__law_called, defBody s__law_called, defScope s__law_called, [], []⟩
def d__law_points : He.DefD := ⟨("_law_points", none), "_law_points", "_law_points", defArgs s__law_points, defBody s__law_points, defScope s__law_points, [], []⟩
def d__law_plain_run : He.DefD := ⟨("_law_plain_run", none), "_law_plain_run", "_law_plain_run", defArgs s__law_plain_run, defBody s__law_plain_run, defScope s__law_plain_run, [], []⟩
def d__law_staged : He.DefD := ⟨("_law_staged", none), "_law_staged", "_law_staged", defArgs s__law_staged, defBody s__law_staged, defScope s__law_staged, [], []⟩
def d__law_is_name : He.DefD := ⟨("_law_is_name", none), "_law_is_name", "_law_is_name", defArgs s__law_is_name, defBody s__law_is_name, defScope s__law_is_name, [], []⟩
def d__law_is_plain_part : He.DefD := ⟨("_law_is_plain_part", none), "_law_is_plain_part", "_law_is_plain_part", defArgs s__law_is_plain_part, defBody s__law_is_plain_part, defScope s__law_is_plain_part, [], []⟩
def d__law_is_plain : He.DefD := ⟨("_law_is_plain", none), "_law_is_plain", "_law_is_plain", defArgs s__law_is_plain, defBody s__law_is_plain, defScope s__law_is_plain, [], []⟩
def d__law_bent : He.DefD := ⟨("_law_bent", none), "_law_bent", "_law_bent", defArgs s__law_bent, defBody s__law_bent, defScope s__law_bent, [], []⟩
def d_law : He.DefD := ⟨("law", none), "law", "law", defArgs s_law, defBody s_law, defScope s_law, [], []⟩
def fn : List He.DefD := ([d_is_in, d_is_name, d_is_tuple, d_parts_of, d_calls_of, d_worked, d_need_lates, d_need_fuel, d_point_of, d_is_plain_expression, d_is_plain_function, d_is_plain, d_need_plain, d_PlainRunner_init, d_PlainRunner_begin, d_PlainRunner_finish, d_PlainRunner_value, d_plain_run_of, d_plain_run, d__law_taken] : List He.DefD) ++ ([d__law_pick, d__law_alike, d__law_is_int, d__law_name, d__law_expression, d__law_move, d__law_is_early, d__law_test, d__law_program, d__law_parts, d__law_nodes, d__law_calls, d__law_body, d__law_lates, d__law_worked, d__law_moved, d__law_holds, d__law_left, d__law_called, d__law_points] : List He.DefD) ++ ([d__law_plain_run, d__law_staged, d__law_is_name, d__law_is_plain_part, d__law_is_plain, d__law_bent, d_law] : List He.DefD)
def fa : List He.Fa := ([.glo "is_in", .glo "is_name", .glo "is_tuple", .glo "parts_of", .glo "calls_of", .glo "worked", .glo "need_lates", .glo "need_fuel", .glo "point_of", .glo "is_plain_expression", .glo "is_plain_function", .glo "is_plain", .glo "need_plain", .glo "plain_run_of", .glo "plain_run", .glo "_law_taken", .glo "_law_pick", .glo "_law_alike", .glo "_law_is_int", .glo "_law_name"] : List He.Fa) ++ ([.glo "_law_expression", .glo "_law_move", .glo "_law_is_early", .glo "_law_test", .glo "_law_program", .glo "_law_parts", .glo "_law_nodes", .glo "_law_calls", .glo "_law_body", .glo "_law_lates", .glo "_law_worked", .glo "_law_moved", .glo "_law_holds", .glo "_law_left", .glo "_law_called", .glo "_law_points", .glo "_law_plain_run", .glo "_law_staged", .glo "_law_is_name", .glo "_law_is_plain_part"] : List He.Fa) ++ ([.glo "_law_is_plain", .glo "_law_bent", .glo "law", .glo "PlainRunner", .glo "TAKEN", .glo "PAIRS", .int "MOST_NUMBER" 1000000, .int "MOST_LATES" 4, .int "MOST_LETTERS" 8, .int "MOST_DEEP" 30, .int "MOST_FUEL" 100000, .int "MOST_VALUE" 1000000000000000000000000000000, .int "MOST_EARLY" 10000000, .int "MOST_PLAIN" 300, .str "LETTERS" "abcdefghijklmnopqrstuvwxyz", .str "DIGITS" "0123456789", .free "isinstance", .free "int", .free "bool", .free "str"] : List He.Fa) ++ ([.free "tuple", .free "list", .free "len", .free "all", .free "min", .free "max", .free "range", .free "sorted", .cls "PlainRunner", .noat "PlainRunner" "bodies", .noat "PlainRunner" "fuel", .noat "PlainRunner" "steps", .noat "PlainRunner" "tasks", .noat "PlainRunner" "done", .meth "PlainRunner" "begin", .meth "PlainRunner" "finish", .meth "PlainRunner" "value", .mkr "PlainRunner"] : List He.Fa)
def tf : List He.Defn := [("is_name", none), ("need_lates", none), ("point_of", none), ("is_plain_expression", none), ("is_plain", none)]
def takenV : List He.Dv := [.str "if", .str "then", .str "else", .str "mod", .str "a", .str "b", .str "c", .str "d", .str "e"]
def pairsV : List He.Dv := [.str "plus", .str "minus", .str "times"]
def ex (K : PySem.W.Frag) : Bool := He.lstB K "TAKEN" takenV && He.lstB K "PAIRS" pairsV
def loose : List Str := (["StageError", "BadLates", "BadFuel", "BadPlain", "MOST_NUMBER", "MOST_LATES", "MOST_LETTERS", "MOST_DEEP", "LETTERS", "TAKEN", "PAIRS", "is_in", "is_name", "is_tuple", "parts_of", "calls_of", "MOST_FUEL", "MOST_VALUE", "worked", "need_lates", "need_fuel", "MOST_EARLY", "MOST_PLAIN", "DIGITS", "point_of", "is_plain_expression", "is_plain_function", "is_plain", "need_plain", "PlainRunner"] : List Str) ++ (["plain_run_of", "plain_run", "_law_taken", "_law_pick", "_law_alike", "_law_is_int", "_law_name", "_law_expression", "_law_move", "_law_is_early", "_law_test", "_law_program", "_law_parts", "_law_nodes", "_law_calls", "_law_body", "_law_lates", "_law_worked", "_law_moved", "_law_holds", "_law_left", "_law_called", "_law_points", "_law_plain_run", "_law_staged", "_law_is_name", "_law_is_plain_part", "_law_is_plain", "_law_bent"] : List Str)
abbrev hk : PySem.W.Hook := He.hookX 5 fa fn [] tf ex
def ob (s : PySem.W.SharedT) : He.AlX := He.obsX 5 fa fn [] tf ex (HandSHeadRun.getT s)
theorem ob_eq (s : PySem.W.SharedT) : ob s = hk.obs s.abs := He.obsX_eq (HandSHeadRun.getT_eq s)
section
variable {P : Program} {w : World} {K : PySem.W.Frag} {mg : Str → Option Value} {h base : Heap}
abbrev TsOf (K : PySem.W.Frag) : List Addr := tf.map fun p => (He.cT K p).2
theorem def_of {f : Addr} {fd : FuncData} {x : Str} {st : Stmt} {ps : List Str} (F : L2.FunD K x x (defArgs st) (defBody st) (defScope st) [] [] f fd) (m : mg x = some (.ref f))
    (hb : ∀ (kV doc pm : Value) (an : Option Addr) (cdv ct : Value) (us : List Value), us.length = ps.length → bindArgs (PySem.W.fnOf x x (defArgs st) (defBody st) (defScope st) .none kV doc pm an cdv ct) ⟨us, []⟩ = pure (ps.zip us)) : Def K mg x st ps :=
  ⟨f, fd, He5.fun_of F, L2.Fun.binds (He5.fun_of F) hb, m⟩
theorem deft_of {fd : FuncData} {x : Str} {st : Stmt} {ps : List Str} (F : L2.FunD K x x (defArgs st) (defBody st) (defScope st) [] [] (He.fAd K (x, none)) fd) (m : mg x = some (.ref (He.fAd K (x, none))))
    (hb : ∀ (kV doc pm : Value) (an : Option Addr) (cdv ct : Value) (us : List Value), us.length = ps.length → bindArgs (PySem.W.fnOf x x (defArgs st) (defBody st) (defScope st) .none kV doc pm an cdv ct) ⟨us, []⟩ = pure (ps.zip us))
    (TB : GxR.TabB base mg (He.cT K (x, none)).1 (He.cT K (x, none)).2) : DefT K mg base x st ps (He.cT K (x, none)).2 := by
  have F' := He5.fun_of F
  obtain ⟨oc, od, kV, doc, pm, an, cdv, ct, osl, e, lk, hcd⟩ := F'.ex
  obtain ⟨c, hc⟩ := He.codeIn_ref hcd
  have hc2 : fd.code = .ref c := by rw [e]; exact hc
  have hco := He.codeOf_eq lk hc2
  refine ⟨_, c, fd, F', L2.Fun.binds F' hb, m, hc2, ?_⟩
  have e2 : (He.cT K (x, none)).1 = c := hco
  rw [e2] at TB
  exact TB
theorem defm_of {C f : Addr} {fd : FuncData} {x q : Str} {st : Stmt} {ps : List Str} (F : L2.FunD K x q (defArgs st) (defBody st) (defScope st) [] [] f fd) (hc : Cls K C) (hm : Meth K C x f)
    (hb : ∀ (kV doc pm : Value) (an : Option Addr) (cdv ct : Value) (us : List Value), us.length = ps.length → bindArgs (PySem.W.fnOf x q (defArgs st) (defBody st) (defScope st) .none kV doc pm an cdv ct) ⟨us, []⟩ = pure (ps.zip us)) : DefM K C x q st ps :=
  ⟨f, fd, hc, hm, He5.fun_of F, L2.Fun.binds (He5.fun_of F) hb⟩
theorem defi_of {C f : Addr} {fd : FuncData} {x q : Str} {st : Stmt} {ps : List Str} (F : L2.FunD K "__init__" q (defArgs st) (defBody st) (defScope st) [] [] f fd) (hm : Mk K C f) (m : mg x = some (.ref C))
    (hb : ∀ (kV doc pm : Value) (an : Option Addr) (cdv ct : Value) (us : List Value), us.length = ps.length → bindArgs (PySem.W.fnOf "__init__" q (defArgs st) (defBody st) (defScope st) .none kV doc pm an cdv ct) ⟨us, []⟩ = pure (ps.zip us)) : DefI K mg C x q st ps :=
  ⟨f, fd, hm, m, He5.fun_of F, L2.Fun.binds (He5.fun_of F) hb⟩
theorem txt_of (X : K.In h) (G : h.Ns mainGlobals mg) (c : He.SaysD fa fn K) (e : ex K = true) : Txt K mg := by
  obtain ⟨e1, e2⟩ := He.ba (show (He.lstB K "TAKEN" takenV && He.lstB K "PAIRS" pairsV) = true from e)
  exact {
    f_isinstance := He.free_ok X G (c.fact 56 (f := .free "isinstance") rfl)
    f_int := He.free_ok X G (c.fact 57 (f := .free "int") rfl)
    f_bool := He.free_ok X G (c.fact 58 (f := .free "bool") rfl)
    f_str := He.free_ok X G (c.fact 59 (f := .free "str") rfl)
    f_tuple := He.free_ok X G (c.fact 60 (f := .free "tuple") rfl)
    f_list := He.free_ok X G (c.fact 61 (f := .free "list") rfl)
    f_len := He.free_ok X G (c.fact 62 (f := .free "len") rfl)
    f_all := He.free_ok X G (c.fact 63 (f := .free "all") rfl)
    f_min := He.free_ok X G (c.fact 64 (f := .free "min") rfl)
    f_max := He.free_ok X G (c.fact 65 (f := .free "max") rfl)
    f_range := He.free_ok X G (c.fact 66 (f := .free "range") rfl)
    f_sorted := He.free_ok X G (c.fact 67 (f := .free "sorted") rfl)
    MOST_NUMBER := He.int_ok X G (c.fact 46 (f := .int "MOST_NUMBER" 1000000) rfl)
    MOST_LATES := He.int_ok X G (c.fact 47 (f := .int "MOST_LATES" 4) rfl)
    MOST_LETTERS := He.int_ok X G (c.fact 48 (f := .int "MOST_LETTERS" 8) rfl)
    MOST_DEEP := He.int_ok X G (c.fact 49 (f := .int "MOST_DEEP" 30) rfl)
    MOST_FUEL := He.int_ok X G (c.fact 50 (f := .int "MOST_FUEL" 100000) rfl)
    MOST_VALUE := He.int_ok X G (c.fact 51 (f := .int "MOST_VALUE" 1000000000000000000000000000000) rfl)
    MOST_EARLY := He.int_ok X G (c.fact 52 (f := .int "MOST_EARLY" 10000000) rfl)
    MOST_PLAIN := He.int_ok X G (c.fact 53 (f := .int "MOST_PLAIN" 300) rfl)
    LETTERS := He.str_ok X G (c.fact 54 (f := .str "LETTERS" "abcdefghijklmnopqrstuvwxyz") rfl)
    DIGITS := He.str_ok X G (c.fact 55 (f := .str "DIGITS" "0123456789") rfl)
    TAKEN := He.glo_ok X G (c.fact 44 (f := .glo "TAKEN") rfl)
    PAIRS := He.glo_ok X G (c.fact 45 (f := .glo "PAIRS") rfl)
    taken := fun H => He.lstB_ok e1 H
    pairs := fun H => He.lstB_ok e2 H }
theorem D_is_in (X : K.In h) (G : h.Ns mainGlobals mg) (c : He.SaysD fa fn K) : Def K mg "is_in" s_is_in ["value", "least", "most"] := by
  obtain ⟨fd, F⟩ := c.def_ 0 (d := d_is_in) rfl
  exact def_of F (He.glo_ok X G (c.fact 0 (f := .glo "is_in") rfl)) (fun _ _ _ _ _ _ us hl => match us, hl with | [_, _, _], _ => rfl)
theorem D_is_name (X : K.In h) (G : h.Ns mainGlobals mg) (c : He.SaysD fa fn K) (TB : GxR.TabB base mg (He.cT K ("is_name", none)).1 (He.cT K ("is_name", none)).2) : DefT K mg base "is_name" s_is_name ["value"] (He.cT K ("is_name", none)).2 := by
  obtain ⟨fd, F⟩ := c.def_ 1 (d := d_is_name) rfl
  exact deft_of F (He.glo_ok X G (c.fact 1 (f := .glo "is_name") rfl)) (fun _ _ _ _ _ _ us hl => match us, hl with | [_], _ => rfl) TB
theorem D_is_tuple (X : K.In h) (G : h.Ns mainGlobals mg) (c : He.SaysD fa fn K) : Def K mg "is_tuple" s_is_tuple ["value", "many"] := by
  obtain ⟨fd, F⟩ := c.def_ 2 (d := d_is_tuple) rfl
  exact def_of F (He.glo_ok X G (c.fact 2 (f := .glo "is_tuple") rfl)) (fun _ _ _ _ _ _ us hl => match us, hl with | [_, _], _ => rfl)
theorem D_parts_of (X : K.In h) (G : h.Ns mainGlobals mg) (c : He.SaysD fa fn K) : Def K mg "parts_of" s_parts_of ["one"] := by
  obtain ⟨fd, F⟩ := c.def_ 3 (d := d_parts_of) rfl
  exact def_of F (He.glo_ok X G (c.fact 3 (f := .glo "parts_of") rfl)) (fun _ _ _ _ _ _ us hl => match us, hl with | [_], _ => rfl)
theorem D_calls_of (X : K.In h) (G : h.Ns mainGlobals mg) (c : He.SaysD fa fn K) : Def K mg "calls_of" s_calls_of ["one"] := by
  obtain ⟨fd, F⟩ := c.def_ 4 (d := d_calls_of) rfl
  exact def_of F (He.glo_ok X G (c.fact 4 (f := .glo "calls_of") rfl)) (fun _ _ _ _ _ _ us hl => match us, hl with | [_], _ => rfl)
theorem D_worked (X : K.In h) (G : h.Ns mainGlobals mg) (c : He.SaysD fa fn K) : Def K mg "worked" s_worked ["kind", "one", "other"] := by
  obtain ⟨fd, F⟩ := c.def_ 5 (d := d_worked) rfl
  exact def_of F (He.glo_ok X G (c.fact 5 (f := .glo "worked") rfl)) (fun _ _ _ _ _ _ us hl => match us, hl with | [_, _, _], _ => rfl)
theorem D_need_lates (X : K.In h) (G : h.Ns mainGlobals mg) (c : He.SaysD fa fn K) (TB : GxR.TabB base mg (He.cT K ("need_lates", none)).1 (He.cT K ("need_lates", none)).2) : DefT K mg base "need_lates" s_need_lates ["many", "lates"] (He.cT K ("need_lates", none)).2 := by
  obtain ⟨fd, F⟩ := c.def_ 6 (d := d_need_lates) rfl
  exact deft_of F (He.glo_ok X G (c.fact 6 (f := .glo "need_lates") rfl)) (fun _ _ _ _ _ _ us hl => match us, hl with | [_, _], _ => rfl) TB
theorem D_need_fuel (X : K.In h) (G : h.Ns mainGlobals mg) (c : He.SaysD fa fn K) : Def K mg "need_fuel" s_need_fuel ["fuel"] := by
  obtain ⟨fd, F⟩ := c.def_ 7 (d := d_need_fuel) rfl
  exact def_of F (He.glo_ok X G (c.fact 7 (f := .glo "need_fuel") rfl)) (fun _ _ _ _ _ _ us hl => match us, hl with | [_], _ => rfl)
theorem D_point_of (X : K.In h) (G : h.Ns mainGlobals mg) (c : He.SaysD fa fn K) (TB : GxR.TabB base mg (He.cT K ("point_of", none)).1 (He.cT K ("point_of", none)).2) : DefT K mg base "point_of" s_point_of ["name"] (He.cT K ("point_of", none)).2 := by
  obtain ⟨fd, F⟩ := c.def_ 8 (d := d_point_of) rfl
  exact deft_of F (He.glo_ok X G (c.fact 8 (f := .glo "point_of") rfl)) (fun _ _ _ _ _ _ us hl => match us, hl with | [_], _ => rfl) TB
theorem D_is_plain_expression (X : K.In h) (G : h.Ns mainGlobals mg) (c : He.SaysD fa fn K) (TB : GxR.TabB base mg (He.cT K ("is_plain_expression", none)).1 (He.cT K ("is_plain_expression", none)).2) : DefT K mg base "is_plain_expression" s_is_plain_expression ["value", "lates", "deep"] (He.cT K ("is_plain_expression", none)).2 := by
  obtain ⟨fd, F⟩ := c.def_ 9 (d := d_is_plain_expression) rfl
  exact deft_of F (He.glo_ok X G (c.fact 9 (f := .glo "is_plain_expression") rfl)) (fun _ _ _ _ _ _ us hl => match us, hl with | [_, _, _], _ => rfl) TB
theorem D_is_plain_function (X : K.In h) (G : h.Ns mainGlobals mg) (c : He.SaysD fa fn K) : Def K mg "is_plain_function" s_is_plain_function ["value"] := by
  obtain ⟨fd, F⟩ := c.def_ 10 (d := d_is_plain_function) rfl
  exact def_of F (He.glo_ok X G (c.fact 10 (f := .glo "is_plain_function") rfl)) (fun _ _ _ _ _ _ us hl => match us, hl with | [_], _ => rfl)
theorem D_is_plain (X : K.In h) (G : h.Ns mainGlobals mg) (c : He.SaysD fa fn K) (TB : GxR.TabB base mg (He.cT K ("is_plain", none)).1 (He.cT K ("is_plain", none)).2) : DefT K mg base "is_plain" s_is_plain ["value"] (He.cT K ("is_plain", none)).2 := by
  obtain ⟨fd, F⟩ := c.def_ 11 (d := d_is_plain) rfl
  exact deft_of F (He.glo_ok X G (c.fact 11 (f := .glo "is_plain") rfl)) (fun _ _ _ _ _ _ us hl => match us, hl with | [_], _ => rfl) TB
theorem D_need_plain (X : K.In h) (G : h.Ns mainGlobals mg) (c : He.SaysD fa fn K) : Def K mg "need_plain" s_need_plain ["plain"] := by
  obtain ⟨fd, F⟩ := c.def_ 12 (d := d_need_plain) rfl
  exact def_of F (He.glo_ok X G (c.fact 12 (f := .glo "need_plain") rfl)) (fun _ _ _ _ _ _ us hl => match us, hl with | [_], _ => rfl)
theorem D_PlainRunner_init (X : K.In h) (G : h.Ns mainGlobals mg) (c : He.SaysD fa fn K) : DefI K mg (He.ga K "PlainRunner") "PlainRunner" "PlainRunner.__init__" s_PlainRunner_init ["self", "plain", "fuel"] := by
  obtain ⟨fd, F⟩ := c.def_ 13 (d := d_PlainRunner_init) rfl
  exact defi_of F (He.mkr_ok (c.fact 77 (f := .mkr "PlainRunner") rfl)) (He.glo_ok X G (c.fact 43 (f := .glo "PlainRunner") rfl)) (fun _ _ _ _ _ _ us hl => match us, hl with | [_, _, _], _ => rfl)
theorem D_PlainRunner_begin (c : He.SaysD fa fn K) : DefM K (He.ga K "PlainRunner") "begin" "PlainRunner.begin" s_PlainRunner_begin ["self", "one", "lates"] := by
  obtain ⟨fd, F⟩ := c.def_ 14 (d := d_PlainRunner_begin) rfl
  exact defm_of F (He.cls_ok (c.fact 68 (f := .cls "PlainRunner") rfl)) (He.meth_ok (c.fact 74 (f := .meth "PlainRunner" "begin") rfl)) (fun _ _ _ _ _ _ us hl => match us, hl with | [_, _, _], _ => rfl)
theorem D_PlainRunner_finish (c : He.SaysD fa fn K) : DefM K (He.ga K "PlainRunner") "finish" "PlainRunner.finish" s_PlainRunner_finish ["self", "one", "lates"] := by
  obtain ⟨fd, F⟩ := c.def_ 15 (d := d_PlainRunner_finish) rfl
  exact defm_of F (He.cls_ok (c.fact 68 (f := .cls "PlainRunner") rfl)) (He.meth_ok (c.fact 75 (f := .meth "PlainRunner" "finish") rfl)) (fun _ _ _ _ _ _ us hl => match us, hl with | [_, _, _], _ => rfl)
theorem D_PlainRunner_value (c : He.SaysD fa fn K) : DefM K (He.ga K "PlainRunner") "value" "PlainRunner.value" s_PlainRunner_value ["self", "one", "lates"] := by
  obtain ⟨fd, F⟩ := c.def_ 16 (d := d_PlainRunner_value) rfl
  exact defm_of F (He.cls_ok (c.fact 68 (f := .cls "PlainRunner") rfl)) (He.meth_ok (c.fact 76 (f := .meth "PlainRunner" "value") rfl)) (fun _ _ _ _ _ _ us hl => match us, hl with | [_, _, _], _ => rfl)
theorem D_plain_run_of (X : K.In h) (G : h.Ns mainGlobals mg) (c : He.SaysD fa fn K) : Def K mg "plain_run_of" s_plain_run_of ["plain", "lates", "fuel"] := by
  obtain ⟨fd, F⟩ := c.def_ 17 (d := d_plain_run_of) rfl
  exact def_of F (He.glo_ok X G (c.fact 13 (f := .glo "plain_run_of") rfl)) (fun _ _ _ _ _ _ us hl => match us, hl with | [_, _, _], _ => rfl)
theorem D_plain_run (X : K.In h) (G : h.Ns mainGlobals mg) (c : He.SaysD fa fn K) : Def K mg "plain_run" s_plain_run ["plain", "lates", "fuel"] := by
  obtain ⟨fd, F⟩ := c.def_ 18 (d := d_plain_run) rfl
  exact def_of F (He.glo_ok X G (c.fact 14 (f := .glo "plain_run") rfl)) (fun _ _ _ _ _ _ us hl => match us, hl with | [_, _, _], _ => rfl)
theorem D__law_taken (X : K.In h) (G : h.Ns mainGlobals mg) (c : He.SaysD fa fn K) : Def K mg "_law_taken" s__law_taken ["_law_row", "_law_many"] := by
  obtain ⟨fd, F⟩ := c.def_ 19 (d := d__law_taken) rfl
  exact def_of F (He.glo_ok X G (c.fact 15 (f := .glo "_law_taken") rfl)) (fun _ _ _ _ _ _ us hl => match us, hl with | [_, _], _ => rfl)
theorem D__law_pick (X : K.In h) (G : h.Ns mainGlobals mg) (c : He.SaysD fa fn K) : Def K mg "_law_pick" s__law_pick ["_law_row", "_law_things"] := by
  obtain ⟨fd, F⟩ := c.def_ 20 (d := d__law_pick) rfl
  exact def_of F (He.glo_ok X G (c.fact 16 (f := .glo "_law_pick") rfl)) (fun _ _ _ _ _ _ us hl => match us, hl with | [_, _], _ => rfl)
theorem D__law_alike (X : K.In h) (G : h.Ns mainGlobals mg) (c : He.SaysD fa fn K) : Def K mg "_law_alike" s__law_alike ["_law_found", "_law_due"] := by
  obtain ⟨fd, F⟩ := c.def_ 21 (d := d__law_alike) rfl
  exact def_of F (He.glo_ok X G (c.fact 17 (f := .glo "_law_alike") rfl)) (fun _ _ _ _ _ _ us hl => match us, hl with | [_, _], _ => rfl)
theorem D__law_is_int (X : K.In h) (G : h.Ns mainGlobals mg) (c : He.SaysD fa fn K) : Def K mg "_law_is_int" s__law_is_int ["_law_value"] := by
  obtain ⟨fd, F⟩ := c.def_ 22 (d := d__law_is_int) rfl
  exact def_of F (He.glo_ok X G (c.fact 18 (f := .glo "_law_is_int") rfl)) (fun _ _ _ _ _ _ us hl => match us, hl with | [_], _ => rfl)
theorem D__law_name (X : K.In h) (G : h.Ns mainGlobals mg) (c : He.SaysD fa fn K) : Def K mg "_law_name" s__law_name ["_law_row"] := by
  obtain ⟨fd, F⟩ := c.def_ 23 (d := d__law_name) rfl
  exact def_of F (He.glo_ok X G (c.fact 19 (f := .glo "_law_name") rfl)) (fun _ _ _ _ _ _ us hl => match us, hl with | [_], _ => rfl)
theorem D__law_expression (X : K.In h) (G : h.Ns mainGlobals mg) (c : He.SaysD fa fn K) : Def K mg "_law_expression" s__law_expression ["_law_row", "_law_deep", "_law_lates_here", "_law_names", "_law_is_hot"] := by
  obtain ⟨fd, F⟩ := c.def_ 24 (d := d__law_expression) rfl
  exact def_of F (He.glo_ok X G (c.fact 20 (f := .glo "_law_expression") rfl)) (fun _ _ _ _ _ _ us hl => match us, hl with | [_, _, _, _, _], _ => rfl)
theorem D__law_move (X : K.In h) (G : h.Ns mainGlobals mg) (c : He.SaysD fa fn K) : Def K mg "_law_move" s__law_move ["_law_row", "_law_is_hot"] := by
  obtain ⟨fd, F⟩ := c.def_ 25 (d := d__law_move) rfl
  exact def_of F (He.glo_ok X G (c.fact 21 (f := .glo "_law_move") rfl)) (fun _ _ _ _ _ _ us hl => match us, hl with | [_, _], _ => rfl)
theorem D__law_is_early (X : K.In h) (G : h.Ns mainGlobals mg) (c : He.SaysD fa fn K) : Def K mg "_law_is_early" s__law_is_early ["_law_one"] := by
  obtain ⟨fd, F⟩ := c.def_ 26 (d := d__law_is_early) rfl
  exact def_of F (He.glo_ok X G (c.fact 22 (f := .glo "_law_is_early") rfl)) (fun _ _ _ _ _ _ us hl => match us, hl with | [_], _ => rfl)
theorem D__law_test (X : K.In h) (G : h.Ns mainGlobals mg) (c : He.SaysD fa fn K) : Def K mg "_law_test" s__law_test ["_law_row", "_law_deep", "_law_lates_here", "_law_names", "_law_is_hot"] := by
  obtain ⟨fd, F⟩ := c.def_ 27 (d := d__law_test) rfl
  exact def_of F (He.glo_ok X G (c.fact 23 (f := .glo "_law_test") rfl)) (fun _ _ _ _ _ _ us hl => match us, hl with | [_, _, _, _, _], _ => rfl)
theorem D__law_program (X : K.In h) (G : h.Ns mainGlobals mg) (c : He.SaysD fa fn K) : Def K mg "_law_program" s__law_program ["_law_row", "_law_is_hot"] := by
  obtain ⟨fd, F⟩ := c.def_ 28 (d := d__law_program) rfl
  exact def_of F (He.glo_ok X G (c.fact 24 (f := .glo "_law_program") rfl)) (fun _ _ _ _ _ _ us hl => match us, hl with | [_, _], _ => rfl)
theorem D__law_parts (X : K.In h) (G : h.Ns mainGlobals mg) (c : He.SaysD fa fn K) : Def K mg "_law_parts" s__law_parts ["_law_one"] := by
  obtain ⟨fd, F⟩ := c.def_ 29 (d := d__law_parts) rfl
  exact def_of F (He.glo_ok X G (c.fact 25 (f := .glo "_law_parts") rfl)) (fun _ _ _ _ _ _ us hl => match us, hl with | [_], _ => rfl)
theorem D__law_calls (X : K.In h) (G : h.Ns mainGlobals mg) (c : He.SaysD fa fn K) : Def K mg "_law_calls" s__law_calls ["_law_one"] := by
  obtain ⟨fd, F⟩ := c.def_ 31 (d := d__law_calls) rfl
  exact def_of F (He.glo_ok X G (c.fact 27 (f := .glo "_law_calls") rfl)) (fun _ _ _ _ _ _ us hl => match us, hl with | [_], _ => rfl)
theorem D__law_body (X : K.In h) (G : h.Ns mainGlobals mg) (c : He.SaysD fa fn K) : Def K mg "_law_body" s__law_body ["_law_program_here", "_law_name_here"] := by
  obtain ⟨fd, F⟩ := c.def_ 32 (d := d__law_body) rfl
  exact def_of F (He.glo_ok X G (c.fact 28 (f := .glo "_law_body") rfl)) (fun _ _ _ _ _ _ us hl => match us, hl with | [_, _], _ => rfl)
theorem D__law_lates (X : K.In h) (G : h.Ns mainGlobals mg) (c : He.SaysD fa fn K) : Def K mg "_law_lates" s__law_lates ["_law_program_here", "_law_name_here"] := by
  obtain ⟨fd, F⟩ := c.def_ 33 (d := d__law_lates) rfl
  exact def_of F (He.glo_ok X G (c.fact 29 (f := .glo "_law_lates") rfl)) (fun _ _ _ _ _ _ us hl => match us, hl with | [_, _], _ => rfl)
theorem D__law_worked (X : K.In h) (G : h.Ns mainGlobals mg) (c : He.SaysD fa fn K) : Def K mg "_law_worked" s__law_worked ["_law_kind", "_law_one", "_law_other"] := by
  obtain ⟨fd, F⟩ := c.def_ 34 (d := d__law_worked) rfl
  exact def_of F (He.glo_ok X G (c.fact 30 (f := .glo "_law_worked") rfl)) (fun _ _ _ _ _ _ us hl => match us, hl with | [_, _, _], _ => rfl)
theorem D__law_moved (X : K.In h) (G : h.Ns mainGlobals mg) (c : He.SaysD fa fn K) : Def K mg "_law_moved" s__law_moved ["_law_move_here", "_law_early"] := by
  obtain ⟨fd, F⟩ := c.def_ 35 (d := d__law_moved) rfl
  exact def_of F (He.glo_ok X G (c.fact 31 (f := .glo "_law_moved") rfl)) (fun _ _ _ _ _ _ us hl => match us, hl with | [_, _], _ => rfl)
theorem D__law_holds (X : K.In h) (G : h.Ns mainGlobals mg) (c : He.SaysD fa fn K) : Def K mg "_law_holds" s__law_holds ["_law_test_here", "_law_early"] := by
  obtain ⟨fd, F⟩ := c.def_ 36 (d := d__law_holds) rfl
  exact def_of F (He.glo_ok X G (c.fact 32 (f := .glo "_law_holds") rfl)) (fun _ _ _ _ _ _ us hl => match us, hl with | [_, _], _ => rfl)
theorem D__law_left (X : K.In h) (G : h.Ns mainGlobals mg) (c : He.SaysD fa fn K) : Def K mg "_law_left" s__law_left ["_law_one", "_law_early"] := by
  obtain ⟨fd, F⟩ := c.def_ 37 (d := d__law_left) rfl
  exact def_of F (He.glo_ok X G (c.fact 33 (f := .glo "_law_left") rfl)) (fun _ _ _ _ _ _ us hl => match us, hl with | [_, _], _ => rfl)
theorem D__law_called (X : K.In h) (G : h.Ns mainGlobals mg) (c : He.SaysD fa fn K) : Def K mg "_law_called" s__law_called ["_law_program_here", "_law_point"] := by
  obtain ⟨fd, F⟩ := c.def_ 38 (d := d__law_called) rfl
  exact def_of F (He.glo_ok X G (c.fact 34 (f := .glo "_law_called") rfl)) (fun _ _ _ _ _ _ us hl => match us, hl with | [_, _], _ => rfl)
theorem D__law_points (X : K.In h) (G : h.Ns mainGlobals mg) (c : He.SaysD fa fn K) : Def K mg "_law_points" s__law_points ["_law_program_here", "_law_point", "_law_most"] := by
  obtain ⟨fd, F⟩ := c.def_ 39 (d := d__law_points) rfl
  exact def_of F (He.glo_ok X G (c.fact 35 (f := .glo "_law_points") rfl)) (fun _ _ _ _ _ _ us hl => match us, hl with | [_, _, _], _ => rfl)
theorem D__law_plain_run (X : K.In h) (G : h.Ns mainGlobals mg) (c : He.SaysD fa fn K) : Def K mg "_law_plain_run" s__law_plain_run ["_law_plain", "_law_lates_here", "_law_fuel"] := by
  obtain ⟨fd, F⟩ := c.def_ 40 (d := d__law_plain_run) rfl
  exact def_of F (He.glo_ok X G (c.fact 36 (f := .glo "_law_plain_run") rfl)) (fun _ _ _ _ _ _ us hl => match us, hl with | [_, _, _], _ => rfl)
theorem D__law_staged (X : K.In h) (G : h.Ns mainGlobals mg) (c : He.SaysD fa fn K) : Def K mg "_law_staged" s__law_staged ["_law_program_here", "_law_name_here", "_law_early", "_law_most"] := by
  obtain ⟨fd, F⟩ := c.def_ 41 (d := d__law_staged) rfl
  exact def_of F (He.glo_ok X G (c.fact 37 (f := .glo "_law_staged") rfl)) (fun _ _ _ _ _ _ us hl => match us, hl with | [_, _, _, _], _ => rfl)
theorem D__law_is_name (X : K.In h) (G : h.Ns mainGlobals mg) (c : He.SaysD fa fn K) : Def K mg "_law_is_name" s__law_is_name ["_law_name_here"] := by
  obtain ⟨fd, F⟩ := c.def_ 42 (d := d__law_is_name) rfl
  exact def_of F (He.glo_ok X G (c.fact 38 (f := .glo "_law_is_name") rfl)) (fun _ _ _ _ _ _ us hl => match us, hl with | [_], _ => rfl)
theorem D__law_is_plain_part (X : K.In h) (G : h.Ns mainGlobals mg) (c : He.SaysD fa fn K) : Def K mg "_law_is_plain_part" s__law_is_plain_part ["_law_one", "_law_lates_here", "_law_sizes", "_law_deep"] := by
  obtain ⟨fd, F⟩ := c.def_ 43 (d := d__law_is_plain_part) rfl
  exact def_of F (He.glo_ok X G (c.fact 39 (f := .glo "_law_is_plain_part") rfl)) (fun _ _ _ _ _ _ us hl => match us, hl with | [_, _, _, _], _ => rfl)
theorem D__law_is_plain (X : K.In h) (G : h.Ns mainGlobals mg) (c : He.SaysD fa fn K) : Def K mg "_law_is_plain" s__law_is_plain ["_law_value"] := by
  obtain ⟨fd, F⟩ := c.def_ 44 (d := d__law_is_plain) rfl
  exact def_of F (He.glo_ok X G (c.fact 40 (f := .glo "_law_is_plain") rfl)) (fun _ _ _ _ _ _ us hl => match us, hl with | [_], _ => rfl)
theorem D__law_bent (X : K.In h) (G : h.Ns mainGlobals mg) (c : He.SaysD fa fn K) : Def K mg "_law_bent" s__law_bent ["_law_row", "_law_one"] := by
  obtain ⟨fd, F⟩ := c.def_ 45 (d := d__law_bent) rfl
  exact def_of F (He.glo_ok X G (c.fact 41 (f := .glo "_law_bent") rfl)) (fun _ _ _ _ _ _ us hl => match us, hl with | [_, _], _ => rfl)
theorem runc_of (c : He.SaysD fa fn K) : RunC K (He.ga K "PlainRunner") :=
  ⟨He.cls_ok (c.fact 68 (f := .cls "PlainRunner") rfl), He.noat_ok (c.fact 69 (f := .noat "PlainRunner" "bodies") rfl), He.noat_ok (c.fact 70 (f := .noat "PlainRunner" "fuel") rfl), He.noat_ok (c.fact 71 (f := .noat "PlainRunner" "steps") rfl), He.noat_ok (c.fact 72 (f := .noat "PlainRunner" "tasks") rfl), He.noat_ok (c.fact 73 (f := .noat "PlainRunner" "done") rfl)⟩
theorem law_fn {fL : Addr} {fdL : FuncData} (FL : L2.Fun K "law" "law" s_law fL fdL) (X : K.In h) (G : h.Ns mainGlobals mg) (c : He.SaysD fa fn K) (e : ex K = true) (TB : ∀ p ∈ tf.map (He.cT K), GxR.TabB base mg p.1 p.2) :
    FnOk P w K mg base CX0 73 fL fdL ["_law_script"] (spLaw K (TsOf K)) := by
  have T : Txt K mg := txt_of X G c e
  have tb : ∀ p ∈ tf, GxR.TabB base mg (He.cT K p).1 (He.cT K p).2 := fun p hp => TB _ (List.mem_map.mpr ⟨p, hp, rfl⟩)
  have hT : ∀ p ∈ tf, (He.cT K p).2 ∈ TsOf K := fun p hp => List.mem_map.mpr ⟨p, hp, rfl⟩
  have rc := runc_of c
  have m_is_name : (("is_name", none) : He.Defn) ∈ tf := by simp [tf]
  have m_need_lates : (("need_lates", none) : He.Defn) ∈ tf := by simp [tf]
  have m_point_of : (("point_of", none) : He.Defn) ∈ tf := by simp [tf]
  have m_is_plain_expression : (("is_plain_expression", none) : He.Defn) ∈ tf := by simp [tf]
  have m_is_plain : (("is_plain", none) : He.Defn) ∈ tf := by simp [tf]
  have c_is_in := ok_is_in (P := P) (w := w) (base := base) T (D_is_in X G c)
  have c_is_tuple := ok_is_tuple (P := P) (w := w) (base := base) T (D_is_tuple X G c)
  have c_is_name := ok_is_name (P := P) (w := w) (base := base) T (hT _ m_is_name) (D_is_name X G c (tb _ m_is_name))
  have c_point_of := ok_point_of (P := P) (w := w) (base := base) T (hT _ m_point_of) (D_point_of X G c (tb _ m_point_of)) c_is_name
  have c_is_plain_expression := ok_plainE (P := P) (w := w) (base := base) T (hT _ m_is_plain_expression) (D_is_plain_expression X G c (tb _ m_is_plain_expression)) c_is_tuple c_is_in c_point_of 31
  have c_is_plain_function := ok_plainF (P := P) (w := w) (base := base) T (D_is_plain_function X G c) c_is_in c_point_of c_is_plain_expression
  have c_parts_of := ok_parts_of (P := P) (w := w) (base := base) T (D_parts_of X G c)
  have c_calls_of := ok_calls_of (P := P) (w := w) (base := base) T (D_calls_of X G c) c_parts_of 31
  have c_is_plain := ok_is_plain (P := P) (w := w) (base := base) T (hT _ m_is_plain) (D_is_plain X G c (tb _ m_is_plain)) c_is_plain_function c_calls_of
  have c_need_plain := ok_need_plain (P := P) (w := w) (base := base) T (D_need_plain X G c) c_is_plain
  have c_worked := ok_worked (P := P) (w := w) (base := base) T (D_worked X G c)
  have c_need_lates := ok_need_lates (P := P) (w := w) (base := base) T (hT _ m_need_lates) (D_need_lates X G c (tb _ m_need_lates)) c_is_in
  have c_need_fuel := ok_need_fuel (P := P) (w := w) (base := base) T (D_need_fuel X G c) c_is_in
  have k_PlainRunner := ok_init (P := P) (w := w) (base := base) T rc (D_PlainRunner_init X G c)
  have m_begin := ok_begin (P := P) (w := w) (base := base) T rc (D_PlainRunner_begin c) c_parts_of
  have m_finish := ok_finish (P := P) (w := w) (base := base) T rc (D_PlainRunner_finish c) c_worked
  have m_value := ok_value (P := P) (w := w) (base := base) T rc (D_PlainRunner_value c) m_begin m_finish
  have c_plain_run_of := ok_run_of (P := P) (w := w) (base := base) T rc (D_plain_run_of X G c) k_PlainRunner m_value
  have c_plain_run := ok_plain_run (P := P) (w := w) (base := base) T (D_plain_run X G c) c_need_plain c_need_lates c_need_fuel c_plain_run_of
  have c_l_taken := fun S => ok_taken (P := P) (w := w) (base := base) (S := S) T (D__law_taken X G c)
  have c_l_pick := fun S => ok_pick (P := P) (w := w) (base := base) T (D__law_pick X G c) (c_l_taken S)
  have c_l_is_int := ok_is_int (P := P) (w := w) (base := base) T (D__law_is_int X G c)
  have c_l_name := fun S => ok_name (P := P) (w := w) (base := base) T (D__law_name X G c) (c_l_pick S)
  have c_l_worked := ok_lworked (P := P) (w := w) (base := base) T (D__law_worked X G c)
  have c_l_moved := ok_moved (P := P) (w := w) (base := base) T (D__law_moved X G c)
  have c_l_holds := ok_holds (P := P) (w := w) (base := base) T (D__law_holds X G c)
  have c_l_parts := ok_lparts (P := P) (w := w) (base := base) T (D__law_parts X G c)
  have c_l_calls := ok_lcalls (P := P) (w := w) (base := base) T (D__law_calls X G c) c_l_parts 31
  have c_l_alike := ok_alike (P := P) (w := w) (base := base) T (D__law_alike X G c) 3
  have c_l_is_name := ok_lname (P := P) (w := w) (base := base) T (D__law_is_name X G c)
  have c_l_part := ok_part (P := P) (w := w) (base := base) T (D__law_is_plain_part X G c) c_l_is_int 31
  have c_l_is_plain := ok_lplain (P := P) (w := w) (base := base) T (D__law_is_plain X G c) c_l_is_int c_l_is_name c_l_part
  have c_l_plain_run := ok_lrun (P := P) (w := w) (base := base) T (D__law_plain_run X G c) c_l_worked
  have c_l_is_early := ok_early (P := P) (w := w) (base := base) T (D__law_is_early X G c) 30
  have c_l_move := fun S => ok_move (P := P) (w := w) (base := base) T (D__law_move X G c) (c_l_taken S) (c_l_pick S)
  have c_l_expression := fun S => ok_expr (P := P) (w := w) (base := base) T (D__law_expression X G c) (D__law_test X G c) (c_l_taken S) (c_l_pick S) (c_l_move S) c_l_is_early 5 (by decide)
  have c_l_program := fun S => ok_program (P := P) (w := w) (base := base) T (D__law_program X G c) (c_l_taken S) (c_l_name S) (c_l_expression S)
  have c_l_left := ok_left (P := P) (w := w) (base := base) T (D__law_left X G c) c_l_holds c_l_moved c_l_worked c_l_is_early 6 (by decide)
  have c_l_body := ok_body (P := P) (w := w) (base := base) T (D__law_body X G c)
  have c_l_lates := ok_llates (P := P) (w := w) (base := base) T (D__law_lates X G c)
  have c_l_called := ok_called (P := P) (w := w) (base := base) T (D__law_called X G c) c_l_calls c_l_left c_l_body
  have c_l_points := ok_points (P := P) (w := w) (base := base) T (D__law_points X G c) c_l_called
  have c_l_staged := ok_staged (P := P) (w := w) (base := base) T (D__law_staged X G c) c_l_points c_l_lates c_l_body c_l_left
  have c_l_bent := fun S => ok_bent (P := P) (w := w) (base := base) T (D__law_bent X G c) (c_l_taken S) (c_l_pick S) 30
  exact ok_law T FL c_l_program c_l_taken c_l_pick c_l_staged c_l_alike c_is_plain c_l_is_plain c_l_bent c_plain_run c_l_plain_run
theorem tabG0 {H : Hp} {p : Addr} (e : H p = some (.tbl #[])) : GxR.TabG H p := ⟨#[], e, trivial⟩
theorem law_at {w : World} (X : K.In h) (G : h.Ns mainGlobals mg) (c : He.SaysX fa fn [] tf ex w h K) {f : Addr} (hf : mg "law" = some (.ref f)) : LamX.LawAtS PySem.Challenge.rw_staged_k04_whole_plain_programs w K CX0 73 63 "_law_script" mg f h := by
  have cd := c.t.d
  obtain ⟨fd, F⟩ := cd.def_ 46 (d := d_law) rfl
  have e := hf.symm.trans (He.glo_ok X G (cd.fact 42 (f := .glo "law") rfl))
  cases e
  have b := FunD.bindsA (ps := ["_law_script"]) F fun _ _ _ _ _ _ us hl => match us, hl with | [_], _ => rfl
  have cs : ∀ p ∈ tf.map (He.cT K), ∃ q ∈ tf, He.cT K q = p := fun p hp => List.mem_map.mp hp
  refine ⟨fd, tf.map (He.cT K), spLaw K (TsOf K), fun p hp => ?_, fun p hp => ?_, fun p hp => ?_, fun s u => b s [u] rfl, fun H a ns _ _ hH hS => ?_, fun base Kb Gb TB => ?_⟩
  · obtain ⟨q, hq, rfl⟩ := cs p hp
    exact c.empty q hq
  · obtain ⟨q, hq, rfl⟩ := cs p hp
    exact c.out q hq
  · obtain ⟨q, hq, rfl⟩ := cs p hp
    exact PySem.W.codeHd_of_K X (c.hd q hq)
  · refine ⟨(a, ns), rfl, hS, fun P hP => ?_, fun H' => rfl⟩
    obtain ⟨q, hq, rfl⟩ := List.mem_map.mp hP
    exact tabG0 (hH _ (List.mem_map.mpr ⟨q, hq, rfl⟩))
  · exact law_fn (He5.fun_of F) Kb Gb cd c.more fun p hp => ⟨(TB p hp).code, (TB p hp).bm, (TB p hp).gP⟩
end
set_option maxHeartbeats 0
theorem run (w : World) : HandSHeadRun.RunEq R (PySem.W.view R.prog [64]) hk ob 4000 loose w := by
  intro os
  kernel_rfl
end K04
open PySem PySem.W PySem.Calls PyProof.Rows
set_option maxRecDepth 100000 in
set_option maxHeartbeats 0 in
theorem PySem.Challenge.cw_staged_k04_whole_plain_programs_holds : PySem.Challenge.rw_staged_k04_whole_plain_programs.Holds := by
  w_on; o_law
  refine HandSHeadRun.head_any (r := OpenLaw.row PySem.Challenge.rw_staged_k04_whole_plain_programs) (q := view (OpenLaw.row PySem.Challenge.rw_staged_k04_whole_plain_programs).prog [64]) (H := K04.hk) (ob := K04.ob) (M := 4000) (loose := K04.loose) (d := HandSHeadRun.topDef (OpenLaw.row PySem.Challenge.rw_staged_k04_whole_plain_programs).prog 64) (kwd := []) K04.ob_eq
    (by kernel_rfl) (fun s => by kernel_rfl) K04.run (by kernel_rfl) (by kernel_rfl) (by kernel_rfl) (by rfl) (by first | assumption | decide +kernel) (by decide +kernel) ⟨rfl, rfl, rfl, rfl, rfl, by decide +kernel⟩ ?hw ?hc
  case hw => w_witness2
  case hc =>
    refine LamX.walk_ofTsE (l := PySem.Challenge.rw_staged_k04_whole_plain_programs) (n := 63) (k := 73) (x := "_law_script") (CX := fun _ => L2.CX0) rfl (by decide) (by kernel_rfl) ⟨rfl, by decide, by decide⟩ ?F (fun _ _ _ _ _ z => z)
    intro w mg fa h Y G hmg0
    obtain ⟨K, KX, c⟩ := Y
    have hmg : mg ("law" : PySem.Str) = some (.ref fa) := by
      have e : (HandSHeadRun.topDef (OpenLaw.row PySem.Challenge.rw_staged_k04_whole_plain_programs).prog 64).name = ("law" : PySem.Str) := by kernel_rfl
      rw [← e]
      exact hmg0
    exact ⟨K, KX, K04.law_at KX G c hmg⟩
