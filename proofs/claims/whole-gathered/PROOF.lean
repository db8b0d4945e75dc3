import PyProof.Rows.All
import Wide.All
import OpenK.AllK
import Wide.FinOn
import HandS.ForMost
import HandS.AnyAll
import HandS.GenOver
import KE.GoesEnum
import HandS.Walk
import HandS.TupSets
import HandS.SortOrd
import KE.KNest
import KE.KNestM
import HandS.EndTab
import HandS.EndOwn
import HandS.IsInst
import HandS.TupAny
import PySem.Challenge.RW_onelife_k24_whole_gathered
set_option Elab.async false
set_option linter.all false
set_option maxRecDepth 100000
set_option maxHeartbeats 4000000
/-! any, all of a generator expression over anything that PI serves, its element any PE (calls of own defs too). -/
namespace GA
open PySem PySem.Spec PyProof.Rows L2

/-! ### arounds -/
theorem over_loop {A : Around} {elt : Expr} {gens : List Comprehension} {scope : Scope} {pos : Pos} {it acc : Value} {env : Env} : A.over (.compLoop (.GeneratorExp elt gens scope pos) 0 it acc env) [] = A.deeper env := by
  obtain ⟨hd, d, fr, gs, u⟩ := A
  simp [Around.over, Around.deeper, marksOver, frameCount, unitsOf, envsOf, guardsOf, pushEnvs, pushGuards, Code.envs, Code.env?, Code.isFrame, Code.guards, Code.isGuard, Code.weight, Code.frames, Code.isCreation, Code.isCaller, Code.cUnits]
theorem over_start {A : Around} {elt : Expr} {gens : List Comprehension} {scope : Scope} {pos : Pos} {it acc : Value} {env : Env} : A.over (.compStart (.GeneratorExp elt gens scope pos) 0 it acc env) [] = A.deeper env := by
  obtain ⟨hd, d, fr, gs, u⟩ := A
  simp [Around.over, Around.deeper, marksOver, frameCount, unitsOf, envsOf, guardsOf, pushEnvs, pushGuards, Code.envs, Code.env?, Code.isFrame, Code.guards, Code.isGuard, Code.weight, Code.frames, Code.isCreation, Code.isCaller, Code.cUnits]

/-- the context of a generator expression's frame that was made at s, its iterator's objects at fp, the generator pinned -/
abbrev gx (X : Cx) (s : Shared) (H : Hp) (cenv : Env) (fp : List Addr) (pn : List (Addr × Obj)) : Cx :=
  { X with A := X.A.in1.in1.deeper cenv, s_0 := s, H_0 := H, env := cenv, outer := X.stack, stack := cenv :: X.stack, ex := fp, fn := fun _ => false, pn := pn, xe := fun _ _ => False }

theorem room_gx {X : Cx} {s : Shared} {H : Hp} {cenv : Env} {fp : List Addr} {pn : List (Addr × Obj)} {k : Nat} (r : Room (k + 1) X.A) : Room k (gx X s H cenv fp pn).A :=
  ⟨r.hd, by have := r.dp; show X.A.depth + 1 + 3 * k + 5 < _; omega, by have := r.un; show X.A.units + 1 + 1 + 3 + 16 * k + 200 < _; omega⟩

/-- other generators, the same heap -/
theorem inv_gens {X : Cx} {pins : List (Addr × Obj)} {σ : L2.St} {H : Hp} {s s' : Shared} (I : Inv X pins σ H s) (hh : s'.heap = s.heap) (ho : s'.os = s.os) (hg : AllBare s'.gens) : Inv X pins σ H s' := by
  obtain ⟨h, g, d, t, o⟩ := s
  obtain ⟨h', g', d', t', o'⟩ := s'
  cases hh
  cases ho
  exact ⟨I.ok, I.os, hg, I.base, I.loc, I.cell, I.free, I.freeC, I.pin, I.hok, I.len⟩
theorem bare_set {s : Shared} {g : Nat} {x : GenState} (h : AllBare s.gens) (hx : x.bare = true) : AllBare (s.setGen g x).gens := by
  intro y hy
  have hy' : y ∈ s.gens.setIfInBounds g x := hy
  rcases Array.mem_or_eq_of_mem_setIfInBounds hy' with h1 | h1
  · exact h y h1
  · rw [h1]; exact hx

section
variable {X : Cx} {pins : List (Addr × Obj)} {σ : L2.St} {H : Hp} {s : Shared}
theorem gen_start {scope : Scope} {own : List (Str × Nat)} {fp : List Addr} {code : Value} {h' : Heap} {m : Str → Option Value} {a : Addr} {o : Obj} {g' : Array GenState} {tk : Nat}
    (I : Inv X pins σ H s) (ok : BlkOk X.N X.env.scope scope own) (nocell : ∀ y ∈ scope.names, y.2 ≠ NameKind.cell) (hN : X.N.Nodup)
    (hfp : ∀ b ∈ fp, FpOk X pins H b ∧ b < s.heap.objs.size) (hn : h'.Ns s.heap.objs.size m) (kp : ∀ b o, s.heap.get? b = some o → h'.get? b = some o)
    (ha : h'.get? a = some o) (hlt : s.heap.objs.size < a) (hoc : ∀ v, o.data ≠ .cell v) (hg : AllBare g') :
    Inv (gx X s H (genEnv scope (cloFrom X.env.cells scope.names []) s.heap.objs.size code builtinsNs X.env) fp [(a, o)]) [] (wipe σ (own.map (·.2))) H { s with heap := h', gens := g', toks := tk } := by
  have hfree : ∀ y ∈ scope.names, y.2 = .free → ∃ c, X.env.cells.lookup y.1 = some c := fun y hy e => by
    rcases ok.free y hy e with k | k
    · exact I.ok.has _ (.inl k)
    · exact I.ok.has _ (.inr k)
  have cm : ∀ {y c}, (y, c) ∈ cloFrom X.env.cells scope.names [] → X.env.cells.lookup y = some c ∧ c < s.heap.objs.size := fun {y c} hm => by
    rcases cloFrom_mem hm with hm | ⟨h1, rfl⟩
    · cases hm
    · obtain ⟨c, hc⟩ := hfree _ h1 rfl
      rw [hc]
      obtain ⟨w, z⟩ := I.cell _ _ hc
      exact ⟨rfl, z.lt⟩
  have cl : ∀ {y c}, (cloFrom X.env.cells scope.names []).lookup y = some c → X.env.cells.lookup y = some c ∧ c < s.heap.objs.size := fun {y c} e => cm (PySem.mem_of_lookup e)
  have look : ∀ {y}, scope.names.lookup y = some .free → ∃ c, (cloFrom X.env.cells scope.names []).lookup y = some c ∧ X.env.cells.lookup y = some c := fun {y} hl => by
    have hy : (y, NameKind.free) ∈ scope.names := PySem.mem_of_lookup hl
    obtain ⟨c', e'⟩ := mem_lookup (cloFrom_has (cells := X.env.cells) (acc := []) hy)
    exact ⟨c', e', (cl e').1⟩
  generalize hcenv : genEnv scope (cloFrom X.env.cells scope.names []) s.heap.objs.size code builtinsNs X.env = cenv
  have hL : cenv.locals = s.heap.objs.size := by rw [← hcenv]; rfl
  have hcl : cenv.cells = cloFrom X.env.cells scope.names [] := by rw [← hcenv]; rfl
  have hsc : cenv.scope = scope := by rw [← hcenv]; rfl
  have hfr : cenv.frame = some cenv.locals := by rw [← hcenv]; rfl
  have okB : (gx X s H cenv fp [(a, o)]).Ok := by
    refine ⟨I.ok.mod, ?kind, ?glob, ?blt, ?above, fun y z c e1 e2 => ?inj, fun y hy => ?has, fun y c z e => absurd (show false = true from z) Bool.false_ne_true, I.ok.hd, Around.frames_deeper I.ok.frames, .inr ⟨rfl, hfr⟩, fun b hb => ⟨?ex1, fun y c e z => ?ex2⟩, I.bs, Nat.le_trans I.ok.bsz I.sz, fun b o e hb => ?noex, fun b hb z => ?exfs, I.stack, I.stkFree⟩
    case kind => show cenv.scope.kind = _; rw [hsc]; exact ok.kind
    case glob => show cenv.globals = _; rw [← hcenv]; exact I.ok.glob
    case blt => show cenv.builtins = _; rw [← hcenv]; rfl
    case above => show s.heap.objs.size ≤ cenv.locals; rw [hL]; exact Nat.le_refl _
    case inj =>
      have e1 : cenv.cells.lookup y = some c := e1
      have e2 : cenv.cells.lookup z = some c := e2
      rw [hcl] at e1 e2
      exact I.ok.inj y z c (cl e1).1 (cl e2).1
    case has =>
      show ∃ c, cenv.cells.lookup y = some c
      have hy : cenv.scope.names.lookup y = some .cell ∨ cenv.scope.names.lookup y = some .free := hy
      rw [hsc] at hy
      rw [hcl]
      rcases hy with hy | hy
      · exact absurd rfl (nocell _ (PySem.mem_of_lookup hy))
      · obtain ⟨c, h1, _⟩ := look hy
        exact ⟨c, h1⟩
    case ex1 => show b ≠ cenv.locals; rw [hL]; exact Nat.ne_of_lt (hfp b hb).2
    case ex2 =>
      have e : cenv.cells.lookup y = some c := e
      rw [hcl] at e
      exact (hfp b hb).1.2.2.2.2.1 y c (cl e).1 z
    case noex =>
      rcases (hfp b hb).1.2.2.2.1 with z | z
      · exact I.ok.noex b o e z
      · exact absurd (Nat.lt_of_lt_of_le (Heap.lt_size e) (Nat.le_trans I.ok.bsz z)) (Nat.lt_irrefl _)
    case exfs =>
      rcases List.mem_cons.mp (I.stkSub b z) with z | z
      · exact (hfp b hb).1.2.1 z
      · exact (hfp b hb).1.2.2.1 z
  refine ⟨okB, rfl, hg, Un.kept kp, ⟨m, ?ns, fun i y av e1 e2 e3 => ?loc⟩, fun y c e => ?cell, ?free, fun y c e => ?freeC, fun p hp => ?pin, I.hok.kept kp, by rw [wipe_length]; exact I.len⟩
  case ns => show Heap.Ns _ cenv.locals _; rw [hL]; exact hn
  case loc =>
    obtain ⟨e2, hne⟩ := wipe_some e2
    have e3 : Vis cenv.scope y := e3
    rw [hsc] at e3
    have no : ∀ k, scope.names.lookup y = some k → ¬ (k = .local ∨ k = .cell) := fun k e hh => by
      rcases ok.own _ (PySem.mem_of_lookup e) hh with e' | e'
      · obtain ⟨p, hp, hpy⟩ := List.mem_map.mp e'
        have e3 := ok.ix p hp
        have : p.1 = y := hpy
        rw [this] at e3
        exact hne (List.mem_map.mpr ⟨p, hp, nodup_ix hN e3 e1⟩)
      · exact e' (List.mem_of_getElem? e1)
    have hfr : scope.names.lookup y = some .free := by
      rcases e3 with e3 | e3 | e3
      · exact absurd (.inl rfl) (no _ e3)
      · exact absurd (.inr rfl) (no _ e3)
      · exact e3
    obtain ⟨m0, hn0, hl⟩ := I.loc
    have hvis : Vis X.env.scope y := (ok.free _ (PySem.mem_of_lookup hfr) rfl).elim (fun k => .inr (.inl k)) (fun k => .inr (.inr k))
    obtain ⟨w, r, q⟩ := hl i y av e1 e2 hvis
    refine ⟨w, r, .inr ⟨.inr (by show cenv.scope.names.lookup y = _; rw [hsc]; exact hfr), ?_⟩⟩
    obtain ⟨c, h1, h2⟩ := look hfr
    show ∃ c, cenv.cells.lookup y = some c ∧ _
    rw [hcl]
    rcases q with ⟨k, _⟩ | ⟨_, c', e', z⟩
    · have k : X.env.scope.names.lookup y = some .local := k
      rcases ok.free _ (PySem.mem_of_lookup hfr) rfl with k' | k' <;> rw [show X.env.scope.names.lookup y = _ from k'] at k <;> cases k
    · rw [h2] at e'; cases e'
      exact ⟨c, h1, z.keeps kp⟩
  case cell =>
    have e : cenv.cells.lookup y = some c := e
    rw [hcl] at e
    obtain ⟨w, z⟩ := I.cell y c (cl e).1
    exact ⟨w, z.keeps kp⟩
  case free => show H cenv.locals = none; rw [hL]; exact I.hok.fresh (Nat.le_refl _)
  case freeC =>
    have e : cenv.cells.lookup y = some c := e
    rw [hcl] at e
    exact I.freeC y c (cl e).1
  case pin =>
    have hp : p = (a, o) := by simpa using hp
    subst hp
    refine ⟨ha, I.hok.fresh (Nat.le_of_lt hlt), by show a ≠ cenv.locals; rw [hL]; exact Nat.ne_of_gt hlt, fun z => ?_, hoc⟩
    obtain ⟨_, ob, hob, _⟩ := I.stack.mem z
    exact Nat.lt_irrefl _ (Nat.lt_trans (Heap.lt_size hob) hlt)
end
end GA

set_option Elab.async false
set_option linter.all false
set_option maxRecDepth 100000
set_option maxHeartbeats 4000000
namespace GA
open PySem PySem.Spec PyProof.Rows L2

/-- the loop's words: behind the last item Qe; at an item whose test is stop: Qs; W by the turn and a measure -/
structure GLoop (Y : Cx) (J : It) (g : TG) (te : TE) (σ0 : L2.St) (stop : Bool) (Qe Qs : Hp → Prop) (W : Nat → Nat → Hp → Prop) : Prop where
  turn : ∀ i m H, W i m H → (J.stop i H ∧ Qe H) ∨ (J.go i H ∧ ∃ Nx : Hp → Prop, (∀ H', Nx H' → ∃ m', m' < m ∧ W (i + 1) m' H') ∧
    ∀ x H', J.yld i H x H' → g x σ0 H' fun σ2 H2 => (∀ (j : Nat) v, σ0[j]? = some (some v) → σ2[j]? = some (some v)) ∧ te σ2 H2 fun y H3 => ∃ b, y = .bl b ∧ if b = stop then Qs H3 else Nx H3)

def GEnd (Y : Cx) (σ0 : L2.St) (Qe : Hp → Prop) : Nat → Shared → Shared → Prop := fun _ _ s₁ => ∃ H, Inv Y [] σ0 H s₁ ∧ Qe H
def GYld (Y : Cx) (σ0 : L2.St) (stop : Bool) (Qs : Hp → Prop) : Protocol := fun _ _ v s kap =>
  ∃ b H, v = Value.bool b ∧ Inv Y [] σ0 H s ∧ (b = stop → Qs H) ∧ (b ≠ stop → ∀ s'' : Shared, s''.heap = s.heap → s''.os = s.os → AllBare s''.gens → kap (.send .none) s'')

section
variable {Y : Cx} {A : Around} {tg elt iter : Expr} {scope : Scope} {pos : Pos} {it : Addr} {fp : List Addr} {tn : Nat → Heap → Prop} {J : It} {g : TG} {te : TE} {σ0 : L2.St} {stop : Bool} {Qe Qs : Hp → Prop} {W : Nat → Nat → Hp → Prop}

theorem seg_loop (hA : A.deeper Y.env = Y.A) (hx : ∀ e s, Y.xe e s → False) (hc : Y.calm = true) (hco : Y.env.scope.isCoroutine = false) (hex : Y.ex = fp) (hpn : ∀ p ∈ Y.pn, ∀ b ∈ fp, p.1 ≠ b)
    (T : Turn Y.prog Y.w Y.K tg J fp it tn) (hg : PG Y tg g) (he : PE Y elt te) (L : GLoop Y J g te σ0 stop Qe Qs W) :
    ∀ (n i m : Nat) (s₀ s : Shared) (H : Hp), m + 1 ≤ n → Inv Y [] σ0 H s → tn i s.heap → (∀ b ∈ fp, H b = none) → W i m H →
      Seg (model Y.prog Y.w) A (fun n s₀ r s₁ => r = .ok .next ∧ GEnd Y σ0 Qe n s₀ s₁) (GYld Y σ0 stop Qs) n s₀
        (.compLoop (.GeneratorExp elt [⟨tg, iter, [], 0⟩] scope pos) 0 (.ref it) .none Y.env)
        ((model Y.prog Y.w).den (.compLoop (.GeneratorExp elt [⟨tg, iter, [], 0⟩] scope pos) 0 (.ref it) .none Y.env)) [] s := by
  have ho : A.over (.compLoop (.GeneratorExp elt [⟨tg, iter, [], 0⟩] scope pos) 0 (.ref it) .none Y.env) [] = Y.A := over_loop.trans hA
  have stat : ∀ {σ' : L2.St} {H' : Hp} {s' : Shared}, Inv Y [] σ' H' s' → (∀ b ∈ fp, H' b = none) → ∀ b ∈ fp, FpOk Y [] H' b := fun {σ' H' s'} I' hn b hb => by
    have hb' : b ∈ Y.ex := by rw [hex]; exact hb
    exact ⟨hn b hb, (I'.ok.exf b hb').1, I'.ok.exfs b hb', .inl hb', fun x c e => (I'.ok.exf b hb').2 x c e, fun p hp => by
      rw [List.append_nil] at hp
      exact hpn p hp b hb⟩
  have hy : ∀ v, yieldOut Y.env v = yieldValue v := fun v => by simp only [yieldOut, hco, Bool.false_eq_true, if_false]
  intro n
  induction n with
  | zero => intro i m s₀ s H hm; omega
  | succ n ih =>
    intro i m s₀ s H hm I st hn w
    show Seg _ A _ _ _ s₀ _ ((compTurn (.GeneratorExp elt [⟨tg, iter, [], 0⟩] scope pos) 0 (.ref it) .none Y.env).onRaise (leaving Y.env)) [] s
    rw [compTurn_gen, Sem.onRaise_eq_wrap]
    refine seg_bind_wrap (wpAny_standAt ?_)
    rcases L.turn i m H w with ⟨stp, q⟩ | ⟨go, Nx, hNx, step⟩
    · refine seg_bind_wrap ?_
      rw [ho]
      refine thnF (T.done Y rfl rfl rfl hc i [] s σ0 H (fun _ _ => False) I (stat I hn) st stp) fun r s1 ⟨hr, I1⟩ => ?_
      subst hr
      exact seg_end (.ok .next) ⟨rfl, H, I1, q⟩
    · refine seg_bind_wrap ?_
      rw [ho]
      refine thnF (T.item Y rfl rfl rfl hc i [] s σ0 H (fun _ _ => False) I (stat I hn) st go) fun r s1 ⟨u, hr, h1⟩ => ?_
      subst hr
      refine seg_bind_wrap ?_
      rw [ho]
      refine thnF h1 fun _ s2 ⟨x, H2, I2, r2, y2, st2, n2⟩ => ?_
      have I2' := I2.pinned (stat I2 n2) (T.obj _ _ st2)
      refine seg_bind_wrap ?_
      rw [ho]
      refine wpAny_mono (hg.run _ s2 σ0 H2 x u _ I2' r2 (step x H2 y2)) (fun _ s3 ⟨σ3, H3, I3, hk3, q3⟩ => ?_) fun e s e' => (hx e s e').elim
      refine seg_bind_wrap (wpAny_tests_nil ?_)
      simp only [if_true]
      simp only [hy]
      rw [Sem.bind_eq_wrap', Sem.bind_eq_wrap', Sem.wrap_wrap, Sem.wrap_wrap]
      refine seg_wrap ?_
      rw [ho]
      refine wpAny_mono (he.run _ s3 σ3 H3 _ I3 q3) (fun y s4 ⟨v, H4, I4, r4, b, ev, q4⟩ => ?_) fun e s e' => (hx e s e').elim
      subst ev
      cases r4
      have hl : σ0.length = σ3.length := by rw [I.len, I3.len]
      have pin' : ∀ b ∈ fp, ∀ o, s2.heap.get? b = some o → s4.heap.get? b = some o ∧ H4 b = none := fun b hb o e =>
        let z := I4.pin (b, o) (List.mem_append_right _ (List.mem_append_right _ (mem_pinsAt hb e)))
        ⟨z.1, z.2.1⟩
      have st4 : tn (i + 1) s4.heap := T.keep _ _ _ st2 fun b hb o e => (pin' b hb o e).1
      have n4 : ∀ b ∈ fp, H4 b = none := fun b hb => by
        obtain ⟨o, e, _⟩ := T.obj _ _ st2 b hb
        exact (pin' b hb o e).2
      have I5 : Inv Y [] σ0 H4 s4 := (I4.unpinned (pins := [])).weak hl hk3
      refine seg_at (seg_yield rfl rfl rfl ⟨b, H4, rfl, I5, fun eb => ?_, fun nb s5 hh hos hba => ?_⟩)
      · rw [if_pos eb] at q4
        exact q4
      · rw [if_neg nb] at q4
        obtain ⟨m', hm', w'⟩ := hNx H4 q4
        exact seg_again rfl (ih (i + 1) m' s5 s5 H4 (by omega) (inv_gens I5 hh hos hba) (by rw [hh]; exact st4) n4 w')

theorem seg_start (hA : A.deeper Y.env = Y.A) (hx : ∀ e s, Y.xe e s → False) (hc : Y.calm = true) (hco : Y.env.scope.isCoroutine = false) (hex : Y.ex = fp) (hpn : ∀ p ∈ Y.pn, ∀ b ∈ fp, p.1 ≠ b)
    (T : Turn Y.prog Y.w Y.K tg J fp it tn) (hg : PG Y tg g) (he : PE Y elt te) (L : GLoop Y J g te σ0 stop Qe Qs W) {n m : Nat} {s₀ s : Shared} {H : Hp} (hm : m + 1 ≤ n) (I : Inv Y [] σ0 H s) (st : tn 0 s.heap) (hn : ∀ b ∈ fp, H b = none) (w : W 0 m H) :
      Seg (model Y.prog Y.w) A (fun n s₀ r s₁ => r = .ok .next ∧ GEnd Y σ0 Qe n s₀ s₁) (GYld Y σ0 stop Qs) n s₀
        (.compStart (.GeneratorExp elt [⟨tg, iter, [], 0⟩] scope pos) 0 (.ref it) .none Y.env)
        ((model Y.prog Y.w).den (.compStart (.GeneratorExp elt [⟨tg, iter, [], 0⟩] scope pos) 0 (.ref it) .none Y.env)) [] s := by
  have ho : A.over (.compStart (.GeneratorExp elt [⟨tg, iter, [], 0⟩] scope pos) 0 (.ref it) .none Y.env) [] = Y.A := over_start.trans hA
  have loop := seg_loop (iter := iter) (scope := scope) (pos := pos) hA hx hc hco hex hpn T hg he L n 0 m s₀ s H hm I st hn w
  show Seg _ A _ _ _ s₀ _ ((compStart (.GeneratorExp elt [⟨tg, iter, [], 0⟩] scope pos) 0 (.ref it) .none Y.env).onRaise (leaving Y.env)) [] s
  unfold compStart
  rw [Sem.onRaise_eq_wrap]
  show Seg _ A _ _ _ s₀ _ ((ask >>= _).wrap _ _ _ _) [] s
  refine seg_bind_wrap (wpAny_askSetting ?_)
  split
  · exact seg_again rfl loop
  · first
      | exact seg_bind_wrap (wpAny_rule (seg_bind_wrap (wpAny_standAt (seg_bind_wrap (T.self _ 0 s _ _ st (seg_again rfl loop))))))
      | (refine seg_bind_wrap (wpAny_rule ?_); show Seg _ A _ _ _ s₀ _ ((standAt iter.pos >>= _).wrap _ _ _ _) [] s; exact seg_bind_wrap (wpAny_standAt (seg_bind_wrap (T.self _ 0 s _ _ st (seg_again rfl loop)))))

/-! ### the consumer -/
/-- the generator at a sleeps (or has not begun): n turns at most are left -/
def Sleeps (Y : Cx) (A : Around) (σ0 : L2.St) (stop : Bool) (Qe Qs : Hp → Prop) (g : Nat) (n : Nat) (s : Shared) : Prop :=
  (∃ H, Inv Y [] σ0 H s) ∧ ∃ gs, s.gens[g]? = some gs ∧ ∀ s'' : Shared, s''.heap = s.heap → s''.os = s.os → AllBare s''.gens →
    gs.Goes (model Y.prog Y.w) A (fun n s₀ r s₁ => r = .ok .next ∧ GEnd Y σ0 Qe n s₀ s₁) (GYld Y σ0 stop Qs) n (.send .none) s''

theorem setGen_at {s : Shared} {g : Nat} {x : GenState} (h : g < s.gens.size) : (s.setGen g x).gens[g]? = some x := by
  simp [Shared.setGen, h]

/-- one draw -/
theorem draw {a : Addr} {gn n : Nat} {s : Shared} {Q : Option Value → Shared → Prop} {E : Value → Shared → Prop} (hh : A.handled = none) (hd : A.depth < recursionLimit) (hgen : ∀ (H : Hp) s, Inv Y [] σ0 H s → s.heap.IsGen a gn)
    (S : Sleeps Y A.in1 σ0 stop Qe Qs gn n s)
    (hN : ∀ H s', Inv Y [] σ0 H s' → Qe H → Q none s') (hS : ∀ H s', Inv Y [] σ0 H s' → Qs H → Q (some (.bool stop)) s')
    (hG : ∀ s' m, m < n → Sleeps Y A.in1 σ0 stop Qe Qs gn m s' → Q (some (.bool (!stop))) s') : wpAny (model Y.prog Y.w) A (pyNext (.ref a)) Q E s := by
  obtain ⟨⟨H, I⟩, gs, hgs, hgo⟩ := S
  have hlt : gn < s.gens.size := by
    rcases Nat.lt_or_ge gn s.gens.size with h' | h'
    · exact h'
    · rw [Array.getElem?_eq_none h'] at hgs; cases hgs
  refine GenW.wpAny_gsz (n := s.gens.size) (Nat.le_refl _) ?_
  refine wpAny_pyNext_genexpQ (P := GEnd Y σ0 Qe) hh I.nolimit hd (hgen H s I) hgs (hgo _ rfl rfl (bare_set I.bare rfl)) (fun v s₁ gs' hb hv => ?_) (fun s₁ hp h' hk => ?_)
  · obtain ⟨b, H1, rfl, I1, q1, q2⟩ := hv
    have I2 : Inv Y [] σ0 H1 (s₁.setGen gn gs') := inv_gens I1 rfl rfl (bare_set I1.bare hb)
    intro hsz
    by_cases eb : b = stop
    · subst eb
      exact hS H1 _ I2 (q1 rfl)
    · have eb' : b = !stop := by cases b <;> cases stop <;> simp_all
      subst eb'
      cases n with
      | zero => exact (q2 eb s₁ rfl rfl I1.bare).elim
      | succ m =>
        refine hG _ m (Nat.lt_succ_self _) ⟨⟨H1, I2⟩, gs', setGen_at ?_, fun s'' e1 e2 e3 => q2 eb s'' e1 e2 e3⟩
        have hsz' : s.gens.size ≤ (s₁.gens.setIfInBounds gn gs').size := hsz
        rw [Array.size_setIfInBounds] at hsz'
        omega
  · obtain ⟨H1, I1, q⟩ := hp
    intro _
    have I2 : Inv Y [] σ0 H1 (s₁.setGen gn .finished) := inv_gens I1 rfl rfl (bare_set I1.bare rfl)
    exact hN H1 _ (I2.kept (t' := s₁.toks) hk) q
end

section
variable {Y : Cx} {A : Around} {σ0 : L2.St} {Qe Qs : Hp → Prop}
theorem all_loop {a : Addr} {gn : Nat} {R : Result → Shared → Prop} (hh : A.handled = none) (hd : A.depth < recursionLimit) (hgen : ∀ (H : Hp) s, Inv Y [] σ0 H s → s.heap.IsGen a gn)
    (hE : ∀ H s', Inv Y [] σ0 H s' → Qe H → R (.ok (.ret (.bool true))) s') (hS : ∀ H s', Inv Y [] σ0 H s' → Qs H → R (.ok (.ret (.bool false))) s') :
    ∀ (n : Nat) (s : Shared), Sleeps Y A.in1.in1 σ0 false Qe Qs gn n s → codeAny (model Y.prog Y.w) A (.builtin "all.loop" ⟨[.ref a], []⟩) R s := by
  intro n
  induction n using Nat.strongRecOn with
  | ind n ih =>
    intro s S
    refine codeAny_builtin F.entry_all_loop ?_
    rw [Around.under_plainId F.plain_all_loop _]
    show wpAny _ A.in1 (pyNext (.ref a) >>= _) _ _ s
    refine wpAny_bind (draw (A := A.in1) hh hd hgen S (fun H s' I q => ?_) (fun H s' I q => ?_) fun s' m hm S' => ?_)
    · exact wpAny_bind (wpAny_rule (wpAny_pure (hE H s' I q)))
    · refine wpAny_bind (wpAny_holding (wpAny_truthy_bool ?_))
      refine wpAny_bind (wpAny_letGo ?_)
      simp only [Bool.false_eq_true, if_false]
      exact wpAny_bind (wpAny_rule (wpAny_pure (hS H s' I q)))
    · refine wpAny_bind (wpAny_holding (wpAny_truthy_bool ?_))
      refine wpAny_bind (wpAny_letGo ?_)
      simp only [Bool.not_false, if_true]
      exact wpAny_pure ⟨plainId_quiet F.plain_all_loop _, ih m hm s' S'⟩
theorem any_loop {a : Addr} {gn : Nat} {R : Result → Shared → Prop} (hh : A.handled = none) (hd : A.depth < recursionLimit) (hgen : ∀ (H : Hp) s, Inv Y [] σ0 H s → s.heap.IsGen a gn)
    (hE : ∀ H s', Inv Y [] σ0 H s' → Qe H → R (.ok (.ret (.bool false))) s') (hS : ∀ H s', Inv Y [] σ0 H s' → Qs H → R (.ok (.ret (.bool true))) s') :
    ∀ (n : Nat) (s : Shared), Sleeps Y A.in1.in1 σ0 true Qe Qs gn n s → codeAny (model Y.prog Y.w) A (.builtin "any.loop" ⟨[.ref a], []⟩) R s := by
  intro n
  induction n using Nat.strongRecOn with
  | ind n ih =>
    intro s S
    refine codeAny_builtin F.entry_any_loop ?_
    rw [Around.under_plainId F.plain_any_loop _]
    show wpAny _ A.in1 (pyNext (.ref a) >>= _) _ _ s
    refine wpAny_bind (draw (A := A.in1) hh hd hgen S (fun H s' I q => ?_) (fun H s' I q => ?_) fun s' m hm S' => ?_)
    · exact wpAny_bind (wpAny_rule (wpAny_pure (hE H s' I q)))
    · refine wpAny_bind (wpAny_holding (wpAny_truthy_bool ?_))
      refine wpAny_bind (wpAny_letGo ?_)
      simp only [if_true]
      exact wpAny_bind (wpAny_rule (wpAny_pure (hS H s' I q)))
    · refine wpAny_bind (wpAny_holding (wpAny_truthy_bool ?_))
      refine wpAny_bind (wpAny_letGo ?_)
      simp only [Bool.not_true, Bool.false_eq_true, if_false]
      exact wpAny_pure ⟨plainId_quiet F.plain_any_loop _, ih m hm s' S'⟩
end
end GA

set_option Elab.async false
set_option linter.all false
set_option maxRecDepth 100000
set_option maxHeartbeats 4000000
namespace GA
open PySem PySem.Spec PyProof.Rows L2

/-- the turns of all (stop = false), any (stop = true) -/
def GenW (stop : Bool) (J : It) (g : TG) (te : TE) (vs : List Nat) (σ : L2.St) (H2 : Hp) (Q : VK) : Prop := ∃ W : Nat → Nat → Hp → Prop, (∃ m, W 0 m H2) ∧ ∀ i m H, W i m H →
  (J.stop i H ∧ Q (.bl (!stop)) H) ∨ (J.go i H ∧ ∃ Nx : Hp → Prop, (∀ H', Nx H' → ∃ m', m' < m ∧ W (i + 1) m' H') ∧
    ∀ x H', J.yld i H x H' → g x (wipe σ vs) H' fun σ2 H2 => (∀ (j : Nat) v, (wipe σ vs)[j]? = some (some v) → σ2[j]? = some (some v)) ∧ te σ2 H2 fun y H3 => ∃ b, y = .bl b ∧ if b = stop then Q (.bl stop) H3 else Nx H3)
/-- any (stop = true), all (stop = false) of elt for tg in iter; behind the making the def's table may have grown -/
def tGen (stop : Bool) (P : Addr) (wi : TI) (g : TG) (te : TE) (vs : List Nat) : TE := fun σ H Q => wi σ H fun J H1 => GxR.TabG H1 P ∧ ∀ H2, GxR.Tabbed P H1 H2 → GenW stop J g te vs σ H2 Q

section
variable {X : Cx} {pins : List (Addr × Obj)} {σ : L2.St} {H : Hp} {s : Shared}
theorem gen_make {c P : Addr} {tg elt iter : Expr} {gpos : Pos} {scope : Scope} {own : List (Str × Nat)} {wi : TI} {g : TG} {te : TE} {k : Nat} {stop : Bool} {Q : VK} {Q' : Value → Shared → Prop}
    (hr : Room k X.A) (hc : X.calm = true) (hN : X.N.Nodup) (TB : GxR.TabB X.base X.mg c P) (hcode : X.env.code = .ref c) (hco : scope.isCoroutine = false) (dot : scope.names.lookup (".0" : Str) = some NameKind.local) (nocell : ∀ y ∈ scope.names, y.2 ≠ NameKind.cell)
    (ok : BlkOk X.N X.env.scope scope own) (hi : PI X tg iter wi)
    (hg : ∀ (s : Shared) (H : Hp) (C : Addr) (cl : List (Str × Addr)) (code : Value) (fp : List Addr) (pn : List (Addr × Obj)), PG (gx X s H (genEnv scope cl C code builtinsNs X.env) fp pn) tg g)
    (he : ∀ (s : Shared) (H : Hp) (C : Addr) (cl : List (Str × Addr)) (code : Value) (fp : List Addr) (pn : List (Addr × Obj)), PE (gx X s H (genEnv scope cl C code builtinsNs X.env) fp pn) elt te)
    (hs : ∀ v, genFold iter X.env v = pure v) (I : Inv X pins σ H s) (h : tGen stop P wi g te (own.map (·.2)) σ H Q)
    (hQ : ∀ (Y : Cx) (σ0 : L2.St) (a : Addr) (gn n : Nat) (s5 : Shared), Y.prog = X.prog → Y.w = X.w → (∀ (H : Hp) s, Inv Y [] σ0 H s → s.heap.IsGen a gn) → (∀ (H : Hp) s, Inv Y [] σ0 H s → Inv X pins σ H s) →
      Sleeps Y X.A.in1.in1 σ0 stop (Q (.bl (!stop))) (Q (.bl stop)) gn n s5 → Q' (.ref a) s5) :
    wpAny (model X.prog X.w) X.A (eval (.GeneratorExp elt [⟨tg, iter, [], 0⟩] scope gpos) X.env) Q' X.xe s := by
  have hfree : ∀ y ∈ scope.names, y.2 = .free → ∃ c, X.env.cells.lookup y.1 = some c := fun y hy e => by
    rcases ok.free y hy e with k | k
    · exact I.ok.has _ (.inl k)
    · exact I.ok.has _ (.inr k)
  refine wpAny_GeneratorExp_make hco (closure_ok hfree) nocell dot ok.kind (by have := hr.dp; omega) ?_ hs
  refine thn (hi.run pins s σ H _ I h) fun xv s1 hx => thn hx fun itv s2 h2 => ?_
  obtain ⟨it, fp, tn, J, H2, e, I2, T, st2, f2, ⟨ps, hP, ht⟩, q⟩ := h2
  subst e
  refine ⟨I2.nolimit, ?_⟩
  have hPs : s2.heap.get? P = some { cls := .none, data := .fields ps } := I2.hok P _ hP
  have cd : PySem.W.CodeHd s2.heap c P := TB.code.keeps I2.bk
  have nfP : ∀ b ∈ fp, b ≠ P := fun b hb z => by
    have e := (f2 b hb).1
    rw [z, hP] at e
    cases e
  have sz : ∀ b ∈ fp, b < s2.heap.objs.size := fun b hb => by
    obtain ⟨o, e, _⟩ := T.obj _ _ st2 b hb
    exact Heap.lt_size e
  have cont : ∀ (code : Value) (h3 : Heap) (tk : Nat) (ps' : Array Value), Heap.ExtBut P s2.heap h3 → s2.heap.objs.size ≤ h3.objs.size → h3.get? P = some { cls := .none, data := .fields ps' } → (∃ more, ps' = ps ++ more) → TriplesOk ps'.toList →
      wpAny (model X.prog X.w) X.A (builtinsFor X.env.globals X.env.builtins) (fun bi s₄ =>
        ∀ h', h'.Ns s₄.heap.objs.size (fun y => if y = ".0" then some (.ref it) else none) → Heap.SameBut s₄.heap.objs.size (s₄.heap.push { cls := .type "frame", data := .dict #[] }) h' →
          Q' (.ref h'.objs.size) { s₄ with
            gens := s₄.gens.push (.fresh (.compStart (.GeneratorExp elt [⟨tg, iter, [], 0⟩] scope gpos) 0 (.ref it) .none (genEnv scope (cloFrom X.env.cells scope.names []) s₄.heap.objs.size code bi X.env))),
            toks := s₄.toks + 1 + 1 + 1,
            heap := h'.push { cls := .type "generator", data := .fields #[.int s₄.gens.size 0, .str "<genexpr>" (s₄.toks + 1), .str (X.env.qual ++ "<genexpr>") (s₄.toks + 1 + 1)] } }) X.xe { s2 with heap := h3, toks := tk } := by
    intro code h3 tk ps' hx hsz hP3 hmore ht3
    obtain ⟨more, em⟩ := hmore
    obtain ⟨bm, ob, e1, e2, e3, e4, e5, e6, e7, e8⟩ := TB.bm
    have keep3 : ∀ b u, b ≠ P → s2.heap.get? b = some u → h3.get? b = some u := fun b u hb e => hx b u hb e
    refine wpAny_builtinsFor (m := X.mg) (by rw [I2.ok.glob]; exact (I2.mod.glob.keeps I2.bk).extBut hx TB.gP) e1 e2 (keep3 _ _ e4 (I2.bk _ _ e5)) e6 e7 e8 ?_
    intro h' hn' hs'
    have J4 : Inv X pins σ (upd H2 P (.tbl (ps ++ more))) { s2 with heap := h3, gens := s2.gens, drawn := s2.drawn, toks := tk } :=
      GxR.inv_tab (more := more) (h' := h3) (g' := s2.gens) (d' := s2.drawn) (t' := tk) I2 hP keep3 (by rw [← em]; exact hP3) I2.bare
    have f4 : ∀ b ∈ fp, FpOk X pins (upd H2 P (.tbl (ps ++ more))) b ∧ b < h3.objs.size := fun b hb =>
      ⟨⟨by rw [upd_ne (nfP b hb)]; exact (f2 b hb).1, (f2 b hb).2⟩, Nat.lt_of_lt_of_le (sz b hb) hsz⟩
    have hsz' : h'.objs.size = h3.objs.size + 1 := by rw [hs'.1, Heap.size_push]
    have keep' : ∀ b o, h3.get? b = some o → h'.get? b = some o := fun b o e => hs'.extBut b o (Nat.ne_of_lt (Heap.lt_size e)) (Heap.get?_push_of_some _ e)
    have hTb : GxR.Tabbed P H2 (upd H2 P (.tbl (ps ++ more))) := ⟨⟨ps ++ more, upd_same, by rw [← em]; exact ht3⟩, fun b hb => upd_ne hb⟩
    obtain ⟨W, ⟨m0, w0⟩, turn⟩ := q _ hTb
    have key : ∀ (go : Obj) (nm qn : Value) (tk2 : Nat), go.cls = .type "generator" → go.data = .fields #[.int s2.gens.size 0, nm, qn] → go.slots = #[] → (h'.push go).get? h'.objs.size = some go →
        Q' (.ref h'.objs.size) { s2 with heap := h'.push go, gens := s2.gens.push (.fresh (.compStart (.GeneratorExp elt [⟨tg, iter, [], 0⟩] scope gpos) 0 (.ref it) .none (genEnv scope (cloFrom X.env.cells scope.names []) h3.objs.size code builtinsNs X.env))), toks := tk2 } := by
      intro go nm qn tk2 g1 g2 g3 g4
      have hnc : ∀ v, go.data ≠ .cell v := fun v z => by rw [g2] at z; cases z
      have kp5 : ∀ b o, h3.get? b = some o → (h'.push go).get? b = some o := fun b o e => Heap.get?_push_of_some _ (keep' b o e)
      have I5 := gen_start (code := code) (a := h'.objs.size) (o := go) (g' := s2.gens.push (.fresh (.compStart (.GeneratorExp elt [⟨tg, iter, [], 0⟩] scope gpos) 0 (.ref it) .none (genEnv scope (cloFrom X.env.cells scope.names []) h3.objs.size code builtinsNs X.env)))) (tk := tk2)
        J4 ok nocell hN f4 (hn'.push go) kp5 g4 (by show h3.objs.size < h'.objs.size; omega) hnc (AllBare.push I2.bare rfl)
      have st5 : tn 0 (h'.push go) := T.keep _ _ _ st2 fun b hb o e => kp5 b o (keep3 b o (nfP b hb) e)
      have back : ∀ (H' : Hp) (s' : Shared), Inv (gx X { s2 with heap := h3, gens := s2.gens, drawn := s2.drawn, toks := tk } (upd H2 P (.tbl (ps ++ more))) (genEnv scope (cloFrom X.env.cells scope.names []) h3.objs.size code builtinsNs X.env) fp [(h'.objs.size, go)]) [] (wipe σ (own.map (·.2))) H' s' → Inv X pins σ H' s' := fun H' s' I' =>
        J4.call' (ch := fp) I'.os I'.base I'.hok I'.bare fun b hb => ⟨(f4 b hb).1.2.2.2.1, (f4 b hb).1.2.1, (f4 b hb).1.2.2.2.2.1, (f4 b hb).1.2.2.2.2.2⟩
      have nfp : ∀ b ∈ fp, (upd H2 P (.tbl (ps ++ more))) b = none := fun b hb => (f4 b hb).1.1
      refine hQ (gx X { s2 with heap := h3, gens := s2.gens, drawn := s2.drawn, toks := tk } (upd H2 P (.tbl (ps ++ more))) (genEnv scope (cloFrom X.env.cells scope.names []) h3.objs.size code builtinsNs X.env) fp [(h'.objs.size, go)]) (wipe σ (own.map (·.2))) h'.objs.size s2.gens.size (m0 + 1) _ rfl rfl (fun H' s' I' => ?_) back ⟨⟨_, I5⟩, _, Array.getElem?_push_size .., fun s'' e1 e2 e3 => ?_⟩
      · have e := (I'.pin (h'.objs.size, go) (List.mem_append_left _ List.mem_cons_self)).1
        exact ⟨go, nm, qn, e, g1, g2, g3⟩
      · refine ⟨rfl, ?_⟩
        refine seg_start (A := X.A.in1.in1) (Y := gx X { s2 with heap := h3, gens := s2.gens, drawn := s2.drawn, toks := tk } (upd H2 P (.tbl (ps ++ more))) (genEnv scope (cloFrom X.env.cells scope.names []) h3.objs.size code builtinsNs X.env) fp [(h'.objs.size, go)])
          (fp := fp) (tn := tn) (J := J) (g := g) (te := te) (W := W) rfl (fun _ _ z => z) hc hco rfl (fun p hp b hb z => ?_) T (hg _ _ _ _ _ _ _) (he _ _ _ _ _ _ _) ⟨turn⟩ (Nat.le_refl _) (inv_gens I5 e1 e2 e3) (by rw [e1]; exact st5) nfp w0
        rw [List.mem_singleton.mp hp] at z
        have h1 := (f4 b hb).2
        rw [← z] at h1
        have h2 : h'.objs.size < h3.objs.size := h1
        omega
    exact key _ _ _ _ rfl rfl rfl (Heap.get?_push_size _ rfl)
  cases hf : codeAmong gpos ps.toList with
  | none =>
    refine wpAny_genexprCodeX hcode (cd.code hPs ht) (cd.tab hPs) hf fun c' h' tk hx hge hlt hco' _ htab' _ => ?_
    obtain ⟨o1, vs, f1, tf, fl, tg1, inF, tx, tt, op, _, _, _, _, _, _, _, _, _, htr, _⟩ := hco'
    exact cont _ h' tk _ hx (Nat.le_trans hge (Nat.le_of_lt hlt)) htab'.2 ⟨_, rfl⟩ htr
  | some cv =>
    refine wpAny_genexprCode_hit hcode (cd.code hPs ht) hf ?_
    exact cont cv s2.heap s2.toks ps (Heap.ExtBut.refl _ _) (Nat.le_refl _) hPs ⟨#[], by simp⟩ ht

theorem pe_allG {c P : Addr} {tg elt iter : Expr} {gpos p pos : Pos} {scope : Scope} {own : List (Str × Nat)} {wi : TI} {g : TG} {te : TE} {k : Nat}
    (hr : Room k X.A) (hc : X.calm = true) (hN : X.N.Nodup) (hga : Gl X "all") (hm : X.mg "all" = none) (TB : GxR.TabB X.base X.mg c P) (hcode : X.env.code = .ref c) (hco : scope.isCoroutine = false) (dot : scope.names.lookup (".0" : Str) = some NameKind.local) (nocell : ∀ y ∈ scope.names, y.2 ≠ NameKind.cell)
    (ok : BlkOk X.N X.env.scope scope own) (hi : PI X tg iter wi)
    (hg : ∀ (s : Shared) (H : Hp) (C : Addr) (cl : List (Str × Addr)) (code : Value) (fp : List Addr) (pn : List (Addr × Obj)), PG (gx X s H (genEnv scope cl C code builtinsNs X.env) fp pn) tg g)
    (he : ∀ (s : Shared) (H : Hp) (C : Addr) (cl : List (Str × Addr)) (code : Value) (fp : List Addr) (pn : List (Addr × Obj)), PE (gx X s H (genEnv scope cl C code builtinsNs X.env) fp pn) elt te)
    (hs : ∀ v, genFold iter X.env v = pure v) (hb : bootBuiltins "all" = some (.builtin "all"))
    (he1 : starEach [.GeneratorExp elt [⟨tg, iter, [], 0⟩] scope gpos] X.env = (false, eval (.GeneratorExp elt [⟨tg, iter, [], 0⟩] scope gpos) X.env) :: starEach [] X.env := by rfl) :
    PE X (.Call (.Name "all" p) [.GeneratorExp elt [⟨tg, iter, [], 0⟩] scope gpos] [] pos) (tGen false P wi g te (own.map (·.2))) := by
  refine ⟨fun pins s σ H Q I h => ?_⟩
  refine wpAny_Call_Name_kw (ld_blt I hga hm hb ?_)
  refine PyProof.Rows.callWith_builtin1 ?_ he1 (by rfl)
  rw [he1]
  show wpAny _ _ (spliced ((false, eval (.GeneratorExp elt [⟨tg, iter, [], 0⟩] scope gpos) X.env) :: backTo pos (starEach [] X.env))) _ _ s
  refine Calls.spliced_cons (gen_make hr hc hN TB hcode hco dot nocell ok hi hg he hs I h fun Y σ0 a gn n s5 ep ew hgen back S => ?_)
  refine Calls.spliced_nil ?_
  refine call_function_tree F.kind_all F.plain_all F.entry_all (F.args_all1 _) ?_
  unfold Builtin.«all»
  refine wpAny_bind (m := oneArg "all" _) (wpAny_pure ?_)
  obtain ⟨H5, I5⟩ := S.1
  refine wpAny_bind (wpAny_pyIter_gen (hgen H5 s5 I5) ?_)
  rw [← ep, ← ew]
  refine wpAny_pure ⟨plainId_quiet F.plain_all_loop _, all_loop (A := X.A) (I.ok.hd hc) (by have := hr.dp; omega) hgen (fun H' s' I' q => ?_) (fun H' s' I' q => ?_) n s5 S⟩
  · exact ⟨.bl true, H', back H' s' I', rfl, q⟩
  · exact ⟨.bl false, H', back H' s' I', rfl, q⟩
theorem pe_anyG {c P : Addr} {tg elt iter : Expr} {gpos p pos : Pos} {scope : Scope} {own : List (Str × Nat)} {wi : TI} {g : TG} {te : TE} {k : Nat}
    (hr : Room k X.A) (hc : X.calm = true) (hN : X.N.Nodup) (hga : Gl X "any") (hm : X.mg "any" = none) (TB : GxR.TabB X.base X.mg c P) (hcode : X.env.code = .ref c) (hco : scope.isCoroutine = false) (dot : scope.names.lookup (".0" : Str) = some NameKind.local) (nocell : ∀ y ∈ scope.names, y.2 ≠ NameKind.cell)
    (ok : BlkOk X.N X.env.scope scope own) (hi : PI X tg iter wi)
    (hg : ∀ (s : Shared) (H : Hp) (C : Addr) (cl : List (Str × Addr)) (code : Value) (fp : List Addr) (pn : List (Addr × Obj)), PG (gx X s H (genEnv scope cl C code builtinsNs X.env) fp pn) tg g)
    (he : ∀ (s : Shared) (H : Hp) (C : Addr) (cl : List (Str × Addr)) (code : Value) (fp : List Addr) (pn : List (Addr × Obj)), PE (gx X s H (genEnv scope cl C code builtinsNs X.env) fp pn) elt te)
    (hs : ∀ v, genFold iter X.env v = pure v)
    (he1 : starEach [.GeneratorExp elt [⟨tg, iter, [], 0⟩] scope gpos] X.env = (false, eval (.GeneratorExp elt [⟨tg, iter, [], 0⟩] scope gpos) X.env) :: starEach [] X.env := by rfl) :
    PE X (.Call (.Name "any" p) [.GeneratorExp elt [⟨tg, iter, [], 0⟩] scope gpos] [] pos) (tGen true P wi g te (own.map (·.2))) := by
  refine ⟨fun pins s σ H Q I h => ?_⟩
  refine wpAny_Call_Name_kw (ld_blt I hga hm boot_any ?_)
  refine PyProof.Rows.callWith_builtin1 ?_ he1 (by rfl)
  rw [he1]
  show wpAny _ _ (spliced ((false, eval (.GeneratorExp elt [⟨tg, iter, [], 0⟩] scope gpos) X.env) :: backTo pos (starEach [] X.env))) _ _ s
  refine Calls.spliced_cons (gen_make hr hc hN TB hcode hco dot nocell ok hi hg he hs I h fun Y σ0 a gn n s5 ep ew hgen back S => ?_)
  refine Calls.spliced_nil ?_
  refine call_function_tree F.kind_any F.plain_any F.entry_any (F.args_any1 _) ?_
  unfold Builtin.«any»
  refine wpAny_bind (m := oneArg "any" _) (wpAny_pure ?_)
  obtain ⟨H5, I5⟩ := S.1
  refine wpAny_bind (wpAny_pyIter_gen (hgen H5 s5 I5) ?_)
  rw [← ep, ← ew]
  refine wpAny_pure ⟨plainId_quiet F.plain_any_loop _, any_loop (A := X.A) (I.ok.hd hc) (by have := hr.dp; omega) hgen (fun H' s' I' q => ?_) (fun H' s' I' q => ?_) n s5 S⟩
  · exact ⟨.bl false, H', back H' s' I', rfl, q⟩
  · exact ⟨.bl true, H', back H' s' I', rfl, q⟩
end
end GA

set_option Elab.async false
set_option linter.all false
set_option maxRecDepth 100000
set_option maxHeartbeats 4000000
/-! enumerate(t), t a tuple: what L2.pi_enum says of a list. -/
namespace EnT
open PySem PySem.Spec PyProof.Rows L2

theorem meets_new {v : Value} {o : Obj} {H : Heap → Prop} (B : Begins v o H) :
    Meets (Builtin.«enumerate.__new__» ⟨[.type "enumerate", v], []⟩) (fun _ R s => H s.heap ∧
      R (.ok (.ret (.ref (s.heap.push o).objs.size))) { s with heap := (s.heap.push o).push { cls := .type "enumerate", data := .fields #[.none, .bool false, .ref s.heap.objs.size, rawInt 0, .none, .none] } }) :=
  .of_wp fun prog w A R s h => by
    obtain ⟨hp, g, d, tk, os⟩ := s; obtain ⟨h1, h⟩ := h
    have hsub := sub_enumerate
    have q1 : ∀ {A' : Around} {E : Value → Shared → Prop} {Q : Value → Shared → Prop}, Q (.ref hp.objs.size) ⟨hp.push o, g, d, tk, os⟩ → wpAny (model prog w) A' (pyIter v) Q E ⟨hp, g, d, tk, os⟩ :=
      fun q => B.iter prog w _ _ ⟨hp, g, d, tk, os⟩ _ h1 q
    wp_walk using q1
    refine wpAny_stack_any fun st => wpAny_pure ?_
    split
    · rename_i c _ _ _ _ _
      cases (c == Value.type "enumerate")
      · wp_walk using q1
        exact ⟨_, rfl, h⟩
      · wp_walk using q1
        exact ⟨_, rfl, h⟩
    · wp_walk using q1
      exact ⟨_, rfl, h⟩
section
variable {prog : Program} {w : World} {A : Around} {E : Value → Shared → Prop} {s : Shared}
theorem enum_begins1 {v : Value} {o : Obj} {H : Heap → Prop} {Q : Value → Shared → Prop} (B : Begins v o H) (h1 : H s.heap)
    (h : ∀ h', IsEnum h' (s.heap.objs.size + 1) s.heap.objs.size 0 .none → h'.get? s.heap.objs.size = some o → h'.objs.size = s.heap.objs.size + 2 →
      (∀ b o, s.heap.get? b = some o → h'.get? b = some o) → Q (.ref (s.heap.objs.size + 1)) { s with heap := h' }) :
    wpAny (model prog w) A (call (.type "enumerate") [v]) Q E s := by
  refine callType_new F.called_enumerate (by decide) (F.typeCall_enumerate_1 _) (F.newCall_enumerate_1 _) (fun obj => F.args_object_init_2 obj _) F.entry_enumerate_new
    (meets_new B) ⟨h1, ?_⟩
  have hz : (s.heap.push o).objs.size = s.heap.objs.size + 1 := Heap.size_push ..
  show _ ∧ _
  rw [hz]
  have he : IsEnum ((s.heap.push o).push { cls := .type "enumerate", data := .fields #[.none, .bool false, .ref s.heap.objs.size, rawInt 0, .none, .none] }) (s.heap.objs.size + 1) s.heap.objs.size 0 .none := by
    have := Heap.get?_push_size (s.heap.push o) (o := { cls := .type "enumerate", data := .fields #[.none, .bool false, .ref s.heap.objs.size, rawInt 0, .none, .none] }) rfl
    rw [hz] at this; exact this
  refine ⟨⟨_, he, rfl⟩, h _ he (Heap.get?_push_of_some _ (Heap.get?_push_size _ B.free)) (by rw [Heap.size_push, hz]) fun b o x => Heap.get?_push_of_some _ (Heap.get?_push_of_some _ x)⟩
end

/-- each item of the tuple at a in a new pair -/
def Itu (K : PySem.W.Frag) (a : Addr) : It :=
  ⟨fun i H => ∃ (xs : List V) (x : V), SqT K H a xs ∧ xs[i]? = some x, fun i H v H' => ∃ T x, v = .ref T ∧ H T = none ∧ H' = upd H T (.tup [.int (i : Nat), x]) ∧ ∀ xs, SqT K H a xs → xs[i]? = some x, fun i H => ∃ xs : List V, SqT K H a xs ∧ xs.length ≤ i⟩
theorem turn_enumT {P : Program} {w : World} {K : PySem.W.Frag} {elts : List Expr} {kk : Nat} {tpos : Pos} (a e it : Addr) :
    Turn P w K (.Tuple elts kk tpos) (Itu K a) [e, it] e (fun i h => (∃ old, IsEnum h e it ((i : Nat) : Int) old) ∧ h.IsTupleIter it a i ∧ e ≠ it ∧ a ≠ it ∧ a ≠ e) where
  mem := by simp
  obj := fun i h st b hb => by
    obtain ⟨⟨old, he⟩, ⟨o, ho, hc, hd⟩, _⟩ := st
    have e' : b = e ∨ b = it := by simpa using hb
    rcases e' with z | z
    · rw [z]; exact ⟨_, he, fun v q => nomatch q⟩
    · rw [z]; exact ⟨o, ho, fun v q => by rw [hd] at q; cases q⟩
  keep := fun i h h' st k => let ⟨⟨old, he⟩, hi, hne⟩ := st; ⟨⟨old, k e (by simp) _ he⟩, hi.at fun o q => k it (by simp) o q, hne⟩
  item := by
    intro X hP hw hK hc i pins s σ H E I hf st hg
    subst hP hw hK
    obtain ⟨⟨old, he⟩, hit, hne, hai, hae⟩ := st
    obtain ⟨xs, x, hq, hx⟩ := hg
    obtain ⟨its, rv, p, hz⟩ := I.tuple hq
    obtain ⟨u, hu, ru⟩ := rv.get hx
    have p' : s.heap.IsTuple a its.toArray := p
    have hel : e < s.heap.objs.size := Heap.lt_size he
    have hil : it < s.heap.objs.size := by obtain ⟨_, q, _⟩ := hit; exact Heap.lt_size q
    have hlt : i < its.toArray.size := by
      rw [List.size_toArray]
      exact (List.getElem?_eq_some_iff.mp hu).1
    refine wpAny_pyNext_enum_itemD (Draws.tuple (A := X.A.in1) (I.ok.hd hc) it a hai its.toArray) he ⟨hit, p'⟩ hlt hne (fun z => by
      rcases List.mem_cons.mp z with z | z
      · exact hne z
      · exact hae (List.mem_singleton.mp z).symm) fun y h' tk hy ho hst' hT hsz hk => ?_
    obtain ⟨hit', _⟩ := hst'
    have ey : y = u := by
      have hu' : its.toArray[i]? = some u := by simpa using hu
      rw [hu'] at hy
      exact (Option.some.inj hy).symm
    subst ey
    refine ⟨_, rfl, wpAny_letOwnedTupleGo_enum (s := { s with heap := h', toks := tk + 1 }) ho fun h'' he' sb => ?_⟩
    have hT2 : h''.get? s.heap.objs.size = some { cls := .type "tuple", data := .seq #[.int i tk, y] } := (sb.2 _ (Nat.ne_of_gt hel)).trans hT
    have new : ObjOk X.prog X.w (upd H s.heap.objs.size (.tup [.int (i : Nat), x])) h'' s.heap.objs.size (.tup [.int (i : Nat), x]) :=
      ⟨by show 2 ≤ sizeLine; decide, [.int i tk, y], .cons ⟨_, rfl⟩ (.cons ru .nil), ⟨_, hT2, rfl, _, rfl⟩⟩
    have I1 : Inv X pins σ (upd H s.heap.objs.size (.tup [.int (i : Nat), x])) { s with heap := h'', toks := tk + 1 } :=
      I.turnedNew (ch := [e, it]) (fun b ob hb q => (sb.2 b (fun z => hb (by simp [z]))).trans (hk b ob (fun z => hb (by simp [z])) (fun z => hb (by simp [z])) q)) hf (Nat.le_refl _) new
    refine ⟨.ref s.heap.objs.size, _, I1, rfl, ⟨_, x, rfl, I.hok.fresh (Nat.le_refl _), rfl, fun ys hy => by rw [I.tuple_inj hy hq]; exact hx⟩, ⟨⟨y, ?_⟩, hit'.at fun o q => (sb.2 it (Ne.symm hne)).trans q, hne, hai, hae⟩, fun b hb => ?_⟩
    · have e1 : ((i + 1 : Nat) : Int) = (i : Int) + 1 := by omega
      rw [e1]; exact he'
    · have hb' : b < s.heap.objs.size := by
        have e' : b = e ∨ b = it := by simpa using hb
        rcases e' with z | z
        · rw [z]; exact hel
        · rw [z]; exact hil
      rw [upd_ne (Nat.ne_of_lt hb')]
      exact (hf b hb).1
  done := by
    intro X hP hw hK hc i pins s σ H E I hf st hg
    subst hP hw hK
    obtain ⟨⟨old, he⟩, hit, hne, hai, hae⟩ := st
    obtain ⟨xs, hq, hx⟩ := hg
    obtain ⟨its, rv, p, hz⟩ := I.tuple hq
    have p' : s.heap.IsTuple a its.toArray := p
    obtain ⟨f0, f1, f2, f3, f4, f5⟩ := hf it (by simp)
    have hl := rv.length
    have D0 := Draws.tuple (prog := X.prog) (w := X.w) (A := X.A.in1) (I.ok.hd hc) it a hai its.toArray
    have D : Draws X.prog X.w X.A.in1 it [it, a] i (fun _ _ => True) (fun j h => j = i ∧ h.IsTupleIter it a i ∧ h.IsTuple a its.toArray) :=
      ⟨fun j h st => let ⟨o, ho, _⟩ := st.2.1; ⟨o, ho⟩, fun j h h' st hk => ⟨st.1, st.2.1.at fun o e => hk it (by simp) o e, st.2.2.at fun o e => hk a (by simp) o e⟩,
        fun j s Q E hj st hQ => absurd st.1 (Nat.ne_of_lt hj), fun s Q E st hE => wpAny_nextOf_tuple_end (I.ok.hd hc) st.2.1 st.2.2 (by simp; omega) hE⟩
    exact wpAny_pyNext_enum_endD D he ⟨rfl, hit, p'⟩ fun h' eb => ⟨rfl, I.turned (t' := s.toks) (fun b o hb e => eb b o hb e) f0 f1 f3 f4 f5⟩
  self := fun A i s Q E st h => let ⟨⟨_, he⟩, _⟩ := st; wpAny_pyIter_enum he h
def iEnumT (K : PySem.W.Frag) (ta : TA) : TI := fun σ H R => ta σ H fun vs H1 => ∃ a xs, vs = [.ref a] ∧ SqT K H1 a xs ∧ R (Itu K a) H1
theorem pi_enumT {X : Cx} {e : Expr} {ta : TA} {p pos tpos : Pos} {elts : List Expr} {kk : Nat} (hg : Gl X "enumerate") (hm : X.mg "enumerate" = none) (ha : PA X [e] ta) (hs : starEach [e] X.env = [(false, eval e X.env)] := by rfl) :
    PI X (.Tuple elts kk tpos) (.Call (.Name "enumerate" p) [e] [] pos) (iEnumT X.K ta) := by
  refine ⟨fun pins s σ H R I h => ?_⟩
  refine Call_ (ld_blt I hg hm boot_enumerate (PyProof.Rows.callWith_type1 (thn (ha.run pos pins s σ H _ I h) fun us s1 ⟨vs, H1, I1, r1, q1⟩ => ?_) hs rfl))
  obtain ⟨a, xs, ex, hq, q⟩ := q1
  subst ex
  cases r1 with
  | cons r rr =>
    cases rr
    cases r
    obtain ⟨its, rv, p', hz⟩ := I1.tuple hq
    have p2 : s1.heap.IsTuple a its.toArray := p'
    have hal : a < s1.heap.objs.size := p'.lt
    refine enum_begins1 (begins_tuple a its.toArray) p2 fun h' he hit hsz hk => wpAny_pyIter_enum he ?_
    have I2 : Inv X pins σ H1 { s1 with heap := h' } := I1.kept (t' := s1.toks) hk
    refine ⟨s1.heap.objs.size + 1, [s1.heap.objs.size + 1, s1.heap.objs.size], _, _, H1, rfl, I2, turn_enumT a (s1.heap.objs.size + 1) s1.heap.objs.size, ⟨⟨.none, he⟩, ⟨_, hit, rfl, rfl⟩, Nat.succ_ne_self _, Nat.ne_of_lt hal, Nat.ne_of_lt (Nat.lt_succ_of_lt hal)⟩, fun b hb => ?_, q⟩
    have e' : b = s1.heap.objs.size + 1 ∨ b = s1.heap.objs.size := by simpa using hb
    have hle : s1.heap.objs.size ≤ b := by
      rcases e' with z | z
      · rw [z]; exact Nat.le_add_right _ _
      · rw [z]; exact Nat.le_refl _
    exact I1.fpOk hle (I1.hok.fresh hle)
theorem walk_enumT {K : PySem.W.Frag} {a : Addr} {xs : List V} : Walk (Itu K a) xs.length (fun H => SqT K H a xs) (YPair (fun i => some (.int (i : Nat))) (fun i => xs[i]?)) := by
  refine ⟨fun i _ hi q => ⟨xs, xs[i], q, by simp [hi]⟩, fun _ q => ⟨xs, q, Nat.le_refl _⟩, fun i H v H' _ q y => ?_⟩
  obtain ⟨T, x, h1, h2, h3, h4⟩ := y
  exact ⟨T, .int (i : Nat), x, h1, h2, h3, rfl, h4 xs q⟩
end EnT

set_option Elab.async false
set_option linter.all false
set_option maxRecDepth 100000
set_option maxHeartbeats 4000000
/-! sorted(xs), xs a list of tuples of ints of any lengths but 0. -/
namespace StV
open PySem PySem.Spec PyProof.Rows L2 SrtO

/-! ### the order -/
theorem lex_asym : ∀ a b : List Int, HT.lexLt a b = true → HT.lexLt b a = false
  | [], [], h => by cases h
  | [], _ :: _, _ => rfl
  | _ :: _, [], h => by cases h
  | x :: xs, y :: ys, h => by
    rw [HT.lexLt_cons] at h ⊢
    by_cases e : x = y
    · rw [if_pos e] at h
      rw [if_pos e.symm]
      exact lex_asym xs ys h
    · rw [if_neg e] at h
      rw [if_neg (Ne.symm e)]
      have h' : x < y := of_decide_eq_true h
      exact decide_eq_false (by omega)
theorem lex_tr : ∀ x y z : List Int, HT.lexLt y x = false → HT.lexLt z y = false → HT.lexLt z x = false
  | [], y, z, _, _ => by cases z <;> rfl
  | x :: xs, [], z, h, _ => by cases h
  | x :: xs, y :: ys, [], _, h => by cases h
  | x :: xs, y :: ys, z :: zs, h1, h2 => by
    rw [HT.lexLt_cons] at h1 h2 ⊢
    by_cases e1 : y = x
    · rw [if_pos e1] at h1
      by_cases e2 : z = y
      · rw [if_pos e2] at h2
        rw [if_pos (e2.trans e1)]
        exact lex_tr xs ys zs h1 h2
      · rw [if_neg e2] at h2
        have h2' := of_decide_eq_false h2
        rw [if_neg (by omega)]
        exact decide_eq_false (by omega)
    · rw [if_neg e1] at h1
      have h1' := of_decide_eq_false h1
      by_cases e2 : z = y
      · rw [if_neg (by omega)]
        exact decide_eq_false (by omega)
      · rw [if_neg e2] at h2
        have h2' := of_decide_eq_false h2
        rw [if_neg (by omega)]
        exact decide_eq_false (by omega)
def lexZ (c : Bool) : List Int → List Int → Bool
  | x :: xs, y :: ys => if x = y then lexZ c xs ys else decide (x < y)
  | _, _ => c
theorem lexZ_lt : ∀ ns ms : List Int, lexZ (decide (ns.length < ms.length)) ns ms = HT.lexLt ns ms
  | [], [] => rfl
  | [], y :: ys => by
    show decide (0 < ys.length + 1) = true
    exact decide_eq_true (Nat.succ_pos _)
  | x :: xs, [] => by
    show decide (xs.length + 1 < 0) = false
    exact decide_eq_false (Nat.not_lt_zero _)
  | x :: xs, y :: ys => by
    rw [HT.lexLt_cons]
    show (if x = y then lexZ (decide (xs.length + 1 < ys.length + 1)) xs ys else decide (x < y)) = _
    have e : decide (xs.length + 1 < ys.length + 1) = decide (xs.length < ys.length) := by
      rw [decide_eq_decide]; omega
    rw [e, lexZ_lt xs ys]

/-! ### the comparison -/
section
variable {prog : Program} {w : World} {A : Around} {E : Value → Shared → Prop} {s : Shared}
theorem lex_gen {c b : Bool} {Q : Bool → Shared → Prop} {xs ys : List Value} {ns ms : List Int} (i : Nat) (hx : IntsAre xs ns) (hy : IntsAre ys ms)
    (h : Q (lexZ c ns ms) s) : PySem.W.KatLex prog w A b c Q (xs.zip ys) i s := by
  induction hx generalizing ys ms i with
  | nil =>
    have e : lexZ c [] ms = c := by cases ms <;> rfl
    rw [e] at h
    exact PySem.W.kat_nil h
  | @cons p t xs ns hx ih =>
    cases hy with
    | nil => exact PySem.W.kat_nil h
    | @cons q u ys ms hy =>
      show PySem.W.KatLex prog w A b c Q ((Value.int p t, Value.int q u) :: xs.zip ys) i s
      refine PySem.W.kat_cons (wpAny_eqBool_int ?_)
      have d : lexZ c (p :: ns) (q :: ms) = if p = q then lexZ c ns ms else decide (p < q) := rfl
      rw [d] at h
      by_cases e : p = q
      · subst e
        rw [beq_self_eq_true]
        rw [if_pos rfl] at h
        refine PySem.W.kat_yes ?_
        first
          | exact ih (i + 1) hy h
          | exact ih _ _ (i + 1) hy h
      · rw [show (p == q) = false from beq_eq_false_iff_ne.mpr e]
        rw [if_neg e] at h
        exact PySem.W.kat_no (TS.oneLt_ints _ h)
theorem firsts {h : Heap} : ∀ vs : List Value, (∀ v ∈ vs, ∃ ns, TS.TupInts h v ns ∧ ns ≠ []) → ∃ fs, PySem.W.KatTups h vs fs ∧ fs.length = vs.length ∧ ∀ f, f ∈ fs → ∃ n t, f = Value.int n t
  | [], _ => ⟨[], PySem.W.KatTups.nil, rfl, fun f hf => by simp at hf⟩
  | v :: vs, x => by
    obtain ⟨fs, k, hl, hi⟩ := firsts vs fun u hu => x u (List.mem_cons_of_mem _ hu)
    obtain ⟨ns, ⟨a, xs, rfl, ⟨o, ho, hc, n, hdt⟩, i⟩, hn⟩ := x v (List.mem_cons_self ..)
    obtain ⟨y, ys, e⟩ : ∃ y ys, xs.toList = y :: ys := by
      cases q : xs.toList with
      | nil =>
        rw [q] at i
        cases i
        exact absurd rfl hn
      | cons y ys => exact ⟨y, ys, rfl⟩
    obtain ⟨m, t, hy⟩ := i.all y (by rw [e]; exact List.mem_cons_self ..)
    refine ⟨y :: fs, PySem.W.KatTups.cons ho hc hdt ?_ k, by simp [hl], ?_⟩
    · have z := congrArg (fun l : List Value => l[0]?) e
      simpa using z
    · intro f hf
      rcases List.mem_cons.mp hf with rfl | hf
      · exact ⟨m, t, hy⟩
      · exact hi f hf
theorem tups_cmp {h0 : Heap} {vs : List Value} (hp : ∀ v ∈ vs, ∃ ns, TS.TupInts s.heap v ns ∧ TS.intsOf h0 v = ns) : SrtO.Cmp prog w A s (tuples' true) (fun p => p.1 ∈ vs) (lt2 fun v u => HT.lexLt (TS.intsOf h0 v) (TS.intsOf h0 u)) := by
  intro p q hm hm'
  obtain ⟨ns, t1, e1⟩ := hp _ hm
  obtain ⟨ms, t2, e2⟩ := hp _ hm'
  show wpAny (model prog w) A (keyLt' (tuples' true) p.1 q.1) (fun r s' => s' = s ∧ r = HT.lexLt (TS.intsOf h0 p.1) (TS.intsOf h0 q.1)) (fun _ _ => False) s
  rw [e1, e2]
  obtain ⟨a, xs, ea, ⟨o, ho, hc, n, hdt⟩, i⟩ := t1
  obtain ⟨a', ys, ea', ⟨o', ho', hc', n', hdt'⟩, i'⟩ := t2
  rw [ea, ea']
  refine PySem.W.kat_lt ho hdt ho' hdt' ?_
  have l1 := i.length
  have l2 := i'.length
  rw [Array.length_toList] at l1 l2
  rw [l1, l2]
  exact lex_gen 0 i i' ⟨rfl, lexZ_lt ns ms⟩
theorem tups_sortable {h0 : Heap} {a : Addr} {vs : List Value} (h1 : 0 < vs.length) (hp : ∀ v ∈ vs, ∃ ns, TS.TupInts s.heap v ns ∧ ns ≠ [] ∧ TS.intsOf h0 v = ns) (ha : ∀ o, s.heap.get? a = some o → o.cls ≠ .type "tuple") :
    SortableO prog w A s a vs fun v u => HT.lexLt (TS.intsOf h0 v) (TS.intsOf h0 u) := by
  intro h' keep
  have hp' : ∀ v ∈ vs, ∃ ns, TS.TupInts h' v ns ∧ ns ≠ [] ∧ TS.intsOf h0 v = ns := fun v hm => by
    obtain ⟨ns, t, r⟩ := hp v hm
    exact ⟨ns, t.keeps fun b o e c => keep b o (fun z => by subst z; exact ha o e c) e, r⟩
  obtain ⟨fs, k1, k2, k3⟩ := firsts vs fun v hm => let ⟨ns, t, n, _⟩ := hp' v hm; ⟨ns, t, n⟩
  refine ⟨tuples' true, fun Q E hq => ?_, tups_cmp fun v hm => let ⟨ns, t, _, e⟩ := hp' v hm; ⟨ns, t, e⟩⟩
  refine PySem.W.kat_kind (T := .type "int") k1 (by omega) (fun f hm => ?_) (by rfl) ?_
  · obtain ⟨x, t, rfl⟩ := k3 f hm
    exact PySem.W.Looks.now
  · have e : (Value.type "int" != Value.type "tuple") = true := by first | decide +kernel | rfl | decide
    rw [e]
    exact hq
end

section
variable {X : Cx}
/-- sorted(xs): a new list of the same tuples, ascending -/
def rSortV (K : PySem.W.Frag) : List V → Hp → VK → Prop := fun vs H Q => ∃ (a : Addr) (xs : List V), vs = [V.ref a] ∧ SqL K H a xs ∧ (∀ x ∈ xs, ∃ ns, TupI K H x ns ∧ ns ≠ []) ∧
  ∀ (ys : List V) (p : Addr), ys.Perm xs → ys.Pairwise (fun x y => ∀ n m, TupI K H x n → TupI K H y m → HT.lexLt m n = false) → H p = none → Q (.ref p) (upd H p (.lst ys))
theorem cr_sortV : CallR X (.builtin "sorted") (rSortV X.K) := by
  intro pins s σ H vs us Q I r h
  obtain ⟨a, xs, rfl, hs, hx, q⟩ := h
  obtain ⟨its, rv, hl, hz⟩ := I.list hs
  rw [Vals.ref1 r]
  obtain ⟨e1, e2⟩ := bkV_refs rv fun x m => by
    obtain ⟨ns, ⟨t, e, _⟩, _⟩ := hx x m
    exact ⟨t, e⟩
  have hv : ∀ v ∈ its, ∃ ns, TS.TupInts s.heap v ns ∧ ns ≠ [] ∧ TS.intsOf s.heap v = ns := fun v hv => by
    obtain ⟨t, rfl⟩ := e2 v hv
    have hm : V.ref t ∈ xs := by
      rw [e1]
      exact List.mem_map.mpr ⟨_, hv, rfl⟩
    obtain ⟨ns, ⟨t', e, ht⟩, hn⟩ := hx _ hm
    cases e
    exact ⟨ns, tupI_raw I ht, hn, (tupI_raw I ht).ints⟩
  have O : Swo fun v u => HT.lexLt (TS.intsOf s.heap v) (TS.intsOf s.heap u) := ⟨fun x y h => lex_asym _ _ h, fun x y z h1 h2 => lex_tr _ _ _ h1 h2⟩
  refine sorted_ord O hl.isList (by rw [← rv.length]; exact hz) (fun h2 h₁ b hb kk => ?_) fun out hs hb => ?_
  · refine tups_sortable (s := { s with heap := h₁ }) (by omega) (fun v hm => ?_) fun o e => ?_
    · obtain ⟨ns, t, r⟩ := hv v hm
      exact ⟨ns, t.keeps fun b o e _ => (kk b o e).2, r⟩
    · have e' : some o = some (seqObj "list" its.toArray 0) := e.symm.trans hb
      cases e'
      intro c
      exact absurd (Value.type.inj c) (by decide)
  · obtain ⟨ep, he'⟩ := PyProof.Rows.sortedAll_at s.heap its out.toArray
    have h3 : ∀ u ∈ out, ∃ a, u = Value.ref a := fun u hu => e2 u (hb.perm.mem_iff.mp hu)
    have hp : (out.map bkV).Perm xs := by
      rw [e1]
      exact hb.perm.map bkV
    have hlen : (out.map bkV).length ≤ sizeLine := by
      rw [hp.length_eq]
      exact hz
    refine ⟨.ref _, upd H (s.heap.objs.size + 1) (.lst (out.map bkV)), I.laid (t' := s.toks) (fun _ _ => PyProof.Rows.sortedAll_old) (Nat.le_succ _) ⟨hlen, out, ep, bkV_vals h3, he'⟩, rfl, q _ _ hp ?_ (I.hok.fresh (Nat.le_succ _))⟩
    rw [List.pairwise_map]
    refine List.Pairwise.imp (fun {u v} huv n m hn hm => ?_) hs
    obtain ⟨t, et, ht⟩ := hn
    obtain ⟨t', et', ht'⟩ := hm
    have eu := bkV_ref et
    have ev := bkV_ref et'
    have i1 : TS.intsOf s.heap u = n := by
      rw [eu]
      exact (tupI_raw I ht).ints
    have i2 : TS.intsOf s.heap v = m := by
      rw [ev]
      exact (tupI_raw I ht').ints
    rw [← i1, ← i2]
    exact huv
end
end StV

set_option Elab.async false
set_option linter.all false
set_option maxRecDepth 100000
set_option maxHeartbeats 4000000
/-! what stands in the heap: tuples of .., lists of ..; what a call leaves. -/
namespace HR
open PySem PySem.Spec PyProof.Rows L2

/-! ### pairwise -/
def All2 {α β : Type} (P : α → β → Prop) (as : List α) (bs : List β) : Prop := as.length = bs.length ∧ ∀ (i : Nat) a b, as[i]? = some a → bs[i]? = some b → P a b
section
variable {α β : Type} {P P' : α → β → Prop} {as as' : List α} {bs bs' : List β} {a : α} {b : β}
theorem All2.nil : All2 P ([] : List α) ([] : List β) := ⟨rfl, fun i a b h _ => by simp at h⟩
theorem All2.len (h : All2 P as bs) : as.length = bs.length := h.1
theorem All2.mono (h : All2 P as bs) (k : ∀ a b, P a b → P' a b) : All2 P' as bs := ⟨h.1, fun i a b e1 e2 => k a b (h.2 i a b e1 e2)⟩
theorem All2.get (h : All2 P as bs) {i : Nat} (e : bs[i]? = some b) : ∃ a, as[i]? = some a ∧ P a b := by
  have hi : i < bs.length := (List.getElem?_eq_some_iff.mp e).1
  have hi' : i < as.length := by rw [h.1]; exact hi
  exact ⟨as[i], List.getElem?_eq_getElem hi', h.2 i _ _ (List.getElem?_eq_getElem hi') e⟩
theorem All2.getL (h : All2 P as bs) {i : Nat} (e : as[i]? = some a) : ∃ b, bs[i]? = some b ∧ P a b := by
  have hi : i < as.length := (List.getElem?_eq_some_iff.mp e).1
  have hi' : i < bs.length := by rw [← h.1]; exact hi
  exact ⟨bs[i], List.getElem?_eq_getElem hi', h.2 i _ _ e (List.getElem?_eq_getElem hi')⟩
theorem All2.cons (h0 : P a b) (h : All2 P as bs) : All2 P (a :: as) (b :: bs) := ⟨by simp [h.1], fun i x y e1 e2 => by
  cases i with
  | zero =>
    cases (Option.some.inj e1 : a = x)
    cases (Option.some.inj e2 : b = y)
    exact h0
  | succ i => exact h.2 i x y e1 e2⟩
theorem All2.append (h : All2 P as bs) (k : All2 P as' bs') : All2 P (as ++ as') (bs ++ bs') := ⟨by simp [h.1, k.1], fun i x y e1 e2 => by
  by_cases hi : i < as.length
  · rw [List.getElem?_append_left hi] at e1
    rw [List.getElem?_append_left (by rw [← h.1]; exact hi)] at e2
    exact h.2 i x y e1 e2
  · rw [List.getElem?_append_right (by omega)] at e1
    rw [List.getElem?_append_right (by rw [← h.1]; omega), ← h.1] at e2
    exact k.2 _ x y e1 e2⟩
theorem All2.snoc (h : All2 P as bs) (h0 : P a b) : All2 P (as ++ [a]) (bs ++ [b]) := h.append (.cons h0 .nil)
theorem All2.take (h : All2 P as bs) (n : Nat) : All2 P (as.take n) (bs.take n) := ⟨by rw [List.length_take, List.length_take, h.1], fun i x y e1 e2 => by
  by_cases hi : i < n
  · rw [List.getElem?_take_of_lt hi] at e1 e2
    exact h.2 i x y e1 e2
  · rw [List.getElem?_eq_none (by rw [List.length_take]; omega)] at e1
    cases e1⟩
theorem All2.nil_iff (h : All2 P as bs) : as = [] ↔ bs = [] := by
  have := h.1
  constructor
  · intro e; subst e; exact List.eq_nil_of_length_eq_zero this.symm
  · intro e; subst e; exact List.eq_nil_of_length_eq_zero this
theorem All2.map_of {γ : Type} (f : γ → α) (g : γ → β) (l : List γ) (h : ∀ c ∈ l, P (f c) (g c)) : All2 P (l.map f) (l.map g) := ⟨by simp, fun i x y e1 e2 => by
  rw [List.getElem?_map] at e1 e2
  cases e : l[i]? with
  | none => rw [e] at e1; cases e1
  | some c =>
    rw [e] at e1 e2
    cases e1
    cases e2
    exact h c (List.mem_of_getElem? e)⟩
end
theorem All2.eq_map {α β : Type} {f : β → α} {as : List α} {bs : List β} (h : All2 (fun a b => a = f b) as bs) : as = bs.map f := by
  refine List.ext_getElem? fun i => ?_
  rw [List.getElem?_map]
  cases e : bs[i]? with
  | none =>
    have : as.length ≤ i := by rw [h.1]; exact List.getElem?_eq_none_iff.mp e
    rw [List.getElem?_eq_none_iff.mpr this]
    rfl
  | some b =>
    obtain ⟨a, e1, e2⟩ := h.get e
    rw [e1, e2]
    rfl

/-! ### what stays -/
def isTbl : HO → Bool
  | .tbl _ => true
  | _ => false
/-- all but the code objects' tables stand as they stood; these stay tables -/
structure Ex (H H' : Hp) : Prop where
  keep : ∀ b o, H b = some o → isTbl o = false → H' b = some o
  tab : ∀ b ps, H b = some (.tbl ps) → ∃ qs, H' b = some (.tbl qs) ∧ (TriplesOk ps.toList → TriplesOk qs.toList)
/-- all but r stand as they stood -/
def But (r : Addr) (H H' : Hp) : Prop := ∀ b o, b ≠ r → H b = some o → H' b = some o
/-- the tuples stay -/
def Tp (H H' : Hp) : Prop := ∀ b xs, H b = some (.tup xs) → H' b = some (.tup xs)
def TT (T : List Addr) (H : Hp) : Prop := ∀ P ∈ T, GxR.TabG H P
section
variable {H H1 H2 H' : Hp} {a b r D p : Addr} {o u : HO} {xs ys : List V} {T : List Addr}
theorem Ex.refl (H : Hp) : Ex H H := ⟨fun _ _ h _ => h, fun _ ps h => ⟨ps, h, fun t => t⟩⟩
theorem Ex.trans (h : Ex H H1) (k : Ex H1 H2) : Ex H H2 := ⟨fun b o e t => k.keep b o (h.keep b o e t) t, fun b ps e => by
  obtain ⟨qs, e1, t1⟩ := h.tab b ps e
  obtain ⟨rs, e2, t2⟩ := k.tab b qs e1
  exact ⟨rs, e2, fun t => t2 (t1 t)⟩⟩
theorem Ex.of (h : Same H H') : Ex H H' := ⟨fun b o e _ => h b o e, fun b ps e => ⟨ps, h b _ e, fun t => t⟩⟩
theorem Ex.there (h : Ex H H1) (e : H a = some o) : ∃ o', H1 a = some o' := by
  cases t : isTbl o with
  | false => exact ⟨o, h.keep a o e t⟩
  | true =>
    cases o with
    | tbl ps =>
      obtain ⟨qs, e2, _⟩ := h.tab a ps e
      exact ⟨_, e2⟩
    | _ => cases t
theorem Ex.free (h : Ex H H1) (n : H1 D = none) : H D = none := by
  cases e : H D with
  | none => rfl
  | some o =>
    obtain ⟨o', e'⟩ := h.there e
    rw [n] at e'
    cases e'
/-- an object that was new at H is laid or written -/
theorem Ex.set (h : Ex H H1) (n : H D = none) : Ex H (upd H1 D o) := ⟨fun b x e t => by
  rw [upd_ne (ne_of_none e n)]
  exact h.keep b x e t, fun b ps e => by
  obtain ⟨qs, e2, t2⟩ := h.tab b ps e
  exact ⟨qs, by rw [upd_ne (ne_of_none e n)]; exact e2, t2⟩⟩
theorem Ex.lay (h : Ex H H1) (n : H1 D = none) : Ex H (upd H1 D o) := h.set (h.free n)
theorem Ex.new (n : H D = none) : Ex H (upd H D o) := (Ex.refl H).set n
theorem Ex.tp (h : Ex H H1) : Tp H H1 := fun b xs e => h.keep b _ e rfl
theorem Ex.lst (h : Ex H H1) (e : H a = some (.lst xs)) : H1 a = some (.lst xs) := h.keep a _ e rfl
theorem Ex.seq {K : PySem.W.Frag} (h : Ex H H1) (e : SqL K H a xs) : SqL K H1 a xs := by
  rcases e with (e | ⟨o, e⟩) | e
  · exact .inl (.inl (h.keep a _ e rfl))
  · exact .inl (.inr ⟨o, h.keep a _ e rfl⟩)
  · exact .inr e
theorem TT.ex (t : TT T H) (h : Ex H H1) : TT T H1 := fun P hP => by
  obtain ⟨ps, e, k⟩ := t P hP
  obtain ⟨qs, e2, k2⟩ := h.tab P ps e
  exact ⟨qs, e2, k2 k⟩
theorem Ex.tabbed (h : GxR.TabG H a) (t : GxR.Tabbed a H H1) : Ex H H1 := ⟨fun b o e q => by
  by_cases hb : b = a
  · obtain ⟨ps, e1, _⟩ := h
    rw [hb, e1] at e
    cases e
    cases q
  · rw [t.2 b hb]
    exact e, fun b ps e => by
  by_cases hb : b = a
  · obtain ⟨qs, e1, k⟩ := t.1
    rw [hb]
    exact ⟨qs, e1, fun _ => k⟩
  · exact ⟨ps, by rw [t.2 b hb]; exact e, fun k => k⟩⟩
theorem Tp.refl (H : Hp) : Tp H H := fun _ _ e => e
theorem Tp.trans (h : Tp H H1) (k : Tp H1 H2) : Tp H H2 := fun b xs e => k b xs (h b xs e)
theorem Tp.of (h : Same H H') : Tp H H' := fun b xs e => h b _ e
theorem Tp.sqt {K : PySem.W.Frag} (h : Tp H H1) (e : H a = some (.tup xs)) : SqT K H1 a xs := .inl (.inl (h a xs e))
theorem But.tp (h : But r H H1) (e : H r = some (.lst xs)) : Tp H H1 := fun b ys z => h b _ (fun q => by rw [q, e] at z; cases z) z
theorem But.trans (h : But r H H1) (k : But r H1 H2) : But r H H2 := fun b o hb e => k b o hb (h b o hb e)
theorem But.refl (r : Addr) (H : Hp) : But r H H := fun _ _ _ e => e
theorem But.of (h : Same H H1) : But r H H1 := fun b o _ e => h b o e
theorem But.put (h : But r H H1) : But r H (upd H1 r o) := fun b u hb e => by rw [upd_ne hb]; exact h b u hb e
theorem But.free (h : But r H H1) (e : H1 r ≠ none) (n : H1 D = none) : H D = none := by
  cases q : H D with
  | none => rfl
  | some o =>
    have hD : D ≠ r := fun z => e (by rw [← z]; exact n)
    rw [h D o hD q] at n
    cases n
theorem But.set (h : But r H H1) (n : H D = none) : But r H (upd H1 D o) := fun b u hb e => by
  rw [upd_ne (ne_of_none e n)]
  exact h b u hb e
/-- a new list of one's own that others' changes leave -/
theorem But.ex (h : But r H1 H2) (n : H r = none) (k : Ex H H1) : Ex H H2 := ⟨fun b o e t => h b o (ne_of_none e n) (k.keep b o e t), fun b ps e => by
  obtain ⟨qs, e2, t2⟩ := k.tab b ps e
  exact ⟨qs, h b _ (ne_of_none e n) e2, t2⟩⟩
theorem But.tt (h : But r H H1) (e : H r = some (.lst xs)) (t : TT T H) : TT T H1 := fun P hP => by
  obtain ⟨ps, e1, k⟩ := t P hP
  exact ⟨ps, h P _ (fun q => by rw [q, e] at e1; cases e1) e1, k⟩
theorem But.seq {K : PySem.W.Frag} (h : But r H H1) (hb : a ≠ r) (e : SqL K H a xs) : SqL K H1 a xs := by
  rcases e with (e | ⟨o, e⟩) | e
  · exact .inl (.inl (h a _ hb e))
  · exact .inl (.inr ⟨o, h a _ hb e⟩)
  · exact .inr e
theorem same_new (n : H p = none) : Same H (upd H p o) := fun b u e => by rw [upd_ne (ne_of_none e n)]; exact e
theorem tp_upd (h : Tp H H1) (e : H1 D = none ∨ ∃ ys, H1 D = some (.lst ys)) : Tp H (upd H1 D o) := fun b zs q => by
  have q' := h b zs q
  rw [upd_ne (fun z => by
    rw [z] at q'
    rcases e with e | ⟨ys, e⟩ <;> rw [e] at q' <;> cases q')]
  exact q'
end

/-! ### values by what they stand for -/
abbrev Rl (α : Type) := Hp → V → α → Prop
def Mono {α : Type} (R : Rl α) : Prop := ∀ H H' v x, Tp H H' → R H v x → R H' v x
def IntR : Rl Int := fun _ v n => v = .int n
def NatR : Rl Nat := fun _ v n => v = .int (n : Int)
def StrR : Rl Str := fun _ v z => v = .str z
def wV : Option Str → V
  | none => .non
  | some z => .str z
def WordR : Rl (Option Str) := fun _ v w => v = wV w
def TupOf {α : Type} (R : Rl α) : Rl (List α) := fun H v xs => ∃ a vs, v = .ref a ∧ H a = some (.tup vs) ∧ All2 (R H) vs xs
def PairOf {α β : Type} (R : Rl α) (S : Rl β) : Rl (α × β) := fun H v x => ∃ a u w, v = .ref a ∧ H a = some (.tup [u, w]) ∧ R H u x.1 ∧ S H w x.2
def TripOf {α β γ : Type} (R : Rl α) (S : Rl β) (Z : Rl γ) : Rl (α × β × γ) := fun H v x => ∃ a u w z, v = .ref a ∧ H a = some (.tup [u, w, z]) ∧ R H u x.1 ∧ S H w x.2.1 ∧ Z H z x.2.2
/-- at a a list of such values -/
def LstAt {α : Type} (R : Rl α) (H : Hp) (a : Addr) (xs : List α) : Prop := ∃ vs, H a = some (.lst vs) ∧ All2 (R H) vs xs
section
variable {α β γ : Type} {R : Rl α} {S : Rl β} {Z : Rl γ}
theorem IntR.mono : Mono IntR := fun _ _ _ _ _ h => h
theorem NatR.mono : Mono NatR := fun _ _ _ _ _ h => h
theorem StrR.mono : Mono StrR := fun _ _ _ _ _ h => h
theorem WordR.mono : Mono WordR := fun _ _ _ _ _ h => h
theorem TupOf.mono (m : Mono R) : Mono (TupOf R) := fun H H' v x t ⟨a, vs, e, h, k⟩ => ⟨a, vs, e, t a vs h, k.mono fun _ _ => m _ _ _ _ t⟩
theorem PairOf.mono (m : Mono R) (n : Mono S) : Mono (PairOf R S) := fun H H' v x t ⟨a, u, w, e, h, k, l⟩ => ⟨a, u, w, e, t a _ h, m _ _ _ _ t k, n _ _ _ _ t l⟩
theorem TripOf.mono (m : Mono R) (n : Mono S) (q : Mono Z) : Mono (TripOf R S Z) := fun H H' v x t ⟨a, u, w, z, e, h, k, l, j⟩ => ⟨a, u, w, z, e, t a _ h, m _ _ _ _ t k, n _ _ _ _ t l, q _ _ _ _ t j⟩
theorem TupOf.new {H : Hp} {p : Addr} {vs : List V} {xs : List α} (m : Mono R) (n : H p = none) (h : All2 (R H) vs xs) : TupOf R (upd H p (.tup vs)) (.ref p) xs :=
  ⟨p, vs, rfl, upd_same, h.mono fun _ _ => m _ _ _ _ (Tp.of (same_new n))⟩
theorem PairOf.new {H : Hp} {p : Addr} {u w : V} {x : α × β} (m : Mono R) (k : Mono S) (n : H p = none) (h : R H u x.1) (j : S H w x.2) : PairOf R S (upd H p (.tup [u, w])) (.ref p) x :=
  ⟨p, u, w, rfl, upd_same, m _ _ _ _ (Tp.of (same_new n)) h, k _ _ _ _ (Tp.of (same_new n)) j⟩
theorem LstAt.new {H : Hp} {p : Addr} : LstAt R (upd H p (.lst [])) p [] := ⟨[], upd_same, .nil⟩
theorem LstAt.app {H : Hp} {D : Addr} {vs : List V} {xs : List α} {v : V} {x : α} (m : Mono R) (e : H D = some (.lst vs)) (h : All2 (R H) vs xs) (k : R H v x) : LstAt R (upd H D (.lst (vs ++ [v]))) D (xs ++ [x]) :=
  ⟨vs ++ [v], upd_same, (h.snoc k).mono fun _ _ => m _ _ _ _ (tp_upd (Tp.refl H) (.inr ⟨vs, e⟩))⟩
theorem LstAt.mono {H H' : Hp} {D : Addr} {xs : List α} (m : Mono R) (h : LstAt R H D xs) (t : Tp H H') (k : ∀ vs, H D = some (.lst vs) → H' D = some (.lst vs)) : LstAt R H' D xs :=
  let ⟨vs, e, a⟩ := h; ⟨vs, k vs e, a.mono fun _ _ => m _ _ _ _ t⟩
theorem LstAt.ex {H H' : Hp} {D : Addr} {xs : List α} (m : Mono R) (h : LstAt R H D xs) (t : Ex H H') : LstAt R H' D xs := h.mono m t.tp fun vs e => t.lst e
end
end HR

set_option Elab.async false
set_option linter.all false
set_option maxRecDepth 100000
set_option maxHeartbeats 4000000
/-! the end where several defs hold generator expressions: their code objects' tables. -/
namespace ET
open PySem PySem.Spec PyProof.Rows L2
/-- what the head's heap tells of each record's code object -/
def Tabs (q : Program) (K : PySem.W.Frag) (h : Heap) : Prop := ∀ (x : Str) (d : DefRec) (c P : Addr), (recsOf q).find? (fun e => e.name == x) = some d → PySem.W.tabIn K x = some (c, P) → PySem.W.CodeHd h c P ∧ h.get? P = some { cls := .none, data := .fields #[] }
theorem walk_ofP {l : PySem.W.OpenLaw} {n k : Nat} {q : Program} {loose : List Str} {XP : (Str → Option Value) → Heap → Prop} {YP : World → Heap → Prop} {d : DefRec} {K : Params → PySem.W.Frag} {CX : World → CXT} {x : Str}
    (hn : l.most = some n) (hn2 : n ≤ sizeLine) (hdf : d.params.defaults = []) (hr : Room k callerA) (hY : ∀ (w : World) (h : Heap), YP w h → (K w.params).In h)
    (F : ∀ (w : World) (mg : Str → Option Value) (fa : Addr) (h : Heap), YP w h → (K w.params).In h → h.Ns mainGlobals mg → mg d.name = some (.ref fa) → Tabs q (K w.params) h → LamX.LawAtS l w (K w.params) (CX w) k n x mg fa h)
    (hCX : ∀ (w : World) (H : Hp) (s : Shared) (e : Value) (s' : Shared), CX w [] H s (fun _ _ _ => False) e s' → False) :
    PySem.W.WalkO q loose XP YP l.row.toRowW d [] (fun f vs => PySem.call f vs) := by
  refine Att.attach_callB hn hdf fun w s₀ s₁ mg mb fa o pm cd doc a vs ns G Y ho hd hcd hmg hobj hints hlen hbits hg => ?_
  have KX := hY w _ Y
  obtain ⟨fd, cs, sp, hT, nT, C, hb, hsp, hF⟩ := F w mg fa _ Y KX G.T.g hmg fun x d c P h1 h2 => PySem.W.tab_of G.T KX h1 h2
  exact LamX.law_callTs KX G.T.g G.T.b G.T.builtins G.T.nolimit hg hT nT C G.T.bmain hobj hints (Nat.le_trans hlen hn2) hr hF hb (fun H hH hS => hsp H a ns hlen hbits hH hS) fun H e s' => hCX w H s₁ e s'
section
variable {P : Program} {w : World} {K : PySem.W.Frag} {mg : Str → Option Value} {base : Heap}
/-- as Fun.ok, the def's code object known -/
theorem okT {x qual : Str} {st : Stmt} {f c : Addr} {fd : FuncData} {N ps : List Str} {k : Nat} {sp : Sp} (F : Fun K x qual st f fd) (hc : fd.code = .ref c) (S : FnScope N ps (defScope st)) (len : ∀ vs H Q E, sp vs H Q E → vs.length = ps.length)
    (hbody : ∀ (A : Around) (outer : List Env) (s : Shared) (H : Hp) (vs : List V) (Q : VK) (E : XK), Room k (A.deeper (envOfC qual (defScope st) s.heap.objs.size f (.ref c))) → sp vs H Q E →
      ∃ t, PSs (cxOf CX0 P w K mg base N qual (defScope st) f (.ref c) A outer s H E).nox (defBody st) t ∧ t { nx := fun _ H' => Q .non H', rt := Q } (start N vs) H) : FnOk P w K mg base CX0 (k + 1) f fd ps sp := by
  obtain ⟨oc, od, kV, doc, pm, an, cdv, ct, osl, rfl, lk, hcd⟩ := F.ex
  have e : cdv = .ref c := hc
  subst e
  refine fn_of lk hcd S len fun A outer s H vs Q E hr hsp => ?_
  obtain ⟨t, h, q⟩ := hbody A outer s H vs Q E hr hsp
  exact ⟨t, h.nox, q⟩
/-- the code object by the name -/
theorem code_of {x qual : Str} {st : Stmt} {f c T : Addr} {fd : FuncData} (F : Fun K x qual st f fd) (a : PySem.W.nsIn K mainGlobals x = some (some (.ref f))) (t : PySem.W.tabIn K x = some (c, T)) : fd.code = .ref c := by
  obtain ⟨oc, od, kV, doc, pm, an, cdv, ct, osl, rfl, lk, hcd⟩ := F.ex
  unfold PySem.W.tabIn at t
  rw [a] at t
  dsimp only at t
  rw [lk] at t
  dsimp only at t
  have key : ∀ v : Value, (match v with
      | .ref c => (match K.lookup c with
        | some ⟨_, _, .fields vs, _⟩ => (match (vs[11]? : Option Value) with
          | some (.ref P) => some (c, P)
          | _ => none)
        | _ => none)
      | _ => none) = some (c, T) → v = .ref c := fun v hv => by
    cases v with
    | ref c' =>
      dsimp only at hv
      split at hv
      · split at hv
        · cases hv
          rfl
        · cases hv
      · cases hv
    | _ => cases hv
  exact key cdv t
theorem noTab {a : Addr} {vs : Array Value} {h : Heap} (hK : PySem.W.noTabs K = true) (X : K.In h) (e : h.get? a = some { cls := .none, data := .fields vs }) : K.lookup a = none := by
  cases q : K.lookup a with
  | none => rfl
  | some o =>
    have h2 := List.all_eq_true.mp hK (a, o) (PySem.W.mem_of_lookupK q)
    have := X a o q
    rw [e] at this
    cases this
    exact absurd (show false = true from h2) Bool.false_ne_true
theorem tabB_of {c T : Addr} (h : LamX.TabB base mg c T) : GxR.TabB base mg c T := ⟨h.1, h.2, h.3⟩
end
end ET

set_option Elab.async false
set_option linter.all false
set_option maxRecDepth 100000
set_option maxHeartbeats 4000000
/-! the text, the calls of the text's defs, small words. -/
namespace TX
open PySem PySem.Spec PyProof.Rows L2
def top (i : Nat) : Stmt := PySem.Challenge.pw_onelife_k24_whole_gathered.main.body.getD i (.Pass ⟨0, 0, 0, 0⟩)
/-- what the top's names hold -/
structure G0 (mg : Str → Option Value) : Prop where
  isin : mg "isinstance" = none
  int : mg "int" = none
  bool : mg "bool" = none
  str : mg "str" = none
  tuple : mg "tuple" = none
  list : mg "list" = none
  len : mg "len" = none
  all : mg "all" = none
  any : mg "any" = none
  enum : mg "enumerate" = none
  range : mg "range" = none
  max : mg "max" = none
  sorted : mg "sorted" = none
  states : ∃ t, mg "MOST_STATES" = some (.int 40 t)
  opts : ∃ t, mg "MOST_OPTIONS" = some (.int 6 t)
  lets : ∃ t, mg "MOST_LETTERS" = some (.int 8 t)
  life : ∃ t, mg "MOST_LIFE" = some (.int 40 t)
  gath : ∃ t, mg "MOST_GATHERED" = some (.int 3 t)
  abc : ∃ t, mg "LETTERS" = some (.str "abcdefghijklmnopqrstuvwxyz" t)
theorem b_isin : bootBuiltins "isinstance" = some (.builtin "isinstance") := by decide +kernel
theorem b_int : bootBuiltins "int" = some (.type "int") := by decide +kernel
theorem b_bool : bootBuiltins "bool" = some (.type "bool") := by decide +kernel
theorem b_str : bootBuiltins "str" = some (.type "str") := by decide +kernel
theorem b_tuple : bootBuiltins "tuple" = some (.type "tuple") := by decide +kernel
theorem b_list : bootBuiltins "list" = some (.type "list") := by decide +kernel
theorem b_all : bootBuiltins "all" = some (.builtin "all") := by decide +kernel
theorem b_any : bootBuiltins "any" = some (.builtin "any") := by decide +kernel
theorem b_max : bootBuiltins "max" = some (.builtin "max") := by decide +kernel
theorem b_sorted : bootBuiltins "sorted" = some (.builtin "sorted") := by decide +kernel
theorem b_len : bootBuiltins "len" = some (.builtin "len") := by decide +kernel

/-- the def that the name x holds keeps the promise -/
def Cal (P : Program) (w : World) (K : PySem.W.Frag) (mg : Str → Option Value) (base : Heap) (x : Str) (k : Nat) (ps : List Str) (sp : Sp) : Prop :=
  ∃ f fd, mg x = some (.ref f) ∧ PySem.W.keepIn K (.ref f) = true ∧ Binds K fd ps [] ∧ FnOk P w K mg base CX0 k f fd ps sp
theorem Cal.pe {X : Cx} {x : Str} {k j : Nat} {ps : List Str} {sp : Sp} {e : Expr} {es : List Expr} {t : TA} {p pos : Pos} (C : Cal X.prog X.w X.K X.mg X.base x k ps sp) (hr : Room j X.A) (ha : PA X (e :: es) t) (hk : k ≤ j := by first | exact Nat.le_refl _ | decide) (hg : Gl X x := by rfl)
    (hdb : (x == ("__debug__" : Str)) = false := by decide) (he : starEach (e :: es) X.env = (false, eval e X.env) :: starEach es X.env := by rfl) (hpl : (backTo pos (starEach es X.env)).any (·.1) = false := by rfl) :
    PE X (.Call (.Name x p) (e :: es) [] pos) (tCall sp [] E0 t) := by
  obtain ⟨f, fd, hm, kp, b, F⟩ := C
  exact pe_call F (hr.mono hk) hg hm kp b .nil pass0 ha hdb he hpl
/-- .. within a generator expression's frame -/
theorem Cal.peG {X : Cx} {s : Shared} {H : Hp} {cenv : Env} {fp : List Addr} {pn : List (Addr × Obj)} {x : Str} {k j : Nat} {ps : List Str} {sp : Sp} {e : Expr} {es : List Expr} {t : TA} {p pos : Pos} (C : Cal X.prog X.w X.K X.mg X.base x k ps sp) (hr : Room (j + 1) X.A) (ha : PA (GA.gx X s H cenv fp pn) (e :: es) t) (hk : k ≤ j := by first | exact Nat.le_refl _ | decide) (hg : Gl (GA.gx X s H cenv fp pn) x := by rfl)
    (hdb : (x == ("__debug__" : Str)) = false := by decide) (he : starEach (e :: es) cenv = (false, eval e cenv) :: starEach es cenv := by rfl) (hpl : (backTo pos (starEach es cenv)).any (·.1) = false := by rfl) :
    PE (GA.gx X s H cenv fp pn) (.Call (.Name x p) (e :: es) [] pos) (tCall sp [] E0 t) := Cal.pe (X := GA.gx X s H cenv fp pn) C (GA.room_gx hr) ha hk hg hdb he hpl
/-- a def of the text, at the name x -/
def Df (K : PySem.W.Frag) (mg : Str → Option Value) (x : Str) (st : Stmt) (ps : List Str) : Prop := ∃ f fd, Fun K x x st f fd ∧ mg x = some (.ref f) ∧ Binds K fd ps []
/-- .. its code object c -/
def DfC (K : PySem.W.Frag) (mg : Str → Option Value) (x : Str) (st : Stmt) (ps : List Str) (c : Addr) : Prop := ∃ f fd, Fun K x x st f fd ∧ fd.code = .ref c ∧ mg x = some (.ref f) ∧ Binds K fd ps []
section
variable {P : Program} {w : World} {K : PySem.W.Frag} {mg : Str → Option Value} {base : Heap}
theorem Cal.mono {x : Str} {j k : Nat} {ps : List Str} {sp : Sp} (C : Cal P w K mg base x j ps sp) (h : j ≤ k) : Cal P w K mg base x k ps sp :=
  let ⟨f, fd, hm, kp, b, F⟩ := C
  ⟨f, fd, hm, kp, b, F.mono h⟩
theorem Cal.imp {x : Str} {k : Nat} {ps : List Str} {sp sp' : Sp} (C : Cal P w K mg base x k ps sp) (h : ∀ vs H Q E, sp' vs H Q E → sp vs H Q E) : Cal P w K mg base x k ps sp' :=
  let ⟨f, fd, hm, kp, b, F⟩ := C
  ⟨f, fd, hm, kp, b, F.imp h⟩
theorem Df.ok {x : Str} {st : Stmt} {N ps : List Str} {k : Nat} {sp : Sp} (D : Df K mg x st ps) (S : FnScope N ps (defScope st)) (len : ∀ vs H Q E, sp vs H Q E → vs.length = ps.length)
    (hbody : ∀ (f : Addr) (cdv : Value) (A : Around) (outer : List Env) (s : Shared) (H : Hp) (vs : List V) (Q : VK) (E : XK), Room k (A.deeper (envOfC x (defScope st) s.heap.objs.size f cdv)) → sp vs H Q E →
      ∃ t, PSs (cxOf CX0 P w K mg base N x (defScope st) f cdv A outer s H E).nox (defBody st) t ∧ t { nx := fun _ H' => Q .non H', rt := Q } (start N vs) H) : Cal P w K mg base x (k + 1) ps sp := by
  obtain ⟨f, fd, F, hm, b⟩ := D
  exact ⟨f, fd, hm, F.kp, b, F.ok S len (hbody f)⟩
theorem DfC.ok {x : Str} {st : Stmt} {N ps : List Str} {k : Nat} {sp : Sp} {c : Addr} (D : DfC K mg x st ps c) (S : FnScope N ps (defScope st)) (len : ∀ vs H Q E, sp vs H Q E → vs.length = ps.length)
    (hbody : ∀ (f : Addr) (A : Around) (outer : List Env) (s : Shared) (H : Hp) (vs : List V) (Q : VK) (E : XK), Room k (A.deeper (envOfC x (defScope st) s.heap.objs.size f (.ref c))) → sp vs H Q E →
      ∃ t, PSs (cxOf CX0 P w K mg base N x (defScope st) f (.ref c) A outer s H E).nox (defBody st) t ∧ t { nx := fun _ H' => Q .non H', rt := Q } (start N vs) H) : Cal P w K mg base x (k + 1) ps sp := by
  obtain ⟨f, fd, F, hc, hm, b⟩ := D
  exact ⟨f, fd, hm, F.kp, b, ET.okT F hc S len (hbody f)⟩
end
section
variable {K : PySem.W.Frag}
theorem k_ii : PySem.W.kitOne K (.type "int") (.type "int") = some true := kit_ty (by decide +kernel)
theorem k_ib : PySem.W.kitOne K (.type "int") (.type "bool") = some false := kit_ty (by decide +kernel)
theorem k_is_ : PySem.W.kitOne K (.type "int") (.type "str") = some false := kit_ty (by decide +kernel)
theorem k_ss : PySem.W.kitOne K (.type "str") (.type "str") = some true := kit_ty (by decide +kernel)
theorem k_ns : PySem.W.kitOne K (.type "NoneType") (.type "str") = some false := kit_ty (by decide +kernel)
theorem k_tt : PySem.W.kitOne K (.type "tuple") (.type "tuple") = some true := kit_ty (by decide +kernel)
theorem k_tl : PySem.W.kitOne K (.type "tuple") (.type "list") = some false := kit_ty (by decide +kernel)
theorem k_ts : PySem.W.kitOne K (.type "tuple") (.type "str") = some false := kit_ty (by decide +kernel)
theorem k_it : PySem.W.kitOne K (.type "int") (.type "tuple") = some false := kit_ty (by decide +kernel)
theorem k_il : PySem.W.kitOne K (.type "int") (.type "list") = some false := kit_ty (by decide +kernel)
theorem k_st : PySem.W.kitOne K (.type "str") (.type "tuple") = some false := kit_ty (by decide +kernel)
theorem k_sl : PySem.W.kitOne K (.type "str") (.type "list") = some false := kit_ty (by decide +kernel)
theorem k_nt : PySem.W.kitOne K (.type "NoneType") (.type "tuple") = some false := kit_ty (by decide +kernel)
theorem k_nl : PySem.W.kitOne K (.type "NoneType") (.type "list") = some false := kit_ty (by decide +kernel)
end
section
variable {X : Cx} {e : Expr} {t : TE} {p1 p2 pos : Pos}
theorem isi_int (G : G0 X.mg) (he : PE X e t) (hg1 : Gl X "isinstance" := by rfl) (hg2 : Gl X "int" := by rfl) (he1 : starEach [e, .Name "int" p2] X.env = (false, eval e X.env) :: starEach [.Name "int" p2] X.env := by rfl) :
    PE X (.Call (.Name "isinstance" p1) [e, .Name "int" p2] [] pos) (tCB (rIsi X.K) (tCons t (tCons (tC (.ty "int")) tNil))) :=
  pe_callB call_isi hg1 G.isin b_isin (pa_cons he (pa_cons (pe_bltn hg2 G.int b_int (v := .ty "int") rfl) pa_nil) he1) (he := he1)
theorem isi_bool (G : G0 X.mg) (he : PE X e t) (hg1 : Gl X "isinstance" := by rfl) (hg2 : Gl X "bool" := by rfl) (he1 : starEach [e, .Name "bool" p2] X.env = (false, eval e X.env) :: starEach [.Name "bool" p2] X.env := by rfl) :
    PE X (.Call (.Name "isinstance" p1) [e, .Name "bool" p2] [] pos) (tCB (rIsi X.K) (tCons t (tCons (tC (.ty "bool")) tNil))) :=
  pe_callB call_isi hg1 G.isin b_isin (pa_cons he (pa_cons (pe_bltn hg2 G.bool b_bool (v := .ty "bool") rfl) pa_nil) he1) (he := he1)
theorem isi_str (G : G0 X.mg) (he : PE X e t) (hg1 : Gl X "isinstance" := by rfl) (hg2 : Gl X "str" := by rfl) (he1 : starEach [e, .Name "str" p2] X.env = (false, eval e X.env) :: starEach [.Name "str" p2] X.env := by rfl) :
    PE X (.Call (.Name "isinstance" p1) [e, .Name "str" p2] [] pos) (tCB (rIsi X.K) (tCons t (tCons (tC (.ty "str")) tNil))) :=
  pe_callB call_isi hg1 G.isin b_isin (pa_cons he (pa_cons (pe_bltn hg2 G.str b_str (v := .ty "str") rfl) pa_nil) he1) (he := he1)
theorem isi_tuple (G : G0 X.mg) (he : PE X e t) (hg1 : Gl X "isinstance" := by rfl) (hg2 : Gl X "tuple" := by rfl) (he1 : starEach [e, .Name "tuple" p2] X.env = (false, eval e X.env) :: starEach [.Name "tuple" p2] X.env := by rfl) :
    PE X (.Call (.Name "isinstance" p1) [e, .Name "tuple" p2] [] pos) (tCB (rIsi X.K) (tCons t (tCons (tC (.ty "tuple")) tNil))) :=
  pe_callB call_isi hg1 G.isin b_isin (pa_cons he (pa_cons (pe_bltn hg2 G.tuple b_tuple (v := .ty "tuple") rfl) pa_nil) he1) (he := he1)
theorem isi_list (G : G0 X.mg) (he : PE X e t) (hg1 : Gl X "isinstance" := by rfl) (hg2 : Gl X "list" := by rfl) (he1 : starEach [e, .Name "list" p2] X.env = (false, eval e X.env) :: starEach [.Name "list" p2] X.env := by rfl) :
    PE X (.Call (.Name "isinstance" p1) [e, .Name "list" p2] [] pos) (tCB (rIsi X.K) (tCons t (tCons (tC (.ty "list")) tNil))) :=
  pe_callB call_isi hg1 G.isin b_isin (pa_cons he (pa_cons (pe_bltn hg2 G.list b_list (v := .ty "list") rfl) pa_nil) he1) (he := he1)
theorem len_s (G : G0 X.mg) (he : PE X e t) (hg1 : Gl X "len" := by rfl) (he1 : starEach [e] X.env = (false, eval e X.env) :: starEach [] X.env := by rfl) : PE X (.Call (.Name "len" p1) [e] [] pos) (tCB (fun xs H Q => ∃ p ys, xs = [.ref p] ∧ (SqL X.K H p ys ∨ SqT X.K H p ys) ∧ Q (.int ys.length) H) (tCons t tNil)) :=
  pe_callB call_len_seq hg1 G.len b_len (pa_cons he pa_nil he1) (he := he1)
theorem len_t (G : G0 X.mg) (he : PE X e t) (hg1 : Gl X "len" := by rfl) (he1 : starEach [e] X.env = (false, eval e X.env) :: starEach [] X.env := by rfl) : PE X (.Call (.Name "len" p1) [e] [] pos) (tCB (fun xs H Q => ∃ z, xs = [.str z] ∧ z.length ≤ sizeLine ∧ Q (.int z.length) H) (tCons t tNil)) :=
  pe_callB call_len_str hg1 G.len b_len (pa_cons he pa_nil he1) (he := he1)
end
/-! ### the written part named, for use within frames -/
section
variable {X : Cx} {K : PySem.W.Frag} {e : Expr} {t te to : TE} {p1 p2 pos : Pos} {o : Expr}
theorem len_sK (hK : X.K = K) (G : G0 X.mg) (he : PE X e t) (hg1 : Gl X "len" := by rfl) (he1 : starEach [e] X.env = (false, eval e X.env) :: starEach [] X.env := by rfl) : PE X (.Call (.Name "len" p1) [e] [] pos) (tCB (fun xs H Q => ∃ p ys, xs = [.ref p] ∧ (SqL K H p ys ∨ SqT K H p ys) ∧ Q (.int ys.length) H) (tCons t tNil)) := by
  subst hK
  exact len_s G he hg1 he1
theorem ix_tupK (hK : X.K = K) : IxR X (rIxT K) := by
  subst hK
  exact ix_tup
theorem ix_listK (hK : X.K = K) : IxR X (rIxL K) := by
  subst hK
  exact ix_list
theorem sl_tupAK (hK : X.K = K) : SlR X (rSlA K) := by
  subst hK
  exact sl_tupA
theorem op_eqDK (hK : X.K = K) (hu : X.A.units + 64 < cLine) : OpR X (compareOp .Eq) (rEqD K) := by
  subst hK
  exact op_eqD hu
theorem pi_listK {it : Expr} {ti : TE} {tg : Expr} (hK : X.K = K) (h : PE X it ti) : PI X tg it (iList K ti) := by
  subst hK
  exact pi_list h
theorem op_catAK (hK : X.K = K) : OpR X (binaryOp .Add) (rCatA K) := by
  subst hK
  exact op_catA
theorem tupK {es : List Expr} {k : Nat} {t : TGs} {n : Nat} (hK : X.K = K) (hc : X.calm = true) (h : PGs X es t)
    (hn : (assignEach es X.env).length = n := by rfl) (hst : (assignEach es X.env).findIdx? (·.1) = none := by rfl) : PG X (.Tuple es k pos) (gTup K n t) := by
  subst hK
  exact pg_tup hc h hn hst
theorem truthK {a : Expr} {ta : TE} (hK : X.K = K) (ha : PE X a ta) (he : ∀ whole, isTrue a X.env whole = (do let v ← whole; standAt a.pos; holding [v] (truthy v))) :
    PT X a (fun σ H Q => ta σ H fun x H' => ∃ k, TruV K x H' k ∧ Q k H') := by
  subst hK
  exact pt_truth ha he
theorem joinK (hK : X.K = K) {apos pos : Pos} (ho : PE X o to) (he : PE X e te) (hs : starEach [e] X.env = [(false, eval e X.env)] := by rfl) (hbase : attributeBase o "join" X.env (eval o X.env) = eval o X.env := by rfl) (hline : (apos.endLine == pos.line) = true := by rfl) :
    PE X (.Call (.Attribute o "join" apos) [e] [] pos) (tM1 (fun x xs H Q => ∃ a p, ∃ ys : List Str, x = .str a ∧ xs = [.ref p] ∧ (SqL K H p (ys.map V.str) ∨ SqT K H p (ys.map V.str)) ∧
      (ys.map (·.length)).sum + ys.length * a.length ≤ 16777216 ∧ Q (.str (Txt.join a ys)) H) to te) := by
  subst hK
  exact pe_join ho he hs hbase hline
theorem callTupK (hK : X.K = K) : CallR X (.type "tuple") (fun xs H Q => ∃ p ys, xs = [.ref p] ∧ ((SqL K H p ys ∧ ∀ l, H l = none → Q (.ref l) (upd H l (.tup ys))) ∨ (SqT K H p ys ∧ Q (.ref p) H))) := by
  subst hK
  exact call_tuple_of
end
theorem bt {p : Prop} [Decidable p] (h : p) : V.bl (decide p) = V.bl true := by rw [decide_eq_true h]
theorem bf {p : Prop} [Decidable p] (h : ¬ p) : V.bl (decide p) = V.bl false := by rw [decide_eq_false h]
theorem keep1 {σ : L2.St} {vs : List Nat} {i : Nat} {x : Option V} (hi : i ∈ vs) (j : Nat) (v : V) (h : (wipe σ vs)[j]? = some (some v)) : ((wipe σ vs).set i x)[j]? = some (some v) := by
  have hj := (wipe_some h).2
  rw [List.getElem?_set_ne (fun e => hj (by rw [← e]; exact hi))]
  exact h
theorem iteTF {A B : Prop} (h : B) : if true = false then A else B := by
  rw [if_neg (by decide)]
  exact h
theorem iteFF {A B : Prop} (h : A) : if false = false then A else B := by
  rw [if_pos rfl]
  exact h
theorem sm1k {n : Nat} (h : n ≤ 1000) : n ≤ sizeLine := Nat.le_of_lt (small1000 h)
theorem keepS {σ τ : L2.St} {vs : List Nat} {i : Nat} {x : Option V} (h : ∀ (j : Nat) (v : V), (wipe σ vs)[j]? = some (some v) → τ[j]? = some (some v)) (hi : i ∈ vs) (j : Nat) (v : V) (k : (wipe σ vs)[j]? = some (some v)) : (τ.set i x)[j]? = some (some v) := by
  have hj := (wipe_some k).2
  rw [List.getElem?_set_ne (fun e => hj (by rw [← e]; exact hi))]
  exact h j v k
theorem gname_to {i : Nat} {x : V} {σ : L2.St} {H : Hp} {Q : L2.St → Hp → Prop} (h : Q (σ.set i (some x)) H) : gName i x σ H Q := h
theorem seq_to {t u : TS} {D : Ends} {σ : L2.St} {H : Hp} (h : t { D with nx := u D } σ H) : tSeq t u D σ H := h
theorem asg_to {t : TE} {g : TG} {D : Ends} {σ : L2.St} {H : Hp} (h : t σ H fun x H1 => g x σ H1 D.nx) : tAsg t g D σ H := h
/-- all, any over what a Walk tells -/
theorem gen_it {J : It} {n : Nat} {G : Hp → Prop} {Y : Nat → Hp → V → Hp → Prop} (w : Walk J n G Y) {stop : Bool} {g : TG} {te : TE} {vs : List Nat} {σ : L2.St} {H2 : Hp} {Q : VK} (Pv : Nat → Hp → Prop) (h0 : Pv 0 H2) (hG : ∀ i H, i ≤ n → Pv i H → G H)
    (hs : ∀ i x H H', i < n → Pv i H → Y i H x H' → g x (wipe σ vs) H' fun σ2 H2 => (∀ (j : Nat) v, (wipe σ vs)[j]? = some (some v) → σ2[j]? = some (some v)) ∧ te σ2 H2 fun y H3 => ∃ b, y = .bl b ∧ if b = stop then Q (.bl stop) H3 else Pv (i + 1) H3)
    (hd : ∀ H, Pv n H → Q (.bl (!stop)) H) :
    GA.GenW stop J g te vs σ H2 Q := by
  refine ⟨fun i m H => m = n - i ∧ i ≤ n ∧ Pv i H, ⟨n, by simp, Nat.zero_le _, h0⟩, ?_⟩
  rintro i m H ⟨rfl, hi, p⟩
  have q := hG i H hi p
  by_cases hlt : i < n
  · exact .inr ⟨w.goes i H hlt q, Pv (i + 1), fun H' p' => ⟨n - (i + 1), by omega, rfl, hlt, p'⟩, fun x H' y => hs i x H H' hlt p (w.yields i H x H' hlt q y)⟩
  · have e : i = n := by omega
    subst e
    exact .inl ⟨w.stops H q, hd H p⟩
end TX

set_option Elab.async false
set_option linter.all false
set_option maxRecDepth 100000
set_option maxHeartbeats 4000000
/-! plain: machines, their lives, choices gathered. -/
namespace MG
open PySem

abbrev Opt := Nat × Option Str
abbrev Mach := List (List Opt)
def stt (M : Mach) (s : Nat) : List Opt := M.getD s []
def opt (M : Mach) (s o : Nat) : Opt := (stt M s).getD o (0, none)
def nxt (M : Mach) (s o : Nat) : Nat := (opt M s o).1
def endS (M : Mach) : Nat → List Nat → Nat
  | s, [] => s
  | s, o :: r => endS M (nxt M s o) r
def path (M : Mach) : Nat → List Nat → List Nat
  | s, [] => [s]
  | s, o :: r => s :: path M (nxt M s o) r
def wds (M : Mach) : Nat → List Nat → List Str
  | _, [] => []
  | s, o :: r => (opt M s o).2.toList ++ wds M (nxt M s o) r
def okL (M : Mach) : Nat → List Nat → Prop
  | _, [] => True
  | s, o :: r => o < (stt M s).length ∧ okL M (nxt M s o) r
def cat : List Str → Str
  | [] => Str.empty
  | x :: r => x ++ cat r
def okW : Option Str → Prop
  | none => True
  | some w => 1 ≤ w.length ∧ w.length ≤ 8 ∧ ∀ c ∈ w.cps.toList, 97 ≤ c ∧ c ≤ 122
structure okM (M : Mach) : Prop where
  pos : 1 ≤ M.length
  most : M.length ≤ 40
  few : ∀ st ∈ M, st.length ≤ 6
  opts : ∀ st ∈ M, ∀ e ∈ st, e.1 < M.length ∧ okW e.2

/-! ### lives -/
theorem stt_mem {M : Mach} {s : Nat} (h : s < M.length) : M[s]? = some (stt M s) := by
  unfold stt
  rw [List.getD_eq_getElem?_getD, List.getElem?_eq_getElem h]
  rfl
theorem stt_in {M : Mach} {s : Nat} (h : s < M.length) : stt M s ∈ M := List.mem_of_getElem? (stt_mem h)
theorem opt_at {M : Mach} {s o : Nat} (h : o < (stt M s).length) : (stt M s)[o]? = some (opt M s o) := by
  unfold opt
  rw [List.getD_eq_getElem?_getD, List.getElem?_eq_getElem h]
  rfl
theorem stt_out {M : Mach} {s : Nat} (h : ¬ s < M.length) : stt M s = [] := by
  unfold stt
  rw [List.getD_eq_getElem?_getD, List.getElem?_eq_none (by omega)]
  rfl
theorem okM.nxt {M : Mach} (h : okM M) {s o : Nat} (ho : o < (stt M s).length) : nxt M s o < M.length := by
  have hs : s < M.length := by
    refine Decidable.byContradiction fun n => ?_
    rw [stt_out n] at ho
    exact Nat.not_lt_zero _ ho
  exact (h.opts _ (stt_in hs) _ (List.mem_of_getElem? (opt_at ho))).1
theorem endS_append (M : Mach) : ∀ (a b : List Nat) (s : Nat), endS M s (a ++ b) = endS M (endS M s a) b
  | [], _, _ => rfl
  | o :: r, b, s => endS_append M r b _
theorem wds_append (M : Mach) : ∀ (a b : List Nat) (s : Nat), wds M s (a ++ b) = wds M s a ++ wds M (endS M s a) b
  | [], _, _ => rfl
  | o :: r, b, s => by
    show (opt M s o).2.toList ++ wds M (nxt M s o) (r ++ b) = ((opt M s o).2.toList ++ wds M (nxt M s o) r) ++ _
    rw [wds_append M r b, List.append_assoc]
    rfl
theorem okL_append (M : Mach) : ∀ (a b : List Nat) (s : Nat), okL M s (a ++ b) ↔ okL M s a ∧ okL M (endS M s a) b
  | [], b, s => ⟨fun h => ⟨trivial, h⟩, fun h => h.2⟩
  | o :: r, b, s => by
    show (_ ∧ okL M (nxt M s o) (r ++ b)) ↔ (_ ∧ okL M (nxt M s o) r) ∧ _
    rw [okL_append M r b, and_assoc]
    exact Iff.rfl
theorem endS_lt {M : Mach} (h : okM M) : ∀ (L : List Nat) (s : Nat), s < M.length → okL M s L → endS M s L < M.length
  | [], _, hs, _ => hs
  | o :: r, s, hs, hl => endS_lt h r _ (h.nxt hl.1) hl.2
theorem okL_take {M : Mach} {s : Nat} {L : List Nat} (h : okL M s L) (n : Nat) : okL M s (L.take n) := by
  rw [← List.take_append_drop n L, okL_append] at h
  exact h.1
theorem okL_at {M : Mach} {s o : Nat} {L : List Nat} {i : Nat} (h : okL M s L) (e : L[i]? = some o) : o < (stt M (endS M s (L.take i))).length := by
  have hi : i < L.length := (List.getElem?_eq_some_iff.mp e).1
  have eq : L.drop i = o :: L.drop (i + 1) := by
    rw [List.drop_eq_getElem_cons hi]
    have := (List.getElem?_eq_some_iff.mp e).2
    rw [this]
  rw [← List.take_append_drop i L, okL_append, eq] at h
  exact h.2.1
theorem endS_snoc (M : Mach) (s : Nat) (L : List Nat) (o : Nat) : endS M s (L ++ [o]) = nxt M (endS M s L) o := by
  rw [endS_append]
  rfl
theorem take_snoc {α : Type} {L : List α} {i : Nat} {o : α} (e : L[i]? = some o) : L.take (i + 1) = L.take i ++ [o] := by
  rw [List.take_add_one, e]
  rfl
theorem path_snoc (M : Mach) : ∀ (L : List Nat) (s o : Nat), path M s (L ++ [o]) = path M s L ++ [nxt M (endS M s L) o]
  | [], s, o => rfl
  | a :: r, s, o => by
    show s :: path M (nxt M s a) (r ++ [o]) = s :: (path M (nxt M s a) r ++ _)
    rw [path_snoc M r]
    rfl
theorem path_last (M : Mach) : ∀ (L : List Nat) (s : Nat), ∃ pre, path M s L = pre ++ [endS M s L]
  | [], s => ⟨[], rfl⟩
  | a :: r, s => by
    obtain ⟨pre, e⟩ := path_last M r (nxt M s a)
    exact ⟨s :: pre, by show s :: path M (nxt M s a) r = _; rw [e]; rfl⟩
theorem path_len (M : Mach) : ∀ (L : List Nat) (s : Nat), (path M s L).length = L.length + 1
  | [], _ => rfl
  | a :: r, s => congrArg (· + 1) (path_len M r _)
theorem wds_snoc (M : Mach) (s : Nat) (L : List Nat) (o : Nat) : wds M s (L ++ [o]) = wds M s L ++ (opt M (endS M s L) o).2.toList := by
  rw [wds_append]
  show _ ++ ((opt M (endS M s L) o).2.toList ++ []) = _
  rw [List.append_nil]

/-! ### texts -/
theorem cat_append : ∀ a b : List Str, cat (a ++ b) = cat a ++ cat b
  | [], b => (Str.empty_append _).symm
  | x :: r, b => by
    show x ++ cat (r ++ b) = (x ++ cat r) ++ cat b
    rw [cat_append r b, Str.append_assoc]
theorem len_zero {z : Str} (h : z.length = 0) : z = Str.empty := by
  obtain ⟨c⟩ := z
  have h' : c.size = 0 := h
  rw [Array.size_eq_zero_iff.mp h']
  rfl
theorem join_cat : ∀ ws : List Str, Str.join Str.empty ws = cat ws
  | [] => rfl
  | [x] => (Str.append_empty x).symm
  | x :: y :: r => by
    show x ++ Str.empty ++ Str.join Str.empty (y :: r) = x ++ cat (y :: r)
    rw [join_cat (y :: r), Str.append_empty]
theorem txt_join (ws : List Str) : Txt.join ("" : String) ws = cat ws := by
  have e : (("" : String) : Str) = Str.empty := by decide +kernel
  rw [e]
  show Builtin.Str.glued Str.empty ws = _
  rw [StrLaws.glued_eq_join, join_cat]
theorem cat_len : ∀ ws : List Str, (∀ w ∈ ws, w.length ≤ 8) → (cat ws).length ≤ 8 * ws.length
  | [], _ => Nat.le_refl _
  | x :: r, h => by
    have h1 := cat_len r fun w hw => h w (List.mem_cons_of_mem _ hw)
    have h2 := h x List.mem_cons_self
    show (x ++ cat r).length ≤ _
    rw [Str.length_append, List.length_cons]
    omega
theorem sum_len : ∀ ws : List Str, (ws.map (·.length)).sum = (cat ws).length
  | [] => rfl
  | x :: r => by
    show ((x :: r).map (·.length)).sum = (x ++ cat r).length
    rw [Str.length_append, List.map_cons, List.sum_cons, sum_len r]
theorem cat_let {p : Nat → Prop} : ∀ ws : List Str, (∀ w ∈ ws, ∀ c ∈ w.cps.toList, p c) → ∀ c ∈ (cat ws).cps.toList, p c
  | [], _, c, h => by
    have h' : c ∈ ([] : List Nat) := h
    cases h'
  | x :: r, h, c, hc => by
    have e : (x ++ cat r).cps.toList = x.cps.toList ++ (cat r).cps.toList := by
      show (x.cps ++ (cat r).cps).toList = _
      rw [Array.toList_append]
    have hc' : c ∈ (x ++ cat r).cps.toList := hc
    rw [e] at hc'
    rcases List.mem_append.mp hc' with h1 | h1
    · exact h x List.mem_cons_self c h1
    · exact cat_let r (fun w hw => h w (List.mem_cons_of_mem _ hw)) c h1

/-! ### gathered -/
abbrev G := List Nat × Nat × List Str
/-- one option's part: g behind option i with its word -/
def pre (i : Nat) (e : Opt) (g : G) : G := (i :: g.1, g.2.1, e.2.toList ++ g.2.2)
def gfl (f : Nat → List G) : Nat → List Opt → List G
  | _, [] => []
  | i, e :: r => (f e.1).map (pre i e) ++ gfl f (i + 1) r
def gopt (M : Mach) : Nat → Nat → List G
  | 0, s => [([], s, [])]
  | k + 1, s => if stt M s = [] then [([], s, [])] else gfl (gopt M k) 0 (stt M s)
theorem gfl_append (f : Nat → List G) : ∀ (a b : List Opt) (i : Nat), gfl f i (a ++ b) = gfl f i a ++ gfl f (i + a.length) b
  | [], b, i => rfl
  | e :: r, b, i => by
    show _ ++ gfl f (i + 1) (r ++ b) = (_ ++ gfl f (i + 1) r) ++ _
    rw [gfl_append f r b, List.append_assoc, List.length_cons, show i + 1 + r.length = i + (r.length + 1) by omega]
theorem gfl_take (f : Nat → List G) {es : List Opt} {j : Nat} {e : Opt} (h : es[j]? = some e) : gfl f 0 (es.take (j + 1)) = gfl f 0 (es.take j) ++ (f e.1).map (pre j e) := by
  have hj : j < es.length := (List.getElem?_eq_some_iff.mp h).1
  rw [take_snoc h, gfl_append, List.length_take, Nat.min_eq_left (Nat.le_of_lt hj), Nat.zero_add]
  show _ ++ (_ ++ []) = _
  rw [List.append_nil]
theorem gfl_mem (f : Nat → List G) : ∀ (es : List Opt) (i : Nat) (g : G), g ∈ gfl f i es → ∃ j e g', es[j]? = some e ∧ g' ∈ f e.1 ∧ g = pre (i + j) e g'
  | [], _, _, h => by cases h
  | e :: r, i, g, h => by
    rcases List.mem_append.mp h with h | h
    · obtain ⟨g', h1, h2⟩ := List.mem_map.mp h
      exact ⟨0, e, g', rfl, h1, h2.symm⟩
    · obtain ⟨j, e', g', h1, h2, h3⟩ := gfl_mem f r (i + 1) g h
      exact ⟨j + 1, e', g', h1, h2, by rw [h3, show i + 1 + j = i + (j + 1) by omega]⟩
/-- what each of them is -/
theorem gopt_is (M : Mach) : ∀ (k s : Nat) (g : G), g ∈ gopt M k s → okL M s g.1 ∧ endS M s g.1 = g.2.1 ∧ wds M s g.1 = g.2.2 ∧ g.1.length ≤ k
  | 0, s, g, h => by
    have e : g = ([], s, []) := List.mem_singleton.mp h
    subst e
    exact ⟨trivial, rfl, rfl, Nat.le_refl _⟩
  | k + 1, s, g, h => by
    unfold gopt at h
    by_cases hs : stt M s = []
    · rw [if_pos hs] at h
      have e : g = ([], s, []) := List.mem_singleton.mp h
      subst e
      exact ⟨trivial, rfl, rfl, Nat.zero_le _⟩
    · rw [if_neg hs] at h
      obtain ⟨j, e, g', h1, h2, rfl⟩ := gfl_mem _ _ _ _ h
      rw [Nat.zero_add]
      have hj : j < (stt M s).length := (List.getElem?_eq_some_iff.mp h1).1
      have eo : opt M s j = e := by
        have := opt_at hj
        rw [h1] at this
        exact (Option.some.inj this).symm
      obtain ⟨i1, i2, i3, i4⟩ := gopt_is M k e.1 g' h2
      refine ⟨⟨hj, ?_⟩, ?_, ?_, Nat.succ_le_succ i4⟩
      · show okL M (opt M s j).1 g'.1
        rw [eo]; exact i1
      · show endS M (opt M s j).1 g'.1 = g'.2.1
        rw [eo]; exact i2
      · show (opt M s j).2.toList ++ wds M (opt M s j).1 g'.1 = e.2.toList ++ g'.2.2
        rw [eo, i3]
theorem gfl_len (f : Nat → List G) {n : Nat} : ∀ (es : List Opt) (i : Nat), (∀ e ∈ es, (f e.1).length ≤ n) → (gfl f i es).length ≤ es.length * n
  | [], _, _ => Nat.zero_le _
  | e :: r, i, h => by
    show (_ ++ gfl f (i + 1) r).length ≤ _
    rw [List.length_append, List.length_map, List.length_cons, Nat.succ_mul]
    have h1 := gfl_len f r (i + 1) fun x hx => h x (List.mem_cons_of_mem _ hx)
    have h2 := h e List.mem_cons_self
    omega
theorem gopt_len {M : Mach} (h2 : ∀ st ∈ M, st.length ≤ 2) : ∀ (k s : Nat), (gopt M k s).length ≤ 2 ^ k
  | 0, s => Nat.le_refl _
  | k + 1, s => by
    unfold gopt
    have hp : 1 ≤ 2 ^ k := Nat.one_le_two_pow
    have e2 : 2 ^ (k + 1) = 2 * 2 ^ k := by rw [Nat.pow_succ, Nat.mul_comm]
    by_cases hs : stt M s = []
    · rw [if_pos hs, e2]
      show 1 ≤ _
      omega
    · rw [if_neg hs, e2]
      have h1 := gfl_len (gopt M k) (n := 2 ^ k) (stt M s) 0 fun e _ => gopt_len h2 k e.1
      have hl : (stt M s).length ≤ 2 := by
        by_cases hi : s < M.length
        · exact h2 _ (stt_in hi)
        · rw [stt_out hi]; exact Nat.zero_le _
      exact Nat.le_trans h1 (Nat.mul_le_mul_right _ hl)

/-! ### the law's own gathering -/
def hd : Option Str → Str
  | none => Str.empty
  | some w => w
def lpre (e : Opt) (g : Nat × Str) : Nat × Str := (g.1, hd e.2 ++ g.2)
def lfl (f : Nat → List (Nat × Str)) : List Opt → List (Nat × Str)
  | [] => []
  | e :: r => (f e.1).map (lpre e) ++ lfl f r
def lgat (M : Mach) : Nat → Nat → List (Nat × Str)
  | 0, s => [(s, Str.empty)]
  | k + 1, s => if stt M s = [] then [(s, Str.empty)] else lfl (lgat M k) (stt M s)
theorem lfl_append (f : Nat → List (Nat × Str)) : ∀ (a b : List Opt), lfl f (a ++ b) = lfl f a ++ lfl f b
  | [], b => rfl
  | e :: r, b => by
    show _ ++ lfl f (r ++ b) = (_ ++ lfl f r) ++ _
    rw [lfl_append f r b, List.append_assoc]
theorem lfl_take (f : Nat → List (Nat × Str)) {es : List Opt} {j : Nat} {e : Opt} (h : es[j]? = some e) : lfl f (es.take (j + 1)) = lfl f (es.take j) ++ (f e.1).map (lpre e) := by
  rw [take_snoc h, lfl_append]
  show _ ++ (_ ++ []) = _
  rw [List.append_nil]
def gl (g : G) : Nat × Str := (g.2.1, cat g.2.2)
theorem hd_cat (w : Option Str) (ws : List Str) : cat (w.toList ++ ws) = hd w ++ cat ws := by
  cases w with
  | none => exact (Str.empty_append _).symm
  | some w => rfl
theorem lfl_gfl {f : Nat → List G} {f' : Nat → List (Nat × Str)} : ∀ (es : List Opt) (i : Nat), (∀ s, f' s = (f s).map gl) → lfl f' es = (gfl f i es).map gl
  | [], _, _ => rfl
  | e :: r, i, h => by
    show _ ++ lfl f' r = List.map gl (_ ++ gfl f (i + 1) r)
    rw [List.map_append, ← lfl_gfl r (i + 1) h, h, List.map_map, List.map_map]
    refine congrArg (· ++ _) (List.map_congr_left fun g _ => ?_)
    show (g.2.1, hd e.2 ++ cat g.2.2) = (g.2.1, cat (e.2.toList ++ g.2.2))
    rw [hd_cat]
theorem lgat_gopt (M : Mach) : ∀ (k s : Nat), lgat M k s = (gopt M k s).map gl
  | 0, s => rfl
  | k + 1, s => by
    unfold lgat gopt
    by_cases hs : stt M s = []
    · rw [if_pos hs, if_pos hs]; rfl
    · rw [if_neg hs, if_neg hs]
      exact lfl_gfl _ 0 (lgat_gopt M k)

/-! ### the machine gathered -/
def wo (z : Str) : Option Str := if z.length = 0 then none else some z
def gst (M : Mach) (k s : Nat) : List Opt := if stt M s = [] then [] else (gopt M k s).map fun g => (g.2.1, wo (cat g.2.2))
def gath (M : Mach) (k : Nat) : Mach := (List.range M.length).map (gst M k)
theorem gath_len (M : Mach) (k : Nat) : (gath M k).length = M.length := by
  unfold gath
  rw [List.length_map, List.length_range]
theorem stt_gath (M : Mach) (k s : Nat) : stt (gath M k) s = gst M k s := by
  by_cases hs : s < M.length
  · have e : (gath M k)[s]? = some (gst M k s) := by
      unfold gath
      rw [List.getElem?_map, List.getElem?_range hs]
      rfl
    show (gath M k).getD s [] = _
    rw [List.getD_eq_getElem?_getD, e]
    rfl
  · rw [stt_out (by rw [gath_len]; exact hs)]
    unfold gst
    rw [if_pos (stt_out hs)]
theorem wo_cat (z : Str) : cat (wo z).toList = z := by
  unfold wo
  by_cases h : z.length = 0
  · rw [if_pos h]
    exact (len_zero h).symm
  · rw [if_neg h]
    exact Str.append_empty z
theorem gfl_one (M : Mach) : ∀ (es : List Opt) (i : Nat), (∀ e ∈ es, okW e.2) → (gfl (gopt M 0) i es).map (fun g : G => ((g.2.1, wo (cat g.2.2)) : Opt)) = es
  | [], _, _ => rfl
  | e :: r, i, h => by
    show List.map _ ([pre i e ([], e.1, [])] ++ gfl (gopt M 0) (i + 1) r) = _
    rw [List.map_append, gfl_one M r (i + 1) fun x hx => h x (List.mem_cons_of_mem _ hx)]
    have hw := h e List.mem_cons_self
    obtain ⟨t, w⟩ := e
    show (t, wo (cat (w.toList ++ []))) :: r = (t, w) :: r
    cases w with
    | none => rfl
    | some w =>
      have e1 : cat ((some w).toList ++ []) = w := Str.append_empty w
      rw [e1]
      have h1 : 1 ≤ w.length := hw.1
      unfold wo
      rw [if_neg (by omega)]
theorem gst_one {M : Mach} (h : ∀ st ∈ M, ∀ e ∈ st, okW e.2) (s : Nat) (hs : s < M.length) : gst M 1 s = stt M s := by
  unfold gst
  by_cases hn : stt M s = []
  · rw [if_pos hn, hn]
  · rw [if_neg hn]
    unfold gopt
    rw [if_neg hn]
    exact gfl_one M (stt M s) 0 (h _ (stt_in hs))
theorem gath_one {M : Mach} (h : ∀ st ∈ M, ∀ e ∈ st, okW e.2) : gath M 1 = M := by
  refine List.ext_getElem? fun i => ?_
  by_cases hi : i < M.length
  · unfold gath
    rw [List.getElem?_map, List.getElem?_range hi, stt_mem hi]
    show some (gst M 1 i) = _
    rw [gst_one h i hi]
  · rw [List.getElem?_eq_none (by rw [gath_len]; omega), List.getElem?_eq_none (by omega)]
end MG

set_option Elab.async false
set_option linter.all false
set_option maxRecDepth 100000
set_option maxHeartbeats 4000000
/-! plain: rows by steps, their order; the life behind a gathered life. -/
namespace MG
open PySem

/-! ### rows by steps -/
def rws (M : Mach) (k s : Nat) : List (List Nat) := (gopt M k s).map (·.1)
/-- one row longer -/
def ext1 (M : Mach) (s : Nat) (one : List Nat) : List (List Nat) := if stt M (endS M s one) = [] then [one] else (List.range (stt M (endS M s one)).length).map fun m => one ++ [m]
def ext (M : Mach) (s : Nat) (R : List (List Nat)) : List (List Nat) := R.flatMap (ext1 M s)
theorem ext_take (M : Mach) (s : Nat) {R : List (List Nat)} {j : Nat} {one : List Nat} (h : R[j]? = some one) : ext M s (R.take (j + 1)) = ext M s (R.take j) ++ ext1 M s one := by
  rw [take_snoc h]
  unfold ext
  rw [List.flatMap_append, List.flatMap_singleton]
theorem ext_map (M : Mach) (s i : Nat) : ∀ (R : List (List Nat)), ext M s (R.map (i :: ·)) = (ext M (nxt M s i) R).map (i :: ·)
  | [] => rfl
  | one :: r => by
    show ext1 M s (i :: one) ++ ext M s (r.map (i :: ·)) = (ext1 M (nxt M s i) one ++ ext M (nxt M s i) r).map (i :: ·)
    rw [ext_map M s i r, List.map_append]
    refine congrArg (· ++ _) ?_
    unfold ext1
    show (if stt M (endS M (nxt M s i) one) = [] then [i :: one] else _) = _
    by_cases h : stt M (endS M (nxt M s i) one) = []
    · rw [if_pos h, if_pos h]; rfl
    · rw [if_neg h, if_neg h, List.map_map]
      rfl
theorem gfl_rows {f : Nat → List G} : ∀ (es : List Opt) (i : Nat), (gfl f i es).map (·.1) = (es.zipIdx i).flatMap fun x => ((f x.1.1).map (·.1)).map (x.2 :: ·)
  | [], _ => rfl
  | e :: r, i => by
    show List.map _ (_ ++ gfl f (i + 1) r) = _
    rw [List.map_append, gfl_rows r (i + 1), List.zipIdx_cons, List.flatMap_cons, List.map_map, List.map_map]
    rfl
theorem ext_append (M : Mach) (s : Nat) (a b : List (List Nat)) : ext M s (a ++ b) = ext M s a ++ ext M s b := List.flatMap_append ..
theorem rws_succ (M : Mach) : ∀ (k s : Nat), ext M s (rws M k s) = rws M (k + 1) s
  | 0, s => by
    show ext1 M s [] ++ [] = (gopt M (0 + 1) s).map (·.1)
    rw [List.append_nil]
    unfold ext1 gopt
    show (if stt M s = [] then [[]] else (List.range (stt M s).length).map fun m => [] ++ [m]) = _
    by_cases hs : stt M s = []
    · rw [if_pos hs, if_pos hs]; rfl
    · rw [if_neg hs, if_neg hs, gfl_rows]
      have key : ∀ (es : List Opt) (i : Nat), (List.range' i es.length).map (fun m => ([] : List Nat) ++ [m]) = (es.zipIdx i).flatMap fun x => ((gopt M 0 x.1.1).map (·.1)).map (x.2 :: ·) := by
        intro es
        induction es with
        | nil => intro i; rfl
        | cons e r ih =>
          intro i
          rw [List.zipIdx_cons, List.flatMap_cons, ← ih (i + 1), List.length_cons, List.range'_succ, List.map_cons]
          rfl
      rw [List.range_eq_range']
      exact key (stt M s) 0
  | k + 1, s => by
    by_cases hs : stt M s = []
    · have e1 : rws M (k + 1) s = [[]] := by
        unfold rws gopt
        rw [if_pos hs]; rfl
      have e2 : rws M (k + 1 + 1) s = [[]] := by
        unfold rws gopt
        rw [if_pos hs]; rfl
      rw [e1, e2]
      show ext1 M s [] ++ [] = _
      unfold ext1
      show (if stt M s = [] then [[]] else _) ++ [] = _
      rw [if_pos hs]
      rfl
    · have e1 : ∀ k, rws M (k + 1) s = (gfl (gopt M k) 0 (stt M s)).map (·.1) := fun k => by
        unfold rws
        rw [gopt, if_neg hs]
      rw [e1 k, e1 (k + 1), gfl_rows, gfl_rows]
      -- option by option
      have key : ∀ (es : List Opt) (i : Nat), (∀ j e, es[j]? = some e → nxt M s (i + j) = e.1) →
          ext M s ((es.zipIdx i).flatMap fun x => ((gopt M k x.1.1).map (·.1)).map (x.2 :: ·)) = (es.zipIdx i).flatMap fun x => ((gopt M (k + 1) x.1.1).map (·.1)).map (x.2 :: ·) := by
        intro es
        induction es with
        | nil => intro i _; rfl
        | cons e r ih =>
          intro i h
          rw [List.zipIdx_cons, List.flatMap_cons, List.flatMap_cons, ext_append, ih (i + 1) fun j e' q => by
            have := h (j + 1) e' q
            rw [← this, show i + (j + 1) = i + 1 + j by omega]]
          refine congrArg (· ++ _) ?_
          rw [ext_map]
          have h0 : nxt M s i = e.1 := h 0 e rfl
          rw [h0]
          show (ext M e.1 (rws M k e.1)).map (i :: ·) = (rws M (k + 1) e.1).map (i :: ·)
          rw [rws_succ M k e.1]
      refine key (stt M s) 0 fun j e q => ?_
      have hj : j < (stt M s).length := (List.getElem?_eq_some_iff.mp q).1
      rw [Nat.zero_add]
      unfold nxt
      have := opt_at hj
      rw [q] at this
      rw [← Option.some.inj this]
theorem rws_zero (M : Mach) (s : Nat) : rws M 0 s = [[]] := rfl

/-! ### the rows ascend -/
open PyProof.Rows L2 in
abbrev lt (a b : List Nat) : Bool := HT.lexLt (a.map Int.ofNat) (b.map Int.ofNat)
theorem lt_cons (i : Nat) (a b : List Nat) : lt (i :: a) (i :: b) = lt a b := by
  show HT.lexLt (Int.ofNat i :: a.map Int.ofNat) (Int.ofNat i :: b.map Int.ofNat) = _
  rw [HT.lexLt_cons, if_pos rfl]
theorem lt_less {i j : Nat} (h : i < j) (a b : List Nat) : lt (i :: a) (j :: b) = true := by
  show HT.lexLt (Int.ofNat i :: a.map Int.ofNat) (Int.ofNat j :: b.map Int.ofNat) = _
  have hn : ¬ (Int.ofNat i = Int.ofNat j) := fun e => by
    have := Int.ofNat.inj e
    omega
  rw [HT.lexLt_cons, if_neg hn]
  exact decide_eq_true (Int.ofNat_lt.mpr h)
theorem rws_sorted (M : Mach) : ∀ (k s : Nat), (rws M k s).Pairwise fun a b => lt a b = true
  | 0, s => List.pairwise_singleton _ _
  | k + 1, s => by
    by_cases hs : stt M s = []
    · unfold rws gopt
      rw [if_pos hs]
      exact List.pairwise_singleton _ _
    · unfold rws gopt
      rw [if_neg hs, gfl_rows]
      have key : ∀ (es : List Opt) (i : Nat), ((es.zipIdx i).flatMap fun x => ((gopt M k x.1.1).map (·.1)).map (x.2 :: ·)).Pairwise (fun a b => lt a b = true) ∧
          ∀ r ∈ ((es.zipIdx i).flatMap fun x => ((gopt M k x.1.1).map (·.1)).map (x.2 :: ·)), ∃ j t, r = j :: t ∧ i ≤ j := by
        intro es
        induction es with
        | nil => intro i; exact ⟨List.Pairwise.nil, fun r h => by cases h⟩
        | cons e r ih =>
          intro i
          obtain ⟨h1, h2⟩ := ih (i + 1)
          rw [List.zipIdx_cons, List.flatMap_cons]
          refine ⟨List.pairwise_append.mpr ⟨?_, h1, fun a ha b hb => ?_⟩, fun x hx => ?_⟩
          · rw [List.pairwise_map]
            refine List.Pairwise.imp (fun {a b} q => ?_) (rws_sorted M k e.1)
            rw [lt_cons]
            exact q
          · obtain ⟨a', _, rfl⟩ := List.mem_map.mp ha
            obtain ⟨j, t, rfl, hj⟩ := h2 b hb
            exact lt_less (by omega) _ _
          · rcases List.mem_append.mp hx with hx | hx
            · obtain ⟨a', _, rfl⟩ := List.mem_map.mp hx
              exact ⟨i, a', rfl, Nat.le_refl _⟩
            · obtain ⟨j, t, e, hj⟩ := h2 x hx
              exact ⟨j, t, e, by omega⟩
      exact (key (stt M s) 0).1

/-- a sorted list of the same items as an ascending one is that one -/
theorem sorted_same {α : Type} {lt : α → α → Bool} (asym : ∀ a b, lt a b = true → lt b a = false) : ∀ (xs ys : List α), xs.Pairwise (fun a b => lt a b = true) → ys.Perm xs → ys.Pairwise (fun a b => lt b a = false) → ys = xs
  | [], ys, _, p, _ => List.Perm.eq_nil p
  | x :: xs, [], _, p, _ => by
    have := p.length_eq
    simp at this
  | x :: xs, y :: ys, hx, p, hy => by
    have e : y = x := by
      have m1 : y ∈ x :: xs := p.mem_iff.mp List.mem_cons_self
      have m2 : x ∈ y :: ys := p.mem_iff.mpr List.mem_cons_self
      rcases List.mem_cons.mp m1 with q | q
      · exact q
      · rcases List.mem_cons.mp m2 with q2 | q2
        · exact q2.symm
        · have h1 := (List.pairwise_cons.mp hx).1 y q
          have h2 := (List.pairwise_cons.mp hy).1 x q2
          rw [h1] at h2
          cases h2
    subst e
    rw [sorted_same asym xs ys (List.pairwise_cons.mp hx).2 (List.Perm.cons_inv p) (List.pairwise_cons.mp hy).2]

/-! ### the life behind a life of the gathered machine -/
def row (M : Mach) (k s o : Nat) : List Nat := (rws M k s).getD o []
def plain (M : Mach) (k : Nat) : Nat → List Nat → List Nat
  | _, [] => []
  | s, o :: r => row M k s o ++ plain M k (endS M s (row M k s o)) r
theorem gst_len (M : Mach) (k s : Nat) (h : stt M s ≠ []) : (gst M k s).length = (gopt M k s).length := by
  unfold gst
  rw [if_neg h, List.length_map]
theorem gst_ne {M : Mach} {k s o : Nat} (h : o < (stt (gath M k) s).length) : stt M s ≠ [] := fun e => by
  rw [stt_gath] at h
  unfold gst at h
  rw [if_pos e] at h
  exact Nat.not_lt_zero _ h
theorem row_at {M : Mach} {k s o : Nat} (h : o < (stt (gath M k) s).length) : ∃ g, g ∈ gopt M k s ∧ (rws M k s)[o]? = some g.1 ∧ row M k s o = g.1 ∧ opt (gath M k) s o = (g.2.1, wo (cat g.2.2)) := by
  have hn := gst_ne h
  rw [stt_gath, gst_len M k s hn] at h
  have e : (gopt M k s)[o]? = some (gopt M k s)[o] := List.getElem?_eq_getElem h
  refine ⟨(gopt M k s)[o], List.getElem_mem h, ?_, ?_, ?_⟩
  · unfold rws
    rw [List.getElem?_map, e]; rfl
  · unfold row rws
    rw [List.getD_eq_getElem?_getD, List.getElem?_map, e]; rfl
  · unfold opt
    rw [stt_gath]
    unfold gst
    rw [if_neg hn, List.getD_eq_getElem?_getD, List.getElem?_map, e]; rfl
theorem plain_is (M : Mach) (k : Nat) : ∀ (L : List Nat) (s : Nat), okL (gath M k) s L → okL M s (plain M k s L) ∧ endS M s (plain M k s L) = endS (gath M k) s L ∧ cat (wds M s (plain M k s L)) = cat (wds (gath M k) s L) ∧ (plain M k s L).length ≤ k * L.length
  | [], s, _ => ⟨trivial, rfl, rfl, Nat.zero_le _⟩
  | o :: r, s, h => by
    obtain ⟨g, g1, g2, g3, g4⟩ := row_at h.1
    obtain ⟨i1, i2, i3, i4⟩ := gopt_is M k s g g1
    have en : nxt (gath M k) s o = g.2.1 := by
      unfold nxt
      rw [g4]
    have h2 := h.2
    rw [en, ← i2] at h2
    obtain ⟨j1, j2, j3, j4⟩ := plain_is M k r _ h2
    have ep : plain M k s (o :: r) = g.1 ++ plain M k (endS M s g.1) r := by
      show row M k s o ++ _ = _
      rw [g3]
    rw [ep, okL_append, endS_append, wds_append, cat_append, i3]
    refine ⟨⟨i1, j1⟩, ?_, ?_, ?_⟩
    · rw [j2, i2]
      show _ = endS (gath M k) (nxt (gath M k) s o) r
      rw [en]
    · rw [j3, i2]
      show _ = cat ((opt (gath M k) s o).2.toList ++ wds (gath M k) (nxt (gath M k) s o) r)
      rw [cat_append, en, g4, wo_cat]
    · rw [List.length_append, List.length_cons, Nat.mul_succ]
      omega
theorem plain_take {M : Mach} {k o : Nat} : ∀ {L : List Nat} {i : Nat} (s : Nat), L[i]? = some o → plain M k s (L.take (i + 1)) = plain M k s (L.take i) ++ row M k (endS M s (plain M k s (L.take i))) o
  | [], i, s, h => by simp at h
  | a :: r, 0, s, h => by
    have e : a = o := Option.some.inj h
    subst e
    show row M k s a ++ [] = [] ++ row M k s a
    rw [List.append_nil, List.nil_append]
  | a :: r, i + 1, s, h => by
    show row M k s a ++ plain M k _ (r.take (i + 1)) = (row M k s a ++ plain M k _ (r.take i)) ++ _
    rw [plain_take (L := r) (i := i) _ h, List.append_assoc]
    show _ = row M k s a ++ (plain M k (endS M s (row M k s a)) (List.take i r) ++ row M k (endS M s (row M k s a ++ plain M k (endS M s (row M k s a)) (List.take i r))) o)
    rw [endS_append]

/-! ### the gathered machine is a machine -/
theorem gath_ok {M : Mach} (h : okM M) (k : Nat) (hc : ∀ st ∈ gath M k, st.length ≤ 6) (hw : ∀ st ∈ gath M k, ∀ e ∈ st, ∀ w, e.2 = some w → w.length ≤ 8) : okM (gath M k) := by
  refine ⟨by rw [gath_len]; exact h.pos, by rw [gath_len]; exact h.most, hc, fun st hst e he => ?_⟩
  have hw' := hw st hst e he
  obtain ⟨s, hs, rfl⟩ : ∃ s, s < M.length ∧ gst M k s = st := by
    unfold gath at hst
    obtain ⟨s, h1, h2⟩ := List.mem_map.mp hst
    exact ⟨s, List.mem_range.mp h1, h2⟩
  unfold gst at he
  by_cases hn : stt M s = []
  · rw [if_pos hn] at he
    cases he
  · rw [if_neg hn] at he
    obtain ⟨g, g1, rfl⟩ := List.mem_map.mp he
    obtain ⟨i1, i2, i3, i4⟩ := gopt_is M k s g g1
    rw [gath_len]
    refine ⟨?_, ?_⟩
    · show g.2.1 < _
      rw [← i2]
      exact endS_lt h _ _ hs i1
    · show okW (wo (cat g.2.2))
      have hw2 : ∀ w, wo (cat g.2.2) = some w → w.length ≤ 8 := hw'
      unfold wo at hw2 ⊢
      by_cases hz : (cat g.2.2).length = 0
      · rw [if_pos hz]; trivial
      · rw [if_neg hz] at hw2 ⊢
        refine ⟨by omega, hw2 _ rfl, cat_let _ fun w hwm c hc => ?_⟩
        rw [← i3] at hwm
        -- a word of the machine
        have key : ∀ (L : List Nat) (s : Nat), okL M s L → ∀ w ∈ wds M s L, okW (some w) := by
          intro L
          induction L with
          | nil => intro s _ w h; cases h
          | cons o r ih =>
            intro s hl w hm
            rcases List.mem_append.mp hm with hm | hm
            · have hs : s < M.length := by
                refine Decidable.byContradiction fun n => ?_
                have := hl.1
                rw [stt_out n] at this
                exact Nat.not_lt_zero _ this
              have q := (h.opts _ (stt_in hs) _ (List.mem_of_getElem? (opt_at hl.1))).2
              cases e : (opt M s o).2 with
              | none => rw [e] at hm; cases hm
              | some w' =>
                rw [e] at hm q
                have : w = w' := by simpa using hm
                rw [this]
                exact q
            · exact ih _ hl.2 w hm
        exact (key g.1 s i1 w hwm).2.2 c hc
theorem wds_ok {M : Mach} (h : okM M) : ∀ (L : List Nat) (s : Nat), okL M s L → (wds M s L).length ≤ L.length ∧ ∀ w ∈ wds M s L, w.length ≤ 8
  | [], s, _ => ⟨Nat.le_refl _, fun w hw => by cases hw⟩
  | o :: r, s, hl => by
    obtain ⟨h1, h2⟩ := wds_ok h r _ hl.2
    have hs : s < M.length := by
      refine Decidable.byContradiction fun n => ?_
      have := hl.1
      rw [stt_out n] at this
      exact Nat.not_lt_zero _ this
    have q := (h.opts _ (stt_in hs) _ (List.mem_of_getElem? (opt_at hl.1))).2
    refine ⟨?_, fun w hm => ?_⟩
    · show ((opt M s o).2.toList ++ wds M _ r).length ≤ r.length + 1
      rw [List.length_append]
      have : (opt M s o).2.toList.length ≤ 1 := by cases (opt M s o).2 <;> simp
      omega
    · rcases List.mem_append.mp hm with hm | hm
      · cases e : (opt M s o).2 with
        | none => rw [e] at hm; cases hm
        | some w' =>
          rw [e] at hm q
          have : w = w' := by simpa using hm
          rw [this]
          exact q.2.1
      · exact h2 w hm
end MG

set_option Elab.async false
set_option linter.all false
set_option maxRecDepth 100000
set_option maxHeartbeats 4000000
/-! is_number, need_number, is_word, is_option. -/
namespace DA
open PySem PySem.Spec PyProof.Rows L2 HR MG TX
abbrev OptR : Rl Opt := PairOf NatR WordR
abbrev MachR : Rl Mach := TupOf (TupOf OptR)
theorem OptR.mono : Mono OptR := PairOf.mono NatR.mono WordR.mono
theorem MachR.mono : Mono MachR := TupOf.mono (TupOf.mono OptR.mono)
section
variable {P : Program} {w : World} {K : PySem.W.Frag} {mg : Str → Option Value} {base : Heap}
/-! ### is_number -/
def spNum : Sp := fun vs H Q _ => ∃ i lo hi : Int, vs = [.int i, .int lo, .int hi] ∧ lo ≤ i ∧ i ≤ hi ∧ Q (.bl true) H
theorem sc12 : FnScope ["value", "low", "high"] ["value", "low", "high"] (defScope (top 12)) := ⟨rfl, rfl, rfl, by decide +kernel, rfl, by decide +kernel, by decide +kernel⟩
theorem ok_num (G : G0 mg) (D : Df K mg "is_number" (top 12) ["value", "low", "high"]) : Cal P w K mg base "is_number" 1 ["value", "low", "high"] spNum := by
  refine D.ok sc12 (fun vs H Q E h => ?_) (fun f cdv A outer s H vs Q E hr h => ?_)
  · obtain ⟨i, lo, hi, rfl, _⟩ := h
    rfl
  · obtain ⟨i, lo, hi, rfl, h1, h2, q⟩ := h
    refine ⟨_, pss_one (ps_ret (pe_and (isi_int G (pv 0)) (pe_and (pe_not (isi_bool G (pv 0))) (pe_one (pe_chain op_le op_le (pv 1) (pv 0) (pv 2)))))), ?_⟩
    refine ⟨.int i, rfl, _, _, _, _, true, rfl, .ty _, .base (.int i), k_ii, true, rfl, iteT ?_⟩
    refine ⟨.int i, rfl, _, _, _, _, false, rfl, .ty _, .base (.int i), k_ib, false, rfl, true, rfl, iteT ?_⟩
    refine ⟨.int lo, rfl, .int i, rfl, lo, i, rfl, rfl, true, bt h1, iteT ?_⟩
    refine ⟨.int hi, rfl, i, hi, rfl, rfl, ?_⟩
    show Q (V.bl (decide (i ≤ hi))) H
    rw [bt h2]
    exact q
/-! ### need_number -/
def spNeed : Sp := fun vs H Q _ => ∃ i lo hi : Int, vs = [.int i, .int lo, .int hi] ∧ lo ≤ i ∧ i ≤ hi ∧ Q .non H
theorem sc13 : FnScope ["value", "low", "high"] ["value", "low", "high"] (defScope (top 13)) := ⟨rfl, rfl, rfl, by decide +kernel, rfl, by decide +kernel, by decide +kernel⟩
theorem ok_need (D : Df K mg "need_number" (top 13) ["value", "low", "high"]) (C : Cal P w K mg base "is_number" 1 ["value", "low", "high"] spNum) : Cal P w K mg base "need_number" 2 ["value", "low", "high"] spNeed := by
  refine D.ok sc13 (fun vs H Q E h => ?_) (fun f cdv A outer s H vs Q E hr h => ?_)
  · obtain ⟨i, lo, hi, rfl, _⟩ := h
    rfl
  · obtain ⟨i, lo, hi, rfl, h1, h2, q⟩ := h
    refine ⟨_, pss_one (ps_if (pt_not (pt_val (C.pe hr (pa_cons (pv 0) (pa_cons (pv 1) (pa_cons (pv 2) pa_nil)))))) (pss_one ps_never) pss_nil), ?_⟩
    refine ⟨.int i, rfl, .int lo, rfl, .int hi, rfl, i, lo, hi, rfl, h1, h2, true, rfl, iteF ?_⟩
    exact q
/-! ### is_word -/
def spWord (T : List Addr) : Sp := fun vs H Q _ => ∃ z : Str, vs = [.str z] ∧ okW (some z) ∧ TT T H ∧ ∀ H', Ex H H' → Q (.bl true) H'
theorem sc14 : FnScope ["value", "sign"] ["value"] (defScope (top 14)) := ⟨rfl, rfl, rfl, by decide +kernel, rfl, by decide +kernel, by decide +kernel⟩
theorem abc_mem {c : Nat} (h : 97 ≤ c) (h2 : c ≤ 122) : c ∈ ("abcdefghijklmnopqrstuvwxyz" : Str).cps.toList := by
  have : ∀ d, d < 26 → d + 97 ∈ ("abcdefghijklmnopqrstuvwxyz" : Str).cps.toList := by decide +kernel
  have h3 := this (c - 97) (by omega)
  rwa [Nat.sub_add_cancel h] at h3
theorem ok_word {c0 P0 : Addr} {T : List Addr} (G : G0 mg) (D : DfC K mg "is_word" (top 14) ["value"] c0) (TB : GxR.TabB base mg c0 P0) (hP : P0 ∈ T) : Cal P w K mg base "is_word" 3 ["value"] (spWord T) := by
  obtain ⟨t8, g8⟩ := G.lets
  obtain ⟨ta, ga⟩ := G.abc
  refine D.ok sc14 (fun vs H Q E h => ?_) (fun f A outer s H vs Q E hr h => ?_)
  · obtain ⟨z, rfl, _⟩ := h
    rfl
  · obtain ⟨z, rfl, ⟨w1, w2, w3⟩, tt, q⟩ := h
    refine ⟨_, pss_one (ps_ret (pe_and (isi_str G (pv 0)) (pe_and (pe_chain op_le op_le pe_int (len_t G (pv 0)) (pe_glob (v := .int 8) rfl g8 ⟨_, rfl⟩)) (pe_one
      (GA.pe_allG (own := [("sign", 1)]) (g := gName 1) hr rfl sc14.nd (by rfl) G.all TB rfl rfl (by decide +kernel) (by decide +kernel) (blkOk_by (N := ["value", "sign"]) (sc := defScope (top 14)) (by decide +kernel)) (pi_str (pv 0))
        (fun _ _ _ _ _ _ _ => pg_name (i := 1) sc14.nd rfl (Or.inl rfl)) (fun _ _ _ _ _ _ _ => pe_cmpR op_in_sign (pv 1) (pe_glob (v := .str _) rfl ga ⟨_, rfl⟩) rfl) (fun _ => rfl) b_all))))), ?_⟩
    refine ⟨.str z, rfl, _, _, _, _, true, rfl, .ty _, .base (.str z), k_ss, true, rfl, iteT ?_⟩
    refine ⟨.str z, rfl, z, rfl, sm1k (by omega), 1, _, rfl, rfl, true, bt (by omega), iteT ?_⟩
    refine ⟨_, 8, rfl, rfl, true, bt (by omega), iteT ?_⟩
    refine ⟨.str z, rfl, z, rfl, tt P0 hP, fun H2 ht => ?_⟩
    have ex := Ex.tabbed (tt P0 hP) ht
    refine gen_it walk_str (fun i H' => H' = H2) rfl (fun _ _ _ _ => True.intro) (fun i x H1 H' hi e hy => ?_) fun H' e => ?_
    · subst e
      obtain ⟨rfl, c, hc, rfl⟩ := hy
      refine ⟨keep1 (by simp), ?_⟩
      refine ⟨.str ⟨#[c]⟩, rfl, c, _, rfl, rfl, _, rfl, ?_⟩
      have hm : c ∈ z.cps.toList := by
        rw [← Array.getElem?_toList] at hc
        exact List.mem_of_getElem? hc
      obtain ⟨b1, b2⟩ := w3 c hm
      rw [decide_eq_true (abc_mem b1 b2)]
      exact iteTF rfl
    · subst e
      exact q _ ex
/-! ### is_option -/
def spOpt (T : List Addr) : Sp := fun vs H Q _ => ∃ (v : V) (e : Opt) (m : Nat), vs = [v, .int (m : Int)] ∧ OptR H v e ∧ e.1 < m ∧ okW e.2 ∧ TT T H ∧ ∀ H', Ex H H' → Q (.bl true) H'
abbrev N15 : List Str := ["value", "many"]
theorem sc15 : FnScope N15 ["value", "many"] (defScope (top 15)) := ⟨rfl, rfl, rfl, by decide +kernel, rfl, by decide +kernel, by decide +kernel⟩
theorem ok_opt {T : List Addr} (G : G0 mg) (D : Df K mg "is_option" (top 15) ["value", "many"]) (CN : Cal P w K mg base "is_number" 1 ["value", "low", "high"] spNum) (CW : Cal P w K mg base "is_word" 3 ["value"] (spWord T)) :
    Cal P w K mg base "is_option" 4 ["value", "many"] (spOpt T) := by
  refine D.ok sc15 (fun vs H Q E h => ?_) (fun f cdv A outer s H vs Q E hr h => ?_)
  · obtain ⟨v, e, m, rfl, _⟩ := h
    rfl
  · obtain ⟨v, ⟨n, ow⟩, m, rfl, ⟨a, u, w', rfl, ha, hu, hw⟩, h1, h2, tt, q⟩ := h
    have hu' : u = .int (n : Int) := hu
    have hw' : w' = wV ow := hw
    subst hu' hw'
    have h1 : n < m := h1
    have sq : SqT K H a [.int (n : Int), wV ow] := .inl (.inl ha)
    refine ⟨_, (pss_cons (ps_if (PW.pt (pw_or (pt_not (pt_val (isi_tuple G (pv 0)))) (pw_or (pt_cmpR op_ne (len_s G (pv 0)) pe_int (nomark _)) (pw_or1 (pt_not (pt_val (CN.pe hr (pa_cons (pe_ix ix_tup (pv 0) pe_int (fun _ _ => rfl)) (pa_cons pe_int (pa_cons (pe_op op_sub (pv 1) pe_int) pa_nil)))))))))) (pss_one (ps_ret pe_bl)) pss_nil)
      (pss_one (ps_ret (pe_or (pe_cmpR op_isN (pe_ix ix_tup (pv 0) pe_int (fun _ _ => rfl)) pe_non (nomark _)) (pe_one (CW.pe hr (pa_cons (pe_ix ix_tup (pv 0) pe_int (fun _ _ => rfl)) pa_nil))))))), ?_⟩
    refine ⟨.ref a, rfl, _, _, _, _, true, rfl, .ty _, .base (.tup ha), k_tt, true, rfl, iteF ?_⟩
    refine ⟨.ref a, rfl, a, _, rfl, .inr sq, rfl, _, rfl, iteNS rfl ?_⟩
    refine ⟨.ref a, rfl, a, _, _, _, rfl, rfl, sq, atI_nat (j := 0) rfl, .int (m : Int), rfl, (m : Int), 1, rfl, rfl, (n : Int), 0, (m : Int) - 1, rfl, by omega, by omega, true, rfl, iteF ?_⟩
    refine ⟨.ref a, rfl, a, _, _, _, rfl, rfl, sq, atI_nat (j := 1) rfl, rfl, ?_⟩
    cases ow with
    | none => exact ⟨true, rfl, iteT (q H (Ex.refl H))⟩
    | some z => exact ⟨false, rfl, iteF ⟨.ref a, rfl, a, _, _, _, rfl, rfl, sq, atI_nat (j := 1) rfl, z, rfl, h2, tt, q⟩⟩
/-! ### need_machine -/
def spMach (T : List Addr) : Sp := fun vs H Q _ => ∃ (v : V) (M : Mach), vs = [v] ∧ MachR H v M ∧ okM M ∧ TT T H ∧ ∀ H', Ex H H' → Q .non H'
abbrev N16 : List Str := ["value", "index", "state", "option"]
theorem sc16 : FnScope N16 ["value"] (defScope (top 16)) := ⟨rfl, rfl, rfl, by decide +kernel, rfl, by decide +kernel, by decide +kernel⟩
theorem ok_mach {c0 P0 : Addr} {T : List Addr} (G : G0 mg) (D : DfC K mg "need_machine" (top 16) ["value"] c0) (TB : GxR.TabB base mg c0 P0) (hP : P0 ∈ T) (CO : Cal P w K mg base "is_option" 4 ["value", "many"] (spOpt T)) :
    Cal P w K mg base "need_machine" 6 ["value"] (spMach T) := by
  obtain ⟨_, gSt⟩ := G.states
  obtain ⟨_, gOp⟩ := G.opts
  refine D.ok sc16 (fun vs H Q E h => ?_) (fun f A outer s H vs Q E hr h => ?_)
  · obtain ⟨v, M, rfl, _⟩ := h
    rfl
  · obtain ⟨v, M, rfl, ⟨a, us, rfl, ha, hus⟩, hM, tt, q⟩ := h
    have sq : SqT K H a us := .inl (.inl ha)
    have hl := hus.len
    refine ⟨_, (pss_cons (ps_if (PW.pt (pw_or (pt_not (pt_val (isi_tuple G (pv 0)))) (pw_or1 (pt_not (pt_chain op_le op_le pe_int (len_s G (pv 0)) (pe_glob (v := .int 40) rfl gSt ⟨_, rfl⟩)))))) (pss_one ps_never) pss_nil)
      (pss_one (ps_for PassesOwn.never rfl (EnT.pi_enumT (by rfl) G.enum (pa_cons (pv 0) pa_nil)) (pg_tup rfl (pgs_cons (pg_name (i := 1) sc16.nd rfl (Or.inl rfl)) (pgs_cons (pg_name (i := 2) sc16.nd rfl (Or.inl rfl)) pgs_nil)))
      (pss_cons (ps_if (PW.pt (pw_or (pt_not (pt_val (isi_tuple G (pv 2)))) (pw_or1 (pt_cmpR op_gt (len_s G (pv 2)) (pe_glob (v := .int 6) rfl gOp ⟨_, rfl⟩) (nomark _))))) (pss_one ps_never) pss_nil)
      (pss_one (ps_if (pt_not (pt_val (GA.pe_allG (own := [("option", 3)]) hr rfl sc16.nd (by rfl) G.all TB rfl rfl (by decide +kernel) (by decide +kernel) (blkOk_by (N := N16) (sc := defScope (top 16)) (by decide +kernel)) (pi_tup (pv 2)) (fun _ _ _ _ _ _ _ => (pg_name (i := 3) sc16.nd rfl (Or.inl rfl))) (fun _ _ _ _ _ _ _ => (CO.peG hr (pa_cons (pv 3) (pa_cons (len_sK (K := K) rfl G (pv 0)) pa_nil)))) (fun _ => rfl) b_all))) (pss_one ps_never) pss_nil)))))), ?_⟩
    refine ⟨.ref a, rfl, _, _, _, _, true, rfl, .ty _, .base (.tup ha), k_tt, true, rfl, iteF ?_⟩
    have p1 := hM.pos
    have p2 := hM.most
    refine ⟨.ref a, rfl, a, us, rfl, .inr sq, 1, _, rfl, rfl, true, bt (by omega), iteT ?_⟩
    refine ⟨_, 40, rfl, rfl, true, bt (by omega), iteF ?_⟩
    refine ⟨.ref a, rfl, a, us, rfl, sq, ?_⟩
    refine for_it EnT.walk_enumT (fun i σ H' => ∃ y1 y2 y3, σ = [some (.ref a), y1, y2, y3] ∧ Ex H H') ⟨_, _, _, rfl, Ex.refl H⟩ (fun i σ H' _ ⟨_, _, _, _, h⟩ => h.tp.sqt ha) (fun i x σ H1 H2 hi h hy => ?_) fun σ H' h => ?_
    · obtain ⟨y1, y2, y3, rfl, ex⟩ := h
      obtain ⟨T2, x1, x2, rfl, nT, rfl, e1, e2⟩ := hy
      cases (Option.some.inj e1 : V.int (i : Nat) = x1)
      obtain ⟨st, hst, b, vs, rfl, hb, hvs⟩ := hus.getL e2
      have ex2 : Ex H (upd H1 T2 (.tup [.int (i : Nat), .ref b])) := ex.lay nT
      refine ⟨T2, _, rfl, .inl (.inl upd_same), rfl, _, _, rfl, _, _, rfl, rfl, ?_⟩
      generalize upd H1 T2 (.tup [.int (i : Nat), .ref b]) = H2 at ex2 ⊢
      have hb2 := ex2.tp b vs hb
      have few := hM.few st (List.mem_of_getElem? hst)
      have opts := hM.opts st (List.mem_of_getElem? hst)
      have hlv := hvs.len
      refine ⟨.ref b, rfl, _, _, _, _, true, rfl, .ty _, .base (.tup hb2), k_tt, true, rfl, iteF ?_⟩
      refine ⟨.ref b, rfl, b, vs, rfl, .inr (.inl (.inl hb2)), _, 6, rfl, rfl, false, bf (by omega), iteF ?_⟩
      refine ⟨.ref b, rfl, b, rfl, ⟨_, .inl (.inl hb2)⟩, (tt.ex ex2) P0 hP, fun H3 ht => ?_⟩
      have ex3 := ex2.trans (Ex.tabbed ((tt.ex ex2) P0 hP) ht)
      refine gen_it (stop := false) (walk_tup (K := K)) (fun i H' => Ex H H') ex3 (fun i H' _ h => h.tp.sqt hb) (fun j x H4 H5 hj ex4 hy => ?_) fun H' ex4 => ?_
      · obtain ⟨rfl, hx⟩ := hy
        obtain ⟨e, he, hxe⟩ := hvs.getL hx
        have oe := opts e (List.mem_of_getElem? he)
        refine ⟨keep1 (by simp), ?_⟩
        refine ⟨x, rfl, .ref a, rfl, a, us, rfl, .inr (ex4.tp.sqt ha), x, e, us.length, rfl, OptR.mono _ _ _ _ ex4.tp hxe, by rw [hl]; exact oe.1, oe.2, tt.ex ex4, fun H6 ex6 => ⟨true, rfl, iteTF (ex4.trans ex6)⟩⟩
      · refine ⟨true, rfl, iteF ?_⟩
        exact ⟨_, _, _, rfl, ex4⟩
    · obtain ⟨_, _, _, _, ex⟩ := h
      exact q H' ex
end
end DA

set_option Elab.async false
set_option linter.all false
set_option maxRecDepth 100000
set_option maxHeartbeats 4000000
/-! way_of, is_life, need_life, state_behind, word_of, end_of, words_of. -/
namespace DB
open PySem PySem.Spec PyProof.Rows L2 HR MG TX DA
abbrev nV : Nat → V := fun n => .int (n : Int)
abbrev LifeR : Rl (List Nat) := TupOf NatR
theorem LifeR.mono : Mono LifeR := TupOf.mono NatR.mono
theorem nat_tup {H : Hp} {v : V} {L : List Nat} (h : LifeR H v L) : ∃ a, v = .ref a ∧ H a = some (.tup (L.map nV)) := by
  obtain ⟨a, vs, rfl, h1, h2⟩ := h
  refine ⟨a, rfl, ?_⟩
  rw [h1, All2.eq_map (f := nV) h2]
theorem nat_mk {H : Hp} {a : Addr} {L : List Nat} (h : H a = some (.tup (L.map nV))) : LifeR H (.ref a) L := by
  refine ⟨a, _, rfl, h, ⟨by simp, fun i x y e1 e2 => ?_⟩⟩
  rw [List.getElem?_map, e2] at e1
  exact (Option.some.inj e1).symm
theorem str_tup {H : Hp} {v : V} {ws : List Str} (h : TupOf StrR H v ws) : ∃ a, v = .ref a ∧ H a = some (.tup (ws.map V.str)) := by
  obtain ⟨a, vs, rfl, h1, h2⟩ := h
  refine ⟨a, rfl, ?_⟩
  rw [h1, All2.eq_map (f := V.str) h2]
theorem str_mk {H : Hp} {a : Addr} {ws : List Str} (h : H a = some (.tup (ws.map V.str))) : TupOf StrR H (.ref a) ws := by
  refine ⟨a, _, rfl, h, ⟨by simp, fun i x y e1 e2 => ?_⟩⟩
  rw [List.getElem?_map, e2] at e1
  exact (Option.some.inj e1).symm
theorem cut_to (xs : List V) (m : Nat) : cutV xs none (some (m : Int)) = xs.take m := by
  unfold cutV
  rw [HT.sIx_nat, HT.sIx_none]
  by_cases h : m ≤ xs.length
  · rw [Nat.min_eq_left h]
    simp
  · rw [Nat.min_eq_right (by omega)]
    simp
    rw [List.take_of_length_le (by omega)]
theorem sl_to {K : PySem.W.Frag} {H : Hp} {a : Addr} {L : List Nat} {m : Nat} {Q : VK} (h : H a = some (.tup (L.map nV))) (q : ∀ H' v, Ex H H' → LifeR H' v (L.take m) → Q v H') : rSlA K (.ref a) none (some (m : Int)) H Q := by
  refine ⟨a, _, rfl, .inl (.inl h), fun z => ?_, fun _ p np => ?_⟩
  · have z2 := z.2
    rw [HT.sIx_nat, List.length_map] at z2
    refine q H _ (Ex.refl H) ?_
    rw [List.take_of_length_le (by omega)]
    exact nat_mk h
  · refine q _ _ (Ex.new np) (nat_mk ?_)
    rw [upd_same, cut_to, List.map_take]
theorem sl_init {K : PySem.W.Frag} {H : Hp} {a : Addr} {L : List Nat} {o : Nat} {Q : VK} (h : H a = some (.tup ((L ++ [o]).map nV))) (q : ∀ H' v, Ex H H' → LifeR H' v L → Q v H') : rSlA K (.ref a) none (some (-1)) H Q := by
  have e : HT.sIx ((L ++ [o]).map nV).length ((L ++ [o]).map nV).length (some (-1)) = L.length := by
    show (if (-1 : Int) < 0 then ((-1 : Int) + (((L ++ [o]).map nV).length : Int)).toNat else min (-1 : Int).toNat ((L ++ [o]).map nV).length) = L.length
    rw [if_pos (by decide)]
    simp
    omega
  refine ⟨a, _, rfl, .inl (.inl h), fun z => ?_, fun _ p np => ?_⟩
  · have z2 := z.2
    rw [e] at z2
    simp at z2
  · refine q _ _ (Ex.new np) (nat_mk ?_)
    rw [upd_same]
    unfold cutV
    rw [e, HT.sIx_none]
    simp
/-- the s-th state of a machine that stands -/
theorem at_state {H : Hp} {us : List V} {M : Mach} {s : Nat} (hus : All2 (TupOf OptR H) us M) (h : s < M.length) : ∃ b vs, us[s]? = some (.ref b) ∧ H b = some (.tup vs) ∧ All2 (OptR H) vs (stt M s) := by
  obtain ⟨x, e, b, vs, rfl, h1, h2⟩ := hus.get (stt_mem h)
  exact ⟨b, vs, e, h1, h2⟩
theorem at_opt {H : Hp} {vs : List V} {M : Mach} {s o : Nat} (hvs : All2 (OptR H) vs (stt M s)) (h : o < (stt M s).length) : ∃ b, vs[o]? = some (.ref b) ∧ H b = some (.tup [nV (nxt M s o), wV (opt M s o).2]) := by
  obtain ⟨x, e, b, u, w, rfl, h1, h2, h3⟩ := hvs.get (opt_at h)
  cases (h2 : u = _)
  cases (h3 : w = _)
  exact ⟨b, e, h1⟩
/-! ### data, for == of tuples -/
theorem all2_cons {α β : Type} {P : α → β → Prop} {a : α} {b : β} {as : List α} {bs : List β} (h : All2 P (a :: as) (b :: bs)) : P a b ∧ All2 P as bs :=
  ⟨h.2 0 a b rfl rfl, by have := h.1; simpa using this, fun i x y e1 e2 => h.2 (i + 1) x y e1 e2⟩
theorem dp_all {α : Type} {K : PySem.W.Frag} {H : Hp} {R : Rl α} {f : α → PyData} (hf : ∀ v x, R H v x → Dp K H v (f x)) : ∀ {vs : List V} {xs : List α}, All2 (R H) vs xs → DpAll K H vs (xs.map f)
  | [], [], _ => .nil
  | [], _ :: _, h => by cases h.1
  | _ :: _, [], h => by cases h.1
  | v :: vs, x :: xs, h => .cons (hf v x (all2_cons h).1) (dp_all hf (all2_cons h).2)
theorem lay_all {α : Type} {f : α → PyData} : ∀ xs : List α, (∀ x ∈ xs, (f x).canLay0 = true ∧ (f x).depth ≤ 2) → PyData.canLayAll0 (xs.map f) = true ∧ PyData.depthAll (xs.map f) ≤ 2
  | [], _ => ⟨by simp [PyData.canLayAll0], by simp [PyData.depthAll]⟩
  | x :: xs, h => by
    obtain ⟨h1, h2⟩ := h x List.mem_cons_self
    obtain ⟨h3, h4⟩ := lay_all xs fun y hy => h y (List.mem_cons_of_mem _ hy)
    refine ⟨by simp [PyData.canLayAll0, h1, h3], ?_⟩
    simp only [List.map_cons, PyData.depthAll]
    omega
theorem shaped_tup {α : Type} {f : α → PyData} {xs : List α} (h : ∀ x ∈ xs, (f x).canLay0 = true ∧ (f x).depth ≤ 2) : SeqAt.shaped (.tuple (xs.map f)) = true := by
  obtain ⟨h1, h2⟩ := lay_all xs h
  show (PyData.canLay0 (.tuple (xs.map f)) && decide (PyData.depth (.tuple (xs.map f)) ≤ 64)) = true
  rw [Bool.and_eq_true]
  refine ⟨by simp only [PyData.canLay0]; exact h1, decide_eq_true ?_⟩
  simp only [PyData.depth]
  omega
theorem eqv_emp {α : Type} {f : α → PyData} (xs : List α) : PyData.eqv (.tuple (xs.map f)) (.tuple []) = xs.isEmpty := by
  cases xs <;> simp [PyData.eqv, PyData.eqvAll]
theorem eq_empty {α : Type} {K : PySem.W.Frag} {H : Hp} {R : Rl α} {f : α → PyData} {vs : List V} {xs : List α} {a t : Addr} {Q : VK} (hd : ∀ v x, R H v x → Dp K H v (f x)) (hs : ∀ x ∈ xs, (f x).canLay0 = true ∧ (f x).depth ≤ 2) (h : H a = some (.tup vs)) (h2 : All2 (R H) vs xs)
    (ht : H t = some (.tup [])) (q : Q (.bl xs.isEmpty) H) : rEqD K (.ref a) (.ref t) H Q :=
  ⟨.tuple (xs.map f), .tuple [], .tup (.inl (.inl h)) (dp_all hd h2), .tup (.inl (.inl ht)) .nil, shaped_tup hs, by decide +kernel, by rw [eqv_emp]; exact q⟩
theorem ne_empty {α : Type} {K : PySem.W.Frag} {H : Hp} {R : Rl α} {f : α → PyData} {vs : List V} {xs : List α} {a t : Addr} {Q : VK} (hd : ∀ v x, R H v x → Dp K H v (f x)) (hs : ∀ x ∈ xs, (f x).canLay0 = true ∧ (f x).depth ≤ 2) (h : H a = some (.tup vs)) (h2 : All2 (R H) vs xs)
    (ht : H t = some (.tup [])) (q : Q (.bl (!xs.isEmpty)) H) : rNeD K (.ref a) (.ref t) H Q :=
  ⟨.tuple (xs.map f), .tuple [], .tup (.inl (.inl h)) (dp_all hd h2), .tup (.inl (.inl ht)) .nil, shaped_tup hs, by decide +kernel, by rw [eqv_emp]; exact q⟩
theorem nat_dp {K : PySem.W.Frag} {H : Hp} (v : V) (n : Nat) (h : NatR H v n) : Dp K H v (.int (n : Int)) := by
  cases (h : v = _)
  exact .int _
theorem nat_all2 {H : Hp} (L : List Nat) : All2 (NatR H) (L.map nV) L := ⟨by simp, fun i x y e1 e2 => by
  rw [List.getElem?_map, e2] at e1
  exact (Option.some.inj e1).symm⟩
def wD : Option Str → PyData
  | none => .none
  | some z => .str z
def oD (e : Opt) : PyData := .tuple [.int (e.1 : Int), wD e.2]
theorem opt_dp {K : PySem.W.Frag} {H : Hp} (v : V) (e : Opt) (h : OptR H v e) : Dp K H v (oD e) := by
  obtain ⟨n, w⟩ := e
  obtain ⟨a, u, y, rfl, h1, h2, h3⟩ := h
  cases (h2 : u = _)
  cases (h3 : y = _)
  refine .tup (.inl (.inl h1)) (.cons (.int _) (.cons ?_ .nil))
  cases w with
  | none => exact .non
  | some z => exact .str z
theorem opt_lay (e : Opt) (h : okW e.2) : (oD e).canLay0 = true ∧ (oD e).depth ≤ 2 := by
  obtain ⟨n, w⟩ := e
  cases w with
  | none => exact ⟨by simp [oD, wD, PyData.canLay0, PyData.canLayAll0], by simp [oD, wD, PyData.depth, PyData.depthAll]⟩
  | some z =>
    obtain ⟨_, _, h3⟩ := h
    have hz : PyData.strOk z = true := by
      unfold PyData.strOk
      rw [← Array.all_toList, List.all_eq_true]
      intro c hc
      have := (h3 c hc).2
      simp
      omega
    exact ⟨by simp [oD, wD, PyData.canLay0, PyData.canLayAll0, hz], by simp [oD, wD, PyData.depth, PyData.depthAll]⟩
section
variable {P : Program} {w : World} {K : PySem.W.Frag} {mg : Str → Option Value} {base : Heap}
/-! ### way_of -/
def spWay : Sp := fun vs H Q _ => ∃ (v u : V) (M : Mach) (L : List Nat), vs = [v, u] ∧ MachR H v M ∧ LifeR H u L ∧ okM M ∧ okL M 0 L ∧ L.length ≤ 100 ∧ ∀ H' p, Ex H H' → H' p = some (.lst ((path M 0 L).map nV)) → Q (.ref p) H'
abbrev N17 : List Str := ["machine", "life", "found", "option", "state"]
theorem sc17 : FnScope N17 ["machine", "life"] (defScope (top 17)) := ⟨rfl, rfl, rfl, by decide +kernel, rfl, by decide +kernel, by decide +kernel⟩
theorem ok_way (G : G0 mg) (D : Df K mg "way_of" (top 17) ["machine", "life"]) (CN : Cal P w K mg base "is_number" 1 ["value", "low", "high"] spNum) : Cal P w K mg base "way_of" 2 ["machine", "life"] spWay := by
  refine D.ok sc17 (fun vs H Q E h => ?_) (fun f cdv A outer s H vs Q E hr h => ?_)
  · obtain ⟨v, u, M, L, rfl, _⟩ := h
    rfl
  · obtain ⟨v, u, M, L, rfl, ⟨a, us, rfl, ha, hus⟩, hu, hM, hL, hlen, q⟩ := h
    obtain ⟨b, rfl, hb⟩ := nat_tup hu
    refine ⟨_, (pss_cons (ps_set (i := 2) sc17.nd rfl (.inl rfl) (pe_lst (pa_cons pe_int pa_nil)))
      (pss_cons (ps_for PassesOwn.never rfl (pi_tup (pv 1)) (pg_name (i := 3) sc17.nd rfl (Or.inl rfl))
      (pss_cons (ps_set (i := 4) sc17.nd rfl (.inl rfl) (pe_ix ix_tup (pv 0) (pe_ix ix_list (pv 2) (pe_un un_neg pe_int) (fun _ _ => rfl)) (fun _ _ => rfl)))
      (pss_cons (ps_if (pt_not (pt_val (CN.pe hr (pa_cons (pv 3) (pa_cons pe_int (pa_cons (pe_op op_sub (len_s G (pv 4)) pe_int) pa_nil)))))) (pss_one (ps_ret pe_non)) pss_nil)
      (pss_one (ps_expr (pe_bm PySem.F.plainAttrs_list PySem.F.slot_list_append PySem.F.type_list_append mt_append (pv 2) (pa_cons (pe_ix ix_tup (pe_ix ix_tup (pv 4) (pv 3) (fun _ _ => rfl)) pe_int (fun _ _ => rfl)) pa_nil)))))))
      (pss_one (ps_ret (pv 2))))), ?_⟩
    refine ⟨by show 1 ≤ sizeLine; exact sm1k (by omega), fun o no => ?_⟩
    have ex0 : Ex H (upd H o (.lst [.int 0])) := Ex.new no
    refine ⟨.ref b, rfl, b, rfl, ⟨_, ex0.tp.sqt hb⟩, ?_⟩
    refine for_it (walk_tup (K := K) (a := b) (xs := L.map nV)) (fun i σ H' => ∃ y3 y4, σ = [some (.ref a), some (.ref b), some (.ref o), y3, y4] ∧ Ex H H' ∧ H' o = some (.lst ((path M 0 (L.take i)).map nV))) ⟨_, _, rfl, ex0, upd_same⟩ (fun i σ H' _ ⟨_, _, _, h, _⟩ => h.tp.sqt hb) (fun i x σ H1 H2 hi h hy => ?_) fun σ H' h => ?_
    · obtain ⟨y3, y4, rfl, ex, ho⟩ := h
      obtain ⟨rfl, hx⟩ := hy
      have hi' : i < L.length := by simpa using hi
      have hLi : L[i]? = some L[i] := List.getElem?_eq_getElem hi'
      rw [List.getElem?_map, hLi] at hx
      cases (Option.some.inj hx : nV L[i] = x)
      have hlt := endS_lt hM (L.take i) 0 hM.pos (okL_take hL i)
      have hop := okL_at hL hLi
      obtain ⟨b2, vs, e2, hb2, hvs⟩ := at_state hus hlt
      obtain ⟨b3, e3, hb3⟩ := at_opt hvs hop
      obtain ⟨pre, ep⟩ := path_last M (L.take i) 0
      have hl2 := hvs.len
      refine ⟨.ref a, rfl, .ref o, rfl, 1, rfl, o, _, -1, nV (endS M 0 (L.take i)), rfl, rfl, .inl (.inl ho), by rw [ep, List.map_append]; exact atI_last _ _, a, us, _, _, rfl, rfl, ex.tp.sqt ha, atI_nat e2, ?_⟩
      refine ⟨nV L[i], rfl, .ref b2, rfl, b2, vs, rfl, .inr (ex.tp.sqt hb2), _, 1, rfl, rfl, _, _, _, rfl, by omega, by omega, true, rfl, iteF ?_⟩
      refine ⟨.ref o, rfl, .inl ⟨rfl, _, .inl (.inl ho)⟩, .ref b2, rfl, nV L[i], rfl, b2, vs, _, _, rfl, rfl, ex.tp.sqt hb2, atI_nat e3, b3, _, 0, _, rfl, rfl, ex.tp.sqt hb3, atI_nat (j := 0) rfl, o, _, _, rfl, rfl, ho, ?_, ?_⟩
      · rw [List.length_map, path_len, List.length_take]
        exact small1000 (by omega)
      · refine ⟨_, _, rfl, ex.set no, ?_⟩
        rw [upd_same, take_snoc hLi, path_snoc, List.map_append]
        rfl
    · obtain ⟨y3, y4, rfl, ex, ho⟩ := h
      refine ⟨.ref o, rfl, q H' o ex ?_⟩
      rw [ho, List.take_of_length_le (by simp)]
/-! ### is_life, need_life -/
def spLife : Sp := fun vs H Q _ => ∃ (v u : V) (M : Mach) (L : List Nat), vs = [v, u] ∧ MachR H v M ∧ LifeR H u L ∧ okM M ∧ okL M 0 L ∧ L.length ≤ 40 ∧ ∀ H', Ex H H' → Q (.bl true) H'
abbrev N18 : List Str := ["machine", "value"]
theorem sc18 : FnScope N18 ["machine", "value"] (defScope (top 18)) := ⟨rfl, rfl, rfl, by decide +kernel, rfl, by decide +kernel, by decide +kernel⟩
theorem ok_life (G : G0 mg) (D : Df K mg "is_life" (top 18) ["machine", "value"]) (CY : Cal P w K mg base "way_of" 2 ["machine", "life"] spWay) : Cal P w K mg base "is_life" 3 ["machine", "value"] spLife := by
  obtain ⟨_, gLi⟩ := G.life
  refine D.ok sc18 (fun vs H Q E h => ?_) (fun f cdv A outer s H vs Q E hr h => ?_)
  · obtain ⟨v, u, M, L, rfl, _⟩ := h
    rfl
  · obtain ⟨v, u, M, L, rfl, hv, hu, hM, hL, hlen, q⟩ := h
    obtain ⟨b, rfl, hb⟩ := nat_tup hu
    refine ⟨_, (pss_one (ps_ret (pe_and (isi_tuple G (pv 1)) (pe_and (pe_cmpR op_le (len_s G (pv 1)) (pe_glob (v := .int 40) rfl gLi ⟨_, rfl⟩) (nomark _)) (pe_one (pe_cmpR op_notN (CY.pe hr (pa_cons (pv 0) (pa_cons (pv 1) pa_nil))) pe_non (nomark _))))))), ?_⟩
    refine ⟨.ref b, rfl, _, _, _, _, true, rfl, .ty _, .base (.tup hb), k_tt, true, rfl, iteT ?_⟩
    refine ⟨.ref b, rfl, b, _, rfl, .inr (.inl (.inl hb)), _, 40, rfl, rfl, true, bt (by rw [List.length_map]; omega), iteT ?_⟩
    exact ⟨v, rfl, .ref b, rfl, v, .ref b, M, L, rfl, hv, hu, hM, hL, by omega, fun H' p ex hp => ⟨rfl, q H' ex⟩⟩
def spNLife : Sp := fun vs H Q _ => ∃ (v u : V) (M : Mach) (L : List Nat), vs = [v, u] ∧ MachR H v M ∧ LifeR H u L ∧ okM M ∧ okL M 0 L ∧ L.length ≤ 40 ∧ ∀ H', Ex H H' → Q .non H'
abbrev N19 : List Str := ["machine", "value"]
theorem sc19 : FnScope N19 ["machine", "value"] (defScope (top 19)) := ⟨rfl, rfl, rfl, by decide +kernel, rfl, by decide +kernel, by decide +kernel⟩
theorem ok_nlife (D : Df K mg "need_life" (top 19) ["machine", "value"]) (CL : Cal P w K mg base "is_life" 3 ["machine", "value"] spLife) : Cal P w K mg base "need_life" 4 ["machine", "value"] spNLife := by
  refine D.ok sc19 (fun vs H Q E h => ?_) (fun f cdv A outer s H vs Q E hr h => ?_)
  · obtain ⟨v, u, M, L, rfl, _⟩ := h
    rfl
  · obtain ⟨v, u, M, L, rfl, hv, hu, hM, hL, hlen, q⟩ := h
    refine ⟨_, (pss_one (ps_if (pt_not (pt_val (CL.pe hr (pa_cons (pv 0) (pa_cons (pv 1) pa_nil))))) (pss_one ps_never) pss_nil)), ?_⟩
    exact ⟨v, rfl, u, rfl, v, u, M, L, rfl, hv, hu, hM, hL, hlen, fun H' ex => ⟨true, rfl, iteF (q H' ex)⟩⟩
/-! ### state_behind -/
def spBeh : Sp := fun vs H Q _ => ∃ (v u : V) (M : Mach) (L : List Nat), vs = [v, u] ∧ MachR H v M ∧ LifeR H u L ∧ okM M ∧ okL M 0 L ∧ L.length ≤ 100 ∧ ∀ H', Ex H H' → Q (nV (endS M 0 L)) H'
abbrev N20 : List Str := ["machine", "life"]
theorem sc20 : FnScope N20 ["machine", "life"] (defScope (top 20)) := ⟨rfl, rfl, rfl, by decide +kernel, rfl, by decide +kernel, by decide +kernel⟩
theorem ok_beh (D : Df K mg "state_behind" (top 20) ["machine", "life"]) (CY : Cal P w K mg base "way_of" 2 ["machine", "life"] spWay) : Cal P w K mg base "state_behind" 3 ["machine", "life"] spBeh := by
  refine D.ok sc20 (fun vs H Q E h => ?_) (fun f cdv A outer s H vs Q E hr h => ?_)
  · obtain ⟨v, u, M, L, rfl, _⟩ := h
    rfl
  · obtain ⟨v, u, M, L, rfl, hv, hu, hM, hL, hlen, q⟩ := h
    refine ⟨_, (pss_one (ps_ret (pe_ix ix_list (CY.pe hr (pa_cons (pv 0) (pa_cons (pv 1) pa_nil))) (pe_un un_neg pe_int) (fun _ _ => rfl)))), ?_⟩
    obtain ⟨pre, ep⟩ := path_last M L 0
    refine ⟨v, rfl, u, rfl, v, u, M, L, rfl, hv, hu, hM, hL, hlen, fun H' p ex hp => ⟨1, rfl, p, _, -1, nV (endS M 0 L), rfl, rfl, .inl (.inl hp), ?_, q H' ex⟩⟩
    rw [ep, List.map_append]
    exact atI_last _ _
/-! ### word_of -/
def spWOf : Sp := fun vs H Q _ => ∃ (v u : V) (M : Mach) (L : List Nat) (o : Nat), vs = [v, u] ∧ MachR H v M ∧ LifeR H u (L ++ [o]) ∧ okM M ∧ okL M 0 (L ++ [o]) ∧ L.length ≤ 100 ∧ ∀ H', Ex H H' → Q (wV (opt M (endS M 0 L) o).2) H'
abbrev N21 : List Str := ["machine", "life"]
theorem sc21 : FnScope N21 ["machine", "life"] (defScope (top 21)) := ⟨rfl, rfl, rfl, by decide +kernel, rfl, by decide +kernel, by decide +kernel⟩
theorem ok_wof (D : Df K mg "word_of" (top 21) ["machine", "life"]) (CS : Cal P w K mg base "state_behind" 3 ["machine", "life"] spBeh) : Cal P w K mg base "word_of" 4 ["machine", "life"] spWOf := by
  refine D.ok sc21 (fun vs H Q E h => ?_) (fun f cdv A outer s H vs Q E hr h => ?_)
  · obtain ⟨v, u, M, L, o, rfl, _⟩ := h
    rfl
  · obtain ⟨v, u, M, L, o, rfl, ⟨a, us, rfl, ha, hus⟩, hu, hM, hL, hlen, q⟩ := h
    obtain ⟨b, rfl, hb⟩ := nat_tup hu
    have hL' := (okL_append M L [o] 0).mp hL
    have hlt := endS_lt hM L 0 hM.pos hL'.1
    obtain ⟨b2, vs, e2, hb2, hvs⟩ := at_state hus hlt
    obtain ⟨b3, e3, hb3⟩ := at_opt hvs hL'.2.1
    refine ⟨_, (pss_cons (ps_if (pt_cmpR (op_eqD hr.units) (pv 1) (pe_tup pa_nil) (nomark _)) (pss_one (ps_ret pe_non)) pss_nil)
      (pss_one (ps_ret (pe_ix ix_tup (pe_ix ix_tup (pe_ix ix_tup (pv 0) (CS.pe hr (pa_cons (pv 0) (pa_cons (pe_slice sl_tupA (pv 1) po_none (po_some (pe_un un_neg pe_int))) pa_nil))) (fun _ _ => rfl)) (pe_ix ix_tup (pv 1) (pe_un un_neg pe_int) (fun _ _ => rfl)) (fun _ _ => rfl)) pe_int (fun _ _ => rfl))))), ?_⟩
    refine ⟨.ref b, rfl, Nat.zero_le _, fun t nt => ?_⟩
    have ex1 : Ex H (upd H t (.tup [])) := Ex.new nt
    refine eq_empty (R := NatR) (f := fun n => .int (n : Int)) nat_dp (fun _ _ => ⟨rfl, Nat.zero_le _⟩) (ex1.tp b _ hb) (nat_all2 _) upd_same ⟨_, rfl, ?_⟩
    rw [show (L ++ [o]).isEmpty = false by cases L <;> rfl]
    refine iteF ?_
    · refine ⟨.ref a, rfl, .ref a, rfl, .ref b, rfl, 1, rfl, -1, rfl, sl_init (ex1.tp b _ hb) fun H2 u2 ex2 hu2 => ?_⟩
      have ex12 := ex1.trans ex2
      refine ⟨.ref a, u2, M, L, rfl, ⟨a, us, rfl, ex12.tp a _ ha, hus.mono fun _ _ => TupOf.mono OptR.mono _ _ _ _ ex12.tp⟩, hu2, hM, hL'.1, hlen, fun H3 ex3 => ?_⟩
      have ex := ex12.trans ex3
      refine ⟨a, us, _, _, rfl, rfl, ex.tp.sqt ha, atI_nat e2, .ref b, rfl, 1, rfl, b, _, -1, nV o, rfl, rfl, ex.tp.sqt hb, by rw [List.map_append]; exact atI_last _ _, b2, vs, _, _, rfl, rfl, ex.tp.sqt hb2, atI_nat e3, b3, _, 1, _, rfl, rfl, ex.tp.sqt hb3, atI_nat (j := 1) rfl, q H3 ex⟩
end
end DB

set_option Elab.async false
set_option linter.all false
set_option maxRecDepth 100000
set_option maxHeartbeats 4000000
/-! end_of, words_of. -/
namespace DC
open PySem PySem.Spec PyProof.Rows L2 HR MG TX DA DB
section
variable {P : Program} {w : World} {K : PySem.W.Frag} {mg : Str → Option Value} {base : Heap}
/-! ### end_of -/
def spEnd (T : List Addr) : Sp := fun vs H Q _ => ∃ (v u : V) (M : Mach) (L : List Nat), vs = [v, u] ∧ MachR H v M ∧ LifeR H u L ∧ okM M ∧ okL M 0 L ∧ L.length ≤ 40 ∧ TT T H ∧ ∀ H', Ex H H' → Q (nV (endS M 0 L)) H'
abbrev N22 : List Str := ["machine", "life"]
theorem sc22 : FnScope N22 ["machine", "life"] (defScope (top 22)) := ⟨rfl, rfl, rfl, by decide +kernel, rfl, by decide +kernel, by decide +kernel⟩
theorem ok_end {T : List Addr} (D : Df K mg "end_of" (top 22) ["machine", "life"]) (CM : Cal P w K mg base "need_machine" 6 ["value"] (spMach T)) (CD : Cal P w K mg base "need_life" 4 ["machine", "value"] spNLife) (CS : Cal P w K mg base "state_behind" 3 ["machine", "life"] spBeh) :
    Cal P w K mg base "end_of" 7 ["machine", "life"] (spEnd T) := by
  refine D.ok sc22 (fun vs H Q E h => ?_) (fun f cdv A outer s H vs Q E hr h => ?_)
  · obtain ⟨v, u, M, L, rfl, _⟩ := h
    rfl
  · obtain ⟨v, u, M, L, rfl, hv, hu, hM, hL, hlen, tt, q⟩ := h
    refine ⟨_, (pss_cons (ps_expr (CM.pe hr (pa_cons (pv 0) pa_nil)))
      (pss_cons (ps_expr (CD.pe hr (pa_cons (pv 0) (pa_cons (pv 1) pa_nil))))
      (pss_one (ps_ret (CS.pe hr (pa_cons (pv 0) (pa_cons (pv 1) pa_nil))))))), ?_⟩
    refine ⟨v, rfl, v, M, rfl, hv, hM, tt, fun H1 ex1 => ?_⟩
    have hv1 := MachR.mono _ _ _ _ ex1.tp hv
    have hu1 := LifeR.mono _ _ _ _ ex1.tp hu
    refine ⟨v, rfl, u, rfl, v, u, M, L, rfl, hv1, hu1, hM, hL, hlen, fun H2 ex2 => ?_⟩
    exact ⟨v, rfl, u, rfl, v, u, M, L, rfl, MachR.mono _ _ _ _ ex2.tp hv1, LifeR.mono _ _ _ _ ex2.tp hu1, hM, hL, by omega, fun H3 ex3 => q H3 ((ex1.trans ex2).trans ex3)⟩
/-! ### words_of -/
def wk (M : Mach) (L : List Nat) (j : Nat) : Option Str := (opt M (endS M 0 (L.take j)) (L.getD j 0)).2
theorem wds_take {M : Mach} {L : List Nat} {j : Nat} (h : j < L.length) : wds M 0 (L.take (j + 1)) = wds M 0 (L.take j) ++ (wk M L j).toList := by
  have e : L[j]? = some (L.getD j 0) := by
    rw [List.getD_eq_getElem?_getD, List.getElem?_eq_getElem h]
    rfl
  rw [take_snoc e, wds_snoc]
  rfl
def spWords (T : List Addr) : Sp := fun vs H Q _ => ∃ (v u : V) (M : Mach) (L : List Nat), vs = [v, u] ∧ MachR H v M ∧ LifeR H u L ∧ okM M ∧ okL M 0 L ∧ L.length ≤ 40 ∧ TT T H ∧ ∀ H' y, Ex H H' → TupOf StrR H' y (wds M 0 L) → Q y H'
abbrev N23 : List Str := ["machine", "life", "words", "many", "word"]
theorem sc23 : FnScope N23 ["machine", "life"] (defScope (top 23)) := ⟨rfl, rfl, rfl, by decide +kernel, rfl, by decide +kernel, by decide +kernel⟩
theorem ok_words {T : List Addr} (G : G0 mg) (D : Df K mg "words_of" (top 23) ["machine", "life"]) (CM : Cal P w K mg base "need_machine" 6 ["value"] (spMach T)) (CD : Cal P w K mg base "need_life" 4 ["machine", "value"] spNLife) (CW : Cal P w K mg base "word_of" 4 ["machine", "life"] spWOf) :
    Cal P w K mg base "words_of" 7 ["machine", "life"] (spWords T) := by
  refine D.ok sc23 (fun vs H Q E h => ?_) (fun f cdv A outer s H vs Q E hr h => ?_)
  · obtain ⟨v, u, M, L, rfl, _⟩ := h
    rfl
  · obtain ⟨v, u, M, L, rfl, hv, hu, hM, hL, hlen, tt, q⟩ := h
    obtain ⟨b, rfl, hb⟩ := nat_tup hu
    refine ⟨_, (pss_cons (ps_expr (CM.pe hr (pa_cons (pv 0) pa_nil)))
      (pss_cons (ps_expr (CD.pe hr (pa_cons (pv 0) (pa_cons (pv 1) pa_nil))))
      (pss_cons (ps_setLc (i := 2) (own := [("many", 3)]) rfl sc23.nd rfl rfl (sw_true rfl rfl rfl (by decide +kernel)) (pi_range1 (by rfl) G.range (pa_cons (len_s G (pv 1)) pa_nil)) (blkOk_by (N := N23) (sc := defScope (top 23)) (by decide +kernel)) (fun _ _ _ _ _ => (pg_name (i := 3) sc23.nd rfl (Or.inl rfl))) (fun _ _ _ _ _ => pts_nil) (fun _ _ _ _ _ => (CW.pe hr (pa_cons (pv 0) (pa_cons (pe_slice (sl_tupAK (K := K) rfl) (pv 1) po_none (po_some (pe_op op_add (pv 3) pe_int))) pa_nil)))))
      (pss_one (ps_ret (pe_callTy call_tuple_of (by rfl) G.tuple b_tuple (pa_cons (pe_lc (own := [("word", 4)]) rfl sc23.nd (pi_list (pv 2)) (blkOk_by (N := N23) (sc := defScope (top 23)) (by decide +kernel)) (fun _ _ _ _ _ => (pg_name (i := 4) sc23.nd rfl (Or.inl rfl))) (fun _ _ _ _ _ => (pts_one (pt_cmpR op_notN (pv 4) pe_non (nomark _)))) (fun _ _ _ _ _ => (pv 4))) pa_nil))))))), ?_⟩
    refine ⟨v, rfl, v, M, rfl, hv, hM, tt, fun H1 ex1 => ?_⟩
    have hv1 := MachR.mono _ _ _ _ ex1.tp hv
    have hu1 := LifeR.mono _ _ _ _ ex1.tp hu
    refine ⟨v, rfl, .ref b, rfl, v, .ref b, M, L, rfl, hv1, hu1, hM, hL, hlen, fun H2 ex2 => ?_⟩
    have ex12 := ex1.trans ex2
    refine ⟨.ref b, rfl, b, _, rfl, .inr (ex12.tp.sqt hb), L.length, by rw [List.length_map], by omega, by omega, fun D1 nD1 => ?_⟩
    refine lc_it walk_range (fun k H' => Ex H H' ∧ H' D1 = some (.lst ((List.range k).map fun j => wV (wk M L j)))) ⟨ex12.lay nD1, upd_same⟩ (fun _ _ _ _ => True.intro) (fun k x H3 H4 hk h hy => ?_) fun H3 h => ?_
    · obtain ⟨rfl, rfl⟩ := hy
      obtain ⟨ex3, hD⟩ := h
      have e : L[k]? = some (L.getD k 0) := by
        rw [List.getD_eq_getElem?_getD, List.getElem?_eq_getElem hk]
        rfl
      refine ⟨rfl, v, rfl, .ref b, rfl, _, rfl, _, 1, rfl, rfl, _, rfl, ?_⟩
      rw [show (0 : Int) + (k : Int) + 1 = ((k + 1 : Nat) : Int) by omega]
      refine sl_to (ex3.tp b _ hb) fun H4 u2 ex4 hu2 => ?_
      have ex34 := ex3.trans ex4
      rw [take_snoc e] at hu2
      refine ⟨v, u2, M, L.take k, L.getD k 0, rfl, MachR.mono _ _ _ _ ex34.tp hv, hu2, hM, by rw [← take_snoc e]; exact okL_take hL _, by rw [List.length_take]; omega, fun H5 ex5 => ?_⟩
      have ex45 := ex4.trans ex5
      refine ⟨_, ex45.lst hD, by rw [List.length_map, List.length_range]; exact small1000 (by omega), (ex34.trans ex5).set (ex12.free nD1), ?_⟩
      rw [upd_same, List.range_succ, List.map_append]
      rfl
    · obtain ⟨ex3, hD⟩ := h
      refine ⟨.ref D1, rfl, D1, rfl, ⟨_, .inl (.inl hD)⟩, fun D2 nD2 => ?_⟩
      refine lc_it (walk_list (K := K) (a := D1) (xs := (List.range L.length).map fun j => wV (wk M L j))) (fun k H' => Ex H3 H' ∧ H' D2 = some (.lst ((wds M 0 (L.take k)).map V.str))) ⟨Ex.new nD2, upd_same⟩ (fun i H' _ h => h.1.seq (.inl (.inl hD))) (fun k x H4 H5 hk h hy => ?_) fun H4 h => ?_
      · obtain ⟨rfl, hx⟩ := hy
        obtain ⟨ex4, hD2⟩ := h
        have hk : k < L.length := by simpa using hk
        rw [List.getElem?_map, List.getElem?_range hk] at hx
        cases (Option.some.inj hx : wV (wk M L k) = x)
        refine ⟨rfl, wV (wk M L k), rfl, rfl, ?_⟩
        cases hw : wk M L k with
        | none =>
          refine ⟨false, rfl, iteF ⟨ex4, ?_⟩⟩
          rw [wds_take hk, hw]
          simpa using hD2
        | some z =>
          refine ⟨true, rfl, iteT ⟨_, rfl, _, hD2, ?_, ex4.set nD2, ?_⟩⟩
          · have := (wds_ok hM (L.take k) 0 (okL_take hL k)).1
            rw [List.length_map]
            rw [List.length_take] at this
            exact small1000 (by omega)
          · rw [upd_same, wds_take hk, hw, List.map_append]
            rfl
      · obtain ⟨ex4, hD2⟩ := h
        rw [show (List.map (fun j => wV (wk M L j)) (List.range L.length)).length = L.length by simp, List.take_of_length_le (Nat.le_refl _)] at hD2
        exact ⟨D2, _, rfl, .inl ⟨.inl (.inl hD2), fun l nl => q _ _ ((ex3.trans ex4).lay nl) (str_mk upd_same)⟩⟩
end
end DC

set_option Elab.async false
set_option linter.all false
set_option maxRecDepth 100000
set_option maxHeartbeats 4000000
/-! gathered_options. -/
namespace DD
open PySem PySem.Spec PyProof.Rows L2 HR MG TX DA DB DC
/-- the heap without o -/
def hid (H : Hp) (o : Addr) : Hp := fun b => if b = o then none else H b
theorem hid_at (H : Hp) (o : Addr) : hid H o o = none := if_pos rfl
theorem hid_ne {H : Hp} {o b : Addr} (h : b ≠ o) : hid H o b = H b := if_neg h
theorem hid_ex (H : Hp) (o : Addr) : Ex (hid H o) H := by
  refine ⟨fun b u e _ => ?_, fun b ps e => ?_⟩
  · by_cases hb : b = o
    · rw [hb, hid_at] at e
      cases e
    · rw [hid_ne hb] at e
      exact e
  · by_cases hb : b = o
    · rw [hb, hid_at] at e
      cases e
    · rw [hid_ne hb] at e
      exact ⟨ps, e, fun t => t⟩
theorem ex_hid {H H1 : Hp} {o : Addr} (h : Ex H H1) (n : H o = none) : Ex H (hid H1 o) := by
  refine ⟨fun b u e t => ?_, fun b ps e => ?_⟩
  · rw [hid_ne (ne_of_none e n)]
    exact h.keep b u e t
  · rw [hid_ne (ne_of_none e n)]
    exact h.tab b ps e
theorem tp_hid {H : Hp} {o : Addr} {xs : List V} (e : H o = some (.lst xs)) : Tp H (hid H o) := fun b ys z => by
  rw [hid_ne (fun q => by rw [q, e] at z; cases z)]
  exact z
/-- t + u -/
theorem cat_tup {α : Type} {R : Rl α} {K : PySem.W.Frag} {H : Hp} {a b : Addr} {vs ws : List V} {xs ys : List α} {Q : VK} (m : Mono R) (ha : H a = some (.tup vs)) (h1 : All2 (R H) vs xs) (hb : H b = some (.tup ws)) (h2 : All2 (R H) ws ys) (hz : xs.length + ys.length ≤ 1000)
    (q : ∀ H' v, Ex H H' → TupOf R H' v (xs ++ ys) → Q v H') : rCatA K (.ref a) (.ref b) H Q := by
  have l1 := h1.len
  have l2 := h2.len
  refine ⟨a, b, vs, ws, rfl, rfl, .inl (.inl ha), .inl (.inl hb), sm1k (by omega), fun e => ?_, fun _ e => ?_, fun _ _ p np => ?_⟩
  · have e2 := h1.nil_iff.mp e
    rw [e2] at q
    exact q H _ (Ex.refl H) ⟨b, ws, rfl, hb, h2⟩
  · have e2 := h2.nil_iff.mp e
    rw [e2, List.append_nil] at q
    exact q H _ (Ex.refl H) ⟨a, vs, rfl, ha, h1⟩
  · exact q _ _ (Ex.new np) (TupOf.new m np (h1.append h2))
abbrev GR : Rl MG.G := TripOf LifeR NatR (TupOf StrR)
theorem GR.mono : Mono GR := TripOf.mono LifeR.mono NatR.mono (TupOf.mono StrR.mono)
section
variable {P : Program} {w : World} {K : PySem.W.Frag} {mg : Str → Option Value} {base : Heap}
/-- nothing is promised -/
abbrev spNone : Sp := fun _ _ _ _ => False
theorem cal_none {x : Str} {st : Stmt} {ps : List Str} (D : Df K mg x st ps) : Cal P w K mg base x 0 ps spNone := by
  obtain ⟨f, fd, F, hm, b⟩ := D
  exact ⟨f, fd, hm, F.kp, b, ⟨fun _ _ _ _ h => h.elim, fun _ _ _ _ _ _ _ _ _ _ _ _ _ h => h.elim⟩⟩
/-! ### gathered_options -/
def spGO (n : Nat) : Sp := fun vs H Q _ => ∃ (v : V) (M : Mach) (s : Nat), vs = [v, nV s, nV n] ∧ MachR H v M ∧ okM M ∧ (∀ st ∈ M, st.length ≤ 2) ∧ s < M.length ∧ n ≤ 3 ∧ ∀ H' p, Ex H H' → H p = none → LstAt GR H' p (gopt M n s) → Q (.ref p) H'
def spGR : Nat → Sp
  | 0 => spNone
  | n + 1 => spGO n
theorem said_if {σ : L2.St} {H : Hp} {Q : VK} {i : Nat} {w : Option Str} (h : σ[i]? = some (some (wV w))) (q : ∀ H3 sd, Ex H H3 → TupOf StrR H3 sd w.toList → Q sd H3) :
    tIf (tTest (tOp (fun x y H Q => y = V.non ∧ Q (V.bl (decide (x = V.non))) H) (tVar i) (tC V.non))) (tTup tNil) (tTup (tCons (tVar i) tNil)) σ H Q := by
  refine ⟨_, h, rfl, _, rfl, ?_⟩
  cases w with
  | none => exact iteT ⟨Nat.zero_le _, fun t nt => q _ _ (Ex.new nt) ⟨t, [], rfl, upd_same, .nil⟩⟩
  | some z => exact iteF ⟨_, h, sm1k (n := 1) (by decide), fun t nt => q _ _ (Ex.new nt) ⟨t, [.str z], rfl, upd_same, .cons rfl .nil⟩⟩
abbrev N26 : List Str := ["machine", "state", "many", "found", "option", "after", "word", "said", "options", "end", "words"]
theorem sc26 : FnScope N26 ["machine", "state", "many"] (defScope (top 26)) := ⟨rfl, rfl, rfl, by decide +kernel, rfl, by decide +kernel, by decide +kernel⟩
theorem one_g {H : Hp} {s : Nat} {Q : VK} (q : ∀ H' p, Ex H H' → H p = none → LstAt GR H' p [([], s, [])] → Q (.ref p) H') : ∀ t1, H t1 = none → ∀ t2, upd H t1 (.tup []) t2 = none → ∀ t3, upd (upd H t1 (.tup [])) t2 (.tup []) t3 = none → ∀ l, upd (upd (upd H t1 (.tup [])) t2 (.tup [])) t3 (.tup [.ref t1, nV s, .ref t2]) l = none →
    Q (.ref l) (upd (upd (upd (upd H t1 (.tup [])) t2 (.tup [])) t3 (.tup [.ref t1, nV s, .ref t2])) l (.lst [.ref t3])) := fun t1 n1 t2 n2 t3 n3 l nl => by
  have x1 := Ex.new (o := .tup []) n1
  have x2 := Ex.new (o := .tup []) n2
  have x3 := Ex.new (o := .tup [.ref t1, nV s, .ref t2]) n3
  have x4 := Ex.new (o := .lst [.ref t3]) nl
  refine q _ _ (((x1.trans x2).trans x3).trans x4) (((x1.trans x2).trans x3).free nl) ⟨[.ref t3], upd_same, .cons ⟨t3, _, _, _, rfl, x4.tp _ _ upd_same, ?_, rfl, ?_⟩ .nil⟩
  · exact ⟨t1, [], rfl, ((x2.trans x3).trans x4).tp _ _ upd_same, .nil⟩
  · exact ⟨t2, [], rfl, (x3.trans x4).tp _ _ upd_same, .nil⟩
theorem ok_go (n : Nat) (G : G0 mg) (D : Df K mg "gathered_options" (top 26) ["machine", "state", "many"]) (CR : Cal P w K mg base "gathered_options" n ["machine", "state", "many"] (spGR n)) : Cal P w K mg base "gathered_options" (n + 1) ["machine", "state", "many"] (spGO n) := by
  refine D.ok sc26 (fun vs H Q E h => ?_) (fun f cdv A outer s0 H vs Q E hr h => ?_)
  · obtain ⟨v, M, s, rfl, _⟩ := h
    rfl
  · obtain ⟨v, M, s, rfl, ⟨a, us, rfl, ha, hus⟩, hM, h2, hs, hn, q⟩ := h
    obtain ⟨b, vs, e2, hb, hvs⟩ := at_state hus hs
    refine ⟨_, (pss_cons (ps_if (PW.pt (pw_or (pt_cmpR op_eq (pv 2) pe_int (nomark _)) (pw_or1 (pt_not (pt_truth (pe_ix ix_tup (pv 0) (pv 1) (fun _ _ => rfl)) (by intro _; rfl)))))) (pss_one (ps_ret (pe_lst (pa_cons (pe_tup (pa_cons (pe_tup pa_nil) (pa_cons (pv 1) (pa_cons (pe_tup pa_nil) pa_nil)))) pa_nil)))) pss_nil)
      (pss_cons (ps_set (i := 3) sc26.nd rfl (.inl rfl) (pe_lst pa_nil))
      (pss_cons (ps_for PassesOwn.never rfl (EnT.pi_enumT (by rfl) G.enum (pa_cons (pe_ix ix_tup (pv 0) (pv 1) (fun _ _ => rfl)) pa_nil)) (pg_tup rfl (pgs_cons (pg_name (i := 4) sc26.nd rfl (Or.inl rfl)) (pgs_cons (pg_tup rfl (pgs_cons (pg_name (i := 5) sc26.nd rfl (Or.inl rfl)) (pgs_cons (pg_name (i := 6) sc26.nd rfl (Or.inl rfl)) pgs_nil))) pgs_nil)))
      (pss_cons (ps_set (i := 7) sc26.nd rfl (.inl rfl) (pe_ifExp (pt_cmpR op_isN (pv 6) pe_non (nomark _)) (pe_tup pa_nil) (pe_tup (pa_cons (pv 6) pa_nil))))
      (pss_one (ps_for PassesOwn.never rfl (pi_list (CR.pe hr (pa_cons (pv 0) (pa_cons (pv 5) (pa_cons (pe_op op_sub (pv 2) pe_int) pa_nil))))) (pg_tup rfl (pgs_cons (pg_name (i := 8) sc26.nd rfl (Or.inl rfl)) (pgs_cons (pg_name (i := 9) sc26.nd rfl (Or.inl rfl)) (pgs_cons (pg_name (i := 10) sc26.nd rfl (Or.inl rfl)) pgs_nil))))
      (pss_one (ps_expr (pe_bm PySem.F.plainAttrs_list PySem.F.slot_list_append PySem.F.type_list_append mt_append (pv 3) (pa_cons (pe_tup (pa_cons (pe_op op_catA (pe_tup (pa_cons (pv 4) pa_nil)) (pv 8)) (pa_cons (pv 9) (pa_cons (pe_op op_catA (pv 7) (pv 10)) pa_nil)))) pa_nil))))))))
      (pss_one (ps_ret (pv 3)))))), ?_⟩
    refine ⟨nV n, rfl, rfl, _, rfl, ite2 (fun e => ?_) (fun e => ?_)⟩
    · have hn0 : n = 0 := by
        have := V.int.inj (of_decide_eq_true e)
        omega
      subst hn0
      refine iteT ⟨Nat.zero_le _, fun t1 n1 => ⟨nV s, rfl, Nat.zero_le _, fun t2 n2 => ⟨sm1k (n := 3) (by decide), fun t3 n3 => ⟨sm1k (n := 1) (by decide), fun l nl => ?_⟩⟩⟩⟩
      exact one_g q t1 n1 t2 n2 t3 n3 l nl
    · obtain ⟨m, rfl⟩ : ∃ m, n = m + 1 := by
        cases n with
        | zero => exact absurd (decide_eq_true rfl) e
        | succ m => exact ⟨m, rfl⟩
      refine ⟨.ref a, rfl, nV s, rfl, a, us, _, _, rfl, rfl, .inl (.inl ha), atI_nat e2, _, .inr (.inl ⟨_, .inl (.inl hb), rfl⟩), ?_⟩
      by_cases hst : stt M s = []
      · have hv0 := hvs.nil_iff.mpr hst
        subst hv0
        refine iteT ⟨Nat.zero_le _, fun t1 n1 => ⟨nV s, rfl, Nat.zero_le _, fun t2 n2 => ⟨sm1k (n := 3) (by decide), fun t3 n3 => ⟨sm1k (n := 1) (by decide), fun l nl => ?_⟩⟩⟩⟩
        have eg : gopt M (m + 1) s = [([], s, [])] := if_pos hst
        rw [eg] at q
        exact one_g q t1 n1 t2 n2 t3 n3 l nl
      · have hv0 : vs.isEmpty = false := by
          cases vs with
          | nil => exact absurd (hvs.nil_iff.mp rfl) hst
          | cons _ _ => rfl
        rw [hv0]
        refine iteF ⟨Nat.zero_le _, fun o no => ?_⟩
        have hst2 : stt M s ∈ M := stt_in hs
        have hlen2 := h2 _ hst2
        have eg : gopt M (m + 1) s = gfl (gopt M m) 0 (stt M s) := if_neg hst
        rw [eg] at q
        have ex0 : Ex H (upd H o (.lst [])) := Ex.new no
        refine ⟨.ref a, rfl, nV s, rfl, a, us, _, _, rfl, rfl, ex0.tp.sqt ha, atI_nat e2, b, vs, rfl, ex0.tp.sqt hb, ?_⟩
        refine for_it EnT.walk_enumT (fun i σ H' => ∃ y4 y5 y6 y7 y8 y9 y10, σ = [some (.ref a), some (nV s), some (nV (m + 1)), some (.ref o), y4, y5, y6, y7, y8, y9, y10] ∧ Ex H H' ∧ LstAt GR H' o (gfl (gopt M m) 0 ((stt M s).take i))) ⟨_, _, _, _, _, _, _, rfl, ex0, LstAt.new⟩
          (fun i σ H' _ ⟨_, _, _, _, _, _, _, _, h, _⟩ => h.tp.sqt hb) (fun i x σ H1 H2 hi h hy => ?_) fun σ H' h => ?_
        · obtain ⟨y4, y5, y6, y7, y8, y9, y10, rfl, ex1, fs, hfs, hall⟩ := h
          obtain ⟨T2, x1, x2, rfl, nT, rfl, e3, e4⟩ := hy
          cases (Option.some.inj e3 : V.int (i : Nat) = x1)
          have hi' : i < (stt M s).length := by rw [← hvs.len]; exact hi
          obtain ⟨b3, e5, hb3⟩ := at_opt hvs hi'
          have e4' : vs[i]? = some x2 := e4
          rw [e5] at e4'
          cases (Option.some.inj e4' : V.ref b3 = x2)
          have exT : Ex H1 (upd H1 T2 (.tup [.int (i : Nat), .ref b3])) := Ex.new nT
          refine ⟨T2, _, rfl, .inl (.inl upd_same), rfl, _, _, rfl, _, _, rfl, b3, _, rfl, (ex1.trans exT).tp.sqt hb3, rfl, _, _, rfl, _, _, rfl, rfl, rfl, ?_⟩
          generalize upd H1 T2 (.tup [.int (i : Nat), .ref b3]) = H2 at exT ⊢
          have ex2 := ex1.trans exT
          have hn2 : nxt M s i < M.length := hM.nxt hi'
          have hfs2 := exT.lst hfs
          have hall2 : All2 (GR H2) fs (gfl (gopt M m) 0 ((stt M s).take i)) := hall.mono fun _ _ => GR.mono _ _ _ _ exT.tp
          refine said_if (w := (opt M s i).2) rfl fun H3 sd ex3 hsd => ?_
          have ex23 := ex2.trans ex3
          have hfs3 := ex3.lst hfs2
          have hall3 : All2 (GR H3) fs (gfl (gopt M m) 0 ((stt M s).take i)) := hall2.mono fun _ _ => GR.mono _ _ _ _ ex3.tp
          refine ⟨.ref a, rfl, nV (nxt M s i), rfl, nV (m + 1), rfl, _, 1, rfl, rfl, .ref a, M, nxt M s i, ?_, MachR.mono _ _ _ _ ex23.tp ⟨a, us, rfl, ha, hus⟩, hM, h2, hn2, by omega, fun H4 p ex4 np hp => ?_⟩
          · show [V.ref a, nV (nxt M s i), V.int ((((m + 1 : Nat) : Int)) - 1)] = _
            rw [show (((m + 1 : Nat) : Int)) - 1 = (m : Int) by omega]
          · obtain ⟨ps, hps, hpall⟩ := hp
            have ex24 := ex23.trans ex4
            have hfs4 := ex4.lst hfs3
            have po : p ≠ o := fun z => by
              rw [z, hfs3] at np
              cases np
            have hall4 : All2 (GR (hid H4 o)) fs (gfl (gopt M m) 0 ((stt M s).take i)) := hall3.mono fun _ _ => GR.mono _ _ _ _ (ex4.tp.trans (tp_hid hfs4))
            have hp4 : All2 (GR (hid H4 o)) ps (gopt M m (nxt M s i)) := hpall.mono fun _ _ => GR.mono _ _ _ _ (tp_hid hfs4)
            have hsd4 : TupOf StrR (hid H4 o) sd (opt M s i).2.toList := TupOf.mono StrR.mono _ _ _ _ (ex4.tp.trans (tp_hid hfs4)) hsd
            have hps4 : hid H4 o p = some (.lst ps) := by
              rw [hid_ne po]
              exact hps
            have exo : Ex H (hid H4 o) := ex_hid ex24 no
            refine ⟨p, rfl, ⟨_, .inl (.inl hps)⟩, ?_⟩
            refine for_it (walk_list (K := K) (a := p) (xs := ps)) (fun j σ H' => ∃ y8 y9 y10, σ = [some (.ref a), some (nV s), some (nV (m + 1)), some (.ref o), some (nV i), some (nV (nxt M s i)), some (wV (opt M s i).2), some sd, y8, y9, y10] ∧ Ex (hid H4 o) H' ∧
              LstAt GR H' o (gfl (gopt M m) 0 ((stt M s).take i) ++ ((gopt M m (nxt M s i)).take j).map (MG.pre i (opt M s i)))) ⟨_, _, _, rfl, hid_ex _ _, fs, hfs4, ?_⟩ (fun j σ H' _ ⟨_, _, _, _, h, _⟩ => h.seq (.inl (.inl hps4))) (fun j x σ H5 H6 hj h hy => ?_) fun σ H5 h => ?_
            · simpa using hall4.mono fun _ _ => GR.mono _ _ _ _ (hid_ex H4 o).tp
            · obtain ⟨y8, y9, y10, rfl, ex5, gs, hgs, hgall⟩ := h
              obtain ⟨rfl, hx⟩ := hy
              obtain ⟨g, hg, hxg⟩ := hp4.getL hx
              obtain ⟨i1, i2, i3, i4⟩ := gopt_is M m _ g (List.mem_of_getElem? hg)
              have i5 := (wds_ok hM g.1 _ i1).1
              rw [i3] at i5
              obtain ⟨t, u, w', z, rfl, ht, ⟨bu, uvs, rfl, hbu, huvs⟩, hw', ⟨bz, zvs, rfl, hbz, hzvs⟩⟩ := hxg
              cases (hw' : w' = _)
              obtain ⟨bs, svs, rfl, hbs, hsvs⟩ := hsd4
              have tol : (opt M s i).2.toList.length ≤ 1 := by cases (opt M s i).2 <;> simp
              refine ⟨t, _, rfl, .inl (.inl (ex5.tp _ _ ht)), rfl, _, _, rfl, _, _, rfl, _, _, rfl, rfl, ?_⟩
              refine ⟨.ref o, rfl, .inl ⟨rfl, _, .inl (.inl hgs)⟩, nV i, rfl, sm1k (n := 1) (by decide), fun t1 nt1 => ?_⟩
              have ex6 : Ex H6 (upd H6 t1 (.tup [nV i])) := Ex.new nt1
              refine ⟨.ref bu, rfl, cat_tup (R := NatR) (xs := [i]) (ys := g.1) NatR.mono upd_same (.cons rfl .nil) ((ex5.trans ex6).tp _ _ hbu) huvs (by simp; omega) fun H7 cv ex7 hcv => ?_⟩
              have ex57 := (ex5.trans ex6).trans ex7
              refine ⟨_, rfl, .ref bs, rfl, .ref bz, rfl, cat_tup (R := StrR) (xs := (opt M s i).2.toList) (ys := g.2.2) StrR.mono (ex57.tp _ _ hbs) hsvs (ex57.tp _ _ hbz) hzvs (by omega) fun H8 wv ex8 hwv => ?_⟩
              refine ⟨sm1k (n := 3) (by decide), fun t3 nt3 => ?_⟩
              have ex9 : Ex H8 (upd H8 t3 (.tup [cv, nV g.2.1, wv])) := Ex.new nt3
              have ex69 := ((ex6.trans ex7).trans ex8).trans ex9
              have hgs9 := ex69.lst hgs
              refine ⟨o, gs, _, rfl, rfl, hgs9, ?_, ?_⟩
              · rw [hgall.len, List.length_append, List.length_map, List.length_take]
                have b1 := gfl_len (gopt M m) (n := 2 ^ m) ((stt M s).take i) 0 fun e _ => gopt_len h2 m e.1
                have b2 := gopt_len h2 m (nxt M s i)
                rw [List.length_take] at b1
                have b3 : 2 ^ m ≤ 2 ^ 2 := Nat.pow_le_pow_right (by decide) (by omega)
                have b4 : min i (stt M s).length * 2 ^ m ≤ 2 * 4 := Nat.mul_le_mul (by omega) b3
                exact small1000 (by omega)
              · refine ⟨_, _, _, rfl, (ex5.trans ex69).set (hid_at _ _), ?_⟩
                have e9 := LstAt.app (R := GR) (x := MG.pre i (opt M s i) g) GR.mono hgs9 (hgall.mono fun _ _ => GR.mono _ _ _ _ ex69.tp) (v := .ref t3) ⟨t3, _, _, _, rfl, upd_same, LifeR.mono _ _ _ _ (ex8.trans ex9).tp hcv, rfl, TupOf.mono StrR.mono _ _ _ _ ex9.tp hwv⟩
                rw [take_snoc hg, List.map_append, ← List.append_assoc]
                exact e9
            · obtain ⟨y8, y9, y10, rfl, ex5, hl5⟩ := h
              rw [hp4.len, List.take_of_length_le (Nat.le_refl _)] at hl5
              refine ⟨_, _, _, _, _, _, _, rfl, exo.trans ex5, ?_⟩
              rw [gfl_take _ (opt_at hi')]
              exact hl5
        · obtain ⟨y4, y5, y6, y7, y8, y9, y10, rfl, ex1, hl⟩ := h
          rw [hvs.len, List.take_of_length_le (Nat.le_refl _)] at hl
          exact ⟨.ref o, rfl, q H' o ex1 no hl⟩
theorem go_all (G : G0 mg) (D : Df K mg "gathered_options" (top 26) ["machine", "state", "many"]) : ∀ n, Cal P w K mg base "gathered_options" (n + 1) ["machine", "state", "many"] (spGO n)
  | 0 => ok_go 0 G D (cal_none D)
  | n + 1 => ok_go (n + 1) G D (go_all G D n)
end
end DD

set_option Elab.async false
set_option linter.all false
set_option maxRecDepth 100000
set_option maxHeartbeats 4000000
/-! gathered. -/
namespace DE
open PySem PySem.Spec PyProof.Rows L2 HR MG TX DA DB DC DD
abbrev StR : Rl (List Opt) := TupOf OptR
theorem StR.mono : Mono StR := TupOf.mono OptR.mono
abbrev LgR : Rl (Nat × Str) := PairOf NatR StrR
theorem LgR.mono : Mono LgR := PairOf.mono NatR.mono StrR.mono
section
variable {P : Program} {w : World} {K : PySem.W.Frag} {mg : Str → Option Value} {base : Heap}
def spGath (T : List Addr) : Sp := fun vs H Q _ => ∃ (v : V) (M : Mach) (k : Nat), vs = [v, nV k] ∧ MachR H v M ∧ okM M ∧ (∀ st ∈ M, st.length ≤ 2) ∧ 1 ≤ k ∧ k ≤ 3 ∧ (∀ st ∈ gath M k, st.length ≤ 6) ∧ (∀ st ∈ gath M k, ∀ e ∈ st, ∀ z, e.2 = some z → z.length ≤ 8) ∧ TT T H ∧
  ∀ H' y, Ex H H' → MachR H' y (gath M k) → Q y H'
abbrev N27 : List Str := ["machine", "many", "found", "state", "options", "end", "words", "word", "_"]
theorem sc27 : FnScope N27 ["machine", "many"] (defScope (top 27)) := ⟨rfl, rfl, rfl, by decide +kernel, rfl, by decide +kernel, by decide +kernel⟩
theorem lst_all {α : Type} {R : Rl α} {H : Hp} {a : Addr} {xs : List α} (h : LstAt R H a xs) : ∃ vs, H a = some (.lst vs) ∧ All2 (R H) vs xs := h
theorem ok_gath {c0 P0 : Addr} {T : List Addr} (G : G0 mg) (D : DfC K mg "gathered" (top 27) ["machine", "many"] c0) (TB : GxR.TabB base mg c0 P0) (hP : P0 ∈ T) (CM : Cal P w K mg base "need_machine" 6 ["value"] (spMach T)) (CN : Cal P w K mg base "need_number" 2 ["value", "low", "high"] spNeed)
    (Cg : ∀ n, Cal P w K mg base "gathered_options" (n + 1) ["machine", "state", "many"] (spGO n)) : Cal P w K mg base "gathered" 8 ["machine", "many"] (spGath T) := by
  obtain ⟨_, gGa⟩ := G.gath
  obtain ⟨_, gOp⟩ := G.opts
  obtain ⟨_, gLe⟩ := G.lets
  refine D.ok sc27 (fun vs H Q E h => ?_) (fun f A outer s0 H vs Q E hr h => ?_)
  · obtain ⟨v, M, k, rfl, _⟩ := h
    rfl
  · obtain ⟨v, M, k, rfl, ⟨a, us, rfl, ha, hus⟩, hM, h2, k1, k3, hc, hw, tt, q⟩ := h
    have CG := (Cg k).mono (show k + 1 ≤ 4 by omega)
    have hlM := hus.len
    have p2 := hM.most
    refine ⟨_, (pss_cons (ps_expr (CM.pe hr (pa_cons (pv 0) pa_nil)))
      (pss_cons (ps_expr (CN.pe hr (pa_cons (pv 1) (pa_cons pe_int (pa_cons (pe_glob (v := .int 3) rfl gGa ⟨_, rfl⟩) pa_nil)))))
      (pss_cons (ps_set (i := 2) sc27.nd rfl (.inl rfl) (pe_lst pa_nil))
      (pss_cons (ps_for PassesOwn.never rfl (pi_range1 (by rfl) G.range (pa_cons (len_s G (pv 0)) pa_nil)) (pg_name (i := 3) sc27.nd rfl (Or.inl rfl))
      (pss_cons (ps_if (pt_not (pt_truth (pe_ix ix_tup (pv 0) (pv 3) (fun _ _ => rfl)) (by intro _; rfl))) (pss_cons (ps_expr (pe_bm PySem.F.plainAttrs_list PySem.F.slot_list_append PySem.F.type_list_append mt_append (pv 2) (pa_cons (pe_tup pa_nil) pa_nil)))
      (pss_one ps_continue)) pss_nil)
      (pss_cons (ps_setLc (i := 4) (own := [("_", 8), ("end", 5), ("words", 6)]) rfl sc27.nd rfl rfl (sw_true rfl rfl rfl (by decide +kernel)) (pi_list (CG.pe hr (pa_cons (pv 0) (pa_cons (pv 3) (pa_cons (pv 1) pa_nil))))) (blkOk_by (N := N27) (sc := defScope (top 27)) (by decide +kernel)) (fun _ _ _ _ _ => (tupK (K := K) (n := 3) rfl rfl (pgs_cons (pg_name (i := 8) sc27.nd rfl (Or.inl rfl)) (pgs_cons (pg_name (i := 5) sc27.nd rfl (Or.inl rfl)) (pgs_cons (pg_name (i := 6) sc27.nd rfl (Or.inl rfl)) pgs_nil))))) (fun _ _ _ _ _ => pts_nil) (fun _ _ _ _ _ => (pe_tup (pa_cons (pv 5) (pa_cons (joinK (K := K) rfl pe_str (pv 6)) pa_nil)))))
      (pss_one (ps_expr (pe_bm PySem.F.plainAttrs_list PySem.F.slot_list_append PySem.F.type_list_append mt_append (pv 2) (pa_cons (pe_callTy call_tuple_of (by rfl) G.tuple b_tuple (pa_cons (pe_lc (own := [("end", 5), ("word", 7)]) rfl sc27.nd (pi_list (pv 4)) (blkOk_by (N := N27) (sc := defScope (top 27)) (by decide +kernel)) (fun _ _ _ _ _ => (tupK (K := K) (n := 2) rfl rfl (pgs_cons (pg_name (i := 5) sc27.nd rfl (Or.inl rfl)) (pgs_cons (pg_name (i := 7) sc27.nd rfl (Or.inl rfl)) pgs_nil)))) (fun _ _ _ _ _ => pts_nil) (fun _ _ _ _ _ => (pe_tup (pa_cons (pv 5) (pa_cons (pe_ifExp (truthK (K := K) rfl (pv 7) (by intro _; rfl)) (pv 7) pe_non) pa_nil))))) pa_nil)) pa_nil)))))))
      (pss_cons (ps_if (pt_cmpR op_gt (pe_callB (cr_max rfl) (by rfl) G.max b_max (pa_cons (pe_lc (own := [("state", 3)]) rfl sc27.nd (pi_list (pv 2)) (blkOk_by (N := N27) (sc := defScope (top 27)) (by decide +kernel)) (fun _ _ _ _ _ => (pg_name (i := 3) sc27.nd rfl (Or.inl rfl))) (fun _ _ _ _ _ => pts_nil) (fun _ _ _ _ _ => (len_sK (K := K) rfl G (pv 3)))) pa_nil)) (pe_glob (v := .int 6) rfl gOp ⟨_, rfl⟩) (nomark _)) (pss_one ps_never) pss_nil)
      (pss_cons (ps_for PassesOwn.never rfl (pi_list (pv 2)) (pg_name (i := 3) sc27.nd rfl (Or.inl rfl))
      (pss_one (ps_if (pt_val (GA.pe_anyG (own := [("_", 8), ("word", 7)]) hr rfl sc27.nd (by rfl) G.any TB rfl rfl (by decide +kernel) (by decide +kernel) (blkOk_by (N := N27) (sc := defScope (top 27)) (by decide +kernel)) (pi_tup (pv 3)) (fun _ _ _ _ _ _ _ => (tupK (K := K) (n := 2) rfl rfl (pgs_cons (pg_name (i := 8) sc27.nd rfl (Or.inl rfl)) (pgs_cons (pg_name (i := 7) sc27.nd rfl (Or.inl rfl)) pgs_nil)))) (fun _ _ _ _ _ _ _ => (pe_and (pe_cmpR op_notN (pv 7) pe_non (nomark _)) (pe_one (pe_cmpR op_gt (len_t G (pv 7)) (pe_glob (v := .int 8) rfl gLe ⟨_, rfl⟩) (nomark _))))) (fun _ => rfl))) (pss_one ps_never) pss_nil)))
      (pss_one (ps_ret (pe_callTy call_tuple_of (by rfl) G.tuple b_tuple (pa_cons (pv 2) pa_nil)))))))))), ?_⟩
    refine ⟨.ref a, rfl, .ref a, M, rfl, ⟨a, us, rfl, ha, hus⟩, hM, tt, fun H1 ex1 => ?_⟩
    refine ⟨nV k, rfl, _, _, _, rfl, by omega, by omega, ?_⟩
    refine ⟨Nat.zero_le _, fun o no => ?_⟩
    have ex2 : Ex H (upd H1 o (.lst [])) := ex1.lay no
    have nHo := ex1.free no
    refine ⟨.ref a, rfl, a, us, rfl, .inr (ex2.tp.sqt ha), us.length, rfl, by omega, by omega, ?_⟩
    refine for_it walk_range (fun i σ H' => ∃ y3 y4 y5 y6 y7 y8, σ = [some (.ref a), some (nV k), some (.ref o), y3, y4, y5, y6, y7, y8] ∧ Ex H H' ∧ LstAt StR H' o ((List.range i).map (gst M k))) ⟨_, _, _, _, _, _, rfl, ex2, LstAt.new⟩ (fun _ _ _ _ _ => True.intro) (fun i x σ H3 H4 hi h hy => ?_) fun σ H3 h => ?_
    · obtain ⟨y3, y4, y5, y6, y7, y8, rfl, ex3, fs, hfs, hfa⟩ := h
      obtain ⟨rfl, hx⟩ := hy
      have hx' : x = nV i := by rw [hx]; show V.int (0 + (i : Int)) = V.int (i : Int); rw [Int.zero_add]
      subst hx'
      have hi' : i < M.length := by omega
      obtain ⟨b, vs, e2, hb, hvs⟩ := at_state hus hi'
      have hfl : fs.length ≤ 40 := by
        rw [hfa.len, List.length_map, List.length_range]
        omega
      refine ⟨.ref a, rfl, nV i, rfl, a, us, _, _, rfl, rfl, ex3.tp.sqt ha, atI_nat e2, _, .inr (.inl ⟨_, ex3.tp.sqt hb, rfl⟩), ?_⟩
      by_cases hst : stt M i = []
      · have hv0 := hvs.nil_iff.mpr hst
        subst hv0
        have eg : gst M k i = [] := if_pos hst
        refine iteT ⟨.ref o, rfl, .inl ⟨rfl, _, .inl (.inl hfs)⟩, Nat.zero_le _, fun t nt => ?_⟩
        have ext : Ex H4 (upd H4 t (.tup [])) := Ex.new nt
        refine ⟨o, fs, _, rfl, rfl, ext.lst hfs, small1000 (by omega), ?_⟩
        refine ⟨_, _, _, _, _, _, rfl, (ex3.trans ext).set nHo, ?_⟩
        rw [List.range_succ, List.map_append]
        exact LstAt.app (R := StR) StR.mono (ext.lst hfs) (hfa.mono fun _ _ => StR.mono _ _ _ _ ext.tp) (by rw [eg]; exact ⟨t, [], rfl, upd_same, .nil⟩)
      · have hv0 : vs.isEmpty = false := by
          cases vs with
          | nil => exact absurd (hvs.nil_iff.mp rfl) hst
          | cons _ _ => rfl
        rw [hv0]
        have eg : gst M k i = (gopt M k i).map fun g => (g.2.1, wo (cat g.2.2)) := if_neg hst
        have gl8 : (gopt M k i).length ≤ 8 := by
          have b2 := gopt_len h2 k i
          have b3 : 2 ^ k ≤ 2 ^ 3 := Nat.pow_le_pow_right (by decide) (by omega)
          omega
        refine iteF ⟨.ref a, rfl, nV i, rfl, nV k, rfl, .ref a, M, i, rfl, MachR.mono _ _ _ _ ex3.tp ⟨a, us, rfl, ha, hus⟩, hM, h2, hi', k3, fun H5 p ex5 np hp => ?_⟩
        obtain ⟨ps, hps, hpa⟩ := hp
        refine ⟨p, rfl, ⟨_, .inl (.inl hps)⟩, fun D1 nD1 => ?_⟩
        refine lc_it (walk_list (K := K) (a := p) (xs := ps)) (fun j H' => Ex H5 H' ∧ LstAt LgR H' D1 (((gopt M k i).take j).map gl)) ⟨Ex.new nD1, LstAt.new⟩ (fun _ H' _ h => h.1.seq (.inl (.inl hps))) (fun j x H6 H7 hj h hy => ?_) fun H6 h => ?_
        · obtain ⟨rfl, hx⟩ := hy
          obtain ⟨ex6, ds, hds, hda⟩ := h
          obtain ⟨g, hg, hxg⟩ := hpa.getL hx
          obtain ⟨i1, i2, i3, i4⟩ := gopt_is M k _ g (List.mem_of_getElem? hg)
          have i5 := wds_ok hM g.1 _ i1
          rw [i3] at i5
          obtain ⟨t, u, w', z, rfl, ht, hu, hw', hz⟩ := hxg
          cases (hw' : w' = _)
          obtain ⟨bz, rfl, hbz⟩ := str_tup hz
          refine ⟨t, _, rfl, .inl (.inl (ex6.tp _ _ ht)), rfl, _, _, rfl, _, _, rfl, _, _, rfl, rfl, rfl, ?_⟩
          refine ⟨nV g.2.1, rfl, ⟨_, rfl⟩, .ref bz, rfl, _, bz, g.2.2, rfl, rfl, .inr (ex6.tp.sqt hbz), ?_, ?_⟩
          · have := cat_len g.2.2 i5.2
            rw [sum_len]
            show _ + _ * 0 ≤ _
            omega
          · rw [txt_join]
            refine ⟨sm1k (n := 2) (by decide), fun t2 nt2 => ?_⟩
            have ex7 := Ex.new (o := .tup [nV g.2.1, .str (cat g.2.2)]) nt2
            refine ⟨ds, ex7.lst hds, ?_, (ex6.trans ex7).set nD1, ?_⟩
            · rw [hda.len, List.length_map, List.length_take]
              exact small1000 (by omega)
            · rw [take_snoc hg, List.map_append]
              exact LstAt.app (R := LgR) LgR.mono (ex7.lst hds) (hda.mono fun _ _ => LgR.mono _ _ _ _ ex7.tp) ⟨t2, _, _, rfl, upd_same, rfl, rfl⟩
        · obtain ⟨ex6, hl⟩ := h
          rw [hpa.len, List.take_of_length_le (Nat.le_refl _)] at hl
          obtain ⟨ds, hds, hda⟩ := hl
          have ex46 := ex5.trans ex6
          refine ⟨.ref o, rfl, .inl ⟨rfl, _, .inl (.inl (ex46.lst hfs))⟩, .ref D1, rfl, D1, rfl, ⟨_, .inl (.inl hds)⟩, fun D2 nD2 => ?_⟩
          refine lc_it (walk_list (K := K) (a := D1) (xs := ds)) (fun j H' => Ex H6 H' ∧ LstAt OptR H' D2 (((gopt M k i).take j).map fun g => (g.2.1, wo (cat g.2.2)))) ⟨Ex.new nD2, LstAt.new⟩ (fun _ H' _ h => h.1.seq (.inl (.inl hds))) (fun j x H7 H8 hj h hy => ?_) fun H7 h => ?_
          · obtain ⟨rfl, hx⟩ := hy
            obtain ⟨ex7, gs, hgs, hga⟩ := h
            obtain ⟨gg, hgg, hxg⟩ := hda.getL hx
            rw [List.getElem?_map] at hgg
            obtain ⟨g, hg, rfl⟩ := Option.map_eq_some_iff.mp hgg
            obtain ⟨i1, i2, i3, i4⟩ := gopt_is M k _ g (List.mem_of_getElem? hg)
            have i5 := wds_ok hM g.1 _ i1
            rw [i3] at i5
            have i6 := cat_len g.2.2 i5.2
            obtain ⟨t, u, w', rfl, ht, hu, hw'⟩ := hxg
            cases (hu : u = nV g.2.1)
            cases (hw' : w' = .str (cat g.2.2))
            have fin : ∀ (y : V), y = wV (wo (cat g.2.2)) → 2 ≤ sizeLine ∧ ∀ t2, H8 t2 = none → ∃ acc, (upd H8 t2 (.tup [nV g.2.1, y])) D2 = some (.lst acc) ∧ acc.length < sizeLine ∧ Ex H6 (upd (upd H8 t2 (.tup [nV g.2.1, y])) D2 (.lst (acc ++ [.ref t2]))) ∧ LstAt OptR (upd (upd H8 t2 (.tup [nV g.2.1, y])) D2 (.lst (acc ++ [.ref t2]))) D2 (((gopt M k i).take (j + 1)).map fun g => (g.2.1, wo (cat g.2.2))) := fun y hyw => by
              refine ⟨sm1k (n := 2) (by decide), fun t2 nt2 => ?_⟩
              have ex8 := Ex.new (o := .tup [nV g.2.1, y]) nt2
              refine ⟨gs, ex8.lst hgs, ?_, (ex7.trans ex8).set nD2, ?_⟩
              · rw [hga.len, List.length_map, List.length_take]
                exact small1000 (by omega)
              · rw [take_snoc hg, List.map_append]
                exact LstAt.app (R := OptR) OptR.mono (ex8.lst hgs) (hga.mono fun _ _ => OptR.mono _ _ _ _ ex8.tp) ⟨t2, _, _, rfl, upd_same, rfl, hyw⟩
            refine ⟨t, _, rfl, .inl (.inl (ex7.tp _ _ ht)), rfl, _, _, rfl, _, _, rfl, rfl, rfl, ?_⟩
            refine ⟨nV g.2.1, rfl, .str (cat g.2.2), rfl, _, ⟨sm1k (by omega), rfl⟩, ?_⟩
            by_cases hz : (cat g.2.2).length = 0
            · rw [show (((cat g.2.2).length : Int) != 0) = false by rw [hz]; rfl]
              exact iteF (fin .non (by unfold wo; rw [if_pos hz]; rfl))
            · rw [show (((cat g.2.2).length : Int) != 0) = true by rw [bne_iff_ne]; omega]
              exact iteT ⟨_, rfl, fin _ (by unfold wo; rw [if_neg hz]; rfl)⟩
          · obtain ⟨ex7, hl⟩ := h
            rw [hda.len, List.length_map, List.take_of_length_le (Nat.le_refl _), ← eg] at hl
            obtain ⟨gs, hgs, hga⟩ := hl
            refine ⟨D2, _, rfl, .inl ⟨.inl (.inl hgs), fun l nl => ?_⟩⟩
            have ex8 := Ex.new (o := .tup gs) nl
            have ex48 := (ex46.trans ex7).trans ex8
            refine ⟨o, fs, _, rfl, rfl, ex48.lst hfs, small1000 (by omega), ?_⟩
            refine ⟨_, _, _, _, _, _, rfl, (ex3.trans ex48).set nHo, ?_⟩
            rw [List.range_succ, List.map_append]
            exact LstAt.app (R := StR) StR.mono (ex48.lst hfs) (hfa.mono fun _ _ => StR.mono _ _ _ _ ex48.tp) (TupOf.new OptR.mono nl hga)
    · obtain ⟨y3, y4, y5, y6, y7, y8, rfl, ex3, fs, hfs, hfa⟩ := h
      rw [hlM] at hfa
      have hfa : All2 (StR H3) fs (gath M k) := hfa
      have hgl := gath_len M k
      have hfl : fs.length ≤ 40 := by
        rw [hfa.len]
        omega
      refine ⟨.ref o, rfl, o, rfl, ⟨_, .inl (.inl hfs)⟩, fun D3 nD3 => ?_⟩
      refine lc_it (walk_list (K := K) (a := o) (xs := fs)) (fun j H' => Ex H3 H' ∧ H' D3 = some (.lst (((gath M k).take j).map fun st => V.int (st.length : Int)))) ⟨Ex.new nD3, upd_same⟩ (fun _ H' _ h => h.1.seq (.inl (.inl hfs))) (fun j x H4 H5 hj h hy => ?_) fun H4 h => ?_
      · obtain ⟨rfl, hx⟩ := hy
        obtain ⟨ex4, hD⟩ := h
        obtain ⟨st, hst, b, vs, rfl, hb, hvs⟩ := hfa.getL hx
        refine ⟨rfl, .ref b, rfl, b, vs, rfl, .inr (ex4.tp.sqt hb), _, hD, ?_, ex4.set nD3, ?_⟩
        · rw [List.length_map, List.length_take]
          exact small1000 (by omega)
        · rw [upd_same, take_snoc hst, List.map_append, hvs.len]
          rfl
      · obtain ⟨ex4, hD⟩ := h
        rw [hfa.len, List.take_of_length_le (Nat.le_refl _)] at hD
        refine ⟨D3, (gath M k).map fun st => (st.length : Int), rfl, .inl (.inl (by rw [List.map_map]; exact hD)), by rw [List.length_map, hgl]; exact hM.pos, fun m hm _ => ?_⟩
        obtain ⟨st, hst, rfl⟩ := List.mem_map.mp hm
        have h6 := hc st hst
        refine ⟨_, 6, rfl, rfl, false, bf (by omega), iteF ?_⟩
        refine ⟨.ref o, rfl, o, rfl, ⟨_, .inl (.inl (ex4.lst hfs))⟩, ?_⟩
        refine for_it (walk_list (K := K) (a := o) (xs := fs)) (fun j σ H' => ∃ y3 y4 y5 y6 y7 y8, σ = [some (.ref a), some (nV k), some (.ref o), y3, y4, y5, y6, y7, y8] ∧ Ex H3 H') ⟨_, _, _, _, _, _, rfl, ex4⟩ (fun _ _ H' _ ⟨_, _, _, _, _, _, _, h⟩ => h.seq (.inl (.inl hfs))) (fun j x σ H5 H6 hj h hy => ?_) fun σ H5 h => ?_
        · obtain ⟨y3, y4, y5, y6, y7, y8, rfl, ex5⟩ := h
          obtain ⟨rfl, hx⟩ := hy
          obtain ⟨st, hst, b, vs, rfl, hb, hvs⟩ := hfa.getL hx
          have tt5 := (tt.ex (ex3.trans ex5)) P0 hP
          refine ⟨.ref b, rfl, b, rfl, ⟨_, ex5.tp.sqt hb⟩, tt5, fun H7 ht => ?_⟩
          refine gen_it (stop := true) (walk_tup (K := K)) (fun i H' => Ex H3 H') (ex5.trans (Ex.tabbed tt5 ht)) (fun i H' _ h => h.tp.sqt hb) (fun i x H8 H9 hi ex8 hy => ?_) fun H8 ex8 => ?_
          · obtain ⟨rfl, hx⟩ := hy
            obtain ⟨e, he, t, u, w', rfl, ht, hu, hw'⟩ := hvs.getL hx
            cases (hw' : w' = wV e.2)
            refine ⟨t, _, rfl, ex8.tp.sqt ht, rfl, _, _, rfl, _, _, rfl, rfl, keepS (keep1 (by simp)) (by simp), ?_⟩
            refine ⟨wV e.2, rfl, rfl, _, rfl, ?_⟩
            cases hz : e.2 with
            | none => exact iteF ⟨false, rfl, iteF ex8⟩
            | some z =>
              have h8 := hw st (List.mem_of_getElem? hst) e (List.mem_of_getElem? he) z hz
              refine iteT ⟨.str z, rfl, z, rfl, sm1k (by omega), _, 8, rfl, rfl, false, bf (by omega), iteF ex8⟩
          · exact ⟨false, rfl, iteF ⟨_, _, _, _, _, _, rfl, ex8⟩⟩
        · obtain ⟨y3, y4, y5, y6, y7, y8, rfl, ex5⟩ := h
          exact ⟨.ref o, rfl, o, fs, rfl, .inl ⟨.inl (.inl (ex5.lst hfs)), fun l nl => q _ _ ((ex3.trans ex5).lay nl) (TupOf.new StR.mono nl (hfa.mono fun _ _ => StR.mono _ _ _ _ ex5.tp))⟩⟩
end
end DE

set_option Elab.async false
set_option linter.all false
set_option maxRecDepth 100000
set_option maxHeartbeats 4000000
/-! _law_taken, _law_pick, _law_state_behind, _law_life. -/
namespace DF
open PySem PySem.Spec PyProof.Rows L2 HR MG TX DA DB DC DD DE
/-- the row list at r over the script at a -/
def Row (a : Addr) (H : Hp) (r : Addr) : Prop := ∃ i x y : Int, H r = some (.lst [.ref a, .int i, .int x, .int y]) ∧ 0 ≤ i ∧ 0 ≤ x ∧ x < 2147483648
theorem Row.ne {a r o : Addr} {H : Hp} (h : Row a H r) (n : H o = none) : o ≠ r := fun e => by
  obtain ⟨_, _, _, h, _⟩ := h
  rw [e, h] at n
  cases n
theorem Row.ex {a r : Addr} {H H' : Hp} (h : Row a H r) (e : Ex H H') : Row a H' r :=
  let ⟨i, x, y, h1, h2⟩ := h
  ⟨i, x, y, e.lst h1, h2⟩
theorem Row.put {a r o : Addr} {u : HO} {H : Hp} (h : Row a H r) (n : o ≠ r) : Row a (upd H o u) r :=
  let ⟨i, x, y, h1, h2⟩ := h
  ⟨i, x, y, by rw [upd_ne n.symm]; exact h1, h2⟩
theorem sq_hid {K : PySem.W.Frag} {a r : Addr} {H : Hp} {ns : List Int} (h : SqL K H a (ns.map V.int)) (k : Row a H r) : SqL K (hid H r) a (ns.map V.int) := by
  obtain ⟨i, x, y, h1, _⟩ := k
  rcases h with (h | ⟨o, h⟩) | h
  · refine .inl (.inl ?_)
    rw [hid_ne (fun e => ?_)]
    · exact h
    · rw [e, h1] at h
      have h' := HO.lst.inj (Option.some.inj h)
      cases ns <;> simp at h'
  · refine .inl (.inr ⟨o, ?_⟩)
    rw [hid_ne (fun e => by rw [e, h1] at h; cases h)]
    exact h
  · exact .inr h
theorem er_trans {r : Addr} {H H1 H2 : Hp} (h : Ex (hid H r) H1) (k : Ex (hid H1 r) H2) : Ex (hid H r) H2 := (ex_hid h (hid_at H r)).trans k
theorem er_tp {a r : Addr} {H H1 : Hp} (k : Row a H r) (h : Ex (hid H r) H1) : Tp H H1 := by
  obtain ⟨_, _, _, h1, _⟩ := k
  exact (tp_hid h1).trans h.tp
theorem er_keep {r b : Addr} {o : HO} {H H1 : Hp} (h : Ex (hid H r) H1) (n : b ≠ r) (e : H b = some o) (t : isTbl o = false) : H1 b = some o := h.keep b o (by rw [hid_ne n]; exact e) t
section
variable {P : Program} {w : World} {K : PySem.W.Frag} {mg : Str → Option Value} {base : Heap}
def spTaken (K : PySem.W.Frag) : Sp := fun vs H Q _ => ∃ (r a : Addr) (ns : List Int) (m : Nat), vs = [.ref r, nV m] ∧ 0 < m ∧ m ≤ 1000 ∧ SqL K H a (ns.map V.int) ∧ Row a H r ∧ ∀ H' t, Ex (hid H r) H' → Row a H' r → t < m → Q (nV t) H'
abbrev N29 : List Str := ["_law_row", "_law_many", "_law_found", "_law_cell"]
theorem sc29 : FnScope N29 ["_law_row", "_law_many"] (defScope (top 29)) := ⟨rfl, rfl, rfl, by decide +kernel, rfl, by decide +kernel, by decide +kernel⟩
theorem ok_taken (G : G0 mg) (D : Df K mg "_law_taken" (top 29) ["_law_row", "_law_many"]) : Cal P w K mg base "_law_taken" 1 ["_law_row", "_law_many"] (spTaken K) := by
  refine D.ok sc29 (fun vs H Q E h => ?_) (fun f cdv A outer s0 H vs Q E hr h => ?_)
  · obtain ⟨r, a, ns, m, rfl, _⟩ := h
    rfl
  · obtain ⟨r, a, ns, m, rfl, m0, m1, hS, hR, q⟩ := h
    have hS' := sq_hid hS hR
    obtain ⟨i, x, y, hrow, i0, x0, x1⟩ := hR
    have q' : ∀ H' (t : Int), Ex (hid H r) H' → Row a H' r → 0 ≤ t → t < m → Q (.int t) H' := fun H' t e1 e2 t0 t1 => by
      have := q H' t.toNat e1 e2 (by omega)
      rw [show nV t.toNat = V.int t by show V.int ((t.toNat : Nat) : Int) = _; rw [Int.toNat_of_nonneg t0]] at this
      exact this
    have mm : ∀ z : Int, 0 ≤ z % (m : Int) ∧ z % (m : Int) < m := fun z => ⟨Int.emod_nonneg _ (by omega), Int.emod_lt_of_pos _ (by omega)⟩
    have mx : ∀ z : Int, 0 ≤ z % 2147483647 ∧ z % 2147483647 < 2147483648 := fun z => by
      have h1 := Int.emod_nonneg z (show (2147483647 : Int) ≠ 0 by decide)
      have h2 := Int.emod_lt_of_pos z (show (0 : Int) < 2147483647 by decide)
      omega
    refine ⟨_, (pss_cons (ps_if (pt_cmpR op_gt (pe_ix ix_list (pv 0) pe_int (fun _ _ => rfl)) pe_int (nomark _)) (pss_cons (ps_set (i := 2) sc29.nd rfl (.inl rfl) (pe_op op_mod (pe_callTy call_int1 (by rfl) G.int b_int (pa_cons (pe_ix ix_list (pv 0) pe_int (fun _ _ => rfl)) pa_nil)) (pv 1)))
      (pss_cons (ps_asg (pe_op op_fdiv (pe_ix ix_list (pv 0) pe_int (fun _ _ => rfl)) (pv 1)) (pg_sub (pv 0) pe_int set_list))
      (pss_one (ps_ret (pv 2))))) pss_nil)
      (pss_cons (ps_asg (pe_op op_add (pe_ix ix_list (pv 0) pe_int (fun _ _ => rfl)) pe_int) (pg_sub (pv 0) pe_int set_list))
      (pss_cons (ps_if (pt_cmpR op_gt (pe_ix ix_list (pv 0) pe_int (fun _ _ => rfl)) (len_s G (pe_ix ix_list (pv 0) pe_int (fun _ _ => rfl))) (nomark _)) (pss_cons (ps_asg (pe_op op_mod (pe_callTy call_int1 (by rfl) G.int b_int (pa_cons (pe_op op_add (pe_op op_mul (pe_ix ix_list (pv 0) pe_int (fun _ _ => rfl)) pe_int) pe_int) pa_nil)) pe_int) (pg_sub (pv 0) pe_int set_list))
      (pss_one (ps_ret (pe_op op_mod (pe_callTy call_int1 (by rfl) G.int b_int (pa_cons (pe_op op_fdiv (pe_ix ix_list (pv 0) pe_int (fun _ _ => rfl)) pe_int) pa_nil)) (pv 1))))) pss_nil)
      (pss_cons (ps_set (i := 3) sc29.nd rfl (.inl rfl) (pe_ix ix_list (pe_ix ix_list (pv 0) pe_int (fun _ _ => rfl)) (pe_op op_sub (pe_ix ix_list (pv 0) pe_int (fun _ _ => rfl)) pe_int) (fun _ _ => rfl)))
      (pss_cons (ps_asg (pe_op op_mod (pe_callTy call_int1 (by rfl) G.int b_int (pa_cons (pe_op op_add (pe_op op_add (pe_op op_mul (pe_ix ix_list (pv 0) pe_int (fun _ _ => rfl)) pe_int) (pv 3)) pe_int) pa_nil)) pe_int) (pg_sub (pv 0) pe_int set_list))
      (pss_cons (ps_if (pt_cmpR op_ge (pv 3) (pe_op op_pow pe_int pe_int) (nomark _)) (pss_one (ps_asg (pe_op op_fdiv (pv 3) (pv 1)) (pg_sub (pv 0) pe_int set_list))) pss_nil)
      (pss_one (ps_ret (pe_op op_mod (pe_callTy call_int1 (by rfl) G.int b_int (pa_cons (pv 3) pa_nil)) (pv 1)))))))))), ?_⟩
    refine ⟨.ref r, rfl, r, _, _, _, rfl, rfl, .inl (.inl hrow), atI_nat (j := 3) rfl, y, 0, rfl, rfl, _, rfl, ite2 (fun e => ?_) (fun e => ?_)⟩
    · refine ⟨.ref r, rfl, r, _, _, _, rfl, rfl, .inl (.inl hrow), atI_nat (j := 3) rfl, .inl ⟨y, rfl, nV m, rfl, y, m, rfl, rfl, by omega, ?_⟩⟩
      refine ⟨.ref r, rfl, r, _, _, _, rfl, rfl, .inl (.inl hrow), atI_nat (j := 3) rfl, nV m, rfl, y, m, rfl, rfl, ⟨by omega, by omega⟩, ?_⟩
      refine ⟨.ref r, rfl, r, _, 3, 3, rfl, rfl, hrow, rfl, ?_⟩
      refine ⟨.int (y % m), rfl, q' _ _ ((hid_ex H r).set (hid_at _ _)) ⟨i, x, y / m, upd_same, i0, x0, x1⟩ (mm y).1 (mm y).2⟩
    · have ex1 : Ex (hid H r) (upd H r (.lst [.ref a, .int (i + 1), .int x, .int y])) := (hid_ex H r).set (hid_at _ _)
      refine ⟨.ref r, rfl, r, _, _, _, rfl, rfl, .inl (.inl hrow), atI_nat (j := 1) rfl, i, 1, rfl, rfl, .ref r, rfl, r, _, 1, 1, rfl, rfl, hrow, rfl, ?_⟩
      have hrow1 : (upd H r (.lst [.ref a, .int (i + 1), .int x, .int y])) r = some (.lst [.ref a, .int (i + 1), .int x, .int y]) := upd_same
      show tSeq _ _ _ _ (upd H r (.lst [.ref a, .int (i + 1), .int x, .int y]))
      have hS1 := ex1.seq hS'
      generalize upd H r (.lst [.ref a, .int (i + 1), .int x, .int y]) = H1 at ex1 hrow1 hS1 ⊢
      refine ⟨.ref r, rfl, r, _, _, _, rfl, rfl, .inl (.inl hrow1), atI_nat (j := 1) rfl, .ref r, rfl, r, _, _, _, rfl, rfl, .inl (.inl hrow1), atI_nat (j := 0) rfl, a, _, rfl, .inl hS1, i + 1, _, rfl, rfl, _, rfl, ite2 (fun e => ?_) (fun e => ?_)⟩
      · refine ⟨.ref r, rfl, r, _, _, _, rfl, rfl, .inl (.inl hrow1), atI_nat (j := 2) rfl, x, 48271, rfl, rfl, .inl ⟨by omega, by omega⟩, _, 11, rfl, rfl, .inl ⟨_, rfl, _, 2147483647, rfl, rfl, show (0 : Int) < 2147483647 by decide, .ref r, rfl, r, _, 2, 2, rfl, rfl, hrow1, rfl, ?_⟩⟩
        refine ⟨.ref r, rfl, r, _, _, _, rfl, rfl, .inl (.inl upd_same), atI_nat (j := 2) rfl, _, 7, rfl, rfl, ⟨by decide, by decide⟩, .inl ⟨_, rfl, nV m, rfl, _, m, rfl, rfl, by omega, ?_⟩⟩
        exact q' _ _ (ex1.set (hid_at _ _)) ⟨i + 1, _, y, upd_same, by omega, (mx _).1, (mx _).2⟩ (mm _).1 (mm _).2
      · have hlen : i + 1 ≤ (ns.length : Int) := by
          have := of_decide_eq_false (Bool.eq_false_iff.mpr e)
          rw [List.length_map] at this
          omega
        have hi : i.toNat < ns.length := by omega
        have hat : (ns.map V.int)[i.toNat]? = some (.int ns[i.toNat]) := by
          rw [List.getElem?_map, List.getElem?_eq_getElem hi]
          rfl
        have hat2 := atI_nat hat
        generalize ns[i.toNat] = cell at hat2
        rw [show ((i.toNat : Nat) : Int) = i + 1 - 1 by omega] at hat2
        refine ⟨.ref r, rfl, r, _, _, _, rfl, rfl, .inl (.inl hrow1), atI_nat (j := 0) rfl, .ref r, rfl, r, _, _, _, rfl, rfl, .inl (.inl hrow1), atI_nat (j := 1) rfl, i + 1, 1, rfl, rfl, a, _, _, _, rfl, rfl, hS1, hat2, ?_⟩
        refine ⟨.ref r, rfl, r, _, _, _, rfl, rfl, .inl (.inl hrow1), atI_nat (j := 2) rfl, x, 48271, rfl, rfl, .inl ⟨by omega, by omega⟩, .int cell, rfl, _, cell, rfl, rfl, _, 11, rfl, rfl, .inl ⟨_, rfl, _, 2147483647, rfl, rfl, show (0 : Int) < 2147483647 by decide, .ref r, rfl, r, _, 2, 2, rfl, rfl, hrow1, rfl, ?_⟩⟩
        have hrow2 : Row a (upd H1 r (.lst [.ref a, .int (i + 1), .int ((x * 48271 + cell + 11) % 2147483647), .int y])) r := ⟨i + 1, _, y, upd_same, by omega, (mx _).1, (mx _).2⟩
        have ex2 : Ex (hid H r) (upd H1 r (.lst [.ref a, .int (i + 1), .int ((x * 48271 + cell + 11) % 2147483647), .int y])) := ex1.set (hid_at _ _)
        refine ⟨.int cell, rfl, 10, 18, rfl, rfl, ⟨by decide, by decide, by decide⟩, cell, _, rfl, rfl, _, rfl, ite2 (fun e => ?_) (fun e => ?_)⟩
        · refine ⟨.int cell, rfl, nV m, rfl, cell, m, rfl, rfl, ⟨by omega, by omega⟩, .ref r, rfl, r, _, 3, 3, rfl, rfl, upd_same, rfl, ?_⟩
          refine ⟨.int cell, rfl, .inl ⟨cell, rfl, nV m, rfl, cell, m, rfl, rfl, by omega, ?_⟩⟩
          exact q' _ _ (ex2.set (hid_at _ _)) ⟨i + 1, _, _, upd_same, by omega, (mx _).1, (mx _).2⟩ (mm _).1 (mm _).2
        · refine ⟨.int cell, rfl, .inl ⟨cell, rfl, nV m, rfl, cell, m, rfl, rfl, by omega, ?_⟩⟩
          exact q' _ _ ex2 hrow2 (mm _).1 (mm _).2
/-! ### _law_pick -/
def spPick (K : PySem.W.Frag) : Sp := fun vs H Q _ => ∃ (r a b : Addr) (ns : List Int) (xs : List V), vs = [.ref r, .ref b] ∧ 0 < xs.length ∧ xs.length ≤ 1000 ∧ H b = some (.lst xs) ∧ b ≠ r ∧ SqL K H a (ns.map V.int) ∧ Row a H r ∧ ∀ H' x, Ex (hid H r) H' → Row a H' r → x ∈ xs → Q x H'
abbrev N30 : List Str := ["_law_row", "_law_things"]
theorem sc30 : FnScope N30 ["_law_row", "_law_things"] (defScope (top 30)) := ⟨rfl, rfl, rfl, by decide +kernel, rfl, by decide +kernel, by decide +kernel⟩
theorem ok_pick (G : G0 mg) (D : Df K mg "_law_pick" (top 30) ["_law_row", "_law_things"]) (CT : Cal P w K mg base "_law_taken" 1 ["_law_row", "_law_many"] (spTaken K)) : Cal P w K mg base "_law_pick" 2 ["_law_row", "_law_things"] (spPick K) := by
  refine D.ok sc30 (fun vs H Q E h => ?_) (fun f cdv A outer s0 H vs Q E hr h => ?_)
  · obtain ⟨r, a, b, ns, xs, rfl, _⟩ := h
    rfl
  · obtain ⟨r, a, b, ns, xs, rfl, l0, l1, hb, hne, hS, hR, q⟩ := h
    refine ⟨_, (pss_one (ps_ret (pe_ix ix_list (pv 1) (CT.pe hr (pa_cons (pv 0) (pa_cons (len_s G (pv 1)) pa_nil))) (fun _ _ => rfl)))), ?_⟩
    refine ⟨.ref b, rfl, .ref r, rfl, .ref b, rfl, b, xs, rfl, .inl (.inl (.inl hb)), r, a, ns, xs.length, rfl, l0, l1, hS, hR, fun H' t ex hR' ht => ?_⟩
    refine ⟨b, xs, _, _, rfl, rfl, .inl (.inl (er_keep ex hne hb rfl)), atI_nat (List.getElem?_eq_getElem ht), q H' _ ex hR' (List.getElem_mem ht)⟩
/-! ### _law_state_behind -/
def spLBeh : Sp := fun vs H Q _ => ∃ (v u : V) (M : Mach) (L : List Nat), vs = [v, u] ∧ MachR H v M ∧ LifeR H u L ∧ okM M ∧ okL M 0 L ∧ Q (nV (endS M 0 L)) H
abbrev N34 : List Str := ["_law_machine_here", "_law_life_here", "_law_state", "_law_option"]
theorem sc34 : FnScope N34 ["_law_machine_here", "_law_life_here"] (defScope (top 34)) := ⟨rfl, rfl, rfl, by decide +kernel, rfl, by decide +kernel, by decide +kernel⟩
theorem ok_lbeh (D : Df K mg "_law_state_behind" (top 34) ["_law_machine_here", "_law_life_here"]) : Cal P w K mg base "_law_state_behind" 1 ["_law_machine_here", "_law_life_here"] spLBeh := by
  refine D.ok sc34 (fun vs H Q E h => ?_) (fun f cdv A outer s0 H vs Q E hr h => ?_)
  · obtain ⟨v, u, M, L, rfl, _⟩ := h
    rfl
  · obtain ⟨v, u, M, L, rfl, ⟨a, us, rfl, ha, hus⟩, hu, hM, hL, q⟩ := h
    obtain ⟨b, rfl, hb⟩ := nat_tup hu
    refine ⟨_, (pss_cons (ps_set (i := 2) sc34.nd rfl (.inl rfl) pe_int)
      (pss_cons (ps_for PassesOwn.never rfl (pi_tup (pv 1)) (pg_name (i := 3) sc34.nd rfl (Or.inl rfl))
      (pss_one (ps_set (i := 2) sc34.nd rfl (.inl rfl) (pe_ix ix_tup (pe_ix ix_tup (pe_ix ix_tup (pv 0) (pv 2) (fun _ _ => rfl)) (pv 3) (fun _ _ => rfl)) pe_int (fun _ _ => rfl)))))
      (pss_one (ps_ret (pv 2))))), ?_⟩
    refine ⟨.ref b, rfl, b, rfl, ⟨_, .inl (.inl hb)⟩, ?_⟩
    refine for_it (walk_tup (K := K) (a := b) (xs := L.map nV)) (fun i σ H' => ∃ y3, σ = [some (.ref a), some (.ref b), some (nV (endS M 0 (L.take i))), y3] ∧ H' = H) ⟨_, rfl, rfl⟩ (fun i σ H' _ ⟨_, _, h⟩ => by rw [h]; exact .inl (.inl hb)) (fun i x σ H1 H2 hi h hy => ?_) fun σ H' h => ?_
    · obtain ⟨y3, rfl, rfl⟩ := h
      obtain ⟨rfl, hx⟩ := hy
      have hi' : i < L.length := by simpa using hi
      have hLi : L[i]? = some L[i] := List.getElem?_eq_getElem hi'
      rw [List.getElem?_map, hLi] at hx
      cases (Option.some.inj hx : nV L[i] = x)
      have hlt := endS_lt hM (L.take i) 0 hM.pos (okL_take hL i)
      have hop := okL_at hL hLi
      obtain ⟨b2, vs, e2, hb2, hvs⟩ := at_state hus hlt
      obtain ⟨b3, e3, hb3⟩ := at_opt hvs hop
      refine ⟨.ref a, rfl, nV _, rfl, a, us, _, _, rfl, rfl, .inl (.inl ha), atI_nat e2, nV L[i], rfl, b2, vs, _, _, rfl, rfl, .inl (.inl hb2), atI_nat e3, b3, _, 0, _, rfl, rfl, .inl (.inl hb3), atI_nat (j := 0) rfl, ?_⟩
      refine ⟨some (nV L[i]), ?_, rfl⟩
      rw [take_snoc hLi, endS_snoc]
      rfl
    · obtain ⟨y3, rfl, rfl⟩ := h
      refine ⟨_, rfl, ?_⟩
      rw [List.length_map, List.take_of_length_le (Nat.le_refl _)]
      exact q
/-! ### _law_life -/
def spLLife (K : PySem.W.Frag) : Sp := fun vs H Q _ => ∃ (r a : Addr) (ns : List Int) (v : V) (M : Mach), vs = [.ref r, v, .int 4] ∧ MachR H v M ∧ okM M ∧ SqL K H a (ns.map V.int) ∧ Row a H r ∧ ∀ H' u L, Ex (hid H r) H' → Row a H' r → LifeR H' u L → okL M 0 L → L.length ≤ 4 → Q u H'
abbrev N35 : List Str := ["_law_row", "_law_machine_here", "_law_most", "_law_life_here", "_law_turn", "_law_here"]
theorem sc35 : FnScope N35 ["_law_row", "_law_machine_here", "_law_most"] (defScope (top 35)) := ⟨rfl, rfl, rfl, by decide +kernel, rfl, by decide +kernel, by decide +kernel⟩
theorem ok_llife (G : G0 mg) (D : Df K mg "_law_life" (top 35) ["_law_row", "_law_machine_here", "_law_most"]) (CT : Cal P w K mg base "_law_taken" 1 ["_law_row", "_law_many"] (spTaken K)) (CS : Cal P w K mg base "_law_state_behind" 1 ["_law_machine_here", "_law_life_here"] spLBeh) :
    Cal P w K mg base "_law_life" 2 ["_law_row", "_law_machine_here", "_law_most"] (spLLife K) := by
  refine D.ok sc35 (fun vs H Q E h => ?_) (fun f cdv A outer s0 H vs Q E hr h => ?_)
  · obtain ⟨r, a, ns, v, M, rfl, _⟩ := h
    rfl
  · obtain ⟨r, a, ns, v, M, rfl, ⟨am, us, rfl, ha, hus⟩, hM, hS, hR, q⟩ := h
    have hS' := sq_hid hS hR
    have hv' : MachR (hid H r) (.ref am) M := MachR.mono _ _ _ _ (er_tp hR (by exact Ex.refl _)) ⟨am, us, rfl, ha, hus⟩
    refine ⟨_, (pss_cons (ps_set (i := 3) sc35.nd rfl (.inl rfl) (pe_tup pa_nil))
      (pss_cons (ps_for PassesOwn.never rfl (pi_range1 (by rfl) G.range (pa_cons (CT.pe hr (pa_cons (pv 0) (pa_cons (pe_op op_add (pv 2) pe_int) pa_nil))) pa_nil)) (pg_name (i := 4) sc35.nd rfl (Or.inl rfl))
      (pss_cons (ps_set (i := 5) sc35.nd rfl (.inl rfl) (pe_ix ix_tup (pv 1) (CS.pe hr (pa_cons (pv 1) (pa_cons (pv 3) pa_nil))) (fun _ _ => rfl)))
      (pss_one (ps_if (pt_cmpR (op_neD hr.units) (pv 5) (pe_tup pa_nil) (nomark _)) (pss_one (ps_set (i := 3) sc35.nd rfl (.inl rfl) (pe_op op_catA (pv 3) (pe_tup (pa_cons (CT.pe hr (pa_cons (pv 0) (pa_cons (len_s G (pv 5)) pa_nil))) pa_nil))))) pss_nil))))
      (pss_one (ps_ret (pv 3))))), ?_⟩
    refine ⟨Nat.zero_le _, fun t nt => ?_⟩
    have ext : Ex H (upd H t (.tup [])) := Ex.new nt
    have ex0 : Ex (hid H r) (upd H t (.tup [])) := (hid_ex H r).trans ext
    have hR0 := hR.ex ext
    refine ⟨.ref r, rfl, .int 4, rfl, 4, 1, rfl, rfl, r, a, ns, 5, rfl, by decide, by decide, ex0.seq hS', hR0, fun H1 n ex1 hR1 hn => ?_⟩
    have ex01 := er_trans ex0 ex1
    refine ⟨n, rfl, by omega, by omega, ?_⟩
    refine for_it walk_range (fun i σ H' => ∃ y4 y5 u L, σ = [some (.ref r), some (.ref am), some (.int 4), some u, y4, y5] ∧ Ex (hid H r) H' ∧ Row a H' r ∧ LifeR H' u L ∧ okL M 0 L ∧ L.length ≤ i) ⟨_, _, .ref t, [], rfl, ex01, hR1, LifeR.mono _ _ _ _ (er_tp hR0 ex1) ⟨t, [], rfl, upd_same, .nil⟩, trivial, Nat.zero_le _⟩ (fun _ _ _ _ _ => True.intro) (fun i x σ H2 H3 hi h hy => ?_) fun σ H2 h => ?_
    · obtain ⟨y4, y5, u, L, rfl, ex2, hR2, hu, hL, hlen⟩ := h
      obtain ⟨rfl, rfl⟩ := hy
      have hlt := endS_lt hM L 0 hM.pos hL
      obtain ⟨b2, vs, e2, hb2, hvs⟩ := at_state hus hlt
      have tp2 := er_tp hR ex2
      have hvs2 : All2 (OptR H3) vs (stt M (endS M 0 L)) := hvs.mono fun _ _ => OptR.mono _ _ _ _ tp2
      refine ⟨.ref am, rfl, .ref am, rfl, u, rfl, .ref am, u, M, L, rfl, MachR.mono _ _ _ _ ex2.tp hv', hu, hM, hL, am, us, _, _, rfl, rfl, tp2.sqt ha, atI_nat e2, ?_⟩
      refine ⟨.ref b2, rfl, Nat.zero_le _, fun t2 nt2 => ?_⟩
      have ext2 : Ex H3 (upd H3 t2 (.tup [])) := Ex.new nt2
      refine ne_empty (R := OptR) (f := oD) opt_dp (fun e he => opt_lay e (hM.opts _ (stt_in hlt) e he).2) ((tp2.trans ext2.tp) _ _ hb2) (hvs2.mono fun _ _ => OptR.mono _ _ _ _ ext2.tp) upd_same ⟨_, rfl, ?_⟩
      have ex3 := ex2.trans ext2
      have hR3 := hR2.ex ext2
      have hu3 := LifeR.mono _ _ _ _ ext2.tp hu
      generalize upd H3 t2 (.tup []) = H4 at ex3 hR3 hu3 ext2 ⊢
      cases hst : (stt M (endS M 0 L)).isEmpty with
      | true => exact iteF ⟨_, _, u, L, rfl, ex3, hR3, hu3, hL, by omega⟩
      | false =>
        have hpos : 0 < (stt M (endS M 0 L)).length := by
          rw [List.isEmpty_eq_false_iff] at hst
          exact List.length_pos_iff.mpr hst
        have hfew := hM.few _ (stt_in hlt)
        have hl2 := hvs.len
        obtain ⟨bu, rfl, hbu⟩ := nat_tup hu3
        refine iteT ⟨.ref bu, rfl, .ref r, rfl, .ref b2, rfl, b2, vs, rfl, .inr ((tp2.trans ext2.tp).sqt hb2), r, a, ns, vs.length, rfl, by omega, by omega, ex3.seq hS', hR3, fun H5 o ex5 hR5 ho => ?_⟩
        have tp5 := er_tp hR3 ex5
        refine ⟨sm1k (n := 1) (by decide), fun t3 nt3 => ?_⟩
        have ext3 : Ex H5 (upd H5 t3 (.tup [nV o])) := Ex.new nt3
        refine cat_tup (R := NatR) (xs := L) (ys := [o]) NatR.mono ((tp5.trans ext3.tp) _ _ hbu) (nat_all2 _) upd_same (.cons rfl .nil) (by simp; omega) fun H6 u6 ex6 hu6 => ?_
        refine ⟨_, _, u6, L ++ [o], rfl, ((er_trans ex3 ex5).trans ext3).trans ex6, (hR5.ex ext3).ex ex6, hu6, (okL_append M L [o] 0).mpr ⟨hL, by omega, trivial⟩, by simp; omega⟩
    · obtain ⟨y4, y5, u, L, rfl, ex2, hR2, hu, hL, hlen⟩ := h
      exact ⟨u, rfl, q H2 u L ex2 hR2 hu hL (by omega)⟩
end
end DF

set_option Elab.async false
set_option linter.all false
set_option maxRecDepth 100000
set_option maxHeartbeats 4000000
/-! _law_machine. -/
namespace DG
open PySem PySem.Spec PyProof.Rows L2 HR MG TX DA DB DC DD DE DF
theorem least_if {σ : L2.St} {H : Hp} {Q : VK} {i7 i6 : Nat} {s w : Int} (h7 : σ[i7]? = some (some (.int s))) (h6 : σ[i6]? = some (some (.int w))) (q : ∀ c : Nat, c ≤ 1 → Q (nV c) H) :
    tCB (fun xs H Q => (∃ i, xs = [V.int i] ∧ Q (V.int i) H) ∨ ∃ k, xs = [V.bl k] ∧ Q (V.int (if k then 1 else 0)) H) (tCons (tAndV (tOp rEq (tVar i7) (tC (V.int 0))) (tOp (rI0 fun i j => .bl (decide (j < i))) (tVar i6) (tC (V.int 0)))) tNil) σ H Q := by
  refine ⟨_, h7, rfl, _, rfl, ite2 (fun _ => ⟨_, h6, w, 0, rfl, rfl, .inr ⟨_, rfl, ?_⟩⟩) (fun _ => .inr ⟨_, rfl, ?_⟩)⟩
  · by_cases hw : 0 < w
    · rw [decide_eq_true hw]
      exact q 1 (Nat.le_refl _)
    · rw [decide_eq_false hw]
      exact q 0 (Nat.zero_le _)
  · exact q 0 (Nat.zero_le _)
theorem things_if {K : PySem.W.Frag} {σ : L2.St} {H : Hp} {Q : VK} {i6 i5 : Nat} {w : Int} {b : Addr} {u : V} {ws : List V} (h6 : σ[i6]? = some (some (.int w))) (h5 : σ[i5]? = some (some (.ref b))) (hb : H b = some (.lst (u :: ws))) (hne : ws ≠ [])
    (q : ∀ H' c xs, Ex H H' → H' c = some (.lst xs) → (c = b ∨ H c = none) → 0 < xs.length → xs.length ≤ ws.length + 1 → (∀ x ∈ xs, x ∈ u :: ws) → Q (.ref c) H') :
    tIf (tTest (tOp (rI0 fun i j => V.bl (decide (i < j))) (tVar i6) (tC (V.int 2)))) (tVar i5) (tSl (rSlL K) (tVar i5) (tPart (tC (V.int 1))) tNoPart) σ H Q := by
  refine ⟨_, h6, w, 2, rfl, rfl, _, rfl, ite2 (fun _ => ⟨_, h5, ?_⟩) (fun _ => ⟨_, h5, 1, rfl, b, _, rfl, .inl (.inl hb), fun c nc => ?_⟩)⟩
  · exact q H b _ (Ex.refl H) hb (.inl rfl) (by simp) (by simp) fun x hx => hx
  · have e : cutV (u :: ws) (some 1) none = ws := by
      unfold cutV
      rw [show HT.sIx (u :: ws).length 0 (some 1) = min 1 (u :: ws).length from HT.sIx_nat (u :: ws).length 0 1, HT.sIx_none]
      rw [show min 1 (u :: ws).length = 1 by rw [List.length_cons]; omega]
      show List.take ((u :: ws).length - 1) ws = ws
      exact List.take_of_length_le (by simp)
    refine q _ c _ (Ex.new nc) upd_same (.inr nc) ?_ ?_ fun x hx => ?_
    · rw [e]
      exact List.length_pos_iff.mpr hne
    · rw [e]
      omega
    · rw [e] at hx
      exact List.mem_cons_of_mem _ hx
abbrev wsL : List V := [.non, .str "a", .str "b", .str "yes", .str "no", .str "ab"]
theorem ws_ok {x : V} (h : x ∈ wsL) : ∃ w, x = wV w ∧ okW w := by
  have k : ∀ z : Str, (1 ≤ z.length ∧ z.length ≤ 8 ∧ ∀ c ∈ z.cps.toList, 97 ≤ c ∧ c ≤ 122) → okW (some z) := fun _ h => h
  simp only [wsL, List.mem_cons, List.not_mem_nil, or_false] at h
  rcases h with rfl | rfl | rfl | rfl | rfl | rfl
  · exact ⟨none, rfl, trivial⟩
  · exact ⟨some "a", rfl, k _ (by decide +kernel)⟩
  · exact ⟨some "b", rfl, k _ (by decide +kernel)⟩
  · exact ⟨some "yes", rfl, k _ (by decide +kernel)⟩
  · exact ⟨some "no", rfl, k _ (by decide +kernel)⟩
  · exact ⟨some "ab", rfl, k _ (by decide +kernel)⟩
section
variable {P : Program} {w : World} {K : PySem.W.Frag} {mg : Str → Option Value} {base : Heap}
def spLM (K : PySem.W.Frag) : Sp := fun vs H Q _ => ∃ (r a : Addr) (ns : List Int), vs = [.ref r, .int 4, .int 2] ∧ SqL K H a (ns.map V.int) ∧ Row a H r ∧
  ∀ H' v M, Ex (hid H r) H' → Row a H' r → MachR H' v M → okM M → (∀ st ∈ M, st.length ≤ 2) → M.length ≤ 4 → Q v H'
abbrev N31 : List Str := ["_law_row", "_law_most", "_law_options", "_law_many", "_law_found", "_law_words", "_law_way", "_law_state", "_law_lot", "_law_least", "_law_option", "_law_word"]
theorem sc31 : FnScope N31 ["_law_row", "_law_most", "_law_options"] (defScope (top 31)) := ⟨rfl, rfl, rfl, by decide +kernel, rfl, by decide +kernel, by decide +kernel⟩
theorem ok_lm (G : G0 mg) (D : Df K mg "_law_machine" (top 31) ["_law_row", "_law_most", "_law_options"]) (CT : Cal P w K mg base "_law_taken" 1 ["_law_row", "_law_many"] (spTaken K)) (CP : Cal P w K mg base "_law_pick" 2 ["_law_row", "_law_things"] (spPick K)) :
    Cal P w K mg base "_law_machine" 3 ["_law_row", "_law_most", "_law_options"] (spLM K) := by
  refine D.ok sc31 (fun vs H Q E h => ?_) (fun f cdv A outer s0 H vs Q E hr h => ?_)
  · obtain ⟨r, a, ns, rfl, _⟩ := h
    rfl
  · obtain ⟨r, a, ns, rfl, hS, hR, q⟩ := h
    have hS' := sq_hid hS hR
    refine ⟨_, (pss_cons (ps_par (i := 3) (j := 4) (by rfl) sc31.nd rfl rfl (by decide) rfl rfl (pa_cons (pe_op op_add pe_int (CT.pe hr (pa_cons (pv 0) (pa_cons (pv 1) pa_nil)))) (pa_cons (pe_lst pa_nil) pa_nil)) (by rfl))
      (pss_cons (ps_set (i := 5) sc31.nd rfl (.inl rfl) (pe_lst (pa_cons pe_non (pa_cons pe_str (pa_cons pe_str (pa_cons pe_str (pa_cons pe_str (pa_cons pe_str pa_nil))))))))
      (pss_cons (ps_set (i := 6) sc31.nd rfl (.inl rfl) (CT.pe hr (pa_cons (pv 0) (pa_cons pe_int pa_nil))))
      (pss_cons (ps_for PassesOwn.never rfl (pi_range1 (by rfl) G.range (pa_cons (pv 3) pa_nil)) (pg_name (i := 7) sc31.nd rfl (Or.inl rfl))
      (pss_cons (ps_set (i := 8) sc31.nd rfl (.inl rfl) (pe_lst pa_nil))
      (pss_cons (ps_set (i := 9) sc31.nd rfl (.inl rfl) (pe_callTy call_int1 (by rfl) G.int b_int (pa_cons (pe_and (pe_cmpR op_eq (pv 7) pe_int (nomark _)) (pe_one (pe_cmpR op_gt (pv 6) pe_int (nomark _)))) pa_nil)))
      (pss_cons (ps_for PassesOwn.never rfl (pi_range1 (by rfl) G.range (pa_cons (pe_op op_add (pv 9) (CT.pe hr (pa_cons (pv 0) (pa_cons (pe_op op_sub (pe_op op_add (pv 2) pe_int) (pv 9)) pa_nil)))) pa_nil)) (pg_name (i := 10) sc31.nd rfl (Or.inl rfl))
      (pss_cons (ps_set (i := 11) sc31.nd rfl (.inl rfl) (CP.pe hr (pa_cons (pv 0) (pa_cons (pe_ifExp (pt_cmpR op_lt (pv 6) pe_int (nomark _)) (pv 5) (pe_slice sl_list (pv 5) (po_some pe_int) po_none)) pa_nil))))
      (pss_one (ps_expr (pe_bm PySem.F.plainAttrs_list PySem.F.slot_list_append PySem.F.type_list_append mt_append (pv 8) (pa_cons (pe_tup (pa_cons (CT.pe hr (pa_cons (pv 0) (pa_cons (pv 3) pa_nil))) (pa_cons (pv 11) pa_nil))) pa_nil))))))
      (pss_one (ps_expr (pe_bm PySem.F.plainAttrs_list PySem.F.slot_list_append PySem.F.type_list_append mt_append (pv 4) (pa_cons (pe_callTy call_tuple_of (by rfl) G.tuple b_tuple (pa_cons (pv 8) pa_nil)) pa_nil))))))))
      (pss_one (ps_ret (pe_callTy call_tuple_of (by rfl) G.tuple b_tuple (pa_cons (pv 4) pa_nil)))))))), ?_⟩
    refine ⟨.ref r, rfl, .int 4, rfl, r, a, ns, 4, rfl, by decide, by decide, hS, hR, fun H1 t ex1 hR1 ht => ⟨1, t, rfl, rfl, Nat.zero_le _, fun o no => ⟨nV (1 + t), .ref o, ?_, ?_⟩⟩⟩
    · show [V.int (1 + (t : Int)), V.ref o] = [V.int ((1 + t : Nat) : Int), V.ref o]
      rw [show ((1 + t : Nat) : Int) = 1 + (t : Int) by omega]
    generalize hm : 1 + t = m
    have m1 : 1 ≤ m := by omega
    have m4 : m ≤ 4 := by omega
    have exo : Ex H1 (upd H1 o (.lst [])) := Ex.new no
    have ex2 := ex1.trans exo
    have hR2 := hR1.ex exo
    have onr : o ≠ r := hR1.ne no
    have hno : hid H r o = none := ex1.free no
    refine ⟨sm1k (n := 6) (by decide), fun b nb => ?_⟩
    have exb : Ex (upd H1 o (.lst [])) (upd (upd H1 o (.lst [])) b (.lst wsL)) := Ex.new nb
    have ex3 := ex2.trans exb
    have hR3 := hR2.ex exb
    have bnr : b ≠ r := hR2.ne nb
    have bno : b ≠ o := fun e => by
      rw [e, upd_same] at nb
      cases nb
    have hb3 : (upd (upd H1 o (.lst [])) b (.lst wsL)) b = some (.lst wsL) := upd_same
    have ho3 : LstAt StR (upd (upd H1 o (.lst [])) b (.lst wsL)) o [] := ⟨[], by rw [upd_ne bno.symm, upd_same], .nil⟩
    generalize upd (upd H1 o (.lst [])) b (.lst wsL) = H3 at ex3 hR3 hb3 ho3 ⊢
    refine ⟨.ref r, rfl, r, a, ns, 3, rfl, by decide, by decide, ex3.seq hS', hR3, fun H4 way ex4 hR4 hway => ?_⟩
    refine ⟨nV m, rfl, m, rfl, by omega, by omega, ?_⟩
    refine for_it walk_range (fun i σ H' => ∃ y7 y8 y9 y10 y11, σ = [some (.ref r), some (.int 4), some (.int 2), some (nV m), some (.ref o), some (.ref b), some (nV way), y7, y8, y9, y10, y11] ∧ Ex (hid H r) H' ∧ Row a H' r ∧ H' b = some (.lst wsL) ∧
      ∃ M : Mach, LstAt StR H' o M ∧ M.length = i ∧ ∀ st ∈ M, st.length ≤ 2 ∧ ∀ e ∈ st, e.1 < m ∧ okW e.2) ⟨_, _, _, _, _, rfl, er_trans ex3 ex4, hR4, er_keep ex4 bnr hb3 rfl, [], ?_, rfl, fun _ h => absurd h List.not_mem_nil⟩ (fun _ _ _ _ _ => True.intro) (fun i x σ H5 H6 hi h hy => ?_) fun σ H5 h => ?_
    · obtain ⟨fs, hfs, hfa⟩ := ho3
      exact ⟨fs, er_keep ex4 onr hfs rfl, hfa.mono fun _ _ => StR.mono _ _ _ _ (er_tp hR3 ex4)⟩
    · obtain ⟨y7, y8, y9, y10, y11, rfl, ex5, hR5, hb5, M, ⟨fs, hfs, hfa⟩, hML, hM⟩ := h
      obtain ⟨rfl, hx⟩ := hy
      have hx' : x = nV i := by rw [hx]; show V.int (0 + (i : Int)) = V.int (i : Int); rw [Int.zero_add]
      subst hx'
      refine ⟨Nat.zero_le _, fun l nl => ?_⟩
      have exl : Ex H6 (upd H6 l (.lst [])) := Ex.new nl
      have lnr : l ≠ r := hR5.ne nl
      have lno : o ≠ l := ne_of_none hfs nl
      refine gname_to ?_
      dsimp only
      refine seq_to ?_
      refine asg_to ?_
      refine least_if (i7 := 7) (i6 := 6) (s := (i : Int)) (w := (way : Int)) ?_ ?_ fun c hc => ?_
      · rfl
      · rfl
      have ex6 := ex5.trans exl
      have hR6 := hR5.ex exl
      refine ⟨nV c, rfl, .ref r, rfl, .int 2, rfl, 2, 1, rfl, rfl, nV c, rfl, _, _, rfl, rfl, r, a, ns, 3 - c, ?_, by omega, by omega, ex6.seq hS', hR6, fun H7 t2 ex7 hR7 ht2 => ?_⟩
      · show [V.ref r, V.int (2 + 1 - (c : Int))] = [V.ref r, V.int ((3 - c : Nat) : Int)]
        rw [show ((3 - c : Nat) : Int) = 2 + 1 - (c : Int) by omega]
      have ex67 := er_trans ex6 ex7
      have hl7 : H7 l = some (.lst []) := er_keep ex7 lnr upd_same rfl
      refine ⟨c, t2, rfl, rfl, (c : Int) + (t2 : Int), rfl, by omega, by omega, ?_⟩
      have ho7 : H7 o = some (.lst fs) := er_keep ex7 onr (exl.lst hfs) rfl
      have hb7 : H7 b = some (.lst wsL) := er_keep ex7 bnr (exl.lst hb5) rfl
      have tp57 : Tp H6 H7 := exl.tp.trans (er_tp hR6 ex7)
      have hl0 : hid H6 r l = none := by rw [hid_ne lnr]; exact nl
      have exb7 : Ex (hid H6 r) H7 := er_trans ((hid_ex H6 r).trans exl) ex7
      refine for_it walk_range (fun j σ H' => ∃ y10 y11, σ = [some (.ref r), some (.int 4), some (.int 2), some (nV m), some (.ref o), some (.ref b), some (nV way), some (nV i), some (.ref l), some (nV c), y10, y11] ∧ Ex (hid H6 r) H' ∧ Row a H' r ∧
        ∃ st : List Opt, LstAt OptR H' l st ∧ st.length = j ∧ ∀ e ∈ st, e.1 < m ∧ okW e.2) ⟨_, _, rfl, exb7, hR7, [], ⟨[], hl7, .nil⟩, rfl, fun _ h => absurd h List.not_mem_nil⟩ (fun _ _ _ _ _ => True.intro) (fun j x σ H8 H9 hj h hy => ?_) fun σ H8 h => ?_
      · obtain ⟨y10, y11, rfl, ex8, hR8, st, ⟨gs, hgs, hga⟩, hsl, hst⟩ := h
        obtain ⟨rfl, hx⟩ := hy
        have hb8 : H9 b = some (.lst wsL) := er_keep ex8 bnr hb5 rfl
        have exS8 := er_trans ex5 ex8
        refine ⟨.ref r, rfl, things_if (K := K) rfl rfl hb8 (by simp) fun H10 c2 xs ex10 hc2 hc2n l0 l1 hsub => ?_⟩
        have hR10 := hR8.ex ex10
        have c2r : c2 ≠ r := by
          rcases hc2n with rfl | n
          · exact bnr
          · exact hR8.ne n
        refine ⟨r, a, c2, ns, xs, rfl, l0, by simp at l1; omega, hc2, c2r, (exS8.trans ex10).seq hS', hR10, fun H11 x ex11 hR11 hxm => ?_⟩
        obtain ⟨ow, rfl, how⟩ := ws_ok (hsub x hxm)
        have ex811 : Ex (hid H9 r) H11 := er_trans ((hid_ex H9 r).trans ex10) ex11
        have hg11 : H11 l = some (.lst gs) := er_keep ex811 lnr hgs rfl
        refine ⟨.ref l, rfl, .inl ⟨rfl, _, .inl (.inl hg11)⟩, .ref r, rfl, nV m, rfl, r, a, ns, m, rfl, by omega, by omega, (er_trans exS8 ex811).seq hS', hR11, fun H12 aft ex12 hR12 haft => ?_⟩
        refine ⟨wV ow, rfl, sm1k (n := 2) (by decide), fun t3 nt3 => ?_⟩
        have ex13 : Ex H12 (upd H12 t3 (.tup [nV aft, wV ow])) := Ex.new nt3
        have hR13 := hR12.ex ex13
        have ex9to13 : Ex (hid H9 r) (upd H12 t3 (.tup [nV aft, wV ow])) := (er_trans ex811 ex12).trans ex13
        have hg13 : (upd H12 t3 (.tup [nV aft, wV ow])) l = some (.lst gs) := ex13.lst (er_keep ex12 lnr hg11 rfl)
        have hgl : gs.length ≤ 2 := by
          rw [hga.len, hsl]
          omega
        refine ⟨l, gs, _, rfl, rfl, hg13, small1000 (by omega), ?_⟩
        refine ⟨_, _, rfl, (er_trans ex8 ex9to13).set hl0, hR13.put lnr, st ++ [(aft, ow)], ?_, by simp [hsl], fun e he => ?_⟩
        · exact LstAt.app (R := OptR) OptR.mono hg13 (hga.mono fun _ _ => OptR.mono _ _ _ _ (er_tp hR8 ex9to13)) ⟨t3, _, _, rfl, upd_same, rfl, rfl⟩
        · rcases List.mem_append.mp he with he | he
          · exact hst e he
          · rw [List.mem_singleton.mp he]
            exact ⟨haft, how⟩
      · obtain ⟨y10, y11, rfl, ex8, hR8, st, ⟨gs, hgs, hga⟩, hsl, hst⟩ := h
        have ho8 : H8 o = some (.lst fs) := er_keep ex8 onr hfs rfl
        refine ⟨.ref o, rfl, .inl ⟨rfl, _, .inl (.inl ho8)⟩, .ref l, rfl, l, gs, rfl, .inl ⟨.inl (.inl hgs), fun t3 nt3 => ?_⟩⟩
        have ex13 : Ex H8 (upd H8 t3 (.tup gs)) := Ex.new nt3
        have hfl : fs.length ≤ 4 := by
          rw [hfa.len, hML]
          omega
        refine ⟨o, fs, _, rfl, rfl, ex13.lst ho8, small1000 (by omega), ?_⟩
        have exA := (er_trans ex5 ex8).trans ex13
        refine ⟨_, _, _, _, _, rfl, exA.set hno, (hR8.ex ex13).put onr, ?_, M ++ [st], ?_, by simp [hML], fun st' hs' => ?_⟩
        · rw [upd_ne bno]
          exact ex13.lst (er_keep ex8 bnr hb5 rfl)
        · exact LstAt.app (R := StR) StR.mono (ex13.lst ho8) (hfa.mono fun _ _ => StR.mono _ _ _ _ ((er_tp hR5 ex8).trans ex13.tp)) (TupOf.new OptR.mono nt3 hga)
        · rcases List.mem_append.mp hs' with hs' | hs'
          · exact hM st' hs'
          · rw [List.mem_singleton.mp hs']
            exact ⟨by omega, hst⟩
    · obtain ⟨y7, y8, y9, y10, y11, rfl, ex5, hR5, hb5, M, ⟨fs, hfs, hfa⟩, hML, hM⟩ := h
      refine ⟨.ref o, rfl, o, fs, rfl, .inl ⟨.inl (.inl hfs), fun l nl => ?_⟩⟩
      refine q _ _ M (ex5.trans (Ex.new nl)) (hR5.ex (Ex.new nl)) (TupOf.new StR.mono nl hfa) ⟨by omega, by omega, fun st hs => ?_, fun st hs e he => ?_⟩ (fun st hs => (hM st hs).1) (by omega)
      · have := (hM st hs).1
        omega
      · have := (hM st hs).2 e he
        rw [hML]
        exact ⟨this.1, this.2⟩
end
end DG

set_option Elab.async false
set_option linter.all false
set_option maxRecDepth 100000
set_option maxHeartbeats 4000000
/-! _law_gathered, _law_alike. -/
namespace DH
open PySem PySem.Spec PyProof.Rows L2 HR MG TX DA DB DC DD DE DF DG
theorem e0 : ("" : Str) = Str.empty := by decide +kernel
theorem head_if {σ : L2.St} {H : Hp} {Q : VK} {i : Nat} {w : Option Str} (h : σ[i]? = some (some (wV w))) (q : Q (.str (MG.hd w)) H) :
    tIf (tTest (tOp (fun x y H Q => y = V.non ∧ Q (V.bl (decide (x = V.non))) H) (tVar i) (tC V.non))) (tC (.str (Str.ofString ""))) (tVar i) σ H Q := by
  refine ⟨_, h, rfl, _, rfl, ?_⟩
  cases w with
  | none =>
    refine iteT ?_
    show Q (.str _) H
    rw [show Str.ofString "" = Str.empty from e0]
    exact q
  | some z => exact iteF ⟨_, h, q⟩
section
variable {P : Program} {w : World} {K : PySem.W.Frag} {mg : Str → Option Value} {base : Heap}
def spLG (n : Nat) : Sp := fun vs H Q _ => ∃ (v : V) (M : Mach) (s : Nat), vs = [v, nV s, nV n] ∧ MachR H v M ∧ okM M ∧ (∀ st ∈ M, st.length ≤ 2) ∧ s < M.length ∧ n ≤ 3 ∧ ∀ H' p, Ex H H' → H p = none → LstAt LgR H' p (lgat M n s) → Q (.ref p) H'
def spLR : Nat → Sp
  | 0 => spNone
  | n + 1 => spLG n
abbrev N32 : List Str := ["_law_machine_here", "_law_state", "_law_many", "_law_found", "_law_after", "_law_word", "_law_head", "_law_end", "_law_tail"]
theorem sc32 : FnScope N32 ["_law_machine_here", "_law_state", "_law_many"] (defScope (top 32)) := ⟨rfl, rfl, rfl, by decide +kernel, rfl, by decide +kernel, by decide +kernel⟩
theorem one_l {H : Hp} {s : Nat} {Q : VK} (q : ∀ H' p, Ex H H' → H p = none → LstAt LgR H' p [(s, Str.empty)] → Q (.ref p) H') : ∀ t1, H t1 = none → ∀ l, upd H t1 (.tup [nV s, .str (Str.ofString "")]) l = none →
    Q (.ref l) (upd (upd H t1 (.tup [nV s, .str (Str.ofString "")])) l (.lst [.ref t1])) := fun t1 n1 l nl => by
  have x1 := Ex.new (o := .tup [nV s, .str (Str.ofString "")]) n1
  have x4 := Ex.new (o := .lst [.ref t1]) nl
  refine q _ _ (x1.trans x4) (x1.free nl) ⟨[.ref t1], upd_same, .cons ⟨t1, _, _, rfl, x4.tp _ _ upd_same, rfl, ?_⟩ .nil⟩
  show V.str _ = V.str _
  rw [show Str.ofString "" = Str.empty from e0]
theorem lg_len {M : Mach} (h2 : ∀ st ∈ M, st.length ≤ 2) {m : Nat} (hm : m ≤ 2) (s : Nat) : (lgat M m s).length ≤ 4 := by
  rw [lgat_gopt, List.length_map]
  have b2 := gopt_len h2 m s
  have b3 : 2 ^ m ≤ 2 ^ 2 := Nat.pow_le_pow_right (by decide) hm
  omega
theorem lfl_len {M : Mach} (h2 : ∀ st ∈ M, st.length ≤ 2) {m : Nat} (hm : m ≤ 2) : ∀ es : List Opt, (lfl (lgat M m) es).length ≤ es.length * 4
  | [] => Nat.zero_le _
  | e :: r => by
    have := lfl_len h2 hm r
    have k := lg_len h2 hm e.1
    show ((lgat M m e.1).map (lpre e) ++ lfl (lgat M m) r).length ≤ _
    rw [List.length_append, List.length_map, List.length_cons]
    omega
theorem lg_str {M : Mach} (hM : okM M) {m s : Nat} (hm : m ≤ 3) {g : Nat × Str} (h : g ∈ lgat M m s) : g.2.length ≤ 24 := by
  rw [lgat_gopt] at h
  obtain ⟨x, hx, rfl⟩ := List.mem_map.mp h
  obtain ⟨i1, i2, i3, i4⟩ := gopt_is M m _ x hx
  have i5 := wds_ok hM x.1 _ i1
  rw [i3] at i5
  have i6 := cat_len x.2.2 i5.2
  show (cat x.2.2).length ≤ 24
  omega
theorem ok_lgS (k : Nat) (S : Nat → Prop) (hk : ∀ n, S n → n ≤ k) (G : G0 mg) (D : Df K mg "_law_gathered" (top 32) ["_law_machine_here", "_law_state", "_law_many"]) (CRs : ∀ n, S n → Cal P w K mg base "_law_gathered" n ["_law_machine_here", "_law_state", "_law_many"] (spLR n)) :
    Cal P w K mg base "_law_gathered" (k + 1) ["_law_machine_here", "_law_state", "_law_many"] (fun vs H Q E => ∃ n, S n ∧ spLG n vs H Q E) := by
  refine D.ok sc32 (fun vs H Q E h => ?_) (fun f cdv A outer s0 H vs Q E hr h => ?_)
  · obtain ⟨n, _, v, M, s, rfl, _⟩ := h
    rfl
  · obtain ⟨n, hSn, v, M, s, rfl, ⟨a, us, rfl, ha, hus⟩, hM, h2, hs, hn, q⟩ := h
    have CR := (CRs n hSn).mono (hk n hSn)
    obtain ⟨b, vs, e2, hb, hvs⟩ := at_state hus hs
    refine ⟨_, (pss_cons (ps_if (PW.pt (pw_or (pt_cmpR op_eq (pv 2) pe_int (nomark _)) (pw_or1 (pt_cmpR (op_eqD hr.units) (pe_ix ix_tup (pv 0) (pv 1) (fun _ _ => rfl)) (pe_tup pa_nil) (nomark _))))) (pss_one (ps_ret (pe_lst (pa_cons (pe_tup (pa_cons (pv 1) (pa_cons pe_str pa_nil))) pa_nil)))) pss_nil)
      (pss_cons (ps_set (i := 3) sc32.nd rfl (.inl rfl) (pe_lst pa_nil))
      (pss_cons (ps_for PassesOwn.never rfl (pi_tup (pe_ix ix_tup (pv 0) (pv 1) (fun _ _ => rfl))) (pg_tup rfl (pgs_cons (pg_name (i := 4) sc32.nd rfl (Or.inl rfl)) (pgs_cons (pg_name (i := 5) sc32.nd rfl (Or.inl rfl)) pgs_nil)))
      (pss_cons (ps_set (i := 6) sc32.nd rfl (.inr rfl) (pe_ifExp (pt_cmpR op_isN (pv 5) pe_non (nomark _)) pe_str (pv 5)))
      (pss_one (ps_set (i := 3) sc32.nd rfl (.inl rfl) (pe_op op_cat (pv 3) (pe_lc (own := [("_law_end", 7), ("_law_tail", 8)]) rfl sc32.nd (pi_list (CR.pe hr (pa_cons (pv 0) (pa_cons (pv 4) (pa_cons (pe_op op_sub (pv 2) pe_int) pa_nil))))) (blkOk_by (N := N32) (sc := defScope (top 32)) (by decide +kernel)) (fun _ _ _ _ _ => (tupK (K := K) (n := 2) rfl rfl (pgs_cons (pg_name (i := 7) sc32.nd rfl (Or.inl rfl)) (pgs_cons (pg_name (i := 8) sc32.nd rfl (Or.inl rfl)) pgs_nil)))) (fun _ _ _ _ _ => pts_nil) (fun _ _ _ _ _ => (pe_tup (pa_cons (pv 7) (pa_cons (pe_op op_add_str (pv 6) (pv 8)) pa_nil))))))))))
      (pss_one (ps_ret (pv 3)))))), ?_⟩
    refine ⟨nV n, rfl, rfl, _, rfl, ite2 (fun e => ?_) (fun e => ?_)⟩
    · have hn0 : n = 0 := by
        have := V.int.inj (of_decide_eq_true e)
        omega
      subst hn0
      refine iteT ⟨nV s, rfl, sm1k (n := 2) (by decide), fun t1 n1 => ⟨sm1k (n := 1) (by decide), fun l nl => ?_⟩⟩
      exact one_l q t1 n1 l nl
    · obtain ⟨m, rfl⟩ : ∃ m, n = m + 1 := by
        cases n with
        | zero => exact absurd (decide_eq_true rfl) e
        | succ m => exact ⟨m, rfl⟩
      refine ⟨.ref a, rfl, nV s, rfl, a, us, _, _, rfl, rfl, .inl (.inl ha), atI_nat e2, Nat.zero_le _, fun t nt => ?_⟩
      have ext : Ex H (upd H t (.tup [])) := Ex.new nt
      refine eq_empty (R := OptR) (f := oD) opt_dp (fun e he => opt_lay e (hM.opts _ (stt_in hs) e he).2) (ext.tp _ _ hb) (hvs.mono fun _ _ => OptR.mono _ _ _ _ ext.tp) upd_same ⟨_, rfl, ?_⟩
      generalize upd H t (.tup []) = H0 at ext ⊢
      cases hst : (stt M s).isEmpty with
      | true =>
        have hst' : stt M s = [] := List.isEmpty_iff.mp hst
        refine iteT ⟨nV s, rfl, sm1k (n := 2) (by decide), fun t1 n1 => ⟨sm1k (n := 1) (by decide), fun l nl => ?_⟩⟩
        have eg : lgat M (m + 1) s = [(s, Str.empty)] := if_pos hst'
        rw [eg] at q
        exact one_l (fun H' p ex np hp => q H' p (ext.trans ex) (ext.free np) hp) t1 n1 l nl
      | false =>
        have hst' : ¬ stt M s = [] := by
          rw [List.isEmpty_eq_false_iff] at hst
          exact hst
        have hlen2 := h2 _ (stt_in hs)
        have eg : lgat M (m + 1) s = lfl (lgat M m) (stt M s) := if_neg hst'
        rw [eg] at q
        refine iteF ⟨Nat.zero_le _, fun o0 no0 => ?_⟩
        have exo : Ex H0 (upd H0 o0 (.lst [])) := Ex.new no0
        have ex0 := ext.trans exo
        refine ⟨.ref a, rfl, nV s, rfl, a, us, _, _, rfl, rfl, ex0.tp.sqt ha, atI_nat e2, b, rfl, ⟨_, ex0.tp.sqt hb⟩, ?_⟩
        refine for_it (walk_tup (K := K) (a := b) (xs := vs)) (fun i σ H' => ∃ o y4 y5 y6 y7 y8, σ = [some (.ref a), some (nV s), some (nV (m + 1)), some (.ref o), y4, y5, y6, y7, y8] ∧ Ex H H' ∧ H o = none ∧ LstAt LgR H' o (lfl (lgat M m) ((stt M s).take i))) ⟨_, _, _, _, _, _, rfl, ex0, ext.free no0, LstAt.new⟩
          (fun i σ H' _ ⟨_, _, _, _, _, _, _, h, _⟩ => h.tp.sqt hb) (fun i x σ H1 H2 hi h hy => ?_) fun σ H' h => ?_
        · obtain ⟨o, y4, y5, y6, y7, y8, rfl, ex1, nHo, fs, hfs, hfa⟩ := h
          obtain ⟨rfl, hx⟩ := hy
          have hi' : i < (stt M s).length := by rw [← hvs.len]; exact hi
          obtain ⟨b3, e5, hb3⟩ := at_opt hvs hi'
          rw [e5] at hx
          cases hx
          have hn2 : nxt M s i < M.length := hM.nxt hi'
          refine ⟨b3, _, rfl, ex1.tp.sqt hb3, rfl, _, _, rfl, _, _, rfl, rfl, ?_⟩
          refine head_if (w := (opt M s i).2) rfl ?_
          have hhd : (MG.hd (opt M s i).2).length ≤ 8 := by
            have := (hM.opts _ (stt_in hs) _ (List.mem_of_getElem? (opt_at hi'))).2
            cases hw : (opt M s i).2 with
            | none => exact Nat.zero_le _
            | some z =>
              rw [hw] at this
              exact this.2.1
          refine ⟨.ref o, rfl, .ref a, rfl, nV (nxt M s i), rfl, nV (m + 1), rfl, _, 1, rfl, rfl, .ref a, M, nxt M s i, ?_, MachR.mono _ _ _ _ ex1.tp ⟨a, us, rfl, ha, hus⟩, hM, h2, hn2, by omega, fun H4 p ex4 np hp => ?_⟩
          · show [V.ref a, nV (nxt M s i), V.int ((((m + 1 : Nat) : Int)) - 1)] = _
            rw [show (((m + 1 : Nat) : Int)) - 1 = (m : Int) by omega]
          · obtain ⟨ps, hps, hpa⟩ := hp
            refine ⟨p, rfl, ⟨_, .inl (.inl hps)⟩, fun D1 nD1 => ?_⟩
            refine lc_it (walk_list (K := K) (a := p) (xs := ps)) (fun j H' => Ex H4 H' ∧ LstAt LgR H' D1 (((lgat M m (nxt M s i)).take j).map (lpre (opt M s i)))) ⟨Ex.new nD1, LstAt.new⟩ (fun _ H' _ h => h.1.seq (.inl (.inl hps))) (fun j x H6 H7 hj h hy => ?_) fun H6 h => ?_
            · obtain ⟨rfl, hx⟩ := hy
              obtain ⟨ex6, ds, hds, hda⟩ := h
              obtain ⟨g, hg, t6, u6, w6, rfl, ht, hu, hw⟩ := hpa.getL hx
              cases (hu : u6 = nV g.1)
              cases (hw : w6 = .str g.2)
              have hstr := lg_str hM (by omega) (List.mem_of_getElem? hg)
              refine ⟨t6, _, rfl, ex6.tp.sqt ht, rfl, _, _, rfl, _, _, rfl, rfl, rfl, ?_⟩
              refine ⟨nV g.1, rfl, .str (MG.hd (opt M s i).2), rfl, .str g.2, rfl, _, _, rfl, rfl, sm1k (by omega), sm1k (n := 2) (by decide), fun t2 nt2 => ?_⟩
              have ex7 := Ex.new (o := .tup [nV g.1, .str (MG.hd (opt M s i).2 ++ g.2)]) nt2
              refine ⟨ds, ex7.lst hds, ?_, (ex6.trans ex7).set nD1, ?_⟩
              · have := lg_len h2 (m := m) (by omega) (nxt M s i)
                rw [hda.len, List.length_map, List.length_take]
                exact small1000 (by omega)
              · rw [take_snoc hg, List.map_append]
                exact LstAt.app (R := LgR) (x := lpre (opt M s i) g) LgR.mono (ex7.lst hds) (hda.mono fun _ _ => LgR.mono _ _ _ _ ex7.tp) ⟨t2, _, _, rfl, upd_same, rfl, rfl⟩
            · obtain ⟨ex6, hl⟩ := h
              rw [hpa.len, List.take_of_length_le (Nat.le_refl _)] at hl
              obtain ⟨ds, hds, hda⟩ := hl
              have ex46 := ex4.trans ex6
              refine ⟨o, D1, fs, ds, rfl, rfl, ex46.lst hfs, hds, ?_, fun p2 np2 => ?_⟩
              · have b1 := lfl_len h2 (m := m) (by omega) ((stt M s).take i)
                have b2 := lg_len h2 (m := m) (by omega) (nxt M s i)
                rw [List.length_take] at b1
                rw [hfa.len, hda.len, List.length_map]
                exact sm1k (by omega)
              · have ex8 := Ex.new (o := .lst (fs ++ ds)) np2
                refine ⟨p2, _, _, _, _, _, rfl, (ex1.trans ex46).trans ex8, (ex1.trans ex46).free np2, ?_⟩
                rw [lfl_take _ (opt_at hi')]
                exact ⟨_, upd_same, ((hfa.mono fun _ _ => LgR.mono _ _ _ _ ex46.tp).append hda).mono fun _ _ => LgR.mono _ _ _ _ ex8.tp⟩
        · obtain ⟨o, y4, y5, y6, y7, y8, rfl, ex1, nHo, hl⟩ := h
          rw [hvs.len, List.take_of_length_le (Nat.le_refl _)] at hl
          exact ⟨.ref o, rfl, q H' o ex1 nHo hl⟩
theorem lg_all (G : G0 mg) (D : Df K mg "_law_gathered" (top 32) ["_law_machine_here", "_law_state", "_law_many"]) : ∀ n, Cal P w K mg base "_law_gathered" (n + 1) ["_law_machine_here", "_law_state", "_law_many"] (spLG n)
  | 0 => (ok_lgS 0 (fun n => n = 0) (fun _ h => Nat.le_of_eq h) G D (fun _ h => by subst h; exact cal_none D)).imp fun _ _ _ _ h => ⟨0, rfl, h⟩
  | n + 1 => (ok_lgS (n + 1) (fun m => m = n + 1) (fun _ h => Nat.le_of_eq h) G D (fun _ h => by subst h; exact lg_all G D n)).imp fun _ _ _ _ h => ⟨n + 1, rfl, h⟩
theorem lg_upto (G : G0 mg) (D : Df K mg "_law_gathered" (top 32) ["_law_machine_here", "_law_state", "_law_many"]) : Cal P w K mg base "_law_gathered" 4 ["_law_machine_here", "_law_state", "_law_many"] (fun vs H Q E => ∃ n, n ≤ 3 ∧ spLG n vs H Q E) :=
  ok_lgS 3 (fun n => n ≤ 3) (fun _ h => h) G D fun n _ => match n with
    | 0 => cal_none D
    | n + 1 => lg_all G D n
end
end DH

set_option Elab.async false
set_option linter.all false
set_option maxRecDepth 100000
set_option maxHeartbeats 4000000
/-! _law_alike. -/
namespace DI
open PySem PySem.Spec PyProof.Rows L2 HR MG TX DA DB DC DD DE DF DG DH
section
variable {X : Cx} {e : Expr} {t : TE} {p1 p2 p3 p4 pos : Pos} {k : Nat}
theorem isi_two (G : G0 X.mg) (he : PE X e t) (hg1 : Gl X "isinstance" := by rfl) (hg2 : Gl X "tuple" := by rfl) (hg3 : Gl X "list" := by rfl) (he1 : starEach [e, .Tuple [.Name "tuple" p2, .Name "list" p3] k p4] X.env = (false, eval e X.env) :: starEach [.Tuple [.Name "tuple" p2, .Name "list" p3] k p4] X.env := by rfl) :
    PE X (.Call (.Name "isinstance" p1) [e, .Tuple [.Name "tuple" p2, .Name "list" p3] k p4] [] pos) (tCB (rIsiT X.K) (tCons t (tCons (tTup (tCons (tC (.ty "tuple")) (tCons (tC (.ty "list")) tNil))) tNil))) :=
  pe_callB call_isiT hg1 G.isin b_isin (pa_cons he (pa_cons (pe_tup (pa_cons (pe_bltn hg2 G.tuple b_tuple (v := .ty "tuple") rfl) (pa_cons (pe_bltn hg3 G.list b_list (v := .ty "list") rfl) pa_nil))) pa_nil) he1) (he := he1)
end
section
variable {K : PySem.W.Frag}
theorem two_t : PySem.W.kitAny K (.type "tuple") [.type "tuple", .type "list"] = some true := kitAny_cons k_tt (fun h => by cases h) fun _ => rfl
theorem two_n : PySem.W.kitAny K (.type "NoneType") [.type "tuple", .type "list"] = some false := kitAny_cons k_nt (fun _ => kitAny_cons k_nl (fun _ => kitAny_nil) fun h => by cases h) fun h => by cases h
theorem two_s : PySem.W.kitAny K (.type "str") [.type "tuple", .type "list"] = some false := kitAny_cons k_st (fun _ => kitAny_cons k_sl (fun _ => kitAny_nil) fun h => by cases h) fun h => by cases h
theorem two_i : PySem.W.kitAny K (.type "int") [.type "tuple", .type "list"] = some false := kitAny_cons k_it (fun _ => kitAny_cons k_il (fun _ => kitAny_nil) fun h => by cases h) fun h => by cases h
end
def Leaf (u v : V) : Prop := u = v ∧ (v = .non ∨ (∃ z, v = .str z) ∨ ∃ i, v = .int i)
/-- alike at each place, at most n deep -/
def Eqv : Nat → Hp → V → V → Prop
  | 0, _, u, v => Leaf u v
  | n + 1, H, u, v => Leaf u v ∨ ∃ a b us vs, u = .ref a ∧ v = .ref b ∧ H a = some (.tup us) ∧ H b = some (.tup vs) ∧ us.length = vs.length ∧ us.length ≤ 100 ∧ ∀ (i : Nat) x y, us[i]? = some x → vs[i]? = some y → Eqv n H x y
theorem Eqv.mono : ∀ {n : Nat} {H H' : Hp} {u v : V}, Tp H H' → Eqv n H u v → Eqv n H' u v
  | 0, _, _, _, _, _, h => h
  | n + 1, H, H', u, v, t, h => by
    rcases h with h | ⟨a, b, us, vs, rfl, rfl, h1, h2, h3, h4, h5⟩
    · exact .inl h
    · exact .inr ⟨a, b, us, vs, rfl, rfl, t _ _ h1, t _ _ h2, h3, h4, fun i x y e1 e2 => Eqv.mono t (h5 i x y e1 e2)⟩
theorem eqv_tup {α : Type} {R : Rl α} {n : Nat} {H : Hp} {u v : V} {xs : List α} (h : TupOf R H u xs) (k : TupOf R H v xs) (hl : xs.length ≤ 100) (q : ∀ u v x, x ∈ xs → R H u x → R H v x → Eqv n H u v) : Eqv (n + 1) H u v := by
  obtain ⟨a, us, rfl, h1, h2⟩ := h
  obtain ⟨b, vs, rfl, k1, k2⟩ := k
  refine .inr ⟨a, b, us, vs, rfl, rfl, h1, k1, by rw [h2.len, k2.len], by rw [h2.len]; exact hl, fun i x y e1 e2 => ?_⟩
  obtain ⟨z, e3, r1⟩ := h2.getL e1
  obtain ⟨z2, e4, r2⟩ := k2.getL e2
  rw [e3] at e4
  cases e4
  exact q x y z (List.mem_of_getElem? e3) r1 r2
theorem eqv_opt {H : Hp} {u v : V} {e : Opt} (h : OptR H u e) (k : OptR H v e) : Eqv 1 H u v := by
  obtain ⟨n, w⟩ := e
  obtain ⟨a, x, y, rfl, h1, h2, h3⟩ := h
  obtain ⟨b, x', y', rfl, k1, k2, k3⟩ := k
  cases (h2 : x = nV n)
  cases (h3 : y = wV w)
  cases (k2 : x' = nV n)
  cases (k3 : y' = wV w)
  have hw : Leaf (wV w) (wV w) := ⟨rfl, by
    cases w with
    | none => exact .inl rfl
    | some z => exact .inr (.inl ⟨z, rfl⟩)⟩
  have hn : Leaf (nV n) (nV n) := ⟨rfl, .inr (.inr ⟨_, rfl⟩)⟩
  refine .inr ⟨a, b, _, _, rfl, rfl, h1, k1, rfl, by simp, fun i x y e1 e2 => ?_⟩
  match i, e1, e2 with
  | 0, e1, e2 =>
    cases (Option.some.inj e1 : nV n = x)
    cases (Option.some.inj e2 : nV n = y)
    exact hn
  | 1, e1, e2 =>
    cases (Option.some.inj e1 : wV w = x)
    cases (Option.some.inj e2 : wV w = y)
    exact hw
  | i + 2, e1, _ => simp at e1
theorem eqv_mach {H : Hp} {u v : V} {M : Mach} (h : MachR H u M) (k : MachR H v M) (l : M.length ≤ 100) (l2 : ∀ st ∈ M, st.length ≤ 100) : Eqv 3 H u v :=
  eqv_tup h k l fun _ _ st hs r1 r2 => eqv_tup r1 r2 (l2 st hs) fun _ _ e _ q1 q2 => eqv_opt q1 q2
section
variable {P : Program} {w : World} {K : PySem.W.Frag} {mg : Str → Option Value} {base : Heap}
def spAl (n : Nat) : Sp := fun vs H Q _ => ∃ (u v : V), vs = [u, v] ∧ Eqv n H u v ∧ ∀ H', Ex H H' → Q (.bl true) H'
def spAR : Nat → Sp
  | 0 => spNone
  | n + 1 => spAl n
abbrev N33 : List Str := ["_law_found", "_law_due", "_law_k"]
theorem sc33 : FnScope N33 ["_law_found", "_law_due"] (defScope (top 33)) := ⟨rfl, rfl, rfl, by decide +kernel, rfl, by decide +kernel, by decide +kernel⟩
theorem ok_al (n : Nat) (G : G0 mg) (D : Df K mg "_law_alike" (top 33) ["_law_found", "_law_due"]) (CR : Cal P w K mg base "_law_alike" n ["_law_found", "_law_due"] (spAR n)) : Cal P w K mg base "_law_alike" (n + 1) ["_law_found", "_law_due"] (spAl n) := by
  refine D.ok sc33 (fun vs H Q E h => ?_) (fun f cdv A outer s0 H vs Q E hr h => ?_)
  · obtain ⟨u, v, rfl, _⟩ := h
    rfl
  · obtain ⟨u, v, rfl, he, q⟩ := h
    refine ⟨_, (pss_cons (ps_if (pt_val (isi_two G (pv 1))) (pss_cons (ps_if (PW.pt (pw_or (pt_not (pt_val (isi_two G (pv 0)))) (pw_or1 (pt_cmpR op_ne (isi_list G (pv 0)) (isi_list G (pv 1)) (nomark _))))) (pss_one (ps_ret pe_bl)) pss_nil)
      (pss_cons (ps_if (pt_cmpR op_ne (len_s G (pv 0)) (len_s G (pv 1)) (nomark _)) (pss_one (ps_ret pe_bl)) pss_nil)
      (pss_one (ps_ret (pe_cmpR (op_eqD hr.units) (pe_lc (own := [("_law_k", 2)]) rfl sc33.nd (pi_range1 (by rfl) G.range (pa_cons (len_s G (pv 1)) pa_nil)) (blkOk_by (N := N33) (sc := defScope (top 33)) (by decide +kernel)) (fun _ _ _ _ _ => (pg_name (i := 2) sc33.nd rfl (Or.inl rfl))) (fun _ _ _ _ _ => (pts_one (pt_not (pt_val (CR.pe hr (pa_cons (pe_ix (ix_tupK (K := K) rfl) (pv 0) (pv 2) (fun _ _ => rfl)) (pa_cons (pe_ix (ix_tupK (K := K) rfl) (pv 1) (pv 2) (fun _ _ => rfl)) pa_nil))))))) (fun _ _ _ _ _ => (pv 2))) (pe_lst pa_nil) (nomark _)))))) pss_nil)
      (pss_cons (ps_if (PW.pt (pw_or (pt_cmpR op_isN (pv 1) pe_non (nomark _)) (pw_or1 (pt_val (isi_str G (pv 1)))))) (pss_one (ps_ret (pe_and (pe_cmpR op_eq (pv 0) (pv 1) (nomark _)) (pe_one (pe_cmpR op_eq (isi_str G (pv 0)) (isi_str G (pv 1)) (nomark _)))))) pss_nil)
      (pss_one (ps_ret (pe_and (isi_int G (pv 0)) (pe_and (pe_cmpR op_eq (isi_bool G (pv 0)) (isi_bool G (pv 1)) (nomark _)) (pe_one (pe_cmpR op_eq (pv 0) (pv 1) (nomark _))))))))), ?_⟩
    have hc : Leaf u v ∨ ∃ m, n = m + 1 ∧ ∃ a b us vs, u = .ref a ∧ v = .ref b ∧ H a = some (.tup us) ∧ H b = some (.tup vs) ∧ us.length = vs.length ∧ us.length ≤ 100 ∧ ∀ (i : Nat) x y, us[i]? = some x → vs[i]? = some y → Eqv m H x y := by
      cases n with
      | zero => exact .inl he
      | succ m => exact he.imp id fun h => ⟨m, rfl, h⟩
    rcases hc with ⟨rfl, rfl | ⟨z, rfl⟩ | ⟨i, rfl⟩⟩ | ⟨m, rfl, a, b, us, vs, rfl, rfl, ha, hb, hl, hl2, hxy⟩
    · refine ⟨.non, rfl, sm1k (n := 2) (by decide), fun tp ntp => ?_⟩
      refine ⟨.non, tp, _, _, _, false, rfl, upd_same, .cons (.ty _) (.cons (.ty _) .nil), .base .non, two_n, false, rfl, iteF ?_⟩
      have ex := Ex.new (o := .tup [.ty "tuple", .ty "list"]) ntp
      refine ⟨.non, rfl, rfl, true, bt rfl, iteT (iteT ?_)⟩
      refine ⟨.non, rfl, .non, rfl, rfl, true, bt rfl, iteT ?_⟩
      refine ⟨.non, rfl, _, _, _, _, false, rfl, .ty _, .base .non, k_ns, .non, rfl, _, _, _, _, false, rfl, .ty _, .base .non, k_ns, rfl, ?_⟩
      rw [bt rfl]
      exact q _ ex
    · refine ⟨.str z, rfl, sm1k (n := 2) (by decide), fun tp ntp => ?_⟩
      refine ⟨.str z, tp, _, _, _, false, rfl, upd_same, .cons (.ty _) (.cons (.ty _) .nil), .base (.str z), two_s, false, rfl, iteF ?_⟩
      have ex := Ex.new (o := .tup [.ty "tuple", .ty "list"]) ntp
      refine ⟨.str z, rfl, rfl, false, bf (fun h => by cases h), iteF ?_⟩
      refine ⟨.str z, rfl, _, _, _, _, true, rfl, .ty _, .base (.str z), k_ss, true, rfl, iteT ?_⟩
      refine ⟨.str z, rfl, .str z, rfl, rfl, true, bt rfl, iteT ?_⟩
      refine ⟨.str z, rfl, _, _, _, _, true, rfl, .ty _, .base (.str z), k_ss, .str z, rfl, _, _, _, _, true, rfl, .ty _, .base (.str z), k_ss, rfl, ?_⟩
      rw [bt rfl]
      exact q _ ex
    · refine ⟨.int i, rfl, sm1k (n := 2) (by decide), fun tp ntp => ?_⟩
      refine ⟨.int i, tp, _, _, _, false, rfl, upd_same, .cons (.ty _) (.cons (.ty _) .nil), .base (.int i), two_i, false, rfl, iteF ?_⟩
      have ex := Ex.new (o := .tup [.ty "tuple", .ty "list"]) ntp
      refine ⟨.int i, rfl, rfl, false, bf (fun h => by cases h), iteF ?_⟩
      refine ⟨.int i, rfl, _, _, _, _, false, rfl, .ty _, .base (.int i), k_is_, false, rfl, iteF ?_⟩
      refine ⟨.int i, rfl, _, _, _, _, true, rfl, .ty _, .base (.int i), k_ii, true, rfl, iteT ?_⟩
      refine ⟨.int i, rfl, _, _, _, _, false, rfl, .ty _, .base (.int i), k_ib, .int i, rfl, _, _, _, _, false, rfl, .ty _, .base (.int i), k_ib, rfl, true, bt rfl, iteT ?_⟩
      refine ⟨.int i, rfl, .int i, rfl, rfl, ?_⟩
      rw [bt rfl]
      exact q _ ex
    · refine ⟨.ref b, rfl, sm1k (n := 2) (by decide), fun tp ntp => ?_⟩
      have ex1 := Ex.new (o := .tup [.ty "tuple", .ty "list"]) ntp
      refine ⟨.ref b, tp, _, _, _, true, rfl, upd_same, .cons (.ty _) (.cons (.ty _) .nil), .base (.tup (ex1.tp _ _ hb)), two_t, true, rfl, iteT ?_⟩
      refine ⟨.ref a, rfl, sm1k (n := 2) (by decide), fun tp2 ntp2 => ?_⟩
      have ex2 := ex1.trans (Ex.new (o := .tup [.ty "tuple", .ty "list"]) ntp2)
      have ta := ex2.tp _ _ ha
      have tb := ex2.tp _ _ hb
      refine ⟨.ref a, tp2, _, _, _, true, rfl, upd_same, .cons (.ty _) (.cons (.ty _) .nil), .base (.tup ta), two_t, true, rfl, iteF ?_⟩
      generalize upd (upd H tp (.tup [.ty "tuple", .ty "list"])) tp2 (.tup [.ty "tuple", .ty "list"]) = H2 at ex2 ta tb ⊢
      refine ⟨.ref a, rfl, _, _, _, _, false, rfl, .ty _, .base (.tup ta), k_tl, .ref b, rfl, _, _, _, _, false, rfl, .ty _, .base (.tup tb), k_tl, rfl, _, rfl, iteNS rfl ?_⟩
      refine ⟨.ref a, rfl, a, us, rfl, .inr (.inl (.inl ta)), .ref b, rfl, b, vs, rfl, .inr (.inl (.inl tb)), rfl, _, rfl, iteNS (by rw [hl]) ?_⟩
      refine ⟨.ref b, rfl, b, vs, rfl, .inr (.inl (.inl tb)), vs.length, rfl, by omega, by omega, fun D nD => ?_⟩
      refine lc_it walk_range (fun k H' => Ex H2 H' ∧ H' D = some (.lst [])) ⟨Ex.new nD, upd_same⟩ (fun _ _ _ _ => True.intro) (fun k x H3 H4 hk h hy => ?_) fun H3 h => ?_
      · obtain ⟨ex3, hD⟩ := h
        obtain ⟨rfl, hx⟩ := hy
        have hx' : x = nV k := by rw [hx]; show V.int (0 + (k : Int)) = V.int (k : Int); rw [Int.zero_add]
        subst hx'
        have hk2 : k < vs.length := by omega
        have hk1 : k < us.length := by omega
        have ex4 := ex2.trans ex3
        refine ⟨rfl, .ref a, rfl, nV k, rfl, a, us, _, _, rfl, rfl, .inl (.inl (ex3.tp _ _ ta)), atI_nat (List.getElem?_eq_getElem hk1), .ref b, rfl, nV k, rfl, b, vs, _, _, rfl, rfl, .inl (.inl (ex3.tp _ _ tb)), atI_nat (List.getElem?_eq_getElem hk2), us[k], vs[k], rfl, ?_, fun H5 ex5 => ⟨true, rfl, iteF ⟨ex3.trans ex5, ex5.lst hD⟩⟩⟩
        exact Eqv.mono ex4.tp (hxy k _ _ (List.getElem?_eq_getElem hk1) (List.getElem?_eq_getElem hk2))
      · obtain ⟨ex3, hD⟩ := h
        refine ⟨Nat.zero_le _, fun l nl => ?_⟩
        have ex4 := Ex.new (o := .lst []) nl
        refine ⟨.list [], .list [], .lst (.inl (.inl (ex4.lst hD))) .nil, .lst (.inl (.inl upd_same)) .nil, by decide +kernel, by decide +kernel, ?_⟩
        rw [show PyData.eqv (.list []) (.list []) = true by simp [PyData.eqv, PyData.eqvAll]]
        exact q _ (ex2.trans (ex3.trans ex4))
theorem al_all (G : G0 mg) (D : Df K mg "_law_alike" (top 33) ["_law_found", "_law_due"]) : ∀ n, Cal P w K mg base "_law_alike" (n + 1) ["_law_found", "_law_due"] (spAl n)
  | 0 => ok_al 0 G D (cal_none D)
  | n + 1 => ok_al (n + 1) G D (al_all G D n)
end
end DI

set_option Elab.async false
set_option linter.all false
set_option maxRecDepth 100000
set_option maxHeartbeats 4000000
/-! the law's own: lots, sizes, rows. -/
namespace DJ
open PySem PySem.Spec PyProof.Rows L2 HR MG TX DA DB DC DD DE DF DG DH DI
/-! ### lots -/
def lotOf (M : Mach) (k i : Nat) : List (Nat × Str) := if stt M i = [] then [] else lgat M k i
def dpt (g : Nat × Str) : Opt := (g.1, wo g.2)
def lots (M : Mach) (k : Nat) : List (List (Nat × Str)) := (List.range M.length).map (lotOf M k)
theorem lots_len (M : Mach) (k : Nat) : (lots M k).length = M.length := by
  unfold lots
  rw [List.length_map, List.length_range]
theorem lots_at {M : Mach} {k i : Nat} (h : i < M.length) : (lots M k)[i]? = some (lotOf M k i) := by
  unfold lots
  rw [List.getElem?_map, List.getElem?_range h]
  rfl
theorem lot_gst (M : Mach) (k i : Nat) : (lotOf M k i).map dpt = gst M k i := by
  unfold lotOf gst
  by_cases h : stt M i = []
  · rw [if_pos h, if_pos h]
    rfl
  · rw [if_neg h, if_neg h, lgat_gopt, List.map_map]
    rfl
theorem lot_len {M : Mach} (h2 : ∀ st ∈ M, st.length ≤ 2) {k : Nat} (hk : k ≤ 3) (i : Nat) : (lotOf M k i).length ≤ 8 := by
  unfold lotOf
  by_cases h : stt M i = []
  · rw [if_pos h]
    exact Nat.zero_le _
  · rw [if_neg h, lgat_gopt, List.length_map]
    have b2 := gopt_len h2 k i
    have b3 : 2 ^ k ≤ 2 ^ 3 := Nat.pow_le_pow_right (by decide) hk
    omega
theorem lot_str {M : Mach} (hM : okM M) {k i : Nat} (hk : k ≤ 3) {g : Nat × Str} (h : g ∈ lotOf M k i) : g.2.length ≤ 24 := by
  unfold lotOf at h
  by_cases hs : stt M i = []
  · rw [if_pos hs] at h
    exact absurd h List.not_mem_nil
  · rw [if_neg hs] at h
    exact lg_str hM hk h
theorem gath_is (M : Mach) (k : Nat) : gath M k = (lots M k).map fun l => l.map dpt := by
  unfold gath lots
  rw [List.map_map]
  exact List.map_congr_left fun i _ => (lot_gst M k i).symm
theorem few_of {M : Mach} {k : Nat} (h : ∀ l ∈ lots M k, l.length ≤ 6) : ∀ st ∈ gath M k, st.length ≤ 6 := fun st hs => by
  rw [gath_is] at hs
  obtain ⟨l, hl, rfl⟩ := List.mem_map.mp hs
  rw [List.length_map]
  exact h l hl
theorem wrd_of {M : Mach} {k : Nat} (h : ∀ l ∈ lots M k, ∀ g ∈ l, g.2.length ≤ 8) : ∀ st ∈ gath M k, ∀ e ∈ st, ∀ z, e.2 = some z → z.length ≤ 8 := fun st hs e he z hz => by
  rw [gath_is] at hs
  obtain ⟨l, hl, rfl⟩ := List.mem_map.mp hs
  obtain ⟨g, hg, rfl⟩ := List.mem_map.mp he
  have h8 := h l hl g hg
  have hz' : wo g.2 = some z := hz
  unfold wo at hz'
  by_cases h0 : g.2.length = 0
  · rw [if_pos h0] at hz'
    cases hz'
  · rw [if_neg h0] at hz'
    cases hz'
    exact h8
def szs (L : List (List (Nat × Str))) : List Int := 0 :: L.flatMap fun l => l.map fun g => (g.2.length : Int)
theorem szs_take {L : List (List (Nat × Str))} {i : Nat} {l : List (Nat × Str)} (h : L[i]? = some l) : szs (L.take (i + 1)) = szs (L.take i) ++ l.map fun g => (g.2.length : Int) := by
  unfold szs
  rw [take_snoc h, List.flatMap_append]
  simp
theorem szs_len : ∀ (L : List (List (Nat × Str))), (∀ l ∈ L, l.length ≤ 8) → (szs L).length ≤ 1 + 8 * L.length
  | [], _ => by simp [szs]
  | l :: r, h => by
    have h1 := szs_len r fun x hx => h x (List.mem_cons_of_mem _ hx)
    have h2 := h l List.mem_cons_self
    unfold szs at h1 ⊢
    simp only [List.length_cons, List.flatMap_cons, List.length_append, List.length_map] at h1 ⊢
    omega
theorem szs_mem {L : List (List (Nat × Str))} {l : List (Nat × Str)} {g : Nat × Str} (hl : l ∈ L) (hg : g ∈ l) : (g.2.length : Int) ∈ szs L :=
  List.mem_cons_of_mem _ (List.mem_flatMap.mpr ⟨l, hl, List.mem_map.mpr ⟨g, hg, rfl⟩⟩)
/-! ### heaps: a list of lists -/
def LotR : Rl (List (Nat × Str)) := fun H v l => ∃ p, v = .ref p ∧ LstAt LgR H p l
theorem LotR.ex {H H' : Hp} {v : V} {l : List (Nat × Str)} (h : LotR H v l) (e : Ex H H') : LotR H' v l :=
  let ⟨p, h1, h2⟩ := h
  ⟨p, h1, h2.ex LgR.mono e⟩
theorem hid_hid {H H' : Hp} {o : Addr} (h : Ex H H') : Ex (hid H o) (hid H' o) := ex_hid ((hid_ex H o).trans h) (hid_at H o)
theorem hid_upd (H : Hp) (o : Addr) (u : HO) : hid (upd H o u) o = hid H o := by
  funext b
  by_cases hb : b = o
  · rw [hb, hid_at, hid_at]
  · rw [hid_ne hb, hid_ne hb, upd_ne hb]
/-- a list at D of lists that stand elsewhere -/
def LotsAt (H : Hp) (D : Addr) (L : List (List (Nat × Str))) : Prop := ∃ vs, H D = some (.lst vs) ∧ All2 (LotR (hid H D)) vs L
theorem LotsAt.ex {H H' : Hp} {D : Addr} {L : List (List (Nat × Str))} (h : LotsAt H D L) (e : Ex H H') : LotsAt H' D L :=
  let ⟨vs, h1, h2⟩ := h
  ⟨vs, e.lst h1, h2.mono fun _ _ q => q.ex (hid_hid e)⟩
theorem LotsAt.app {H : Hp} {D p : Addr} {vs : List V} {L : List (List (Nat × Str))} {l : List (Nat × Str)} (h1 : H D = some (.lst vs)) (h2 : All2 (LotR (hid H D)) vs L) (hp : p ≠ D) (hl : LstAt LgR H p l) : LotsAt (upd H D (.lst (vs ++ [.ref p]))) D (L ++ [l]) := by
  refine ⟨_, upd_same, ?_⟩
  rw [hid_upd]
  obtain ⟨xs, e1, e2⟩ := hl
  exact h2.snoc ⟨p, rfl, xs, by rw [hid_ne hp]; exact e1, e2.mono fun _ _ => LgR.mono _ _ _ _ (tp_hid h1)⟩
theorem LotsAt.get {H : Hp} {D : Addr} {L : List (List (Nat × Str))} {vs : List V} {i : Nat} {x : V} (h1 : H D = some (.lst vs)) (h2 : All2 (LotR (hid H D)) vs L) (e : vs[i]? = some x) : ∃ p l xs, x = .ref p ∧ L[i]? = some l ∧ H p = some (.lst xs) ∧ All2 (LgR H) xs l := by
  obtain ⟨l, hl, p, rfl, xs, e1, e2⟩ := h2.getL e
  refine ⟨p, l, xs, rfl, hl, (hid_ex H D).lst e1, e2.mono fun _ _ => LgR.mono _ _ _ _ (hid_ex H D).tp⟩
/-! ### rows -/
theorem ext1_len {M : Mach} (h2 : ∀ st ∈ M, st.length ≤ 2) (s : Nat) (one : List Nat) : (ext1 M s one).length ≤ 2 := by
  unfold ext1
  by_cases h : stt M (endS M s one) = []
  · rw [if_pos h]
    simp
  · rw [if_neg h, List.length_map, List.length_range]
    by_cases hi : endS M s one < M.length
    · exact h2 _ (stt_in hi)
    · exact absurd (stt_out hi) h
theorem ext_len {M : Mach} (h2 : ∀ st ∈ M, st.length ≤ 2) (s : Nat) : ∀ R : List (List Nat), (ext M s R).length ≤ 2 * R.length
  | [] => Nat.zero_le _
  | one :: r => by
    have h1 := ext_len h2 s r
    have h3 := ext1_len h2 s one
    unfold ext at h1 ⊢
    rw [List.flatMap_cons, List.length_append, List.length_cons]
    omega
theorem rws_len {M : Mach} (h2 : ∀ st ∈ M, st.length ≤ 2) (k s : Nat) : (rws M k s).length ≤ 2 ^ k := by
  unfold rws
  rw [List.length_map]
  exact gopt_len h2 k s
theorem rws_mem {M : Mach} {k s : Nat} {r : List Nat} (h : r ∈ rws M k s) : okL M s r ∧ r.length ≤ k := by
  unfold rws at h
  obtain ⟨g, hg, rfl⟩ := List.mem_map.mp h
  obtain ⟨h1, _, _, h4⟩ := gopt_is M k s g hg
  exact ⟨h1, h4⟩
theorem rws_ne {M : Mach} {k s : Nat} (hs : stt M s ≠ []) (hk : 1 ≤ k) {r : List Nat} (h : r ∈ rws M k s) : r ≠ [] := by
  obtain ⟨m, rfl⟩ : ∃ m, k = m + 1 := ⟨k - 1, by omega⟩
  unfold rws at h
  obtain ⟨g, hg, rfl⟩ := List.mem_map.mp h
  have e : gopt M (m + 1) s = gfl (gopt M m) 0 (stt M s) := if_neg hs
  rw [e] at hg
  obtain ⟨j, x, g', _, _, rfl⟩ := gfl_mem _ _ _ _ hg
  exact List.cons_ne_nil _ _
theorem life_fun {H : Hp} {v : V} {L L' : List Nat} (h : LifeR H v L) (k : LifeR H v L') : L = L' := by
  obtain ⟨a, rfl, h1⟩ := nat_tup h
  obtain ⟨b, e, h2⟩ := nat_tup k
  cases e
  rw [h1] at h2
  have h3 := HO.tup.inj (Option.some.inj h2)
  have inj : Function.Injective nV := fun x y e => by
    have := V.int.inj e
    omega
  exact (List.map_inj_right inj).mp h3
open Classical in
/-- the life that stands at v -/
noncomputable def lifeOf (H : Hp) (v : V) : List Nat := if h : ∃ L, LifeR H v L then choose h else []
theorem lifeOf_eq {H : Hp} {v : V} {L : List Nat} (h : LifeR H v L) : lifeOf H v = L := by
  have hh : ∃ L, LifeR H v L := ⟨L, h⟩
  unfold lifeOf
  rw [dif_pos hh]
  exact life_fun (Classical.choose_spec hh) h
theorem life_tupI {K : PySem.W.Frag} {H : Hp} {v : V} {L : List Nat} (h : LifeR H v L) : TupI K H v (L.map Int.ofNat) := by
  obtain ⟨a, rfl, h1⟩ := nat_tup h
  refine ⟨a, rfl, .inl (.inl ?_)⟩
  rw [h1, List.map_map]
  rfl
/-- what sorted leaves at a place -/
theorem sorted_at {K : PySem.W.Frag} {H : Hp} {M : Mach} {k s o : Nat} {xs ys : List V} (h : All2 (LifeR H) xs (rws M k s)) (hp : ys.Perm xs) (hw : ys.Pairwise (fun x y => ∀ n m, TupI K H x n → TupI K H y m → HT.lexLt m n = false)) {r : List Nat} (ho : (rws M k s)[o]? = some r) :
    ∃ y, ys[o]? = some y ∧ LifeR H y r := by
  have all : ∀ v ∈ xs, LifeR H v (lifeOf H v) := fun v hv => by
    obtain ⟨i, hi, e⟩ := List.mem_iff_getElem.mp hv
    obtain ⟨L, _, hL⟩ := h.getL (List.getElem?_eq_getElem hi)
    rw [e] at hL
    rw [lifeOf_eq hL]
    exact hL
  have e1 : xs.map (lifeOf H) = rws M k s := by
    refine List.ext_getElem? fun i => ?_
    rw [List.getElem?_map]
    cases e : (rws M k s)[i]? with
    | none =>
      have : xs.length ≤ i := by
        rw [h.len]
        exact List.getElem?_eq_none_iff.mp e
      rw [List.getElem?_eq_none_iff.mpr this]
      rfl
    | some L =>
      obtain ⟨a, e2, e3⟩ := h.get e
      rw [e2, ← lifeOf_eq e3]
      rfl
  have e2 : ys.map (lifeOf H) = rws M k s := by
    refine sorted_same (lt := MG.lt) (fun a b => StV.lex_asym _ _) _ _ (rws_sorted M k s) (by rw [← e1]; exact hp.map _) ?_
    rw [List.pairwise_map]
    refine hw.imp_of_mem fun {x y} hx hy q => ?_
    exact q _ _ (life_tupI (all x (hp.mem_iff.mp hx))) (life_tupI (all y (hp.mem_iff.mp hy)))
  have e3 : (ys.map (lifeOf H))[o]? = some r := by
    rw [e2]
    exact ho
  rw [List.getElem?_map] at e3
  obtain ⟨y, hy, rfl⟩ := Option.map_eq_some_iff.mp e3
  exact ⟨y, hy, all y (hp.mem_iff.mp (List.mem_of_getElem? hy))⟩
end DJ

set_option Elab.async false
set_option linter.all false
set_option maxRecDepth 100000
set_option maxHeartbeats 8000000
/-! the law. -/
namespace DK
open PySem PySem.Spec PyProof.Rows L2 HR MG TX DA DB DC DD DE DF DG DH DI DJ
section
variable {P : Program} {w : World} {K : PySem.W.Frag} {mg : Str → Option Value} {base : Heap}
def spLaw (K : PySem.W.Frag) (T : List Addr) : Sp := fun vs H Q _ => ∃ (a : Addr) (ns : List Int), vs = [.ref a] ∧ SqL K H a (ns.map V.int) ∧ TT T H ∧ ∀ H', Q (.bl true) H'
abbrev N36 : List Str := ["_law_script", "_law_row", "_law_machine_here", "_law_many", "_law_lots", "_law_sizes", "_law_lot", "_law_due", "_law_found", "_law_turn", "_law_life_here", "_law_letters", "_law_plain", "_law_state", "_law_option", "_law_rows", "_law_last", "_law_step", "_law_longer", "_law_one", "_law_here", "_law_at", "_law_end", "_law_word", "_law_more"]
theorem sc36 : FnScope N36 ["_law_script"] (defScope (top 36)) := ⟨rfl, rfl, rfl, by decide +kernel, rfl, by decide +kernel, by decide +kernel⟩
theorem ok_lawF {T : List Addr} {fL : Addr} {fdL : FuncData} (G : G0 mg) (FL : Fun K "law" "law" (top 36) fL fdL) (CMa : Cal P w K mg base "_law_machine" 3 ["_law_row", "_law_most", "_law_options"] (spLM K)) (CT : Cal P w K mg base "_law_taken" 1 ["_law_row", "_law_many"] (spTaken K))
    (CLg : Cal P w K mg base "_law_gathered" 4 ["_law_machine_here", "_law_state", "_law_many"] (fun vs H Q E => ∃ n, n ≤ 3 ∧ spLG n vs H Q E)) (CGa : Cal P w K mg base "gathered" 8 ["machine", "many"] (spGath T)) (CA : Cal P w K mg base "_law_alike" 4 ["_law_found", "_law_due"] (spAl 3))
    (CLi : Cal P w K mg base "_law_life" 2 ["_law_row", "_law_machine_here", "_law_most"] (spLLife K)) (CWo : Cal P w K mg base "words_of" 7 ["machine", "life"] (spWords T)) (CB : Cal P w K mg base "_law_state_behind" 1 ["_law_machine_here", "_law_life_here"] spLBeh)
    (CEn : Cal P w K mg base "end_of" 7 ["machine", "life"] (spEnd T)) : FnOk P w K mg base CX0 9 fL fdL ["_law_script"] (spLaw K T) := by
  refine FL.ok sc36 (fun vs H Q E h => ?_) (fun cdv A outer s0 H vs Q E hr h => ?_)
  · obtain ⟨a, ns, rfl, _⟩ := h
    rfl
  · obtain ⟨a, ns, rfl, hS, tt, q⟩ := h
    refine ⟨_, (pss_cons (ps_set (i := 1) sc36.nd rfl (.inl rfl) (pe_lst (pa_cons (pv 0) (pa_cons pe_int (pa_cons pe_int (pa_cons pe_int pa_nil))))))
      (pss_cons (ps_asg (pe_tup (pa_cons (CMa.pe hr (pa_cons (pv 1) (pa_cons pe_int (pa_cons pe_int pa_nil)))) (pa_cons (pe_op op_add pe_int (CT.pe hr (pa_cons (pv 1) (pa_cons pe_int pa_nil)))) pa_nil))) (pg_tup rfl (pgs_cons (pg_name (i := 2) sc36.nd rfl (Or.inr rfl)) (pgs_cons (pg_name (i := 3) sc36.nd rfl (Or.inr rfl)) pgs_nil))))
      (pss_cons (ps_setLc (i := 4) (own := [("_law_at", 21), ("_law_state", 13)]) rfl sc36.nd rfl rfl (sw_true rfl rfl rfl (by decide +kernel)) (EnT.pi_enumT (by rfl) G.enum (pa_cons (pv 2) pa_nil)) (blkOk_by (N := N36) (sc := defScope (top 36)) (by decide +kernel)) (fun _ _ _ _ _ => (tupK (K := K) (n := 2) rfl rfl (pgs_cons (pg_name (i := 21) sc36.nd rfl (Or.inl rfl)) (pgs_cons (pg_name (i := 13) sc36.nd rfl (Or.inl rfl)) pgs_nil)))) (fun _ _ _ _ _ => pts_nil) (fun _ _ _ _ _ => (pe_ifExp (pt_cmpR (op_eqDK (K := K) rfl hr.units) (pv 13) (pe_tup pa_nil) (nomark _)) (pe_lst pa_nil) (CLg.pe hr (pa_cons (pv 2) (pa_cons (pv 21) (pa_cons (pv 3) pa_nil)))))))
      (pss_cons (ps_set (i := 5) sc36.nd rfl (.inl rfl) (pe_lst (pa_cons pe_int pa_nil)))
      (pss_cons (ps_for PassesOwn.never rfl (pi_list (pv 4)) (pg_name (i := 6) sc36.nd rfl (Or.inl rfl))
      (pss_one (ps_set (i := 5) sc36.nd rfl (.inl rfl) (pe_op op_cat (pv 5) (pe_lc (own := [("_law_end", 22), ("_law_word", 23)]) rfl sc36.nd (pi_list (pv 6)) (blkOk_by (N := N36) (sc := defScope (top 36)) (by decide +kernel)) (fun _ _ _ _ _ => (tupK (K := K) (n := 2) rfl rfl (pgs_cons (pg_name (i := 22) sc36.nd rfl (Or.inl rfl)) (pgs_cons (pg_name (i := 23) sc36.nd rfl (Or.inl rfl)) pgs_nil)))) (fun _ _ _ _ _ => pts_nil) (fun _ _ _ _ _ => (len_t G (pv 23))))))))
      (pss_cons (ps_if (PW.pt (pw_or (pt_cmpR op_gt (pe_callB (cr_max rfl) (by rfl) G.max b_max (pa_cons (pe_lc (own := [("_law_lot", 6)]) rfl sc36.nd (pi_list (pv 4)) (blkOk_by (N := N36) (sc := defScope (top 36)) (by decide +kernel)) (fun _ _ _ _ _ => (pg_name (i := 6) sc36.nd rfl (Or.inl rfl))) (fun _ _ _ _ _ => pts_nil) (fun _ _ _ _ _ => (len_sK (K := K) rfl G (pv 6)))) pa_nil)) pe_int (nomark _)) (pw_or1 (pt_cmpR op_gt (pe_callB (cr_max rfl) (by rfl) G.max b_max (pa_cons (pv 5) pa_nil)) pe_int (nomark _))))) (pss_one (ps_ret pe_bl)) pss_nil)
      (pss_cons (ps_set (i := 7) sc36.nd rfl (.inl rfl) (pe_callTy call_tuple_of (by rfl) G.tuple b_tuple (pa_cons (pe_lc (own := [("_law_lot", 6)]) rfl sc36.nd (pi_list (pv 4)) (blkOk_by (N := N36) (sc := defScope (top 36)) (by decide +kernel)) (fun _ _ _ _ _ => (pg_name (i := 6) sc36.nd rfl (Or.inl rfl))) (fun _ _ _ _ _ => pts_nil) (fun _ _ _ _ _ => (pe_callTy (callTupK (K := K) rfl) (by rfl) G.tuple b_tuple (pa_cons (pe_lc (own := [("_law_end", 22), ("_law_word", 23)]) rfl sc36.nd (pi_listK (K := K) rfl (pv 6)) (blkOk_by (by rfl)) (fun _ _ _ _ _ => (tupK (K := K) (n := 2) rfl rfl (pgs_cons (pg_name (i := 22) sc36.nd rfl (Or.inl rfl)) (pgs_cons (pg_name (i := 23) sc36.nd rfl (Or.inl rfl)) pgs_nil)))) (fun _ _ _ _ _ => pts_nil) (fun _ _ _ _ _ => (pe_tup (pa_cons (pv 22) (pa_cons (pe_ifExp (pt_cmpR op_ne (pv 23) pe_str (nomark _)) (pv 23) pe_non) pa_nil))))) pa_nil)))) pa_nil)))
      (pss_cons (ps_set (i := 8) sc36.nd rfl (.inl rfl) (CGa.pe hr (pa_cons (pv 2) (pa_cons (pv 3) pa_nil))))
      (pss_cons (ps_if (PW.pt (pw_or (pt_not (pt_val (CA.pe hr (pa_cons (pv 8) (pa_cons (pv 7) pa_nil))))) (pw_or1 (pt_not (pt_val (CA.pe hr (pa_cons (CGa.pe hr (pa_cons (pv 2) (pa_cons pe_int pa_nil))) (pa_cons (pv 2) pa_nil)))))))) (pss_one (ps_ret pe_bl)) pss_nil)
      (pss_cons (ps_for PassesOwn.never rfl (pi_range1 (by rfl) G.range (pa_cons pe_int pa_nil)) (pg_name (i := 9) sc36.nd rfl (Or.inl rfl))
      (pss_cons (ps_set (i := 10) sc36.nd rfl (.inl rfl) (CLi.pe hr (pa_cons (pv 1) (pa_cons (pv 8) (pa_cons pe_int pa_nil)))))
      (pss_cons (ps_set (i := 11) sc36.nd rfl (.inl rfl) (pe_join pe_str (CWo.pe hr (pa_cons (pv 8) (pa_cons (pv 10) pa_nil)))))
      (pss_cons (ps_asg (pe_tup (pa_cons (pe_tup pa_nil) (pa_cons pe_int pa_nil))) (pg_tup rfl (pgs_cons (pg_name (i := 12) sc36.nd rfl (Or.inl rfl)) (pgs_cons (pg_name (i := 13) sc36.nd rfl (Or.inl rfl)) pgs_nil))))
      (pss_cons (ps_for PassesOwn.never rfl (pi_tup (pv 10)) (pg_name (i := 14) sc36.nd rfl (Or.inl rfl))
      (pss_cons (ps_par (i := 15) (j := 16) (by rfl) sc36.nd rfl rfl (by decide) rfl rfl (pa_cons (pe_lst (pa_cons (pe_tup pa_nil) pa_nil)) (pa_cons (pe_lst pa_nil) pa_nil)) (by rfl))
      (pss_cons (ps_for PassesOwn.never rfl (pi_range1 (by rfl) G.range (pa_cons (pv 3) pa_nil)) (pg_name (i := 17) sc36.nd rfl (Or.inl rfl))
      (pss_cons (ps_set (i := 18) sc36.nd rfl (.inl rfl) (pe_lst pa_nil))
      (pss_cons (ps_for PassesOwn.never rfl (pi_list (pv 15)) (pg_name (i := 19) sc36.nd rfl (Or.inr rfl))
      (pss_cons (ps_set (i := 20) sc36.nd rfl (.inl rfl) (pe_ix ix_tup (pv 2) (CB.pe hr (pa_cons (pv 2) (pa_cons (pe_op op_catA (pv 12) (pv 19)) pa_nil))) (fun _ _ => rfl)))
      (pss_one (ps_set (i := 18) sc36.nd rfl (.inl rfl) (pe_op op_cat (pv 18) (pe_ifExp (pt_cmpR (op_neD hr.units) (pv 20) (pe_tup pa_nil) (nomark _)) (pe_lc (own := [("_law_more", 24)]) rfl sc36.nd (pi_range1 (by rfl) G.range (pa_cons (len_s G (pv 20)) pa_nil)) (blkOk_by (N := N36) (sc := defScope (top 36)) (by decide +kernel)) (fun _ _ _ _ _ => (pg_name (i := 24) sc36.nd rfl (Or.inl rfl))) (fun _ _ _ _ _ => pts_nil) (fun _ _ _ _ _ => (pe_op (op_catAK (K := K) rfl) (pv 19) (pe_tup (pa_cons (pv 24) pa_nil))))) (pe_lst (pa_cons (pv 19) pa_nil))))))))
      (pss_one (ps_set (i := 15) sc36.nd rfl (.inl rfl) (pv 18))))))
      (pss_one (ps_set (i := 12) sc36.nd rfl (.inl rfl) (pe_op op_catA (pv 12) (pe_ix ix_list (pe_callB StV.cr_sortV (by rfl) G.sorted b_sorted (pa_cons (pv 15) pa_nil)) (pv 14) (fun _ _ => rfl))))))))
      (pss_one (ps_if (PW.pt (pw_or (pt_cmpR op_ne (pe_join pe_str (CWo.pe hr (pa_cons (pv 2) (pa_cons (pv 12) pa_nil)))) (pv 11) (nomark _)) (pw_or1 (pt_cmpR op_ne (CEn.pe hr (pa_cons (pv 2) (pa_cons (pv 12) pa_nil))) (CEn.pe hr (pa_cons (pv 8) (pa_cons (pv 10) pa_nil))) (nomark _))))) (pss_one (ps_ret pe_bl)) pss_nil)))))))
      (pss_one (ps_ret pe_bl)))))))))))), ?_⟩
    -- the row
    refine ⟨.ref a, rfl, sm1k (n := 4) (by decide), fun r nr => ?_⟩
    have ex1 : Ex H (upd H r (.lst [.ref a, .int 0, .int 7024, .int 0])) := Ex.new nr
    have hR1 : DF.Row a (upd H r (.lst [.ref a, .int 0, .int 7024, .int 0])) r := ⟨0, 7024, 0, upd_same, by decide, by decide, by decide⟩
    refine ⟨.ref r, rfl, r, a, ns, rfl, ex1.seq hS, hR1, fun H2 mv M ex2 hR2 hmv hM h2 h4 => ?_⟩
    have ex12 : Ex H H2 := (ex_hid ex1 nr).trans ex2
    refine ⟨.ref r, rfl, r, a, ns, 3, rfl, by decide, by decide, ex12.seq hS, hR2, fun H3 t ex3 hR3 ht => ⟨1, t, rfl, rfl, sm1k (n := 2) (by decide), fun tp ntp => ?_⟩⟩
    have exB : Ex H H3 := (ex_hid ex12 nr).trans ex3
    have e1t : V.int (1 + (t : Int)) = nV (1 + t) := by
      show V.int _ = V.int _
      rw [show ((1 + t : Nat) : Int) = 1 + (t : Int) by omega]
    refine ⟨tp, [mv, nV (1 + t)], rfl, .inl (.inl (by rw [← e1t]; exact upd_same)), rfl, _, _, rfl, _, _, rfl, rfl, ?_⟩
    have ext : Ex H3 (upd H3 tp (.tup [mv, .int (1 + (t : Int))])) := Ex.new ntp
    have ex4 : Ex H (upd H3 tp (.tup [mv, .int (1 + (t : Int))])) := exB.trans ext
    have hR4 : DF.Row a (upd H3 tp (.tup [mv, .int (1 + (t : Int))])) r := hR3.ex ext
    have hmv4 : MachR (upd H3 tp (.tup [mv, .int (1 + (t : Int))])) mv M := MachR.mono _ _ _ _ ((er_tp hR2 ex3).trans ext.tp) hmv
    obtain ⟨k, hk⟩ : ∃ k, k = 1 + t := ⟨_, rfl⟩
    rw [← hk]
    have k1 : 1 ≤ k := by omega
    have k3 : k ≤ 3 := by omega
    clear hk e1t ht
    refine gname_to ?_
    dsimp only
    change tSeq _ _ _ _ (upd H3 tp (.tup [mv, .int (1 + (t : Int))]))
    generalize upd H3 tp (.tup [mv, .int (1 + (t : Int))]) = H4 at ex4 hR4 hmv4 ⊢
    clear hR3 hR2 hmv ex12 ex3 exB ext ntp
    obtain ⟨am, us, rfl, ha, hus⟩ := hmv4
    have hlM := hus.len
    have hM4 : MachR H4 (.ref am) M := ⟨am, us, rfl, ha, hus⟩
    -- the lots
    refine ⟨.ref am, rfl, am, us, rfl, .inl (.inl ha), fun D nD => ?_⟩
    refine lc_it EnT.walk_enumT (fun i H' => Ex H4 H' ∧ LotsAt H' D ((lots M k).take i)) ⟨Ex.new nD, [], upd_same, .nil⟩ (fun i H' _ h => h.1.tp.sqt ha) (fun i x H5 H6 hi h hy => ?_) fun H5 h => ?_
    · obtain ⟨ex5, vs, hD, hall⟩ := h
      obtain ⟨T2, x1, x2, rfl, nT, rfl, e1, e2⟩ := hy
      cases (Option.some.inj e1 : V.int (i : Nat) = x1)
      have hi' : i < M.length := by omega
      obtain ⟨b, ws, e3, hb, hws⟩ := at_state hus hi'
      have e2' : us[i]? = some x2 := e2
      rw [e3] at e2'
      cases e2'
      have ext : Ex H5 (upd H5 T2 (.tup [nV i, .ref b])) := Ex.new nT
      refine ⟨T2, _, rfl, .inl (.inl upd_same), rfl, _, _, rfl, _, _, rfl, rfl, rfl, ?_⟩
      have ex6 := ex5.trans ext
      refine ⟨.ref b, rfl, Nat.zero_le _, fun t6 nt6 => ?_⟩
      have ext6 := ext.trans (Ex.new (o := .tup []) nt6)
      have ex7 := ex5.trans ext6
      refine eq_empty (R := OptR) (f := oD) opt_dp (fun e he => opt_lay e (hM.opts _ (stt_in hi') e he).2) (ex7.tp _ _ hb) (hws.mono fun _ _ => OptR.mono _ _ _ _ ex7.tp) upd_same ⟨_, rfl, ?_⟩
      have fin : ∀ H8 p, Ex H5 H8 → H5 p = none → LstAt LgR H8 p (lotOf M k i) → ∃ acc, H8 D = some (.lst acc) ∧ acc.length < sizeLine ∧ Ex H4 (upd H8 D (.lst (acc ++ [.ref p]))) ∧ LotsAt (upd H8 D (.lst (acc ++ [.ref p]))) D ((lots M k).take (i + 1)) := fun H8 p ex8 np hp => by
        have hD8 := ex8.lst hD
        refine ⟨vs, hD8, ?_, (ex5.trans ex8).set nD, ?_⟩
        · rw [hall.len, List.length_take, lots_len]
          exact small1000 (by omega)
        · rw [take_snoc (lots_at hi')]
          exact LotsAt.app hD8 (hall.mono fun _ _ q => q.ex (hid_hid ex8)) (fun e => by rw [e, hD] at np; cases np) hp
      cases hst : (stt M i).isEmpty with
      | true =>
        have el : lotOf M k i = [] := if_pos (List.isEmpty_iff.mp hst)
        refine iteT ⟨Nat.zero_le _, fun p np => fin _ p (ext6.trans (Ex.new np)) (ext6.free np) ?_⟩
        rw [el]
        exact LstAt.new
      | false =>
        have el : lotOf M k i = lgat M k i := if_neg (by rw [List.isEmpty_eq_false_iff] at hst; exact hst)
        refine iteF ⟨.ref am, rfl, nV i, rfl, nV k, rfl, k, k3, .ref am, M, i, rfl, MachR.mono _ _ _ _ ex7.tp hM4, hM, h2, hi', k3, fun H8 p ex8 np hp => fin H8 p (ext6.trans ex8) (ext6.free np) ?_⟩
        rw [el]
        exact hp
    · obtain ⟨ex5, hl⟩ := h
      rw [List.take_of_length_le (by rw [lots_len, hlM]; exact Nat.le_refl _)] at hl
      -- the sizes
      refine ⟨sm1k (n := 1) (by decide), fun z0 nz0 => ?_⟩
      have ez : Ex H5 (upd H5 z0 (.lst [.int 0])) := Ex.new nz0
      have hlz := hl.ex ez
      have exz := ex5.trans ez
      have hz0 : (upd H5 z0 (.lst [.int 0])) z0 = some (.lst ((szs ((lots M k).take 0)).map V.int)) := upd_same
      generalize upd H5 z0 (.lst [.int 0]) = H6 at hlz exz hz0 ⊢
      obtain ⟨vs, hD, hall⟩ := hlz
      refine ⟨.ref D, rfl, D, rfl, ⟨_, .inl (.inl hD)⟩, ?_⟩
      have hll := lots_len M k
      have hvl := hall.len
      refine for_it (walk_list (K := K) (a := D) (xs := vs)) (fun i σ H' => ∃ z y6 y7 y8 y9 y10 y11 y12 y13 y14 y15 y16 y17 y18 y19 y20 y21 y22 y23 y24, σ = [some (.ref a), some (.ref r), some (.ref am), some (nV k), some (.ref D), some (.ref z), y6, y7, y8, y9, y10, y11, y12, y13, y14, y15, y16, y17, y18, y19, y20, y21, y22, y23, y24] ∧ Ex H6 H' ∧ H' z = some (.lst ((szs ((lots M k).take i)).map V.int))) ⟨z0, _, _, _, _, _, _, _, _, _, _, _, _, _, _, _, _, _, _, _, rfl, Ex.refl _, hz0⟩ (fun i σ H' _ ⟨_, _, _, _, _, _, _, _, _, _, _, _, _, _, _, _, _, _, _, _, _, h, _⟩ => h.seq (.inl (.inl hD))) (fun i x σ H7 H8 hi h hy => ?_) fun σ H7 h => ?_
      · obtain ⟨z, y6, y7, y8, y9, y10, y11, y12, y13, y14, y15, y16, y17, y18, y19, y20, y21, y22, y23, y24, rfl, ex7, hz⟩ := h
        obtain ⟨rfl, hx⟩ := hy
        obtain ⟨p, l, xs, rfl, hli, hp, hpa⟩ := LotsAt.get hD hall hx
        have hlm : i < M.length := by omega
        have el : l = lotOf M k i := by
          rw [lots_at hlm] at hli
          exact (Option.some.inj hli).symm
        have hl8 : l.length ≤ 8 := by rw [el]; exact lot_len h2 k3 i
        refine ⟨.ref z, rfl, .ref p, rfl, p, rfl, ⟨_, .inl (.inl (ex7.lst hp))⟩, fun D2 nD2 => ?_⟩
        refine lc_it (walk_list (K := K) (a := p) (xs := xs)) (fun j H' => Ex H8 H' ∧ H' D2 = some (.lst (((l.take j).map fun g => (g.2.length : Int)).map V.int))) ⟨Ex.new nD2, upd_same⟩ (fun j H' _ h => (ex7.trans h.1).seq (.inl (.inl hp))) (fun j x H9 H10 hj h hy => ?_) fun H9 h => ?_
        · obtain ⟨ex9, hD2⟩ := h
          obtain ⟨rfl, hx⟩ := hy
          obtain ⟨g, hg, t6, u6, w6, rfl, ht, hu, hw⟩ := hpa.getL hx
          cases (hu : u6 = nV g.1)
          cases (hw : w6 = .str g.2)
          have hstr := lot_str hM (i := i) k3 (g := g) (by rw [← el]; exact List.mem_of_getElem? hg)
          refine ⟨t6, _, rfl, (ex7.trans ex9).tp.sqt ht, rfl, _, _, rfl, _, _, rfl, rfl, rfl, ?_⟩
          refine ⟨.str g.2, rfl, g.2, rfl, sm1k (by omega), _, hD2, ?_, ex9.set nD2, ?_⟩
          · rw [List.length_map, List.length_map, List.length_take]
            exact small1000 (by omega)
          · rw [upd_same, take_snoc hg, List.map_append, List.map_append]
            rfl
        · obtain ⟨ex9, hD2⟩ := h
          rw [hpa.len, List.take_of_length_le (Nat.le_refl _)] at hD2
          refine ⟨z, D2, _, _, rfl, rfl, ex9.lst hz, hD2, ?_, fun p2 np2 => ?_⟩
          · have b1 := szs_len ((lots M k).take i) fun l hl => by
              obtain ⟨j, hj, rfl⟩ := List.mem_map.mp (List.mem_of_mem_take hl)
              exact lot_len h2 k3 j
            rw [List.length_take] at b1
            rw [List.length_map, List.length_map, List.length_map]
            exact sm1k (by omega)
          · refine ⟨p2, _, _, _, _, _, _, _, _, _, _, _, _, _, _, _, _, _, _, _, rfl, (ex7.trans ex9).trans (Ex.new np2), ?_⟩
            rw [upd_same, szs_take hli, List.map_append]
      · obtain ⟨z, y6, y7, y8, y9, y10, y11, y12, y13, y14, y15, y16, y17, y18, y19, y20, y21, y22, y23, y24, rfl, ex7, hz⟩ := h
        rw [List.take_of_length_le (by omega)] at hz
        -- the most
        refine ⟨.ref D, rfl, D, rfl, ⟨_, .inl (.inl (ex7.lst hD))⟩, fun D3 nD3 => ?_⟩
        refine lc_it (walk_list (K := K) (a := D) (xs := vs)) (fun j H' => Ex H7 H' ∧ H' D3 = some (.lst ((((lots M k).take j).map fun l => (l.length : Int)).map V.int))) ⟨Ex.new nD3, upd_same⟩ (fun j H' _ h => (ex7.trans h.1).seq (.inl (.inl hD))) (fun j x H9 H10 hj h hy => ?_) fun H8 h => ?_
        · obtain ⟨ex9, hD3⟩ := h
          obtain ⟨rfl, hx⟩ := hy
          obtain ⟨p, l, xs, rfl, hli, hp, hpa⟩ := LotsAt.get hD hall hx
          refine ⟨rfl, .ref p, rfl, p, xs, rfl, .inl (.inl (.inl ((ex7.trans ex9).lst hp))), _, hD3, ?_, ex9.set nD3, ?_⟩
          · rw [List.length_map, List.length_map, List.length_take]
            exact small1000 (by omega)
          · rw [upd_same, take_snoc hli, List.map_append, List.map_append, hpa.len]
            rfl
        · obtain ⟨ex8, hD3⟩ := h
          rw [List.take_of_length_le (by omega)] at hD3
          have hp1 := hM.pos
          refine ⟨D3, _, rfl, .inl (.inl hD3), by rw [List.length_map]; omega, fun m hm hle => ⟨m, 6, rfl, rfl, _, rfl, ite2 (fun e => iteT (q _)) (fun e => ?_)⟩⟩
          have hc6 : ∀ l ∈ lots M k, l.length ≤ 6 := fun l hl => by
            have h1 := hle _ (List.mem_map.mpr ⟨l, hl, rfl⟩)
            have h2 := of_decide_eq_false (Bool.eq_false_iff.mpr e)
            omega
          refine ⟨.ref z, rfl, z, _, rfl, .inl (.inl (ex8.lst hz)), by unfold szs; simp, fun m2 hm2 hle2 => ⟨m2, 8, rfl, rfl, _, rfl, ite2 (fun e => q _) (fun e2 => ?_)⟩⟩
          have hw8 : ∀ l ∈ lots M k, ∀ g ∈ l, g.2.length ≤ 8 := fun l hl g hg => by
            have h1 := hle2 _ (szs_mem hl hg)
            have h2 := of_decide_eq_false (Bool.eq_false_iff.mpr e2)
            omega
          have few := few_of hc6
          have wrd := wrd_of hw8
          have ex48 : Ex H4 H8 := exz.trans (ex7.trans ex8)
          clear hz hle hle2 hm hm2 e e2 hD3
          -- what is due
          refine ⟨.ref D, rfl, D, rfl, ⟨_, .inl (.inl ((ex7.trans ex8).lst hD))⟩, fun D4 nD4 => ?_⟩
          have ex68 := ex7.trans ex8
          refine lc_it (walk_list (K := K) (a := D) (xs := vs)) (fun i H' => Ex H8 H' ∧ LstAt StR H' D4 ((gath M k).take i)) ⟨Ex.new nD4, LstAt.new⟩ (fun j H' _ h => (ex68.trans h.1).seq (.inl (.inl hD))) (fun i x H9 H10 hi h hy => ?_) fun H9 h => ?_
          · obtain ⟨ex9, fs, hfs, hfa⟩ := h
            obtain ⟨rfl, hx⟩ := hy
            obtain ⟨p, l, xs, rfl, hli, hp, hpa⟩ := LotsAt.get hD hall hx
            have ex6A := ex68.trans ex9
            have hgi : (gath M k)[i]? = some (l.map dpt) := by
              rw [gath_is, List.getElem?_map, hli]
              rfl
            have hl6 := hc6 l (List.mem_of_getElem? hli)
            refine ⟨rfl, .ref p, rfl, p, rfl, ⟨_, .inl (.inl (ex6A.lst hp))⟩, fun D5 nD5 => ?_⟩
            refine lc_it (walk_list (K := K) (a := p) (xs := xs)) (fun j H' => Ex H10 H' ∧ LstAt OptR H' D5 ((l.take j).map dpt)) ⟨Ex.new nD5, LstAt.new⟩ (fun j H' _ h => (ex6A.trans h.1).seq (.inl (.inl hp))) (fun j x H11 H12 hj h hy => ?_) fun H11 h => ?_
            · obtain ⟨ex11, gs, hgs, hga⟩ := h
              obtain ⟨rfl, hx⟩ := hy
              obtain ⟨g, hg, t6, u6, w6, rfl, ht, hu, hw⟩ := hpa.getL hx
              cases (hu : u6 = nV g.1)
              cases (hw : w6 = .str g.2)
              have fin : ∀ (y : V), y = wV (wo g.2) → 2 ≤ sizeLine ∧ ∀ t2, H12 t2 = none → ∃ acc, (upd H12 t2 (.tup [nV g.1, y])) D5 = some (.lst acc) ∧ acc.length < sizeLine ∧ Ex H10 (upd (upd H12 t2 (.tup [nV g.1, y])) D5 (.lst (acc ++ [.ref t2]))) ∧ LstAt OptR (upd (upd H12 t2 (.tup [nV g.1, y])) D5 (.lst (acc ++ [.ref t2]))) D5 ((l.take (j + 1)).map dpt) := fun y hyw => by
                refine ⟨sm1k (n := 2) (by decide), fun t2 nt2 => ?_⟩
                have ex12 := Ex.new (o := .tup [nV g.1, y]) nt2
                refine ⟨gs, ex12.lst hgs, ?_, (ex11.trans ex12).set nD5, ?_⟩
                · rw [hga.len, List.length_map, List.length_take]
                  exact small1000 (by omega)
                · rw [take_snoc hg, List.map_append]
                  exact LstAt.app (R := OptR) (x := dpt g) OptR.mono (ex12.lst hgs) (hga.mono fun _ _ => OptR.mono _ _ _ _ ex12.tp) ⟨t2, _, _, rfl, upd_same, rfl, hyw⟩
              refine ⟨t6, _, rfl, (ex6A.trans ex11).tp.sqt ht, rfl, _, _, rfl, _, _, rfl, rfl, rfl, ?_⟩
              refine ⟨nV g.1, rfl, .str g.2, rfl, rfl, _, rfl, ?_⟩
              by_cases hz : g.2.length = 0
              · have e0' : g.2 = Str.ofString "" := by rw [len_zero hz]; exact e0.symm
                rw [decide_eq_true (show V.str g.2 = V.str (Str.ofString "") by rw [e0'])]
                exact iteF (fin .non (by unfold wo; rw [if_pos hz]; rfl))
              · rw [decide_eq_false (show ¬ V.str g.2 = V.str (Str.ofString "") from fun e => hz (by rw [V.str.inj e]; decide +kernel))]
                exact iteT ⟨_, rfl, fin _ (by unfold wo; rw [if_neg hz]; rfl)⟩
            · obtain ⟨ex11, hl⟩ := h
              rw [hpa.len, List.take_of_length_le (Nat.le_refl _)] at hl
              obtain ⟨gs, hgs, hga⟩ := hl
              refine ⟨D5, _, rfl, .inl ⟨.inl (.inl hgs), fun l2 nl2 => ?_⟩⟩
              have ex12 := ex11.trans (Ex.new (o := .tup gs) nl2)
              refine ⟨fs, ex12.lst hfs, ?_, (ex9.trans ex12).set nD4, ?_⟩
              · rw [hfa.len, List.length_take, gath_len]
                exact small1000 (by omega)
              · rw [take_snoc hgi]
                exact LstAt.app (R := StR) StR.mono (ex12.lst hfs) (hfa.mono fun _ _ => StR.mono _ _ _ _ ex12.tp) (TupOf.new OptR.mono nl2 hga)
          · obtain ⟨ex9, hl⟩ := h
            rw [List.take_of_length_le (by rw [gath_len]; omega)] at hl
            obtain ⟨fs, hfs, hfa⟩ := hl
            refine ⟨D4, _, rfl, .inl ⟨.inl (.inl hfs), fun dv ndv => ?_⟩⟩
            have hdue : MachR (upd H9 dv (.tup fs)) (.ref dv) (gath M k) := TupOf.new StR.mono ndv hfa
            have ex4A : Ex H4 (upd H9 dv (.tup fs)) := ex48.trans (ex9.trans (Ex.new ndv))
            -- gathered, alike
            refine ⟨.ref am, rfl, nV k, rfl, .ref am, M, k, rfl, MachR.mono _ _ _ _ ex4A.tp hM4, hM, h2, k1, k3, few, wrd, tt.ex (ex4.trans ex4A), fun H11 fv ex11 hfv => ?_⟩
            have ex4B := ex4A.trans ex11
            have g40 : (gath M k).length ≤ 40 := by rw [gath_len]; omega
            refine ⟨fv, rfl, .ref dv, rfl, fv, .ref dv, rfl, eqv_mach hfv (MachR.mono _ _ _ _ ex11.tp hdue) (by omega) (fun st hs => by have := few st hs; omega), fun H12 ex12 => ⟨true, rfl, iteF ?_⟩⟩
            have ex4C := ex4B.trans ex12
            have g1 : gath M 1 = M := gath_one fun st hs e he => (hM.opts st hs e he).2
            refine ⟨.ref am, rfl, .ref am, M, 1, rfl, MachR.mono _ _ _ _ ex4C.tp hM4, hM, h2, Nat.le_refl _, by decide, by rw [g1]; exact hM.few, ?_, tt.ex (ex4.trans ex4C), fun H13 yv ex13 hyv => ?_⟩
            · rw [g1]
              intro st hs e he z hz
              have := (hM.opts st hs e he).2
              rw [hz] at this
              exact this.2.1
            rw [g1] at hyv
            have ex4D := ex4C.trans ex13
            refine ⟨.ref am, rfl, yv, .ref am, rfl, eqv_mach hyv (MachR.mono _ _ _ _ ex4D.tp hM4) (by omega) (fun st hs => by have := h2 st hs; omega), fun H14 ex14 => ⟨true, rfl, iteF ?_⟩⟩
            have ex4E := ex4D.trans ex14
            have hR14 := hR4.ex ex4E
            have hfv14 : MachR H14 fv (gath M k) := MachR.mono _ _ _ _ ((ex12.trans ex13).trans ex14).tp hfv
            have hM14 : MachR H14 (.ref am) M := MachR.mono _ _ _ _ ex4E.tp hM4
            have exZ : Ex H H14 := ex4.trans ex4E
            have hF := gath_ok hM k few wrd
            obtain ⟨am', us', eam, ha14, hus14⟩ := hM14
            cases eam
            have hM14 : MachR H14 (.ref am) M := ⟨am, us', rfl, ha14, hus14⟩
            -- the turns
            refine ⟨3, rfl, by decide, by decide, ?_⟩
            refine for_it walk_range (fun i σ H' => ∃ y4 y5 y6 y7 y9 y10 y11 y12 y13 y14 y15 y16 y17 y18 y19 y20 y21 y22 y23 y24, σ = [some (.ref a), some (.ref r), some (.ref am), some (nV k), y4, y5, y6, y7, some (fv), y9, y10, y11, y12, y13, y14, y15, y16, y17, y18, y19, y20, y21, y22, y23, y24] ∧ Ex (hid H14 r) H' ∧ DF.Row a H' r) ⟨_, _, _, _, _, _, _, _, _, _, _, _, _, _, _, _, _, _, _, _, rfl, hid_ex _ _, hR14⟩ (fun _ _ _ _ _ => True.intro) (fun i x σ H15 H15' hi h hy => ?_) fun σ H15 h => q _
            obtain ⟨y4, y5, y6, y7, y9, y10, y11, y12, y13, y14, y15, y16, y17, y18, y19, y20, y21, y22, y23, y24, rfl, exT, hRT⟩ := h
            obtain ⟨rfl, hx⟩ := hy
            clear hx
            refine ⟨.ref r, rfl, fv, rfl, r, a, ns, fv, gath M k, rfl, MachR.mono _ _ _ _ (er_tp hR14 exT) hfv14, hF, ((ex_hid exZ nr).trans exT).seq hS, hRT, fun H16 uv L ex16 hR16 huv hL hL4 => ?_⟩
            have exT16 : Ex (hid H14 r) H16 := er_trans exT ex16
            have exH16 : Ex H H16 := (ex_hid exZ nr).trans exT16
            have tp16 := er_tp hR14 exT16
            have hfv16 := MachR.mono _ _ _ _ tp16 hfv14
            have hM16 := MachR.mono _ _ _ _ tp16 hM14
            have ha16 := tp16 _ _ ha14
            have hus16 : All2 (StR H16) us' M := hus14.mono fun _ _ => StR.mono _ _ _ _ tp16
            obtain ⟨bu, rfl, hbu⟩ := nat_tup huv
            refine ⟨⟨_, rfl⟩, fv, rfl, .ref bu, rfl, fv, .ref bu, gath M k, L, rfl, hfv16, huv, hF, hL, by omega, tt.ex exH16, fun H17 yw ex17 hyw => ?_⟩
            obtain ⟨bw, rfl, hbw⟩ := str_tup hyw
            have wok := wds_ok hF L 0 hL
            refine ⟨_, bw, wds (gath M k) 0 L, rfl, rfl, .inr (.inl (.inl hbw)), ?_, ?_⟩
            · have := cat_len _ wok.2
              rw [sum_len]
              show _ + _ * 0 ≤ _
              omega
            rw [txt_join]
            refine ⟨Nat.zero_le _, fun t1 nt1 => ⟨sm1k (n := 2) (by decide), fun t2 nt2 => ?_⟩⟩
            refine ⟨t2, _, rfl, .inl (.inl upd_same), rfl, _, _, rfl, _, _, rfl, rfl, ?_⟩
            have ey1 := Ex.new (o := .tup []) nt1
            have ey2 := Ex.new (o := .tup [.ref t1, .int 0]) nt2
            have hpl0 : LifeR (upd (upd H17 t1 (.tup [])) t2 (.tup [.ref t1, .int 0])) (.ref t1) (plain M k 0 (L.take 0)) := ⟨t1, [], rfl, ey2.tp _ _ upd_same, .nil⟩
            have ex18 := (ex17.trans ey1).trans ey2
            refine gname_to ?_
            dsimp only
            change tSeq _ _ _ _ (upd (upd H17 t1 (.tup [])) t2 (.tup [.ref t1, .int 0]))
            generalize upd (upd H17 t1 (.tup [])) t2 (.tup [.ref t1, .int 0]) = H18 at hpl0 ex18 ⊢
            refine ⟨.ref bu, rfl, bu, rfl, ⟨_, ex18.tp.sqt hbu⟩, ?_⟩
            refine for_it (walk_tup (K := K) (a := bu) (xs := L.map nV)) (fun i σ H' => ∃ pl y4 y5 y6 y7 y9 y13 y14 y15 y16 y17 y18 y19 y20 y21 y22 y23 y24, σ = [some (.ref a), some (.ref r), some (.ref am), some (nV k), y4, y5, y6, y7, some (fv), y9, some (.ref bu), some (.str (cat (wds (gath M k) 0 L))), some (pl), y13, y14, y15, y16, y17, y18, y19, y20, y21, y22, y23, y24] ∧ Ex H16 H' ∧ LifeR H' pl (plain M k 0 (L.take i))) ⟨.ref t1, _, _, _, _, _, _, _, _, _, _, _, _, _, _, _, _, _, rfl, ex18, hpl0⟩
              (fun i σ H' _ ⟨_, _, _, _, _, _, _, _, _, _, _, _, _, _, _, _, _, _, _, h, _⟩ => h.tp.sqt hbu) (fun i x σ H19 H19' hi h hy => ?_) fun σ H19 h => ?_
            · obtain ⟨pl, y4, y5, y6, y7, y9, y13, y14, y15, y16, y17, y18, y19, y20, y21, y22, y23, y24, rfl, ex19, hpl⟩ := h
              obtain ⟨rfl, hx⟩ := hy
              have hi' : i < L.length := by simpa using hi
              obtain ⟨o, hLi⟩ : ∃ o, L[i]? = some o := ⟨_, List.getElem?_eq_getElem hi'⟩
              rw [List.getElem?_map, hLi] at hx
              cases (Option.some.inj hx : nV o = x)
              obtain ⟨c1, c2, c3, c4⟩ := plain_is M k (L.take i) 0 (okL_take hL i)
              have ho := okL_at hL hLi
              rw [← c2] at ho
              have hstep := plain_take (M := M) (k := k) 0 hLi
              have c5 : (plain M k 0 (L.take i)).length ≤ 12 := by
                have h1 : (L.take i).length ≤ 4 := by
                  rw [List.length_take]
                  omega
                have := Nat.mul_le_mul k3 h1
                omega
              generalize plain M k 0 (L.take i) = pn at hpl c1 c2 c3 c4 c5 ho hstep
              obtain ⟨s, hs⟩ : ∃ s, endS M 0 pn = s := ⟨_, rfl⟩
              rw [hs] at ho hstep
              have hsne := gst_ne ho
              obtain ⟨g, hg, hgo, hgr, _⟩ := row_at ho
              have hgm : g.1 ∈ rws M k s := List.mem_of_getElem? hgo
              obtain ⟨hgok, hgl⟩ := rws_mem hgm
              obtain ⟨bp, rfl, hbp⟩ := nat_tup hpl
              -- the rows
              refine ⟨Nat.zero_le _, fun t3 nt3 => ⟨sm1k (n := 1) (by decide), fun ro0 nro0 => ⟨Nat.zero_le _, fun la nla => ⟨.ref ro0, .ref la, rfl, ?_⟩⟩⟩⟩
              have ey3 := Ex.new (o := .tup []) nt3
              have ey4 := Ex.new (o := .lst [.ref t3]) nro0
              have ey5 := Ex.new (o := .lst []) nla
              have hro0 : LstAt LifeR (upd (upd (upd H19' t3 (.tup [])) ro0 (.lst [.ref t3])) la (.lst [])) ro0 (rws M 0 s) := ⟨[.ref t3], ey5.lst upd_same, .cons ⟨t3, [], rfl, (ey4.trans ey5).tp _ _ upd_same, .nil⟩ .nil⟩
              have ex20 := (ey3.trans ey4).trans ey5
              generalize upd (upd (upd H19' t3 (.tup [])) ro0 (.lst [.ref t3])) la (.lst []) = H20 at hro0 ex20 ⊢
              refine ⟨nV k, rfl, k, rfl, by omega, by omega, ?_⟩
              refine for_it walk_range (fun j σ H' => ∃ ro y4 y5 y6 y7 y9 y13 y16 y17 y18 y19 y20 y21 y22 y23 y24, σ = [some (.ref a), some (.ref r), some (.ref am), some (nV k), y4, y5, y6, y7, some (fv), y9, some (.ref bu), some (.str (cat (wds (gath M k) 0 L))), some (.ref bp), y13, some (nV o), some (.ref ro), y16, y17, y18, y19, y20, y21, y22, y23, y24] ∧ Ex H19' H' ∧ LstAt LifeR H' ro (rws M j s)) ⟨ro0, _, _, _, _, _, _, _, _, _, _, _, _, _, _, _, rfl, ex20, hro0⟩ (fun _ _ _ _ _ => True.intro) (fun j x σ H21 H21' hj h hy => ?_) fun σ H21 h => ?_
              · obtain ⟨ro, y4, y5, y6, y7, y9, y13, y16, y17, y18, y19, y20, y21, y22, y23, y24, rfl, ex21, rs, hrs, hra⟩ := h
                obtain ⟨rfl, hx⟩ := hy
                clear hx
                have hjk : j < k := by omega
                have hrl := rws_len h2 j s
                have hrl4 : (rws M j s).length ≤ 4 := by
                  have b3 : 2 ^ j ≤ 2 ^ 2 := Nat.pow_le_pow_right (by decide) (by omega)
                  omega
                refine ⟨Nat.zero_le _, fun lo0 nlo0 => ?_⟩
                have ey6 := Ex.new (o := .lst []) nlo0
                refine ⟨.ref ro, rfl, ro, rfl, ⟨_, .inl (.inl (ey6.lst hrs))⟩, ?_⟩
                refine for_it (walk_list (K := K) (a := ro) (xs := rs)) (fun jj σ H' => ∃ lo y4 y5 y6 y7 y9 y13 y16 y17 y19 y20 y21 y22 y23 y24, σ = [some (.ref a), some (.ref r), some (.ref am), some (nV k), y4, y5, y6, y7, some (fv), y9, some (.ref bu), some (.str (cat (wds (gath M k) 0 L))), some (.ref bp), y13, some (nV o), some (.ref ro), y16, y17, some (.ref lo), y19, y20, y21, y22, y23, y24] ∧ Ex H21' H' ∧ LstAt LifeR H' lo (ext M s ((rws M j s).take jj))) ⟨lo0, _, _, _, _, _, _, _, _, _, _, _, _, _, _, rfl, ey6, LstAt.new⟩
                  (fun jj σ H' _ ⟨_, _, _, _, _, _, _, _, _, _, _, _, _, _, _, _, h, _⟩ => h.seq (.inl (.inl hrs))) (fun jj x σ H22 H22' hjj h hy => ?_) fun σ H22 h => ?_
                · obtain ⟨lo, y4, y5, y6, y7, y9, y13, y16, y17, y19, y20, y21, y22, y23, y24, rfl, ex22, ls, hls, hla⟩ := h
                  obtain ⟨rfl, hx⟩ := hy
                  obtain ⟨one, hone, hox⟩ := hra.getL hx
                  obtain ⟨b1, rfl, hb1⟩ := nat_tup hox
                  obtain ⟨hok1, hl1⟩ := rws_mem (List.mem_of_getElem? hone)
                  have exq : Ex H19' H22' := ex21.trans ex22
                  have ex16q : Ex H16 H22' := ex19.trans exq
                  have okp : okL M 0 (pn ++ one) := (okL_append M pn one 0).mpr ⟨c1, by rw [hs]; exact hok1⟩
                  have epo : endS M 0 (pn ++ one) = endS M s one := by rw [endS_append, hs]
                  have hlt := endS_lt hM _ 0 hM.pos okp
                  rw [epo] at hlt
                  obtain ⟨b2, ws, e2, hb2, hws⟩ := at_state hus16 hlt
                  refine ⟨.ref am, rfl, .ref am, rfl, .ref bp, rfl, .ref b1, rfl, cat_tup (R := NatR) (xs := pn) (ys := one) NatR.mono (exq.tp _ _ hbp) (nat_all2 _) (ex22.tp _ _ hb1) (nat_all2 _) (by omega) fun H23 cv ex23 hcv => ?_⟩
                  have ex16r := ex16q.trans ex23
                  refine ⟨.ref am, cv, M, pn ++ one, rfl, MachR.mono _ _ _ _ ex16r.tp hM16, hcv, hM, okp, am, us', _, _, rfl, rfl, ex16r.tp.sqt ha16, atI_nat (by rw [epo]; exact e2), ?_⟩
                  refine ⟨.ref lo, rfl, .ref b2, rfl, Nat.zero_le _, fun t7 nt7 => ?_⟩
                  have ey7 := Ex.new (o := .tup []) nt7
                  have ex16s := ex16r.trans ey7
                  have ex2s := ex23.trans ey7
                  refine ne_empty (R := OptR) (f := oD) opt_dp (fun e he => opt_lay e (hM.opts _ (stt_in hlt) e he).2) (ex16s.tp _ _ hb2) (hws.mono fun _ _ => OptR.mono _ _ _ _ ex16s.tp) upd_same ⟨_, rfl, ?_⟩
                  have hel := ext_len h2 s ((rws M j s).take jj)
                  rw [List.length_take] at hel
                  have hl1s := ext1_len h2 s one
                  have fin : ∀ H24 D2 ds, Ex H22' H24 → H24 D2 = some (.lst ds) → All2 (LifeR H24) ds (ext1 M s one) → H24 lo = some (.lst ls) ∧ ls.length + ds.length ≤ sizeLine ∧ ∀ p, H24 p = none → Ex H21' (upd H24 p (.lst (ls ++ ds))) ∧ LstAt LifeR (upd H24 p (.lst (ls ++ ds))) p (ext M s ((rws M j s).take (jj + 1))) := fun H24 D2 ds ex24 hD2 hds => by
                    refine ⟨ex24.lst hls, ?_, fun p np => ⟨(ex22.trans ex24).trans (Ex.new np), ?_⟩⟩
                    · rw [hla.len, hds.len]
                      exact sm1k (by omega)
                    · rw [ext_take M s hone]
                      exact ⟨_, upd_same, ((hla.mono fun _ _ => LifeR.mono _ _ _ _ ex24.tp).append hds).mono fun _ _ => LifeR.mono _ _ _ _ (Ex.new np).tp⟩
                  have tb1 : Tp H21' (upd H23 t7 (.tup [])) := (ex22.trans ex2s).tp
                  generalize upd H23 t7 (.tup []) = H24 at ex2s ex16s tb1 ⊢
                  have hb24 := tb1 _ _ hb1
                  have hb224 := ex16s.tp _ _ hb2
                  have hwl := hws.len
                  have hw2 := h2 _ (stt_in hlt)
                  cases hst : (stt M (endS M s one)).isEmpty with
                  | false =>
                    have e1 : ext1 M s one = (List.range (stt M (endS M s one)).length).map fun m => one ++ [m] := if_neg (by rw [List.isEmpty_eq_false_iff] at hst; exact hst)
                    refine iteT ⟨.ref b2, rfl, b2, ws, rfl, .inr (.inl (.inl hb224)), ws.length, rfl, by omega, by omega, fun D2 nD2 => ?_⟩
                    refine lc_it walk_range (fun m H' => Ex H24 H' ∧ LstAt LifeR H' D2 ((List.range m).map fun m => one ++ [m])) ⟨Ex.new nD2, LstAt.new⟩ (fun _ _ _ _ => True.intro) (fun m x H25 H25' hm h hy => ?_) fun H25 h => ?_
                    · obtain ⟨ex25, ds, hds, hda⟩ := h
                      obtain ⟨rfl, hx⟩ := hy
                      have hx' : x = nV m := by rw [hx]; show V.int (0 + (m : Int)) = V.int (m : Int); rw [Int.zero_add]
                      subst hx'
                      refine ⟨rfl, .ref b1, rfl, nV m, rfl, sm1k (n := 1) (by decide), fun t8 nt8 => ?_⟩
                      have ey8 := Ex.new (o := .tup [nV m]) nt8
                      refine cat_tup (R := NatR) (xs := one) (ys := [m]) NatR.mono ((ex25.trans ey8).tp _ _ hb24) (nat_all2 _) upd_same (.cons rfl .nil) (by simp; omega) fun H26 cv2 ex26 hcv2 => ?_
                      have ex2526 := ey8.trans ex26
                      refine ⟨ds, ex2526.lst hds, ?_, (ex25.trans ex2526).set nD2, ?_⟩
                      · rw [hda.len, List.length_map, List.length_range]
                        exact small1000 (by omega)
                      · rw [List.range_succ, List.map_append]
                        exact LstAt.app (R := LifeR) LifeR.mono (ex2526.lst hds) (hda.mono fun _ _ => LifeR.mono _ _ _ _ ex2526.tp) hcv2
                    · obtain ⟨ex25, ds, hds, hda⟩ := h
                      have hda' : All2 (LifeR H25) ds (ext1 M s one) := by
                        rw [e1, ← hwl]
                        exact hda
                      obtain ⟨f1, f2, f3⟩ := fin H25 D2 ds (ex2s.trans ex25) hds hda'
                      refine ⟨lo, D2, ls, ds, rfl, rfl, f1, hds, f2, fun p np => ?_⟩
                      obtain ⟨f4, f5⟩ := f3 p np
                      exact ⟨p, _, _, _, _, _, _, _, _, _, _, _, _, _, _, rfl, f4, f5⟩
                  | true =>
                    have e1 : ext1 M s one = [one] := if_pos (List.isEmpty_iff.mp hst)
                    refine iteF ⟨.ref b1, rfl, sm1k (n := 1) (by decide), fun D2 nD2 => ?_⟩
                    have ey9 := Ex.new (o := .lst [.ref b1]) nD2
                    obtain ⟨f1, f2, f3⟩ := fin _ D2 [.ref b1] (ex2s.trans ey9) upd_same (by rw [e1]; exact .cons (nat_mk (ey9.tp _ _ hb24)) .nil)
                    refine ⟨lo, D2, ls, [.ref b1], rfl, rfl, f1, upd_same, f2, fun p np => ?_⟩
                    obtain ⟨f4, f5⟩ := f3 p np
                    exact ⟨p, _, _, _, _, _, _, _, _, _, _, _, _, _, _, rfl, f4, f5⟩
                · obtain ⟨lo, y4, y5, y6, y7, y9, y13, y16, y17, y19, y20, y21, y22, y23, y24, rfl, ex22, hlo⟩ := h
                  rw [hra.len, List.take_of_length_le (Nat.le_refl _), rws_succ] at hlo
                  exact ⟨.ref lo, rfl, lo, _, _, _, _, _, _, _, _, _, _, _, _, _, _, _, rfl, ex21.trans ex22, hlo⟩
              · obtain ⟨ro, y4, y5, y6, y7, y9, y13, y16, y17, y18, y19, y20, y21, y22, y23, y24, rfl, ex21, hro⟩ := h
                rw [Int.toNat_natCast] at hro
                obtain ⟨rs, hrs, hra⟩ := hro
                refine ⟨.ref bp, rfl, .ref ro, rfl, ro, rs, rfl, .inl (.inl hrs), fun v hv => ?_, fun ys p hperm hpw np => ?_⟩
                · obtain ⟨q1, hq1, e⟩ := List.mem_iff_getElem.mp hv
                  obtain ⟨R1, hR1', hR2'⟩ := hra.getL (List.getElem?_eq_getElem hq1)
                  rw [e] at hR2'
                  refine ⟨_, life_tupI hR2', fun z => ?_⟩
                  exact rws_ne hsne k1 (List.mem_of_getElem? hR1') (List.map_eq_nil_iff.mp z)
                · obtain ⟨y, hyo, hyl⟩ := sorted_at hra hperm hpw hgo
                  obtain ⟨by', rfl, hby⟩ := nat_tup hyl
                  have ey9 := Ex.new (o := .lst ys) np
                  refine ⟨nV o, rfl, p, ys, _, _, rfl, rfl, .inl (.inl upd_same), atI_nat hyo, ?_⟩
                  refine cat_tup (R := NatR) (xs := pn) (ys := g.1) NatR.mono ((ex21.trans ey9).tp _ _ hbp) (nat_all2 _) (ey9.tp _ _ hby) (nat_all2 _) (by omega) fun H27 cv ex27 hcv => ?_
                  refine ⟨cv, _, _, _, _, _, _, _, _, _, _, _, _, _, _, _, _, _, rfl, ex19.trans (ex21.trans (ey9.trans ex27)), ?_⟩
                  rw [hstep, hgr]
                  exact hcv
            · obtain ⟨pl, y4, y5, y6, y7, y9, y13, y14, y15, y16, y17, y18, y19, y20, y21, y22, y23, y24, rfl, ex19, hpl⟩ := h
              rw [List.length_map, List.take_of_length_le (Nat.le_refl _)] at hpl
              obtain ⟨c1, c2, c3, c4⟩ := plain_is M k L 0 hL
              have c5 : (plain M k 0 L).length ≤ 12 := by
                have := Nat.mul_le_mul k3 hL4
                omega
              have wok2 := wds_ok hM _ 0 c1
              refine ⟨⟨_, rfl⟩, .ref am, rfl, pl, rfl, .ref am, pl, M, plain M k 0 L, rfl, MachR.mono _ _ _ _ ex19.tp hM16, hpl, hM, c1, by omega, tt.ex (exH16.trans ex19), fun H30 y30 ex30 hy30 => ?_⟩
              obtain ⟨bw2, rfl, hbw2⟩ := str_tup hy30
              have ex1930 := ex19.trans ex30
              refine ⟨_, bw2, wds M 0 (plain M k 0 L), rfl, rfl, .inr (.inl (.inl hbw2)), ?_, .str (cat (wds (gath M k) 0 L)), rfl, rfl, _, rfl, iteNS (by rw [txt_join, c3]) ?_⟩
              · have := cat_len _ wok2.2
                rw [sum_len]
                show _ + _ * 0 ≤ _
                omega
              refine ⟨.ref am, rfl, pl, rfl, .ref am, pl, M, plain M k 0 L, rfl, MachR.mono _ _ _ _ ex1930.tp hM16, LifeR.mono _ _ _ _ ex30.tp hpl, hM, c1, by omega, tt.ex (exH16.trans ex1930), fun H31 ex31 => ?_⟩
              have ex1931 := ex1930.trans ex31
              refine ⟨fv, rfl, .ref bu, rfl, fv, .ref bu, gath M k, L, rfl, MachR.mono _ _ _ _ ex1931.tp hfv16, LifeR.mono _ _ _ _ ex1931.tp huv, hF, hL, by omega, tt.ex (exH16.trans ex1931), fun H32 ex32 => ?_⟩
              refine ⟨rfl, _, rfl, iteNS (by rw [c2]) ?_⟩
              exact ⟨_, _, _, _, _, _, _, _, _, _, _, _, _, _, _, _, _, _, _, _, rfl, exT16.trans (ex1931.trans ex32), hR16.ex (ex1931.trans ex32)⟩
end
end DK

set_option Elab.async false
set_option linter.all false
set_option maxRecDepth 100000
set_option maxHeartbeats 8000000
/-! what the top has written; the law's head and end. -/
namespace MM
open PySem PySem.Spec PyProof.Rows L2 HR MG TX DA DB DC DD DE DF DG DH DI DJ DK
section
variable {K : PySem.W.Frag} {h : Heap} {mg : Str → Option Value}
/-- a def of the top by the facts of the written part -/
structure At (K : PySem.W.Frag) (x : Str) (st : Stmt) (f : Addr) : Prop where
  ns : PySem.W.nsIn K mainGlobals x = some (some (.ref f))
  look : ∃ (oc : Value) (od an : Option Addr) (sl : Array (Option Value)) (kV dc pm cd ct : Value), K.lookup f = some ⟨oc, od, .func (PySem.W.fnOf x x (defArgs st) (defBody st) (defScope st) .none kV dc pm an cd ct), sl⟩ ∧ PySem.W.codeIn K cd x = true
  kp : PySem.W.keepIn K (.ref f) = true
theorem At.mk' {x : Str} {st : Stmt} {f : Addr} {oc : Value} {od an : Option Addr} {sl : Array (Option Value)} {kV dc pm cd ct : Value} (a : PySem.W.nsIn K mainGlobals x = some (some (.ref f))) (l : K.lookup f = some ⟨oc, od, .func (PySem.W.fnOf x x (defArgs st) (defBody st) (defScope st) .none kV dc pm an cd ct), sl⟩)
    (c : PySem.W.codeIn K cd x = true) (k : PySem.W.keepIn K (.ref f) = true) : At K x st f := ⟨a, ⟨oc, od, an, sl, kV, dc, pm, cd, ct, l, c⟩, k⟩
theorem At.fn {x : Str} {st : Stmt} {f : Addr} (A : At K x st f) : ∃ fd, Fun K x x st f fd := by
  obtain ⟨oc, od, an, sl, kV, dc, pm, cd, ct, l, c⟩ := A.look
  exact ⟨_, fun_mk l c A.kp⟩
theorem At.df {x : Str} {st : Stmt} {f : Addr} {ps : List Str} (A : At K x st f) (X : K.In h) (G : h.Ns mainGlobals mg)
    (hb : ∀ (kV doc pm : Value) (an : Option Addr) (cdv ct : Value) (us : List Value), us.length = ps.length → bindArgs (PySem.W.fnOf x x (defArgs st) (defBody st) (defScope st) .none kV doc pm an cdv ct) ⟨us, []⟩ = pure (ps.zip us)) : Df K mg x st ps := by
  obtain ⟨fd, F⟩ := A.fn
  exact ⟨f, fd, F, PySem.W.mg_of X G A.ns, F.binds hb⟩
theorem At.dfc {x : Str} {st : Stmt} {f c T : Addr} {ps : List Str} (A : At K x st f) (X : K.In h) (G : h.Ns mainGlobals mg) (t : PySem.W.tabIn K x = some (c, T))
    (hb : ∀ (kV doc pm : Value) (an : Option Addr) (cdv ct : Value) (us : List Value), us.length = ps.length → bindArgs (PySem.W.fnOf x x (defArgs st) (defBody st) (defScope st) .none kV doc pm an cdv ct) ⟨us, []⟩ = pure (ps.zip us)) : DfC K mg x st ps c := by
  obtain ⟨fd, F⟩ := A.fn
  exact ⟨f, fd, F, ET.code_of F A.ns t, PySem.W.mg_of X G A.ns, F.binds hb⟩
end
theorem all_mk {l : PySem.W.OpenLaw} {w : World} {K : PySem.W.Frag} {h : Heap} {mg : Str → Option Value} {fa f0 f1 f2 f3 f4 f5 f6 f7 f8 f9 f10 f11 f12 f13 f14 f15 f16 f17 f18 f19 f20 f21 : Addr} {q : Program} (X : K.In h) (G : h.Ns mainGlobals mg) (hfa : mg "law" = some (.ref fa)) (TT : ET.Tabs q K h)
    (A0 : At K "is_number" (top 12) f0) (A1 : At K "need_number" (top 13) f1) (A2 : At K "is_word" (top 14) f2) (A3 : At K "is_option" (top 15) f3) (A4 : At K "need_machine" (top 16) f4) (A5 : At K "way_of" (top 17) f5) (A6 : At K "is_life" (top 18) f6) (A7 : At K "need_life" (top 19) f7) (A8 : At K "state_behind" (top 20) f8) (A9 : At K "word_of" (top 21) f9) (A10 : At K "end_of" (top 22) f10) (A11 : At K "words_of" (top 23) f11) (A12 : At K "gathered_options" (top 26) f12) (A13 : At K "gathered" (top 27) f13) (A14 : At K "_law_taken" (top 29) f14) (A15 : At K "_law_pick" (top 30) f15) (A16 : At K "_law_machine" (top 31) f16) (A17 : At K "_law_gathered" (top 32) f17) (A18 : At K "_law_alike" (top 33) f18) (A19 : At K "_law_state_behind" (top 34) f19) (A20 : At K "_law_life" (top 35) f20) (A21 : At K "law" (top 36) f21)
    (z0 : PySem.W.nsIn K mainGlobals "isinstance" = some none) (z1 : PySem.W.nsIn K mainGlobals "int" = some none) (z2 : PySem.W.nsIn K mainGlobals "bool" = some none) (z3 : PySem.W.nsIn K mainGlobals "str" = some none) (z4 : PySem.W.nsIn K mainGlobals "tuple" = some none) (z5 : PySem.W.nsIn K mainGlobals "list" = some none) (z6 : PySem.W.nsIn K mainGlobals "len" = some none) (z7 : PySem.W.nsIn K mainGlobals "all" = some none) (z8 : PySem.W.nsIn K mainGlobals "any" = some none) (z9 : PySem.W.nsIn K mainGlobals "enumerate" = some none) (z10 : PySem.W.nsIn K mainGlobals "range" = some none) (z11 : PySem.W.nsIn K mainGlobals "max" = some none) (z12 : PySem.W.nsIn K mainGlobals "sorted" = some none)
    {k0 k1 k2 k3 k4 k5 : Tok}
    (g0 : PySem.W.nsIn K mainGlobals "MOST_STATES" = some (some (.int 40 k0))) (g1 : PySem.W.nsIn K mainGlobals "MOST_OPTIONS" = some (some (.int 6 k1))) (g2 : PySem.W.nsIn K mainGlobals "MOST_LETTERS" = some (some (.int 8 k2))) (g3 : PySem.W.nsIn K mainGlobals "MOST_LIFE" = some (some (.int 40 k3))) (g4 : PySem.W.nsIn K mainGlobals "MOST_GATHERED" = some (some (.int 3 k4))) (g5 : PySem.W.nsIn K mainGlobals "LETTERS" = some (some (.str "abcdefghijklmnopqrstuvwxyz" k5)))
    {d0 d1 d2 : DefRec}
    (t0 : (PySem.W.tabIn K "is_word").isSome = true) (r0 : (recsOf q).find? (fun e => e.name == ("is_word" : Str)) = some d0)
    (t1 : (PySem.W.tabIn K "need_machine").isSome = true) (r1 : (recsOf q).find? (fun e => e.name == ("need_machine" : Str)) = some d1)
    (t2 : (PySem.W.tabIn K "gathered").isSome = true) (r2 : (recsOf q).find? (fun e => e.name == ("gathered" : Str)) = some d2)
    (noT : PySem.W.noTabs K = true) : LamX.LawAtS l w K CX0 9 63 "_law_script" mg fa h := by
  have e := hfa.symm.trans (PySem.W.mg_of X G A21.ns)
  cases e
  obtain ⟨fdL, FL⟩ := A21.fn
  have bL : ∀ (s : Shared) (u : Value), BindsTo s fdL ⟨[u], []⟩ [("_law_script", u)] := fun s u => by
    obtain ⟨oc, od, kV, doc, pm, an, cdv, ct, osl, rfl, lk, hcd⟩ := FL.ex
    exact .of_eq rfl
  obtain ⟨⟨c0, P0⟩, t0⟩ := Option.isSome_iff_exists.mp t0
  obtain ⟨⟨c1, P1⟩, t1⟩ := Option.isSome_iff_exists.mp t1
  obtain ⟨⟨c2, P2⟩, t2⟩ := Option.isSome_iff_exists.mp t2
  obtain ⟨C0, E0⟩ := TT "is_word" d0 c0 P0 r0 t0
  obtain ⟨C1, E1⟩ := TT "need_machine" d1 c1 P1 r1 t1
  obtain ⟨C2, E2⟩ := TT "gathered" d2 c2 P2 r2 t2
  have all3 : ∀ {Z : Addr × Addr → Prop}, Z (c0, P0) → Z (c1, P1) → Z (c2, P2) → ∀ p ∈ [(c0, P0), (c1, P1), (c2, P2)], Z p := fun z0 z1 z2 p hp => by
    simp only [List.mem_cons, List.not_mem_nil, or_false] at hp
    rcases hp with rfl | rfl | rfl
    · exact z0
    · exact z1
    · exact z2
  refine ⟨fdL, [(c0, P0), (c1, P1), (c2, P2)], spLaw K [P0, P1, P2], all3 E0 E1 E2, all3 (ET.noTab noT X E0) (ET.noTab noT X E1) (ET.noTab noT X E2), all3 C0 C1 C2, bL, fun H a ns _ _ hT hS => ⟨a, ns, rfl, hS, fun Q hQ => ?_, fun _ => rfl⟩, fun base KB GB TB => ?_⟩
  · have hp : ∃ c, (c, Q) ∈ [(c0, P0), (c1, P1), (c2, P2)] := by
      simp only [List.mem_cons, List.not_mem_nil, or_false] at hQ
      rcases hQ with rfl | rfl | rfl
      · exact ⟨c0, by simp⟩
      · exact ⟨c1, by simp⟩
      · exact ⟨c2, by simp⟩
    obtain ⟨c, hc⟩ := hp
    exact ⟨#[], hT _ hc, by trivial⟩
  have B0 := ET.tabB_of (TB (c0, P0) (by simp))
  have B1 := ET.tabB_of (TB (c1, P1) (by simp))
  have B2 := ET.tabB_of (TB (c2, P2) (by simp))
  have Gz : G0 mg := ⟨PySem.W.mg_none_of X G z0, PySem.W.mg_none_of X G z1, PySem.W.mg_none_of X G z2, PySem.W.mg_none_of X G z3, PySem.W.mg_none_of X G z4, PySem.W.mg_none_of X G z5, PySem.W.mg_none_of X G z6, PySem.W.mg_none_of X G z7, PySem.W.mg_none_of X G z8, PySem.W.mg_none_of X G z9, PySem.W.mg_none_of X G z10, PySem.W.mg_none_of X G z11, PySem.W.mg_none_of X G z12, ⟨k0, PySem.W.mg_of X G g0⟩, ⟨k1, PySem.W.mg_of X G g1⟩, ⟨k2, PySem.W.mg_of X G g2⟩, ⟨k3, PySem.W.mg_of X G g3⟩, ⟨k4, PySem.W.mg_of X G g4⟩, ⟨k5, PySem.W.mg_of X G g5⟩⟩
  have D0 : Df K mg "is_number" (top 12) ["value", "low", "high"] := A0.df X G fun _ _ _ _ _ _ us hl => match us, hl with | [_, _, _], _ => rfl
  have D1 : Df K mg "need_number" (top 13) ["value", "low", "high"] := A1.df X G fun _ _ _ _ _ _ us hl => match us, hl with | [_, _, _], _ => rfl
  have D2 : DfC K mg "is_word" (top 14) ["value"] c0 := A2.dfc X G t0 fun _ _ _ _ _ _ us hl => match us, hl with | [_], _ => rfl
  have D3 : Df K mg "is_option" (top 15) ["value", "many"] := A3.df X G fun _ _ _ _ _ _ us hl => match us, hl with | [_, _], _ => rfl
  have D4 : DfC K mg "need_machine" (top 16) ["value"] c1 := A4.dfc X G t1 fun _ _ _ _ _ _ us hl => match us, hl with | [_], _ => rfl
  have D5 : Df K mg "way_of" (top 17) ["machine", "life"] := A5.df X G fun _ _ _ _ _ _ us hl => match us, hl with | [_, _], _ => rfl
  have D6 : Df K mg "is_life" (top 18) ["machine", "value"] := A6.df X G fun _ _ _ _ _ _ us hl => match us, hl with | [_, _], _ => rfl
  have D7 : Df K mg "need_life" (top 19) ["machine", "value"] := A7.df X G fun _ _ _ _ _ _ us hl => match us, hl with | [_, _], _ => rfl
  have D8 : Df K mg "state_behind" (top 20) ["machine", "life"] := A8.df X G fun _ _ _ _ _ _ us hl => match us, hl with | [_, _], _ => rfl
  have D9 : Df K mg "word_of" (top 21) ["machine", "life"] := A9.df X G fun _ _ _ _ _ _ us hl => match us, hl with | [_, _], _ => rfl
  have D10 : Df K mg "end_of" (top 22) ["machine", "life"] := A10.df X G fun _ _ _ _ _ _ us hl => match us, hl with | [_, _], _ => rfl
  have D11 : Df K mg "words_of" (top 23) ["machine", "life"] := A11.df X G fun _ _ _ _ _ _ us hl => match us, hl with | [_, _], _ => rfl
  have D12 : Df K mg "gathered_options" (top 26) ["machine", "state", "many"] := A12.df X G fun _ _ _ _ _ _ us hl => match us, hl with | [_, _, _], _ => rfl
  have D13 : DfC K mg "gathered" (top 27) ["machine", "many"] c2 := A13.dfc X G t2 fun _ _ _ _ _ _ us hl => match us, hl with | [_, _], _ => rfl
  have D14 : Df K mg "_law_taken" (top 29) ["_law_row", "_law_many"] := A14.df X G fun _ _ _ _ _ _ us hl => match us, hl with | [_, _], _ => rfl
  have D15 : Df K mg "_law_pick" (top 30) ["_law_row", "_law_things"] := A15.df X G fun _ _ _ _ _ _ us hl => match us, hl with | [_, _], _ => rfl
  have D16 : Df K mg "_law_machine" (top 31) ["_law_row", "_law_most", "_law_options"] := A16.df X G fun _ _ _ _ _ _ us hl => match us, hl with | [_, _, _], _ => rfl
  have D17 : Df K mg "_law_gathered" (top 32) ["_law_machine_here", "_law_state", "_law_many"] := A17.df X G fun _ _ _ _ _ _ us hl => match us, hl with | [_, _, _], _ => rfl
  have D18 : Df K mg "_law_alike" (top 33) ["_law_found", "_law_due"] := A18.df X G fun _ _ _ _ _ _ us hl => match us, hl with | [_, _], _ => rfl
  have D19 : Df K mg "_law_state_behind" (top 34) ["_law_machine_here", "_law_life_here"] := A19.df X G fun _ _ _ _ _ _ us hl => match us, hl with | [_, _], _ => rfl
  have D20 : Df K mg "_law_life" (top 35) ["_law_row", "_law_machine_here", "_law_most"] := A20.df X G fun _ _ _ _ _ _ us hl => match us, hl with | [_, _, _], _ => rfl
  have bD : Binds K fdL ["_law_script"] [] := FL.binds fun _ _ _ _ _ _ us hl => match us, hl with | [_], _ => rfl
  have hT0 : P0 ∈ [P0, P1, P2] := by simp
  have hT1 : P1 ∈ [P0, P1, P2] := by simp
  have hT2 : P2 ∈ [P0, P1, P2] := by simp
  have c0 : Cal l.prog w K mg base _ _ _ _ := ok_num Gz D0
  have c1 : Cal l.prog w K mg base _ _ _ _ := ok_need D1 c0
  have c2 : Cal l.prog w K mg base _ _ _ (spWord [P0, P1, P2]) := ok_word Gz D2 B0 hT0
  have c3 : Cal l.prog w K mg base _ _ _ (spOpt [P0, P1, P2]) := ok_opt Gz D3 c0 c2
  have c4 : Cal l.prog w K mg base _ _ _ (spMach [P0, P1, P2]) := ok_mach Gz D4 B1 hT1 c3
  have c5 : Cal l.prog w K mg base _ _ _ spWay := ok_way Gz D5 c0
  have c6 : Cal l.prog w K mg base _ _ _ spLife := ok_life Gz D6 c5
  have c7 : Cal l.prog w K mg base _ _ _ spNLife := ok_nlife D7 c6
  have c8 : Cal l.prog w K mg base _ _ _ spBeh := ok_beh D8 c5
  have c9 : Cal l.prog w K mg base _ _ _ spWOf := ok_wof D9 c8
  have c10 : Cal l.prog w K mg base _ _ _ (spEnd [P0, P1, P2]) := ok_end D10 c4 c7 c8
  have c11 : Cal l.prog w K mg base _ _ _ (spWords [P0, P1, P2]) := ok_words Gz D11 c4 c7 c9
  have c12 : ∀ n, Cal l.prog w K mg base _ (n + 1) _ (spGO n) := go_all Gz D12
  have c13 : Cal l.prog w K mg base _ _ _ (spGath [P0, P1, P2]) := ok_gath Gz D13 B2 hT2 c4 c1 c12
  have c14 : Cal l.prog w K mg base _ _ _ (spTaken K) := ok_taken Gz D14
  have c15 : Cal l.prog w K mg base _ _ _ (spPick K) := ok_pick Gz D15 c14
  have c16 : Cal l.prog w K mg base _ _ _ (spLM K) := ok_lm Gz D16 c14 c15
  have c17 : Cal l.prog w K mg base _ 4 _ (fun vs H Q E => ∃ n, n ≤ 3 ∧ spLG n vs H Q E) := lg_upto Gz D17
  have c18 : Cal l.prog w K mg base _ _ _ (spAl 3) := al_all Gz D18 3
  have c19 : Cal l.prog w K mg base _ _ _ spLBeh := ok_lbeh D19
  have c20 : Cal l.prog w K mg base _ _ _ (spLLife K) := ok_llife Gz D20 c14 c19
  exact ok_lawF Gz FL c16 c14 c17 c13 c18 c20 c11 c19 c10
end MM
open PySem PySem.W PyProof.Rows
set_option maxHeartbeats 0 in
theorem PySem.Challenge.cw_onelife_k24_whole_gathered_holds : PySem.Challenge.rw_onelife_k24_whole_gathered.Holds := by
  w_on; o_law; k_head; (case hw => w_witness2)
  k_fill
  refine ET.walk_ofP (l := PySem.Challenge.rw_onelife_k24_whole_gathered) (n := 63) (k := 9) (x := "_law_script") (CX := fun _ => L2.CX0) rfl (by decide) rfl ⟨rfl, by decide, by decide⟩ (fun w h Y => PySem.W.kIn_of Y) ?F (fun _ _ _ _ _ h => h)
  case F =>
    intro w mg fa h Y KX G hmg TB
    refine' MM.all_mk KX G hmg TB ?qA0 ?qA1 ?qA2 ?qA3 ?qA4 ?qA5 ?qA6 ?qA7 ?qA8 ?qA9 ?qA10 ?qA11 ?qA12 ?qA13 ?qA14 ?qA15 ?qA16 ?qA17 ?qA18 ?qA19 ?qA20 ?qA21 ?qz0 ?qz1 ?qz2 ?qz3 ?qz4 ?qz5 ?qz6 ?qz7 ?qz8 ?qz9 ?qz10 ?qz11 ?qz12 ?qg0 ?qg1 ?qg2 ?qg3 ?qg4 ?qg5 ?qt0 ?qr0 ?qt1 ?qr1 ?qt2 ?qr2 ?qnT
    (case qA0 => refine' MM.At.mk' ?qa0 ?ql0 ?qc0 ?qk0; (case qa0 => k_is); (case ql0 => k_is); (case qc0 => k_is); (case qk0 => k_is))
    (case qA1 => refine' MM.At.mk' ?qa1 ?ql1 ?qc1 ?qk1; (case qa1 => k_is); (case ql1 => k_is); (case qc1 => k_is); (case qk1 => k_is))
    (case qA2 => refine' MM.At.mk' ?qa2 ?ql2 ?qc2 ?qk2; (case qa2 => k_is); (case ql2 => k_is); (case qc2 => k_is); (case qk2 => k_is))
    (case qA3 => refine' MM.At.mk' ?qa3 ?ql3 ?qc3 ?qk3; (case qa3 => k_is); (case ql3 => k_is); (case qc3 => k_is); (case qk3 => k_is))
    (case qA4 => refine' MM.At.mk' ?qa4 ?ql4 ?qc4 ?qk4; (case qa4 => k_is); (case ql4 => k_is); (case qc4 => k_is); (case qk4 => k_is))
    (case qA5 => refine' MM.At.mk' ?qa5 ?ql5 ?qc5 ?qk5; (case qa5 => k_is); (case ql5 => k_is); (case qc5 => k_is); (case qk5 => k_is))
    (case qA6 => refine' MM.At.mk' ?qa6 ?ql6 ?qc6 ?qk6; (case qa6 => k_is); (case ql6 => k_is); (case qc6 => k_is); (case qk6 => k_is))
    (case qA7 => refine' MM.At.mk' ?qa7 ?ql7 ?qc7 ?qk7; (case qa7 => k_is); (case ql7 => k_is); (case qc7 => k_is); (case qk7 => k_is))
    (case qA8 => refine' MM.At.mk' ?qa8 ?ql8 ?qc8 ?qk8; (case qa8 => k_is); (case ql8 => k_is); (case qc8 => k_is); (case qk8 => k_is))
    (case qA9 => refine' MM.At.mk' ?qa9 ?ql9 ?qc9 ?qk9; (case qa9 => k_is); (case ql9 => k_is); (case qc9 => k_is); (case qk9 => k_is))
    (case qA10 => refine' MM.At.mk' ?qa10 ?ql10 ?qc10 ?qk10; (case qa10 => k_is); (case ql10 => k_is); (case qc10 => k_is); (case qk10 => k_is))
    (case qA11 => refine' MM.At.mk' ?qa11 ?ql11 ?qc11 ?qk11; (case qa11 => k_is); (case ql11 => k_is); (case qc11 => k_is); (case qk11 => k_is))
    (case qA12 => refine' MM.At.mk' ?qa12 ?ql12 ?qc12 ?qk12; (case qa12 => k_is); (case ql12 => k_is); (case qc12 => k_is); (case qk12 => k_is))
    (case qA13 => refine' MM.At.mk' ?qa13 ?ql13 ?qc13 ?qk13; (case qa13 => k_is); (case ql13 => k_is); (case qc13 => k_is); (case qk13 => k_is))
    (case qA14 => refine' MM.At.mk' ?qa14 ?ql14 ?qc14 ?qk14; (case qa14 => k_is); (case ql14 => k_is); (case qc14 => k_is); (case qk14 => k_is))
    (case qA15 => refine' MM.At.mk' ?qa15 ?ql15 ?qc15 ?qk15; (case qa15 => k_is); (case ql15 => k_is); (case qc15 => k_is); (case qk15 => k_is))
    (case qA16 => refine' MM.At.mk' ?qa16 ?ql16 ?qc16 ?qk16; (case qa16 => k_is); (case ql16 => k_is); (case qc16 => k_is); (case qk16 => k_is))
    (case qA17 => refine' MM.At.mk' ?qa17 ?ql17 ?qc17 ?qk17; (case qa17 => k_is); (case ql17 => k_is); (case qc17 => k_is); (case qk17 => k_is))
    (case qA18 => refine' MM.At.mk' ?qa18 ?ql18 ?qc18 ?qk18; (case qa18 => k_is); (case ql18 => k_is); (case qc18 => k_is); (case qk18 => k_is))
    (case qA19 => refine' MM.At.mk' ?qa19 ?ql19 ?qc19 ?qk19; (case qa19 => k_is); (case ql19 => k_is); (case qc19 => k_is); (case qk19 => k_is))
    (case qA20 => refine' MM.At.mk' ?qa20 ?ql20 ?qc20 ?qk20; (case qa20 => k_is); (case ql20 => k_is); (case qc20 => k_is); (case qk20 => k_is))
    (case qA21 => refine' MM.At.mk' ?qa21 ?ql21 ?qc21 ?qk21; (case qa21 => k_is); (case ql21 => k_is); (case qc21 => k_is); (case qk21 => k_is))
    (case qz0 => k_is)
    (case qz1 => k_is)
    (case qz2 => k_is)
    (case qz3 => k_is)
    (case qz4 => k_is)
    (case qz5 => k_is)
    (case qz6 => k_is)
    (case qz7 => k_is)
    (case qz8 => k_is)
    (case qz9 => k_is)
    (case qz10 => k_is)
    (case qz11 => k_is)
    (case qz12 => k_is)
    (case qg0 => k_is)
    (case qg1 => k_is)
    (case qg2 => k_is)
    (case qg3 => k_is)
    (case qg4 => k_is)
    (case qg5 => k_is)
    (case qt0 => kernel_rfl); (case qr0 => rfl)
    (case qt1 => kernel_rfl); (case qr1 => rfl)
    (case qt2 => kernel_rfl); (case qr2 => rfl)
    (case qnT => kernel_rfl)

