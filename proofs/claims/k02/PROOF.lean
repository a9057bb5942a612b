import PyProof.Rows.All
import Wide.All
import OpenK.AllK
import Wide.FinOn
import HandS.ForMost
import HandS.TupAny
import HandS.Deep
import HandS.Zip
import HandS.IsInst
import HandS.Style
import HandS.Star
import HandS.Wide
import HandS.GenOver
import HandS.GenYield
import HandS.GenCall
import HandS.GenList
import PySem.Challenge.RW_marginruns_k02_parts_in_order
set_option Elab.async false
section
set_option linter.all false
set_option maxRecDepth 100000
set_option maxHeartbeats 4000000
/-! MR1: runs of the real machine in which a delegating generator may sleep over a generator (a guarded yield whose closing shows nothing). -/
namespace MR
open PySem

/-- a generator that sleeps in «yield from» over a generator: the yield is guarded, but nothing shows when it is closed -/
def Soft (s : Shared) (t : Thread) : Prop :=
  ∃ (v : Value) (g : Bool) (l : List Value) (k : Resume → Sem PySem.Fin) (a : Addr) (args : List Value) (kw : List (Str × Value)) (o : Obj),
    t.cur = .yield v g l k ∧ t.code = .builtin "proto.yield_from" ⟨.ref a :: args, kw⟩ ∧ (∀ fs b rest, splitAtGen t.stack = some (fs, b, rest) → fs.any Frame.guarded = false) ∧ s.heap.get? a = some o ∧ o.genNumber?.isSome = true
def Okz (s : Shared) (t : Thread) : Prop := t.loud = false ∨ Soft s t

section
variable (den : Code → Sem PySem.Fin) (prog : Program) (w : World)
theorem soft_shows {s : Shared} {v : Value} {g : Bool} {l : List Value} {k : Resume → Sem PySem.Fin} {c : Code} {p : Pos} {st : List Frame} (h : Soft s ⟨.yield v g l k, c, p, st⟩) (hz : s.asleep) :
    ∀ fs b rest, splitAtGen st = some (fs, b, rest) → closingShows s fs c g = false := by
  obtain ⟨v', g', l', k', a, args, kw, o, e, ec, hs, ho, hg⟩ := h
  intro fs b rest es
  have ec : c = _ := ec
  subst ec
  obtain ⟨n, hn⟩ := Option.isSome_iff_exists.mp hg
  have h1 := hs fs b rest es
  simp only [closingShows, h1, delegateShows, ho, hn, hz.1]
  simp
theorem soft_life (others : List Value) {s : Shared} {v : Value} {g : Bool} {l : List Value} {k : Resume → Sem PySem.Fin} {c : Code} {p : Pos} {st : List Frame} (h : Soft s ⟨.yield v g l k, c, p, st⟩) (hz : s.asleep) :
    lifeStep den prog w others s ⟨.yield v g l k, c, p, st⟩ = step den prog w s ⟨.yield v g l k, c, p, st⟩ := by
  have hsh := soft_shows h hz
  obtain ⟨hr, hc⟩ := id hz
  cases hs : Thread.special ⟨.yield v g l k, c, p, st⟩ with
  | false => exact lifeStep_eq_step den prog w others s _ hs hc
  | true =>
    simp only [lifeStep, hs, if_true, collectorTurn?]
    cases e : splitAtGen st with
    | none => simp [Thread.atItsEnd, stepCounting, hc]
    | some x =>
      obtain ⟨fs, b, rest⟩ := x
      simp [hsh fs b rest e, Thread.atItsEnd, stepCounting, hc]
theorem soft_moves (pr : Profile) (s : Shared) (v : Value) (g : Bool) (l : List Value) (k : Resume → Sem PySem.Fin) (c : Code) (p : Pos) (st : List Frame) : (Config.single s ⟨.yield v g l k, c, p, st⟩).moves pr = [.run 0] := by
  simp [Config.moves, Config.single, movesFrom, Thread.moves, Thread.atomic, Thread.rests, Thread.tells]
theorem soft_pick {s : Shared} {v : Value} {g : Bool} {l : List Value} {k : Resume → Sem PySem.Fin} {c : Code} {p : Pos} {st : List Frame} (hr : s.heap.life.registered = []) :
    (Config.single s ⟨.yield v g l k, c, p, st⟩).pick w = .ok (.run 0, .single s ⟨.yield v g l k, c, p, st⟩) := by
  have h1 : (Config.single s ⟨.yield v g l k, c, p, st⟩).collect? w.params = none := by
    simp [Config.collect?, Config.single, (nothing_to_collect _ _ _ s _ hr).1]
  have h2 : (Config.single s ⟨.yield v g l k, c, p, st⟩).collectable = [] := by
    simp [Config.collectable, Config.single, (nothing_to_collect w.params _ _ s _ hr).2]
  simp only [Config.pick, h1, h2, Config.pickThread, soft_moves _ s]
  cases w.params.lifetimes <;> simp
theorem soft_run {s : Shared} {v : Value} {g : Bool} {l : List Value} {k : Resume → Sem PySem.Fin} {c : Code} {p : Pos} {st : List Frame}
    (hl : ∀ others, lifeStep den prog w others s ⟨.yield v g l k, c, p, st⟩ = step den prog w s ⟨.yield v g l k, c, p, st⟩) :
    (Config.single s ⟨.yield v g l k, c, p, st⟩).run den prog w 0 = (step den prog w s ⟨.yield v g l k, c, p, st⟩).lift := by
  simp only [Config.run, Config.single]
  simp [frozenBadly, hl, ThreadState.insideWrite, others_single]
  split <;> simp_all [Config.single, Step.lift]
  all_goals (try exact single_refilled _ _ _)
  all_goals (try (split <;> simp))
theorem soft_sstep {s : Shared} {t : Thread} (h : Soft s t) (hz : s.asleep) : sstep den prog w (.single s t) = (step den prog w s t).lift := by
  obtain ⟨cur, c, p, st⟩ := t
  have h' := h
  obtain ⟨v, g, l, k, a, args, kw, o, e, _⟩ := h'
  have e : cur = _ := e
  subst e
  have hl := fun others => soft_life den prog w others h hz
  simp only [sstep, soft_pick w hz.1, Config.move, soft_run den prog w hl]
theorem soft_forget {s s' : Shared} {t t' : Thread} (hs : s'.forget = s.forget) (ht : t'.forget = t.forget) (h : Soft s t) : Soft s' t' := by
  obtain ⟨v, g, l, k, a, args, kw, o, e, ec, hst, ho, hg⟩ := h
  obtain ⟨cur, c, p, st⟩ := t
  obtain ⟨cur', c', p', st'⟩ := t'
  simp only [Thread.forget, Thread.mk.injEq] at ht
  obtain ⟨e1, e2, e3, e4⟩ := ht
  obtain ⟨eh, _⟩ := Shared.forget_eq hs
  refine ⟨v, g, l, k, a, args, kw, o, e1.trans e, e2.trans ec, fun fs b rest es => ?_, by rw [eh]; exact ho, hg⟩
  have q := splitAtGen_forgetAll st'
  rw [e4, splitAtGen_forgetAll] at q
  have es : splitAtGen st' = some (fs, b, rest) := es
  rw [es] at q
  cases e5 : splitAtGen st with
  | none => rw [e5] at q; cases q
  | some x =>
    obtain ⟨fs2, b2, rest2⟩ := x
    rw [e5] at q
    simp only [Option.map_some, Option.some.injEq, Prod.mk.injEq] at q
    have := hst fs2 b2 rest2 e5
    rw [← any_guarded_forgetAll, q.1, any_guarded_forgetAll] at this
    exact this

/-! ### runs -/
inductive CK : Nat → Shared → Thread → Shared → Thread → Prop
  | refl {s : Shared} {t : Thread} : CK 0 s t s t
  | step {n : Nat} {s s1 s' : Shared} {t t1 t' : Thread} : Okz s t → stepK den prog w s t = .go s1 t1 → CK n s1 t1 s' t' → CK (n + 1) s t s' t'
theorem CK.trans {n m : Nat} {s s1 s2 : Shared} {t t1 t2 : Thread} (a : CK den prog w n s t s1 t1) (b : CK den prog w m s1 t1 s2 t2) : CK den prog w (n + m) s t s2 t2 := by
  induction a with
  | refl => rw [Nat.zero_add]; exact b
  | step ok hs _ ih => rw [Nat.add_right_comm]; exact .step ok hs (ih b)
theorem okz_sstep {s s1 sr : Shared} {t t1 tr : Thread} (ok : Okz s t) (h : stepK den prog w s t = .go s1 t1) (hs : sr.forget = s.forget) (ht : tr.forget = t.forget) (hz : sr.asleep) :
    ∃ s2 t2, sstep den prog w (.single sr tr) = .go (.single s2 t2) ∧ step den prog w sr tr = .go s2 t2 ∧ s2.forget = s1.forget ∧ t2.forget = t1.forget := by
  have e : (step den prog w sr tr).forget = (Step.go s1 t1).forget := by
    rw [← stepK_forget, ← stepK_comm, hs, ht, stepK_comm, h]
  obtain ⟨s2, t2, e2, f1, f2⟩ : ∃ s2 t2, step den prog w sr tr = .go s2 t2 ∧ s2.forget = s1.forget ∧ t2.forget = t1.forget := by
    cases q : step den prog w sr tr with
    | go s2 t2 =>
      rw [q] at e
      simp only [Step.forget, Step.go.injEq] at e
      exact ⟨s2, t2, rfl, e.1, e.2⟩
    | halt o s2 => rw [q] at e; cases e
  refine ⟨s2, t2, ?_, e2, f1, f2⟩
  rcases ok with hl | soft
  · have hr : t.refused = false := by
      cases q : t.refused with
      | false => rfl
      | true =>
        obtain ⟨what, q2⟩ := stepK_refused den prog w (s := s) q
        rw [h] at q2; cases q2
    have hc : t.calm = true := by rw [Thread.calm_eq, hl, hr]; rfl
    have hc2 : tr.calm = true := by rw [← Thread.calm_forget tr, ht, Thread.calm_forget]; exact hc
    rcases sstep_single den prog w sr tr hc2 hz with q | q
    · rw [q, e2]; rfl
    · rw [e2] at q; cases q
  · rw [soft_sstep den prog w (soft_forget hs ht soft) hz, e2]; rfl
theorem CK.sched {n : Nat} {s s' : Shared} {t t' : Thread} (a : CK den prog w n s t s' t') : ∀ {sr : Shared} {tr : Thread}, sr.forget = s.forget → tr.forget = t.forget → sr.asleep →
    ∃ s2 t2, s2.forget = s'.forget ∧ t2.forget = t'.forget ∧ s2.asleep ∧ s2.heap.life = sr.heap.life ∧ ∀ m, schedN den prog w (n + m) (.single sr tr) = schedN den prog w m (.single s2 t2) := by
  induction a with
  | refl => intro sr tr hs ht hz; exact ⟨sr, tr, hs, ht, hz, rfl, fun m => by rw [Nat.zero_add]⟩
  | step ok h _ ih =>
    intro sr tr hs ht hz
    obtain ⟨s2, t2, e, e2, f1, f2⟩ := okz_sstep den prog w ok h hs ht hz
    have lf : s2.heap.life = sr.heap.life := step_life den prog w sr s2 tr t2 e2
    obtain ⟨s3, t3, g1, g2, g3, g5, g4⟩ := ih f1 f2 (Shared.asleep_of_life lf hz)
    refine ⟨s3, t3, g1, g2, g3, g5.trans lf, fun m => ?_⟩
    rw [Nat.add_right_comm]
    simp only [schedN, e]
    exact g4 m
/-- a run to a leaf on the empty stack ends -/
theorem CK.ends {n : Nat} {s s' : Shared} {t : Thread} {r : Result} {c : Code} {p : Pos} (a : CK den prog w n s t s' ⟨leafOf r, c, p, []⟩) (hz : s.asleep) (hb : leftWithCleanup s'.gens = false) :
    ∃ m s'', schedN den prog w m (.single s t) = .halted (outcomeOf r) s'' ∧ s''.forget = s'.forget ∧ s''.heap.life = s.heap.life := by
  obtain ⟨s2, t2, f1, f2, z, lf, e⟩ := a.sched den prog w rfl rfl hz
  obtain ⟨cur, c2, p2, st⟩ := t2
  simp only [Thread.forget, Thread.mk.injEq, forgetAll_nil] at f2
  obtain ⟨e1, e2, e3, e4⟩ := f2
  have est : st = [] := by cases st with | nil => rfl | cons x y => simp at e4
  subst e1 e2 e3 est
  have hb2 : leftWithCleanup s2.gens = false := by
    rw [← leftWithCleanup_forget, show s2.gens.map GenState.forget = s2.forget.gens from rfl, f1]
    show leftWithCleanup (s'.gens.map GenState.forget) = false
    rw [leftWithCleanup_forget]; exact hb
  have hl : Thread.calm ⟨leafOf r, c2, p2, []⟩ = true := by cases r <;> rfl
  have hst : PySem.step den prog w s2 ⟨leafOf r, c2, p2, []⟩ = .halt (outcomeOf r) s2 := by
    cases r <;> simp [PySem.step, leafOf, finish, hb2, outcomeOf]
  refine ⟨n + 1, s2, ?_, f1, lf⟩
  rw [e 1]
  rcases sstep_single den prog w s2 _ hl z with q | q
  · simp only [schedN, q, hst, Step.lift]
  · rw [hst] at q
    cases r <;> (simp [outcomeOf] at q)
end
end MR
end
section
set_option linter.all false
set_option maxRecDepth 100000
set_option maxHeartbeats 4000000
/-! MR2: a weakest precondition over runs of the real machine (soft yields allowed); calm runs are carried over. -/
namespace MR
open PySem

def hot : GenState → Bool
  | .suspended _ _ _ _ _ b => b
  | _ => false
def cool : GenState → GenState
  | .suspended k l c p fs _ => .suspended k l c p fs false
  | y => y
def coolS (s : Shared) : Shared := { s with gens := s.gens.map cool }
def Hot (s : Shared) (g : Nat) : Prop := ∃ y, s.gens[g]? = some y ∧ hot y = true
def Cl (a b : Shared) : Prop := ∀ g, Hot b g → Hot a g
theorem Cl.refl (a : Shared) : Cl a a := fun _ h => h
theorem Cl.trans {a b c : Shared} (x : Cl a b) (y : Cl b c) : Cl a c := fun g h => x g (y g h)
theorem cool_cool (y : GenState) : cool (cool y) = cool y := by cases y <;> rfl
@[simp] theorem coolS_coolS (s : Shared) : coolS (coolS s) = coolS s := by
  simp only [coolS, Array.map_map]
  congr 1
  congr 1
  funext y
  exact cool_cool y
theorem cool_parts {a b : Shared} (e : coolS a = coolS b) : a.heap = b.heap ∧ a.drawn = b.drawn ∧ a.toks = b.toks ∧ a.os = b.os ∧ a.gens.map cool = b.gens.map cool := by
  simp only [coolS, Shared.mk.injEq] at e
  exact ⟨e.1, e.2.2.1, e.2.2.2.1, e.2.2.2.2, e.2.1⟩
theorem cool_size {a b : Array GenState} (e : a.map cool = b.map cool) : a.size = b.size := by
  have := congrArg Array.size e
  simpa using this
theorem cool_get {a b : Array GenState} (e : a.map cool = b.map cool) (g : Nat) : (a[g]?).map cool = (b[g]?).map cool := by
  have := congrArg (fun x => x[g]?) e
  simpa using this
theorem cool_set {a b : Array GenState} (e : a.map cool = b.map cool) (g : Nat) (y : GenState) : (a.setIfInBounds g y).map cool = (b.setIfInBounds g y).map cool := by
  simp [Array.map_setIfInBounds, e]
theorem cool_push {a b : Array GenState} (e : a.map cool = b.map cool) (y : GenState) : (a.push y).map cool = (b.push y).map cool := by
  simp [Array.map_push, e]
theorem hot_set {h h' : Heap} {a : Array GenState} {d d' : Drawn} {t t' : Nat} {o o' : OsState} {g : Nat} {y : GenState} (hy : hot y = false) : Cl ⟨h, a, d, t, o⟩ ⟨h', a.setIfInBounds g y, d', t', o'⟩ := by
  rintro i ⟨z, hz, q⟩
  have hz : (a.setIfInBounds g y)[i]? = some z := hz
  rw [Array.getElem?_setIfInBounds] at hz
  split at hz
  · split at hz
    · cases hz; rw [hy] at q; cases q
    · cases hz
  · exact ⟨z, hz, q⟩
theorem hot_push {h h' : Heap} {a : Array GenState} {d d' : Drawn} {t t' : Nat} {o o' : OsState} {c : Code} : Cl ⟨h, a, d, t, o⟩ ⟨h', a.push (.fresh c), d', t', o'⟩ := by
  rintro i ⟨z, hz, q⟩
  have hz : (a.push (.fresh c))[i]? = some z := hz
  rw [Array.getElem?_push] at hz
  split at hz
  · cases hz; cases q
  · exact ⟨z, hz, q⟩
theorem hot_same {h h' : Heap} {a : Array GenState} {d d' : Drawn} {t t' : Nat} {o o' : OsState} : Cl ⟨h, a, d, t, o⟩ ⟨h', a, d', t', o'⟩ := fun _ q => q

section
variable {den : Code → Sem PySem.Fin} {prog : Program} {w : World}
theorem cool_step {s s1 sr : Shared} {th th1 : Thread} (hl : th.loud = false) (h : stepK den prog w s th = .go s1 th1) (e : coolS sr = coolS s) :
    ∃ sr1, stepK den prog w sr th = .go sr1 th1 ∧ coolS sr1 = coolS s1 ∧ Cl sr sr1 := by
  obtain ⟨e1, e2, e3, e4, eg⟩ := cool_parts e
  obtain ⟨heap, gens, drawn, toks, os⟩ := s
  obtain ⟨heap', gr, drawn', toks', os'⟩ := sr
  obtain rfl : heap' = heap := e1
  obtain rfl : drawn' = drawn := e2
  obtain rfl : toks' = toks := e3
  obtain rfl : os' = os := e4
  have eg : gr.map cool = gens.map cool := eg
  have same : ∀ {h' : Heap} {d' : Drawn} {t' : Nat} {o' : OsState}, coolS ⟨h', gr, d', t', o'⟩ = coolS ⟨h', gens, d', t', o'⟩ := by
    intro h' d' t' o'; simp only [coolS, eg]
  obtain ⟨cur, c, p, st⟩ := th
  cases cur with
  | pure fin =>
    cases fin with
    | again c' => cases h; exact ⟨_, rfl, same, hot_same⟩
    | done f =>
      cases st with
      | nil =>
        simp only [stepK, step, finish] at h
        split at h <;> cases h
      | cons F rest =>
        cases F with
        | ret => cases h; exact ⟨_, rfl, same, hot_same⟩
        | gen => cases h; exact ⟨_, rfl, by simp only [coolS, cool_set eg], hot_set rfl⟩
  | raise x =>
    cases st with
    | nil =>
      simp only [stepK, step, finish] at h
      split at h <;> cases h
    | cons F rest =>
      cases F with
      | ret => cases h; exact ⟨_, rfl, same, hot_same⟩
      | gen => cases h; exact ⟨_, rfl, by simp only [coolS, cool_set eg], hot_set rfl⟩
  | unsupported what => cases h
  | finish x =>
    simp only [stepK, step] at h
    split at h <;> cases h
  | load a part k =>
    simp only [stepK, step] at h ⊢
    cases q : heap'.get? a with
    | none => rw [q] at h; cases h
    | some o => rw [q] at h; cases h; exact ⟨_, rfl, same, hot_same⟩
  | update a part f k =>
    simp only [stepK, step] at h ⊢
    split at h
    · rename_i q
      cases h
      rw [if_pos q]
      exact ⟨_, rfl, same, hot_same⟩
    · cases h
  | choose src n k =>
    simp only [stepK, step] at h ⊢
    split at h
    · cases h
    · rename_i q
      cases h
      rw [if_neg q]
      exact ⟨_, rfl, same, hot_same⟩
  | genState g k =>
    simp only [stepK, step] at h ⊢
    have eq := cool_get eg g
    cases q : gens[g]? with
    | none => rw [q] at h; cases h
    | some y =>
      rw [q] at h eq
      cases q' : gr[g]? with
      | none => rw [q'] at eq; cases eq
      | some z =>
        rw [q'] at eq
        have eq : cool z = cool y := Option.some.inj eq
        cases h
        cases y <;> cases z <;> simp only [cool] at eq <;> cases eq <;> exact ⟨_, rfl, same, hot_same⟩
  | newGen c' k =>
    cases h
    refine ⟨⟨heap', gr.push (.fresh c'), drawn', toks', os'⟩, by simp only [stepK, step, cool_size eg], by simp only [coolS, cool_push eg], hot_push⟩
  | resume g r l k =>
    simp only [stepK, step] at h ⊢
    have eq := cool_get eg g
    cases q : gens[g]? with
    | none => rw [q] at h; cases h
    | some y =>
      rw [q] at h eq
      cases q' : gr[g]? with
      | none => rw [q'] at eq; cases eq
      | some z =>
        rw [q'] at eq
        have eq : cool z = cool y := Option.some.inj eq
        have done : ∀ {h' d' t' o'}, coolS ⟨h', gr.setIfInBounds g .running, d', t', o'⟩ = coolS ⟨h', gens.setIfInBounds g .running, d', t', o'⟩ := by
          intro h' d' t' o'; simp only [coolS, cool_set eg]
        have done2 : ∀ {h' d' t' o'}, coolS ⟨h', gr.setIfInBounds g .finished, d', t', o'⟩ = coolS ⟨h', gens.setIfInBounds g .finished, d', t', o'⟩ := by
          intro h' d' t' o'; simp only [coolS, cool_set eg]
        cases y with
        | fresh c' =>
          cases z <;> simp only [cool] at eq <;> cases eq
          cases r with
          | send v => cases v <;> (cases h; first | exact ⟨_, rfl, same, hot_same⟩ | exact ⟨_, rfl, done, hot_set rfl⟩)
          | throw x => cases h; exact ⟨_, rfl, done2, hot_set rfl⟩
        | suspended kk l' c' p' fs cl =>
          cases z <;> simp only [cool] at eq <;> cases eq
          cases h; exact ⟨_, rfl, done, hot_set rfl⟩
        | running =>
          cases z <;> simp only [cool] at eq <;> cases eq
          cases h; exact ⟨_, rfl, same, hot_same⟩
        | finished =>
          cases z <;> simp only [cool] at eq <;> cases eq
          cases h; exact ⟨_, rfl, same, hot_same⟩
  | yield v g0 l kk =>
    simp only [stepK, step] at h ⊢
    cases q : splitAtGen st with
    | none => rw [q] at h; cases h
    | some x =>
      obtain ⟨fs, ⟨g, k, c', p'⟩, rest⟩ := x
      rw [q] at h
      cases h
      have hl2 := hl
      rw [Thread.loud_yield v g0 l kk c p q] at hl2
      exact ⟨_, rfl, by simp only [coolS, cool_set eg], hot_set hl2⟩
  | register a k => cases h
  | fork c k => cases h
  | await a f d l k => cases h
  | _ => cases h; exact ⟨_, rfl, same, hot_same⟩
end
end MR
end
section
set_option linter.all false
set_option maxRecDepth 100000
set_option maxHeartbeats 4000000
/-! MR3: wpL, wpAnyL, codeL over the real machine; what the calm logic proves is carried over. -/
namespace MR
open PySem

/-- the machine's run, in the terms of a model -/
abbrev Go (M : Model) (n : Nat) (s : Shared) (t : Thread) (s' : Shared) (t' : Thread) : Prop := CK M.den M.prog M.w n s t s' t'
theorem go1 {M : Model} {s s1 : Shared} {t t1 : Thread} (h : M.step s t = .go s1 t1) : Go M 1 s t s1 t1 := by
  cases hl : t.loud with
  | true => rw [M.step_loud hl] at h; cases h
  | false => rw [M.step_quiet hl] at h; exact .step (.inl hl) h .refl
theorem goCool {M : Model} {s s1 sr : Shared} {t t1 : Thread} (h : M.step s t = .go s1 t1) (e : coolS sr = coolS s) : ∃ sr1, Go M 1 sr t sr1 t1 ∧ coolS sr1 = coolS s1 ∧ Cl sr sr1 := by
  cases hl : t.loud with
  | true => rw [M.step_loud hl] at h; cases h
  | false =>
    rw [M.step_quiet hl] at h
    obtain ⟨sr1, h1, h2, h3⟩ := cool_step hl h e
    exact ⟨sr1, .step (.inl hl) h1 .refl, h2, h3⟩
theorem Go.tr {M : Model} {n m : Nat} {s s1 s2 : Shared} {t t1 t2 : Thread} (a : Go M n s t s1 t1) (b : Go M m s1 t1 s2 t2) : Go M (n + m) s t s2 t2 := CK.trans _ _ _ a b

theorem reach_go {M : Model} {base : List Frame} {s : Shared} {t c p pre s' e} (h : Reach M base s t c p pre s' e) : ∀ {sr : Shared}, coolS sr = coolS s →
    ∃ n sr' t' c' p' pre', Go M n sr ⟨t, c, p, pre ++ base⟩ sr' ⟨t', c', p', pre' ++ base⟩ ∧ Exits e t' c' p' pre' ∧ coolS sr' = coolS s' ∧ Cl sr sr' := by
  induction h with
  | exit hx => intro sr es; exact ⟨0, sr, _, _, _, _, .refl, hx, es, Cl.refl _⟩
  | step hs _ ih =>
    intro sr es
    obtain ⟨sr1, g1, e1, c1⟩ := goCool hs es
    obtain ⟨n, sr', t', c', p', pre', g2, hx, e2, c2⟩ := ih e1
    exact ⟨1 + n, sr', t', c', p', pre', g1.tr g2, hx, e2, c1.trans c2⟩

def RetL (M : Model) (Γ : Ctx) (p : Pos) (s : Shared) (R : Result → Shared → Prop) : Prop :=
  ∀ base, Γ.Fits base → ∃ n s' r c' p', Go M n s ⟨M.den Γ.code, Γ.code, p, base⟩ s' ⟨leafOf r, c', p', base⟩ ∧ R r s'
def WakL (M : Model) (Γ : Ctx) (p : Pos) (g : Nat) (r : Resume) (s : Shared) (R : GenResult → Shared → Prop) : Prop :=
  ∀ (l : List Value) (k : GenResult → Sem PySem.Fin) base, Γ.Fits base → ∃ n s' res, Go M n s ⟨.resume g r l k, Γ.code, p, base⟩ s' ⟨k res, Γ.code, p, base⟩ ∧ R res s'
theorem RetL.imp {M : Model} {Γ : Ctx} {p : Pos} {s : Shared} {R R' : Result → Shared → Prop} (h : RetL M Γ p s R) (i : ∀ r s', R r s' → R' r s') : RetL M Γ p s R' := fun base hf =>
  let ⟨n, s', r, c', p', g, q⟩ := h base hf
  ⟨n, s', r, c', p', g, i r s' q⟩
theorem WakL.imp {M : Model} {Γ : Ctx} {p : Pos} {g : Nat} {r : Resume} {s : Shared} {R R' : GenResult → Shared → Prop} (h : WakL M Γ p g r s R) (i : ∀ r s', R r s' → R' r s') : WakL M Γ p g r s R' := fun l k base hf =>
  let ⟨n, s', res, x, q⟩ := h l k base hf
  ⟨n, s', res, x, i res s' q⟩

theorem retL_of {M : Model} {Γ : Ctx} {p : Pos} {s s1 sr : Shared} {r : Result} (h : Returns M Γ p s r s1) (e : coolS sr = coolS s) :
    RetL M Γ p sr fun r' sr' => r' = r ∧ coolS sr' = coolS s1 ∧ Cl sr sr' := fun base hf => by
  obtain ⟨n, sr', t', c', p', pre', g, hx, e', c⟩ := reach_go (runs_reach h base hf) e
  obtain ⟨rfl, rfl⟩ := hx
  exact ⟨n, sr', r, c', p', g, rfl, e', c⟩
theorem coolS_set {a b : Shared} (e : coolS a = coolS b) (g : Nat) (y : GenState) : coolS (a.setGen g y) = coolS (b.setGen g y) := by
  obtain ⟨e1, e2, e3, e4, e5⟩ := cool_parts e
  simp only [coolS, Shared.setGen, cool_set e5, e1, e2, e3, e4]
theorem wakL_of {M : Model} {Γ : Ctx} {p : Pos} {g : Nat} {r : Resume} {s s1 sr : Shared} {res : GenResult} (h : Wakes M Γ p g r s res s1) (e : coolS sr = coolS s) :
    WakL M Γ p g r sr fun res' sr' => res' = res ∧ coolS sr' = coolS s1 ∧ Cl sr sr' := fun l k base hf => by
  unfold Wakes at h
  have run : ∀ (c : Code) (pos : Pos) (t : Sem PySem.Fin) (fs : List Frame), M.step s ⟨.resume g r l k, Γ.code, p, base⟩ = .go (s.setGen g .running) ⟨t, c, pos, fs ++ .gen g k l Γ.code p :: base⟩ →
      (∃ e₁ s₁, Runs M (Γ.wake c p) pos t fs (s.setGen g .running) e₁ s₁ ∧ e₁.quiet = true ∧ res = e₁.result ∧ s1 = s₁.setGen g e₁.genState) →
      ∃ n s' res', Go M n sr ⟨.resume g r l k, Γ.code, p, base⟩ s' ⟨k res', Γ.code, p, base⟩ ∧ res' = res ∧ coolS s' = coolS s1 ∧ Cl sr s' := by
    rintro c pos t fs hst ⟨e₁, s₁, hr, hq, rfl, rfl⟩
    obtain ⟨sa, g1, ea, ca⟩ := goCool hst e
    obtain ⟨n, sb, t', c', p', pre', g2, hx, eb, cb⟩ := reach_go (runs_reach hr (.gen g k l Γ.code p :: base) (hf.wake c g k l p)) ea
    obtain ⟨sc, g3, ec, cc⟩ := goCool (step_exit_gen (M := M) s₁ g k l Γ.code p base hx hq) eb
    exact ⟨1 + n + 1, sc, _, (g1.tr g2).tr g3, rfl, ec, (ca.trans cb).trans cc⟩
  have flat : ∀ {x : GenResult} {s2 : Shared}, M.step s ⟨.resume g r l k, Γ.code, p, base⟩ = .go s2 ⟨k x, Γ.code, p, base⟩ → res = x ∧ s1 = s2 →
      ∃ n s' res', Go M n sr ⟨.resume g r l k, Γ.code, p, base⟩ s' ⟨k res', Γ.code, p, base⟩ ∧ res' = res ∧ coolS s' = coolS s1 ∧ Cl sr s' := by
    rintro x s2 hst ⟨rfl, rfl⟩
    obtain ⟨sa, g1, ea, ca⟩ := goCool hst e
    exact ⟨1, sa, _, g1, rfl, ea, ca⟩
  cases q : s.gens[g]? with
  | none => rw [q] at h; exact h.elim
  | some y =>
    rw [q] at h
    cases y with
    | fresh c =>
      cases r with
      | send v =>
        cases v with
        | none => exact run c p (M.den c) [] (step_resume_fresh _ _ _ _ _ _ _ q) h
        | _ => exact flat (step_resume_justStarted _ _ _ _ _ _ _ q (by intro z; cases z)) h
      | throw x => exact flat (step_resume_throwFresh _ _ _ _ _ _ _ _ q) h
    | suspended k₀ l₀ c₀ p₀ fs cl => exact run c₀ p₀ (k₀ r) fs (step_resume_suspended _ _ _ _ _ _ _ _ q) h
    | running => exact flat (step_resume_running _ _ _ _ _ _ _ _ q) h
    | finished => exact flat (step_resume_finished _ _ _ _ _ _ _ _ q) h

/-- the weakest precondition over the machine's own runs -/
def wpL {α : Type} (M : Model) (Γ : Ctx) : Sem α → (α → Pos → Shared → Prop) → (Value → Pos → Shared → Prop) → Pos → Shared → Prop
  | .pure x, post, _, p, s => post x p s
  | .raise x, _, exc, p, s => exc x p s
  | .rule _ k, post, exc, p, s => wpL M Γ (k ()) post exc p s
  | .at q k, post, exc, _, s => wpL M Γ (k ()) post exc q s
  | .load b _ k, post, exc, p, s => ∃ o, s.heap.get? b = some o ∧ wpL M Γ (k o) post exc p s
  | .update b _ f k, post, exc, p, s => (s.heap.get? b).isSome ∧ wpL M Γ (k ()) post exc p { s with heap := s.heap.update b f }
  | .loadIfAlive b k, post, exc, p, s => wpL M Γ (k (s.heap.get? b)) post exc p s
  | .point _ k, post, exc, p, s => wpL M Γ (k ()) post exc p s
  | .alloc o k, post, exc, p, s => wpL M Γ (k s.heap.objs.size) post exc p { s with heap := s.heap.push o }
  | .fresh k, post, exc, p, s => wpL M Γ (k s.toks) post exc p { s with toks := s.toks + 1 }
  | .ask k, post, exc, p, s => wpL M Γ (k ⟨M.prog, M.w.params⟩) post exc p s
  | .choose src n k, post, exc, p, s => n ≠ 0 ∧ wpL M Γ (k (M.w.draws src (s.drawn.get src) % n)) post exc p { s with drawn := s.drawn.bump src }
  | .os q _ k, post, exc, p, s => wpL M Γ (k (Os.step s.os q).2) post exc p { s with os := (Os.step s.os q).1 }
  | .call c hd _ _ k, post, exc, p, s => RetL M (Γ.enter c hd p) p s fun r s' => wpL M Γ (k r) post exc p s'
  | .handled own k, post, exc, p, s => wpL M Γ (k (if own then Γ.own else Γ.handled)) post exc p s
  | .genState g k, post, exc, p, s => ∃ y, s.gens[g]? = some y ∧ wpL M Γ (k y.seen) post exc p s
  | .newGen c k, post, exc, p, s => wpL M Γ (k s.gens.size) post exc p { s with gens := s.gens.push (.fresh c) }
  | .resume g r _ k, post, exc, p, s => WakL M Γ p g r s fun res s' => wpL M Γ (k res) post exc p s'
  | .stack k, post, exc, p, s => wpL M Γ (k ((Γ.code, p) :: Γ.below)) post exc p s
  | .thread k, post, exc, p, s => wpL M Γ (k 0) post exc p s
  | _, _, _, _, _ => False

section
variable {α β : Type} (M : Model) (Γ : Ctx)
theorem wpL_bind (m : Sem α) (f : α → Sem β) (Q : β → Pos → Shared → Prop) (E : Value → Pos → Shared → Prop) (p : Pos) (s : Shared) :
    wpL M Γ (m >>= f) Q E p s = wpL M Γ m (fun x p' s' => wpL M Γ (f x) Q E p' s') E p s := by
  show wpL M Γ (m.bind f) Q E p s = _
  induction m generalizing p s <;> simp only [Sem.bind, wpL, *]
theorem wpL_catch (m : Sem α) (f : Value → Sem α) (Q : α → Pos → Shared → Prop) (E : Value → Pos → Shared → Prop) (p : Pos) (s : Shared) :
    wpL M Γ (m.tryCatch f) Q E p s = wpL M Γ m Q (fun x p' s' => wpL M Γ (f x) Q E p' s') p s := by
  induction m generalizing p s <;> simp only [Sem.tryCatch, wpL, *]
theorem wpL_onRaise (m : Sem α) (f : Value → Sem Unit) (Q : α → Pos → Shared → Prop) (E : Value → Pos → Shared → Prop) (p : Pos) (s : Shared) :
    wpL M Γ (m.onRaise f) Q E p s = wpL M Γ m Q (fun x p' s' => wpL M Γ (f x) (fun _ p'' s'' => E x p'' s'') E p' s') p s := by
  have hb : ∀ (a : Sem Unit) (b : Unit → Sem α) Q E p s, wpL M Γ (a.bind b) Q E p s = wpL M Γ a (fun x p' s' => wpL M Γ (b x) Q E p' s') E p s := fun a b Q E p s => wpL_bind M Γ a b Q E p s
  induction m generalizing p s <;> simp only [Sem.onRaise, wpL, *]
theorem wpL_keep (vs : List Value) (m : Sem α) (Q : α → Pos → Shared → Prop) (E : Value → Pos → Shared → Prop) (p : Pos) (s : Shared) :
    wpL M Γ (m.keep vs) Q E p s = wpL M Γ m Q E p s := by
  induction m generalizing p s <;> simp only [Sem.keep, wpL, *]
theorem wpL_holding (vs : List Value) (m : Sem α) (Q : α → Pos → Shared → Prop) (E : Value → Pos → Shared → Prop) (p : Pos) (s : Shared) :
    wpL M Γ (holding vs m) Q E p s = wpL M Γ m Q E p s := by rw [holding_eq_keep, wpL_keep]
theorem wpL_imp (t : Sem α) {Q Q' : α → Pos → Shared → Prop} {E E' : Value → Pos → Shared → Prop} (hQ : ∀ x p s, Q x p s → Q' x p s) (hE : ∀ x p s, E x p s → E' x p s) :
    ∀ p s, wpL M Γ t Q E p s → wpL M Γ t Q' E' p s := by
  induction t with
  | pure x => exact fun p s h => hQ x p s h
  | raise x => exact fun p s h => hE x p s h
  | load a part k ih => exact fun p s ⟨o, ho, h⟩ => ⟨o, ho, ih _ _ _ h⟩
  | update a part f k ih => exact fun p s ⟨ho, h⟩ => ⟨ho, ih _ _ _ h⟩
  | choose src n k ih => exact fun p s ⟨ho, h⟩ => ⟨ho, ih _ _ _ h⟩
  | genState g k ih => exact fun p s ⟨y, hy, h⟩ => ⟨y, hy, ih _ _ _ h⟩
  | call c hd g l k ih => exact fun p s h => RetL.imp h fun r s' q => ih r p s' q
  | resume g r l k ih => exact fun p s h => WakL.imp h fun r s' q => ih r p s' q
  | unsupported | finish | «yield» | fork | await | register => exact fun p s h => h
  | _ => rename_i ih; exact fun p s h => ih _ _ _ h

/-- what the calm logic proves holds on the machine -/
theorem wpL_of {s0 : Shared} (t : Sem α) {Q : α → Pos → Shared → Prop} {E : Value → Pos → Shared → Prop} : ∀ p s sr, coolS sr = coolS s → Cl s0 sr → Sem.wp M Γ t Q E p s →
    wpL M Γ t (fun x p' s' => ∃ s1, coolS s' = coolS s1 ∧ Cl s0 s' ∧ Q x p' s1) (fun x p' s' => ∃ s1, coolS s' = coolS s1 ∧ Cl s0 s' ∧ E x p' s1) p sr := by
  induction t with
  | pure x => exact fun p s sr e c h => ⟨s, e, c, h⟩
  | raise x => exact fun p s sr e c h => ⟨s, e, c, h⟩
  | load a part k ih =>
    rintro p s sr e c ⟨o, ho, h⟩
    exact ⟨o, by rw [(cool_parts e).1]; exact ho, ih _ _ _ _ e c h⟩
  | update a part f k ih =>
    rintro p s sr e c ⟨ho, h⟩
    obtain ⟨e1, e2, e3, e4, e5⟩ := cool_parts e
    exact ⟨by rw [e1]; exact ho, ih _ _ _ _ (by simp only [coolS, e1, e2, e3, e4, e5]) c h⟩
  | loadIfAlive a k ih =>
    intro p s sr e c h
    show wpL M Γ (k (sr.heap.get? a)) _ _ _ _
    rw [(cool_parts e).1]
    exact ih _ _ _ _ e c h
  | alloc o k ih =>
    intro p s sr e c h
    obtain ⟨e1, e2, e3, e4, e5⟩ := cool_parts e
    show wpL M Γ (k sr.heap.objs.size) _ _ _ _
    rw [e1]
    exact ih _ _ _ _ (by simp only [coolS, e1, e2, e3, e4, e5]) c h
  | fresh k ih =>
    intro p s sr e c h
    obtain ⟨e1, e2, e3, e4, e5⟩ := cool_parts e
    show wpL M Γ (k sr.toks) _ _ _ _
    rw [e3]
    exact ih _ _ _ _ (by simp only [coolS, e1, e2, e3, e4, e5]) c h
  | choose src n k ih =>
    rintro p s sr e c ⟨hn, h⟩
    obtain ⟨e1, e2, e3, e4, e5⟩ := cool_parts e
    refine ⟨hn, ?_⟩
    rw [e2]
    exact ih _ _ _ _ (by simp only [coolS, e1, e2, e3, e4, e5]) c h
  | os q l k ih =>
    intro p s sr e c h
    obtain ⟨e1, e2, e3, e4, e5⟩ := cool_parts e
    show wpL M Γ (k (Os.step sr.os q).2) _ _ _ _
    rw [e4]
    exact ih _ _ _ _ (by simp only [coolS, e1, e2, e3, e4, e5]) c h
  | call cd hd g l k ih =>
    rintro p s sr e c ⟨r, s1, hr, h⟩
    refine RetL.imp (retL_of hr e) fun r' s' ⟨er, e', c'⟩ => ?_
    subst er
    exact ih _ _ _ _ e' (c.trans c') h
  | genState g k ih =>
    rintro p s sr e c ⟨y, hy, h⟩
    have q := cool_get (cool_parts e).2.2.2.2 g
    rw [hy] at q
    cases q' : sr.gens[g]? with
    | none => rw [q'] at q; cases q
    | some z =>
      rw [q'] at q
      have q : cool z = cool y := Option.some.inj q
      have hs : z.seen = y.seen := by cases y <;> cases z <;> simp_all [cool, GenState.seen]
      exact ⟨z, q', by rw [hs]; exact ih _ _ _ _ e c h⟩
  | newGen cd k ih =>
    intro p s sr e c h
    obtain ⟨e1, e2, e3, e4, e5⟩ := cool_parts e
    show wpL M Γ (k sr.gens.size) _ _ _ _
    rw [cool_size e5]
    exact ih _ _ _ _ (by simp only [coolS, e1, e2, e3, e4, cool_push e5]) (c.trans hot_push) h
  | resume g r l k ih =>
    rintro p s sr e c ⟨res, s1, hr, h⟩
    refine WakL.imp (wakL_of hr e) fun r' s' ⟨er, e', c'⟩ => ?_
    subst er
    exact ih _ _ _ _ e' (c.trans c') h
  | unsupported | finish | «yield» | fork | await | register => exact fun p s sr e c h => h.elim
  | _ => rename_i ih; exact fun p s sr e c h => ih _ _ _ _ e c h

/-- a tree's run on the machine -/
theorem wpL_go (t : Sem PySem.Fin) {Q : PySem.Fin → Pos → Shared → Prop} {E : Value → Pos → Shared → Prop} {st : List Frame} (hf : Γ.Fits st) : ∀ p s, wpL M Γ t Q E p s →
    ∃ n s' t' p', Go M n s ⟨t, Γ.code, p, st⟩ s' ⟨t', Γ.code, p', st⟩ ∧ ((∃ x, t' = .pure x ∧ Q x p' s') ∨ (∃ x, t' = .raise x ∧ E x p' s')) := by
  have go : ∀ {s s1 : Shared} {t t1 : Sem PySem.Fin} {p p1 : Pos}, M.step s ⟨t, Γ.code, p, st⟩ = .go s1 ⟨t1, Γ.code, p1, st⟩ →
      (∃ n s' t' p', Go M n s1 ⟨t1, Γ.code, p1, st⟩ s' ⟨t', Γ.code, p', st⟩ ∧ ((∃ x, t' = .pure x ∧ Q x p' s') ∨ (∃ x, t' = .raise x ∧ E x p' s'))) →
      ∃ n s' t' p', Go M n s ⟨t, Γ.code, p, st⟩ s' ⟨t', Γ.code, p', st⟩ ∧ ((∃ x, t' = .pure x ∧ Q x p' s') ∨ (∃ x, t' = .raise x ∧ E x p' s')) :=
    fun h ⟨n, s', t', p', g, q⟩ => ⟨1 + n, s', t', p', (go1 h).tr g, q⟩
  induction t with
  | pure x => exact fun p s h => ⟨0, s, _, p, .refl, .inl ⟨x, rfl, h⟩⟩
  | raise x => exact fun p s h => ⟨0, s, _, p, .refl, .inr ⟨x, rfl, h⟩⟩
  | rule tag k ih => exact fun p s h => go (step_rule ..) (ih _ _ _ h)
  | «at» q k ih => exact fun p s h => go (step_at ..) (ih _ _ _ h)
  | load a part k ih => exact fun p s ⟨o, ho, h⟩ => go (step_load _ _ _ _ _ _ _ ho) (ih _ _ _ h)
  | update a part f k ih => exact fun p s ⟨ho, h⟩ => go (step_update _ _ _ _ _ _ _ _ ho) (ih _ _ _ h)
  | loadIfAlive a k ih => exact fun p s h => go (step_loadIfAlive ..) (ih _ _ _ h)
  | point l k ih => exact fun p s h => go (step_point ..) (ih _ _ _ h)
  | alloc o k ih => exact fun p s h => go (step_alloc ..) (ih _ _ _ h)
  | fresh k ih => exact fun p s h => go (step_fresh ..) (ih _ _ _ h)
  | ask k ih => exact fun p s h => go (step_ask ..) (ih _ _ _ h)
  | choose src n k ih => exact fun p s ⟨hn, h⟩ => go (step_choose _ _ _ _ _ _ _ hn) (ih _ _ _ h)
  | os q l k ih => exact fun p s h => go (step_os ..) (ih _ _ _ h)
  | call c hd g l k ih =>
    intro p s h
    obtain ⟨n, s1, r, c', p', g1, q⟩ := h (.ret k hd g l Γ.code p [] :: st) (hf.enter c k hd g l p [])
    obtain ⟨m, s2, t2, p2, g2, q2⟩ := ih r p s1 q
    exact ⟨1 + n + 1 + m, s2, t2, p2, (((go1 (step_call ..)).tr g1).tr (go1 (step_leaf_ret ..))).tr g2, q2⟩
  | handled own k ih =>
    intro p s h
    refine go ?_ (ih (if own then Γ.own else Γ.handled) p s h)
    rw [step_handled]
    cases own
    · rw [hf.handled]; rfl
    · rw [hf.own]; rfl
  | genState g k ih => exact fun p s ⟨y, hy, h⟩ => go (step_genState _ _ _ _ _ _ hy) (ih _ _ _ h)
  | newGen c k ih => exact fun p s h => go (step_newGen ..) (ih _ _ _ h)
  | resume g r l k ih =>
    intro p s h
    obtain ⟨n, s1, res, g1, q⟩ := h l k st hf
    obtain ⟨m, s2, t2, p2, g2, q2⟩ := ih res p s1 q
    exact ⟨n + m, s2, t2, p2, g1.tr g2, q2⟩
  | stack k ih =>
    intro p s h
    refine go ?_ (ih ((Γ.code, p) :: Γ.below) p s h)
    rw [hf.below]; exact step_stack ..
  | thread k ih => exact fun p s h => go (step_thread ..) (ih _ _ _ h)
  | unsupported | finish | «yield» | fork | await | register => exact fun p s h => h.elim
end

/-! ### from wherever the code is called -/
def anyL {α : Type} (M : Model) (A : Around) (t : Sem α) (Q : α → Shared → Prop) (s : Shared) : Prop :=
  ∀ Γ p, Γ.In A → wpL M Γ t (fun x _ s' => Q x s') (fun _ _ _ => False) p s
def codeL (M : Model) (A : Around) (c : Code) (R : Value → Shared → Prop) (s : Shared) : Prop :=
  ∀ Γ p, Γ.code = c → Γ.Below A → RetL M Γ p s fun r s' => ∃ v, r = .ok (.ret v) ∧ R v s'
def flowL (M : Model) (A : Around) (c : Code) (R : Flow → Shared → Prop) (s : Shared) : Prop :=
  ∀ Γ p, Γ.code = c → Γ.Below A → RetL M Γ p s fun r s' => ∃ f, r = .ok f ∧ R f s'
section
variable {α β : Type} {M : Model} {A : Around} {s : Shared}
theorem aL_pure {x : α} {Q : α → Shared → Prop} (h : Q x s) : anyL M A (pure x) Q s := fun _ _ _ => h
theorem aL_imp {t : Sem α} {Q Q' : α → Shared → Prop} (h : anyL M A t Q s) (i : ∀ x s', Q x s' → Q' x s') : anyL M A t Q' s := fun Γ p hΓ =>
  wpL_imp M Γ t (fun x _ s' => i x s') (fun _ _ _ q => q) p s (h Γ p hΓ)
theorem aL_bind {m : Sem α} {f : α → Sem β} {Q : β → Shared → Prop} (h : anyL M A m (fun x s' => anyL M A (f x) Q s') s) : anyL M A (m >>= f) Q s := fun Γ p hΓ => by
  rw [wpL_bind]
  exact wpL_imp M Γ m (fun x p' s' q => q Γ p' hΓ) (fun _ _ _ q => q) p s (h Γ p hΓ)
theorem aL_hold {vs : List Value} {m : Sem α} {Q : α → Shared → Prop} (h : anyL M A m Q s) : anyL M A (holding vs m) Q s := fun Γ p hΓ => by rw [wpL_holding]; exact h Γ p hΓ
theorem aL_onRaise {m : Sem α} {f : Value → Sem Unit} {Q : α → Shared → Prop} (h : anyL M A m Q s) : anyL M A (m.onRaise f) Q s := fun Γ p hΓ => by
  rw [wpL_onRaise]
  exact wpL_imp M Γ m (fun _ _ _ q => q) (fun _ _ _ q => q.elim) p s (h Γ p hΓ)
theorem aL_stand {q : Pos} {Q : Unit → Shared → Prop} (h : Q () s) : anyL M A (standAt q) Q s := fun _ _ _ => h
theorem aL_rule {tag : String} {Q : Unit → Shared → Prop} (h : Q () s) : anyL M A (rule tag) Q s := fun _ _ _ => h
theorem aL_point {Q : Unit → Shared → Prop} (h : Q () s) : anyL M A point Q s := fun _ _ _ => h
theorem aL_load {a : Addr} {o : Obj} {Q : Obj → Shared → Prop} (ho : s.heap.get? a = some o) (h : Q o s) : anyL M A (load a) Q s := fun _ _ _ => ⟨o, ho, h⟩
/-- the calm logic's word; hot generators stay as they are -/
theorem aL_calm {s0 sc : Shared} {t : Sem α} {Q : α → Shared → Prop} {E : Value → Shared → Prop} (h : wpAny M A t Q E sc) (hE : ∀ x s', ¬ E x s') (e : coolS s = coolS sc) (c : Cl s0 s) :
    anyL M A t (fun x s' => ∃ s1, coolS s' = coolS s1 ∧ Cl s0 s' ∧ Q x s1) s := fun Γ p hΓ =>
  wpL_imp M Γ t (fun _ _ _ q => q) (fun x _ _ ⟨s1, _, _, q⟩ => hE x s1 q) p s (wpL_of M Γ t p sc s e c (h Γ p hΓ))
theorem fL_calm {s0 sc : Shared} {cd : Code} {R : Result → Shared → Prop} (h : codeAny M A cd R sc) (e : coolS s = coolS sc) (c : Cl s0 s) :
    ∀ Γ p, Γ.code = cd → Γ.Below A → RetL M Γ p s fun r s' => ∃ s1, coolS s' = coolS s1 ∧ Cl s0 s' ∧ R r s1 := fun Γ p hc hΓ => by
  obtain ⟨r, s1, hr, q⟩ := h Γ p hc hΓ
  exact RetL.imp (retL_of hr e) fun r' s' ⟨er, e', c'⟩ => ⟨s1, e', c.trans c', er ▸ q⟩
/-- from a tree -/
theorem retL_tree {Γ : Ctx} {p : Pos} {R : Result → Shared → Prop}
    (h : wpL M Γ (M.den Γ.code) (fun fin p' s' => match fin with | .done f => R (.ok f) s' | .again c' => c'.quiet = true ∧ RetL M (Γ.goto c') p' s' R) (fun x _ s' => R (.error x) s') p s) : RetL M Γ p s R := fun base hf => by
  obtain ⟨n, s', t', p', g, q⟩ := wpL_go M Γ (M.den Γ.code) hf p s h
  rcases q with ⟨x, rfl, q⟩ | ⟨x, rfl, q⟩
  · cases x with
    | done f => exact ⟨n, s', .ok f, _, p', g, q⟩
    | again c' =>
      obtain ⟨hq, q⟩ := q
      obtain ⟨m, s2, r, c2, p2, g2, q2⟩ := q base (hf.goto c')
      exact ⟨n + 1 + m, s2, r, c2, p2, (g.tr (go1 (step_again _ _ _ _ _ _ hq))).tr g2, q2⟩
  · exact ⟨n, s', .error x, _, p', g, q⟩
theorem flowL_tree {c : Code} {R : Flow → Shared → Prop}
    (h : anyL M (A.under c) (M.den c) (fun fin s' => match fin with | .done f => R f s' | .again c' => c'.quiet = true ∧ flowL M A c' R s') s) : flowL M A c R s := fun Γ p hc hΓ => by
  refine retL_tree ?_
  rw [hc]
  refine wpL_imp M Γ _ (fun fin p' s' q => ?_) (fun _ _ _ q => q.elim) p s (h Γ p (hc ▸ hΓ.in))
  cases fin with
  | done f => exact ⟨f, rfl, q⟩
  | again c' => exact ⟨q.1, q.2 (Γ.goto c') p' rfl (hΓ.goto c')⟩
theorem flowL_imp {c : Code} {R R' : Flow → Shared → Prop} (h : flowL M A c R s) (i : ∀ f s', R f s' → R' f s') : flowL M A c R' s := fun Γ p hc hΓ =>
  RetL.imp (h Γ p hc hΓ) fun r s' ⟨f, e, q⟩ => ⟨f, e, i f s' q⟩
theorem aL_run {c : Code} {hd : Option Value} {Q : Flow → Shared → Prop} (h : flowL M (A.mark hd) c Q s) (hb : hd ≠ some byPass := by intro x; cases x) : anyL M A (run c hd) Q s := fun Γ p hΓ =>
  RetL.imp (h _ p rfl (hΓ.enter c hd p hb)) fun r s' ⟨f, e, q⟩ => by subst e; exact q
theorem aL_call {f : Value} {us : List Value} {kw : List (Str × Value)} {Q : Value → Shared → Prop} (h : flowL M A (.call f ⟨us, kw⟩) (fun fl s' => ∃ v, fl = .ret v ∧ Q v s') s) : anyL M A (call f us kw) Q s := by
  unfold PySem.call runValue
  intro Γ p hΓ
  rw [wpL_bind]
  exact RetL.imp (h _ p rfl (hΓ.enter _ none p (by intro x; cases x))) fun r s' ⟨fl, e, v, e2, q⟩ => by subst e; subst e2; exact q
end
end MR
end
section
set_option linter.all false
set_option maxRecDepth 100000
set_option maxHeartbeats 4000000
/-! MgA: values as data (D), what represents them in the tracked heap (Rp), abstract states (slots), and readings over them: XE, XT, XA, XS. -/
namespace MG
open PySem L2

inductive D where
  | non | bl (b : Bool) | int (i : Int) | str (s : Str) | tup (xs : List D) | lst (xs : List D) | raw (v : V)
instance : Inhabited D := ⟨.non⟩

abbrev AS := Addr → Prop
mutual
def Rp (O : AS) (H : Hp) : D → V → Prop
  | .non, v => v = .non
  | .bl b, v => v = .bl b
  | .int i, v => v = .int i
  | .str s, v => v = .str s
  | .raw w, v => v = w
  | .tup ds, v => ∃ a vs, v = .ref a ∧ H a = some (.tup vs) ∧ RpL O H ds vs
  | .lst ds, v => ∃ a vs, v = .ref a ∧ H a = some (.lst vs) ∧ ¬ O a ∧ RpL O H ds vs
def RpL (O : AS) (H : Hp) : List D → List V → Prop
  | [], vs => vs = []
  | d :: ds, vs => ∃ v r, vs = v :: r ∧ Rp O H d v ∧ RpL O H ds r
end

section
variable {O O' : AS} {H H' : Hp}
mutual
theorem Rp.to (ht : ∀ b xs, H b = some (.tup xs) → H' b = some (.tup xs)) (hl : ∀ b xs, ¬ O b → H b = some (.lst xs) → ¬ O' b ∧ H' b = some (.lst xs)) : ∀ (d : D) (v : V), Rp O H d v → Rp O' H' d v
  | .non, _, h => h
  | .bl _, _, h => h
  | .int _, _, h => h
  | .str _, _, h => h
  | .raw _, _, h => h
  | .tup ds, v, h => by
    unfold Rp at h ⊢
    obtain ⟨a, vs, e, hs, r⟩ := h
    exact ⟨a, vs, e, ht a vs hs, RpL.to ht hl ds vs r⟩
  | .lst ds, v, h => by
    unfold Rp at h ⊢
    obtain ⟨a, vs, e, hs, n, r⟩ := h
    exact ⟨a, vs, e, (hl a vs n hs).2, (hl a vs n hs).1, RpL.to ht hl ds vs r⟩
theorem RpL.to (ht : ∀ b xs, H b = some (.tup xs) → H' b = some (.tup xs)) (hl : ∀ b xs, ¬ O b → H b = some (.lst xs) → ¬ O' b ∧ H' b = some (.lst xs)) : ∀ (ds : List D) (vs : List V), RpL O H ds vs → RpL O' H' ds vs
  | [], vs, h => by unfold RpL at h ⊢; exact h
  | d :: ds, vs, h => by
    unfold RpL at h ⊢
    obtain ⟨v, r, e, h1, h2⟩ := h
    exact ⟨v, r, e, Rp.to ht hl d v h1, RpL.to ht hl ds r h2⟩
end
theorem RpL.nil : RpL O H [] [] := by unfold RpL; rfl
theorem RpL.cons {d : D} {v : V} {ds : List D} {vs : List V} (h : Rp O H d v) (r : RpL O H ds vs) : RpL O H (d :: ds) (v :: vs) := by
  unfold RpL; exact ⟨v, vs, rfl, h, r⟩
theorem RpL.len : ∀ {ds : List D} {vs : List V}, RpL O H ds vs → vs.length = ds.length
  | [], vs, h => by unfold RpL at h; subst h; rfl
  | d :: ds, vs, h => by
    unfold RpL at h
    obtain ⟨v, r, e, _, h2⟩ := h
    subst e
    show r.length + 1 = ds.length + 1
    rw [RpL.len h2]
theorem RpL.get : ∀ {ds : List D} {vs : List V} {i : Nat} {d : D}, RpL O H ds vs → ds[i]? = some d → ∃ v, vs[i]? = some v ∧ Rp O H d v
  | [], _, _, _, _, e => by simp at e
  | d :: ds, vs, 0, x, h, e => by
    unfold RpL at h
    obtain ⟨v, r, ev, h1, _⟩ := h
    subst ev
    simp at e; subst e
    exact ⟨v, rfl, h1⟩
  | d :: ds, vs, i + 1, x, h, e => by
    unfold RpL at h
    obtain ⟨v, r, ev, _, h2⟩ := h
    subst ev
    obtain ⟨u, h3, h4⟩ := RpL.get (i := i) h2 (by simpa using e)
    exact ⟨u, by simpa using h3, h4⟩
theorem RpL.got {ds : List D} {vs : List V} {i : Nat} {v : V} (h : RpL O H ds vs) (e : vs[i]? = some v) : ∃ d, ds[i]? = some d ∧ Rp O H d v := by
  have hi : i < vs.length := by
    rcases Nat.lt_or_ge i vs.length with q | q
    · exact q
    · rw [List.getElem?_eq_none q] at e; cases e
  have hi' : i < ds.length := by rw [← h.len]; exact hi
  obtain ⟨u, e2, r⟩ := h.get (List.getElem?_eq_getElem hi')
  rw [e] at e2; cases e2
  exact ⟨_, List.getElem?_eq_getElem hi', r⟩
theorem RpL.append : ∀ {ds es : List D} {vs us : List V}, RpL O H ds vs → RpL O H es us → RpL O H (ds ++ es) (vs ++ us)
  | [], es, vs, us, h, g => by unfold RpL at h; subst h; exact g
  | d :: ds, es, vs, us, h, g => by
    unfold RpL at h
    obtain ⟨v, r, e, h1, h2⟩ := h
    subst e
    exact RpL.cons h1 (RpL.append h2 g)
theorem RpL.take : ∀ {ds : List D} {vs : List V} (n : Nat), RpL O H ds vs → RpL O H (ds.take n) (vs.take n)
  | _, _, 0, _ => by rw [List.take_zero, List.take_zero]; exact RpL.nil
  | [], vs, n + 1, h => by unfold RpL at h; subst h; exact RpL.nil
  | d :: ds, vs, n + 1, h => by
    unfold RpL at h
    obtain ⟨v, r, e, h1, h2⟩ := h
    subst e
    exact RpL.cons h1 (RpL.take n h2)
theorem RpL.drop : ∀ {ds : List D} {vs : List V} (n : Nat), RpL O H ds vs → RpL O H (ds.drop n) (vs.drop n)
  | _, _, 0, h => h
  | [], vs, n + 1, h => by unfold RpL at h; subst h; exact RpL.nil
  | d :: ds, vs, n + 1, h => by
    unfold RpL at h
    obtain ⟨v, r, e, _, h2⟩ := h
    subst e
    exact RpL.drop n h2
theorem RpL.set : ∀ {ds : List D} {vs : List V} (i : Nat) {d : D} {v : V}, RpL O H ds vs → Rp O H d v → RpL O H (ds.set i d) (vs.set i v)
  | [], vs, i, d, v, h, _ => by unfold RpL at h; subst h; exact RpL.nil
  | x :: ds, vs, 0, d, v, h, g => by
    unfold RpL at h
    obtain ⟨u, r, e, _, h2⟩ := h
    subst e
    exact RpL.cons g h2
  | x :: ds, vs, i + 1, d, v, h, g => by
    unfold RpL at h
    obtain ⟨u, r, e, h1, h2⟩ := h
    subst e
    exact RpL.cons h1 (RpL.set i h2 g)
theorem RpL.reverse {ds : List D} {vs : List V} (h : RpL O H ds vs) : RpL O H ds.reverse vs.reverse := by
  induction ds generalizing vs with
  | nil => unfold RpL at h; subst h; exact RpL.nil
  | cons d ds ih =>
    unfold RpL at h
    obtain ⟨v, r, e, h1, h2⟩ := h
    subst e
    rw [List.reverse_cons, List.reverse_cons]
    exact (ih h2).append (RpL.cons h1 RpL.nil)
end

/-! ### what a callee may change -/
def NTup (o : HO) : Prop := ∀ xs, o ≠ .tup xs
structure Vol where
  t : Addr
  T : AS
  F : AS
  TI : Hp → Prop
  sub : ∀ b, T b → F b
  stab : ∀ H H', (∀ b o, F b → H b = some o → H' b = some o) → TI H → TI H'
  nt : ∀ H b, TI H → T b → ∃ o, H b = some o ∧ NTup o
def Vol.nil : Vol := ⟨0, fun _ => False, fun _ => False, fun _ => True, fun _ h => h, fun _ _ _ h => h, fun _ _ _ h => h.elim⟩

def Go (V : Vol) (H H' : Hp) : Prop := (∀ b o, ¬ V.T b → H b = some o → H' b = some o) ∧ V.TI H'
section
variable {V : Vol} {H H1 H2 : Hp}
theorem Go.refl (h : V.TI H) : Go V H H := ⟨fun _ _ _ e => e, h⟩
theorem Go.trans (a : Go V H H1) (b : Go V H1 H2) : Go V H H2 := ⟨fun c o n e => b.1 c o n (a.1 c o n e), b.2⟩
theorem Go.same (h : V.TI H) (s : Same H H1) : Go V H H1 := ⟨fun b o _ e => s b o e, V.stab H H1 (fun b o _ e => s b o e) h⟩
theorem same_new {p : Addr} {o : HO} (h : H p = none) : Same H (upd H p o) := fun b x e => by
  rw [upd_ne (ne_of_none e h)]; exact e
theorem Go.new {p : Addr} {o : HO} (h : V.TI H) (n : H p = none) : Go V H (upd H p o) := .same h (same_new n)
theorem Go.tup (h : V.TI H) (g : Go V H H1) {b : Addr} {xs : List L2.V} (e : H b = some (.tup xs)) : H1 b = some (.tup xs) := by
  refine g.1 b _ (fun z => ?_) e
  obtain ⟨o, e2, n⟩ := V.nt H b h z
  rw [e] at e2; cases e2
  exact n xs rfl
theorem Go.none (h : V.TI H) (g : Go V H H1) {b : Addr} (e : H1 b = none) : H b = none := by
  cases q : H b with
  | none => rfl
  | some o =>
    by_cases z : V.T b
    · obtain ⟨o, e2, _⟩ := V.nt H1 b g.2 z
      rw [e] at e2; cases e2
    · rw [g.1 b o z q] at e; cases e
end

/-! ### abstract states -/
inductive Slot where
  | no | dat (d : D) | own (ds : List D) | tape
inductive AV where
  | dat (d : D) | new (ds : List D) | brw (ds : List D)
def AV.d : AV → D
  | .dat d => d
  | .new ds => .lst ds
  | .brw ds => .lst ds
def AV.ok : AV → Prop
  | .brw _ => False
  | _ => True

def RepA (V : Vol) (O : AS) (H H' : Hp) : AV → L2.V → Prop
  | .dat d, v => Rp O H' d v
  | .new ds, v => ∃ p vs, v = .ref p ∧ H p = none ∧ H' p = some (.lst vs) ∧ RpL (fun b => O b ∨ b = p) H' ds vs
  | .brw ds, v => ∃ p vs, v = .ref p ∧ O p ∧ ¬ V.T p ∧ H' p = some (.lst vs) ∧ RpL O H' ds vs

def SlotOk (V : Vol) (H0 : Hp) (O : AS) (H : Hp) (x : Option (Option L2.V)) : Slot → Prop
  | .no => True
  | .dat d => ∃ v, x = some (some v) ∧ Rp O H d v
  | .own ds => ∃ p vs, x = some (some (.ref p)) ∧ O p ∧ H0 p = none ∧ H p = some (.lst vs) ∧ RpL O H ds vs
  | .tape => x = some (some (.ref V.t))

structure MtO (V : Vol) (O0 : AS) (H0 : Hp) (O : AS) (δ : List Slot) (σ : St) (H : Hp) : Prop where
  len : σ.length = δ.length
  slot : ∀ (i : Nat) (s : Slot), δ[i]? = some s → SlotOk V H0 O H (σ[i]?) s
  sep : ∀ (i j : Nat) (ds es : List D) (p : Addr), δ[i]? = some (.own ds) → δ[j]? = some (.own es) → σ[i]? = some (some (.ref p)) → σ[j]? = some (some (.ref p)) → i = j
  sub : ∀ b, O0 b → O b
  vf : ∀ b, V.F b → O0 b
  al0 : ∀ b, O0 b → ∃ o, H0 b = some o
  al : ∀ b, O b → ∃ o, H b = some o ∧ NTup o
  go : Go V H0 H
  ti0 : V.TI H0

/-- what may have happened from (O, H) to (O', H') -/
def StR (O : AS) (H : Hp) (O' : AS) (H' : Hp) : Prop := (∀ b o, ¬ O b → H b = some o → H' b = some o) ∧ (∀ b, O' b → O b ∨ H b = none)
theorem StR.refl {O : AS} {H : Hp} : StR O H O H := ⟨fun _ _ _ e => e, fun _ h => .inl h⟩
theorem StR.trans {O O1 O2 : AS} {H H1 H2 : Hp} (a : StR O H O1 H1) (b : StR O1 H1 O2 H2) : StR O H O2 H2 := by
  refine ⟨fun c o n e => b.1 c o (fun z => ?_) (a.1 c o n e), fun c h => ?_⟩
  · rcases a.2 c z with q | q
    · exact n q
    · rw [e] at q; cases q
  · rcases b.2 c h with q | q
    · exact a.2 c q
    · by_cases z : O c
      · exact .inl z
      · refine .inr ?_
        cases e : H c with
        | none => rfl
        | some o => rw [a.1 c o z e] at q; cases q

section
variable {V : Vol} {O0 O O' : AS} {H0 H H' H1 H2 : Hp} {δ : List Slot} {σ : St}
theorem MtO.ti (m : MtO V O0 H0 O δ σ H) : V.TI H := m.go.2
theorem MtO.tO (m : MtO V O0 H0 O δ σ H) {b : Addr} (h : V.T b) : O b := m.sub b (m.vf b (V.sub b h))
theorem MtO.rp (m : MtO V O0 H0 O δ σ H) (g : Go V H H') {d : D} {v : L2.V} (r : Rp O H d v) : Rp O H' d v :=
  Rp.to (fun b xs e => g.tup m.ti e) (fun b xs n e => ⟨n, g.1 b _ (fun z => n (m.tO z)) e⟩) d v r
theorem MtO.rpl (m : MtO V O0 H0 O δ σ H) (g : Go V H H') {d : List D} {v : List L2.V} (r : RpL O H d v) : RpL O H' d v :=
  RpL.to (fun b xs e => g.tup m.ti e) (fun b xs n e => ⟨n, g.1 b _ (fun z => n (m.tO z)) e⟩) d v r
theorem MtO.notT (m : MtO V O0 H0 O δ σ H) {p : Addr} (h : H0 p = none) : ¬ V.T p := fun z => by
  obtain ⟨o, e⟩ := m.al0 p (m.vf p (V.sub p z))
  rw [h] at e; cases e
theorem MtO.mono (m : MtO V O0 H0 O δ σ H) (g : Go V H H') : MtO V O0 H0 O δ σ H' where
  len := m.len
  slot := fun i s e => by
    have q := m.slot i s e
    cases s with
    | no => trivial
    | dat d => obtain ⟨v, e2, r⟩ := q; exact ⟨v, e2, m.rp g r⟩
    | own ds => obtain ⟨p, vs, e2, o, h0, hp, r⟩ := q; exact ⟨p, vs, e2, o, h0, g.1 p _ (m.notT h0) hp, m.rpl g r⟩
    | tape => exact q
  sep := m.sep
  sub := m.sub
  vf := m.vf
  al0 := m.al0
  al := fun b h => by
    by_cases z : V.T b
    · exact V.nt H' b g.2 z
    · obtain ⟨o, e, n⟩ := m.al b h
      exact ⟨o, g.1 b o z e, n⟩
  go := m.go.trans g
  ti0 := m.ti0
theorem MtO.str (m : MtO V O0 H0 O δ σ H) (g : Go V H H') : StR O H O H' := ⟨fun b o n e => g.1 b o (fun z => n (m.tO z)) e, fun _ h => .inl h⟩
theorem MtO.free (m : MtO V O0 H0 O δ σ H) {p : Addr} (h : H p = none) : ¬ O p := fun z => by
  obtain ⟨o, e, _⟩ := m.al p z
  rw [h] at e; cases e
/-- what is added to O is new -/
theorem MtO.rpNew (m : MtO V O0 H0 O δ σ H) (g : Go V H H') {p : Addr} (n : H p = none) {d : D} {v : L2.V} (r : Rp O H d v) : Rp (fun b => O b ∨ b = p) H' d v :=
  Rp.to (fun b xs e => g.tup m.ti e) (fun b xs n' e => ⟨fun z => z.elim n' (fun q => by (rw [q, n] at e; cases e)), g.1 b _ (fun z => n' (m.tO z)) e⟩) d v r
theorem MtO.rplNew (m : MtO V O0 H0 O δ σ H) (g : Go V H H') {p : Addr} (n : H p = none) {d : List D} {v : List L2.V} (r : RpL O H d v) : RpL (fun b => O b ∨ b = p) H' d v :=
  RpL.to (fun b xs e => g.tup m.ti e) (fun b xs n' e => ⟨fun z => z.elim n' (fun q => by (rw [q, n] at e; cases e)), g.1 b _ (fun z => n' (m.tO z)) e⟩) d v r
theorem rp_less (h : ∀ b, O' b → O b) {d : D} {v : L2.V} (r : Rp O H d v) : Rp O' H d v := Rp.to (fun _ _ e => e) (fun b _ n e => ⟨fun z => n (h b z), e⟩) d v r
theorem rpl_less (h : ∀ b, O' b → O b) {d : List D} {v : List L2.V} (r : RpL O H d v) : RpL O' H d v := RpL.to (fun _ _ e => e) (fun b _ n e => ⟨fun z => n (h b z), e⟩) d v r
theorem MtO.repA (m : MtO V O0 H0 O δ σ H) (g : Go V H H1) (g2 : Go V H1 H2) {a : AV} {v : L2.V} (r : RepA V O H H1 a v) : RepA V O H H2 a v := by
  have m1 := m.mono g
  cases a with
  | dat d => exact m1.rp g2 r
  | new ds =>
    obtain ⟨p, vs, e, n, h1, r⟩ := r
    have nt : ¬ V.T p := fun z => m.free n (m.tO z)
    exact ⟨p, vs, e, n, g2.1 p _ nt h1, RpL.to (fun b xs e => g2.tup m1.ti e) (fun b xs n' e => ⟨n', g2.1 b _ (fun z => n' (.inl (m.tO z))) e⟩) ds vs r⟩
  | brw ds =>
    obtain ⟨p, vs, e, o, z, h1, r⟩ := r
    exact ⟨p, vs, e, o, z, g2.1 p _ z h1, m1.rpl g2 r⟩
theorem MtO.repB (m : MtO V O0 H0 O δ σ H) (g : Go V H H1) {a : AV} {v : L2.V} (r : RepA V O H1 H2 a v) : RepA V O H H2 a v := by
  cases a with
  | dat d => exact r
  | new ds => obtain ⟨p, vs, e, n, h1, r⟩ := r; exact ⟨p, vs, e, g.none m.ti n, h1, r⟩
  | brw ds => exact r
theorem MtO.repD (m : MtO V O0 H0 O δ σ H) {a : AV} {v : L2.V} (r : RepA V O H H1 a v) (k : a.ok) : Rp O H1 a.d v := by
  cases a with
  | dat d => exact r
  | new ds =>
    obtain ⟨p, vs, e, n, h1, r⟩ := r
    show Rp O H1 (.lst ds) v
    unfold Rp
    exact ⟨p, vs, e, h1, m.free n, rpl_less (fun b h => .inl h) r⟩
  | brw ds => exact k.elim
/-- any list, tuple by its items, whosever it is -/
def Seq (O : AS) (H : Hp) (ds : List D) (v : L2.V) : Prop := ∃ p vs, v = .ref p ∧ (H p = some (.lst vs) ∨ H p = some (.tup vs)) ∧ RpL O H ds vs
theorem MtO.seqL (m : MtO V O0 H0 O δ σ H) {a : AV} {v : L2.V} {ds : List D} (r : RepA V O H H1 a v) (k : a.d = .lst ds) : ∃ p vs, v = .ref p ∧ H1 p = some (.lst vs) ∧ RpL O H1 ds vs := by
  cases a with
  | dat d =>
    have k : d = .lst ds := k
    subst k
    have r : Rp O H1 (.lst ds) v := r
    unfold Rp at r
    obtain ⟨p, vs, e, h, _, r⟩ := r
    exact ⟨p, vs, e, h, r⟩
  | new es =>
    have k : D.lst es = .lst ds := k
    injection k with k; subst k
    obtain ⟨p, vs, e, n, h1, r⟩ := r
    exact ⟨p, vs, e, h1, rpl_less (fun b h => .inl h) r⟩
  | brw es =>
    have k : D.lst es = .lst ds := k
    injection k with k; subst k
    obtain ⟨p, vs, e, _, _, h1, r⟩ := r
    exact ⟨p, vs, e, h1, r⟩
theorem MtO.seqT (m : MtO V O0 H0 O δ σ H) {a : AV} {v : L2.V} {ds : List D} (r : RepA V O H H1 a v) (k : a.d = .tup ds) : ∃ p vs, v = .ref p ∧ H1 p = some (.tup vs) ∧ RpL O H1 ds vs := by
  cases a with
  | dat d =>
    have k : d = .tup ds := k
    subst k
    have r : Rp O H1 (.tup ds) v := r
    unfold Rp at r
    exact r
  | new es => cases k
  | brw es => cases k
theorem repV {a : AV} {v : L2.V} {d : D} (r : RepA V O H H1 a v) (k : a.d = d) : (match d with | .non => v = .non | .bl b => v = .bl b | .int i => v = .int i | .str s => v = .str s | .raw w => v = w | _ => True) := by
  cases a with
  | dat e =>
    have k : e = d := k
    subst k
    cases e <;> first | exact r | trivial
  | new es => have k : D.lst es = d := k; subst k; trivial
  | brw es => have k : D.lst es = d := k; subst k; trivial

/-! ### a slot is stored, given up -/
theorem get_set {α : Type} {l : List α} {i j : Nat} {x y : α} (e : (l.set i x)[j]? = some y) : (j = i ∧ y = x ∧ i < l.length) ∨ (j ≠ i ∧ l[j]? = some y) := by
  by_cases h : j = i
  · subst h
    by_cases q : j < l.length
    · rw [List.getElem?_set_self q] at e
      exact .inl ⟨rfl, (Option.some.inj e).symm, q⟩
    · rw [List.getElem?_eq_none (by rw [List.length_set]; omega)] at e; cases e
  · rw [List.getElem?_set_ne (Ne.symm h)] at e
    exact .inr ⟨h, e⟩
theorem MtO.setS (m : MtO V O0 H0 O δ σ H) {i : Nat} {s : Slot} {x : Option L2.V} (k : SlotOk V H0 O H (some x) s) (no : ∀ ds, s ≠ .own ds) : MtO V O0 H0 O (δ.set i s) (σ.set i x) H where
  len := by rw [List.length_set, List.length_set]; exact m.len
  slot := fun j s' e => by
    rcases get_set e with ⟨rfl, rfl, q⟩ | ⟨ne, e⟩
    · rw [List.getElem?_set_self (by rw [m.len]; exact q)]
      exact k
    · rw [List.getElem?_set_ne (Ne.symm ne)]
      exact m.slot j s' e
  sep := fun a b ds es p e1 e2 e3 e4 => by
    rcases get_set e1 with ⟨rfl, z, q⟩ | ⟨n1, e1⟩
    · exact absurd z.symm (no ds)
    rcases get_set e2 with ⟨rfl, z, q⟩ | ⟨n2, e2⟩
    · exact absurd z.symm (no es)
    rw [List.getElem?_set_ne (Ne.symm n1)] at e3
    rw [List.getElem?_set_ne (Ne.symm n2)] at e4
    exact m.sep a b ds es p e1 e2 e3 e4
  sub := m.sub
  vf := m.vf
  al0 := m.al0
  al := m.al
  go := m.go
  ti0 := m.ti0
theorem MtO.set (m : MtO V O0 H0 O δ σ H) {i : Nat} {d : D} {v : L2.V} (r : Rp O H d v) : MtO V O0 H0 O (δ.set i (.dat d)) (σ.set i (some v)) H :=
  m.setS ⟨v, rfl, r⟩ fun _ => Slot.noConfusion
theorem MtO.wipeS (m : MtO V O0 H0 O δ σ H) {i : Nat} {x : Option L2.V} : MtO V O0 H0 O (δ.set i .no) (σ.set i x) H := m.setS trivial fun _ => Slot.noConfusion
theorem MtO.setN (m : MtO V O0 H0 O δ σ H) (g : Go V H H1) {i : Nat} {ds : List D} {p : Addr} {vs : List L2.V} (n : H p = none) (h : H1 p = some (.lst vs)) (r : RpL (fun b => O b ∨ b = p) H1 ds vs) :
    MtO V O0 H0 (fun b => O b ∨ b = p) (δ.set i (.own ds)) (σ.set i (some (.ref p))) H1 where
  len := by rw [List.length_set, List.length_set]; exact m.len
  slot := fun j s' e => by
    rcases get_set e with ⟨rfl, rfl, q⟩ | ⟨ne, e⟩
    · rw [List.getElem?_set_self (by rw [m.len]; exact q)]
      exact ⟨p, vs, rfl, .inr rfl, m.go.none m.ti0 n, h, r⟩
    · rw [List.getElem?_set_ne (Ne.symm ne)]
      have q := m.slot j s' e
      cases s' with
      | no => trivial
      | dat d => obtain ⟨v, e2, r⟩ := q; exact ⟨v, e2, m.rpNew g n r⟩
      | own es => obtain ⟨p', vs', e2, o, h0, hp, r⟩ := q; exact ⟨p', vs', e2, .inl o, h0, g.1 p' _ (m.notT h0) hp, m.rplNew g n r⟩
      | tape => exact q
  sep := fun a b ds1 es p1 e1 e2 e3 e4 => by
    have old : ∀ (j : Nat) (es : List D), δ[j]? = some (.own es) → σ[j]? = some (some (.ref p)) → False := fun j es e1 e2 => by
      obtain ⟨p', vs', e3, o, _⟩ := m.slot j _ e1
      rw [e2] at e3; cases e3
      exact m.free n o
    rcases get_set e1 with ⟨rfl, z, q⟩ | ⟨n1, e1⟩
    · rcases get_set e2 with ⟨rfl, z2, q2⟩ | ⟨n2, e2⟩
      · rfl
      · rw [List.getElem?_set_self (by rw [m.len]; exact q)] at e3
        rw [List.getElem?_set_ne (Ne.symm n2)] at e4
        cases e3
        exact (old b es e2 e4).elim
    · rename_i f1
      rw [List.getElem?_set_ne (Ne.symm n1)] at e3
      rcases get_set e2 with ⟨rfl, z2, q2⟩ | ⟨n2, e2⟩
      · rw [List.getElem?_set_self (by rw [m.len]; exact q2)] at e4
        cases e4
        exact (old a ds1 (by first | exact e1 | exact f1 | assumption) e3).elim
      · rw [List.getElem?_set_ne (Ne.symm n2)] at e4
        exact m.sep a b ds1 es p1 e1 e2 e3 e4
  sub := fun b h => .inl (m.sub b h)
  vf := m.vf
  al0 := m.al0
  al := fun b hb => hb.elim (fun z => by
    obtain ⟨o, e, t⟩ := (m.mono g).al b z
    exact ⟨o, e, t⟩) fun z => by
    subst z
    exact ⟨_, h, fun xs q => by cases q⟩
  go := m.go.trans g
  ti0 := m.ti0
theorem StR.new {p : Addr} (m : MtO V O0 H0 O δ σ H) (g : Go V H H1) (n : H p = none) : StR O H (fun b => O b ∨ b = p) H1 :=
  ⟨fun b o n' e => g.1 b o (fun z => n' (m.tO z)) e, fun b h => h.elim .inl fun q => .inr (by rw [q]; exact n)⟩
/-- a list of ours is data from here on -/
theorem MtO.rel (m : MtO V O0 H0 O δ σ H) {i : Nat} {ds : List D} (e : δ[i]? = some (.own ds)) : ∃ O', MtO V O0 H0 O' (δ.set i (.dat (.lst ds))) σ H ∧ StR O H O' H := by
  obtain ⟨p, vs, ev, o, h0, hp, r⟩ := m.slot i _ e
  have hi : i < δ.length := (List.getElem?_eq_some_iff.mp e).1
  have less : ∀ b, (O b ∧ b ≠ p) → O b := fun b h => h.1
  have es : σ.set i (some (.ref p)) = σ := by
    obtain ⟨hl, q⟩ := List.getElem?_eq_some_iff.mp ev
    rw [← q]; exact List.set_getElem_self hl
  refine ⟨fun b => O b ∧ b ≠ p, ?_, ⟨fun _ _ _ e => e, fun b h => .inl h.1⟩⟩
  refine { len := by rw [List.length_set]; exact m.len, slot := fun j s' e' => ?_, sep := fun a b d1 d2 q e1 e2 e3 e4 => ?_, sub := fun b h => ⟨m.sub b h, fun z => ?_⟩, vf := m.vf, al0 := m.al0, al := fun b h => m.al b h.1, go := m.go, ti0 := m.ti0 }
  · rcases get_set e' with ⟨rfl, rfl, q⟩ | ⟨ne, e'⟩
    · refine ⟨.ref p, ev, ?_⟩
      unfold Rp
      exact ⟨p, vs, rfl, hp, fun z => z.2 rfl, rpl_less less r⟩
    · have q := m.slot j s' e'
      cases s' with
      | no => trivial
      | dat d => obtain ⟨v, e2, r⟩ := q; exact ⟨v, e2, rp_less less r⟩
      | own es' =>
        obtain ⟨p', vs', e2, o', h0', hp', r'⟩ := q
        refine ⟨p', vs', e2, ⟨o', fun z => ?_⟩, h0', hp', rpl_less less r'⟩
        subst z
        exact ne (m.sep j i es' ds p' e' e e2 ev)
      | tape => exact q
  · rcases get_set e1 with ⟨rfl, z, _⟩ | ⟨n1, e1⟩
    · cases z
    rcases get_set e2 with ⟨rfl, z, _⟩ | ⟨n2, e2⟩
    · cases z
    exact m.sep a b d1 d2 q e1 e2 e3 e4
  · subst z
    obtain ⟨ob, q⟩ := m.al0 b h
    rw [h0] at q; cases q
/-- a list of ours is changed -/
theorem MtO.mut (m : MtO V O0 H0 O δ σ H) {i : Nat} {ds ds' : List D} {p : Addr} {vs' : List L2.V} (e : δ[i]? = some (.own ds)) (ev : σ[i]? = some (some (.ref p))) (r : RpL O H ds' vs') :
    MtO V O0 H0 O (δ.set i (.own ds')) σ (upd H p (.lst vs')) := by
  obtain ⟨p', vs, ev', o, h0, hp, r0⟩ := m.slot i _ e
  rw [ev] at ev'; cases ev'
  have kt : ∀ b xs, H b = some (.tup xs) → (upd H p (.lst vs')) b = some (.tup xs) := fun b xs q => by
    rw [upd_ne (ne_of q hp (by intro z; cases z))]; exact q
  have kl : ∀ b xs, ¬ O b → H b = some (.lst xs) → ¬ O b ∧ (upd H p (.lst vs')) b = some (.lst xs) := fun b xs n q => by
    refine ⟨n, ?_⟩
    rw [upd_ne (fun z => n (by rw [z]; exact o))]; exact q
  have nf : ¬ V.F p := fun z => by
    obtain ⟨ob, q⟩ := m.al0 p (m.vf p z)
    rw [h0] at q; cases q
  refine { len := by rw [List.length_set]; exact m.len, slot := fun j s' e' => ?_, sep := fun a b d1 d2 q e1 e2 e3 e4 => ?_, sub := m.sub, vf := m.vf, al0 := m.al0, al := fun b h => ?_, go := ⟨fun b ob n q => ?_, V.stab H _ (fun b ob f q => ?_) m.ti⟩, ti0 := m.ti0 }
  · rcases get_set e' with ⟨rfl, rfl, q⟩ | ⟨ne, e'⟩
    · exact ⟨p, vs', ev, o, h0, upd_same, RpL.to kt kl ds' vs' r⟩
    · have q := m.slot j s' e'
      cases s' with
      | no => trivial
      | dat d => obtain ⟨v, e2, r⟩ := q; exact ⟨v, e2, Rp.to kt kl d v r⟩
      | own es =>
        obtain ⟨p', us, e2, o', h0', hp', r'⟩ := q
        have np : p' ≠ p := fun z => by
          subst z
          exact ne (m.sep j i es ds p' e' e e2 ev)
        exact ⟨p', us, e2, o', h0', by rw [upd_ne np]; exact hp', RpL.to kt kl es us r'⟩
      | tape => exact q
  · rcases get_set e1 with ⟨rfl, z, _⟩ | ⟨n1, e1⟩
    · rcases get_set e2 with ⟨rfl, z2, _⟩ | ⟨n2, e2⟩
      · rfl
      · exact m.sep a b ds d2 q e e2 e3 e4
    · rcases get_set e2 with ⟨rfl, z2, _⟩ | ⟨n2, e2⟩
      · exact m.sep a b d1 ds q (by assumption) e e3 e4
      · exact m.sep a b d1 d2 q e1 e2 e3 e4
  · by_cases z : b = p
    · subst z; exact ⟨_, upd_same, fun xs q => by cases q⟩
    · rw [upd_ne z]; exact m.al b h
  · rw [upd_ne (ne_of_none q h0)]
    exact m.go.1 b ob n q
  · rw [upd_ne (fun z => nf (by rw [← z]; exact f))]
    exact q
theorem MtO.mutR (m : MtO V O0 H0 O δ σ H) {i : Nat} {ds : List D} {p : Addr} {o : HO} (e : δ[i]? = some (.own ds)) (ev : σ[i]? = some (some (.ref p))) : StR O H O (upd H p o) := by
  obtain ⟨p', vs, ev', ow, h0, hp, r0⟩ := m.slot i _ e
  rw [ev] at ev'; cases ev'
  exact ⟨fun b ob n q => by rw [upd_ne (fun z => n (by rw [z]; exact ow))]; exact q, fun _ h => .inl h⟩
end
end MG
end
section
set_option linter.all false
set_option maxRecDepth 100000
set_option maxHeartbeats 4000000
/-! MgB: abstract readings. XE: an expression; XT: a test; XA: arguments; XG: a target; XS: statements. -/
namespace MG
open PySem L2

structure AEnds where
  nx : List Slot → Prop
  rt : AV → Prop
  bk : List Slot → Prop := fun _ => False
  ct : List Slot → Prop := fun _ => False

def RepAs (V : Vol) (O : AS) (H H' : Hp) : List AV → List L2.V → Prop
  | [], vs => vs = []
  | a :: as, vs => ∃ v r, vs = v :: r ∧ RepA V O H H' a v ∧ RepAs V O H H' as r

def XE (V : Vol) (te : TE) (δ : List Slot) (P : AV → Prop) : Prop :=
  ∀ O0 H0 O σ H, MtO V O0 H0 O δ σ H → ∀ Q : VK, (∀ a v H', Go V H H' → RepA V O H H' a v → P a → Q v H') → te σ H Q
def XT (V : Vol) (tt : TT) (δ : List Slot) (P : Bool → Prop) : Prop :=
  ∀ O0 H0 O σ H, MtO V O0 H0 O δ σ H → ∀ Q : Bool → Hp → Prop, (∀ b H', Go V H H' → P b → Q b H') → tt σ H Q
def XA (V : Vol) (ta : TA) (δ : List Slot) (P : List AV → Prop) : Prop :=
  ∀ O0 H0 O σ H, MtO V O0 H0 O δ σ H → ∀ Q : List L2.V → Hp → Prop, (∀ as vs H', Go V H H' → RepAs V O H H' as vs → P as → Q vs H') → ta σ H Q
def XO (V : Vol) (to : TO) (δ : List Slot) (P : Option Int → Prop) : Prop :=
  ∀ O0 H0 O σ H, MtO V O0 H0 O δ σ H → ∀ Q : Option Int → Hp → Prop, (∀ b H', Go V H H' → P b → Q b H') → to σ H Q
def XG (V : Vol) (g : TG) (d : D) (δ : List Slot) (K : List Slot → Prop) : Prop :=
  ∀ O0 H0 O σ H v, MtO V O0 H0 O δ σ H → Rp O H d v → ∀ Q : St → Hp → Prop, (∀ δ' σ' H', Go V H H' → MtO V O0 H0 O δ' σ' H' → K δ' → Q σ' H') → g v σ H Q
def Impl (V : Vol) (O0 : AS) (H0 : Hp) (O : AS) (H : Hp) (E : AEnds) (D : Ends) : Prop :=
  (∀ δ' O' σ' H', StR O H O' H' → MtO V O0 H0 O' δ' σ' H' → E.nx δ' → D.nx σ' H') ∧
  (∀ a v H', Go V H0 H' → RepA V O0 H0 H' a v → a.ok → E.rt a → D.rt v H') ∧
  (∀ δ' O' σ' H', StR O H O' H' → MtO V O0 H0 O' δ' σ' H' → E.bk δ' → D.bk σ' H') ∧
  (∀ δ' O' σ' H', StR O H O' H' → MtO V O0 H0 O' δ' σ' H' → E.ct δ' → D.ct σ' H')
def XS (V : Vol) (ts : TS) (δ : List Slot) (E : AEnds) : Prop :=
  ∀ O0 H0 O σ H D, MtO V O0 H0 O δ σ H → Impl V O0 H0 O H E D → ts D σ H

section
variable {V : Vol} {O0 O O' : AS} {H0 H H' H1 H2 : Hp} {δ : List Slot} {σ : St} {K : PySem.W.Frag}
theorem Impl.from {E : AEnds} {D : Ends} (i : Impl V O0 H0 O H E D) (s : StR O H O' H') : Impl V O0 H0 O' H' E D :=
  ⟨fun δ' O2 σ' H2 s2 m k => i.1 δ' O2 σ' H2 (s.trans s2) m k, i.2.1, fun δ' O2 σ' H2 s2 m k => i.2.2.1 δ' O2 σ' H2 (s.trans s2) m k, fun δ' O2 σ' H2 s2 m k => i.2.2.2 δ' O2 σ' H2 (s.trans s2) m k⟩
theorem MtO.repAs (m : MtO V O0 H0 O δ σ H) (g : Go V H H1) (g2 : Go V H1 H2) : ∀ {as : List AV} {vs : List L2.V}, RepAs V O H H1 as vs → RepAs V O H H2 as vs
  | [], vs, r => r
  | a :: as, vs, r => by
    obtain ⟨v, t, e, h1, h2⟩ := r
    exact ⟨v, t, e, m.repA g g2 h1, m.repAs g g2 h2⟩
theorem MtO.repBs (m : MtO V O0 H0 O δ σ H) (g : Go V H H1) : ∀ {as : List AV} {vs : List L2.V}, RepAs V O H1 H2 as vs → RepAs V O H H2 as vs
  | [], vs, r => r
  | a :: as, vs, r => by
    obtain ⟨v, t, e, h1, h2⟩ := r
    exact ⟨v, t, e, m.repB g h1, m.repBs g h2⟩
def AllOk (as : List AV) : Prop := ∀ a ∈ as, a.ok
theorem MtO.repDs (m : MtO V O0 H0 O δ σ H) : ∀ {as : List AV} {vs : List L2.V}, RepAs V O H H1 as vs → AllOk as → RpL O H1 (as.map AV.d) vs
  | [], vs, r, _ => by
    have r : vs = [] := r
    subst r; exact RpL.nil
  | a :: as, vs, r, k => by
    obtain ⟨v, t, e, h1, h2⟩ := r
    subst e
    exact RpL.cons (m.repD h1 (k a List.mem_cons_self)) (m.repDs h2 fun b hb => k b (List.mem_cons_of_mem _ hb))
/-- an answer leaves the def -/
theorem MtO.leave (m : MtO V O0 H0 O δ σ H) (g : Go V H H1) {a : AV} {v : L2.V} (r : RepA V O H H1 a v) (k : a.ok) : RepA V O0 H0 H1 a v := by
  cases a with
  | dat d => exact rp_less m.sub (show Rp O H1 d v from r)
  | new ds =>
    obtain ⟨p, vs, e, n, h1, r⟩ := r
    exact ⟨p, vs, e, m.go.none m.ti0 n, h1, rpl_less (fun b h => h.imp (m.sub b) id) r⟩
  | brw ds => exact k.elim

/-! ### weaken -/
theorem XE.imp {te : TE} {P P' : AV → Prop} (h : XE V te δ P) (i : ∀ a, P a → P' a) : XE V te δ P' := fun O0 H0 O σ H m Q q => h O0 H0 O σ H m Q fun a v H' g r p => q a v H' g r (i a p)
theorem XT.imp {te : TT} {P P' : Bool → Prop} (h : XT V te δ P) (i : ∀ a, P a → P' a) : XT V te δ P' := fun O0 H0 O σ H m Q q => h O0 H0 O σ H m Q fun a H' g p => q a H' g (i a p)
theorem XS.imp {ts : TS} {E E' : AEnds} (h : XS V ts δ E) (h1 : ∀ δ, E.nx δ → E'.nx δ) (h2 : ∀ a, E.rt a → E'.rt a) (h3 : ∀ δ, E.bk δ → E'.bk δ) (h4 : ∀ δ, E.ct δ → E'.ct δ) : XS V ts δ E' := fun O0 H0 O σ H D m i =>
  h O0 H0 O σ H D m ⟨fun a b c d e f g => i.1 a b c d e f (h1 a g), fun a b c d e f g => i.2.1 a b c d e f (h2 a g), fun a b c d e f g => i.2.2.1 a b c d e f (h3 a g), fun a b c d e f g => i.2.2.2 a b c d e f (h4 a g)⟩

/-! ### names, constants -/
theorem xe_var {i : Nat} {P : AV → Prop} (h : match δ[i]? with | some (.dat d) => P (.dat d) | some (.own ds) => P (.brw ds) | _ => False) : XE V (tVar i) δ P := fun O0 H0 O σ H m Q q => by
  cases e : δ[i]? with
  | none => rw [e] at h; exact h.elim
  | some s =>
    rw [e] at h
    have k := m.slot i s e
    cases s with
    | no => exact h.elim
    | tape => exact h.elim
    | dat d =>
      obtain ⟨v, ev, r⟩ := k
      exact ⟨v, ev, q (.dat d) v H (.refl m.ti) r h⟩
    | own ds =>
      obtain ⟨p, vs, ev, o, h0, hp, r⟩ := k
      exact ⟨.ref p, ev, q (.brw ds) _ H (.refl m.ti) ⟨p, vs, rfl, o, m.notT h0, hp, r⟩ h⟩
def ofV : L2.V → D
  | .non => .non
  | .bl b => .bl b
  | .int i => .int i
  | .str s => .str s
  | v => .raw v
theorem rp_ofV (v : L2.V) : Rp O H (ofV v) v := by cases v <;> (unfold ofV Rp; rfl)
theorem xe_c {v : L2.V} {P : AV → Prop} (h : P (.dat (ofV v))) : XE V (tC v) δ P := fun O0 H0 O σ H m Q q => q (.dat (ofV v)) v H (.refl m.ti) (rp_ofV v) h

/-! ### operators -/
theorem xe_op {r : R2} {ta tb : TE} {P : AV → Prop} (h : XE V ta δ fun a => XE V tb δ fun b => ∀ O0 H0 O σ H H1 v u, MtO V O0 H0 O δ σ H → Go V H H1 → RepA V O H H1 a v → RepA V O H H1 b u → ∀ Q : VK, (∀ a' v' H', Go V H1 H' → RepA V O H H' a' v' → P a' → Q v' H') → r v u H1 Q) :
    XE V (tOp r ta tb) δ P := fun O0 H0 O σ H m Q q => by
  refine h O0 H0 O σ H m _ fun a v H1 g1 r1 p1 => ?_
  refine p1 O0 H0 O σ H1 (m.mono g1) _ fun b u H2 g2 r2 p2 => ?_
  exact p2 O0 H0 O σ H H2 v u m (g1.trans g2) (m.repA g1 g2 r1) (m.repB g1 r2) Q fun a' v' H' g3 r3 p3 => q a' v' H' ((g1.trans g2).trans g3) r3 p3
theorem xe_I0 {g : Int → Int → L2.V} {ta tb : TE} {P : AV → Prop} (h : XE V ta δ fun a => ∃ i, a.d = .int i ∧ XE V tb δ fun b => ∃ j, b.d = .int j ∧ P (.dat (ofV (g i j)))) : XE V (tOp (rI0 g) ta tb) δ P :=
  xe_op (h.imp fun a ⟨i, ea, hb⟩ => hb.imp fun b ⟨j, eb, p⟩ => fun O0 H0 O σ H H1 v u m g1 r1 r2 Q q =>
    ⟨i, j, repV r1 ea, repV r2 eb, q (.dat (ofV (g i j))) _ H1 (.refl g1.2) (rp_ofV _) p⟩)
theorem xe_I {C : Int → Int → Prop} {g : Int → Int → L2.V} {ta tb : TE} {P : AV → Prop} (h : XE V ta δ fun a => ∃ i, a.d = .int i ∧ XE V tb δ fun b => ∃ j, b.d = .int j ∧ C i j ∧ P (.dat (ofV (g i j)))) : XE V (tOp (rI C g) ta tb) δ P :=
  xe_op (h.imp fun a ⟨i, ea, hb⟩ => hb.imp fun b ⟨j, eb, c, p⟩ => fun O0 H0 O σ H H1 v u m g1 r1 r2 Q q =>
    ⟨i, j, repV r1 ea, repV r2 eb, c, q (.dat (ofV (g i j))) _ H1 (.refl g1.2) (rp_ofV _) p⟩)
theorem xe_U {g : Int → L2.V} {ta : TE} {P : AV → Prop} (h : XE V ta δ fun a => ∃ i, a.d = .int i ∧ P (.dat (ofV (g i)))) : XE V (tUn (rU g) ta) δ P := fun O0 H0 O σ H m Q q =>
  h O0 H0 O σ H m _ fun a v H1 g1 r1 ⟨i, ea, p⟩ => ⟨i, repV r1 ea, q (.dat (ofV (g i))) _ H1 g1 (rp_ofV _) p⟩

/-! ### tests -/
theorem xt_test {te : TE} {P : Bool → Prop} (h : XE V te δ fun a => ∃ b, a.d = .bl b ∧ P b) : XT V (tTest te) δ P := fun O0 H0 O σ H m Q q =>
  h O0 H0 O σ H m _ fun a v H1 g1 r1 ⟨b, ea, p⟩ => ⟨b, repV r1 ea, q b H1 g1 p⟩
theorem xt_B {te : TE} {P : Bool → Prop} (h : XE V te δ fun a => ∃ b, a.d = .bl b ∧ P b) : XT V (tB te) δ P := fun O0 H0 O σ H m Q q =>
  h O0 H0 O σ H m _ fun a v H1 g1 r1 ⟨b, ea, p⟩ => ⟨b, repV r1 ea, q b H1 g1 p⟩
theorem xt_and {t u : TT} {P : Bool → Prop} (h : XT V t δ fun b => if b = true then XT V u δ P else P false) : XT V (tAnd t u) δ P := fun O0 H0 O σ H m Q q =>
  h O0 H0 O σ H m _ fun b H1 g1 p => by
    cases b with
    | true => exact p O0 H0 O σ H1 (m.mono g1) Q fun c H2 g2 p2 => q c H2 (g1.trans g2) p2
    | false => exact q false H1 g1 p
theorem xt_or {t u : TT} {P : Bool → Prop} (h : XT V t δ fun b => if b = true then P true else XT V u δ P) : XT V (tOr t u) δ P := fun O0 H0 O σ H m Q q =>
  h O0 H0 O σ H m _ fun b H1 g1 p => by
    cases b with
    | true => exact q true H1 g1 p
    | false => exact p O0 H0 O σ H1 (m.mono g1) Q fun c H2 g2 p2 => q c H2 (g1.trans g2) p2
theorem xt_not {t : TT} {P : Bool → Prop} (h : XT V t δ fun b => P (!b)) : XT V (tNot t) δ P := fun O0 H0 O σ H m Q q => h O0 H0 O σ H m _ fun b H1 g1 p => q _ H1 g1 p
theorem xt_yes {P : Bool → Prop} (h : P true) : XT V tYes δ P := fun O0 H0 O σ H m Q q => q true H (.refl m.ti) h
theorem xe_andV {ta tb : TE} {P : AV → Prop} (h : XE V ta δ fun a => ∃ b, a.d = .bl b ∧ if b = true then XE V tb δ P else P (.dat (.bl false))) : XE V (tAndV ta tb) δ P := fun O0 H0 O σ H m Q q =>
  h O0 H0 O σ H m _ fun a v H1 g1 r1 ⟨b, ea, p⟩ => ⟨b, repV r1 ea, by
    cases b with
    | true => exact p O0 H0 O σ H1 (m.mono g1) Q fun c u H2 g2 r2 p2 => q c u H2 (g1.trans g2) (m.repB g1 r2) p2
    | false => exact q (.dat (.bl false)) _ H1 g1 (by show Rp O H1 (.bl false) _; unfold Rp; rfl) p⟩
theorem xe_orV {ta tb : TE} {P : AV → Prop} (h : XE V ta δ fun a => ∃ b, a.d = .bl b ∧ if b = true then P (.dat (.bl true)) else XE V tb δ P) : XE V (tOrV ta tb) δ P := fun O0 H0 O σ H m Q q =>
  h O0 H0 O σ H m _ fun a v H1 g1 r1 ⟨b, ea, p⟩ => ⟨b, repV r1 ea, by
    cases b with
    | true => exact q (.dat (.bl true)) _ H1 g1 (by show Rp O H1 (.bl true) _; unfold Rp; rfl) p
    | false => exact p O0 H0 O σ H1 (m.mono g1) Q fun c u H2 g2 r2 p2 => q c u H2 (g1.trans g2) (m.repB g1 r2) p2⟩
theorem xe_notV {ta : TE} {P : AV → Prop} (h : XE V ta δ fun a => ∃ b, a.d = .bl b ∧ P (.dat (.bl (!b)))) : XE V (tNotV ta) δ P := fun O0 H0 O σ H m Q q =>
  h O0 H0 O σ H m _ fun a v H1 g1 r1 ⟨b, ea, p⟩ => ⟨b, repV r1 ea, q (.dat (.bl (!b))) _ H1 g1 (by show Rp O H1 (.bl _) _; unfold Rp; rfl) p⟩
theorem xe_if {t : TT} {ta tb : TE} {P : AV → Prop} (h : XT V t δ fun b => if b = true then XE V ta δ P else XE V tb δ P) : XE V (tIf t ta tb) δ P := fun O0 H0 O σ H m Q q =>
  h O0 H0 O σ H m _ fun b H1 g1 p => by
    cases b with
    | true => exact p O0 H0 O σ H1 (m.mono g1) Q fun c u H2 g2 r2 p2 => q c u H2 (g1.trans g2) (m.repB g1 r2) p2
    | false => exact p O0 H0 O σ H1 (m.mono g1) Q fun c u H2 g2 r2 p2 => q c u H2 (g1.trans g2) (m.repB g1 r2) p2
/-- is None -/
def D.isNon : D → Bool
  | .non => true
  | _ => false
theorem repNon {a : AV} {v : L2.V} (r : RepA V O H H1 a v) (hr : ∀ w, a.d ≠ .raw w) : decide (v = .non) = a.d.isNon := by
  cases a with
  | dat d =>
    cases d with
    | non => have r : v = .non := by { have r : Rp O H1 .non v := r; unfold Rp at r; exact r }; subst r; rfl
    | bl b => have r : v = .bl b := by { have r : Rp O H1 (.bl b) v := r; unfold Rp at r; exact r }; subst r; rfl
    | int b => have r : v = .int b := by { have r : Rp O H1 (.int b) v := r; unfold Rp at r; exact r }; subst r; rfl
    | str b => have r : v = .str b := by { have r : Rp O H1 (.str b) v := r; unfold Rp at r; exact r }; subst r; rfl
    | raw w => exact absurd rfl (hr w)
    | tup ds => have r : Rp O H1 (.tup ds) v := r; unfold Rp at r; obtain ⟨a, vs, e, _⟩ := r; subst e; rfl
    | lst ds => have r : Rp O H1 (.lst ds) v := r; unfold Rp at r; obtain ⟨a, vs, e, _⟩ := r; subst e; rfl
  | new ds => obtain ⟨p, vs, e, _⟩ := r; subst e; rfl
  | brw ds => obtain ⟨p, vs, e, _⟩ := r; subst e; rfl
theorem xe_isN {ta : TE} {P : AV → Prop} (h : XE V ta δ fun a => (∀ w, a.d ≠ .raw w) ∧ P (.dat (.bl a.d.isNon))) : XE V (tIsN ta) δ P := fun O0 H0 O σ H m Q q =>
  h O0 H0 O σ H m _ fun a v H1 g1 r1 ⟨k, p⟩ => by
    refine q (.dat (.bl a.d.isNon)) _ H1 g1 ?_ p
    show Rp O H1 (.bl _) _
    unfold Rp
    rw [repNon r1 k]
theorem xe_notN {ta : TE} {P : AV → Prop} (h : XE V ta δ fun a => (∀ w, a.d ≠ .raw w) ∧ P (.dat (.bl (!a.d.isNon)))) : XE V (tNotN ta) δ P := fun O0 H0 O σ H m Q q =>
  h O0 H0 O σ H m _ fun a v H1 g1 r1 ⟨k, p⟩ => by
    refine q (.dat (.bl (!a.d.isNon))) _ H1 g1 ?_ p
    show Rp O H1 (.bl _) _
    unfold Rp
    rw [repNon r1 k]
/-- == of scalars -/
def D.scal : D → Bool
  | .non => true
  | .bl _ => true
  | .int _ => true
  | .str _ => true
  | _ => false

/-! ### arguments, displays -/
theorem xa_nil {P : List AV → Prop} (h : P []) : XA V tNil δ P := fun O0 H0 O σ H m Q q => q [] [] H (.refl m.ti) rfl h
theorem xa_cons {ta : TE} {tr : TA} {P : List AV → Prop} (h : XE V ta δ fun a => XA V tr δ fun as => P (a :: as)) : XA V (tCons ta tr) δ P := fun O0 H0 O σ H m Q q =>
  h O0 H0 O σ H m _ fun a v H1 g1 r1 p1 => p1 O0 H0 O σ H1 (m.mono g1) _ fun as vs H2 g2 r2 p2 => q (a :: as) (v :: vs) H2 (g1.trans g2) ⟨v, vs, rfl, m.repA g1 g2 r1, m.repBs g1 r2⟩ p2
theorem lenAs : ∀ {as : List AV} {vs : List L2.V}, RepAs V O H H1 as vs → vs.length = as.length
  | [], vs, r => by have r : vs = [] := r; subst r; rfl
  | a :: as, vs, r => by
    obtain ⟨v, t, e, _, h2⟩ := r
    subst e
    show t.length + 1 = as.length + 1
    rw [lenAs h2]
theorem xe_tup {ta : TA} {P : AV → Prop} (h : XA V ta δ fun as => AllOk as ∧ as.length ≤ sizeLine ∧ P (.dat (.tup (as.map AV.d)))) : XE V (tTup ta) δ P := fun O0 H0 O σ H m Q q =>
  h O0 H0 O σ H m _ fun as vs H1 g1 r1 ⟨k, l, p⟩ => ⟨by rw [lenAs r1]; exact l, fun p' hn => by
    have m1 := m.mono g1
    refine q (.dat (.tup (as.map AV.d))) _ _ (g1.trans (.new g1.2 hn)) ?_ p
    show Rp O _ (.tup _) _
    unfold Rp
    exact ⟨p', vs, rfl, upd_same, m1.rpl (.new g1.2 hn) (m.repDs r1 k)⟩⟩
theorem xe_lst {ta : TA} {P : AV → Prop} (h : XA V ta δ fun as => AllOk as ∧ as.length ≤ sizeLine ∧ P (.new (as.map AV.d))) : XE V (tLst ta) δ P := fun O0 H0 O σ H m Q q =>
  h O0 H0 O σ H m _ fun as vs H1 g1 r1 ⟨k, l, p⟩ => ⟨by rw [lenAs r1]; exact l, fun p' hn => by
    have m1 := m.mono g1
    exact q (.new (as.map AV.d)) _ _ (g1.trans (.new g1.2 hn)) ⟨p', vs, rfl, g1.none m.ti hn, upd_same, m1.rplNew (.new g1.2 hn) hn (m.repDs r1 k)⟩ p⟩

/-! ### statements -/
theorem xs_seq {t u : TS} {E : AEnds} (h : XS V t δ { E with nx := fun δ' => XS V u δ' E }) : XS V (tSeq t u) δ E := fun O0 H0 O σ H D m i =>
  h O0 H0 O σ H { D with nx := u D } m ⟨fun δ' O' σ' H' s m' k => k O0 H0 O' σ' H' D m' (i.from s), i.2.1, i.2.2.1, i.2.2.2⟩
theorem xs_next {E : AEnds} (h : E.nx δ) : XS V tNext δ E := fun O0 H0 O σ H D m i => i.1 δ O σ H .refl m h
theorem xs_break {E : AEnds} (h : E.bk δ) : XS V tBreak δ E := fun O0 H0 O σ H D m i => i.2.2.1 δ O σ H .refl m h
theorem xs_cont {E : AEnds} (h : E.ct δ) : XS V tCont δ E := fun O0 H0 O σ H D m i => i.2.2.2 δ O σ H .refl m h
theorem xs_if {c : TT} {t u : TS} {E : AEnds} (h : XT V c δ fun b => if b = true then XS V t δ E else XS V u δ E) : XS V (tIfS c t u) δ E := fun O0 H0 O σ H D m i =>
  h O0 H0 O σ H m _ fun b H1 g1 p => by
    cases b with
    | true => exact p O0 H0 O σ H1 D (m.mono g1) (i.from (m.str g1))
    | false => exact p O0 H0 O σ H1 D (m.mono g1) (i.from (m.str g1))
theorem xs_ret {te : TE} {E : AEnds} (h : XE V te δ fun a => a.ok ∧ E.rt a) : XS V (tRet te) δ E := fun O0 H0 O σ H D m i =>
  h O0 H0 O σ H m _ fun a v H1 g1 r1 ⟨k, p⟩ => i.2.1 a v H1 (m.go.trans g1) (m.leave g1 r1 k) k p
theorem xs_retN {E : AEnds} (h : E.rt (.dat .non)) : XS V tRetN δ E := fun O0 H0 O σ H D m i => i.2.1 (.dat .non) .non H m.go (by show Rp O0 H .non _; unfold Rp; rfl) trivial h
/-- return x, x a list of ours -/
theorem xs_retO {j : Nat} {ds : List D} {E : AEnds} (e : δ[j]? = some (.own ds)) (h : E.rt (.new ds)) : XS V (tRet (tVar j)) δ E := fun O0 H0 O σ H D m i => by
  obtain ⟨p, vs, ev, o, h0, hp, r⟩ := m.slot j _ e
  refine ⟨.ref p, ev, i.2.1 (.new ds) (.ref p) H m.go ⟨p, vs, rfl, h0, hp, rpl_less (fun b hb => hb.elim (m.sub b) fun z => by rw [z]; exact o) r⟩ trivial h⟩
theorem xs_drop {te : TE} {E : AEnds} (h : XE V te δ fun _ => E.nx δ) : XS V (tDrop te) δ E := fun O0 H0 O σ H D m i =>
  h O0 H0 O σ H m _ fun a v H1 g1 r1 p => i.1 δ O σ H1 (m.str g1) (m.mono g1) p
theorem xs_set {te : TE} {j : Nat} {E : AEnds} (h : XE V te δ fun a => a.ok ∧ E.nx (δ.set j (.dat a.d))) : XS V (tAsg te (gName j)) δ E := fun O0 H0 O σ H D m i =>
  h O0 H0 O σ H m _ fun a v H1 g1 r1 ⟨k, p⟩ => i.1 _ O _ H1 (m.str g1) ((m.mono g1).set (m.repD r1 k)) p
theorem xs_setN {te : TE} {j : Nat} {E : AEnds} (h : XE V te δ fun a => ∃ ds, a = .new ds ∧ E.nx (δ.set j (.own ds))) : XS V (tAsg te (gName j)) δ E := fun O0 H0 O σ H D m i =>
  h O0 H0 O σ H m _ fun a v H1 g1 r1 ⟨ds, e, p⟩ => by
    subst e
    obtain ⟨q, vs, ev, n, h1, r⟩ := r1
    subst ev
    exact i.1 _ _ _ H1 (StR.new m g1 n) (m.setN g1 n h1 r) p
theorem xs_asg {te : TE} {g : TG} {E : AEnds} (h : XE V te δ fun a => a.ok ∧ XG V g a.d δ E.nx) : XS V (tAsg te g) δ E := fun O0 H0 O σ H D m i =>
  h O0 H0 O σ H m _ fun a v H1 g1 r1 ⟨k, p⟩ => p O0 H0 O σ H1 v (m.mono g1) (m.repD r1 k) _ fun δ' σ' H' g2 m2 k2 => i.1 δ' O σ' H' (m.str (g1.trans g2)) m2 k2
theorem xs_rel {ts : TS} (j : Nat) {ds : List D} {E : AEnds} (e : δ[j]? = some (.own ds)) (h : XS V ts (δ.set j (.dat (.lst ds))) E) : XS V ts δ E := fun O0 H0 O σ H D m i => by
  obtain ⟨O', m', s⟩ := m.rel e
  exact h O0 H0 O' σ H D m' (i.from s)
theorem xs_never {E : AEnds} (h : False) : XS V tNever δ E := h.elim

/-! ### targets -/
theorem xg_name {j : Nat} {d : D} {K : List Slot → Prop} (h : K (δ.set j (.dat d))) : XG V (gName j) d δ K := fun O0 H0 O σ H v m r Q q => q _ _ H (.refl m.ti) (m.set r) h
def XGs (V : Vol) (g : TGs) (ds : List D) (δ : List Slot) (K : List Slot → Prop) : Prop :=
  ∀ O0 H0 O σ H vs, MtO V O0 H0 O δ σ H → RpL O H ds vs → ∀ Q : St → Hp → Prop, (∀ δ' σ' H', Go V H H' → MtO V O0 H0 O δ' σ' H' → K δ' → Q σ' H') → g vs σ H Q
theorem xgs_nil {K : List Slot → Prop} (h : K δ) : XGs V gNil [] δ K := fun O0 H0 O σ H vs m r Q q => by
  unfold RpL at r
  exact ⟨r, q δ σ H (.refl m.ti) m h⟩
theorem xgs_cons {g : TG} {gs : TGs} {d : D} {ds : List D} {K : List Slot → Prop} (h : XG V g d δ fun δ' => XGs V gs ds δ' K) : XGs V (gCons g gs) (d :: ds) δ K := fun O0 H0 O σ H vs m r Q q => by
  unfold RpL at r
  obtain ⟨v, t, e, r1, r2⟩ := r
  refine ⟨v, t, e, h O0 H0 O σ H v m r1 _ fun δ' σ' H' g1 m1 k1 => ?_⟩
  exact k1 O0 H0 O σ' H' t m1 (m.rpl g1 r2) Q fun δ2 σ2 H2 g2 m2 k2 => q δ2 σ2 H2 (g1.trans g2) m2 k2
theorem xg_tup {n : Nat} {gs : TGs} {d : D} {ds : List D} {K' : List Slot → Prop} (e : d = .tup ds) (hn : ds.length = n) (h : XGs V gs ds δ K') : XG V (gTup K n gs) d δ K' := fun O0 H0 O σ H v m r Q q => by
  subst e
  unfold Rp at r
  obtain ⟨a, vs, ev, ha, r⟩ := r
  exact ⟨a, vs, ev, SqT.of ha, by rw [r.len]; exact hn, h O0 H0 O σ H vs m r Q q⟩
/-- a, b = x, y -/
theorem xs_par {j k : Nat} {ta : TA} {E : AEnds} (h : XA V ta δ fun as => ∃ a b, as = [a, b] ∧ a.ok ∧ b.ok ∧ E.nx ((δ.set j (.dat a.d)).set k (.dat b.d))) : XS V (tPar j k ta) δ E := fun O0 H0 O σ H D m i =>
  h O0 H0 O σ H m _ fun as vs H1 g1 r1 ⟨a, b, e, ka, kb, p⟩ => by
    subst e
    obtain ⟨v, t, e1, h1, h2⟩ := r1
    obtain ⟨u, t2, e2, h2, h3⟩ := h2
    have h3 : t2 = [] := h3
    subst h3 e2 e1
    have m1 := m.mono g1
    exact ⟨v, u, rfl, i.1 _ O _ H1 (m.str g1) ((m1.set (m.repD h1 ka)).set (m.repD h2 kb)) p⟩
end
end MG
end
section
set_option linter.all false
set_option maxRecDepth 100000
set_option maxHeartbeats 4000000
/-! MgC: sequences, equality, lists that are changed, loops, comprehensions, calls. -/
namespace MG
open PySem L2

/-! ### as the library's data -/
mutual
def D.py : D → PyData
  | .non => .none
  | .bl b => .bool b
  | .int i => .int i
  | .str s => .str s
  | .tup xs => .tuple (D.pys xs)
  | .lst xs => .list (D.pys xs)
  | .raw _ => .none
def D.pys : List D → List PyData
  | [] => []
  | x :: xs => x.py :: D.pys xs
end
mutual
def D.noRaw : D → Bool
  | .raw _ => false
  | .tup xs => D.noRaws xs
  | .lst xs => D.noRaws xs
  | _ => true
def D.noRaws : List D → Bool
  | [] => true
  | x :: xs => x.noRaw && D.noRaws xs
end
def D.lay (d : D) : Prop := d.noRaw = true ∧ SeqAt.shaped d.py = true
mutual
theorem Rp.dp {K : PySem.W.Frag} {O : AS} {H : Hp} : ∀ (d : D) (v : L2.V), d.noRaw = true → Rp O H d v → Dp K H v d.py
  | .non, v, _, r => by unfold Rp at r; subst r; unfold D.py; exact .non
  | .bl b, v, _, r => by unfold Rp at r; subst r; unfold D.py; exact .bl b
  | .int b, v, _, r => by unfold Rp at r; subst r; unfold D.py; exact .int b
  | .str b, v, _, r => by unfold Rp at r; subst r; unfold D.py; exact .str b
  | .raw w, v, n, r => by unfold D.noRaw at n; cases n
  | .tup xs, v, n, r => by
    unfold Rp at r
    obtain ⟨a, vs, e, h, r⟩ := r
    subst e
    unfold D.py
    unfold D.noRaw at n
    exact .tup (SqT.of h) (RpL.dps xs vs n r)
  | .lst xs, v, n, r => by
    unfold Rp at r
    obtain ⟨a, vs, e, h, _, r⟩ := r
    subst e
    unfold D.py
    unfold D.noRaw at n
    exact .lst (SqL.of h) (RpL.dps xs vs n r)
theorem RpL.dps {K : PySem.W.Frag} {O : AS} {H : Hp} : ∀ (ds : List D) (vs : List L2.V), D.noRaws ds = true → RpL O H ds vs → DpAll K H vs (D.pys ds)
  | [], vs, _, r => by unfold RpL at r; subst r; unfold D.pys; exact .nil
  | d :: ds, vs, n, r => by
    unfold RpL at r
    obtain ⟨v, t, e, r1, r2⟩ := r
    subst e
    unfold D.noRaws at n
    rw [Bool.and_eq_true] at n
    unfold D.pys
    exact .cons (Rp.dp d v n.1 r1) (RpL.dps ds t n.2 r2)
end
section
variable {V : Vol} {O0 O O' : AS} {H0 H H' H1 H2 : Hp} {δ : List Slot} {σ : St} {K : PySem.W.Frag}
theorem rp_bl {b : Bool} : Rp O H (.bl b) (.bl b) := by unfold Rp; rfl
theorem rp_int {b : Int} : Rp O H (.int b) (.int b) := by unfold Rp; rfl
theorem rp_str {b : Str} : Rp O H (.str b) (.str b) := by unfold Rp; rfl
theorem rp_non : Rp O H .non .non := by unfold Rp; rfl
theorem ra_bl {b : Bool} : RepA V O H H' (.dat (.bl b)) (.bl b) := by show Rp O H' _ _; exact rp_bl
theorem ra_int {b : Int} : RepA V O H H' (.dat (.int b)) (.int b) := by show Rp O H' _ _; exact rp_int
theorem ra_str {b : Str} : RepA V O H H' (.dat (.str b)) (.str b) := by show Rp O H' _ _; exact rp_str
theorem rp_tup {ds : List D} {p : Addr} {vs : List L2.V} (h : H p = some (.tup vs)) (r : RpL O H ds vs) : Rp O H (.tup ds) (.ref p) := by
  unfold Rp; exact ⟨p, vs, rfl, h, r⟩
theorem ra_tup {ds : List D} {p : Addr} {vs : List L2.V} (h : H' p = some (.tup vs)) (r : RpL O H' ds vs) : RepA V O H H' (.dat (.tup ds)) (.ref p) := by
  show Rp O H' _ _; exact rp_tup h r

theorem MtO.dp (m : MtO V O0 H0 O δ σ H) {a : AV} {v : L2.V} (r : RepA V O H H1 a v) (n : a.d.noRaw = true) : Dp K H1 v a.d.py := by
  cases a with
  | dat d => exact Rp.dp d v n r
  | new ds =>
    obtain ⟨p, vs, e, h, r2⟩ := m.seqL r rfl
    subst e
    show Dp K H1 _ (D.lst ds).py
    unfold D.py
    exact .lst (SqL.of h) (RpL.dps ds vs (by have n : (D.lst ds).noRaw = true := n; unfold D.noRaw at n; exact n) r2)
  | brw ds =>
    obtain ⟨p, vs, e, h, r2⟩ := m.seqL r rfl
    subst e
    show Dp K H1 _ (D.lst ds).py
    unfold D.py
    exact .lst (SqL.of h) (RpL.dps ds vs (by have n : (D.lst ds).noRaw = true := n; unfold D.noRaw at n; exact n) r2)
theorem xe_eqD {ta tb : TE} {P : AV → Prop} (h : XE V ta δ fun a => XE V tb δ fun b => a.d.lay ∧ b.d.lay ∧ P (.dat (.bl (PyData.eqv a.d.py b.d.py)))) : XE V (tOp (rEqD K) ta tb) δ P :=
  xe_op (h.imp fun a hb => hb.imp fun b ⟨la, lb, p⟩ => fun O0 H0 O σ H H1 v u m g1 r1 r2 Q q =>
    ⟨a.d.py, b.d.py, m.dp r1 la.1, m.dp r2 lb.1, la.2, lb.2, q (.dat (.bl _)) _ H1 (.refl g1.2) ra_bl p⟩)
theorem xe_neD {ta tb : TE} {P : AV → Prop} (h : XE V ta δ fun a => XE V tb δ fun b => a.d.lay ∧ b.d.lay ∧ P (.dat (.bl (!PyData.eqv a.d.py b.d.py)))) : XE V (tOp (rNeD K) ta tb) δ P :=
  xe_op (h.imp fun a hb => hb.imp fun b ⟨la, lb, p⟩ => fun O0 H0 O σ H H1 v u m g1 r1 r2 Q q =>
    ⟨a.d.py, b.d.py, m.dp r1 la.1, m.dp r2 lb.1, la.2, lb.2, q (.dat (.bl _)) _ H1 (.refl g1.2) ra_bl p⟩)
theorem xe_inD {ta tb : TE} {P : AV → Prop} (h : XE V ta δ fun a => XE V tb δ fun b => ∃ ds, b.d = .lst ds ∧ a.d.lay ∧ b.d.lay ∧ P (.dat (.bl ((D.pys ds).any fun z => PyData.eqv z a.d.py)))) : XE V (tOp (rInD K) ta tb) δ P :=
  xe_op (h.imp fun a hb => hb.imp fun b ⟨ds, e, la, lb, p⟩ => fun O0 H0 O σ H H1 v u m g1 r1 r2 Q q => by
    have k := m.dp (K := K) r2 lb.1
    have l2 := lb.2
    rw [e] at k l2
    have e2 : (D.lst ds).py = .list (D.pys ds) := by unfold D.py; rfl
    rw [e2] at k l2
    exact ⟨a.d.py, D.pys ds, m.dp r1 la.1, k, la.2, l2, q (.dat (.bl _)) _ H1 (.refl g1.2) ra_bl p⟩)
/-! ### items, slices, sums of sequences -/
theorem atI_lt {α : Type} {xs : List α} {i : Int} {x : α} (e : atI xs i = some x) : ∃ j, ixN xs.length i = some j ∧ xs[j]? = some x := by
  unfold atI at e
  cases h : ixN xs.length i with
  | none => rw [h] at e; cases e
  | some j => rw [h] at e; exact ⟨j, rfl, e⟩
theorem atI_of {α : Type} {xs : List α} {i : Int} {j : Nat} {x : α} (h : ixN xs.length i = some j) (e : xs[j]? = some x) : atI xs i = some x := by
  unfold atI; rw [h]; exact e
theorem RpL.atI {ds : List D} {vs : List L2.V} {i : Int} {d : D} (r : RpL O H ds vs) (e : L2.atI ds i = some d) : ∃ v, L2.atI vs i = some v ∧ Rp O H d v := by
  obtain ⟨j, h1, h2⟩ := atI_lt e
  obtain ⟨v, h3, h4⟩ := r.get h2
  exact ⟨v, atI_of (by rw [r.len]; exact h1) h3, h4⟩
theorem xe_ix {ta tb : TE} {P : AV → Prop} (h : XE V ta δ fun a => XE V tb δ fun b => ∃ ds i d, (a.d = .tup ds ∨ a.d = .lst ds) ∧ b.d = .int i ∧ L2.atI ds i = some d ∧ P (.dat d)) : XE V (tOp (rIx K) ta tb) δ P :=
  xe_op (h.imp fun a hb => hb.imp fun b ⟨ds, i, d, e, eb, ei, p⟩ => fun O0 H0 O σ H H1 v u m g1 r1 r2 Q q => by
    have eu : u = .int i := repV r2 eb
    rcases e with e | e
    · obtain ⟨p', vs, ev, hp, r⟩ := m.seqT r1 e
      obtain ⟨w, ew, rw⟩ := r.atI ei
      exact .inr (.inl ⟨p', vs, i, w, ev, eu, SqT.of hp, ew, q (.dat d) w H1 (.refl g1.2) rw p⟩)
    · obtain ⟨p', vs, ev, hp, r⟩ := m.seqL r1 e
      obtain ⟨w, ew, rw⟩ := r.atI ei
      exact .inl ⟨p', vs, i, w, ev, eu, SqL.of hp, ew, q (.dat d) w H1 (.refl g1.2) rw p⟩)
def cutD {α : Type} (xs : List α) (lo hi : Option Int) : List α := (xs.drop (HT.sIx xs.length 0 lo)).take (HT.sIx xs.length xs.length hi - HT.sIx xs.length 0 lo)
theorem RpL.cut {ds : List D} {vs : List L2.V} (r : RpL O H ds vs) (lo hi : Option Int) : RpL O H (cutD ds lo hi) (cutV vs lo hi) := by
  unfold cutD cutV
  rw [r.len]
  exact (r.drop _).take _
theorem cutD_all {α : Type} {xs : List α} {lo hi : Option Int} (h : HT.sIx xs.length 0 lo = 0 ∧ HT.sIx xs.length xs.length hi = xs.length) : cutD xs lo hi = xs := by
  unfold cutD; rw [h.1, h.2, List.drop_zero, Nat.sub_zero, List.take_length]
theorem xo_none {P : Option Int → Prop} (h : P none) : XO V tNoPart δ P := fun O0 H0 O σ H m Q q => q none H (.refl m.ti) h
theorem xo_some {te : TE} {P : Option Int → Prop} (h : XE V te δ fun a => ∃ i, a.d = .int i ∧ P (some i)) : XO V (tPart te) δ P := fun O0 H0 O σ H m Q q =>
  h O0 H0 O σ H m _ fun a v H1 g1 r1 ⟨i, e, p⟩ => ⟨i, repV r1 e, q _ H1 g1 p⟩
theorem xe_slT {te : TE} {tl th : TO} {P : AV → Prop} (h : XE V te δ fun a => XO V tl δ fun lo => XO V th δ fun hi => ∃ ds, a.d = .tup ds ∧ P (.dat (.tup (cutD ds lo hi)))) : XE V (tSl (rSlA K) te tl th) δ P := fun O0 H0 O σ H m Q q =>
  h O0 H0 O σ H m _ fun a v H1 g1 r1 p1 => p1 O0 H0 O σ H1 (m.mono g1) _ fun lo H2 g2 p2 => p2 O0 H0 O σ H2 (m.mono (g1.trans g2)) _ fun hi H3 g3 ⟨ds, e, p⟩ => by
    have g := (g1.trans g2).trans g3
    obtain ⟨p', vs, ev, hp, r⟩ := m.seqT (m.repA g1 (g2.trans g3) r1) e
    have m3 := m.mono g
    refine ⟨p', vs, ev, SqT.of hp, fun w => ?_, fun _ l hl => ?_⟩
    · refine q (.dat (.tup (cutD ds lo hi))) _ H3 g ?_ p
      rw [cutD_all (by rw [← r.len]; exact w)]
      exact ra_tup hp r
    · exact q (.dat (.tup (cutD ds lo hi))) _ _ (g.trans (.new g.2 hl)) (ra_tup upd_same (m3.rpl (.new g.2 hl) (r.cut lo hi))) p
theorem xe_slL {te : TE} {tl th : TO} {P : AV → Prop} (h : XE V te δ fun a => XO V tl δ fun lo => XO V th δ fun hi => ∃ ds, a.d = .lst ds ∧ P (.new (cutD ds lo hi))) : XE V (tSl (rSlL K) te tl th) δ P := fun O0 H0 O σ H m Q q =>
  h O0 H0 O σ H m _ fun a v H1 g1 r1 p1 => p1 O0 H0 O σ H1 (m.mono g1) _ fun lo H2 g2 p2 => p2 O0 H0 O σ H2 (m.mono (g1.trans g2)) _ fun hi H3 g3 ⟨ds, e, p⟩ => by
    have g := (g1.trans g2).trans g3
    obtain ⟨p', vs, ev, hp, r⟩ := m.seqL (m.repA g1 (g2.trans g3) r1) e
    have m3 := m.mono g
    exact ⟨p', vs, ev, SqL.of hp, fun l hl => q (.new (cutD ds lo hi)) _ _ (g.trans (.new g.2 hl)) ⟨l, _, rfl, g.none m.ti hl, upd_same, m3.rplNew (.new g.2 hl) hl (r.cut lo hi)⟩ p⟩
theorem xe_slS {te : TE} {tl th : TO} {P : AV → Prop} (h : XE V te δ fun a => XO V tl δ fun lo => XO V th δ fun hi => ∃ z, a.d = .str z ∧ z.length ≤ sizeLine ∧ P (.dat (.str (cutS z lo hi)))) : XE V (tSl rSlS te tl th) δ P := fun O0 H0 O σ H m Q q =>
  h O0 H0 O σ H m _ fun a v H1 g1 r1 p1 => p1 O0 H0 O σ H1 (m.mono g1) _ fun lo H2 g2 p2 => p2 O0 H0 O σ H2 (m.mono (g1.trans g2)) _ fun hi H3 g3 ⟨z, e, l, p⟩ =>
    ⟨z, repV r1 e, l, q (.dat (.str _)) _ H3 ((g1.trans g2).trans g3) ra_str p⟩
theorem xe_catL {ta tb : TE} {P : AV → Prop} (h : XE V ta δ fun a => XE V tb δ fun b => ∃ ds es, a.d = .lst ds ∧ b.d = .lst es ∧ ds.length + es.length ≤ sizeLine ∧ P (.new (ds ++ es))) : XE V (tOp rCat ta tb) δ P :=
  xe_op (h.imp fun a hb => hb.imp fun b ⟨ds, es, ea, eb, l, p⟩ => fun O0 H0 O σ H H1 v u m g1 r1 r2 Q q => by
    obtain ⟨p1, vs, ev, hp, r⟩ := m.seqL r1 ea
    obtain ⟨p2, us, eu, hq, r'⟩ := m.seqL r2 eb
    exact ⟨p1, p2, vs, us, ev, eu, hp, hq, by rw [r.len, r'.len]; exact l, fun z hz =>
      q (.new (ds ++ es)) _ _ (.new g1.2 hz) ⟨z, _, rfl, g1.none m.ti hz, upd_same, (m.mono g1).rplNew (.new g1.2 hz) hz (r.append r')⟩ p⟩)
theorem xe_catT {ta tb : TE} {P : AV → Prop} (h : XE V ta δ fun a => XE V tb δ fun b => ∃ ds es, a.d = .tup ds ∧ b.d = .tup es ∧ ds.length + es.length ≤ sizeLine ∧ P (.dat (.tup (ds ++ es)))) : XE V (tOp (rCatA K) ta tb) δ P :=
  xe_op (h.imp fun a hb => hb.imp fun b ⟨ds, es, ea, eb, l, p⟩ => fun O0 H0 O σ H H1 v u m g1 r1 r2 Q q => by
    obtain ⟨p1, vs, ev, hp, r⟩ := m.seqT r1 ea
    obtain ⟨p2, us, eu, hq, r'⟩ := m.seqT r2 eb
    refine ⟨p1, p2, vs, us, ev, eu, SqT.of hp, SqT.of hq, by rw [r.len, r'.len]; exact l, fun z => ?_, fun _ z => ?_, fun _ _ z hz => ?_⟩
    · refine q (.dat (.tup (ds ++ es))) _ H1 (.refl g1.2) ?_ p
      have e0 : ds = [] := List.eq_nil_of_length_eq_zero (by rw [← r.len, z]; rfl)
      rw [e0]
      exact ra_tup hq r'
    · refine q (.dat (.tup (ds ++ es))) _ H1 (.refl g1.2) ?_ p
      have e0 : es = [] := List.eq_nil_of_length_eq_zero (by rw [← r'.len, z]; rfl)
      rw [e0, List.append_nil]
      exact ra_tup hp r
    · exact q (.dat (.tup (ds ++ es))) _ _ (.new g1.2 hz) (ra_tup upd_same ((m.mono g1).rpl (.new g1.2 hz) (r.append r'))) p)
theorem xe_catS {ta tb : TE} {P : AV → Prop} {r : R2} (hr : ∀ (x y : Str) (H : Hp) (Q : VK), x.length + y.length ≤ sizeLine → Q (.str (x ++ y)) H → r (.str x) (.str y) H Q)
    (h : XE V ta δ fun a => XE V tb δ fun b => ∃ x y, a.d = .str x ∧ b.d = .str y ∧ x.length + y.length ≤ sizeLine ∧ P (.dat (.str (x ++ y)))) : XE V (tOp r ta tb) δ P :=
  xe_op (h.imp fun a hb => hb.imp fun b ⟨x, y, ea, eb, l, p⟩ => fun O0 H0 O σ H H1 v u m g1 r1 r2 Q q => by
    have e1 : v = .str x := repV r1 ea
    have e2 : u = .str y := repV r2 eb
    rw [e1, e2]
    exact hr x y H1 Q l (q (.dat (.str (x ++ y))) _ H1 (.refl g1.2) ra_str p))

/-! ### calls of built-ins -/
theorem xe_cb {r : List L2.V → Hp → VK → Prop} {ta : TA} {P : AV → Prop} (h : XA V ta δ fun as => ∀ O0 H0 O σ H H1 vs, MtO V O0 H0 O δ σ H → Go V H H1 → RepAs V O H H1 as vs → ∀ Q : VK, (∀ a' v' H', Go V H1 H' → RepA V O H H' a' v' → P a' → Q v' H') → r vs H1 Q) : XE V (tCB r ta) δ P :=
  fun O0 H0 O σ H m Q q => h O0 H0 O σ H m _ fun as vs H1 g1 r1 p1 => p1 O0 H0 O σ H H1 vs m g1 r1 Q fun a' v' H' g2 r2 p2 => q a' v' H' (g1.trans g2) r2 p2
theorem rep1 {a : AV} {vs : List L2.V} (r : RepAs V O H H1 [a] vs) : ∃ v, vs = [v] ∧ RepA V O H H1 a v := by
  obtain ⟨v, t, e, h1, h2⟩ := r
  have h2 : t = [] := h2
  subst h2
  exact ⟨v, e, h1⟩
theorem rep2 {a b : AV} {vs : List L2.V} (r : RepAs V O H H1 [a, b] vs) : ∃ v u, vs = [v, u] ∧ RepA V O H H1 a v ∧ RepA V O H H1 b u := by
  obtain ⟨v, t, e, h1, h2⟩ := r
  obtain ⟨u, e2, h3⟩ := rep1 h2
  subst e2
  exact ⟨v, u, e, h1, h3⟩
def rLenQ (K : PySem.W.Frag) : List L2.V → Hp → VK → Prop := fun xs H Q => ∃ p ys, xs = [.ref p] ∧ (SqL K H p ys ∨ SqT K H p ys) ∧ Q (.int ys.length) H
theorem cr_lenQ {X : Cx} : CallR X (.builtin "len") (rLenQ X.K) := call_len_seq
theorem xe_len {ta : TA} {P : AV → Prop} (h : XA V ta δ fun as => ∃ a ds, as = [a] ∧ (a.d = .tup ds ∨ a.d = .lst ds) ∧ P (.dat (.int ds.length))) : XE V (tCB (rLenQ K) ta) δ P :=
  xe_cb fun O0 H0 O σ H m Q q => h O0 H0 O σ H m Q fun as vs H1 g1 r1 ⟨a, ds, e, ea, p⟩ => q as vs H1 g1 r1 (by
    subst e
    intro O0 H0 O σ H H1 vs m g1 r1 Q q
    obtain ⟨v, e, ra⟩ := rep1 r1
    subst e
    rcases ea with ea | ea
    · obtain ⟨p1, vs, ev, hp, r⟩ := m.seqT ra ea
      subst ev
      refine ⟨p1, vs, rfl, .inr (SqT.of hp), ?_⟩
      rw [r.len]
      exact q (.dat (.int _)) _ H1 (.refl g1.2) ra_int p
    · obtain ⟨p1, vs, ev, hp, r⟩ := m.seqL ra ea
      subst ev
      refine ⟨p1, vs, rfl, .inl (SqL.of hp), ?_⟩
      rw [r.len]
      exact q (.dat (.int _)) _ H1 (.refl g1.2) ra_int p)
def rListQ (K : PySem.W.Frag) : List L2.V → Hp → VK → Prop := fun xs H Q => ∃ p ys, xs = [.ref p] ∧ (SqL K H p ys ∨ SqT K H p ys) ∧ ∀ l, H l = none → Q (.ref l) (upd H l (.lst ys))
theorem cr_listQ {X : Cx} : CallR X (.type "list") (rListQ X.K) := call_list_of
theorem xe_list {ta : TA} {P : AV → Prop} (h : XA V ta δ fun as => ∃ a ds, as = [a] ∧ (a.d = .tup ds ∨ a.d = .lst ds) ∧ P (.new ds)) : XE V (tCB (rListQ K) ta) δ P :=
  xe_cb fun O0 H0 O σ H m Q q => h O0 H0 O σ H m Q fun as vs H1 g1 r1 ⟨a, ds, e, ea, p⟩ => q as vs H1 g1 r1 (by
    subst e
    intro O0 H0 O σ H H1 vs m g1 r1 Q q
    obtain ⟨v, e, ra⟩ := rep1 r1
    subst e
    have fin : ∀ vs, RpL O H1 ds vs → ∀ l, H1 l = none → Q (.ref l) (upd H1 l (.lst vs)) := fun vs r l hl =>
      q (.new ds) _ _ (.new g1.2 hl) ⟨l, vs, rfl, g1.none m.ti hl, upd_same, (m.mono g1).rplNew (.new g1.2 hl) hl r⟩ p
    rcases ea with ea | ea
    · obtain ⟨p1, vs, ev, hp, r⟩ := m.seqT ra ea
      subst ev
      exact ⟨p1, vs, rfl, .inr (SqT.of hp), fin vs r⟩
    · obtain ⟨p1, vs, ev, hp, r⟩ := m.seqL ra ea
      subst ev
      exact ⟨p1, vs, rfl, .inl (SqL.of hp), fin vs r⟩)
def rTupQ (K : PySem.W.Frag) : List L2.V → Hp → VK → Prop := fun xs H Q => ∃ p ys, xs = [.ref p] ∧ ((SqL K H p ys ∧ ∀ l, H l = none → Q (.ref l) (upd H l (.tup ys))) ∨ (SqT K H p ys ∧ Q (.ref p) H))
theorem cr_tupQ {X : Cx} : CallR X (.type "tuple") (rTupQ X.K) := call_tuple_of
theorem xe_tuple {ta : TA} {P : AV → Prop} (h : XA V ta δ fun as => ∃ a ds, as = [a] ∧ (a.d = .tup ds ∨ a.d = .lst ds) ∧ P (.dat (.tup ds))) : XE V (tCB (rTupQ K) ta) δ P :=
  xe_cb fun O0 H0 O σ H m Q q => h O0 H0 O σ H m Q fun as vs H1 g1 r1 ⟨a, ds, e, ea, p⟩ => q as vs H1 g1 r1 (by
    subst e
    intro O0 H0 O σ H H1 vs m g1 r1 Q q
    obtain ⟨v, e, ra⟩ := rep1 r1
    subst e
    rcases ea with ea | ea
    · obtain ⟨p1, vs, ev, hp, r⟩ := m.seqT ra ea
      subst ev
      exact ⟨p1, vs, rfl, .inr ⟨SqT.of hp, q (.dat (.tup ds)) _ H1 (.refl g1.2) (ra_tup hp r) p⟩⟩
    · obtain ⟨p1, vs, ev, hp, r⟩ := m.seqL ra ea
      subst ev
      exact ⟨p1, vs, rfl, .inl ⟨SqL.of hp, fun l hl => q (.dat (.tup ds)) _ _ (.new g1.2 hl) (ra_tup upd_same ((m.mono g1).rpl (.new g1.2 hl) r)) p⟩⟩)
theorem RpL.ints : ∀ {ns : List Int} {vs : List L2.V}, RpL O H (ns.map D.int) vs → vs = ns.map L2.V.int
  | [], vs, r => by unfold RpL at r; exact r
  | n :: ns, vs, r => by
    rw [List.map_cons] at r
    unfold RpL at r
    obtain ⟨v, t, e, r1, r2⟩ := r
    unfold Rp at r1
    subst r1
    rw [RpL.ints r2] at e
    exact e
theorem xe_sum {ta : TA} {P : AV → Prop} (h : XA V ta δ fun as => ∃ (a : AV) (ns : List Int), as = [a] ∧ a.d = .lst (ns.map D.int) ∧ P (.dat (.int ns.sum))) : XE V (tCB (rSum K) ta) δ P :=
  xe_cb fun O0 H0 O σ H m Q q => h O0 H0 O σ H m Q fun as vs H1 g1 r1 ⟨a, ns, e, ea, p⟩ => q as vs H1 g1 r1 (by
    subst e
    intro O0 H0 O σ H H1 vs m g1 r1 Q q
    obtain ⟨v, e, ra⟩ := rep1 r1
    subst e
    obtain ⟨p1, vs, ev, hp, r⟩ := m.seqL ra ea
    subst ev
    rw [r.ints] at hp
    exact ⟨p1, ns, rfl, SqL.of hp, q (.dat (.int _)) _ H1 (.refl g1.2) ra_int p⟩)
theorem xe_max {ta : TA} {P : AV → Prop} (h : XA V ta δ fun as => ∃ (a : AV) (ns : List Int), as = [a] ∧ a.d = .lst (ns.map D.int) ∧ 0 < ns.length ∧ ∀ m, m ∈ ns → (∀ y ∈ ns, y ≤ m) → P (.dat (.int m))) : XE V (tCB (rMax K) ta) δ P :=
  xe_cb fun O0 H0 O σ H m Q q => h O0 H0 O σ H m Q fun as vs H1 g1 r1 ⟨a, ns, e, ea, l, p⟩ => q as vs H1 g1 r1 (by
    subst e
    intro O0 H0 O σ H H1 vs m g1 r1 Q q
    obtain ⟨v, e, ra⟩ := rep1 r1
    subst e
    obtain ⟨p1, vs, ev, hp, r⟩ := m.seqL ra ea
    subst ev
    rw [r.ints] at hp
    exact ⟨p1, ns, rfl, SqL.of hp, l, fun x h1 h2 => q (.dat (.int _)) _ H1 (.refl g1.2) ra_int (p x h1 h2)⟩)
theorem xe_min {ta : TA} {P : AV → Prop} (h : XA V ta δ fun as => ∃ (a : AV) (ns : List Int), as = [a] ∧ a.d = .lst (ns.map D.int) ∧ 0 < ns.length ∧ ∀ m, m ∈ ns → (∀ y ∈ ns, m ≤ y) → P (.dat (.int m))) : XE V (tCB (rMin K) ta) δ P :=
  xe_cb fun O0 H0 O σ H m Q q => h O0 H0 O σ H m Q fun as vs H1 g1 r1 ⟨a, ns, e, ea, l, p⟩ => q as vs H1 g1 r1 (by
    subst e
    intro O0 H0 O σ H H1 vs m g1 r1 Q q
    obtain ⟨v, e, ra⟩ := rep1 r1
    subst e
    obtain ⟨p1, vs, ev, hp, r⟩ := m.seqL ra ea
    subst ev
    rw [r.ints] at hp
    exact ⟨p1, ns, rfl, SqL.of hp, l, fun x h1 h2 => q (.dat (.int _)) _ H1 (.refl g1.2) ra_int (p x h1 h2)⟩)

/-! ### lists that are changed -/
theorem xs_app {j : Nat} {ds : List D} {te : TE} {E : AEnds} (e : δ[j]? = some (.own ds)) (h : XE V te δ fun a => a.ok ∧ ds.length < sizeLine ∧ E.nx (δ.set j (.own (ds ++ [a.d])))) :
    XS V (tDrop (tBM K "list" rAppend (tVar j) (tCons te tNil))) δ E := fun O0 H0 O σ H D m i => by
  obtain ⟨p, vs, ev, o, h0, hp, r⟩ := m.slot j _ e
  refine ⟨.ref p, ev, .inl ⟨rfl, vs, SqL.of hp⟩, h O0 H0 O σ H m _ fun a v H1 g1 r1 ⟨k, l, n⟩ => ?_⟩
  have m1 := m.mono g1
  have hp1 : H1 p = some (.lst vs) := g1.1 p _ (m.notT h0) hp
  refine ⟨p, vs, v, rfl, rfl, hp1, by rw [r.len]; exact l, ?_⟩
  exact i.1 _ O σ _ ((m.str g1).trans (m1.mutR e ev)) (m1.mut e ev ((m.rpl g1 r).append (RpL.cons (m.repD r1 k) RpL.nil))) n
theorem xs_ext {j : Nat} {ds : List D} {te : TE} {E : AEnds} (e : δ[j]? = some (.own ds)) (h : XE V te δ fun a => a.ok ∧ ∃ es, a.d = .lst es ∧ ds.length + es.length ≤ sizeLine ∧ E.nx (δ.set j (.own (ds ++ es)))) :
    XS V (tDrop (tBM K "list" rExtend (tVar j) (tCons te tNil))) δ E := fun O0 H0 O σ H D m i => by
  obtain ⟨p, vs, ev, o, h0, hp, r⟩ := m.slot j _ e
  refine ⟨.ref p, ev, .inl ⟨rfl, vs, SqL.of hp⟩, h O0 H0 O σ H m _ fun a v H1 g1 r1 ⟨k, es, ea, l, n⟩ => ?_⟩
  have m1 := m.mono g1
  have hp1 : H1 p = some (.lst vs) := g1.1 p _ (m.notT h0) hp
  obtain ⟨b, us, eu, hb, ru⟩ := m.seqL r1 ea
  subst eu
  refine ⟨p, b, vs, us, rfl, rfl, hp1, hb, by rw [r.len, ru.len]; exact l, ?_⟩
  exact i.1 _ O σ _ ((m.str g1).trans (m1.mutR e ev)) (m1.mut e ev ((m.rpl g1 r).append ru)) n
theorem xs_setIx {j : Nat} {ds : List D} {te ti : TE} {E : AEnds} (e : δ[j]? = some (.own ds)) (h : XE V te δ fun a => a.ok ∧ XE V ti δ fun b => ∃ i k, b.d = .int i ∧ ixN ds.length i = some k ∧ E.nx (δ.set j (.own (ds.set k a.d)))) :
    XS V (tAsg te (gSub (tVar j) ti rSetL)) δ E := fun O0 H0 O σ H D m i => by
  obtain ⟨p, vs, ev, o, h0, hp, r⟩ := m.slot j _ e
  refine h O0 H0 O σ H m _ fun a v H1 g1 r1 ⟨k, h2⟩ => ⟨.ref p, ev, h2 O0 H0 O σ H1 (m.mono g1) _ fun b u H2 g2 r2 ⟨ii, kk, eb, ek, n⟩ => ?_⟩
  have g := g1.trans g2
  have m2 := m.mono g
  refine ⟨p, vs, ii, kk, rfl, repV r2 eb, g.1 p _ (m.notT h0) hp, by rw [r.len]; exact ek, ?_⟩
  exact i.1 _ O σ _ ((m.str g).trans (m2.mutR e ev)) (m2.mut e ev ((m.rpl g r).set kk (m.repD (m.repA g1 g2 r1) k))) n

/-! ### loops -/
theorem rp_str2 (s : StR O H O' H') (al : ∀ b, O b → ∃ o, H b = some o ∧ NTup o) {d : D} {v : L2.V} (r : Rp O H d v) : Rp O' H' d v :=
  Rp.to (fun b xs e => s.1 b _ (fun z => by obtain ⟨o, e2, n⟩ := al b z; rw [e] at e2; cases e2; exact n xs rfl) e)
    (fun b xs n e => ⟨fun z => (s.2 b z).elim n fun q => by (rw [e] at q; cases q), s.1 b _ n e⟩) d v r
theorem rpl_str2 (s : StR O H O' H') (al : ∀ b, O b → ∃ o, H b = some o ∧ NTup o) {d : List D} {v : List L2.V} (r : RpL O H d v) : RpL O' H' d v :=
  RpL.to (fun b xs e => s.1 b _ (fun z => by obtain ⟨o, e2, n⟩ := al b z; rw [e] at e2; cases e2; exact n xs rfl) e)
    (fun b xs n e => ⟨fun z => (s.2 b z).elim n fun q => by (rw [e] at q; cases q), s.1 b _ n e⟩) d v r
/-- what stands between two turns -/
def Turns (V : Vol) (O0 : AS) (H0 : Hp) (O : AS) (H : Hp) (I : List Slot → Prop) (σ' : St) (H' : Hp) : Prop := ∃ O' δ', StR O H O' H' ∧ MtO V O0 H0 O' δ' σ' H' ∧ I δ'
theorem turn_of {g : TG} {tb : TS} {E : AEnds} {Dn : Ends} {I I' : List Slot → Prop} {d : D} {x : L2.V} {σ' : St} (m : MtO V O0 H0 O δ σ H) (i : Impl V O0 H0 O H E Dn)
    (h : ∀ δ', I δ' → XG V g d δ' fun δ2 => XS V tb δ2 { E with nx := I', ct := I', bk := E.nx }) (t : Turns V O0 H0 O H I σ' H') (r : ∀ O', StR O H O' H' → Rp O' H' d x) :
    g x σ' H' fun σ2 H2 => tb { Dn with nx := Turns V O0 H0 O H I', ct := Turns V O0 H0 O H I', bk := Dn.nx } σ2 H2 := by
  obtain ⟨O', δ', s, m', k⟩ := t
  refine h δ' k O0 H0 O' σ' H' x m' (r O' s) _ fun δ2 σ2 H2 g2 m2 k2 => ?_
  have s2 := s.trans (m'.str g2)
  refine k2 O0 H0 O' σ2 H2 _ m2 ⟨fun δ3 O3 σ3 H3 s3 m3 k3 => ⟨O3, δ3, s2.trans s3, m3, k3⟩, i.2.1, fun δ3 O3 σ3 H3 s3 m3 k3 => i.1 δ3 O3 σ3 H3 (s2.trans s3) m3 k3, fun δ3 O3 σ3 H3 s3 m3 k3 => ⟨O3, δ3, s2.trans s3, m3, k3⟩⟩
theorem xs_forT {tl : TE} {g : TG} {tb : TS} {E : AEnds} (h : XE V tl δ fun a => ∃ ds, a.d = .tup ds ∧ ∃ I : Nat → List Slot → Prop, I 0 δ ∧
      (∀ i d, ds[i]? = some d → ∀ δ', I i δ' → XG V g d δ' fun δ2 => XS V tb δ2 { E with nx := I (i + 1), ct := I (i + 1), bk := E.nx }) ∧ ∀ δ', I ds.length δ' → E.nx δ') :
    XS V (tFor (iTup K tl) g tb) δ E := fun O0 H0 O σ H D m i =>
  h O0 H0 O σ H m _ fun a v H1 g1 r1 ⟨ds, ea, I, i0, hs, hd⟩ => by
    obtain ⟨p, vs, ev, hp, r⟩ := m.seqT r1 ea
    have m1 := m.mono g1
    have i1 := i.from (m.str g1)
    refine ⟨p, ev, ⟨vs, SqT.of hp⟩, for_tup (xs := vs) (fun n σ' H' => Turns V O0 H0 O H1 (I n) σ' H') ⟨O, δ, .refl, m1, i0⟩ (fun n σ' H' _ ⟨O', δ', s, _⟩ => SqT.of (s.1 p _ (fun z => ?_) hp)) (fun n x σ' H' e t => ?_) fun σ' H' ⟨O', δ', s, m', k⟩ => ?_⟩
    · obtain ⟨o, e2, nt⟩ := m1.al p z
      rw [hp] at e2; cases e2
      exact nt vs rfl
    · obtain ⟨d, ed, rd⟩ := r.got e
      exact turn_of m1 i1 (hs n d ed) t fun O' s => rp_str2 s m1.al rd
    · rw [r.len] at k
      exact i1.1 δ' O' σ' H' s m' (hd δ' k)
theorem xs_forL {tl : TE} {g : TG} {tb : TS} {E : AEnds} (h : XE V tl δ fun a => a.ok ∧ ∃ ds, a.d = .lst ds ∧ ∃ I : Nat → List Slot → Prop, I 0 δ ∧
      (∀ i d, ds[i]? = some d → ∀ δ', I i δ' → XG V g d δ' fun δ2 => XS V tb δ2 { E with nx := I (i + 1), ct := I (i + 1), bk := E.nx }) ∧ ∀ δ', I ds.length δ' → E.nx δ') :
    XS V (tFor (iList K tl) g tb) δ E := fun O0 H0 O σ H D m i =>
  h O0 H0 O σ H m _ fun a v H1 g1 r1 ⟨ok, ds, ea, I, i0, hs, hd⟩ => by
    have rd := m.repD r1 ok
    rw [ea] at rd
    unfold Rp at rd
    obtain ⟨p, vs, ev, hp, np, r⟩ := rd
    have m1 := m.mono g1
    have i1 := i.from (m.str g1)
    refine ⟨p, ev, ⟨vs, SqL.of hp⟩, for_list (xs := vs) (fun n σ' H' => Turns V O0 H0 O H1 (I n) σ' H') ⟨O, δ, .refl, m1, i0⟩ (fun n σ' H' _ ⟨O', δ', s, _⟩ => SqL.of (s.1 p _ np hp)) (fun n x σ' H' e t => ?_) fun σ' H' ⟨O', δ', s, m', k⟩ => ?_⟩
    · obtain ⟨d, ed, rd⟩ := r.got e
      exact turn_of m1 i1 (hs n d ed) t fun O' s => rp_str2 s m1.al rd
    · rw [r.len] at k
      exact i1.1 δ' O' σ' H' s m' (hd δ' k)
theorem xs_forR1 {ta : TA} {g : TG} {tb : TS} {E : AEnds} (h : XA V ta δ fun as => ∃ a j, as = [a] ∧ a.d = .int j ∧ -(2 ^ 62) ≤ j ∧ j < 2 ^ 62 ∧ ∃ I : Nat → List Slot → Prop, I 0 δ ∧
      (∀ i : Nat, i < j.toNat → ∀ δ', I i δ' → XG V g (.int (i : Int)) δ' fun δ2 => XS V tb δ2 { E with nx := I (i + 1), ct := I (i + 1), bk := E.nx }) ∧ ∀ δ', I j.toNat δ' → E.nx δ') :
    XS V (tFor (iRng1 ta) g tb) δ E := fun O0 H0 O σ H D m i =>
  h O0 H0 O σ H m _ fun as vs H1 g1 r1 ⟨a, j, e, ea, b1, b2, I, i0, hs, hd⟩ => by
    subst e
    obtain ⟨v, e, ra⟩ := rep1 r1
    subst e
    have ev : v = .int j := repV ra ea
    subst ev
    have m1 := m.mono g1
    have i1 := i.from (m.str g1)
    refine ⟨j, rfl, b1, b2, for_range (lo := 0) (n := j.toNat) (fun n σ' H' => Turns V O0 H0 O H1 (I n) σ' H') ⟨O, δ, .refl, m1, i0⟩ (fun n σ' H' hn t => ?_) fun σ' H' ⟨O', δ', s, m', k⟩ => i1.1 δ' O' σ' H' s m' (hd δ' k)⟩
    have e0 : (0 : Int) + (n : Int) = (n : Int) := Int.zero_add _
    rw [e0]
    exact turn_of m1 i1 (hs n hn) t fun O' s => rp_int
theorem xs_forR2 {ta : TA} {g : TG} {tb : TS} {E : AEnds} (h : XA V ta δ fun as => ∃ a b lo hi, as = [a, b] ∧ a.d = .int lo ∧ b.d = .int hi ∧ (-(2 ^ 62) ≤ lo ∧ lo < 2 ^ 62 ∧ -(2 ^ 62) ≤ hi ∧ hi < 2 ^ 62) ∧ ∃ I : Nat → List Slot → Prop, I 0 δ ∧
      (∀ i : Nat, i < (hi - lo).toNat → ∀ δ', I i δ' → XG V g (.int (lo + (i : Int))) δ' fun δ2 => XS V tb δ2 { E with nx := I (i + 1), ct := I (i + 1), bk := E.nx }) ∧ ∀ δ', I (hi - lo).toNat δ' → E.nx δ') :
    XS V (tFor (iRng2 ta) g tb) δ E := fun O0 H0 O σ H D m i =>
  h O0 H0 O σ H m _ fun as vs H1 g1 r1 ⟨a, b, lo, hi, e, ea, eb, bs, I, i0, hs, hd⟩ => by
    subst e
    obtain ⟨v, u, e, ra, r'⟩ := rep2 r1
    subst e
    have ev : v = .int lo := repV ra ea
    have eu : u = .int hi := repV r' eb
    subst ev eu
    have m1 := m.mono g1
    have i1 := i.from (m.str g1)
    exact ⟨lo, hi, rfl, bs, for_range (lo := lo) (n := (hi - lo).toNat) (fun n σ' H' => Turns V O0 H0 O H1 (I n) σ' H') ⟨O, δ, .refl, m1, i0⟩ (fun n σ' H' hn t => turn_of m1 i1 (hs n hn) t fun O' s => rp_int) fun σ' H' ⟨O', δ', s, m', k⟩ => i1.1 δ' O' σ' H' s m' (hd δ' k)⟩
end
end MG
end
section
set_option linter.all false
set_option maxRecDepth 100000
set_option maxHeartbeats 4000000
/-! MgD: comprehensions, zip and enumerate, promises of defs. -/
namespace MG
open PySem L2

/-! ### an iterator by its turns -/
theorem for_it {J : It} {n : Nat} {g : TG} {tb : TS} {Dn : Ends} {σ : St} {H : Hp} (Pv : Nat → St → Hp → Prop) (h0 : Pv 0 σ H) (hg : ∀ i σ H, i < n → Pv i σ H → J.go i H)
    (hs : ∀ i x σ H H', i < n → Pv i σ H → J.yld i H x H' → g x σ H' fun σ2 H2 => tb { Dn with nx := Pv (i + 1), ct := Pv (i + 1), bk := Dn.nx } σ2 H2)
    (he : ∀ σ H, Pv n σ H → J.stop n H) (hd : ∀ σ H, Pv n σ H → Dn.nx σ H) :
    ∃ W : Nat → Nat → St → Hp → Prop, (∃ m, W 0 m σ H) ∧ ∀ i m σ H, W i m σ H →
      (J.stop i H ∧ Dn.nx σ H) ∨ (J.go i H ∧ ∃ N : St → Hp → Prop, (∀ σ' H', N σ' H' → ∃ m', m' < m ∧ W (i + 1) m' σ' H') ∧ ∀ x H', J.yld i H x H' → g x σ H' fun σ2 H2 => tb { Dn with nx := N, ct := N, bk := Dn.nx } σ2 H2) := by
  refine ⟨fun i m σ H => i + m = n ∧ Pv i σ H, ⟨n, Nat.zero_add n, h0⟩, fun i m σ H ⟨e, p⟩ => ?_⟩
  rcases Nat.eq_zero_or_pos m with z | z
  · have ei : i = n := by omega
    subst ei
    exact .inl ⟨he σ H p, hd σ H p⟩
  · have hi : i < n := by omega
    exact .inr ⟨hg i σ H hi p, Pv (i + 1), fun σ' H' p' => ⟨m - 1, by omega, by omega, p'⟩, fun x H' y => hs i x σ H H' hi p y⟩
theorem lc_it {J : It} {n : Nat} {g : TG} {tt : TT} {te : TE} {vs : List Nat} {σ : St} {H1 : Hp} {Dl : Addr} {Qd : Hp → Prop} (Pv : Nat → Hp → Prop) (h0 : Pv 0 (upd H1 Dl (.lst []))) (hg : ∀ i H, i < n → Pv i H → J.go i H)
    (hs : ∀ i x H H', i < n → Pv i H → J.yld i H x H' → g x (wipe σ vs) H' fun σ2 H2 => wipe σ2 vs = wipe σ vs ∧ tt σ2 H2 fun b H3 =>
      if b = true then te σ2 H3 fun y H4 => ∃ acc, H4 Dl = some (.lst acc) ∧ acc.length < sizeLine ∧ Pv (i + 1) (upd H4 Dl (.lst (acc ++ [y]))) else Pv (i + 1) H3)
    (he : ∀ H, Pv n H → J.stop n H) (hd : ∀ H, Pv n H → Qd H) :
    ∃ W : Nat → Nat → Hp → Prop, (∃ m, W 0 m (upd H1 Dl (.lst []))) ∧ ∀ i m H, W i m H →
      (J.stop i H ∧ Qd H) ∨ (J.go i H ∧ ∃ Nx : Hp → Prop, (∀ H', Nx H' → ∃ m', m' < m ∧ W (i + 1) m' H') ∧ ∀ x H', J.yld i H x H' → g x (wipe σ vs) H' fun σ2 H2 => wipe σ2 vs = wipe σ vs ∧ tt σ2 H2 fun b H3 =>
        if b = true then te σ2 H3 fun y H4 => ∃ acc, H4 Dl = some (.lst acc) ∧ acc.length < sizeLine ∧ Nx (upd H4 Dl (.lst (acc ++ [y]))) else Nx H3) := by
  refine ⟨fun i m H => i + m = n ∧ Pv i H, ⟨n, Nat.zero_add n, h0⟩, fun i m H ⟨e, p⟩ => ?_⟩
  rcases Nat.eq_zero_or_pos m with z | z
  · have ei : i = n := by omega
    subst ei
    exact .inl ⟨he H p, hd H p⟩
  · have hi : i < n := by omega
    exact .inr ⟨hg i H hi p, Pv (i + 1), fun H' p' => ⟨m - 1, by omega, by omega, p'⟩, fun x H' y => hs i x H H' hi p y⟩

/-! ### the slots of a comprehension -/
def wipeS (δ : List Slot) : List Nat → List Slot
  | [] => δ
  | v :: vs => (wipeS δ vs).set v .no
theorem wipe_get {σ : St} {i : Nat} : ∀ {vs : List Nat}, (wipe σ vs)[i]? = if i ∈ vs ∧ i < σ.length then some none else σ[i]?
  | [] => by simp [wipe]
  | v :: vs => by
    unfold wipe
    by_cases h : v = i
    · subst h
      by_cases hl : v < σ.length
      · rw [List.getElem?_set_self (by rw [wipe_length]; exact hl), if_pos ⟨List.mem_cons_self, hl⟩]
      · rw [if_neg (fun z => hl z.2), List.getElem?_eq_none (by rw [List.length_set, wipe_length]; omega), List.getElem?_eq_none (by omega)]
    · rw [List.getElem?_set_ne h, wipe_get]
      by_cases hm : i ∈ vs ∧ i < σ.length
      · rw [if_pos hm, if_pos ⟨List.mem_cons_of_mem _ hm.1, hm.2⟩]
      · rw [if_neg hm, if_neg (fun z => hm ⟨(List.mem_cons.mp z.1).resolve_left (fun q => h q.symm), z.2⟩)]
theorem wipe_idem {σ : St} {vs : List Nat} : wipe (wipe σ vs) vs = wipe σ vs := by
  apply List.ext_getElem?
  intro i
  rw [wipe_get, wipe_get, wipe_length]
  split <;> rfl
theorem wipe_set {σ : St} {vs : List Nat} {j : Nat} {x : Option L2.V} (h : j ∈ vs) : wipe (σ.set j x) vs = wipe σ vs := by
  apply List.ext_getElem?
  intro i
  rw [wipe_get, wipe_get, List.length_set]
  split
  · rfl
  · rename_i n
    by_cases e : j = i
    · subst e
      have hl : ¬ j < σ.length := fun z => n ⟨h, z⟩
      rw [List.getElem?_eq_none (by rw [List.length_set]; omega), List.getElem?_eq_none (by omega)]
    · rw [List.getElem?_set_ne e]
/-- a target that stores at these slots alone -/
def TgtIn (g : TG) (vs : List Nat) : Prop := ∀ x σ H (Q : St → Hp → Prop), g x σ H Q → g x σ H fun σ2 H2 => wipe σ2 vs = wipe σ vs ∧ Q σ2 H2
def TgtsIn (g : TGs) (vs : List Nat) : Prop := ∀ x σ H (Q : St → Hp → Prop), g x σ H Q → g x σ H fun σ2 H2 => wipe σ2 vs = wipe σ vs ∧ Q σ2 H2
theorem tin_name {j : Nat} {vs : List Nat} (h : j ∈ vs) : TgtIn (gName j) vs := fun x σ H Q q => ⟨wipe_set h, q⟩
theorem tin_nil {vs : List Nat} : TgtsIn gNil vs := fun x σ H Q ⟨e, q⟩ => ⟨e, rfl, q⟩
theorem tin_cons {g : TG} {gs : TGs} {vs : List Nat} (mono : ∀ x σ H (Q Q' : St → Hp → Prop), (∀ σ2 H2, Q σ2 H2 → Q' σ2 H2) → g x σ H Q → g x σ H Q') (monos : ∀ x σ H (Q Q' : St → Hp → Prop), (∀ σ2 H2, Q σ2 H2 → Q' σ2 H2) → gs x σ H Q → gs x σ H Q') (h : TgtIn g vs) (hs : TgtsIn gs vs) : TgtsIn (gCons g gs) vs := fun x σ H Q ⟨v, r, e, q⟩ => by
  refine ⟨v, r, e, mono _ _ _ _ _ (fun σ2 H2 q2 => ?_) (h _ _ _ _ q)⟩
  exact monos _ _ _ _ _ (fun σ3 H3 q3 => ⟨q3.1.trans q2.1, q3.2⟩) (hs _ _ _ _ q2.2)
theorem mono_name {j : Nat} : ∀ x σ H (Q Q' : St → Hp → Prop), (∀ σ2 H2, Q σ2 H2 → Q' σ2 H2) → gName j x σ H Q → gName j x σ H Q' := fun x σ H Q Q' i q => i _ _ q
theorem mono_nil : ∀ x σ H (Q Q' : St → Hp → Prop), (∀ σ2 H2, Q σ2 H2 → Q' σ2 H2) → gNil x σ H Q → gNil x σ H Q' := fun x σ H Q Q' i q => ⟨q.1, i _ _ q.2⟩
theorem mono_cons {g : TG} {gs : TGs} (mono : ∀ x σ H (Q Q' : St → Hp → Prop), (∀ σ2 H2, Q σ2 H2 → Q' σ2 H2) → g x σ H Q → g x σ H Q') (monos : ∀ x σ H (Q Q' : St → Hp → Prop), (∀ σ2 H2, Q σ2 H2 → Q' σ2 H2) → gs x σ H Q → gs x σ H Q') :
    ∀ x σ H (Q Q' : St → Hp → Prop), (∀ σ2 H2, Q σ2 H2 → Q' σ2 H2) → gCons g gs x σ H Q → gCons g gs x σ H Q' := fun x σ H Q Q' i ⟨v, r, e, q⟩ => ⟨v, r, e, mono _ _ _ _ _ (fun σ2 H2 q2 => monos _ _ _ _ _ i q2) q⟩
theorem tin_tup {K : PySem.W.Frag} {n : Nat} {gs : TGs} {vs : List Nat} (hs : TgtsIn gs vs) : TgtIn (gTup K n gs) vs := fun x σ H Q ⟨a, xs, e, h, l, q⟩ => ⟨a, xs, e, h, l, hs _ _ _ _ q⟩
/-- two names -/
theorem tin_2 {K : PySem.W.Frag} {n j k : Nat} {vs : List Nat} (hj : j ∈ vs) (hk : k ∈ vs) : TgtIn (gTup K n (gCons (gName j) (gCons (gName k) gNil))) vs :=
  tin_tup (tin_cons mono_name (mono_cons mono_name mono_nil) (tin_name hj) (tin_cons mono_name mono_nil (tin_name hk) tin_nil))

section
variable {V : Vol} {O0 O O' : AS} {H0 H H' H1 H2 : Hp} {δ : List Slot} {σ : St} {K : PySem.W.Frag}
theorem MtO.wipes (m : MtO V O0 H0 O δ σ H) : ∀ vs : List Nat, MtO V O0 H0 O (MG.wipeS δ vs) (L2.wipe σ vs) H
  | [] => m
  | v :: vs => by unfold MG.wipeS L2.wipe; exact (m.wipes vs).wipeS
/-- one slot more at the end: the list that grows -/
theorem MtO.grow (m : MtO V O0 H0 O δ σ H) {p : Addr} (n : H p = none) : MtO V O0 H0 (fun b => O b ∨ b = p) (δ ++ [.own []]) (σ ++ [some (.ref p)]) (upd H p (.lst [])) := by
  have m' : MtO V O0 H0 O (δ ++ [.no]) (σ ++ [none]) H :=
    { len := by rw [List.length_append, List.length_append, m.len]; rfl
      slot := fun j s e => by
        rcases Nat.lt_or_ge j δ.length with h | h
        · rw [List.getElem?_append_left h] at e
          rw [List.getElem?_append_left (by rw [m.len]; exact h)]
          exact m.slot j s e
        · rw [List.getElem?_append_right h] at e
          have : s = .no := by
            cases hk : j - δ.length with
            | zero => rw [hk] at e; exact (Option.some.inj e).symm
            | succ k => rw [hk] at e; cases e
          subst this; trivial
      sep := fun a b ds es q e1 e2 e3 e4 => by
        have f : ∀ {j : Nat} {ds : List D}, (δ ++ [Slot.no])[j]? = some (.own ds) → j < δ.length ∧ δ[j]? = some (.own ds) := fun {j ds} e => by
          rcases Nat.lt_or_ge j δ.length with h | h
          · exact ⟨h, by rw [List.getElem?_append_left h] at e; exact e⟩
          · rw [List.getElem?_append_right h] at e
            cases hk : j - δ.length with
            | zero => rw [hk] at e; cases e
            | succ k => rw [hk] at e; cases e
        obtain ⟨l1, f1⟩ := f e1
        obtain ⟨l2, f2⟩ := f e2
        rw [List.getElem?_append_left (by rw [m.len]; exact l1)] at e3
        rw [List.getElem?_append_left (by rw [m.len]; exact l2)] at e4
        exact m.sep a b ds es q f1 f2 e3 e4
      sub := m.sub, vf := m.vf, al0 := m.al0, al := m.al, go := m.go, ti0 := m.ti0 }
  have q := m'.setN (g := Go.new m.ti n) (i := δ.length) (ds := []) (p := p) (vs := []) n upd_same RpL.nil
  rw [List.set_append_right _ _ (Nat.le_refl _), Nat.sub_self] at q
  rw [List.set_append_right _ _ (by rw [m.len]; exact Nat.le_refl _), m.len, Nat.sub_self] at q
  exact q
theorem MtO.shrink {s : Slot} {x : Option L2.V} (m : MtO V O0 H0 O (δ ++ [s]) (σ ++ [x]) H) : MtO V O0 H0 O δ σ H := by
  have hl : σ.length = δ.length := by
    have := m.len
    rw [List.length_append, List.length_append] at this
    simpa using this
  exact { len := hl
          slot := fun j s' e => by
            have h : j < δ.length := (List.getElem?_eq_some_iff.mp e).1
            have q := m.slot j s' (by rw [List.getElem?_append_left h]; exact e)
            rw [List.getElem?_append_left (by rw [hl]; exact h)] at q
            exact q
          sep := fun a b ds es p e1 e2 e3 e4 => by
            have h1 : a < δ.length := (List.getElem?_eq_some_iff.mp e1).1
            have h2 : b < δ.length := (List.getElem?_eq_some_iff.mp e2).1
            exact m.sep a b ds es p (by rw [List.getElem?_append_left h1]; exact e1) (by rw [List.getElem?_append_left h2]; exact e2) (by rw [List.getElem?_append_left (by rw [hl]; exact h1)]; exact e3) (by rw [List.getElem?_append_left (by rw [hl]; exact h2)]; exact e4)
          sub := m.sub, vf := m.vf, al0 := m.al0, al := m.al, go := m.go, ti0 := m.ti0 }
/-- between two turns of a comprehension: es stands in the new list at Dl -/
def Grown (V : Vol) (O0 : AS) (H0 : Hp) (O : AS) (δ : List Slot) (σ : St) (H1 : Hp) (Dl : Addr) (I : List D → Prop) (H' : Hp) : Prop :=
  ∃ es, MtO V O0 H0 (fun b => O b ∨ b = Dl) (δ ++ [.own es]) (σ ++ [some (.ref Dl)]) H' ∧ Go V H1 H' ∧ I es
theorem Grown.at {Dl : Addr} {I : List D → Prop} (hl : σ.length = δ.length) (w : Grown V O0 H0 O δ σ H1 Dl I H') : ∃ es acc, I es ∧ H' Dl = some (.lst acc) ∧ RpL (fun b => O b ∨ b = Dl) H' es acc := by
  obtain ⟨es, m, g, i⟩ := w
  obtain ⟨p, vs, ev, o, h0, hp, r⟩ := m.slot δ.length (.own es) (by rw [List.getElem?_append_right (Nat.le_refl _), Nat.sub_self]; rfl)
  rw [List.getElem?_append_right (by rw [hl]; exact Nat.le_refl _), hl, Nat.sub_self] at ev
  have ev : some (L2.V.ref Dl) = some (.ref p) := Option.some.inj ev
  cases ev
  exact ⟨es, vs, i, hp, r⟩
theorem grown_turn {g : TG} {tt : TT} {te : TE} {vs : List Nat} {Dl : Addr} {I I' : List D → Prop} {d : D} {x : L2.V} (hl : σ.length = δ.length) (hn : H1 Dl = none) (tin : TgtIn g vs) (w : Grown V O0 H0 O (wipeS δ vs) (L2.wipe σ vs) H1 Dl I H')
    (h : ∀ es, I es → XG V g d (wipeS δ vs) fun δ2 => XT V tt δ2 fun b => if b = true then XE V te δ2 fun a => a.ok ∧ es.length < sizeLine ∧ I' (es ++ [a.d]) else I' es)
    (g2 : Go V H' H2) (r : Rp (fun b => O b ∨ b = Dl) H2 d x) :
    g x (L2.wipe σ vs) H2 fun σ2 H2 => L2.wipe σ2 vs = L2.wipe σ vs ∧ tt σ2 H2 fun b H3 =>
      if b = true then te σ2 H3 fun y H4 => ∃ acc, H4 Dl = some (.lst acc) ∧ acc.length < sizeLine ∧ Grown V O0 H0 O (wipeS δ vs) (L2.wipe σ vs) H1 Dl I' (upd H4 Dl (.lst (acc ++ [y]))) else Grown V O0 H0 O (wipeS δ vs) (L2.wipe σ vs) H1 Dl I' H3 := by
  obtain ⟨es, m, g1, i⟩ := w
  have hl2 : (L2.wipe σ vs).length = (wipeS δ vs).length := by
    have := m.len
    rw [List.length_append, List.length_append] at this
    simpa using this
  have mm := (m.mono g2)
  have key : g x (L2.wipe σ vs) H2 fun σ2 H3 => tt σ2 H3 fun b H3 =>
      if b = true then te σ2 H3 fun y H4 => ∃ acc, H4 Dl = some (.lst acc) ∧ acc.length < sizeLine ∧ Grown V O0 H0 O (wipeS δ vs) (L2.wipe σ vs) H1 Dl I' (upd H4 Dl (.lst (acc ++ [y]))) else Grown V O0 H0 O (wipeS δ vs) (L2.wipe σ vs) H1 Dl I' H3 := by
    refine h es i O0 H0 _ _ H2 x mm.shrink r _ fun δ2 σ2 H3 g3 m3 k3 => ?_
    refine k3 O0 H0 _ _ H3 m3 _ fun b H4 g4 k4 => ?_
    cases b with
    | false => exact ⟨es, m.mono ((g2.trans g3).trans g4), g1.trans ((g2.trans g3).trans g4), k4⟩
    | true =>
      refine k4 O0 H0 _ _ H4 (m3.mono g4) _ fun a y H5 g5 r5 ⟨ok, lt, k5⟩ => ?_
      have gg := ((g2.trans g3).trans g4).trans g5
      have m5 := m.mono gg
      obtain ⟨es', acc, e5, h5, rr⟩ := Grown.at (I := fun e => e = es) hl2 ⟨es, m5, g1.trans gg, rfl⟩
      subst e5
      have rd := (m3.mono g4).repD r5 ok
      refine ⟨acc, h5, by rw [rr.len]; exact lt, es' ++ [a.d], ?_, ⟨fun b o n e => ?_, ?_⟩, k5⟩
      · have q := m5.mut (i := (wipeS δ vs).length) (ds := es') (ds' := es' ++ [a.d]) (p := Dl) (by rw [List.getElem?_append_right (Nat.le_refl _), Nat.sub_self]; rfl) (by rw [List.getElem?_append_right (by rw [hl2]; exact Nat.le_refl _), hl2, Nat.sub_self]; rfl) (rr.append (RpL.cons rd RpL.nil))
        rw [List.set_append_right _ _ (Nat.le_refl _), Nat.sub_self] at q
        exact q
      · rw [upd_ne (ne_of_none e hn)]
        exact (g1.trans gg).1 b o n e
      · have q := m5.mut (i := (wipeS δ vs).length) (ds := es') (ds' := es' ++ [a.d]) (p := Dl) (by rw [List.getElem?_append_right (Nat.le_refl _), Nat.sub_self]; rfl) (by rw [List.getElem?_append_right (by rw [hl2]; exact Nat.le_refl _), hl2, Nat.sub_self]; rfl) (rr.append (RpL.cons rd RpL.nil))
        exact q.ti
  have k2 := tin _ _ _ _ key
  rw [wipe_idem] at k2
  exact k2
theorem Grown.start {vs : List Nat} {Dl : Addr} {I : List D → Prop} (m : MtO V O0 H0 O δ σ H1) (n : H1 Dl = none) (i : I []) : Grown V O0 H0 O (wipeS δ vs) (L2.wipe σ vs) H1 Dl I (upd H1 Dl (.lst [])) :=
  ⟨[], (m.wipes vs).grow n, .new m.ti n, i⟩
theorem Grown.fin {vs : List Nat} {Dl : Addr} {I : List D → Prop} {P : AV → Prop} {Q : VK} (m : MtO V O0 H0 O δ σ H) (g : Go V H H1) (n : H1 Dl = none) (w : Grown V O0 H0 O (wipeS δ vs) (L2.wipe σ vs) H1 Dl I H')
    (hd : ∀ es, I es → P (.new es)) (q : ∀ a v H', Go V H H' → RepA V O H H' a v → P a → Q v H') : Q (.ref Dl) H' := by
  have hl : (L2.wipe σ vs).length = (wipeS δ vs).length := (m.wipes vs).len
  obtain ⟨es, acc, i, h, r⟩ := w.at hl
  obtain ⟨_, _, g2, _⟩ := w
  exact q (.new es) _ H' (g.trans g2) ⟨Dl, acc, rfl, g.none m.ti n, h, r⟩ (hd es i)

/-! ### comprehensions -/
theorem xe_lcL {tl : TE} {g : TG} {tt : TT} {te : TE} {vs : List Nat} {P : AV → Prop} (tin : TgtIn g vs) (h : XE V tl δ fun a => ∃ ds, a.d = .lst ds ∧ ∃ I : Nat → List D → Prop, I 0 [] ∧
      (∀ i d es, ds[i]? = some d → I i es → XG V g d (wipeS δ vs) fun δ2 => XT V tt δ2 fun b => if b = true then XE V te δ2 fun a => a.ok ∧ es.length < sizeLine ∧ I (i + 1) (es ++ [a.d]) else I (i + 1) es) ∧ ∀ es, I ds.length es → P (.new es)) :
    XE V (tLc (iList K tl) g tt te vs) δ P := fun O0 H0 O σ H m Q q =>
  h O0 H0 O σ H m _ fun a v H1 g1 r1 ⟨ds, ea, I, i0, hs, hd⟩ => by
    obtain ⟨p, xs, ev, hp, r⟩ := m.seqL r1 ea
    have m1 := m.mono g1
    have ntp : ∀ H2, Go V H1 H2 → H2 p = some (.lst xs) := fun H2 g2 => by
      refine g2.1 p _ (fun z => ?_) hp
      cases a with
      | dat d =>
        have ea : d = .lst ds := ea
        subst ea
        have r1 : Rp O H1 (.lst ds) v := r1
        unfold Rp at r1
        obtain ⟨p', _, e', _, no, _⟩ := r1
        rw [ev] at e'; cases e'
        exact no (m.tO z)
      | new es => obtain ⟨p', _, e', n, _⟩ := r1; rw [ev] at e'; cases e'; exact m.free n (m.tO z)
      | brw es => obtain ⟨p', _, e', _, nt, _⟩ := r1; rw [ev] at e'; cases e'; exact nt z
    refine ⟨p, ev, ⟨xs, SqL.of hp⟩, fun Dl hn => lc_list (xs := xs) (fun i H' => Grown V O0 H0 O (wipeS δ vs) (L2.wipe σ vs) H1 Dl (I i) H') (Grown.start m1 hn i0) (fun i H' _ w => ?_) (fun i x H' e w => ?_) fun H' w => ?_⟩
    · obtain ⟨_, _, g2, _⟩ := w
      exact SqL.of (ntp H' g2)
    · obtain ⟨d, ed, rd⟩ := r.got e
      have w2 := w
      obtain ⟨es, mm, g2, ie⟩ := w2
      exact grown_turn m1.len hn tin w (fun es ie => hs i d es ed ie) (.refl g2.2) (m1.rpNew g2 hn rd)
    · rw [r.len] at w
      exact Grown.fin m g1 hn w hd q
theorem xe_lcT {tl : TE} {g : TG} {tt : TT} {te : TE} {vs : List Nat} {P : AV → Prop} (tin : TgtIn g vs) (h : XE V tl δ fun a => ∃ ds, a.d = .tup ds ∧ ∃ I : Nat → List D → Prop, I 0 [] ∧
      (∀ i d es, ds[i]? = some d → I i es → XG V g d (wipeS δ vs) fun δ2 => XT V tt δ2 fun b => if b = true then XE V te δ2 fun a => a.ok ∧ es.length < sizeLine ∧ I (i + 1) (es ++ [a.d]) else I (i + 1) es) ∧ ∀ es, I ds.length es → P (.new es)) :
    XE V (tLc (iTup K tl) g tt te vs) δ P := fun O0 H0 O σ H m Q q =>
  h O0 H0 O σ H m _ fun a v H1 g1 r1 ⟨ds, ea, I, i0, hs, hd⟩ => by
    obtain ⟨p, xs, ev, hp, r⟩ := m.seqT r1 ea
    have m1 := m.mono g1
    refine ⟨p, ev, ⟨xs, SqT.of hp⟩, fun Dl hn => lc_tup (xs := xs) (fun i H' => Grown V O0 H0 O (wipeS δ vs) (L2.wipe σ vs) H1 Dl (I i) H') (Grown.start m1 hn i0) (fun i H' _ w => ?_) (fun i x H' e w => ?_) fun H' w => ?_⟩
    · obtain ⟨_, _, g2, _⟩ := w
      exact SqT.of (g2.tup m1.ti hp)
    · obtain ⟨d, ed, rd⟩ := r.got e
      have w2 := w
      obtain ⟨es, mm, g2, ie⟩ := w2
      exact grown_turn m1.len hn tin w (fun es ie => hs i d es ed ie) (.refl g2.2) (m1.rpNew g2 hn rd)
    · rw [r.len] at w
      exact Grown.fin m g1 hn w hd q
theorem xe_lcR1 {ta : TA} {g : TG} {tt : TT} {te : TE} {vs : List Nat} {P : AV → Prop} (tin : TgtIn g vs) (h : XA V ta δ fun as => ∃ a j, as = [a] ∧ a.d = .int j ∧ -(2 ^ 62) ≤ j ∧ j < 2 ^ 62 ∧ ∃ I : Nat → List D → Prop, I 0 [] ∧
      (∀ (i : Nat) es, i < j.toNat → I i es → XG V g (.int (i : Int)) (wipeS δ vs) fun δ2 => XT V tt δ2 fun b => if b = true then XE V te δ2 fun a => a.ok ∧ es.length < sizeLine ∧ I (i + 1) (es ++ [a.d]) else I (i + 1) es) ∧ ∀ es, I j.toNat es → P (.new es)) :
    XE V (tLc (iRng1 ta) g tt te vs) δ P := fun O0 H0 O σ H m Q q =>
  h O0 H0 O σ H m _ fun as us H1 g1 r1 ⟨a, j, e, ea, b1, b2, I, i0, hs, hd⟩ => by
    subst e
    obtain ⟨v, e, ra⟩ := rep1 r1
    subst e
    have ev : v = .int j := repV ra ea
    subst ev
    have m1 := m.mono g1
    refine ⟨j, rfl, b1, b2, fun Dl hn => lc_range (lo := 0) (n := j.toNat) (fun i H' => Grown V O0 H0 O (wipeS δ vs) (L2.wipe σ vs) H1 Dl (I i) H') (Grown.start m1 hn i0) (fun i H' hi w => ?_) fun H' w => Grown.fin m g1 hn w hd q⟩
    have e0 : (0 : Int) + (i : Int) = (i : Int) := Int.zero_add _
    rw [e0]
    have w2 := w
    obtain ⟨es, mm, g2, ie⟩ := w2
    exact grown_turn m1.len hn tin w (fun es ie => hs i es hi ie) (.refl g2.2) rp_int
theorem xe_lcZ {ta : TA} {g : TG} {tt : TT} {te : TE} {vs : List Nat} {P : AV → Prop} (tin : TgtIn g vs) (h : XA V ta δ fun as => ∃ a b ds es, as = [a, b] ∧ a.ok ∧ b.ok ∧ a.d = .lst ds ∧ b.d = .lst es ∧ ∃ I : Nat → List D → Prop, I 0 [] ∧
      (∀ i d e out, ds[i]? = some d → es[i]? = some e → I i out → XG V g (.tup [d, e]) (wipeS δ vs) fun δ2 => XT V tt δ2 fun b => if b = true then XE V te δ2 fun a => a.ok ∧ out.length < sizeLine ∧ I (i + 1) (out ++ [a.d]) else I (i + 1) out) ∧ ∀ out, I (min ds.length es.length) out → P (.new out)) :
    XE V (tLc (iZip K ta) g tt te vs) δ P := fun O0 H0 O σ H m Q q =>
  h O0 H0 O σ H m _ fun as us H1 g1 r1 ⟨a, b, ds, es, e, oka, okb, ea, eb, I, i0, hs, hd⟩ => by
    subst e
    obtain ⟨v, u, e, ra, rb⟩ := rep2 r1
    subst e
    have m1 := m.mono g1
    have q1 := m.repD ra oka
    have q2 := m.repD rb okb
    rw [ea] at q1
    rw [eb] at q2
    unfold Rp at q1 q2
    obtain ⟨p1, xs, ev, hp, np, rx⟩ := q1
    obtain ⟨p2, ys, eu, hq, nq, ry⟩ := q2
    subst ev eu
    refine ⟨p1, p2, xs, ys, rfl, SqL.of hp, SqL.of hq, fun Dl hn => lc_it (n := min ds.length es.length) (fun i H' => Grown V O0 H0 O (wipeS δ vs) (L2.wipe σ vs) H1 Dl (I i) H') (Grown.start m1 hn i0) (fun i H' hi w => ?_) (fun i x H' H2 hi w y => ?_) (fun H' w => ?_) fun H' w => Grown.fin m g1 hn w hd q⟩
    all_goals obtain ⟨out, mm, g2, ie⟩ := id w
    all_goals have kp : H' p1 = some (.lst xs) := g2.1 p1 _ (fun z => np (m.tO z)) hp
    all_goals have kq : H' p2 = some (.lst ys) := g2.1 p2 _ (fun z => nq (m.tO z)) hq
    · have h1 : i < xs.length := by rw [rx.len]; omega
      have h2 : i < ys.length := by rw [ry.len]; omega
      exact ⟨xs, ys, xs[i], ys[i], SqL.of kp, SqL.of kq, List.getElem?_eq_getElem h1, List.getElem?_eq_getElem h2⟩
    · obtain ⟨T, x1, y1, rfl, nT, rfl, f1, f2⟩ := y
      obtain ⟨d, ed, rd⟩ := rx.got (f1 xs (SqL.of kp))
      obtain ⟨e, ee, re⟩ := ry.got (f2 ys (SqL.of kq))
      have gn : Go V H' (upd H' T (.tup [x1, y1])) := .new g2.2 nT
      refine grown_turn m1.len hn tin w (fun es ie => hs i d e es ed ee ie) gn ?_
      exact rp_tup upd_same (RpL.cons (m1.rpNew (g2.trans gn) hn rd) (RpL.cons (m1.rpNew (g2.trans gn) hn re) RpL.nil))
    · refine ⟨xs, ys, SqL.of kp, SqL.of kq, ?_⟩
      rw [rx.len, ry.len]
      omega
/-- for a, b in zip(xs, ys) -/
theorem xs_forZ {ta : TA} {g : TG} {tb : TS} {E : AEnds} (h : XA V ta δ fun as => ∃ a b ds es, as = [a, b] ∧ a.ok ∧ b.ok ∧ a.d = .lst ds ∧ b.d = .lst es ∧ ∃ I : Nat → List Slot → Prop, I 0 δ ∧
      (∀ i d e, ds[i]? = some d → es[i]? = some e → ∀ δ', I i δ' → XG V g (.tup [d, e]) δ' fun δ2 => XS V tb δ2 { E with nx := I (i + 1), ct := I (i + 1), bk := E.nx }) ∧ ∀ δ', I (min ds.length es.length) δ' → E.nx δ') :
    XS V (tFor (iZip K ta) g tb) δ E := fun O0 H0 O σ H Dn m im =>
  h O0 H0 O σ H m _ fun as us H1 g1 r1 ⟨a, b, ds, es, e, oka, okb, ea, eb, I, i0, hs, hd⟩ => by
    subst e
    obtain ⟨v, u, e, ra, rb⟩ := rep2 r1
    subst e
    have m1 := m.mono g1
    have i1 := im.from (m.str g1)
    have q1 := m.repD ra oka
    have q2 := m.repD rb okb
    rw [ea] at q1
    rw [eb] at q2
    unfold Rp at q1 q2
    obtain ⟨p1, xs, ev, hp, np, rx⟩ := q1
    obtain ⟨p2, ys, eu, hq, nq, ry⟩ := q2
    subst ev eu
    refine ⟨p1, p2, xs, ys, rfl, SqL.of hp, SqL.of hq, for_it (n := min ds.length es.length) (fun n σ' H' => Turns V O0 H0 O H1 (I n) σ' H') ⟨O, δ, .refl, m1, i0⟩ (fun i σ' H' hi t => ?_) (fun i x σ' H' H2 hi t y => ?_) (fun σ' H' t => ?_) fun σ' H' ⟨O', δ', s, m', k⟩ => i1.1 δ' O' σ' H' s m' (hd δ' k)⟩
    all_goals obtain ⟨O', δ', s, m', k⟩ := id t
    all_goals have kp : H' p1 = some (.lst xs) := s.1 p1 _ np hp
    all_goals have kq : H' p2 = some (.lst ys) := s.1 p2 _ nq hq
    · have h1 : i < xs.length := by rw [rx.len]; omega
      have h2 : i < ys.length := by rw [ry.len]; omega
      exact ⟨xs, ys, xs[i], ys[i], SqL.of kp, SqL.of kq, List.getElem?_eq_getElem h1, List.getElem?_eq_getElem h2⟩
    · obtain ⟨T, x1, y1, rfl, nT, rfl, f1, f2⟩ := y
      obtain ⟨d, ed, rd⟩ := rx.got (f1 xs (SqL.of kp))
      obtain ⟨e, ee, re⟩ := ry.got (f2 ys (SqL.of kq))
      have gn : Go V H' (upd H' T (.tup [x1, y1])) := .new m'.ti nT
      have s2 := s.trans (m'.str gn)
      refine turn_of m1 i1 (hs i d e ed ee) ⟨O', δ', s2, m'.mono gn, k⟩ fun O2 s3 => ?_
      exact rp_tup upd_same (RpL.cons (rp_str2 s3 m1.al rd) (RpL.cons (rp_str2 s3 m1.al re) RpL.nil))
    · refine ⟨xs, ys, SqL.of kp, SqL.of kq, ?_⟩
      rw [rx.len, ry.len]
      omega
/-- for i, x in enumerate(xs) -/
theorem xs_forE {ta : TA} {g : TG} {tb : TS} {E : AEnds} (h : XA V ta δ fun as => ∃ a ds, as = [a] ∧ a.ok ∧ a.d = .lst ds ∧ ∃ I : Nat → List Slot → Prop, I 0 δ ∧
      (∀ (i : Nat) d, ds[i]? = some d → ∀ δ', I i δ' → XG V g (.tup [.int (i : Int), d]) δ' fun δ2 => XS V tb δ2 { E with nx := I (i + 1), ct := I (i + 1), bk := E.nx }) ∧ ∀ δ', I ds.length δ' → E.nx δ') :
    XS V (tFor (iEnum K ta) g tb) δ E := fun O0 H0 O σ H Dn m im =>
  h O0 H0 O σ H m _ fun as us H1 g1 r1 ⟨a, ds, e, oka, ea, I, i0, hs, hd⟩ => by
    subst e
    obtain ⟨v, e, ra⟩ := rep1 r1
    subst e
    have m1 := m.mono g1
    have i1 := im.from (m.str g1)
    have q1 := m.repD ra oka
    rw [ea] at q1
    unfold Rp at q1
    obtain ⟨p1, xs, ev, hp, np, rx⟩ := q1
    subst ev
    refine ⟨p1, xs, rfl, SqL.of hp, for_it (n := ds.length) (fun n σ' H' => Turns V O0 H0 O H1 (I n) σ' H') ⟨O, δ, .refl, m1, i0⟩ (fun i σ' H' hi t => ?_) (fun i x σ' H' H2 hi t y => ?_) (fun σ' H' t => ?_) fun σ' H' ⟨O', δ', s, m', k⟩ => i1.1 δ' O' σ' H' s m' (hd δ' k)⟩
    all_goals obtain ⟨O', δ', s, m', k⟩ := id t
    all_goals have kp : H' p1 = some (.lst xs) := s.1 p1 _ np hp
    · have h1 : i < xs.length := by rw [rx.len]; omega
      exact ⟨xs, xs[i], SqL.of kp, List.getElem?_eq_getElem h1⟩
    · obtain ⟨T, x1, rfl, nT, rfl, f1⟩ := y
      obtain ⟨d, ed, rd⟩ := rx.got (f1 xs (SqL.of kp))
      have gn : Go V H' (upd H' T (.tup [.int (i : Int), x1])) := .new m'.ti nT
      have s2 := s.trans (m'.str gn)
      refine turn_of m1 i1 (hs i d ed) ⟨O', δ', s2, m'.mono gn, k⟩ fun O2 s3 => ?_
      exact rp_tup upd_same (RpL.cons rp_int (RpL.cons (rp_str2 s3 m1.al rd) RpL.nil))
    · refine ⟨xs, SqL.of kp, ?_⟩
      rw [rx.len]
      exact Nat.le_refl _

/-! ### promises -/
/-- what a def gives: from the data of its arguments, what is wanted of the answer -/
abbrev ASp := List D → (AV → Prop) → Prop
def Lift (sp : ASp) : Sp := fun vs H Q _ => ∃ (O : AS) (ds : List D) (P : AV → Prop), (∀ b, O b → ∃ o, H b = some o ∧ NTup o) ∧ RpL O H ds vs ∧ sp ds P ∧
  ∀ a v H', Same H H' → RepA Vol.nil O H H' a v → P a → Q v H'
/-- the same of a def whose first argument is the tape -/
def LiftT (tp : Vol → Prop) (sp : ASp) : Sp := fun vs H Q _ => ∃ (V : Vol) (O : AS) (us : List L2.V) (ds : List D) (P : AV → Prop), tp V ∧ vs = .ref V.t :: us ∧ V.TI H ∧ (∀ b, V.F b → O b) ∧ (∀ b, O b → ∃ o, H b = some o ∧ NTup o) ∧ RpL O H ds us ∧ sp ds P ∧
  ∀ a v H', Go V H H' → RepA V O H H' a v → P a → Q v H'
def AV.nb : AV → Prop
  | .brw _ => False
  | _ => True
theorem repNil {a : AV} {v : L2.V} (r : RepA Vol.nil O H H' a v) (k : a.ok) : RepA V O H H' a v := by
  cases a with
  | dat d => exact r
  | new ds => exact r
  | brw ds => exact k.elim
theorem repNil' {a : AV} {v : L2.V} (r : RepA V O H H' a v) (k : a.ok) : RepA Vol.nil O H H' a v := by
  cases a with
  | dat d => exact r
  | new ds => exact r
  | brw ds => exact k.elim
theorem xe_call {sp : ASp} {ta : TA} {P : AV → Prop} (h : XA V ta δ fun as => AllOk as ∧ sp (as.map AV.d) fun a => a.ok ∧ P a) : XE V (tCall (Lift sp) [] E0 ta) δ P := fun O0 H0 O σ H m Q q =>
  h O0 H0 O σ H m _ fun as vs H1 g1 r1 ⟨ok, s⟩ => by
    have m1 := m.mono g1
    refine ⟨O, as.map AV.d, _, m1.al, ?_, s, fun a v H' sm r ⟨k, p⟩ => ?_⟩
    · rw [List.append_nil]; exact m.repDs r1 ok
    · exact q a v H' (g1.trans (.same g1.2 sm)) (m.repB g1 (repNil r k)) p
/-- a def by its body over the data -/
theorem lift_of {K : PySem.W.Frag} {P : Program} {w : World} {mg : Str → Option Value} {base : Heap} {x qual : Str} {st : Stmt} {f : Addr} {fd : FuncData} {N ps : List Str} {k : Nat} {sp : ASp} (F : Fun K x qual st f fd) (S : FnScope N ps (defScope st)) (hp : ps.length ≤ N.length)
    (len : ∀ ds P, sp ds P → ds.length = ps.length)
    (ts : TS) (hb : ∀ (cdv : Value) (A : Around) (outer : List Env) (s : Shared) (H : Hp) (E : XK), Room k (A.deeper (PyProof.Rows.envOfC qual (defScope st) s.heap.objs.size f cdv)) → PSs (cxOf CX0 P w K mg base N qual (defScope st) f cdv A outer s H E).nox (defBody st) ts)
    (hx : ∀ ds P, sp ds P → XS Vol.nil ts (ds.map Slot.dat ++ List.replicate (N.length - ps.length) .no) { nx := fun _ => P (.dat .non), rt := P }) : FnOk P w K mg base CX0 (k + 1) f fd ps (Lift sp) := by
  refine F.ok S (fun vs H Q E h => ?_) (fun cdv A outer s H vs Q E hr h => ?_)
  · obtain ⟨O, ds, P, al, r, s, q⟩ := h
    rw [r.len]; exact len ds P s
  · obtain ⟨O, ds, P, al, r, s', q⟩ := h
    refine ⟨ts, hb cdv A outer s H E hr, ?_⟩
    have l1 : vs.length = ps.length := by rw [r.len]; exact len ds P s'
    have m : MtO Vol.nil O H O (ds.map Slot.dat ++ List.replicate (N.length - ps.length) .no) (L2.start N vs) H :=
      { len := by
          unfold L2.start
          rw [List.length_append, List.length_append, List.length_map, List.length_map, List.length_replicate, List.length_replicate, r.len, l1.symm, r.len]
        slot := fun j sl e => by
          rcases Nat.lt_or_ge j ds.length with h | h
          · rw [List.getElem?_append_left (by rw [List.length_map]; exact h), List.getElem?_map] at e
            cases ed : ds[j]? with
            | none => rw [ed] at e; cases e
            | some d =>
              rw [ed] at e
              have e : Slot.dat d = sl := Option.some.inj e
              subst e
              obtain ⟨v, ev, rv⟩ := r.get ed
              refine ⟨v, ?_, rv⟩
              unfold L2.start
              rw [List.getElem?_append_left (by rw [List.length_map, r.len]; exact h), List.getElem?_map, ev]
              rfl
          · rw [List.getElem?_append_right (by rw [List.length_map]; exact h)] at e
            have : sl = .no := by
              rw [List.getElem?_replicate] at e
              split at e
              · exact (Option.some.inj e).symm
              · cases e
            subst this
            trivial
        sep := fun a b d1 d2 p e1 _ _ _ => by
          have no : ∀ (j : Nat) (d : List D), (ds.map Slot.dat ++ List.replicate (N.length - ps.length) Slot.no)[j]? ≠ some (.own d) := fun j d e => by
            rcases Nat.lt_or_ge j ds.length with h | h
            · rw [List.getElem?_append_left (by rw [List.length_map]; exact h), List.getElem?_map] at e
              cases ed : ds[j]? with
              | none => rw [ed] at e; cases e
              | some d => rw [ed] at e; cases e
            · rw [List.getElem?_append_right (by rw [List.length_map]; exact h), List.getElem?_replicate] at e
              split at e <;> cases e
          exact absurd e1 (no a d1)
        sub := fun _ h => h
        vf := fun _ h => h.elim
        al0 := fun b h => by obtain ⟨o, e, _⟩ := al b h; exact ⟨o, e⟩
        al := al
        go := .refl trivial
        ti0 := trivial }
    refine hx ds P s' O H O _ H _ m ⟨fun δ' O' σ' H' st' m' k' => ?_, fun a v H' g r' k' p => q a v H' (fun b o e => g.1 b o (fun z => z) e) r' p, fun _ _ _ _ _ _ z => z.elim, fun _ _ _ _ _ _ z => z.elim⟩
    exact q (.dat .non) .non H' (fun b o e => m'.go.1 b o (fun z => z) e) (by show Rp O H' _ _; exact rp_non) k'
end
end MG
end
section
set_option linter.all false
set_option maxRecDepth 100000
set_option maxHeartbeats 4000000
/-! MgE: parallel assignments, isinstance, star arguments, defs that stand. -/
namespace MG
open PySem L2

section
variable {V : Vol} {O0 O O' : AS} {H0 H H' H1 H2 : Hp} {δ : List Slot} {σ : St} {K : PySem.W.Frag}
/-! ### values waiting at the end of the slots -/
def Sto (a : AV) (s : Slot) : Prop := (a.ok ∧ s = .dat a.d) ∨ ∃ ds, a = .new ds ∧ s = .own ds
theorem MtO.more (m : MtO V O0 H0 O δ σ H) : MtO V O0 H0 O (δ ++ [.no]) (σ ++ [none]) H := by
  exact { len := by rw [List.length_append, List.length_append, m.len]; rfl
          slot := fun j s e => by
            rcases Nat.lt_or_ge j δ.length with h | h
            · rw [List.getElem?_append_left h] at e
              rw [List.getElem?_append_left (by rw [m.len]; exact h)]
              exact m.slot j s e
            · rw [List.getElem?_append_right h] at e
              have : s = .no := by
                cases hk : j - δ.length with
                | zero => rw [hk] at e; exact (Option.some.inj e).symm
                | succ k => rw [hk] at e; cases e
              subst this; trivial
          sep := fun a b ds es q e1 e2 e3 e4 => by
            have f : ∀ {j : Nat} {ds : List D}, (δ ++ [Slot.no])[j]? = some (.own ds) → j < δ.length ∧ δ[j]? = some (.own ds) := fun {j ds} e => by
              rcases Nat.lt_or_ge j δ.length with h | h
              · exact ⟨h, by rw [List.getElem?_append_left h] at e; exact e⟩
              · rw [List.getElem?_append_right h] at e
                cases hk : j - δ.length with
                | zero => rw [hk] at e; cases e
                | succ k => rw [hk] at e; cases e
            obtain ⟨l1, f1⟩ := f e1
            obtain ⟨l2, f2⟩ := f e2
            rw [List.getElem?_append_left (by rw [m.len]; exact l1)] at e3
            rw [List.getElem?_append_left (by rw [m.len]; exact l2)] at e4
            exact m.sep a b ds es q f1 f2 e3 e4
          sub := m.sub, vf := m.vf, al0 := m.al0, al := m.al, go := m.go, ti0 := m.ti0 }
theorem MtO.push (m : MtO V O0 H0 O δ σ H) (g : Go V H H1) {a : AV} {v : L2.V} {s : Slot} (r : RepA V O H H1 a v) (st : Sto a s) : ∃ O', MtO V O0 H0 O' (δ ++ [s]) (σ ++ [some v]) H1 ∧ StR O H O' H1 := by
  rcases st with ⟨k, rfl⟩ | ⟨ds, rfl, rfl⟩
  · refine ⟨O, ?_, m.str g⟩
    have q := ((m.mono g).more).set (i := δ.length) (m.repD r k)
    rw [List.set_append_right _ _ (Nat.le_refl _), Nat.sub_self] at q
    rw [List.set_append_right _ _ (by rw [m.len]; exact Nat.le_refl _), m.len, Nat.sub_self] at q
    exact q
  · obtain ⟨p, vs, e, n, h, rr⟩ := r
    subst e
    refine ⟨_, ?_, StR.new m g n⟩
    have q := (m.more).setN g (i := δ.length) n h rr
    rw [List.set_append_right _ _ (Nat.le_refl _), Nat.sub_self] at q
    rw [List.set_append_right _ _ (by rw [m.len]; exact Nat.le_refl _), m.len, Nat.sub_self] at q
    exact q
theorem MtO.move {s : Slot} {x : Option L2.V} (m : MtO V O0 H0 O (δ ++ [s]) (σ ++ [x]) H) (j : Nat) : MtO V O0 H0 O (δ.set j s) (σ.set j x) H := by
  have hl : σ.length = δ.length := m.shrink.len
  have f : ∀ {i : Nat} {t : Slot}, (δ.set j s)[i]? = some t → ∃ i', (δ ++ [s])[i']? = some t ∧ (σ.set j x)[i]? = (σ ++ [x])[i']? ∧ (i = j → i' = δ.length) ∧ (i ≠ j → i' = i ∧ i < δ.length) := fun {i t} e => by
    rcases get_set e with ⟨rfl, rfl, q⟩ | ⟨ne, e⟩
    · refine ⟨δ.length, by rw [List.getElem?_append_right (Nat.le_refl _), Nat.sub_self]; rfl, ?_, fun _ => rfl, fun n => absurd rfl n⟩
      rw [List.getElem?_set_self (by rw [hl]; exact q), List.getElem?_append_right (by rw [hl]; exact Nat.le_refl _), hl, Nat.sub_self]
      rfl
    · have h : i < δ.length := (List.getElem?_eq_some_iff.mp e).1
      refine ⟨i, by rw [List.getElem?_append_left h]; exact e, ?_, fun z => absurd z ne, fun _ => ⟨rfl, h⟩⟩
      rw [List.getElem?_set_ne (Ne.symm ne), List.getElem?_append_left (by rw [hl]; exact h)]
  exact { len := by rw [List.length_set, List.length_set]; exact hl
          slot := fun i t e => by
            obtain ⟨i', e1, e2, _⟩ := f e
            rw [e2]
            exact m.slot i' t e1
          sep := fun a b ds es p e1 e2 e3 e4 => by
            obtain ⟨a', f1, g1, h1, k1⟩ := f e1
            obtain ⟨b', f2, g2, h2, k2⟩ := f e2
            have q := m.sep a' b' ds es p f1 f2 (by rw [← g1]; exact e3) (by rw [← g2]; exact e4)
            by_cases za : a = j
            · by_cases zb : b = j
              · rw [za, zb]
              · have w1 := h1 za
                have w2 := k2 zb
                omega
            · by_cases zb : b = j
              · have w1 := h2 zb
                have w2 := k1 za
                omega
              · have w1 := k1 za
                have w2 := k2 zb
                omega
          sub := m.sub, vf := m.vf, al0 := m.al0, al := m.al, go := m.go, ti0 := m.ti0 }
theorem xs_par2 {j k : Nat} {t1 t2 : TE} {E : AEnds} (hjk : j ≠ k) (hk : k < δ.length) (h : XE V t1 δ fun a => ∃ s1, Sto a s1 ∧ XE V t2 δ fun b => ∃ s2, Sto b s2 ∧ E.nx ((δ.set k s2).set j s1)) : XS V (tPar j k (tCons t1 (tCons t2 tNil))) δ E := fun O0 H0 O σ H Dn m i =>
  h O0 H0 O σ H m _ fun a v H1 g1 r1 ⟨s1, st1, h2⟩ => by
    obtain ⟨O1, m1, w1⟩ := m.push g1 r1 st1
    refine h2 O0 H0 O1 σ H1 m1.shrink _ fun b u H2 g2 r2 ⟨s2, st2, h3⟩ => ?_
    obtain ⟨O2, m2, w2⟩ := m1.push g2 r2 st2
    have q := m2.move k
    rw [List.set_append_left _ _ hk, List.set_append_left _ _ (by rw [m.len]; exact hk)] at q
    have q2 := q.move j
    refine ⟨v, u, rfl, ?_⟩
    rw [List.set_comm (some v) (some u) hjk]
    exact i.1 _ O2 _ H2 (w1.trans w2) q2 h3
theorem xs_par3 {j k l : Nat} {t1 t2 t3 : TE} {E : AEnds} (hjk : j ≠ k) (hjl : j ≠ l) (hkl : k ≠ l) (hk : k < δ.length) (hl : l < δ.length) (h : XE V t1 δ fun a => ∃ s1, Sto a s1 ∧ XE V t2 δ fun b => ∃ s2, Sto b s2 ∧ XE V t3 δ fun c => ∃ s3, Sto c s3 ∧ E.nx (((δ.set l s3).set k s2).set j s1)) :
    XS V (tPar3 j k l (tCons t1 (tCons t2 (tCons t3 tNil)))) δ E := fun O0 H0 O σ H Dn m i =>
  h O0 H0 O σ H m _ fun a v H1 g1 r1 ⟨s1, st1, h2⟩ => by
    obtain ⟨O1, m1, w1⟩ := m.push g1 r1 st1
    refine h2 O0 H0 O1 σ H1 m1.shrink _ fun b u H2 g2 r2 ⟨s2, st2, h3⟩ => ?_
    obtain ⟨O2, m2, w2⟩ := m1.push g2 r2 st2
    refine h3 O0 H0 O2 σ H2 m2.shrink.shrink _ fun c x H3 g3 r3 ⟨s3, st3, h4⟩ => ?_
    obtain ⟨O3, m3, w3⟩ := m2.push g3 r3 st3
    have q := m3.move l
    rw [List.set_append_left _ _ (by rw [List.length_append]; omega), List.set_append_left _ _ hl, List.set_append_left _ _ (by rw [List.length_append, m.len]; omega), List.set_append_left _ _ (by rw [m.len]; exact hl)] at q
    have q2 := q.move k
    rw [List.set_append_left _ _ (by rw [List.length_set]; exact hk), List.set_append_left _ _ (by rw [List.length_set, m.len]; exact hk)] at q2
    have q3 := q2.move j
    refine ⟨v, u, x, rfl, ?_⟩
    have e : ((σ.set j (some v)).set k (some u)).set l (some x) = ((σ.set l (some x)).set k (some u)).set j (some v) := by
      rw [List.set_comm (some v) (some u) hjk, List.set_comm (some v) (some x) hjl, List.set_comm (some u) (some x) hkl]
    rw [e]
    exact i.1 _ O3 _ H3 ((w1.trans w2).trans w3) q3 h4

/-! ### isinstance -/
def D.ty : D → String
  | .non => "NoneType"
  | .bl _ => "bool"
  | .int _ => "int"
  | .str _ => "str"
  | .tup _ => "tuple"
  | .lst _ => "list"
  | .raw _ => ""
theorem MtO.tyx (m : MtO V O0 H0 O δ σ H) {a : AV} {v : L2.V} (r : RepA V O H H1 a v) (n : ∀ w, a.d ≠ .raw w) : TyX K H1 v (.type a.d.ty) := by
  cases h : a.d with
  | raw w => exact absurd h (n w)
  | non => have e : v = .non := repV r h; subst e; exact .base .non
  | bl b => have e : v = .bl b := repV r h; subst e; exact .base (.bl b)
  | int b => have e : v = .int b := repV r h; subst e; exact .base (.int b)
  | str b => have e : v = .str b := repV r h; subst e; exact .base (.str b)
  | tup ds => obtain ⟨p, vs, e, hp, _⟩ := m.seqT r h; subst e; exact .base (.tup hp)
  | lst ds => obtain ⟨p, vs, e, hp, _⟩ := m.seqL r h; subst e; exact .base (.lst hp)
theorem xe_isi {T : String} {ta : TE} {P : AV → Prop} (h : XE V ta δ fun a => (∀ w, a.d ≠ .raw w) ∧ ∃ b, kitB a.d.ty T = some b ∧ P (.dat (.bl b))) : XE V (tCB (rIsi K) (tCons ta (tCons (tC (.ty T)) tNil))) δ P := fun O0 H0 O σ H m Q q =>
  h O0 H0 O σ H m _ fun a v H1 g1 r1 ⟨n, b, kb, p⟩ => ⟨v, .ty T, .type a.d.ty, .type T, b, rfl, .ty T, m.tyx r1 n, kit_ty kb, q (.dat (.bl b)) _ H1 g1 ra_bl p⟩
theorem xe_isi2 {T U : String} {ta : TE} {P : AV → Prop} (h : XE V ta δ fun a => (∀ w, a.d ≠ .raw w) ∧ ∃ b c, kitB a.d.ty T = some b ∧ kitB a.d.ty U = some c ∧ P (.dat (.bl (b || c)))) : XE V (tCB (rIsiT K) (tCons ta (tCons (tTup (tCons (tC (.ty T)) (tCons (tC (.ty U)) tNil))) tNil))) δ P := fun O0 H0 O σ H m Q q =>
  h O0 H0 O σ H m _ fun a v H1 g1 r1 ⟨n, b, c, kb, kc, p⟩ => ⟨by show 2 ≤ sizeLine; decide, fun t ht => by
    have g2 : Go V H1 (upd H1 t (.tup [.ty T, .ty U])) := .new g1.2 ht
    refine ⟨v, t, _, .type a.d.ty, [.type T, .type U], b || c, rfl, upd_same, .cons (.ty T) (.cons (.ty U) .nil), m.tyx (m.repA g1 g2 r1) n, ?_, q (.dat (.bl (b || c))) _ _ (g1.trans g2) ra_bl p⟩
    refine kitAny_cons (kit_ty kb) (fun e => ?_) (fun e => by rw [e]; rfl)
    refine kitAny_cons (kit_ty kc) (fun e2 => ?_) (fun e2 => by rw [e2, Bool.or_true])
    rw [e, e2]; exact kitAny_nil⟩
theorem xe_isB {ta tb : TE} {P : AV → Prop} (h : XE V ta δ fun a => XE V tb δ fun b => ∃ x y, a.d = .bl x ∧ b.d = .bl y ∧ P (.dat (.bl (decide (x = y))))) : XE V (tOp rIsB ta tb) δ P :=
  xe_op (h.imp fun a hb => hb.imp fun b ⟨x, y, ea, eb, p⟩ => fun O0 H0 O σ H H1 v u m g1 r1 r2 Q q => ⟨x, y, repV r1 ea, repV r2 eb, q (.dat (.bl _)) _ H1 (.refl g1.2) ra_bl p⟩)
theorem xe_notB {ta tb : TE} {P : AV → Prop} (h : XE V ta δ fun a => XE V tb δ fun b => ∃ x y, a.d = .bl x ∧ b.d = .bl y ∧ P (.dat (.bl (!decide (x = y))))) : XE V (tOp rNotB ta tb) δ P :=
  xe_op (h.imp fun a hb => hb.imp fun b ⟨x, y, ea, eb, p⟩ => fun O0 H0 O σ H H1 v u m g1 r1 r2 Q q => ⟨x, y, repV r1 ea, repV r2 eb, q (.dat (.bl _)) _ H1 (.refl g1.2) ra_bl p⟩)

/-! ### star arguments: the items as data -/
/-- arguments all of which are data -/
def XD (V : Vol) (ta : TA) (δ : List Slot) (P : List D → Prop) : Prop :=
  ∀ O0 H0 O σ H, MtO V O0 H0 O δ σ H → ∀ Q : List L2.V → Hp → Prop, (∀ ds vs H', Go V H H' → RpL O H' ds vs → P ds → Q vs H') → ta σ H Q
theorem xd_nil {P : List D → Prop} (h : P []) : XD V tNil δ P := fun O0 H0 O σ H m Q q => q [] [] H (.refl m.ti) RpL.nil h
theorem xd_cons {ta : TE} {tr : TA} {P : List D → Prop} (h : XE V ta δ fun a => a.ok ∧ XD V tr δ fun ds => P (a.d :: ds)) : XD V (tCons ta tr) δ P := fun O0 H0 O σ H m Q q =>
  h O0 H0 O σ H m _ fun a v H1 g1 r1 ⟨k, p1⟩ => p1 O0 H0 O σ H1 (m.mono g1) _ fun ds vs H2 g2 r2 p2 => q (a.d :: ds) (v :: vs) H2 (g1.trans g2) (RpL.cons ((m.mono g1).rp g2 (m.repD r1 k)) r2) p2
theorem xd_star {ta : TE} {tr : TA} {P : List D → Prop} (h : XE V ta δ fun a => ∃ xs, (a.d = .tup xs ∨ a.d = .lst xs) ∧ XD V tr δ fun ds => P (xs ++ ds)) : XD V (StX.tStar K ta tr) δ P := fun O0 H0 O σ H m Q q =>
  h O0 H0 O σ H m _ fun a v H1 g1 r1 ⟨xs, ea, p1⟩ => by
    rcases ea with ea | ea
    · obtain ⟨p, vs, ev, hp, r⟩ := m.seqT r1 ea
      exact ⟨p, vs, ev, .inl (SqT.of hp), p1 O0 H0 O σ H1 (m.mono g1) _ fun ds us H2 g2 r2 p2 => q (xs ++ ds) (vs ++ us) H2 (g1.trans g2) (((m.mono g1).rpl g2 r).append r2) p2⟩
    · obtain ⟨p, vs, ev, hp, r⟩ := m.seqL r1 ea
      exact ⟨p, vs, ev, .inr (SqL.of hp), p1 O0 H0 O σ H1 (m.mono g1) _ fun ds us H2 g2 r2 p2 => q (xs ++ ds) (vs ++ us) H2 (g1.trans g2) (((m.mono g1).rpl g2 r).append r2) p2⟩
theorem xe_tupD {ta : TA} {P : AV → Prop} (h : XD V ta δ fun ds => ds.length ≤ sizeLine ∧ P (.dat (.tup ds))) : XE V (tTup ta) δ P := fun O0 H0 O σ H m Q q =>
  h O0 H0 O σ H m _ fun ds vs H1 g1 r1 ⟨l, p⟩ => ⟨by rw [r1.len]; exact l, fun p' hn => q (.dat (.tup ds)) _ _ (g1.trans (.new g1.2 hn)) (ra_tup upd_same ((m.mono g1).rpl (.new g1.2 hn) r1)) p⟩
theorem xe_lstD {ta : TA} {P : AV → Prop} (h : XD V ta δ fun ds => ds.length ≤ sizeLine ∧ P (.new ds)) : XE V (tLst ta) δ P := fun O0 H0 O σ H m Q q =>
  h O0 H0 O σ H m _ fun ds vs H1 g1 r1 ⟨l, p⟩ => ⟨by rw [r1.len]; exact l, fun p' hn => q (.new ds) _ _ (g1.trans (.new g1.2 hn)) ⟨p', vs, rfl, g1.none m.ti hn, upd_same, (m.mono g1).rplNew (.new g1.2 hn) hn r1⟩ p⟩
theorem xe_revL {te : TE} {P : AV → Prop} (h : XE V te δ fun a => ∃ ds, a.d = .lst ds ∧ P (.new ds.reverse)) : XE V (tRevL K te) δ P := fun O0 H0 O σ H m Q q =>
  h O0 H0 O σ H m _ fun a v H1 g1 r1 ⟨ds, ea, p⟩ => by
    obtain ⟨p1, vs, ev, hp, r⟩ := m.seqL r1 ea
    exact ⟨p1, vs, ev, SqL.of hp, fun l hl => q (.new ds.reverse) _ _ (g1.trans (.new g1.2 hl)) ⟨l, _, rfl, g1.none m.ti hl, upd_same, (m.mono g1).rplNew (.new g1.2 hl) hl r.reverse⟩ p⟩
end

/-! ### a def that stands under its name -/
structure Has (P : Program) (w : World) (K : PySem.W.Frag) (mg : Str → Option Value) (base : Heap) (k : Nat) (x : Str) (ps : List Str) (sp : Sp) : Prop where
  ex : ∃ (f : Addr) (fd : FuncData), mg x = some (.ref f) ∧ PySem.W.keepIn K (.ref f) = true ∧ Binds K fd ps [] ∧ FnOk P w K mg base CX0 k f fd ps sp
theorem pe_callH {X : Cx} {k j : Nat} {x : Str} {ps : List Str} {sp : Sp} {e : Expr} {es : List Expr} {t : TA} {p pos : Pos} (F : Has X.prog X.w X.K X.mg X.base k x ps sp) (hr : Room j X.A) (hk : k ≤ j) (hg : Gl X x) (ha : PA X (e :: es) t)
    (hdb : (x == ("__debug__" : Str)) = false := by decide) (he : starEach (e :: es) X.env = (false, eval e X.env) :: starEach es X.env := by rfl) (hpl : (backTo pos (starEach es X.env)).any (·.1) = false := by rfl) :
    PE X (.Call (.Name x p) (e :: es) [] pos) (tCall sp [] E0 t) := by
  obtain ⟨f, fd, hm, kp, hb, F⟩ := F.ex
  exact pe_call F (hr.mono hk) hg hm kp hb .nil pass0 ha hdb he hpl
theorem Has.mono {P : Program} {w : World} {K : PySem.W.Frag} {mg : Str → Option Value} {base : Heap} {k j : Nat} {x : Str} {ps : List Str} {sp : Sp} (F : Has P w K mg base k x ps sp) (h : k ≤ j) : Has P w K mg base j x ps sp := by
  obtain ⟨f, fd, hm, kp, hb, F⟩ := F.ex
  exact ⟨f, fd, hm, kp, hb, F.mono h⟩
theorem Has.imp {P : Program} {w : World} {K : PySem.W.Frag} {mg : Str → Option Value} {base : Heap} {k : Nat} {x : Str} {ps : List Str} {sp sp' : Sp} (F : Has P w K mg base k x ps sp) (h : ∀ vs H Q E, sp' vs H Q E → sp vs H Q E) : Has P w K mg base k x ps sp' := by
  obtain ⟨f, fd, hm, kp, hb, F⟩ := F.ex
  exact ⟨f, fd, hm, kp, hb, F.imp h⟩
end MG
end
section
set_option linter.all false
set_option maxRecDepth 100000
set_option maxHeartbeats 4000000
/-! MgF: short forms; the parts of a document, their runs. -/
namespace MG
open PySem L2
section
variable {V : Vol} {δ : List Slot} {K : PySem.W.Frag}
theorem xe_vard {i : Nat} {d : D} {P : AV → Prop} (e : δ[i]? = some (.dat d)) (h : P (.dat d)) : XE V (tVar i) δ P := xe_var (by rw [e]; exact h)
theorem xe_varo {i : Nat} {ds : List D} {P : AV → Prop} (e : δ[i]? = some (.own ds)) (h : P (.brw ds)) : XE V (tVar i) δ P := xe_var (by rw [e]; exact h)
/-- a test of equality whose answer is known -/
theorem lay_int (i : Int) : (D.int i).lay := ⟨rfl, by show SeqAt.shaped (.int i) = true; unfold SeqAt.shaped; rfl⟩
theorem lay_bl (i : Bool) : (D.bl i).lay := ⟨rfl, by show SeqAt.shaped (.bool i) = true; unfold SeqAt.shaped; rfl⟩
theorem lay_non : D.non.lay := ⟨rfl, by show SeqAt.shaped .none = true; unfold SeqAt.shaped; rfl⟩
end

/-! ### parts -/
inductive Pt where
  | m (n : Int) | s (n : Int)
def Pt.d : Pt → D
  | .m n => .tup [.str "margin", .int n]
  | .s n => .tup [.str "solid", .int n]
def dInts (xs : List Int) : List D := xs.map .int
/-- runs that are closed, the open one, the solids -/
structure Rs where
  rows : List (List Int)
  run : List Int
  sol : List Int
def Rs.step (r : Rs) : Pt → Rs
  | .m n => { r with run := r.run ++ [n] }
  | .s n => ⟨r.rows ++ [r.run], [], r.sol ++ [n]⟩
def runsOf (ps : List Pt) : Rs := ps.foldl Rs.step ⟨[], [], []⟩
theorem take_fold {α β : Type} (f : β → α → β) (b : β) (xs : List α) {i : Nat} {x : α} (h : xs[i]? = some x) : (xs.take (i + 1)).foldl f b = f ((xs.take i).foldl f b) x := by
  rw [List.take_add_one, h]
  simp
theorem foldl_inv {α β : Type} {f : β → α → β} {b : β} {xs : List α} (P : β → Prop) (h0 : P b) (hs : ∀ b x, x ∈ xs → P b → P (f b x)) : P (xs.foldl f b) := by
  induction xs generalizing b with
  | nil => exact h0
  | cons x xs ih => exact ih (hs b x List.mem_cons_self h0) (fun b y hy => hs b y (List.mem_cons_of_mem _ hy))
theorem Rs.rows_len (ps : List Pt) : (runsOf ps).rows.length + (runsOf ps).run.length ≤ ps.length ∧ (runsOf ps).sol.length ≤ ps.length ∧ (runsOf ps).rows.length = (runsOf ps).sol.length := by
  have key : ∀ (r : Rs) (qs : List Pt), (qs.foldl Rs.step r).rows.length + (qs.foldl Rs.step r).run.length ≤ r.rows.length + r.run.length + qs.length ∧ (qs.foldl Rs.step r).sol.length ≤ r.sol.length + qs.length ∧ (r.rows.length = r.sol.length → (qs.foldl Rs.step r).rows.length = (qs.foldl Rs.step r).sol.length) := by
    intro r qs
    induction qs generalizing r with
    | nil => exact ⟨by simp, by simp, fun h => h⟩
    | cons q qs ih =>
      obtain ⟨h1, h2, h3⟩ := ih (r.step q)
      rw [List.foldl_cons, List.length_cons]
      cases q with
      | m n =>
        have e1 : (r.step (.m n)).rows.length = r.rows.length := rfl
        have e2 : (r.step (.m n)).run.length = r.run.length + 1 := by show (r.run ++ [n]).length = _; simp
        have e3 : (r.step (.m n)).sol.length = r.sol.length := rfl
        exact ⟨by omega, by omega, fun h => h3 (by omega)⟩
      | s n =>
        have e1 : (r.step (.s n)).rows.length = r.rows.length + 1 := by show (r.rows ++ [r.run]).length = _; simp
        have e2 : (r.step (.s n)).run.length = 0 := rfl
        have e3 : (r.step (.s n)).sol.length = r.sol.length + 1 := by show (r.sol ++ [n]).length = _; simp
        exact ⟨by omega, by omega, fun h => h3 (by omega)⟩
  obtain ⟨a, b, c⟩ := key ⟨[], [], []⟩ ps
  exact ⟨by simpa [runsOf] using a, by simpa [runsOf] using b, c rfl⟩
def tI (xs : List Int) : D := .tup (dInts xs)
/-- what split answers -/
def splitD (ps : List Pt) : D := .tup [.lst (((runsOf ps).rows ++ [(runsOf ps).run]).map tI), .lst (dInts (runsOf ps).sol)]
def spSplit : ASp := fun ds P => ∃ ps : List Pt, ds = [.lst (ps.map Pt.d)] ∧ ps.length ≤ 100000 ∧ P (.dat (splitD ps))
end MG
end
section
set_option linter.all false
set_option maxRecDepth 100000
set_option maxHeartbeats 4000000
/-! MR4: the judgements of the calm layer, said of the machine: PEz, PTz, PAz, PSz, PSsz; expressions. -/
namespace MR
open PySem L2 PySem.Spec

theorem cool_bare {s : Shared} (h : PyProof.Rows.AllBare s.gens) : coolS s = s := by
  have e : s.gens.map cool = s.gens := by
    apply Array.ext
    · simp
    · intro i h1 h2
      rw [Array.getElem_map]
      have := h s.gens[i] (Array.getElem_mem h2)
      revert this
      cases s.gens[i] with
      | suspended k l c p fs cl => intro q; cases cl <;> first | rfl | cases q
      | _ => intro _; rfl
  simp only [coolS, e]

structure ZI (ok : Nat → Prop) (X : Cx) (pins : List (Addr × Obj)) (σ : St) (H : Hp) (s : Shared) : Prop where
  inv : Inv X pins σ H (coolS s)
  hot : ∀ g, Hot s g → ok g
section
variable {ok : Nat → Prop} {X : Cx} {pins : List (Addr × Obj)} {σ : St} {H H' : Hp} {s s1 s' : Shared}
theorem ZI.back (I : ZI ok X pins σ H s) (e : coolS s' = coolS s1) (c : Cl s s') {pins' : List (Addr × Obj)} {σ' : St} {H' : Hp} (J : Inv X pins' σ' H' s1) : ZI ok X pins' σ' H' s' :=
  ⟨by rw [e, cool_bare J.bare]; exact J, fun g hg => I.hot g (c g hg)⟩
theorem coolS_heap (s : Shared) : (coolS s).heap = s.heap := rfl
theorem coolS_with (s : Shared) (h : Heap) (t : Nat) : coolS { s with heap := h, toks := t } = { coolS s with heap := h, toks := t } := rfl

def EZ (ok : Nat → Prop) (X : Cx) (pins : List (Addr × Obj)) (σ : St) (Q : VK) (u : Value) (s' : Shared) : Prop := ∃ v H', ZI ok X pins σ H' s' ∧ RelV v u ∧ Q v H'
def TZ (ok : Nat → Prop) (X : Cx) (pins : List (Addr × Obj)) (σ : St) (Q : Bool → Hp → Prop) (b : Bool) (s' : Shared) : Prop := ∃ H', ZI ok X pins σ H' s' ∧ Q b H'
def AZ (ok : Nat → Prop) (X : Cx) (pins : List (Addr × Obj)) (σ : St) (Q : List V → Hp → Prop) (us : List Value) (s' : Shared) : Prop := ∃ vs H', ZI ok X pins σ H' s' ∧ Vals vs us ∧ Q vs H'
def SZ (ok : Nat → Prop) (X : Cx) (pins : List (Addr × Obj)) (D : Ends) (f : Flow) (s' : Shared) : Prop :=
  match f with
  | .next => ∃ σ' H', ZI ok X pins σ' H' s' ∧ D.nx σ' H'
  | .brk => ∃ σ' H', ZI ok X pins σ' H' s' ∧ D.bk σ' H'
  | .cont => ∃ σ' H', ZI ok X pins σ' H' s' ∧ D.ct σ' H'
  | .ret u => ∃ v σ' H', ZI ok X pins σ' H' s' ∧ RelV v u ∧ D.rt v H'

abbrev anyX (X : Cx) {α : Type} (t : Sem α) (Q : α → Shared → Prop) (s : Shared) : Prop := anyL (model X.prog X.w) X.A t Q s
def NoX (X : Cx) : Prop := ∀ x s, ¬ X.xe x s
/-- the calm word, said of the machine -/
theorem lift1 {α : Type} (nx : NoX X) (I : ZI ok X pins σ H s) {sc : Shared} {t : Sem α} {Q : α → Shared → Prop} (e : coolS s' = coolS sc) (c : Cl s s') (h : wpAny (model X.prog X.w) X.A t Q X.xe sc) :
    anyX X t (fun x s'' => ∃ s1, coolS s'' = coolS s1 ∧ Cl s s'' ∧ Q x s1) s' := aL_calm h (fun x q => nx x q) e c
theorem liftE (nx : NoX X) (I : ZI ok X pins σ H s) {t : Sem Value} {Q : VK} (h : wpAny (model X.prog X.w) X.A t (EP X pins σ Q) X.xe (coolS s)) : anyX X t (EZ ok X pins σ Q) s :=
  aL_imp (lift1 nx I (coolS_coolS s).symm (Cl.refl s) h) fun u s' ⟨s1, e, c, v, H', J, r, q⟩ => ⟨v, H', I.back e c J, r, q⟩
theorem liftT (nx : NoX X) (I : ZI ok X pins σ H s) {t : Sem Bool} {Q : Bool → Hp → Prop} (h : wpAny (model X.prog X.w) X.A t (TP X pins σ Q) X.xe (coolS s)) : anyX X t (TZ ok X pins σ Q) s :=
  aL_imp (lift1 nx I (coolS_coolS s).symm (Cl.refl s) h) fun u s' ⟨s1, e, c, H', J, q⟩ => ⟨H', I.back e c J, q⟩
theorem liftA (nx : NoX X) (I : ZI ok X pins σ H s) {t : Sem (List Value)} {Q : List V → Hp → Prop} (h : wpAny (model X.prog X.w) X.A t (AP X pins σ Q) X.xe (coolS s)) : anyX X t (AZ ok X pins σ Q) s :=
  aL_imp (lift1 nx I (coolS_coolS s).symm (Cl.refl s) h) fun u s' ⟨s1, e, c, vs, H', J, r, q⟩ => ⟨vs, H', I.back e c J, r, q⟩
theorem liftS (nx : NoX X) (I : ZI ok X pins σ H s) {t : Sem Flow} {D : Ends} (h : wpAny (model X.prog X.w) X.A t (SP X pins D) X.xe (coolS s)) : anyX X t (SZ ok X pins D) s :=
  aL_imp (lift1 nx I (coolS_coolS s).symm (Cl.refl s) h) fun f s' ⟨s1, e, c, q⟩ => by
    cases f with
    | next => obtain ⟨σ', H', J, q⟩ := q; exact ⟨σ', H', I.back e c J, q⟩
    | brk => obtain ⟨σ', H', J, q⟩ := q; exact ⟨σ', H', I.back e c J, q⟩
    | cont => obtain ⟨σ', H', J, q⟩ := q; exact ⟨σ', H', I.back e c J, q⟩
    | ret u => obtain ⟨v, σ', H', J, r, q⟩ := q; exact ⟨v, σ', H', I.back e c J, r, q⟩
end

structure PEz (X : Cx) (e : Expr) (t : TE) : Prop where
  run : ∀ (ok : Nat → Prop) (pins : List (Addr × Obj)) (s : Shared) (σ : St) (H : Hp) (Q : VK), ZI ok X pins σ H s → t σ H Q → anyX X (eval e X.env) (EZ ok X pins σ Q) s
structure PTz (X : Cx) (e : Expr) (t : TT) : Prop where
  run : ∀ (ok : Nat → Prop) (pins : List (Addr × Obj)) (s : Shared) (σ : St) (H : Hp) (Q : Bool → Hp → Prop), ZI ok X pins σ H s → t σ H Q → anyX X (isTrue e X.env (eval e X.env)) (TZ ok X pins σ Q) s
structure PWz (X : Cx) (e : Expr) (t : TT) : Prop where
  run : ∀ (whole : Sem Value) (ok : Nat → Prop) (pins : List (Addr × Obj)) (s : Shared) (σ : St) (H : Hp) (Q : Bool → Hp → Prop), ZI ok X pins σ H s → t σ H Q → anyX X (isTrue e X.env whole) (TZ ok X pins σ Q) s
structure PAz (X : Cx) (es : List Expr) (t : TA) : Prop where
  run : ∀ (pos : Pos) (ok : Nat → Prop) (pins : List (Addr × Obj)) (s : Shared) (σ : St) (H : Hp) (Q : List V → Hp → Prop), ZI ok X pins σ H s → t σ H Q → anyX X (spliced (backTo pos (starEach es X.env))) (AZ ok X pins σ Q) s
structure PSz (X : Cx) (st : Stmt) (t : TS) : Prop where
  run : ∀ (ok : Nat → Prop) (pins : List (Addr × Obj)) (s : Shared) (σ : St) (H : Hp) (D : Ends), ZI ok X pins σ H s → t D σ H → anyX X (exec st X.env) (SZ ok X pins D) s
structure PSsz (X : Cx) (sts : List Stmt) (t : TS) : Prop where
  run : ∀ (ok : Nat → Prop) (pins : List (Addr × Obj)) (s : Shared) (σ : St) (H : Hp) (D : Ends), ZI ok X pins σ H s → t D σ H → anyX X (execs sts X.env) (SZ ok X pins D) s

section
variable {X : Cx} {a b e : Expr} {es rest : List Expr} {pos p : Pos} {ta tb te : TE} {tA tB' tc : TT} {t : TA} {x : Str}
theorem PWz.pt {c : Expr} (h : PWz X c tc) : PTz X c tc := ⟨h.run _⟩
theorem ez (nx : NoX X) (h : PE X e te) : PEz X e te := ⟨fun ok pins s σ H Q I q => liftE nx I (h.run pins _ σ H Q I.inv q)⟩
theorem tz (nx : NoX X) (h : PT X e tc) : PTz X e tc := ⟨fun ok pins s σ H Q I q => liftT nx I (h.run pins _ σ H Q I.inv q)⟩
theorem az (nx : NoX X) (h : PA X es t) : PAz X es t := ⟨fun pos ok pins s σ H Q I q => liftA nx I (h.run pos pins _ σ H Q I.inv q)⟩
theorem sz {st : Stmt} {ts : TS} (nx : NoX X) (h : PS X st ts) : PSz X st ts := ⟨fun ok pins s σ H D I q => liftS nx I (h.run pins _ σ H D I.inv q)⟩
theorem ssz {st : List Stmt} {ts : TS} (nx : NoX X) (h : PSs X st ts) : PSsz X st ts := ⟨fun ok pins s σ H D I q => liftS nx I (h.run pins _ σ H D I.inv q)⟩

theorem aL_relGo {M : Model} {A : Around} {s : Shared} {Q : Unit → Shared → Prop} (k : List Value) (h : Q () s) : ∀ l : List Value, anyL M A (release.go k l) Q s
  | [] => aL_pure h
  | [_] => aL_pure h
  | _ :: y :: l => by
    simp only [release.go]
    exact aL_bind (aL_hold (aL_point (aL_relGo k h (y :: l))))
theorem aL_operate {M : Model} {A : Around} {vs : List Value} {m : Sem Value} {s : Shared} {Q : Value → Shared → Prop} (h : anyL M A m Q s) : anyL M A (operate vs m) Q s := by
  unfold operate
  refine aL_bind (aL_hold (aL_imp h fun v s1 q => ?_))
  refine aL_bind ?_
  unfold release
  exact aL_relGo _ (aL_pure q) _
theorem z_op {op : Operator} {r : R2} (nx : NoX X) (ho : OpR X (binaryOp op) r) (ha : PEz X a ta) (hb : PEz X b tb) : PEz X (.BinOp a op b pos) (tOp r ta tb) := ⟨fun ok pins s σ H Q I q => by
  rw [eval_BinOp]
  refine aL_bind (aL_imp (ha.run ok pins s σ H _ I q) fun v s1 ⟨x, H1, I1, r1, q1⟩ => ?_)
  refine aL_bind (aL_hold (aL_imp (hb.run ok pins s1 σ H1 _ I1 q1) fun u s2 ⟨y, H2, I2, r2, q2⟩ => ?_))
  exact aL_bind (aL_stand (aL_operate (liftE nx I2 (ho pins _ σ H2 x y v u Q I2.inv r1 r2 q2))))⟩
theorem z_cmp {op : CmpOp} {r : R2} (nx : NoX X) (ho : OpR X (compareOp op) r) (ha : PEz X a ta) (hb : PEz X b tb) (hm : behindInMarks op b = false) : PEz X (.Compare a [op] [b] pos) (tOp r ta tb) := ⟨fun ok pins s σ H Q I q => by
  rw [eval_Compare1, markedBehindIn_of_false hm]
  refine aL_bind (aL_imp (ha.run ok pins s σ H _ I q) fun v s1 ⟨x, H1, I1, r1, q1⟩ => ?_)
  refine aL_bind (aL_hold (aL_imp (hb.run ok pins s1 σ H1 _ I1 q1) fun u s2 ⟨y, H2, I2, r2, q2⟩ => ?_))
  exact aL_bind (aL_stand (aL_operate (liftE nx I2 (ho pins _ σ H2 x y v u Q I2.inv r1 r2 q2))))⟩
theorem aL_truth {M : Model} {A : Around} {b : Bool} {s : Shared} {Q : Bool → Shared → Prop} (h : Q b s) : anyL M A (truthy (.bool b)) Q s := fun _ _ _ => h
theorem z_cmpT {op : CmpOp} {r : R2} (nx : NoX X) (ho : OpR X (compareOp op) r) (ha : PEz X a ta) (hb : PEz X b tb) (hm : behindInMarks op b = false) : PTz X (.Compare a [op] [b] pos) (tTest (tOp r ta tb)) := ⟨fun ok pins s σ H Q I q => by
  rw [isTrue_Compare1, markedBehindIn_of_false hm]
  refine aL_bind (aL_imp (ha.run ok pins s σ H _ I q) fun v s1 ⟨x, H1, I1, r1, q1⟩ => ?_)
  refine aL_bind (aL_hold (aL_imp (hb.run ok pins s1 σ H1 _ I1 q1) fun u s2 ⟨y, H2, I2, r2, q2⟩ => ?_))
  refine aL_bind (aL_stand (aL_bind (aL_operate (aL_imp (liftE nx I2 (ho pins _ σ H2 x y v u _ I2.inv r1 r2 q2)) fun c s3 ⟨z, H3, I3, r3, k, e3, q3⟩ => ?_))))
  subst e3
  cases r3
  exact aL_hold (aL_truth ⟨H3, I3, q3⟩)⟩
theorem z_val (h : PEz X e te) (he : ∀ whole, isTrue e X.env whole = (do let v ← whole; standAt e.pos; holding [v] (truthy v)) := by intro _; rfl) : PTz X e (tB te) := ⟨fun ok pins s σ H Q I q => by
  rw [he]
  refine aL_bind (aL_imp (h.run ok pins s σ H _ I q) fun v s1 ⟨x, H1, I1, r1, c, ec, q1⟩ => ?_)
  subst ec
  cases r1
  exact aL_bind (aL_stand (aL_hold (aL_truth ⟨H1, I1, q1⟩)))⟩
theorem wz_and1 (ha : PTz X a tA) : PWz X (.BoolOp .And [a] pos) tA := ⟨fun wh ok pins s σ H Q I q => by
  show anyX X (do
    match BoolOp.And, ← isTrue a X.env (eval a X.env) with
    | .And, false => pure false
    | .Or, true => pure true
    | _, _ => allTrue .And [] X.env) _ s
  refine aL_bind (aL_imp (ha.run ok pins s σ H Q I q) fun c s1 q1 => ?_)
  cases c <;> exact aL_pure q1⟩
theorem wz_or1 (ha : PTz X a tA) : PWz X (.BoolOp .Or [a] pos) tA := ⟨fun wh ok pins s σ H Q I q => by
  show anyX X (do
    match BoolOp.Or, ← isTrue a X.env (eval a X.env) with
    | .And, false => pure false
    | .Or, true => pure true
    | _, _ => allTrue .Or [] X.env) _ s
  refine aL_bind (aL_imp (ha.run ok pins s σ H Q I q) fun c s1 q1 => ?_)
  cases c <;> exact aL_pure q1⟩
theorem wz_and (ha : PTz X a tA) (hb : PWz X (.BoolOp .And (b :: rest) pos) tB') : PWz X (.BoolOp .And (a :: b :: rest) pos) (tAnd tA tB') := ⟨fun wh ok pins s σ H Q I q => by
  show anyX X (do
    match BoolOp.And, ← isTrue a X.env (eval a X.env) with
    | .And, false => pure false
    | .Or, true => pure true
    | _, _ => allTrue .And (b :: rest) X.env) _ s
  refine aL_bind (aL_imp (ha.run ok pins s σ H _ I q) fun c s1 ⟨H1, I1, q1⟩ => ?_)
  cases c with
  | true => exact hb.run wh ok pins s1 σ H1 Q I1 q1
  | false => exact aL_pure ⟨H1, I1, q1⟩⟩
theorem wz_or (ha : PTz X a tA) (hb : PWz X (.BoolOp .Or (b :: rest) pos) tB') : PWz X (.BoolOp .Or (a :: b :: rest) pos) (tOr tA tB') := ⟨fun wh ok pins s σ H Q I q => by
  show anyX X (do
    match BoolOp.Or, ← isTrue a X.env (eval a X.env) with
    | .And, false => pure false
    | .Or, true => pure true
    | _, _ => allTrue .Or (b :: rest) X.env) _ s
  refine aL_bind (aL_imp (ha.run ok pins s σ H _ I q) fun c s1 ⟨H1, I1, q1⟩ => ?_)
  cases c with
  | true => exact aL_pure ⟨H1, I1, q1⟩
  | false => exact hb.run wh ok pins s1 σ H1 Q I1 q1⟩
theorem z_notT (ha : PTz X a tA) : PTz X (.UnaryOp .Not a pos) (tNot tA) := ⟨fun ok pins s σ H Q I q => by
  show anyX X (do return !(← isTrue a X.env (eval a X.env))) _ s
  exact aL_bind (aL_imp (ha.run ok pins s σ H (fun c H1 => Q (!c) H1) I q) fun c s1 q1 => aL_pure q1)⟩
theorem z_one {op : BoolOp} (h : PEz X a ta) : PEz X (.BoolOp op [a] pos) ta := ⟨fun ok pins s σ H Q I q => h.run ok pins s σ H Q I q⟩
theorem z_and (ha : PEz X a ta) (hb : PEz X (.BoolOp .And (b :: rest) pos) tb) : PEz X (.BoolOp .And (a :: b :: rest) pos) (tAndV ta tb) := ⟨fun ok pins s σ H Q I q => by
  show anyX X (do
    let v ← eval a X.env
    standAt pos
    let c ← holding [v] (truthy v)
    match BoolOp.And, c with
    | .And, false | .Or, true => pure v
    | _, _ => boolOp pos .And (eval b X.env :: evalEach rest X.env)) _ s
  refine aL_bind (aL_imp (ha.run ok pins s σ H _ I q) fun v s1 ⟨x, H1, I1, r1, c, ec, q1⟩ => ?_)
  subst ec
  cases r1
  refine aL_bind (aL_stand (aL_bind (aL_hold (aL_truth ?_))))
  cases c with
  | true => exact hb.run ok pins s1 σ H1 Q I1 q1
  | false => exact aL_pure ⟨.bl false, H1, I1, rfl, q1⟩⟩
theorem z_or (ha : PEz X a ta) (hb : PEz X (.BoolOp .Or (b :: rest) pos) tb) : PEz X (.BoolOp .Or (a :: b :: rest) pos) (tOrV ta tb) := ⟨fun ok pins s σ H Q I q => by
  show anyX X (do
    let v ← eval a X.env
    standAt pos
    let c ← holding [v] (truthy v)
    match BoolOp.Or, c with
    | .And, false | .Or, true => pure v
    | _, _ => boolOp pos .Or (eval b X.env :: evalEach rest X.env)) _ s
  refine aL_bind (aL_imp (ha.run ok pins s σ H _ I q) fun v s1 ⟨x, H1, I1, r1, c, ec, q1⟩ => ?_)
  subst ec
  cases r1
  refine aL_bind (aL_stand (aL_bind (aL_hold (aL_truth ?_))))
  cases c with
  | false => exact hb.run ok pins s1 σ H1 Q I1 q1
  | true => exact aL_pure ⟨.bl true, H1, I1, rfl, q1⟩⟩
theorem z_ifExp {c : Expr} (hc : PTz X c tA) (ha : PEz X a ta) (hb : PEz X b tb) : PEz X (.IfExp c a b pos) (tIf tA ta tb) := ⟨fun ok pins s σ H Q I q => by
  rw [PyProof.Rows.eval_IfExp]
  refine aL_bind (aL_imp (hc.run ok pins s σ H _ I q) fun d s1 ⟨H1, I1, q1⟩ => ?_)
  cases d with
  | true => exact ha.run ok pins s1 σ H1 Q I1 q1
  | false => exact hb.run ok pins s1 σ H1 Q I1 q1⟩
theorem z_nil : PAz X [] tNil := ⟨fun _ _ _ _ _ H Q I q => aL_pure ⟨[], H, I, .nil, q⟩⟩
theorem z_cons (ha : PEz X e te) (hr : PAz X es t) (hs : starEach (e :: es) X.env = (false, eval e X.env) :: starEach es X.env := by rfl) : PAz X (e :: es) (tCons te t) := ⟨fun pos ok pins s σ H Q I q => by
  rw [hs]
  show anyX X (do
    let v ← eval e X.env
    let here ← (pure [v] : Sem (List Value))
    return here ++ (← holding here (spliced (backTo pos (starEach es X.env))))) _ s
  refine aL_bind (aL_imp (ha.run ok pins s σ H _ I q) fun u s1 ⟨x, H1, I1, r1, q1⟩ => ?_)
  refine aL_bind (aL_pure (aL_bind (aL_hold (aL_imp (hr.run pos ok pins s1 σ H1 _ I1 q1) fun us s2 ⟨xs, H2, I2, r2, q2⟩ => ?_))))
  exact aL_pure ⟨x :: xs, H2, I2, .cons r1 r2, q2⟩⟩
end
end MR
end
section
set_option linter.all false
set_option maxRecDepth 100000
set_option maxHeartbeats 4000000
/-! MR5: calls, displays, subscripts, plain statements on the machine. -/
namespace MR
open PySem L2 PySem.Spec MG

section
variable {M : Model} {A : Around} {s : Shared} {pos : Pos} {f : Value} {first : List Value}
theorem aL_keep {α : Type} {vs : List Value} {m : Sem α} {Q : α → Shared → Prop} (h : anyL M A m Q s) : anyL M A (m.keep vs) Q s := fun Γ p hΓ => by rw [wpL_keep]; exact h Γ p hΓ
theorem aL_evalArgs {x : Sem Value} {more : List (Bool × Sem Value)} {Q : Args → Shared → Prop} (h : anyL M A (spliced ((false, x) :: more)) (fun vs s' => Q ⟨vs, []⟩ s') s) :
    anyL M A (evalArgs f true ((false, x) :: more) []) Q s := by
  unfold evalArgs
  show anyL M A (spliced ((false, x) :: more) >>= _) Q s
  refine aL_bind (aL_imp h fun vs s1 q => aL_hold ?_)
  exact aL_bind (aL_pure (aL_bind (aL_pure (aL_pure q))))
/-- a call with plain written arguments: of a function that lies in the heap, of a builtin, of a type -/
theorem aL_callWith {args : List (Bool × Sem Value)} {k : Keeper} {Q : Value → Shared → Prop} (hp : args.any (·.1) = false) (hk : k = .frame ∨ k = .machine)
    (h : anyL M A (evalArgs f true args []) (fun a s1 => (∀ R : Keeper → Shared → Prop, R k s1 → anyL M A (keeperOf f) R s1) ∧ anyL M A (call f (first ++ a.pos) a.kw) Q s1) s) :
    anyL M A (callWith pos f first args []) Q s := by
  unfold callWith
  refine aL_bind (aL_hold (aL_imp h fun a s1 ⟨k1, h1⟩ => aL_bind (aL_stand ?_)))
  have st : (args.any (·.1) || ([] : List (Option Str × Sem Value)).any (·.1.isNone)) = false := by rw [hp]; rfl
  simp only [st]
  refine aL_bind (k1 _ ?_)
  have tail : ∀ {t : Sem Value}, anyL M A t Q s1 → anyL M A (t >>= fun r => holding [r] point >>= fun _ => pure r) Q s1 :=
    fun ht => aL_bind (aL_imp ht fun r s2 hr => aL_bind (aL_hold (aL_point (aL_pure hr))))
  rcases hk with rfl | rfl
  · dsimp only
    split
    · exact tail h1
    · exact tail (by unfold callMarked; exact aL_keep h1)
  · exact tail h1
end

section
variable {X : Cx} {a b e : Expr} {es rest : List Expr} {pos p : Pos} {ta tb te : TE} {tc : TT} {t : TA} {x : Str}
/-- a name of the module, of the builtins -/
theorem z_glob {ok : Nat → Prop} {pins : List (Addr × Obj)} {s : Shared} {σ : St} {H : Hp} {u : Value} {Q : Value → Shared → Prop} (nx : NoX X) (I : ZI ok X pins σ H s) (hg : Gl X x) (hm : X.mg x = some u) (h : ∀ s', ZI ok X pins σ H s' → Q u s')
    (hd : (x == ("__debug__" : Str)) = false := by decide) : anyX X (eval (.Name x p) X.env) Q s :=
  aL_imp (lift1 nx I (coolS_coolS s).symm (Cl.refl s) (ld_glob (Q := fun v s1 => v = u ∧ s1 = coolS s) I.inv hg hm ⟨rfl, rfl⟩ hd)) fun v s' ⟨s1, e, c, ev, es⟩ => by
    subst ev es
    exact h s' (I.back e c I.inv)
theorem z_blt {ok : Nat → Prop} {pins : List (Addr × Obj)} {s : Shared} {σ : St} {H : Hp} {u : Value} {Q : Value → Shared → Prop} (nx : NoX X) (I : ZI ok X pins σ H s) (hg : Gl X x) (hm : X.mg x = none) (hv : bootBuiltins x = some u) (h : ∀ s', ZI ok X pins σ H s' → Q u s')
    (hn : x ≠ "__name__" := by decide) (hd : (x == ("__debug__" : Str)) = false := by decide) : anyX X (eval (.Name x p) X.env) Q s :=
  aL_imp (lift1 nx I (coolS_coolS s).symm (Cl.refl s) (ld_blt (Q := fun v s1 => v = u ∧ s1 = coolS s) I.inv hg hm hv ⟨rfl, rfl⟩ hn hd)) fun v s' ⟨s1, e, c, ev, es⟩ => by
    subst ev es
    exact h s' (I.back e c I.inv)

/-- a call's end, on the machine -/
def CZ (ok : Nat → Prop) (outer : List Env) (P : Program) (w : World) (H : Hp) (s : Shared) (Q : VK) (f : Flow) (s' : Shared) : Prop :=
  ∃ u, f = .ret u ∧ CE outer P w H (coolS s) Q u (coolS s') ∧ ∀ g, Hot s' g → ok g
structure FnZ (P : Program) (w : World) (K : PySem.W.Frag) (mg : Str → Option Value) (base : Heap) (k : Nat) (f : Addr) (fd : FuncData) (ps : List Str) (sp : Sp) : Prop where
  len : ∀ vs H Q E, sp vs H Q E → vs.length = ps.length
  run : ∀ (ok : Nat → Prop) (A : Around) (outer : List Env) (s : Shared) (H : Hp) (args : Args) (us : List Value) (vs : List V) (Q : VK), Room k A → Env0 P w K mg base A outer (coolS s) H → (∀ g, Hot s g → ok g) → BindsTo (coolS s) fd args (ps.zip us) → Vals vs us → sp vs H Q E0 →
    flowL (model P w) A (.call (.ref f) args) (CZ ok outer P w H s Q) s
theorem FnZ.of {P : Program} {w : World} {K : PySem.W.Frag} {mg : Str → Option Value} {base : Heap} {k : Nat} {f : Addr} {fd : FuncData} {ps : List Str} {sp : Sp} (F : FnOk P w K mg base CX0 k f fd ps sp) : FnZ P w K mg base k f fd ps sp where
  len := F.len
  run := fun ok A outer s H args us vs Q hr e0 hot hb r h Γ p hc hΓ =>
    RetL.imp (fL_calm (s0 := s) (F.run A outer (coolS s) H args us vs Q E0 hr e0 hb r h) (coolS_coolS s).symm (Cl.refl s) Γ p hc hΓ) fun res s' ⟨s1, e, c, q⟩ => by
      cases res with
      | error x => exact (show False from q).elim
      | ok fl =>
        cases fl with
        | ret u =>
          refine ⟨.ret u, rfl, u, rfl, ?_, fun g hg => hot g (c g hg)⟩
          have q : CE outer P w H (coolS s) Q u s1 := q
          have hb : PyProof.Rows.AllBare s1.gens := by obtain ⟨_, _, _, b, _⟩ := q; exact b
          rw [e, cool_bare hb]
          exact q
        | next => exact q.elim
        | brk => exact q.elim
        | cont => exact q.elim
theorem FnZ.mono {P : Program} {w : World} {K : PySem.W.Frag} {mg : Str → Option Value} {base : Heap} {j k : Nat} {f : Addr} {fd : FuncData} {ps : List Str} {sp : Sp} (F : FnZ P w K mg base j f fd ps sp) (h : j ≤ k) : FnZ P w K mg base k f fd ps sp :=
  ⟨F.len, fun ok A outer s H args us vs Q hr => F.run ok A outer s H args us vs Q (hr.mono h)⟩
structure HasZ (P : Program) (w : World) (K : PySem.W.Frag) (mg : Str → Option Value) (base : Heap) (k : Nat) (x : Str) (ps : List Str) (sp : Sp) : Prop where
  ex : ∃ (f : Addr) (fd : FuncData) (oc : Value) (od : Option Addr) (osl : Array (Option Value)), mg x = some (.ref f) ∧ K.lookup f = some ⟨oc, od, .func fd, osl⟩ ∧ Binds K fd ps [] ∧ FnZ P w K mg base k f fd ps sp
theorem HasZ.mono {P : Program} {w : World} {K : PySem.W.Frag} {mg : Str → Option Value} {base : Heap} {k j : Nat} {x : Str} {ps : List Str} {sp : Sp} (F : HasZ P w K mg base k x ps sp) (h : k ≤ j) : HasZ P w K mg base j x ps sp := by
  obtain ⟨f, fd, oc, od, osl, hm, lk, hb, F⟩ := F.ex
  exact ⟨f, fd, oc, od, osl, hm, lk, hb, F.mono h⟩
/-- a def's call by values -/
theorem z_run {ok : Nat → Prop} {pins : List (Addr × Obj)} {s : Shared} {σ : St} {H : Hp} {Q : VK} {us : List Value} {vs : List V} {k j : Nat} {f : Addr} {fd : FuncData} {ps : List Str} {sp : Sp} (F : FnZ X.prog X.w X.K X.mg X.base k f fd ps sp) (hr : Room k X.A) (hb : Binds X.K fd ps [])
    (I : ZI ok X pins σ H s) (r : Vals vs us) (h : sp vs H Q E0) : anyX X (call (.ref f) us) (EZ ok X pins σ Q) s := by
  have hl : us.length = ps.length := by rw [← r.length]; exact F.len _ _ _ _ h
  have hb2 := hb (coolS s) us I.inv.kIn (by rw [List.append_nil]; exact hl)
  rw [List.append_nil] at hb2
  refine aL_call (flowL_imp (F.run ok X.A X.stack s H ⟨us, []⟩ us vs Q hr I.inv.env0 I.hot hb2 r h) fun fl s' ⟨u, e, q, hot⟩ => ⟨u, e, ?_⟩)
  obtain ⟨v, H', J, rv, q⟩ := I.inv.after q
  exact ⟨v, H', ⟨J, hot⟩, rv, q⟩
theorem keeper_fn {M : Model} {A : Around} {s : Shared} {f : Addr} {o : Obj} {fd : FuncData} (ho : s.heap.get? f = some o) (hd : o.data = .func fd) : ∀ R : Keeper → Shared → Prop, R .frame s → anyL M A (keeperOf (.ref f)) R s := fun R h => by
  unfold keeperOf
  refine aL_bind (aL_load ho ?_)
  rw [hd]
  exact aL_pure h
theorem z_call {k j : Nat} {ps : List Str} {sp : Sp} (nx : NoX X) (F : HasZ X.prog X.w X.K X.mg X.base k x ps sp) (hr : Room j X.A) (hk : k ≤ j) (hg : Gl X x) (ha : PAz X (e :: es) t)
    (hdb : (x == ("__debug__" : Str)) = false := by decide) (he : starEach (e :: es) X.env = (false, eval e X.env) :: starEach es X.env := by rfl) (hpl : (backTo pos (starEach es X.env)).any (·.1) = false := by rfl) :
    PEz X (.Call (.Name x p) (e :: es) [] pos) (tCall sp [] E0 t) := ⟨fun ok pins s σ H Q I h => by
  obtain ⟨f, fd, oc, od, osl, hm, lk, hb, F⟩ := F.ex
  rw [arm_eval_Call_Name']
  refine aL_bind (z_glob nx I hg hm (fun s1 I1 => ?_) hdb)
  have h1 := ha.run pos ok pins s1 σ H _ I1 h
  rw [he] at h1 ⊢
  refine aL_callWith (k := .frame) (by show (false || (backTo pos (starEach es X.env)).any (·.1)) = false; rw [hpl]; rfl) (.inl rfl) (aL_evalArgs (aL_imp h1 fun us s2 ⟨vs, H2, I2, r, q⟩ => ⟨?_, ?_⟩))
  · exact keeper_fn (I2.inv.kIn _ _ lk) rfl
  · have q : sp (vs ++ []) H2 Q E0 := q
    rw [List.append_nil] at q
    exact z_run (j := 0) F (hr.mono hk) hb I2 r q⟩
theorem z_callB {id : String} {r : List V → Hp → VK → Prop} (nx : NoX X) (hc : CallR X (.builtin id) r) (hg : Gl X x) (hm : X.mg x = none) (hv : bootBuiltins x = some (.builtin id)) (ha : PAz X (e :: es) t) (hn : x ≠ "__name__" := by decide) (hdb : (x == ("__debug__" : Str)) = false := by decide)
    (he : starEach (e :: es) X.env = (false, eval e X.env) :: starEach es X.env := by rfl) (hpl : (backTo pos (starEach es X.env)).any (·.1) = false := by rfl) : PEz X (.Call (.Name x p) (e :: es) [] pos) (tCB r t) := ⟨fun ok pins s σ H Q I h => by
  rw [arm_eval_Call_Name']
  refine aL_bind (z_blt nx I hg hm hv (fun s1 I1 => ?_) hn hdb)
  have h1 := ha.run pos ok pins s1 σ H _ I1 h
  rw [he] at h1 ⊢
  refine aL_callWith (k := .machine) (by show (false || (backTo pos (starEach es X.env)).any (·.1)) = false; rw [hpl]; rfl) (.inr rfl) (aL_evalArgs (aL_imp h1 fun us s2 ⟨vs, H2, I2, r, q⟩ => ⟨?_, ?_⟩))
  · exact fun R h => aL_pure h
  · exact liftE nx I2 (hc pins _ σ H2 vs us Q I2.inv r q)⟩
theorem z_callTy {T : String} {r : List V → Hp → VK → Prop} (nx : NoX X) (hc : CallR X (.type T) r) (hg : Gl X x) (hm : X.mg x = none) (hv : bootBuiltins x = some (.type T)) (ha : PAz X (e :: es) t) (hn : x ≠ "__name__" := by decide) (hdb : (x == ("__debug__" : Str)) = false := by decide)
    (he : starEach (e :: es) X.env = (false, eval e X.env) :: starEach es X.env := by rfl) (hpl : (backTo pos (starEach es X.env)).any (·.1) = false := by rfl) : PEz X (.Call (.Name x p) (e :: es) [] pos) (tCB r t) := ⟨fun ok pins s σ H Q I h => by
  rw [arm_eval_Call_Name']
  refine aL_bind (z_blt nx I hg hm hv (fun s1 I1 => ?_) hn hdb)
  have h1 := ha.run pos ok pins s1 σ H _ I1 h
  rw [he] at h1 ⊢
  refine aL_callWith (k := .machine) (by show (false || (backTo pos (starEach es X.env)).any (·.1)) = false; rw [hpl]; rfl) (.inr rfl) (aL_evalArgs (aL_imp h1 fun us s2 ⟨vs, H2, I2, r, q⟩ => ⟨?_, ?_⟩))
  · exact fun R h => aL_pure h
  · exact liftE nx I2 (hc pins _ σ H2 vs us Q I2.inv r q)⟩

/-! ### displays, subscripts -/
theorem z_tup {x1} (nx : NoX X) (h : PAz X es t) : PEz X (.Tuple es x1 pos) (tTup t) := ⟨fun ok pins s σ H Q I q => by
  rw [arm_eval_Tuple]
  refine aL_bind (aL_stand (aL_bind (aL_imp (h.run pos ok pins s σ H _ I q) fun us s1 ⟨xs, H1, I1, r, z, q⟩ => ?_)))
  refine liftE nx I1 (wpAny_newTuple ?_ (by rw [← r.length]; exact z))
  have hf : H1 s1.heap.objs.size = none := I1.inv.hok.fresh (Nat.le_refl _)
  exact ⟨.ref s1.heap.objs.size, upd H1 s1.heap.objs.size (.tup xs), I1.inv.laid (t' := s1.toks) (fun b u e => Heap.get?_push_of_some _ e) (Nat.le_refl _) ⟨z, us, r, ⟨_, Heap.get?_push_size _ rfl, rfl, _, rfl⟩⟩, rfl, q _ hf⟩⟩
theorem z_lst (nx : NoX X) (h : PAz X es t) : PEz X (.List es pos) (tLst t) := ⟨fun ok pins s σ H Q I q => by
  rw [arm_eval_List]
  refine aL_bind (aL_stand (aL_bind (aL_imp (h.run pos ok pins s σ H _ I q) fun us s1 ⟨xs, H1, I1, r, z, q⟩ => ?_)))
  refine liftE nx I1 (wpAny_newList ?_ (by rw [← r.length]; exact z))
  have hf : H1 s1.heap.objs.size = none := I1.inv.hok.fresh (Nat.le_refl _)
  exact ⟨.ref s1.heap.objs.size, upd H1 s1.heap.objs.size (.lst xs), I1.inv.laid (t' := s1.toks) (fun b u e => Heap.get?_push_of_some _ e) (Nat.le_refl _) ⟨z, us, 0, r, Heap.get?_push_size _ rfl⟩, rfl, q _ hf⟩⟩
theorem z_sub {tail : Value → Value → Sem Value} {Q : Value → Shared → Prop} {s : Shared}
    (h : anyX X (eval a X.env) (fun o s1 => anyX X (eval b X.env) (fun i s2 => anyX X (PyProof.Rows.subscriptTail a b o i) Q s2) s1) s) : anyX X (eval (.Subscript a b pos) X.env) Q s := by
  rw [eval_Subscript]
  exact aL_bind (aL_imp h fun o s1 h1 => aL_bind (aL_hold (aL_imp h1 fun i s2 h2 => aL_bind (aL_stand h2))))
theorem z_ix {r : R2} (nx : NoX X) (hr : IxR X r) (ha : PEz X a ta) (hb : PEz X b tb) (hs : PlainIx b) : PEz X (.Subscript a b pos) (tOp r ta tb) := ⟨fun ok pins s σ H Q I q => by
  refine z_sub (tail := fun _ x => pure x) (aL_imp (ha.run ok pins s σ H _ I q) fun v s1 ⟨x, H1, I1, r1, q1⟩ => aL_imp (hb.run ok pins s1 σ H1 _ I1 q1) fun u s2 ⟨y, H2, I2, r2, q2⟩ => ?_)
  exact liftE nx I2 (hr a b pins _ σ H2 x y v u Q I2.inv r1 r2 q2 (hs _ _))⟩

/-! ### statements -/
theorem sz_nil : PSsz X [] tNext := ⟨fun ok pins s σ H D I q => aL_pure ⟨σ, H, I, q⟩⟩
theorem sz_cons {st : Stmt} {sts : List Stmt} {ts us : TS} (h : PSz X st ts) (hr : PSsz X sts us) : PSsz X (st :: sts) (tSeq ts us) := ⟨fun ok pins s σ H D I q => by
  rw [execs_cons]
  refine aL_bind (aL_imp (h.run ok pins s σ H _ I q) fun f s1 q1 => ?_)
  cases f with
  | next => obtain ⟨σ1, H1, I1, q1⟩ := q1; exact hr.run ok pins s1 σ1 H1 D I1 q1
  | brk => exact aL_pure q1
  | cont => exact aL_pure q1
  | ret u => exact aL_pure q1⟩
theorem sz_one {st : Stmt} {ts : TS} (h : PSz X st ts) : PSsz X [st] ts := ⟨fun ok pins s σ H D I q => by
  rw [execs_cons]
  refine aL_bind (aL_imp (h.run ok pins s σ H _ I q) fun f s1 q1 => ?_)
  cases f <;> exact aL_pure q1⟩
theorem sz_ret (h : PEz X e te) : PSz X (.Return (some e) pos) (tRet te) := ⟨fun ok pins s σ H D I q => by
  rw [exec_Return_some]
  exact aL_bind (aL_stand (aL_bind (aL_imp (h.run ok pins s σ H _ I q) fun v s1 ⟨x, H1, I1, r1, q1⟩ => aL_pure ⟨x, σ, H1, I1, r1, q1⟩)))⟩
theorem sz_if {c : Expr} {as bs : List Stmt} {ts us : TS} (hc : PTz X c tc) (ha : PSsz X as ts) (hb : PSsz X bs us) : PSz X (.If c as bs pos) (tIfS tc ts us) := ⟨fun ok pins s σ H D I q => by
  rw [exec_If]
  refine aL_bind (aL_stand (aL_bind (aL_imp (hc.run ok pins s σ H _ I q) fun d s1 ⟨H1, I1, q1⟩ => ?_)))
  cases d with
  | true => exact ha.run ok pins s1 σ H1 D I1 q1
  | false => exact hb.run ok pins s1 σ H1 D I1 q1⟩
/-- what follows a loud value and is calm -/
theorem z_set {i : Nat} {pos' : Pos} (nx : NoX X) (hN : X.N.Nodup) (hi : X.N[i]? = some x) (hx : Loc X.env.scope x) (he : PEz X e te) (hs : swapsWith e (some (.Name x pos')) pos.line X.env = pure false := by rfl) (hf : X.fn x = true ∨ X.env.scope.names.lookup x = some .local := by first | exact .inl rfl | exact .inr rfl | assumption) :
    PSz X (.Assign [.Name x pos'] e pos) (tAsg te (gName i)) := ⟨fun ok pins s σ H D I q => by
  rw [exec_Assign_Name _ _ _ _ _ hs]
  refine aL_bind (aL_stand (aL_bind (aL_imp (he.run ok pins s σ H _ I q) fun v s1 ⟨y, H1, I1, r1, q1⟩ => aL_bind (aL_stand ?_))))
  have k : wpAny (model X.prog X.w) X.A (do bindName X.env x v; pure Flow.next) (SP X pins D) X.xe (coolS s1) := wpAny_bind (wpAny_bindName (store_ok I1.inv hN hi hx r1 (fun s2 I2 => wpAny_pure ⟨_, H1, I2, q1⟩) hf))
  exact liftS nx I1 k⟩
theorem z_asg {tg : Expr} {g : TG} (nx : NoX X) (he : PEz X e te) (hg : PG X tg g) (hs : swapsWithSole [tg] e pos.line X.env = pure false := by rfl) (hw : swappedStores [tg] e X.env = pure none := by rfl)
    (h1 : (assignEach [tg] X.env).map (·.2) = [assign tg X.env] := by rfl) : PSz X (.Assign [tg] e pos) (tAsg te g) := ⟨fun ok pins s σ H D I q => by
  rw [exec_Assign_arm]
  refine aL_bind (aL_stand ?_)
  rw [hs]
  refine aL_bind (aL_pure ?_)
  rw [if_neg (by decide)]
  refine aL_bind (aL_imp (he.run ok pins s σ H _ I q) fun v s1 ⟨y, H1, I1, r1, q1⟩ => ?_)
  rw [hw]
  refine aL_bind (aL_pure ?_)
  show anyX X (do assignAll v ((assignEach [tg] X.env).map (·.2)); pure Flow.next) _ s1
  rw [h1]
  have k : wpAny (model X.prog X.w) X.A (do assignAll v [assign tg X.env]; pure Flow.next) (SP X pins D) X.xe (coolS s1) := wpAny_bind (wpAny_mono (hg.run pins _ σ H1 y v _ I1.inv r1 q1) (fun _ s2 q => wpAny_pure q) fun _ _ x => x)
  exact liftS nx I1 k⟩
theorem z_drop (nx : NoX X) (he : PEz X e te) (hs : swapsWith e none pos.line X.env = pure false := by rfl) : PSz X (.Expr e pos) (tDrop te) := ⟨fun ok pins s σ H D I q => by
  rw [exec_Expr _ e pos I.inv.quiet hs]
  refine aL_bind (aL_stand (aL_bind (aL_imp (he.run ok pins s σ H _ I q) fun v s1 ⟨y, H1, I1, r1, q1⟩ => ?_)))
  have k : wpAny (model X.prog X.w) X.A (dropValue e pos v) (SP X pins D) X.xe (coolS s1) := wpAny_dropValue ⟨σ, H1, I1.inv, q1⟩
  exact liftS nx I1 k⟩
end
end MR
end
section
set_option linter.all false
set_option maxRecDepth 100000
set_option maxHeartbeats 4000000
/-! MR6: loops on the machine: what is walked, for. -/
namespace MR
open PySem L2 PySem.Spec MG

section
variable {M : Model} {A : Around} {s : Shared}
theorem fL_loop {c : Code} {R : Flow → Shared → Prop} (hq : c.quiet = true) (I : Nat → Shared → Prop)
    (turn : ∀ n s, I n s → anyL M (A.under c) (M.den c) (fun fin s' => match fin with
      | .done f => R f s'
      | .again c' => (c' = c ∧ ∃ m, m < n ∧ I m s') ∨ (c'.quiet = true ∧ flowL M A c' R s')) s) (n : Nat) (h : I n s) : flowL M A c R s := by
  induction n using Nat.strongRecOn generalizing s with
  | ind n ih =>
    refine flowL_tree (aL_imp (turn n s h) fun fin s' q => ?_)
    cases fin with
    | done f => exact q
    | again c' =>
      rcases q with ⟨rfl, m, hm, hI⟩ | q
      · exact ⟨hq, ih m hm hI⟩
      · exact q
end
section
variable {prog : Program} {w : World} {A : Around} {s : Shared}
theorem fL_block {stmts : List Stmt} {env : Env} {R : Flow → Shared → Prop} (h : anyL (model prog w) A (execs stmts env) R s) : flowL (model prog w) A (.block stmts env) R s := by
  refine flowL_tree ?_
  show anyL _ _ (do return Fin.done (← (execs stmts env).onRaise (fun x => do noteFrame x env; theTreesLotGoes x))) _ s
  exact aL_bind (aL_onRaise (aL_imp h fun f s' q => aL_pure q))
theorem fL_for {R : Flow → Shared → Prop} {target : Expr} {it : Value} {body orelse : List Stmt} {env : Env} (I : Nat → Shared → Prop)
    (turn : ∀ n s, I n s → anyL (model prog w) A (pyNext it) (fun r s₁ => match r with
      | none => anyL (model prog w) A (execs orelse env) R s₁
      | some v => anyL (model prog w) A (letOwnedTupleGo target it v) (fun _ s₂ => anyL (model prog w) A (assign target env v) (fun _ s₃ => anyL (model prog w) A (execs body env) (fun f s₄ => match f with
          | .next | .cont => ∃ m, m < n ∧ I m s₄
          | .brk => R .next s₄
          | .ret v => R (.ret v) s₄) s₃) s₂) s₁) s)
    (n : Nat) (h : I n s) : flowL (model prog w) A (.forLoop target it body orelse env) R s := by
  refine fL_loop rfl I (fun n s hI => ?_) n h
  show anyL _ A ((forTurn target it body orelse env).onRaise (fun x => do noteFrame x env; theTreesLotGoes x)) _ s
  refine aL_onRaise ?_
  simp only [forTurn]
  refine aL_bind (aL_stand (aL_bind (aL_onRaise (aL_imp (turn n s hI) fun r s₁ h₁ => ?_))))
  cases r with
  | none => exact aL_pure (.inr ⟨rfl, fL_block h₁⟩)
  | some v =>
    refine aL_bind (aL_imp h₁ fun _ s₂ h₂ => aL_bind (aL_imp h₂ fun _ s₃ h₃ => aL_bind (aL_imp h₃ fun f s₄ h₄ => ?_)))
    cases f with
    | next => exact aL_pure (.inl ⟨rfl, h₄⟩)
    | cont => exact aL_pure (.inl ⟨rfl, h₄⟩)
    | brk => exact aL_pure h₄
    | ret v => exact aL_pure h₄
end

/-! ### what is walked -/
def PIEz (ok : Nat → Prop) (X : Cx) (pins : List (Addr × Obj)) (σ : St) (tg : Expr) (R : It → Hp → Prop) (itv : Value) (s2 : Shared) : Prop :=
  ∃ (it : Addr) (fp : List Addr) (tn : Nat → Heap → Prop) (J : It) (H' : Hp), itv = .ref it ∧ ZI ok X pins σ H' s2 ∧ Turn X.prog X.w X.K tg J fp it tn ∧ tn 0 s2.heap ∧ (∀ b ∈ fp, FpOk X pins H' b) ∧ R J H'
structure PIz (X : Cx) (tg iter : Expr) (wi : TI) : Prop where
  run : ∀ (ok : Nat → Prop) (pins : List (Addr × Obj)) (s : Shared) (σ : St) (H : Hp) (R : It → Hp → Prop), ZI ok X pins σ H s → wi σ H R →
    anyX X (eval iter X.env) (fun v s1 => anyX X (pyIter v) (PIEz ok X pins σ tg R) s1) s
section
variable {X : Cx} {tg e e2 : Expr} {wi : TI} {ta : TA} {te : TE} {p pos tpos : Pos}
theorem PIEz.back {ok : Nat → Prop} {pins : List (Addr × Obj)} {σ : St} {H : Hp} {s s' s1 : Shared} {R : It → Hp → Prop} {u : Value} (I : ZI ok X pins σ H s) (ec : coolS s' = coolS s1) (c : Cl s s') (h : PIE X pins σ tg R u s1) : PIEz ok X pins σ tg R u s' := by
  obtain ⟨it, fp, tn, J, H', e, J1, T, st, f, r⟩ := h
  have eh : s'.heap = s1.heap := (cool_parts ec).1
  exact ⟨it, fp, tn, J, H', e, I.back ec c J1, T, by rw [eh]; exact st, f, r⟩
/-- a value is made and walked, calmly -/
theorem lift2 {ok : Nat → Prop} {pins : List (Addr × Obj)} {σ : St} {H : Hp} {s : Shared} {R : It → Hp → Prop} {t : Sem Value} (nx : NoX X) (I : ZI ok X pins σ H s)
    (h : wpAny (model X.prog X.w) X.A t (fun v s1 => wpAny (model X.prog X.w) X.A (pyIter v) (PIE X pins σ tg R) X.xe s1) X.xe (coolS s)) : anyX X t (fun v s1 => anyX X (pyIter v) (PIEz ok X pins σ tg R) s1) s :=
  aL_imp (lift1 nx I (coolS_coolS s).symm (Cl.refl s) h) fun v s' ⟨s1, e, c, q⟩ => aL_imp (lift1 nx I e c q) fun u s'' ⟨s2, e2, c2, q2⟩ => PIEz.back I e2 c2 q2
theorem liftI {ok : Nat → Prop} {pins : List (Addr × Obj)} {σ : St} {H : Hp} {s : Shared} {R : It → Hp → Prop} {t : Sem Value} (nx : NoX X) (I : ZI ok X pins σ H s)
    (h : wpAny (model X.prog X.w) X.A t (PIE X pins σ tg R) X.xe (coolS s)) : anyX X t (PIEz ok X pins σ tg R) s :=
  aL_imp (lift1 nx I (coolS_coolS s).symm (Cl.refl s) h) fun u s'' ⟨s2, e2, c2, q2⟩ => PIEz.back I e2 c2 q2
theorem iz (nx : NoX X) (h : PI X tg e wi) : PIz X tg e wi := ⟨fun ok pins s σ H R I q => lift2 nx I (h.run pins _ σ H R I.inv q)⟩
theorem iz_list (nx : NoX X) (h : PEz X e te) : PIz X tg e (iList X.K te) := ⟨fun ok pins s σ H R I q => by
  refine aL_imp (h.run ok pins s σ H _ I q) fun v s1 ⟨x, H1, I1, r1, a, ea, ⟨xs, hq⟩, q1⟩ => ?_
  subst ea
  cases r1
  obtain ⟨its, rv, p, hz⟩ := I1.inv.list hq
  refine liftI nx I1 (wpAny_pyIter_list p.isList ?_)
  refine ⟨s1.heap.objs.size, [s1.heap.objs.size], _, _, H1, rfl, I1.inv.kept (t' := s1.toks) fun b o e => Heap.get?_push_of_some _ e, turn_list a _, ⟨_, Heap.get?_push_size _ rfl, rfl, rfl⟩, fun b hb => ?_, q1⟩
  have e : b = s1.heap.objs.size := by simpa using hb
  subst e
  exact I1.inv.fpOk (Nat.le_refl _) (I1.inv.hok.fresh (Nat.le_refl _))⟩
theorem iz_tup (nx : NoX X) (h : PEz X e te) : PIz X tg e (iTup X.K te) := ⟨fun ok pins s σ H R I q => by
  refine aL_imp (h.run ok pins s σ H _ I q) fun v s1 ⟨x, H1, I1, r1, a, ea, ⟨xs, hq⟩, q1⟩ => ?_
  subst ea
  cases r1
  obtain ⟨its, rv, p, hz⟩ := I1.inv.tuple hq
  refine liftI nx I1 (wpAny_pyIter_tuple (show s1.heap.IsTuple a its.toArray from p) ?_)
  refine ⟨s1.heap.objs.size, [s1.heap.objs.size], _, _, H1, rfl, I1.inv.kept (t' := s1.toks) fun b o e => Heap.get?_push_of_some _ e, turn_tuple a _, ⟨_, Heap.get?_push_size _ rfl, rfl, rfl⟩, fun b hb => ?_, q1⟩
  have e : b = s1.heap.objs.size := by simpa using hb
  subst e
  exact I1.inv.fpOk (Nat.le_refl _) (I1.inv.hok.fresh (Nat.le_refl _))⟩
/-- the call of a builtin type by name, its arguments loud -/
theorem z_named {ok : Nat → Prop} {pins : List (Addr × Obj)} {s : Shared} {σ : St} {H : Hp} {T : String} {x : Str} {es : List Expr} {R : List V → Hp → Prop} {Q : Value → Shared → Prop} (nx : NoX X) (I : ZI ok X pins σ H s) (hg : Gl X x) (hm : X.mg x = none) (hv : bootBuiltins x = some (.type T)) (ha : PAz X (e :: es) ta)
    (h : ta σ H R) (k : ∀ us s2 vs H2, ZI ok X pins σ H2 s2 → Vals vs us → R vs H2 → anyX X (call (.type T) us) Q s2) (hn : x ≠ "__name__" := by decide) (hdb : (x == ("__debug__" : Str)) = false := by decide)
    (he : starEach (e :: es) X.env = (false, eval e X.env) :: starEach es X.env := by rfl) (hpl : (backTo pos (starEach es X.env)).any (·.1) = false := by rfl) : anyX X (eval (.Call (.Name x p) (e :: es) [] pos) X.env) Q s := by
  rw [arm_eval_Call_Name']
  refine aL_bind (z_blt nx I hg hm hv (fun s1 I1 => ?_) hn hdb)
  have h1 := ha.run pos ok pins s1 σ H _ I1 h
  rw [he] at h1 ⊢
  refine aL_callWith (k := .machine) (by show (false || (backTo pos (starEach es X.env)).any (·.1)) = false; rw [hpl]; rfl) (.inr rfl) (aL_evalArgs (aL_imp h1 fun us s2 ⟨vs, H2, I2, r, q⟩ => ⟨?_, ?_⟩))
  · exact fun R h => aL_pure h
  · exact k us s2 vs H2 I2 r q
theorem iz_range1 (nx : NoX X) (hg : Gl X "range") (hm : X.mg "range" = none) (ha : PAz X [e] ta) (hs : starEach [e] X.env = [(false, eval e X.env)] := by rfl) : PIz X tg (.Call (.Name "range" p) [e] [] pos) (iRng1 ta) := ⟨fun ok pins s σ H R I q => by
  refine z_named nx I hg hm PyProof.Rows.boot_range ha q (fun us s1 vs H1 I1 r1 q1 => ?_) (he := hs)
  obtain ⟨j, ev, b1, b2, q1⟩ := q1
  subst ev
  cases r1 with
  | cons r rr =>
    cases rr
    obtain ⟨t, rfl⟩ := r
    exact lift2 nx I1 (call_range_1 (range_it I1.inv (by omega) (by omega) b1 b2 (by simpa using q1)))⟩
theorem iz_zip {elts : List Expr} {kk : Nat} (nx : NoX X) (hg : Gl X "zip") (hm : X.mg "zip" = none) (ha : PAz X [e, e2] ta)
    (hs : starEach [e, e2] X.env = (false, eval e X.env) :: starEach [e2] X.env := by rfl) (hpl : (backTo pos (starEach [e2] X.env)).any (·.1) = false := by rfl) :
    PIz X (.Tuple elts kk tpos) (.Call (.Name "zip" p) [e, e2] [] pos) (iZip X.K ta) := ⟨fun ok pins s σ H R I q => by
  refine z_named nx I hg hm PyProof.Rows.boot_zip ha q (fun us s1 vs H1 I1 r1 q1 => ?_) (he := hs) (hpl := hpl)
  obtain ⟨a, b, xs, ys, ev, hqx, hqy, q1⟩ := q1
  subst ev
  cases r1 with
  | cons r rr =>
    cases rr with
    | cons r' rr =>
      cases rr
      cases r
      cases r'
      obtain ⟨its, rv, p1, _⟩ := I1.inv.list hqx
      obtain ⟨its2, rv2, p2, _⟩ := I1.inv.list hqy
      refine lift2 nx I1 (call_zip_2 p1.isList p2.isList fun h' hz hTI hTO h1 h2 hsz hk => wpAny_pyIter_zip hz ?_)
      have I2 : Inv X pins σ H1 { coolS s1 with heap := h' } := I1.inv.kept (t' := s1.toks) hk
      refine ⟨s1.heap.objs.size + 4, [s1.heap.objs.size + 4, s1.heap.objs.size + 2, s1.heap.objs.size + 3, s1.heap.objs.size, s1.heap.objs.size + 1], _, _, H1, rfl, I2, turn_zip (PySem.W.ktu_apart s1.heap.objs.size a b p1.lt p2.lt), ⟨hz, hTI, ⟨_, _, hTO⟩, h1, h2⟩, fun c hcm => ?_, q1⟩
      have hle : s1.heap.objs.size ≤ c := by
        simp only [List.mem_cons, List.not_mem_nil, or_false] at hcm
        rcases hcm with z | z | z | z | z <;> (rw [z]; omega)
      exact I1.inv.fpOk hle (I1.inv.hok.fresh hle)⟩
theorem iz_enum {elts : List Expr} {kk : Nat} (nx : NoX X) (hg : Gl X "enumerate") (hm : X.mg "enumerate" = none) (ha : PAz X [e] ta) (hs : starEach [e] X.env = [(false, eval e X.env)] := by rfl) :
    PIz X (.Tuple elts kk tpos) (.Call (.Name "enumerate" p) [e] [] pos) (iEnum X.K ta) := ⟨fun ok pins s σ H R I q => by
  refine z_named nx I hg hm PyProof.Rows.boot_enumerate ha q (fun us s1 vs H1 I1 r1 q1 => ?_) (he := hs)
  obtain ⟨a, xs, ev, hq, q1⟩ := q1
  subst ev
  cases r1 with
  | cons r rr =>
    cases rr
    cases r
    obtain ⟨its, rv, p', hz⟩ := I1.inv.list hq
    refine lift2 nx I1 (call_enumerate_list p'.isList fun h' he hit hsz hk => wpAny_pyIter_enum he ?_)
    have I2 : Inv X pins σ H1 { coolS s1 with heap := h' } := I1.inv.kept (t' := s1.toks) hk
    refine ⟨s1.heap.objs.size + 1, [s1.heap.objs.size + 1, s1.heap.objs.size], _, _, H1, rfl, I2, turn_enum a (s1.heap.objs.size + 1) s1.heap.objs.size, ⟨⟨.none, he⟩, hit, Nat.succ_ne_self _⟩, fun b hb => ?_, q1⟩
    have hle : s1.heap.objs.size ≤ b := by
      simp only [List.mem_cons, List.not_mem_nil, or_false] at hb
      rcases hb with z | z <;> (rw [z]; omega)
    exact I1.inv.fpOk hle (I1.inv.hok.fresh hle)⟩

/-! ### for -/
theorem aL_ownRun {M : Model} {A : Around} {c : Code} {env : Env} {s : Shared} {Q : Flow → Shared → Prop} (h : flowL M A c Q s) : anyL M A (runOwn c env none) Q s := by
  unfold runOwn
  exact aL_onRaise (aL_run (by cases A; exact h))
theorem z_for {g : TG} {tb : TS} {body : List Stmt} (nx : NoX X) (hc : X.calm = true) (hi : PIz X tg e wi) (hg : PG X tg g) (hb : PSsz X body tb) (hs : ∀ x, foldedSetIterable e X.env x = pure x := by intro _; rfl) :
    PSz X (.For tg e body [] pos) (tFor wi g tb) := ⟨fun ok pins s σ H D I q => by
  rw [exec_For]
  refine aL_bind (aL_stand (aL_bind (aL_imp (hi.run ok pins s σ H _ I q) fun v s1 h1 => ?_)))
  rw [hs v]
  refine aL_bind (aL_pure (aL_bind (aL_stand (aL_bind (aL_hold (aL_imp h1 fun itv s2 h2 => aL_ownRun ?_))))))
  obtain ⟨it, fp, tn, J, H2, e1, I2, T, st2, f2, W, ⟨m0, w0⟩, turn⟩ := h2
  subst e1
  have stat : ∀ {H' : Hp}, (∀ b ∈ fp, H' b = none) → ∀ b ∈ fp, FpOk X pins H' b := fun hn b hb => ⟨hn b hb, (f2 b hb).2⟩
  refine fL_for (fun n s' => ∃ i σ' H', ZI ok X pins σ' H' s' ∧ tn i s'.heap ∧ (∀ b ∈ fp, H' b = none) ∧ W i n σ' H') ?_ m0 ⟨0, σ, H2, I2, st2, fun b hb => (f2 b hb).1, w0⟩
  rintro n s3 ⟨i, σ3, H3, I3, st3, fr3, w3⟩
  rcases turn i n σ3 H3 w3 with ⟨stop, qn⟩ | ⟨go, N, hN, step⟩
  · refine aL_imp (lift1 nx I3 (coolS_coolS s3).symm (Cl.refl s3) (T.done X rfl rfl rfl hc i pins (coolS s3) σ3 H3 X.xe I3.inv (stat fr3) st3 stop)) fun r s4 ⟨s4c, e4, c4, hr, I4⟩ => ?_
    subst hr
    exact aL_pure ⟨σ3, H3, I3.back e4 c4 I4, qn⟩
  · refine aL_imp (lift1 nx I3 (coolS_coolS s3).symm (Cl.refl s3) (T.item X rfl rfl rfl hc i pins (coolS s3) σ3 H3 X.xe I3.inv (stat fr3) st3 go)) fun r s4 ⟨s4c, e4, c4, u, hr, h4⟩ => ?_
    subst hr
    refine aL_imp (lift1 nx I3 e4 c4 h4) fun _ s5 ⟨s5c, e5, c5, x, H5, I5, r5, y5, st5, fr5⟩ => ?_
    have I5z : ZI ok X pins σ3 H5 s5 := I3.back e5 c5 I5
    have st5' : tn (i + 1) s5.heap := by rw [show s5.heap = s5c.heap from (cool_parts e5).1]; exact st5
    have I5' : ZI ok X (pins ++ pinsAt fp s5.heap) σ3 H5 s5 := ⟨I5z.inv.pinned (stat fr5) (T.obj _ _ st5'), I5z.hot⟩
    refine aL_imp (lift1 nx I5' (coolS_coolS s5).symm (Cl.refl s5) (hg.run _ (coolS s5) σ3 H5 x u _ I5'.inv r5 (step x H5 y5))) fun _ s6 ⟨s6c, e6, c6, σ6, H6, I6, q6⟩ => ?_
    refine aL_imp (hb.run ok _ s6 σ6 H6 _ (I5'.back e6 c6 I6) q6) fun f s7 q7 => ?_
    have again : ∀ {σ7 : St} {H7 : Hp}, ZI ok X (pins ++ pinsAt fp s5.heap) σ7 H7 s7 → N σ7 H7 → ∃ m, m < n ∧ ∃ i σ' H', ZI ok X pins σ' H' s7 ∧ tn i s7.heap ∧ (∀ b ∈ fp, H' b = none) ∧ W i m σ' H' := fun {σ7 H7} I7 n7 => by
      obtain ⟨m', hm, w7⟩ := hN σ7 H7 n7
      refine ⟨m', hm, i + 1, σ7, H7, ⟨I7.inv.unpinned, I7.hot⟩, T.keep _ _ _ st5' fun b hb o e => (I7.inv.pin (b, o) (List.mem_append_right _ (List.mem_append_right _ (mem_pinsAt hb e)))).1, fun b hb => ?_, w7⟩
      obtain ⟨o, e, d⟩ := T.obj _ _ st5' b hb
      exact (I7.inv.pin (b, o) (List.mem_append_right _ (List.mem_append_right _ (mem_pinsAt hb e)))).2.1
    cases f with
    | next => obtain ⟨σ7, H7, I7, n7⟩ := q7; exact again I7 n7
    | cont => obtain ⟨σ7, H7, I7, n7⟩ := q7; exact again I7 n7
    | brk => obtain ⟨σ7, H7, I7, q7⟩ := q7; exact ⟨σ7, H7, ⟨I7.inv.unpinned, I7.hot⟩, q7⟩
    | ret v => obtain ⟨x7, σ7, H7, I7, r7, q7⟩ := q7; exact ⟨x7, σ7, H7, ⟨I7.inv.unpinned, I7.hot⟩, r7, q7⟩⟩
end
end MR
end
section
set_option linter.all false
set_option maxRecDepth 100000
set_option maxHeartbeats 4000000
/-! MG1: generators on the machine: their code from one hand-out to the next, waking them. -/
namespace MR
open PySem

/-! ### exceptions kept -/
def anyE {α : Type} (M : Model) (A : Around) (t : Sem α) (Q : α → Shared → Prop) (E : Value → Shared → Prop) (s : Shared) : Prop :=
  ∀ Γ p, Γ.In A → wpL M Γ t (fun x _ s' => Q x s') (fun x _ s' => E x s') p s
def codeE (M : Model) (A : Around) (c : Code) (R : Result → Shared → Prop) (s : Shared) : Prop := ∀ Γ p, Γ.code = c → Γ.Below A → RetL M Γ p s R
section
variable {α β : Type} {M : Model} {A : Around} {s : Shared} {E : Value → Shared → Prop}
theorem aE_pure {x : α} {Q : α → Shared → Prop} (h : Q x s) : anyE M A (pure x) Q E s := fun _ _ _ => h
theorem aE_throw {x : Value} {Q : α → Shared → Prop} (h : E x s) : anyE M A (throw x : Sem α) Q E s := fun _ _ _ => h
theorem aE_imp {t : Sem α} {Q Q' : α → Shared → Prop} {E' : Value → Shared → Prop} (h : anyE M A t Q E s) (i : ∀ x s', Q x s' → Q' x s') (j : ∀ x s', E x s' → E' x s') : anyE M A t Q' E' s := fun Γ p hΓ =>
  wpL_imp M Γ t (fun x _ s' => i x s') (fun x _ s' => j x s') p s (h Γ p hΓ)
theorem aE_bind {m : Sem α} {f : α → Sem β} {Q : β → Shared → Prop} (h : anyE M A m (fun x s' => anyE M A (f x) Q E s') E s) : anyE M A (m >>= f) Q E s := fun Γ p hΓ => by
  rw [wpL_bind]
  exact wpL_imp M Γ m (fun x p' s' q => q Γ p' hΓ) (fun _ _ _ q => q) p s (h Γ p hΓ)
theorem aE_hold {vs : List Value} {m : Sem α} {Q : α → Shared → Prop} (h : anyE M A m Q E s) : anyE M A (holding vs m) Q E s := fun Γ p hΓ => by rw [wpL_holding]; exact h Γ p hΓ
theorem aE_attempt {m : Sem α} {Q : Except Value α → Shared → Prop} (h : anyE M A m (fun x s' => Q (.ok x) s') (fun x s' => Q (.error x) s') s) : anyE M A m.attempt Q E s := fun Γ p hΓ => by
  unfold Sem.attempt
  rw [wpL_catch]
  have : wpL M Γ (m >>= fun x => (Sem.pure (Except.ok x) : Sem (Except Value α))) (fun x _ s' => Q x s') (fun x p' s' => wpL M Γ (Sem.pure (Except.error x)) (fun x _ s' => Q x s') (fun x _ s' => E x s') p' s') p s := by
    rw [wpL_bind]
    exact h Γ p hΓ
  exact this
theorem aE_of {t : Sem α} {Q : α → Shared → Prop} (h : anyL M A t Q s) : anyE M A t Q E s := fun Γ p hΓ => wpL_imp M Γ t (fun _ _ _ q => q) (fun _ _ _ q => q.elim) p s (h Γ p hΓ)
theorem aL_of {t : Sem α} {Q : α → Shared → Prop} (h : anyE M A t Q (fun _ _ => False) s) : anyL M A t Q s := h
/-- the calm logic's word at explicit states -/
theorem aE_calm {s0 sc : Shared} {t : Sem α} {Q : α → Shared → Prop} (h : wpAny M A t Q E sc) (e : coolS s = coolS sc) (c : Cl s0 s) :
    anyE M A t (fun x s' => ∃ s1, coolS s' = coolS s1 ∧ Cl s0 s' ∧ Q x s1) (fun x s' => ∃ s1, coolS s' = coolS s1 ∧ Cl s0 s' ∧ E x s1) s := fun Γ p hΓ => wpL_of M Γ t p sc s e c (h Γ p hΓ)
theorem codeE_tree {c : Code} {R : Result → Shared → Prop}
    (h : anyE M (A.under c) (M.den c) (fun fin s' => match fin with | .done f => R (.ok f) s' | .again c' => c'.quiet = true ∧ codeE M A c' R s') (fun x s' => R (.error x) s') s) : codeE M A c R s := fun Γ p hc hΓ => by
  refine retL_tree ?_
  rw [hc]
  refine wpL_imp M Γ _ (fun fin p' s' q => ?_) (fun _ _ _ q => q) p s (h Γ p (hc ▸ hΓ.in))
  cases fin with
  | done f => exact q
  | again c' => exact ⟨q.1, q.2 (Γ.goto c') p' rfl (hΓ.goto c')⟩
theorem aE_call {f : Value} {us : List Value} {kw : List (Str × Value)} {Q : Value → Shared → Prop} (h : codeE M A (.call f ⟨us, kw⟩) (fun r s' => match r with | .ok (.ret v) => Q v s' | .ok _ => False | .error x => E x s') s) : anyE M A (call f us kw) Q E s := by
  unfold PySem.call runValue
  intro Γ p hΓ
  rw [wpL_bind]
  refine RetL.imp (h _ p rfl (hΓ.enter _ none p (by intro x; cases x))) fun r s' q => ?_
  cases r with
  | error x => exact q
  | ok fl => cases fl <;> first | exact q | exact q.elim
end


/-- generators are never taken away -/
theorem step_gsz {den : Code → Sem PySem.Fin} {prog : Program} {w : World} {s s1 : Shared} {t t1 : Thread} (h : stepK den prog w s t = .go s1 t1) : s.gens.size ≤ s1.gens.size := by
  obtain ⟨heap, gens, drawn, toks, os⟩ := s
  obtain ⟨cur, c, p, st⟩ := t
  show gens.size ≤ s1.gens.size
  cases cur with
  | pure fin =>
    cases fin with
    | again c' => cases h; exact Nat.le_refl _
    | done f =>
      cases st with
      | nil => simp only [stepK, PySem.step, finish] at h; split at h <;> cases h
      | cons F rest => cases F <;> (cases h; simp)
  | raise x =>
    cases st with
    | nil => simp only [stepK, PySem.step, finish] at h; split at h <;> cases h
    | cons F rest => cases F <;> (cases h; simp)
  | unsupported what => cases h
  | finish x => simp only [stepK, PySem.step] at h; split at h <;> cases h
  | load a part k => simp only [stepK, PySem.step] at h; split at h <;> cases h; exact Nat.le_refl _
  | update a part f k => simp only [stepK, PySem.step] at h; split at h <;> cases h; exact Nat.le_refl _
  | choose src n k => simp only [stepK, PySem.step] at h; split at h <;> cases h; exact Nat.le_refl _
  | genState g k => simp only [stepK, PySem.step] at h; split at h <;> cases h; exact Nat.le_refl _
  | newGen c' k => cases h; simp
  | resume g r l k =>
    simp only [stepK, PySem.step] at h
    split at h
    · cases h
    · split at h <;> cases h <;> simp
    · cases h; simp
    · cases h; simp
    · cases h; simp
  | yield v g0 l kk =>
    simp only [stepK, PySem.step] at h
    split at h
    · cases h; simp
    · cases h
  | register a k => cases h
  | fork c k => cases h
  | await a f d l k => cases h
  | _ => cases h; exact Nat.le_refl _
theorem go_gsz {M : Model} {n : Nat} {s s' : Shared} {t t' : Thread} (h : Go M n s t s' t') : s.gens.size ≤ s'.gens.size := by
  induction h with
  | refl => exact Nat.le_refl _
  | step _ hs _ ih => exact Nat.le_trans (step_gsz hs) ih

/-! ### a generator's code on the machine -/
def SoftC (s : Shared) (c : Code) : Prop :=
  ∃ (a : Addr) (args : List Value) (kw : List (Str × Value)) (o : Obj), c = .builtin "proto.yield_from" ⟨.ref a :: args, kw⟩ ∧ s.heap.get? a = some o ∧ o.genNumber?.isSome = true
abbrev EndL (G : Type) := Nat → G → Result → Shared → Prop
abbrev HandL (G : Type) := Nat → G → Value → Shared → (G → Shared → Prop) → Prop
/-- from here to the next hand-out or the end, then on; n: how often it may still hand out -/
def SegL {G : Type} (M : Model) (A : Around) (R : EndL G) (Y : HandL G) : Nat → G → Code → Sem PySem.Fin → List Frame → Shared → Prop
  | 0, s₀, c, t, fs, s => ∀ (Γ : PySem.Ctx) (p : Pos) (base : List Frame), Γ.code = c → Γ.Woken A → Γ.Fits base → ∃ m s' cur c' p' pre, Go M m s ⟨t, c, p, fs ++ base⟩ s' ⟨cur, c', p', pre ++ base⟩ ∧ ∃ r, cur = leafOf r ∧ pre = [] ∧ R 0 s₀ r s'
  | n + 1, s₀, c, t, fs, s => ∀ (Γ : PySem.Ctx) (p : Pos) (base : List Frame), Γ.code = c → Γ.Woken A → Γ.Fits base → ∃ m s' cur c' p' pre, Go M m s ⟨t, c, p, fs ++ base⟩ s' ⟨cur, c', p', pre ++ base⟩ ∧
      ((∃ r, cur = leafOf r ∧ pre = [] ∧ R (n + 1) s₀ r s') ∨
       (∃ v g l k, cur = .yield v g l k ∧ splitAtGen pre = none ∧ pre.any Frame.guarded = false ∧ (g = false ∨ SoftC s' c') ∧ Y n s₀ v s' fun g' s'' => SegL M A R Y n g' c' (k (.send .none)) pre s''))

/-- what is reached from a state of the code holds of it too -/
def OnL {G : Type} (M : Model) (A : Around) (R : EndL G) (Y : HandL G) (n : Nat) (s₀ : G) (s' : Shared) (cur : Sem PySem.Fin) (c' : Code) (pre : List Frame) : Prop :=
  (∃ r, cur = leafOf r ∧ pre = [] ∧ R n s₀ r s') ∨
  (∃ v g l k m, n = m + 1 ∧ cur = .yield v g l k ∧ splitAtGen pre = none ∧ pre.any Frame.guarded = false ∧ (g = false ∨ SoftC s' c') ∧ Y m s₀ v s' fun g' s'' => SegL M A R Y m g' c' (k (.send .none)) pre s'')
section
variable {G : Type} {M : Model} {A : Around} {R : EndL G} {Y : HandL G} {n : Nat} {c c' : Code} {t : Sem PySem.Fin} {fs : List Frame} {s₀ : G} {s s1 : Shared}
theorem segL_iff : SegL M A R Y n s₀ c t fs s ↔ ∀ (Γ : PySem.Ctx) (p : Pos) (base : List Frame), Γ.code = c → Γ.Woken A → Γ.Fits base → ∃ m s' cur c' p' pre, Go M m s ⟨t, c, p, fs ++ base⟩ s' ⟨cur, c', p', pre ++ base⟩ ∧ OnL M A R Y n s₀ s' cur c' pre := by
  constructor
  · intro h Γ p base h1 h2 h3
    cases n with
    | zero =>
      obtain ⟨m, s', cur, c', p', pre, g, q⟩ := h Γ p base h1 h2 h3
      exact ⟨m, s', cur, c', p', pre, g, .inl q⟩
    | succ n =>
      obtain ⟨m, s', cur, c', p', pre, g, q⟩ := h Γ p base h1 h2 h3
      refine ⟨m, s', cur, c', p', pre, g, ?_⟩
      rcases q with q | ⟨v, gd, l, k, q⟩
      · exact .inl q
      · exact .inr ⟨v, gd, l, k, n, rfl, q⟩
  · intro h
    cases n with
    | zero =>
      intro Γ p base h1 h2 h3
      obtain ⟨m, s', cur, c', p', pre, g, q⟩ := h Γ p base h1 h2 h3
      rcases q with q | ⟨v, gd, l, k, j, e, _⟩
      · exact ⟨m, s', cur, c', p', pre, g, q⟩
      · cases e
    | succ n =>
      intro Γ p base h1 h2 h3
      obtain ⟨m, s', cur, c', p', pre, g, q⟩ := h Γ p base h1 h2 h3
      refine ⟨m, s', cur, c', p', pre, g, ?_⟩
      rcases q with q | ⟨v, gd, l, k, j, e, q⟩
      · exact .inl q
      · cases e
        exact .inr ⟨v, gd, l, k, q⟩
/-- steps ahead -/
theorem segL_go (h : ∀ (Γ : PySem.Ctx) (p : Pos) (base : List Frame), Γ.code = c → Γ.Woken A → Γ.Fits base → ∃ m s' t' c' p' fs', Go M m s ⟨t, c, p, fs ++ base⟩ s' ⟨t', c', p', fs' ++ base⟩ ∧ SegL M A R Y n s₀ c' t' fs' s') : SegL M A R Y n s₀ c t fs s :=
  segL_iff.mpr fun Γ p base h1 h2 h3 => by
    obtain ⟨m, s', t', c', p', fs', g, q⟩ := h Γ p base h1 h2 h3
    obtain ⟨m2, s2, cur, c2, p2, pre, g2, q2⟩ := segL_iff.mp q (Γ.goto c') p' base rfl (h2.goto c') (h3.goto c')
    exact ⟨m + m2, s2, cur, c2, p2, pre, g.tr g2, q2⟩
/-- a run inside a statement -/
theorem wpL_wrap {α : Type} {Γ : Ctx} {st : List Frame} (hf : Γ.Fits st) (K : α → Sem PySem.Fin) (J : Value → Sem PySem.Fin) (gd : Bool → Bool) (lv : List Value → List Value) (m : Sem α) {Q : α → Pos → Shared → Prop} {E : Value → Pos → Shared → Prop} : ∀ p s, wpL M Γ m Q E p s →
    ∃ n s' t' p', Go M n s ⟨m.wrap K J gd lv, Γ.code, p, st⟩ s' ⟨t', Γ.code, p', st⟩ ∧ ((∃ x, t' = K x ∧ Q x p' s') ∨ (∃ x, t' = J x ∧ E x p' s')) := by
  have go : ∀ {s s1 : Shared} {t t1 : Sem PySem.Fin} {p p1 : Pos}, M.step s ⟨t, Γ.code, p, st⟩ = .go s1 ⟨t1, Γ.code, p1, st⟩ →
      (∃ n s' t' p', Go M n s1 ⟨t1, Γ.code, p1, st⟩ s' ⟨t', Γ.code, p', st⟩ ∧ ((∃ x, t' = K x ∧ Q x p' s') ∨ (∃ x, t' = J x ∧ E x p' s'))) →
      ∃ n s' t' p', Go M n s ⟨t, Γ.code, p, st⟩ s' ⟨t', Γ.code, p', st⟩ ∧ ((∃ x, t' = K x ∧ Q x p' s') ∨ (∃ x, t' = J x ∧ E x p' s')) :=
    fun h ⟨n, s', t', p', g, q⟩ => ⟨1 + n, s', t', p', (go1 h).tr g, q⟩
  induction m with
  | pure x => exact fun p s h => ⟨0, s, _, p, .refl, .inl ⟨x, rfl, h⟩⟩
  | raise x => exact fun p s h => ⟨0, s, _, p, .refl, .inr ⟨x, rfl, h⟩⟩
  | rule tag k ih => exact fun p s h => go (step_rule ..) (ih _ _ _ h)
  | «at» q k ih => exact fun p s h => go (step_at ..) (ih _ _ _ h)
  | load a part k ih => exact fun p s ⟨o, ho, h⟩ => go (step_load _ _ _ _ _ _ _ ho) (ih _ _ _ h)
  | update a part f k ih => exact fun p s ⟨ho, h⟩ => go (step_update _ _ _ _ _ _ _ _ ho) (ih _ _ _ h)
  | loadIfAlive a k ih => exact fun p s h => go (step_loadIfAlive ..) (ih _ _ _ h)
  | point l k ih => exact fun p s h => go (step_point ..) (ih _ _ _ h)
  | alloc o k ih => exact fun p s h => go (step_alloc ..) (ih _ _ _ h)
  | fresh k ih => exact fun p s h => go (step_fresh ..) (ih _ _ _ h)
  | ask k ih => exact fun p s h => go (step_ask ..) (ih _ _ _ h)
  | choose src n k ih => exact fun p s ⟨hn, h⟩ => go (step_choose _ _ _ _ _ _ _ hn) (ih _ _ _ h)
  | os q l k ih => exact fun p s h => go (step_os ..) (ih _ _ _ h)
  | call c hd g l k ih =>
    intro p s h
    obtain ⟨n, s1, r, c', p', g1, q⟩ := h (.ret (fun x => (k x).wrap K J gd lv) hd (gd g) (lv l) Γ.code p [] :: st) (hf.enter c _ hd _ _ p [])
    obtain ⟨m, s2, t2, p2, g2, q2⟩ := ih r p s1 q
    exact ⟨1 + n + 1 + m, s2, t2, p2, (((go1 (step_call ..)).tr g1).tr (go1 (step_leaf_ret ..))).tr g2, q2⟩
  | handled own k ih =>
    intro p s h
    refine go ?_ (ih (if own then Γ.own else Γ.handled) p s h)
    show M.step s ⟨.handled own _, Γ.code, p, st⟩ = _
    rw [step_handled]
    cases own
    · rw [hf.handled]; rfl
    · rw [hf.own]; rfl
  | genState g k ih => exact fun p s ⟨y, hy, h⟩ => go (step_genState _ _ _ _ _ _ hy) (ih _ _ _ h)
  | newGen c k ih => exact fun p s h => go (step_newGen ..) (ih _ _ _ h)
  | resume g r l k ih =>
    intro p s h
    obtain ⟨n, s1, res, g1, q⟩ := h (lv l) (fun x => (k x).wrap K J gd lv) st hf
    obtain ⟨m, s2, t2, p2, g2, q2⟩ := ih res p s1 q
    exact ⟨n + m, s2, t2, p2, g1.tr g2, q2⟩
  | stack k ih =>
    intro p s h
    refine go ?_ (ih ((Γ.code, p) :: Γ.below) p s h)
    rw [hf.below]; exact step_stack ..
  | thread k ih => exact fun p s h => go (step_thread ..) (ih _ _ _ h)
  | unsupported | finish | «yield» | fork | await | register => exact fun p s h => h.elim
theorem sg_wrap {α : Type} {m : Sem α} {K : α → Sem PySem.Fin} {J : Value → Sem PySem.Fin} {gd : Bool → Bool} {lv : List Value → List Value}
    (h : anyE M (A.over c fs) m (fun x s' => SegL M A R Y n s₀ c (K x) fs s') (fun x s' => SegL M A R Y n s₀ c (J x) fs s') s) : SegL M A R Y n s₀ c (m.wrap K J gd lv) fs s :=
  segL_go fun Γ p base h1 h2 h3 => by
    subst h1
    obtain ⟨k, s', t', p', g, q⟩ := wpL_wrap (h3.over fs) K J gd lv m p s (h (Γ.over fs) p (h2.over fs))
    rcases q with ⟨x, rfl, q⟩ | ⟨x, rfl, q⟩
    · exact ⟨k, s', _, _, p', fs, g, q⟩
    · exact ⟨k, s', _, _, p', fs, g, q⟩
theorem sg_bind {α : Type} {m : Sem α} {K : α → Sem PySem.Fin} (h : anyL M (A.over c fs) m (fun x s' => SegL M A R Y n s₀ c (K x) fs s') s) : SegL M A R Y n s₀ c (m >>= K) fs s := by
  rw [Sem.bind_eq_wrap']
  exact sg_wrap (aE_of h)
theorem sg_again (hq : c'.quiet = true) (h : SegL M A R Y n s₀ c' (M.den c') fs s) : SegL M A R Y n s₀ c (.pure (.again c')) fs s :=
  segL_go fun Γ p base h1 h2 h3 => ⟨1, s, _, _, p, fs, go1 (step_again _ _ _ _ _ _ hq), h⟩
theorem sg_call {hd : Option Value} {g : Bool} {l : List Value} {k : Result → Sem PySem.Fin} (h : ∀ p, SegL M A R Y n s₀ c' (M.den c') (.ret k hd g l c p [] :: fs) s) : SegL M A R Y n s₀ c (.call c' hd g l k) fs s :=
  segL_go fun Γ p base h1 h2 h3 => ⟨1, s, _, _, p, _, go1 (step_call ..), h p⟩
theorem sg_leaf {k : Result → Sem PySem.Fin} {hd : Option Value} {g : Bool} {l : List Value} {c₁ : Code} {p₁ : Pos} {kp : List Value} (r : Result) (h : SegL M A R Y n s₀ c₁ (k r) fs s) : SegL M A R Y n s₀ c (leafOf r) (.ret k hd g l c₁ p₁ kp :: fs) s :=
  segL_go fun Γ p base h1 h2 h3 => ⟨1, s, _, _, p₁, fs, go1 (step_leaf_ret ..), h⟩
theorem sg_end (r : Result) (h : R n s₀ r s) : SegL M A R Y n s₀ c (leafOf r) [] s := segL_iff.mpr fun Γ p base h1 h2 h3 => ⟨0, s, _, _, p, [], .refl, .inl ⟨r, rfl, rfl, h⟩⟩
theorem sg_yield {v : Value} {g : Bool} {l : List Value} {k : Resume → Sem PySem.Fin} (hs : splitAtGen fs = none) (hg : fs.any Frame.guarded = false) (hq : g = false ∨ SoftC s c)
    (h : Y n s₀ v s fun g' s'' => SegL M A R Y n g' c (k (.send .none)) fs s'') : SegL M A R Y (n + 1) s₀ c (.yield v g l k) fs s :=
  segL_iff.mpr fun Γ p base h1 h2 h3 => ⟨0, s, _, _, p, fs, .refl, .inr ⟨v, g, l, k, n, rfl, rfl, hs, hg, hq, h⟩⟩

/-- what a state of a generator will do -/
def Goes {G : Type} (M : Model) (A : Around) (R : EndL G) (Y : HandL G) (n : Nat) (s₀ : G) (y : GenState) (s : Shared) : Prop :=
  match y with
  | .fresh c => SegL M A R Y n s₀ c (M.den c) [] s
  | .suspended k _ c _ fs _ => SegL M A R Y n s₀ c (k (.send .none)) fs s
  | _ => False
theorem Goes.cool {y z : GenState} (e : MR.cool y = MR.cool z) (h : Goes M A R Y n s₀ y s) : Goes M A R Y n s₀ z s := by
  cases y <;> cases z <;> simp only [MR.cool] at e <;> cases e <;> exact h
theorem okz_yield {s : Shared} {v : Value} {g : Bool} {l : List Value} {k : Resume → Sem PySem.Fin} {c : Code} {p : Pos} {pre base : List Frame} {b : Nat × (GenResult → Sem PySem.Fin) × Code × Pos} {rest : List Frame} (hs : splitAtGen base = some (pre, b, rest)) (hg : pre.any Frame.guarded = false) (hq : g = false ∨ SoftC s c) :
    Okz s ⟨.yield v g l k, c, p, base⟩ := by
  rcases hq with rfl | ⟨a, args, kw, o, ec, ho, hn⟩
  · exact .inl (by rw [Thread.loud_yield _ _ _ _ _ _ hs, hg]; rfl)
  · exact .inr ⟨v, g, l, k, a, args, kw, o, rfl, ec, fun fs b' rest' e => by
      have e : splitAtGen base = _ := e
      rw [hs] at e
      cases e
      exact hg, ho, hn⟩
/-- waking a generator on the machine -/
theorem wak_of {Γ : Ctx} {p : Pos} {g : Nat} {y : GenState} {B : Around} (hB : Γ.In B) (hy : s.gens[g]? = some y) (h : Goes M B R Y n s₀ y (s.setGen g .running)) {P : GenResult → Shared → Prop}
    (hr : ∀ r s1, s.gens.size ≤ s1.gens.size → R n s₀ r s1 → P (End.ret r).result (s1.setGen g .finished))
    (hv : ∀ m v s1 z, s.gens.size ≤ s1.gens.size → n = m + 1 → Y m s₀ v s1 (fun g' s'' => Goes M B R Y m g' z s'') → P (.yielded v) (s1.setGen g z)) : WakL M Γ p g (.send .none) s P := fun l k base hf => by
  have main : ∀ (c : Code) (pos : Pos) (t : Sem PySem.Fin) (fs : List Frame), M.step s ⟨.resume g (.send .none) l k, Γ.code, p, base⟩ = .go (s.setGen g .running) ⟨t, c, pos, fs ++ .gen g k l Γ.code p :: base⟩ → SegL M B R Y n s₀ c t fs (s.setGen g .running) →
      ∃ n s' res, Go M n s ⟨.resume g (.send .none) l k, Γ.code, p, base⟩ s' ⟨k res, Γ.code, p, base⟩ ∧ P res s' := fun c pos t fs hst hseg => by
    obtain ⟨m, s1, cur, c1, p1, pre, g1, q⟩ := segL_iff.mp hseg (Γ.wake c p) pos (.gen g k l Γ.code p :: base) rfl (hB.wake c p) (hf.wake c g k l p)
    have hz : s.gens.size ≤ s1.gens.size := by
      have q1 := go_gsz g1
      have q2 : (s.setGen g .running).gens.size = s.gens.size := by simp [Shared.setGen]
      omega
    rcases q with ⟨r, rfl, rfl, q⟩ | ⟨v, gd, l0, k0, j, rfl, rfl, hs, hg, hq, q⟩
    · exact ⟨1 + m + 1, _, _, ((go1 hst).tr g1).tr (go1 (step_leaf_gen _ _ _ _ _ r g k l Γ.code p)), hr r s1 hz q⟩
    · have hsp : splitAtGen (pre ++ .gen g k l Γ.code p :: base) = some (pre, (g, k, Γ.code, p), base) := by
        rw [splitAtGen_append_none _ hs, splitAtGen_gen]; simp
      have hs2 : stepK M.den M.prog M.w s1 ⟨.yield v gd l0 k0, c1, p1, pre ++ .gen g k l Γ.code p :: base⟩ = .go (s1.setGen g (.suspended k0 l0 c1 p1 pre (gd || pre.any Frame.guarded))) ⟨k (.yielded v), Γ.code, p, base⟩ := by
        simp only [stepK, PySem.step, hsp]; rfl
      exact ⟨1 + m + 1, _, _, ((go1 hst).tr g1).tr (.step (okz_yield hsp hg hq) hs2 .refl), hv j v s1 _ hz rfl q⟩
  cases y with
  | fresh c => exact main c p (M.den c) [] (step_resume_fresh _ _ _ _ _ _ _ hy) h
  | suspended k₀ l₀ c₀ p₀ fs cl => exact main c₀ p₀ (k₀ (.send .none)) fs (step_resume_suspended _ _ _ _ _ _ _ _ hy) h
  | running => exact h.elim
  | finished => exact h.elim
end
end MR
end
section
set_option linter.all false
set_option maxRecDepth 100000
set_option maxHeartbeats 4000000
/-! MG2: trees that call nothing, exactly; the turn of a generator; yield from over a generator; list(g). -/
namespace MR
open PySem

/-- no code runs here -/
def voidM (M : Model) : Model := ⟨fun _ => .unsupported "", M.prog, M.w⟩
theorem wp_bot {α : Type} (M : Model) (Γ : PySem.Ctx) (t : Sem α) : ∀ p s, ¬ Sem.wp M Γ t (fun _ _ _ => False) (fun _ _ _ => False) p s := by
  induction t with
  | pure x => exact fun p s h => h
  | raise x => exact fun p s h => h
  | load a part k ih => exact fun p s ⟨o, ho, h⟩ => ih _ _ _ h
  | update a part f k ih => exact fun p s ⟨ho, h⟩ => ih _ _ _ h
  | choose src n k ih => exact fun p s ⟨ho, h⟩ => ih _ _ _ h
  | genState g k ih => exact fun p s ⟨y, hy, h⟩ => ih _ _ _ h
  | call c hd g l k ih => exact fun p s ⟨r, s', _, h⟩ => ih _ _ _ h
  | resume g r l k ih => exact fun p s ⟨r, s', _, h⟩ => ih _ _ _ h
  | unsupported | finish | «yield» | fork | await | register => exact fun p s h => h
  | _ => rename_i ih; exact fun p s h => ih _ _ _ h
theorem wpL_exact {α : Type} (M : Model) (Γ : PySem.Ctx) (G : Array GenState) (t : Sem α) {Q : α → Pos → Shared → Prop} {E : Value → Pos → Shared → Prop} : ∀ p s, s.gens = #[] →
    Sem.wp (voidM M) Γ t (fun x p' s' => s'.gens.size = 0 ∧ Q x p' { s' with gens := G }) (fun x p' s' => s'.gens.size = 0 ∧ E x p' { s' with gens := G }) p s → wpL M Γ t Q E p { s with gens := G } := by
  induction t with
  | pure x => exact fun p s e h => h.2
  | raise x => exact fun p s e h => h.2
  | load a part k ih => exact fun p s e ⟨o, ho, h⟩ => ⟨o, ho, ih _ _ _ e h⟩
  | update a part f k ih => exact fun p s e ⟨ho, h⟩ => ⟨ho, ih () p { s with heap := s.heap.update a f } e h⟩
  | choose src n k ih => exact fun p s e ⟨hn, h⟩ => ⟨hn, ih _ p { s with drawn := s.drawn.bump src } e h⟩
  | alloc o k ih => exact fun p s e h => ih _ p { s with heap := s.heap.push o } e h
  | fresh k ih => exact fun p s e h => ih _ p { s with toks := s.toks + 1 } e h
  | os q l k ih => exact fun p s e h => ih _ p { s with os := (Os.step s.os q).1 } e h
  | genState g k ih =>
    rintro p s e ⟨y, hy, h⟩
    rw [e] at hy
    simp at hy
  | newGen c k ih =>
    intro p s e h
    exfalso
    have h : Sem.wp (voidM M) Γ (k s.gens.size) _ _ p { s with gens := s.gens.push (.fresh c) } := h
    have h2 := GenW.wp_gsz (voidM M) Γ 1 (k s.gens.size) _ _ p { s with gens := s.gens.push (.fresh c) } (by show 1 ≤ (s.gens.push (.fresh c)).size; rw [Array.size_push]; omega) h
    exact wp_bot _ _ _ _ _ (Sem.wp_mono _ _ _ (fun x p' s' q => by obtain ⟨q1, q2, _⟩ := q; omega) (fun x p' s' q => by obtain ⟨q1, q2, _⟩ := q; omega) p _ h2)
  | call c hd g l k ih =>
    rintro p s e ⟨r, s', hr, h⟩
    have hr : Runs (voidM M) (Γ.enter c hd p) p (.unsupported "") [] s (.ret r) s' := hr
    cases hr
  | resume g r l k ih =>
    rintro p s e ⟨res, s', hw, h⟩
    unfold Wakes at hw
    rw [e] at hw
    simp at hw
  | unsupported | finish | «yield» | fork | await | register => exact fun p s e h => h.elim
  | _ => rename_i ih; exact fun p s e h => ih _ _ _ e h
theorem aE_exact {α : Type} {M : Model} {A : Around} {s : Shared} {t : Sem α} {Q : α → Shared → Prop} {E : Value → Shared → Prop}
    (h : wpAny (voidM M) A t (fun x s' => s'.gens.size = 0 ∧ Q x { s' with gens := s.gens }) (fun x s' => s'.gens.size = 0 ∧ E x { s' with gens := s.gens }) { s with gens := #[] }) : anyE M A t Q E s := fun Γ p hΓ =>
  wpL_exact M Γ s.gens t p { s with gens := #[] } rfl (h Γ p hΓ)

/-! ### a generator's object -/
def GenAt (h : Heap) (a : Addr) (g : Nat) : Prop :=
  ∃ o nm qn, h.get? a = some o ∧ o.cls = .type "generator" ∧ o.data = .fields #[.int g 0, nm, qn] ∧ (o.slots = #[] ∨ ∃ t, o.slots[0]? = some (some (.int 0 t)))
theorem GenAt.keeps {h h' : Heap} {a : Addr} {g : Nat} (x : GenAt h a g) (k : ∀ o, h.get? a = some o → h'.get? a = some o) : GenAt h' a g :=
  let ⟨o, nm, qn, ho, r⟩ := x
  ⟨o, nm, qn, k o ho, r⟩
theorem GenAt.typeIs {s : Shared} {a : Addr} {g : Nat} (x : GenAt s.heap a g) : s.TypeIs (.ref a) "generator" := let ⟨o, _, _, ho, hc, _⟩ := x; ⟨o, ho, hc⟩
theorem GenAt.number {h : Heap} {a : Addr} {g : Nat} (x : GenAt h a g) : ∃ o, h.get? a = some o ∧ o.genNumber?.isSome = true := by
  obtain ⟨o, nm, qn, ho, hc, hd, _⟩ := x
  refine ⟨o, ho, ?_⟩
  unfold Obj.genNumber?
  rw [hc, hd]
  rfl
section
variable {M : Model} {A : Around} {s : Shared} {a : Addr} {g : Nat} {E : Value → Shared → Prop}
theorem aE_load {o : Obj} {Q : Obj → Shared → Prop} (ho : s.heap.get? a = some o) (h : Q o s) : anyE M A (load a) Q E s := fun _ _ _ => ⟨o, ho, h⟩
theorem aE_rule {tag : String} {Q : Unit → Shared → Prop} (h : Q () s) : anyE M A (rule tag) Q E s := fun _ _ _ => h
theorem aE_genNumber {Q : Nat → Shared → Prop} (x : GenAt s.heap a g) (h : Q g s) : anyE M A (Builtin.Generator.genNumber (.ref a)) Q E s := by
  obtain ⟨o, nm, qn, ho, hc, hd, hs⟩ := x
  unfold Builtin.Generator.genNumber
  refine aE_bind (aE_load ho ?_)
  rcases hs with hs | ⟨t, hs⟩
  · rw [hs, hd]
    show anyE M A (pure ((g : Int).toNat)) Q E s
    rw [Int.toNat_natCast]; exact aE_pure h
  · rw [hs, hd]
    show anyE M A (if (0 : Int) > 0 then _ else _) Q E s
    rw [if_neg (by decide)]
    show anyE M A (pure ((g : Int).toNat)) Q E s
    rw [Int.toNat_natCast]; exact aE_pure h
theorem aE_eq {α : Type} {t : Sem α} {x : α} {Q : α → Shared → Prop} (e : t = pure x) (h : Q x s) : anyE M A t Q E s := e ▸ aE_pure h
theorem aE_typeOf {T : String} {Q : Value → Shared → Prop} {v : Value} (hT : s.TypeIs v T) (h : Q (.type T) s) : anyE M A (typeOf v) Q E s :=
  aE_exact (wpAny_typeOf (s := { s with gens := #[] }) (by cases v <;> exact hT) ⟨rfl, h⟩)
theorem aE_specialOf {T : String} {name : Str} {r : Option Value} {Q : Option Value → Shared → Prop} {v : Value} (hT : s.TypeIs v T) (hl : typeLookup (.type T) name = pure r) (h : Q r s) : anyE M A (specialOf v name) Q E s :=
  aE_exact (wpAny_specialOf (s := { s with gens := #[] }) (by cases v <;> exact hT) hl ⟨rfl, h⟩)
theorem aE_isInstance {T U : String} {b : Bool} {Q : Bool → Shared → Prop} {v : Value} (hT : s.TypeIs v T) (hl : isSubtype (.type T) (.type U) = pure b) (h : Q b s) : anyE M A (isInstance v (.type U)) Q E s :=
  aE_exact (wpAny_isInstance (s := { s with gens := #[] }) (by cases v <;> exact hT) hl ⟨rfl, h⟩)
theorem aE_resume {Q : GenResult → Shared → Prop} (h : ∀ Γ p, Γ.In A → WakL M Γ p g (.send .none) s fun res s' => Q res s') : anyE M A (resume g (.send .none)) Q E s := fun Γ p hΓ => h Γ p hΓ
end
section
variable {prog : Program} {w : World} {A : Around} {s : Shared} {a : Addr} {g n : Nat} {E : Value → Shared → Prop} {G : Type} {s₀ : G} {R : EndL G} {Y : HandL G}
/-- a builtin's slot, called -/
theorem aE_slotCall {T : String} {name : Str} {id : String} {b : Builtin} {self : Value} {rest : List Value} {Q : Value → Shared → Prop} (h : Slot T name id) (hT : s.TypeIs self T) (hb : entryFor table id = some b)
    (hc : anyE (model prog w) A.in1 (b ⟨self :: rest, []⟩) (fun fin s' => ∃ v, fin = .done (.ret v) ∧ Q v s') E s) (ha : argsOk id ⟨self :: rest, []⟩) : anyE (model prog w) A (call (.builtin id) (self :: rest)) Q E s := by
  refine aE_call (codeE_tree ?_)
  show anyE _ A.in1 (do checkBuiltinCall id ⟨self :: rest, []⟩; again (.builtin id ⟨self :: rest, []⟩)) _ _ s
  refine aE_bind (aE_exact (h.check _ _ _ { s with gens := #[] } _ _ _ _ (by cases self <;> exact hT) ha ⟨rfl, aE_pure ⟨plainId_quiet h.plain _, codeE_tree ?_⟩⟩))
  rw [Around.under_plainId h.plain]
  show anyE _ _ (match entryFor table id with | some b => b ⟨self :: rest, []⟩ | none => unsupported ((withoutEnding? id "#data").getD id)) _ _ s
  rw [hb]
  refine aE_imp hc (fun fin s' q => ?_) fun _ _ q => q
  obtain ⟨v, rfl, q⟩ := q
  exact q
theorem aE_special {self : Value} {T : String} {name : Str} {id : String} {args : List Value} {Q : Option Value → Shared → Prop} (hT : s.TypeIs self T) (h : Slot T name id)
    (hc : anyE (model prog w) A (call (.builtin id) (self :: args)) (fun v s' => Q (some v) s') E s) : anyE (model prog w) A (callSpecial? self name args) Q E s := by
  simp only [callSpecial?]
  refine aE_bind (aE_specialOf hT h.lookup ?_)
  simp only [h.bind]
  exact aE_hold (aE_bind (aE_pure (aE_bind (aE_imp hc (fun v s' q => aE_pure q) fun _ _ q => q))))
/-- an exception that ends an iterator, with no value -/
def Stops (e : Value) (h : Heap) : Prop := ∃ (x : Addr) (o : Obj) (vs : Array Value), e = .ref x ∧ h.get? x = some o ∧ o.cls = .type "StopIteration" ∧ o.data = .fields vs ∧ vs[5]? = some Value.none
/-- the next turn of a generator -/
theorem aE_genNext {y : GenState} {Q : Option Value → Shared → Prop} (hh : A.handled = none) (hl : s.heap.NoLimit) (hd : A.depth < recursionLimit) (hg : GenAt s.heap a g) (hy : s.gens[g]? = some y)
    (ho : Goes (model prog w) A.in1 R Y n s₀ y (s.setGen g .running))
    (hv : ∀ m v s1 z, s.gens.size ≤ s1.gens.size → n = m + 1 → Y m s₀ v s1 (fun g' s'' => Goes (model prog w) A.in1 R Y m g' z s'') → Q (some v) (s1.setGen g z))
    (hr : ∀ r s1, s.gens.size ≤ s1.gens.size → R n s₀ r s1 → (r = .ok (.ret .none) ∨ r = .ok .next) ∧ ∀ e h' , Stops e h' → (∀ b o, s1.heap.get? b = some o → h'.get? b = some o) → E e { s1.setGen g .finished with heap := h' }) :
    anyE (model prog w) A (callSpecial? (.ref a) "__next__") Q E s := by
  refine aE_special hg.typeIs slot_gen_next (aE_slotCall slot_gen_next hg.typeIs entry_gen_next ?_ (args_gen_next _))
  show anyE _ A.in1 (Builtin.Generator.genWake (.ref a) (.send .none)) _ _ s
  unfold Builtin.Generator.genWake
  refine aE_bind (aE_hold (aE_genNumber hg (aE_bind ?_)))
  have st : ∀ {Q' : GenStatus → Shared → Prop}, Q' y.status s → anyE (model prog w) A.in1 (genState g) Q' E s := fun q Γ p hΓ => ⟨y, hy, by
    show wpL _ Γ (Sem.pure y.seen.1) _ _ p s
    rw [GenState.seen_fst]; exact q⟩
  refine st ?_
  have wake : ∀ {Q' : GenResult → Shared → Prop}, (∀ r s1, s.gens.size ≤ s1.gens.size → R n s₀ r s1 → Q' (End.ret r).result (s1.setGen g .finished)) → (∀ m v s1 z, s.gens.size ≤ s1.gens.size → n = m + 1 → Y m s₀ v s1 (fun g' s'' => Goes (model prog w) A.in1 R Y m g' z s'') → Q' (.yielded v) (s1.setGen g z)) →
      anyE (model prog w) A.in1 (resume g (.send .none)) Q' E s := fun h1 h2 => aE_resume fun Γ p hΓ => wak_of hΓ hy ho h1 h2
  have room : ∀ {Q' : Unit → Shared → Prop}, Q' () s → anyE (model prog w) A.in1 roomToWake Q' E s := fun q => aE_exact (wpAny_roomToWake (s := { s with gens := #[] }) hl hd ⟨rfl, q⟩)
  have rest : anyE (model prog w) A.in1 (do
      roomToWake
      match ← resume g (.send .none) with
      | .yielded v => ret v
      | .returned v =>
        if v == .none then raiseNew (← newExc (.type "StopIteration") [])
        rule "generator.return-value"; throw (← newExc (.type "StopIteration") [v])
      | .raised e => Builtin.Generator.genLeft (.ref a) e
      | .running => rule "generator.already-executing"; raiseError "ValueError" "generator already executing"
      | .justStarted => rule "generator.send-to-fresh"; raiseError "TypeError" "can't send non-None value to a just-started generator"
      | .finished => raiseNew (← newExc (.type "StopIteration") [])) (fun fin s' => ∃ v, fin = .done (.ret v) ∧ Q (some v) s') E s := by
    refine aE_bind (room (aE_bind (wake (fun r s1 hz hR => ?_) fun m v s1 z hz en hY => ?_)))
    · obtain ⟨hr1, hr2⟩ := hr r s1 hz hR
      have hres : End.result (.ret r) = .returned .none := by rcases hr1 with rfl | rfl <;> rfl
      rw [hres]
      show anyE _ A.in1 (newExc (.type "StopIteration") [] >>= _) _ _ _
      refine aE_bind (aE_exact ?_)
      simp only [newExc, newTuple]
      refine wpAny_bind (wpAny_newObj_type ?_ (by size_fits))
      refine wpAny_bind (m := firstArgMember _ _) (wpAny_of_eq (a := Value.none) (by first | rfl | (simp only [firstArgMember]; rfl)) ?_)
      refine wpAny_newObj_type ⟨rfl, ?_⟩ (by size_fits)
      refine aE_bind ?_
      simp only [raiseNew]
      refine aE_exact (wpAny_bind (wpAny_handled ?_))
      rw [show A.in1.handled = none from hh]
      refine wpAny_throw ⟨rfl, ?_⟩
      refine hr2 _ _ ⟨_, _, _, rfl, Heap.get?_push_size _ rfl, rfl, rfl, rfl⟩ fun b o hb => Heap.get?_push_of_some _ (Heap.get?_push_of_some _ hb)
    · exact aE_pure ⟨v, rfl, hv m v s1 z hz en hY⟩
  cases y with
  | running => exact ho.elim
  | finished => exact ho.elim
  | fresh c => exact rest
  | suspended k l c p fs cl => exact rest
end
end MR
end
section
set_option linter.all false
set_option maxRecDepth 100000
set_option maxHeartbeats 4000000
/-! MG3: the statements of a generator on the machine. -/
namespace MR
open PySem L2 PySem.Spec MG

/-- the tracked heap has grown -/
def Hx (H H' : Hp) : Prop := ∀ b o, H b = some o → H' b = some o
theorem Hx.refl (H : Hp) : Hx H H := fun _ _ h => h
theorem Hx.trans {H H' H'' : Hp} (x : Hx H H') (y : Hx H' H'') : Hx H H'' := fun b o h => y b o (x b o h)
/-- generators are never taken away, whatever runs -/
theorem wpL_gsz {α : Type} (M : Model) (Γ : PySem.Ctx) (m : Nat) (t : Sem α) {Q : α → Pos → Shared → Prop} {E : Value → Pos → Shared → Prop} : ∀ p s, m ≤ s.gens.size → wpL M Γ t Q E p s →
    wpL M Γ t (fun x p' s' => Q x p' s' ∧ m ≤ s'.gens.size) (fun x p' s' => E x p' s' ∧ m ≤ s'.gens.size) p s := by
  induction t with
  | pure x => exact fun p s hm h => ⟨h, hm⟩
  | raise x => exact fun p s hm h => ⟨h, hm⟩
  | load a part k ih => exact fun p s hm ⟨o, ho, h⟩ => ⟨o, ho, ih _ _ _ hm h⟩
  | update a part f k ih => exact fun p s hm ⟨ho, h⟩ => ⟨ho, ih () p { s with heap := s.heap.update a f } hm h⟩
  | choose src n k ih => exact fun p s hm ⟨hn, h⟩ => ⟨hn, ih _ p { s with drawn := s.drawn.bump src } hm h⟩
  | alloc o k ih => exact fun p s hm h => ih _ p { s with heap := s.heap.push o } hm h
  | fresh k ih => exact fun p s hm h => ih _ p { s with toks := s.toks + 1 } hm h
  | os q l k ih => exact fun p s hm h => ih _ p { s with os := (Os.step s.os q).1 } hm h
  | genState g k ih => exact fun p s hm ⟨y, hy, h⟩ => ⟨y, hy, ih _ _ _ hm h⟩
  | newGen c k ih =>
    intro p s hm h
    refine ih _ p { s with gens := s.gens.push (.fresh c) } ?_ h
    show m ≤ (s.gens.push (.fresh c)).size
    rw [Array.size_push]; omega
  | call c hd g l k ih =>
    intro p s hm h base hf
    obtain ⟨n, s', r, c', p', go, q⟩ := h base hf
    exact ⟨n, s', r, c', p', go, ih r p s' (Nat.le_trans hm (go_gsz go)) q⟩
  | resume g r l k ih =>
    intro p s hm h l' k' base hf
    obtain ⟨n, s', res, go, q⟩ := h l' k' base hf
    exact ⟨n, s', res, go, ih res p s' (Nat.le_trans hm (go_gsz go)) q⟩
  | unsupported | finish | «yield» | fork | await | register => exact fun p s hm h => h.elim
  | _ => rename_i ih; exact fun p s hm h => ih _ _ _ hm h
theorem aL_gsz {α : Type} {M : Model} {A : Around} {t : Sem α} {Q : α → Shared → Prop} {s : Shared} (h : anyL M A t Q s) : anyL M A t (fun x s' => Q x s' ∧ s.gens.size ≤ s'.gens.size) s := fun Γ p hΓ =>
  wpL_imp M Γ t (fun _ _ _ q => q) (fun _ _ _ q => q.1) p s (wpL_gsz M Γ s.gens.size t p s (Nat.le_refl _) (h Γ p hΓ))

/-- what the consumers own: it may change while the generator sleeps, never while it runs -/
structure Watch (X : Cx) (Wl : List Addr) : Prop where
  young : ∀ b ∈ Wl, b ∈ X.ex ∨ X.s_0.heap.objs.size ≤ b
  loc : ∀ b ∈ Wl, b ≠ X.env.locals
  cells : ∀ b ∈ Wl, ∀ x c, X.env.cells.lookup x = some c → c ≠ b
  fs : ∀ b ∈ Wl, b ∉ X.fs
  pn : ∀ b ∈ Wl, ∀ p ∈ X.pn, p.1 ≠ b
/-- running since s₀ -/
structure GI (X : Cx) (Wl : List Addr) (ip : List (Addr × Obj)) (s₀ : Shared) (σ : St) (H : Hp) (s : Shared) : Prop where
  obj : ∀ b ∈ Wl, ∃ o, s₀.heap.get? b = some o ∧ ∀ v, o.data ≠ .cell v
  apart : ∀ p ∈ ip, p.1 ∉ Wl
  inv : Inv X (ip ++ pinsAt Wl s₀.heap) σ H (coolS s)
def Cold (ok : Nat → Prop) (s : Shared) : Prop := ∀ j, Hot s j → ok j
def Run (ok : Nat → Prop) (g : Nat) (s : Shared) : Prop := Cold ok s ∧ g < s.gens.size
/-- asleep -/
structure Slp (Wl : List Addr) (g : Nat) (s s' : Shared) : Prop where
  os : s'.os = s.os
  keep : ∀ b o, b ∉ Wl → s.heap.get? b = some o → s'.heap.get? b = some o
  obj : ∀ b ∈ Wl, ∃ o, s'.heap.get? b = some o ∧ ∀ v, o.data ≠ .cell v
  gens : ∀ j, g < j → (s'.gens[j]?).map cool = (s.gens[j]?).map cool
  size : s.gens.size ≤ s'.gens.size
  cl : Cl s s'
theorem coolS_bare (s : Shared) : PyProof.Rows.AllBare (coolS s).gens := fun y hy => by
  have hy : y ∈ s.gens.map cool := hy
  obtain ⟨z, _, rfl⟩ := Array.mem_map.mp hy
  cases z <;> rfl
section
variable {ok : Nat → Prop} {X : Cx} {Wl : List Addr} {ip : List (Addr × Obj)} {s₀ s s' : Shared} {σ : St} {H : Hp} {g : Nat}
theorem GI.at (I : GI X Wl ip s₀ σ H s) {b : Addr} (hb : b ∈ Wl) : ∃ o, s₀.heap.get? b = some o ∧ s.heap.get? b = some o ∧ (∀ v, o.data ≠ .cell v) ∧ H b = none := by
  obtain ⟨o, ho, hd⟩ := I.obj b hb
  obtain ⟨h1, h2, _⟩ := I.inv.pin (b, o) (List.mem_append_right _ (List.mem_append_right _ (mem_pinsAt hb ho)))
  exact ⟨o, ho, h1, hd, h2⟩
theorem GI.woken (Wt : Watch X Wl) (I : GI X Wl ip s₀ σ H s) (z : Slp Wl g s s') : GI X Wl ip s' σ H s' := by
  have I0 : Inv X ip σ H (coolS s) := I.inv.pins_of fun p hp => I.inv.pin p (List.mem_append_right _ (List.mem_append_left _ hp))
  have hW : ∀ b ∈ Wl, H b = none := fun b hb => (I.at hb).choose_spec.2.2.2
  have nt : ∀ b u, H b = some u → b ∉ Wl := fun b u q hb => by rw [hW b hb] at q; cases q
  have I1 : Inv X ip σ H { coolS s with heap := s'.heap, gens := (coolS s').gens, drawn := s'.drawn, toks := s'.toks } := by
    refine I0.step (ch := Wl) (fun b hb => ⟨Wt.young b hb, Wt.loc b hb, Wt.cells b hb, fun p hp => ?_⟩)
      (fun b o _ _ hc q _ => z.keep b o hc q) (fun b o _ _ hc q _ => ⟨o.slots, z.keep b o hc q⟩) (fun _ _ _ _ n => n) (fun b o hc q => ⟨o, z.keep b o hc q⟩)
      (fun _ _ q => q) (fun _ _ _ q => q) (fun b ps q => ⟨#[], by rw [q]; simp⟩) (fun m hm => ?_) (fun b u q => ?_) (coolS_bare s')
    · rcases List.mem_append.mp hp with hp | hp
      · exact Wt.pn b hb p hp
      · exact fun e => I.apart p hp (e ▸ hb)
    · obtain ⟨o, es, ep, ho, r⟩ := hm
      exact ⟨o, es, ep, z.keep _ o (fun hb => Wt.loc _ hb rfl) ho, r⟩
    · refine (I0.hok b u q).stay (fun c v hc y => z.keep c v ?_ y) (fun _ y => y) fun _ _ y => y
      rcases hc with y | y
      · rw [y]; exact nt b u q
      · exact nt c _ y
  have e : ({ coolS s with heap := s'.heap, gens := (coolS s').gens, drawn := s'.drawn, toks := s'.toks } : Shared) = coolS s' := by
    show (⟨s'.heap, _, s'.drawn, s'.toks, s.os⟩ : Shared) = ⟨s'.heap, _, s'.drawn, s'.toks, s'.os⟩
    rw [z.os]; rfl
  rw [e] at I1
  refine ⟨z.obj, I.apart, I1.pinned (fun b hb => ⟨hW b hb, Wt.loc b hb, Wt.fs b hb, Wt.young b hb, Wt.cells b hb, fun p hp => ?_⟩) z.obj⟩
  rcases List.mem_append.mp hp with hp | hp
  · exact Wt.pn b hb p hp
  · exact fun e => I.apart p hp (e ▸ hb)
theorem GI.zi (I : GI X Wl ip s₀ σ H s) (c : Cold ok s) : ZI ok X (ip ++ pinsAt Wl s₀.heap) σ H s := ⟨I.inv, c⟩
theorem GI.zi' {σ' : St} {H' : Hp} (I : GI X Wl ip s₀ σ H s) (J : ZI ok X (ip ++ pinsAt Wl s₀.heap) σ' H' s') : GI X Wl ip s₀ σ' H' s' := ⟨I.obj, I.apart, J.inv⟩
end

def Rem {α : Type} (all : List α) (n : Nat) : List α := all.drop (all.length - n)
theorem Rem.step {α : Type} {all : List α} {n : Nat} {d : α} {rest : List α} (hn : n ≤ all.length) (h : Rem all n = d :: rest) : ∃ m, n = m + 1 ∧ Rem all m = rest := by
  unfold Rem at h ⊢
  have hlt : all.length - n < all.length := by
    rcases Nat.lt_or_ge (all.length - n) all.length with h1 | h1
    · exact h1
    · rw [List.drop_eq_nil_of_le h1] at h; cases h
  obtain ⟨m, rfl⟩ : ∃ m, n = m + 1 := ⟨n - 1, by omega⟩
  refine ⟨m, rfl, ?_⟩
  have e : all.length - m = all.length - (m + 1) + 1 := by omega
  rw [e, ← List.drop_drop, h]
  rfl

/-- a hand-out: the next of all, laid new and tracked; what was tracked before still is -/
def YG (X : Cx) (Wl : List Addr) (g : Nat) (all : List HO) : HandL (Shared × Hp) := fun m gh v s kap =>
  ∃ d ip σ H p, m + 1 ≤ all.length ∧ Rem all (m + 1) = d :: Rem all m ∧ GI X Wl ip gh.1 σ H s ∧ v = .ref p ∧ H p = some d ∧ Hx gh.2 H ∧ ∀ s', Slp Wl g s s' → kap (s', H) s'
def RG (ok : Nat → Prop) (X : Cx) (Wl : List Addr) (all : List HO) : EndL (Shared × Hp) := fun n gh r s =>
  n = 0 ∧ (r = .ok (.ret .none) ∨ r = .ok .next) ∧ Cold ok s ∧ ∃ ip σ H, GI X Wl ip gh.1 σ H s ∧ Hx gh.2 H

/-! ### where the code stands -/
structure GCc (X : Cx) (A : Around) (c : Code) (fs : List Frame) (gd : Bool → Bool) : Prop where
  over : A.over c fs = X.A
  split : splitAtGen fs = none
  guard : fs.any Frame.guarded = false
  gd : gd false = false
theorem wrap_bind {α β : Type} {m : Sem α} {f : α → Sem β} {K : β → Sem PySem.Fin} {J : Value → Sem PySem.Fin} {gd : Bool → Bool} {lv : List Value → List Value} :
    (m >>= f).wrap K J gd lv = m.wrap (fun x => (f x).wrap K J gd lv) J gd lv := by
  rw [Sem.bind_eq_wrap', Sem.wrap_wrap]
  rfl
section
variable {G : Type} {M : Model} {A : Around} {R : EndL G} {Y : HandL G} {n : Nat} {s₀ : G} {s : Shared} {c : Code} {fs : List Frame} {gd : Bool → Bool} {lv : List Value → List Value}
theorem sgw_bind {α β : Type} {m : Sem α} {f : α → Sem β} {K : β → Sem PySem.Fin} {J : Value → Sem PySem.Fin}
    (h : anyL M (A.over c fs) m (fun x s' => SegL M A R Y n s₀ c ((f x).wrap K J gd lv) fs s') s) : SegL M A R Y n s₀ c ((m >>= f).wrap K J gd lv) fs s := by
  rw [wrap_bind]
  exact sg_wrap (aE_of h)
theorem sg_at {p' : Pos} {k : Unit → Sem PySem.Fin} (h : SegL M A R Y n s₀ c (k ()) fs s) : SegL M A R Y n s₀ c (.at p' k) fs s :=
  segL_go fun Γ p base h1 h2 h3 => ⟨1, s, _, _, p', fs, go1 (step_at ..), h⟩
theorem sg_point {l : List Value} {k : Unit → Sem PySem.Fin} (h : SegL M A R Y n s₀ c (k ()) fs s) : SegL M A R Y n s₀ c (.point l k) fs s :=
  segL_go fun Γ p base h1 h2 h3 => ⟨1, s, _, _, p, fs, go1 (step_point ..), h⟩
theorem sg_rule {tag : String} {k : Unit → Sem PySem.Fin} (h : SegL M A R Y n s₀ c (k ()) fs s) : SegL M A R Y n s₀ c (.rule tag k) fs s :=
  segL_go fun Γ p base h1 h2 h3 => ⟨1, s, _, _, p, fs, go1 (step_rule ..), h⟩
end

/-- one statement: from P to Q -/
def G1 (ok : Nat → Prop) (X : Cx) (Wl : List Addr) (g : Nat) (all : List HO) (st : Stmt) (P Q : Nat → St → Hp → Prop) : Prop :=
  ∀ (A : Around) (R : EndL (Shared × Hp)) (ip : List (Addr × Obj)) (n : Nat) (s₀ : Shared) (Hq : Hp) (c : Code) (fs : List Frame) (K : Flow → Sem PySem.Fin) (J : Value → Sem PySem.Fin) (gd : Bool → Bool) (lv : List Value → List Value) (s : Shared) (σ : St) (H : Hp),
    GCc X A c fs gd → GI X Wl ip s₀ σ H s → Hx Hq H → Run ok g s → P n σ H →
    (∀ n' s₀' Hq' s' σ' H', GI X Wl ip s₀' σ' H' s' → Hx Hq' H' → Run ok g s' → Q n' σ' H' → SegL (model X.prog X.w) A R (YG X Wl g all) n' (s₀', Hq') c (K .next) fs s') →
    SegL (model X.prog X.w) A R (YG X Wl g all) n (s₀, Hq) c ((exec st X.env).wrap K J gd lv) fs s
def GS (ok : Nat → Prop) (X : Cx) (Wl : List Addr) (g : Nat) (all : List HO) (sts : List Stmt) (P Q : Nat → St → Hp → Prop) : Prop :=
  ∀ (A : Around) (R : EndL (Shared × Hp)) (ip : List (Addr × Obj)) (n : Nat) (s₀ : Shared) (Hq : Hp) (c : Code) (fs : List Frame) (K : Flow → Sem PySem.Fin) (J : Value → Sem PySem.Fin) (gd : Bool → Bool) (lv : List Value → List Value) (s : Shared) (σ : St) (H : Hp),
    GCc X A c fs gd → GI X Wl ip s₀ σ H s → Hx Hq H → Run ok g s → P n σ H →
    (∀ n' s₀' Hq' s' σ' H', GI X Wl ip s₀' σ' H' s' → Hx Hq' H' → Run ok g s' → Q n' σ' H' → SegL (model X.prog X.w) A R (YG X Wl g all) n' (s₀', Hq') c (K .next) fs s') →
    SegL (model X.prog X.w) A R (YG X Wl g all) n (s₀, Hq) c ((execs sts X.env).wrap K J gd lv) fs s
section
variable {ok : Nat → Prop} {X : Cx} {Wl : List Addr} {g : Nat} {all : List HO} {P Q P' M' : Nat → St → Hp → Prop} {st : Stmt} {sts : List Stmt} {e : Expr} {pos yp : Pos}
theorem gs_nil (h : ∀ n σ H, P n σ H → Q n σ H) : GS ok X Wl g all [] P Q := fun A R ip n s₀ Hq c fs K J gd lv s σ H gc I hx co p k => k n s₀ Hq s σ H I hx co (h _ _ _ p)
theorem gs_cons (a : G1 ok X Wl g all st P M') (b : GS ok X Wl g all sts M' Q) : GS ok X Wl g all (st :: sts) P Q := fun A R ip n s₀ Hq c fs K J gd lv s σ H gc I hx co p k => by
  rw [execs_cons_wrap]
  exact a A R ip n s₀ Hq c fs _ J gd lv s σ H gc I hx co p fun n' s₀' Hq' s' σ' H' I' hx' co' q => b A R ip n' s₀' Hq' c fs K J gd lv s' σ' H' gc I' hx' co' q k
theorem G1.pre (h : G1 ok X Wl g all st P Q) (i : ∀ n σ H, P' n σ H → P n σ H) : G1 ok X Wl g all st P' Q := fun A R ip n s₀ Hq c fs K J gd lv s σ H gc I hx co p k => h A R ip n s₀ Hq c fs K J gd lv s σ H gc I hx co (i _ _ _ p) k
theorem g_if {c : Expr} {as bs : List Stmt} {tc : TT} (nx : NoX X) (hc : PT X c tc) (B : Bool → Nat → St → Hp → Prop) (h : ∀ n σ H, P n σ H → tc σ H fun b H1 => Hx H H1 ∧ B b n σ H1) (ha : GS ok X Wl g all as (B true) Q) (hb : GS ok X Wl g all bs (B false) Q) :
    G1 ok X Wl g all (.If c as bs pos) P Q := fun A R ip n s₀ Hq cd fs K J gd lv s σ H gc I hx co p k => by
  rw [exec_If, wrap_bind]
  refine sg_wrap (aE_of (aL_stand ?_))
  refine sgw_bind ?_
  rw [gc.over]
  refine aL_imp (aL_gsz ((tz nx hc).run ok _ s σ H _ (I.zi co.1) (h n σ H p))) fun b s1 ⟨⟨H1, I1, hx1, q1⟩, hz⟩ => ?_
  cases b with
  | true => exact ha A R ip n s₀ Hq cd fs K J gd lv s1 σ H1 gc (I.zi' I1) (hx.trans hx1) ⟨I1.hot, Nat.lt_of_lt_of_le co.2 hz⟩ q1 k
  | false => exact hb A R ip n s₀ Hq cd fs K J gd lv s1 σ H1 gc (I.zi' I1) (hx.trans hx1) ⟨I1.hot, Nat.lt_of_lt_of_le co.2 hz⟩ q1 k
theorem g_yield {te : TE} (nx : NoX X) (Wt : Watch X Wl) (he : PE X e te) (h : ∀ n σ H, P n σ H → n ≤ all.length ∧ ∃ d rest, Rem all n = d :: rest ∧ te σ H fun x H1 => ∃ p, x = .ref p ∧ H1 p = some d ∧ Hx H H1 ∧ ∀ m, Rem all m = rest → m + 1 = n → Q m σ H1)
    (hco : X.env.scope.isCoroutine = false) (hi : interactive X.env = false) : G1 ok X Wl g all (.Expr (.Yield (some e) yp) pos) P Q := fun A R ip n s₀ Hq c fs K J gd lv s σ H gc I hx co p k => by
  obtain ⟨hn, d, rest, hd, ht⟩ := h n σ H p
  obtain ⟨m, rfl, hm⟩ := Rem.step hn hd
  rw [exec_Expr X.env _ pos hi rfl]
  show SegL _ A R _ (m + 1) (s₀, Hq) c (.at pos fun _ => ((eval e X.env >>= fun v => (standAt yp >>= fun _ => yieldOut X.env v)) >>= fun x => dropValue (.Yield (some e) yp) pos x).wrap K J gd lv) fs s
  have hy : ∀ v, yieldOut X.env v = yieldValue v := fun v => by simp only [yieldOut, hco, Bool.false_eq_true, if_false]
  simp only [hy]
  refine sg_at ?_
  rw [wrap_bind, wrap_bind]
  refine sg_wrap ?_
  rw [gc.over]
  refine aE_of (aL_imp (aL_gsz ((ez nx he).run ok _ s σ H _ (I.zi co.1) ht)) fun v s1 ⟨⟨x, H1, I1, rv, q, ex, hq, hx1, hQ⟩, hz⟩ => ?_)
  subst ex
  cases rv
  refine sg_at ?_
  refine sg_yield gc.split gc.guard (.inl gc.gd) ?_
  refine ⟨d, ip, σ, H1, q, hn, ?_, I.zi' I1, rfl, hq, hx.trans hx1, fun s' z => ?_⟩
  · rw [hm]; exact hd
  · exact k m s' H1 s' σ H1 ((I.zi' I1).woken Wt z) (Hx.refl _) ⟨fun j hj => I1.hot j (z.cl j hj), Nat.lt_of_lt_of_le co.2 (Nat.le_trans hz z.size)⟩ (hQ m hm rfl)
end
end MR
end
section
set_option linter.all false
set_option maxRecDepth 100000
set_option maxHeartbeats 4000000
/-! MG4: for in a generator; yield from over a generator. -/
namespace MR
open PySem L2 PySem.Spec MG

section
variable {ok : Nat → Prop} {X : Cx} {Wl : List Addr} {g : Nat} {all : List HO} {P Q : Nat → St → Hp → Prop} {e : Expr} {pos yp : Pos}
theorem GI.with_pins {ip : List (Addr × Obj)} {s₀ s : Shared} {σ : St} {H : Hp} {fp : List Addr} (I : GI X Wl ip s₀ σ H s) (hf : ∀ b ∈ fp, FpOk X ip H b ∧ b ∉ Wl) (ho : ∀ b ∈ fp, ∃ o, s.heap.get? b = some o ∧ ∀ v, o.data ≠ .cell v) : GI X Wl (ip ++ pinsAt fp s.heap) s₀ σ H s := by
  refine ⟨I.obj, fun p hp => ?_, I.inv.pins_of fun p hp => ?_⟩
  · rcases List.mem_append.mp hp with z | z
    · exact I.apart p z
    · exact (hf p.1 (of_pinsAt z).1).2
  · rcases List.mem_append.mp hp with z | z
    · rcases List.mem_append.mp z with z | z
      · exact I.inv.pin p (List.mem_append_right _ (List.mem_append_left _ z))
      · obtain ⟨hb, e⟩ := of_pinsAt z
        obtain ⟨⟨f0, f1, f2, _⟩, _⟩ := hf p.1 hb
        obtain ⟨o, e', d⟩ := ho p.1 hb
        rw [e] at e'; cases e'
        exact ⟨e, f0, f1, f2, d⟩
    · exact I.inv.pin p (List.mem_append_right _ (List.mem_append_right _ z))
theorem GI.unpin {ip jp : List (Addr × Obj)} {s₀ s : Shared} {σ : St} {H : Hp} (I : GI X Wl (ip ++ jp) s₀ σ H s) : GI X Wl ip s₀ σ H s :=
  ⟨I.obj, fun p hp => I.apart p (List.mem_append_left _ hp), I.inv.pins_of fun p hp => I.inv.pin p (List.mem_append_right _ ((List.mem_append.mp hp).elim (fun z => List.mem_append_left _ (List.mem_append_left _ z)) fun z => List.mem_append_right _ z))⟩

/-- for over what is walked calmly -/
theorem g_for {tg : Expr} {body : List Stmt} {wi : TI} {tgr : TG} (nx : NoX X) (hc : X.calm = true) (hi : PI X tg e wi) (hg : PG X tg tgr) (len : Nat) (L B : Nat → Nat → St → Hp → Prop)
    (h : ∀ n σ H, P n σ H → wi σ H fun J H1 => Hx H H1 ∧ L 0 n σ H1 ∧ ∀ i n σ H, L i n σ H → i ≤ len ∧ (i = len → J.stop i H ∧ Q n σ H) ∧ (i < len → J.go i H ∧ ∀ x H', J.yld i H x H' → tgr x σ H' fun σ2 H2 => Hx H H2 ∧ B i n σ2 H2))
    (hb : ∀ i, i < len → GS ok X Wl g all body (B i) (L (i + 1))) (hs : ∀ x, foldedSetIterable e X.env x = pure x := by intro _; rfl) : G1 ok X Wl g all (.For tg e body [] pos) P Q := fun A R ip n s₀ Hq c fs K J gd lv s σ H gc I hx co p k => by
  rw [exec_For, wrap_bind]
  refine sg_wrap (aE_of (aL_stand ?_))
  refine sgw_bind ?_
  rw [gc.over]
  refine aL_imp (aL_gsz ((iz nx hi).run ok _ s σ H _ (I.zi co.1) (h n σ H p))) fun v s1 ⟨h1, hz1⟩ => ?_
  refine sgw_bind ?_
  rw [hs v]
  refine aL_pure ?_
  refine sgw_bind (aL_stand ?_)
  refine sgw_bind (aL_hold ?_)
  rw [gc.over]
  refine aL_imp (aL_gsz h1) fun itv s2 ⟨h2, hz2⟩ => ?_
  have hgs : g < s2.gens.size := Nat.lt_of_lt_of_le co.2 (Nat.le_trans hz1 hz2)
  obtain ⟨it, fp, tn, Jt, H2, e1, I2, T, st2, f2, hx2, l0, turn⟩ := h2
  subst e1
  have G2 : GI X Wl ip s₀ σ H2 s2 := I.zi' I2
  -- the loop's code
  show SegL _ A R _ n (s₀, Hq) c (.call (.forLoop tg (.ref it) body [] X.env) none (gd false) (lv []) _) fs s2
  refine sg_call fun p => ?_
  have over2 : A.over (.forLoop tg (.ref it) body [] X.env) (.ret (fun r => ((match r with | .ok f => (.pure f : Sem Flow) | .error e => .raise e).onRaise fun x => do
    if (← field x 1) == Value.none then unsupported "frame.own-activation:exception-without-traceback"
    setFlight x X.env.frame).wrap K J gd lv) none (gd false) (lv []) c p [] :: fs) = X.A := (GenW.over_loop rfl rfl).trans gc.over
  have notW : ∀ b ∈ fp, b ∉ Wl := fun b hb hw => by
    obtain ⟨o, ho, _⟩ := I.obj b hw
    exact (f2 b hb).2.2.2.2.2 (b, o) (List.mem_append_right _ (List.mem_append_right _ (mem_pinsAt hw ho))) rfl
  have stat : ∀ {s₀' : Shared} {H' : Hp}, (∀ b ∈ fp, H' b = none) → ∀ b ∈ fp, FpOk X (ip ++ pinsAt Wl s₀'.heap) H' b := fun hn b hb => by
    obtain ⟨_, g1, g2, g3, g4, g5⟩ := f2 b hb
    refine ⟨hn b hb, g1, g2, g3, g4, fun p hp => ?_⟩
    rcases List.mem_append.mp hp with z | z
    · exact g5 p (List.mem_append_left _ z)
    · rcases List.mem_append.mp z with z | z
      · exact g5 p (List.mem_append_right _ (List.mem_append_left _ z))
      · intro ee
        exact notW b hb (ee ▸ (of_pinsAt z).1)
  have stat2 : ∀ {H' : Hp}, (∀ b ∈ fp, H' b = none) → ∀ b ∈ fp, FpOk X ip H' b ∧ b ∉ Wl := fun hn b hb => by
    obtain ⟨_, g1, g2, g3, g4, g5⟩ := f2 b hb
    refine ⟨⟨hn b hb, g1, g2, g3, g4, fun p hp => ?_⟩, notW b hb⟩
    rcases List.mem_append.mp hp with z | z
    · exact g5 p (List.mem_append_left _ z)
    · exact g5 p (List.mem_append_right _ (List.mem_append_left _ z))
  have split2 : ∀ F : Frame, (∃ k h gg l cc pp kp, F = .ret k h gg l cc pp kp) → splitAtGen (F :: fs) = none := by
    rintro _ ⟨k, h, gg, l, cc, pp, kp, rfl⟩
    show (splitAtGen fs).map _ = none
    rw [gc.split]; rfl
  have loop : ∀ (r i : Nat), i + r = len → ∀ (n : Nat) (s₀ : Shared) (Hq : Hp) (s : Shared) (σ : St) (H : Hp), GI X Wl ip s₀ σ H s → Hx Hq H → Run ok g s → tn i s.heap → (∀ b ∈ fp, H b = none) → L i n σ H →
      SegL (model X.prog X.w) A R (YG X Wl g all) n (s₀, Hq) (.forLoop tg (.ref it) body [] X.env) ((model X.prog X.w).den (.forLoop tg (.ref it) body [] X.env)) (.ret (fun r => ((match r with | .ok f => (.pure f : Sem Flow) | .error e => .raise e).onRaise fun x => do
        if (← field x 1) == Value.none then unsupported "frame.own-activation:exception-without-traceback"
        setFlight x X.env.frame).wrap K J gd lv) none (gd false) (lv []) c p [] :: fs) s := by
    intro r
    induction r with
    | zero =>
      intro i hi n s₀ Hq s3 σ3 H3 I3 hx3 co3 st3 fr3 l3
      have hi : i = len := by omega
      subst hi
      obtain ⟨_, hstop, _⟩ := turn _ n σ3 H3 l3
      obtain ⟨stop, qn⟩ := hstop rfl
      show SegL _ A R _ n (s₀, Hq) _ ((forTurn tg (.ref it) body [] X.env).onRaise (fun x => do noteFrame x X.env; theTreesLotGoes x)) _ s3
      rw [Sem.onRaise_eq_wrap]
      unfold forTurn
      refine sgw_bind (aL_stand ?_)
      refine sgw_bind (aL_onRaise ?_)
      rw [over2]
      refine aL_imp (aL_gsz (lift1 nx (I3.zi co3.1) (coolS_coolS s3).symm (Cl.refl s3) (T.done X rfl rfl rfl hc _ _ (coolS s3) σ3 H3 X.xe I3.inv (stat fr3) st3 stop))) fun r s4 ⟨⟨s4c, e4, c4, hr, I4⟩, hz4⟩ => ?_
      subst hr
      have J4 := (I3.zi co3.1).back e4 c4 I4
      -- the loop's else: nothing
      show SegL _ A R _ n (s₀, Hq) _ (.pure (.again (.block [] X.env))) _ s4
      refine sg_again rfl ?_
      show SegL _ A R _ n (s₀, Hq) _ (do return Fin.done (← (execs [] X.env).onRaise (fun x => do noteFrame x X.env; theTreesLotGoes x))) _ s4
      show SegL _ A R _ n (s₀, Hq) _ (leafOf (.ok .next)) _ s4
      exact sg_leaf (.ok .next) (k n s₀ Hq s4 σ3 H3 (I3.zi' J4) hx3 ⟨J4.hot, Nat.lt_of_lt_of_le co3.2 hz4⟩ qn)
    | succ r ih =>
      intro i hi n s₀ Hq s3 σ3 H3 I3 hx3 co3 st3 fr3 l3
      obtain ⟨_, _, hgo⟩ := turn i n σ3 H3 l3
      obtain ⟨go, step⟩ := hgo (by omega)
      show SegL _ A R _ n (s₀, Hq) _ ((forTurn tg (.ref it) body [] X.env).onRaise (fun x => do noteFrame x X.env; theTreesLotGoes x)) _ s3
      rw [Sem.onRaise_eq_wrap]
      unfold forTurn
      refine sgw_bind (aL_stand ?_)
      refine sgw_bind (aL_onRaise ?_)
      rw [over2]
      refine aL_imp (aL_gsz (lift1 nx (I3.zi co3.1) (coolS_coolS s3).symm (Cl.refl s3) (T.item X rfl rfl rfl hc i _ (coolS s3) σ3 H3 X.xe I3.inv (stat fr3) st3 go))) fun r' s4 ⟨⟨s4c, e4, c4, u, hr, h4⟩, hz4⟩ => ?_
      subst hr
      refine sgw_bind ?_
      rw [over2]
      refine aL_imp (aL_gsz (lift1 nx (I3.zi co3.1) e4 c4 h4)) fun _ s5 ⟨⟨s5c, e5, c5, x, H5, I5, r5, y5, st5, fr5⟩, hz5⟩ => ?_
      have J5 := (I3.zi co3.1).back e5 c5 I5
      have G5 : GI X Wl ip s₀ σ3 H5 s5 := I3.zi' J5
      have st5' : tn (i + 1) s5.heap := by rw [show s5.heap = s5c.heap from (cool_parts e5).1]; exact st5
      have G5p := G5.with_pins (stat2 fr5) (T.obj _ _ st5')
      refine sgw_bind ?_
      rw [over2]
      refine aL_imp (aL_gsz (lift1 nx (G5p.zi J5.hot) (coolS_coolS s5).symm (Cl.refl s5) (hg.run _ (coolS s5) σ3 H5 x u _ G5p.inv r5 (step x H5 y5)))) fun _ s6 ⟨⟨s6c, e6, c6, σ6, H6, I6, hx6, q6⟩, hz6⟩ => ?_
      have J6 := (G5p.zi J5.hot).back e6 c6 I6
      rw [wrap_bind]
      refine hb i (by omega) A R (ip ++ pinsAt fp s5.heap) n s₀ Hq _ _ _ _ id id s6 σ6 H6 ⟨over2, split2 _ ⟨_, _, _, _, _, _, _, rfl⟩, ?_, rfl⟩ (G5p.zi' J6) (hx3.trans hx6) ⟨J6.hot, Nat.lt_of_lt_of_le co3.2 (Nat.le_trans hz4 (Nat.le_trans hz5 hz6))⟩ q6 fun n' s₀' Hq' s7 σ7 H7 I7 hx7 co7 q7 => ?_
      · show (gd false || fs.any Frame.guarded) = false
        rw [gc.gd, gc.guard]; rfl
      · show SegL _ A R _ n' (s₀', Hq') _ (.pure (.again (.forLoop tg (.ref it) body [] X.env))) _ s7
        refine sg_again rfl (ih (i + 1) (by omega) n' s₀' Hq' s7 σ7 H7 I7.unpin hx7 co7 (T.keep _ _ _ st5' fun b hb o e => ?_) (fun b hb => ?_) q7)
        · exact (I7.inv.pin (b, o) (List.mem_append_right _ (List.mem_append_left _ (List.mem_append_right _ (mem_pinsAt hb e))))).1
        · obtain ⟨o, e, d⟩ := T.obj _ _ st5' b hb
          exact (I7.inv.pin (b, o) (List.mem_append_right _ (List.mem_append_left _ (List.mem_append_right _ (mem_pinsAt hb e))))).2.1
  obtain ⟨hl, _⟩ := turn 0 n σ H2 l0
  exact loop len 0 (Nat.zero_add _) n s₀ Hq s2 σ H2 G2 (hx.trans hx2) ⟨I2.hot, hgs⟩ st2 (fun b hb => (f2 b hb).1) l0
end
end MR
end
section
set_option linter.all false
set_option maxRecDepth 100000
set_option maxHeartbeats 4000000
/-! MG5: yield from over a generator. -/
namespace MR
open PySem L2 PySem.Spec MG

/-! ### the mark at a generator's object -/
def GenS (h : Heap) (a : Addr) (g : Nat) (i : Int) : Prop :=
  ∃ o nm qn, h.get? a = some o ∧ o.cls = .type "generator" ∧ o.data = .fields #[.int g 0, nm, qn] ∧ ((i = 0 ∧ o.slots = #[]) ∨ ∃ t, o.slots[0]? = some (some (.int i t)))
theorem GenS.at {h : Heap} {a : Addr} {g : Nat} (x : GenS h a g 0) : GenAt h a g := by
  obtain ⟨o, nm, qn, h1, h2, h3, h4⟩ := x
  exact ⟨o, nm, qn, h1, h2, h3, h4.imp (fun z => z.2) id⟩
theorem GenAt.s {h : Heap} {a : Addr} {g : Nat} (x : GenAt h a g) : GenS h a g 0 := by
  obtain ⟨o, nm, qn, h1, h2, h3, h4⟩ := x
  exact ⟨o, nm, qn, h1, h2, h3, h4.imp (fun z => ⟨rfl, z⟩) id⟩
theorem GenS.keeps {h h' : Heap} {a : Addr} {g : Nat} {i : Int} (x : GenS h a g i) (k : ∀ o, h.get? a = some o → h'.get? a = some o) : GenS h' a g i :=
  let ⟨o, nm, qn, ho, r⟩ := x
  ⟨o, nm, qn, k o ho, r⟩
theorem GenS.typeIs {s : Shared} {a : Addr} {g : Nat} {i : Int} (x : GenS s.heap a g i) : s.TypeIs (.ref a) "generator" := let ⟨o, _, _, ho, hc, _⟩ := x; ⟨o, ho, hc⟩
theorem GenS.number {h : Heap} {a : Addr} {g : Nat} {i : Int} (x : GenS h a g i) : ∃ o, h.get? a = some o ∧ o.genNumber?.isSome = true := by
  obtain ⟨o, nm, qn, ho, hc, hd, _⟩ := x
  refine ⟨o, ho, ?_⟩
  unfold Obj.genNumber?
  rw [hc, hd]
  rfl
theorem aE_slept {M : Model} {A : Around} {s : Shared} {a : Addr} {g : Nat} {i j : Int} {b : Bool} {E : Value → Shared → Prop} {Q : Unit → Shared → Prop} (x : GenS s.heap a g i) (hj : j = if b then i + 1 else i - 1)
    (h : ∀ h', GenS h' a g j → (∀ c o, c ≠ a → s.heap.get? c = some o → h'.get? c = some o) → Q () { s with heap := h' }) : anyE M A (Builtin.Generator.sleptOver (.ref a) b) Q E s := by
  obtain ⟨o, nm, qn, ho, hc, hd, hs⟩ := x
  unfold Builtin.Generator.sleptOver
  refine aE_bind (aE_load ho ?_)
  rw [hc]
  have ne : (Value.type "generator" != Value.type "generator") = false := by decide
  rw [ne]
  have sl : ∀ v : Int, GenS (s.heap.update a fun o => { o with slots := (o.slots ++ Array.replicate (0 + 1 - o.slots.size) none).setIfInBounds 0 (some (rawInt v)) }) a g v := fun v => by
    refine ⟨_, nm, qn, Heap.get?_update_self _ ho (Obj.isFreed_of_fields hd), hc, hd, .inr ⟨0, ?_⟩⟩
    show ((o.slots ++ Array.replicate (0 + 1 - o.slots.size) none).setIfInBounds 0 (some (rawInt v)))[0]? = _
    rw [Array.getElem?_setIfInBounds]
    have hz : 0 < (o.slots ++ Array.replicate (0 + 1 - o.slots.size) (none : Option Value)).size := by
      rw [Array.size_append, Array.size_replicate]; omega
    rw [if_pos rfl, if_pos hz]
    rfl
  have set : ∀ {Q' : Unit → Shared → Prop} (v : Int), Q' () { s with heap := s.heap.update a fun o => { o with slots := (o.slots ++ Array.replicate (0 + 1 - o.slots.size) none).setIfInBounds 0 (some (rawInt v)) } } → anyE M A (setSlotAt a 0 (some (rawInt v))) Q' E s := fun v q => by
    unfold setSlotAt
    rw [if_neg (by decide)]
    exact aE_exact (wpAny_updatePart (s := { s with gens := #[] }) ho ⟨rfl, q⟩)
  have fin : ∀ v : Int, v = j → Q () { s with heap := s.heap.update a fun o => { o with slots := (o.slots ++ Array.replicate (0 + 1 - o.slots.size) none).setIfInBounds 0 (some (rawInt v)) } } := fun v e => by
    subst e
    exact h _ (sl v) fun c oc hca e => (Heap.get?_update_other _ _ (Ne.symm hca)).trans e
  rcases hs with ⟨rfl, hs⟩ | ⟨t, hs⟩
  · rw [hs]
    cases b
    · exact set _ (fin _ hj.symm)
    · exact set _ (fin _ hj.symm)
  · rw [hs]
    cases b
    · exact set _ (fin _ hj.symm)
    · exact set _ (fin _ hj.symm)
theorem gen_close : typeLookup (.type "generator") "close" = pure (some (.builtin "generator.close")) := by rw [typeLookup_type, builtinLookup_eq_fast]; kernel_rfl

/-- a builtin's code over code -/
theorem over_blt {A : Around} {c c' : Code} {fs : List Frame} {k : Result → Sem PySem.Fin} {g : Bool} {l kp : List Value} {p : Pos} (hw : c'.weight = 0) (hu : c'.cUnits = 1) :
    A.over c' (.ret k none g l c p kp :: fs) = (A.over c fs).in1 := by
  have q2 : A.depth + frameCount ((c, p) :: fs.map Frame.where_) + c'.weight = A.depth + frameCount (fs.map Frame.where_) + c.weight := by rw [frameCount_cons, hw]; omega
  have q3 : pushEnvs c'.envs (pushEnvs (envsOf ((c, p) :: fs.map Frame.where_)) A.frames) = pushEnvs c.envs (pushEnvs (envsOf (fs.map Frame.where_)) A.frames) := by
    rw [Code.envs_of_weight hw, envsOf_cons]
    simp only [pushEnvs_eq]
    cases A.frames <;> simp [List.append_assoc]
  have q4 : pushGuards c'.guards (pushGuards (guardsOf ((c, p) :: fs.map Frame.where_)) A.guards) = pushGuards c.guards (pushGuards (guardsOf (fs.map Frame.where_)) A.guards) := by
    rw [Code.guards_of_weight hw, guardsOf_cons]
    simp only [pushGuards_eq]
    cases A.guards <;> simp [List.append_assoc]
  have q5 : A.units + unitsOf ((c, p) :: fs.map Frame.where_) + c'.cUnits = A.units + unitsOf (fs.map Frame.where_) + c.cUnits + 1 := by rw [unitsOf_cons, hu]; omega
  show (⟨(marksOver fs (A.handled, A.handled)).1, A.depth + frameCount ((c, p) :: fs.map Frame.where_) + c'.weight, pushEnvs c'.envs (pushEnvs (envsOf ((c, p) :: fs.map Frame.where_)) A.frames),
    pushGuards c'.guards (pushGuards (guardsOf ((c, p) :: fs.map Frame.where_)) A.guards), A.units + unitsOf ((c, p) :: fs.map Frame.where_) + c'.cUnits⟩ : Around) = _
  rw [q2, q3, q4, q5]
  rfl
theorem Inv.same {X : Cx} {pins : List (Addr × Obj)} {σ : St} {H : Hp} {s s' : Shared} (I : Inv X pins σ H s) (hh : s'.heap = s.heap) (ho : s'.os = s.os) : Inv X pins σ H (coolS s') :=
  I.call' (ch := []) ho (by rw [show (coolS s').heap = s.heap from hh]; exact Un.refl) (by rw [show (coolS s').heap = s.heap from hh]; exact I.hok) (coolS_bare s') fun b z => absurd z (by simp)
abbrev yfC (a : Addr) : Code := .builtin "proto.yield_from" ⟨[.ref a, .bool false, .none], []⟩

section
variable {ok : Nat → Prop} {X : Cx} {Wl : List Addr} {g gc : Nat} {all items : List HO} {a : Addr} {A : Around} {R : EndL (Shared × Hp)} {fs : List Frame} {ip : List (Addr × Obj)} {σ : St} {H1 : Hp} {sc : Shared} {Xc : Cx} {n : Nat}
/-- what a delegating generator knows of the one that it made -/
structure Kid (X : Cx) (ip : List (Addr × Obj)) (σ : St) (H1 : Hp) (sc : Shared) (Wl : List Addr) (a : Addr) (g gc : Nat) (Xc : Cx) : Prop where
  inv : Inv X ip σ H1 sc
  old : sc.heap.objs.size ≤ a
  notW : a ∉ Wl
  lt : g < gc
  prog : Xc.prog = X.prog
  w : Xc.w = X.w
  s0 : Xc.s_0 = sc
  h0 : Xc.H_0 = H1
  fs : Xc.fs = frs X.stack
  ex : ∀ b ∈ Xc.ex, b ∈ Wl
theorem Kid.back (k : Kid X ip σ H1 sc Wl a g gc Xc) (Wt : Watch X Wl) (hip : ∀ p ∈ ip, p.1 ∉ Wl) {ipc : List (Addr × Obj)} {σc : St} {Hc : Hp} {s₀ s1 s2 : Shared} (I : GI Xc (a :: Wl) ipc s₀ σc Hc s1) (hos : s2.os = s1.os)
    (hk : ∀ b o, b ≠ a → s1.heap.get? b = some o → s2.heap.get? b = some o) : Inv X ip σ Hc (coolS s2) := by
  have J : Inv X ip σ Hc (coolS s1) := by
    refine k.inv.call' (ch := Xc.ex) ?_ ?_ ?_ (coolS_bare s1) fun b hb => ?_
    · have := I.inv.os
      rw [k.s0] at this
      exact this
    · have := I.inv.base
      rw [k.s0, k.h0, k.fs] at this
      exact this
    · have := I.inv.hok
      rw [k.prog, k.w] at this
      exact this
    · have hw := k.ex b hb
      refine ⟨Wt.young b hw, Wt.loc b hw, Wt.cells b hw, fun p hp => ?_⟩
      rcases List.mem_append.mp hp with hp | hp
      · exact Wt.pn b hw p hp
      · exact fun e => hip p hp (e ▸ hw)
  obtain ⟨_, _, _, _, ha⟩ := I.at (b := a) List.mem_cons_self
  have T := J.turned (it := a) (h' := s2.heap) (t' := s1.toks) hk ha (Nat.ne_of_gt (Nat.lt_of_lt_of_le k.inv.lt k.old)) (.inr (Nat.le_trans k.inv.sz k.old)) (fun x c e => by
    obtain ⟨v, q⟩ := k.inv.cell x c e
    exact Nat.ne_of_lt (Nat.lt_of_lt_of_le q.lt k.old)) fun p hp => Nat.ne_of_lt (Nat.lt_of_lt_of_le (Heap.lt_size (k.inv.pin p hp).1) k.old)
  exact Inv.same T rfl hos
theorem sg_yf (nx : NoX X) (k : Kid X ip σ H1 sc Wl a g gc Xc) (Wt : Watch X Wl) (hip : ∀ p ∈ ip, p.1 ∉ Wl) (rest : List HO)
    (hh : (A.over (yfC a) fs).handled = none) (hd : (A.over (yfC a) fs).depth < recursionLimit) (hsp : splitAtGen fs = none) (hgd : fs.any Frame.guarded = false)
    (fin : ∀ n s₀ Hq s Hc, n ≤ all.length → Rem all n = rest → GI X Wl ip s₀ σ Hc s → Hx Hq Hc → Run ok g s → Hx H1 Hc → SegL (model X.prog X.w) A R (YG X Wl g all) n (s₀, Hq) (yfC a) (.pure (.done (.ret .none))) fs s) :
    ∀ (mc n : Nat) (s₀ : Shared) (Hq HqC : Hp) (s : Shared) (Hs : Hp) (y : GenState), Hx Hq HqC → Hx H1 HqC → mc ≤ items.length → n ≤ all.length → Rem all n = Rem items mc ++ rest → GI X Wl ip s₀ σ Hs s → GenAt s.heap a gc → s.gens[gc]? = some y →
      Goes (model X.prog X.w) (A.over (yfC a) fs).in1 (RG ok Xc (a :: Wl) items) (YG Xc (a :: Wl) gc items) mc (s.setGen gc .running, HqC) y (s.setGen gc .running) →
      SegL (model X.prog X.w) A R (YG X Wl g all) n (s₀, Hq) (yfC a) ((model X.prog X.w).den (yfC a)) fs s := by
  intro mc
  induction mc with
  | zero =>
    intro n s₀ Hq HqC s Hs y hxa hxb hmc hn hrem I hga hy ho
    rw [den_yf]
    unfold Builtin.«proto.yield_from»
    try dsimp only
    refine sg_bind (aL_pure ?_)
    try dsimp only
    refine sg_bind (aE_attempt (aE_hold ?_))
    rw [if_neg Bool.false_ne_true, if_pos (show (Value.none == Value.none) = true from rfl)]
    refine aE_bind (aE_rule (aE_bind ?_))
    refine aE_genNext hh I.inv.nolimit hd hga hy ho (fun m v s1 z hz en hY => by omega) fun r s1 hz hR => ?_
    obtain ⟨_, hr, co1, ipc, σc, Hc, Ic, hex⟩ := hR
    refine ⟨hr, fun e h' hS hk => ?_⟩
    obtain ⟨x, o, vs, rfl, hx, hxc, hxd, hx5⟩ := hS
    try dsimp only
    refine sg_bind (aE_exact (wpAny_endsTurn (s := { s1.setGen gc .finished with heap := h', gens := #[] }) hx hxc ⟨rfl, ?_⟩))
    try dsimp only
    rw [if_pos rfl]
    first
      | refine sg_bind (aL_rule ?_)
      | (rw [if_neg Bool.false_ne_true]; refine sg_bind (aL_rule ?_))
      | (rw [if_neg Bool.false_ne_true]; refine sg_bind (aL_pure ?_); refine sg_bind (aL_rule ?_))
    refine sg_bind (aE_exact (wpAny_field (s := { s1.setGen gc .finished with heap := h', gens := #[] }) hx hxd hx5 ⟨rfl, ?_⟩))
    have hex : Hx HqC Hc := hex
    have IW : ∀ b o, s1.heap.get? b = some o → h'.get? b = some o := hk
    have J : Inv X ip σ Hc (coolS { s1.setGen gc .finished with heap := h' }) := k.back Wt hip Ic rfl fun b o _ e => hk b o e
    refine fin n s₀ Hq _ Hc hn ?_ ⟨I.obj, hip, J.pins_of fun p hp => ?_⟩ (hxa.trans hex) ⟨?_, ?_⟩ (hxb.trans hex)
    · rw [hrem]
      unfold Rem
      rw [Nat.sub_zero, List.drop_length]; rfl
    · rcases List.mem_append.mp hp with hp | hp
      · exact J.pin p (List.mem_append_right _ hp)
      · obtain ⟨hb, e0⟩ := of_pinsAt hp
        obtain ⟨o0, h0, h1, h2, _⟩ := I.at hb
        rw [e0] at h0; cases h0
        obtain ⟨o1, g0, g1, g2, g3⟩ := Ic.at (List.mem_cons_of_mem a hb)
        have : s.heap.get? p.1 = some o1 := g0
        rw [h1] at this; cases this
        exact ⟨hk _ _ g1, g3, Wt.loc _ hb, Wt.fs _ hb, g2⟩
    · rintro j ⟨w, hw, hq⟩
      have hw : (s1.gens.setIfInBounds gc .finished)[j]? = some w := hw
      rw [Array.getElem?_setIfInBounds] at hw
      split at hw
      · split at hw
        · cases hw; cases hq
        · cases hw
      · exact co1 j ⟨w, hw, hq⟩
    · show g < (s1.gens.setIfInBounds gc .finished).size
      rw [Array.size_setIfInBounds]
      have h1 := k.lt
      have h2 : gc < s.gens.size := (Array.getElem?_eq_some_iff.mp hy).1
      omega
  | succ m ih =>
    intro n s₀ Hq HqC s Hs y hxa hxb hmc hn hrem I hga hy ho
    rw [den_yf]
    unfold Builtin.«proto.yield_from»
    try dsimp only
    refine sg_bind (aL_pure ?_)
    try dsimp only
    refine sg_bind (aE_attempt (aE_hold ?_))
    rw [if_neg Bool.false_ne_true, if_pos (show (Value.none == Value.none) = true from rfl)]
    refine aE_bind (aE_rule (aE_bind ?_))
    refine aE_genNext hh I.inv.nolimit hd hga hy ho (fun m' v s1 z hz en hY => ?_) fun r s1 hz hR => by
      have := hR.1
      omega
    have em : m' = m := by omega
    subst em
    obtain ⟨d, ipc, σc, Hc, p, hml, hd1, Ic, rfl, hp, hex, kap⟩ := hY
    have hex : Hx HqC Hc := hex
    refine aE_pure ?_
    try dsimp only
    have hgcs : gc < s.gens.size := (Array.getElem?_eq_some_iff.mp hy).1
    obtain ⟨oa, ga0, ga1, _, ga3⟩ := Ic.at (b := a) List.mem_cons_self
    have hga1 : GenS (s1.setGen gc z).heap a gc 0 := hga.s.keeps fun o e => by
      have e2 : s.heap.get? a = some oa := ga0
      rw [e] at e2; cases e2
      exact ga1
    have hT : (s1.setGen gc z).TypeIs (.ref a) "generator" := GenS.typeIs hga1
    refine sg_bind (aE_typeOf hT ?_)
    try dsimp only
    refine sg_bind (aE_eq gen_close ?_)
    refine sg_bind (aL_pure ?_)
    try dsimp only
    refine sg_bind (aE_slept hga1 (j := 1) rfl fun h1 hgs hk1 => ?_)
    generalize hsb : ({ s1.setGen gc z with heap := h1 } : Shared) = sb
    have sbh : sb.heap = h1 := by rw [← hsb]
    have sbg : sb.gens = s1.gens.setIfInBounds gc z := by rw [← hsb]; rfl
    have sbo : sb.os = s1.os := by rw [← hsb]; rfl
    show SegL _ A R _ n (s₀, Hq) (yfC a) (.yield (.ref p) true [] fun r => (Sem.pure r : Sem Resume) >>= fun woken => Builtin.Generator.sleptOver (.ref a) false >>= fun _ => _) fs sb
    obtain ⟨np, rfl, hnp⟩ : ∃ m, n = m + 1 ∧ Rem all m = Rem items m' ++ rest := Rem.step hn (d := d) (by rw [hrem, hd1]; rfl)
    have J : Inv X ip σ Hc (coolS sb) := k.back Wt hip Ic sbo fun b o hb e => by rw [sbh]; exact hk1 b o hb e
    have GJ : GI X Wl ip s₀ σ Hc sb := ⟨I.obj, hip, J.pins_of fun q hq => by
      rcases List.mem_append.mp hq with hq | hq
      · exact J.pin q (List.mem_append_right _ hq)
      · obtain ⟨hb, e0⟩ := of_pinsAt hq
        obtain ⟨o0, h0, h1', h2, _⟩ := I.at hb
        rw [e0] at h0; cases h0
        obtain ⟨o1, g0, g1, g2, g3⟩ := Ic.at (List.mem_cons_of_mem a hb)
        have : s.heap.get? q.1 = some o1 := g0
        rw [h1'] at this; cases this
        refine ⟨?_, g3, Wt.loc _ hb, Wt.fs _ hb, g2⟩
        show sb.heap.get? q.1 = some q.2
        rw [sbh]
        exact hk1 _ _ (fun e => k.notW (e ▸ hb)) g1⟩
    refine sg_yield hsp hgd (.inr ?_) ?_
    · obtain ⟨o, h2, h3⟩ := hgs.number
      exact ⟨a, [.bool false, .none], [], o, rfl, by rw [sbh]; exact h2, h3⟩
    refine ⟨d, ip, σ, Hc, p, hn, ?_, GJ, rfl, hp, hxa.trans hex, fun s' z' => ?_⟩
    · rw [hrem, hd1, hnp]; rfl
    -- awake again
    have hgs' : GenS s'.heap a gc 1 := hgs.keeps fun o e => z'.keep a o k.notW (by rw [sbh]; exact e)
    show SegL _ A R _ np (s', Hc) (yfC a) (Builtin.Generator.sleptOver (.ref a) false >>= fun _ => _) fs s'
    refine sg_bind (aE_slept hgs' (j := 0) rfl fun h2 hgs2 hk2 => ?_)
    try dsimp only
    refine sg_bind (aL_pure ?_)
    generalize hs2 : ({ s' with heap := h2 } : Shared) = s2
    have s2h : s2.heap = h2 := by rw [← hs2]
    have s2g : s2.gens = s'.gens := by rw [← hs2]
    have s2o : s2.os = s'.os := by rw [← hs2]
    have W1 := GJ.woken Wt z'
    have G2 : GI X Wl ip s' σ Hc s2 := by
      refine ⟨W1.obj, hip, ?_⟩
      have T := W1.inv.turned (it := a) (h' := s2.heap) (t' := s'.toks) (fun b o hb e => by rw [s2h]; exact hk2 b o hb e) ga3 (Nat.ne_of_gt (Nat.lt_of_lt_of_le k.inv.lt k.old)) (.inr (Nat.le_trans k.inv.sz k.old)) (fun x c e => by
        obtain ⟨v, q⟩ := k.inv.cell x c e
        exact Nat.ne_of_lt (Nat.lt_of_lt_of_le q.lt k.old)) fun q hq => by
          rcases List.mem_append.mp hq with hq | hq
          · exact Nat.ne_of_lt (Nat.lt_of_lt_of_le (Heap.lt_size (k.inv.pin q (List.mem_append_left _ hq)).1) k.old)
          · rcases List.mem_append.mp hq with hq | hq
            · exact Nat.ne_of_lt (Nat.lt_of_lt_of_le (Heap.lt_size (k.inv.pin q (List.mem_append_right _ hq)).1) k.old)
            · exact fun e => k.notW (e ▸ (of_pinsAt hq).1)
      exact Inv.same T rfl s2o
    obtain ⟨z2, hz2, ez2⟩ : ∃ z2, s2.gens[gc]? = some z2 ∧ cool z2 = cool z := by
      have q : (s2.gens[gc]?).map cool = some (cool z) := by
        rw [s2g, z'.gens gc k.lt, sbg, Array.getElem?_setIfInBounds, if_pos rfl, if_pos (by omega)]; rfl
      cases e : s2.gens[gc]? with
      | none => rw [e] at q; cases q
      | some z2 => rw [e] at q; exact ⟨z2, rfl, Option.some.inj q⟩
    refine sg_again (plainId_quiet plain_yf _) (ih np s' Hc Hc s2 Hc z2 (Hx.refl _) (hxb.trans hex) (by omega) (by omega) hnp G2 ?_ ?_ ?_)
    · rw [s2h]; exact hgs2.at
    · exact hz2
    · refine Goes.cool ez2.symm (kap _ ⟨?_, fun b o hb e => ?_, fun b hb => ?_, fun j hj => ?_, ?_, fun j hj => ?_⟩)
      · show s2.os = s1.os
        rw [s2o, z'.os, sbo]
      · have hba : b ≠ a := fun e => hb (e ▸ List.mem_cons_self)
        have hbW : b ∉ Wl := fun h => hb (List.mem_cons_of_mem _ h)
        show s2.heap.get? b = some o
        rw [s2h]
        exact hk2 b o hba (z'.keep b o hbW (by rw [sbh]; exact hk1 b o hba e))
      · rcases List.mem_cons.mp hb with rfl | hb
        · obtain ⟨o, nm, qn, h1, h3, h4, _⟩ := hgs2
          refine ⟨o, by show s2.heap.get? _ = _; rw [s2h]; exact h1, fun v q => by rw [h4] at q; cases q⟩
        · obtain ⟨o, h1, h3⟩ := z'.obj b hb
          refine ⟨o, ?_, h3⟩
          show s2.heap.get? b = some o
          rw [s2h]
          exact hk2 b o (fun e => k.notW (e ▸ hb)) h1
      · show ((s2.gens.setIfInBounds gc .running)[j]?).map cool = _
        rw [Array.getElem?_setIfInBounds, if_neg (by omega), s2g, z'.gens j (by have := k.lt; omega), sbg, Array.getElem?_setIfInBounds, if_neg (by omega)]
      · show s1.gens.size ≤ (s2.gens.setIfInBounds gc .running).size
        rw [Array.size_setIfInBounds, s2g]
        have h1 := z'.size
        rw [sbg, Array.size_setIfInBounds] at h1
        exact h1
      · obtain ⟨w, hw, hq⟩ := hj
        have hw : (s2.gens.setIfInBounds gc .running)[j]? = some w := hw
        rw [Array.getElem?_setIfInBounds] at hw
        split at hw
        · split at hw
          · cases hw; cases hq
          · cases hw
        · rename_i hne
          rw [s2g] at hw
          obtain ⟨w2, hw2, hq2⟩ := z'.cl j ⟨w, hw, hq⟩
          rw [sbg, Array.getElem?_setIfInBounds, if_neg hne] at hw2
          exact ⟨w2, hw2, hq2⟩
end
end MR
end
section
set_option linter.all false
set_option maxRecDepth 100000
set_option maxHeartbeats 4000000
/-! MG6: a generator made; yield from as a statement; a generator def by its body. -/
namespace MR
open PySem L2 PySem.Spec MG

def WOk (base : Heap) (outer : List Env) (H : Hp) (sc s' : Shared) (a : Addr) (Wl : List Addr) : Prop :=
  ∀ b ∈ Wl, (b < sc.heap.objs.size ∧ base.get? b = none ∧ b ∉ frs outer ∧ H b = none) ∨ b = a ∨ s'.heap.objs.size ≤ b
/-- a generator that has not begun: what it will hand out -/
def GMk (P : Program) (w : World) (base : Heap) (k : Nat) (outer : List Env) (H : Hp) (sc : Shared) (items : List HO) (u : Value) (s' : Shared) : Prop :=
  ∃ a g c, u = .ref a ∧ sc.heap.objs.size ≤ a ∧ a < s'.heap.objs.size ∧ s'.heap.IsGen a g ∧ s'.gens[g]? = some (.fresh c) ∧ sc.gens.size ≤ g ∧ s'.os = sc.os ∧ (∀ b o, sc.heap.get? b = some o → s'.heap.get? b = some o) ∧
    ∀ (ok : Nat → Prop) (B : Around) (Wl : List Addr) (s2 : Shared), Room k B → B.frames = some outer → WOk base outer H sc s' a Wl → (∀ b o, s'.heap.get? b = some o → s2.heap.get? b = some o) →
      (∀ b ∈ Wl, ∃ o, s2.heap.get? b = some o ∧ ∀ v, o.data ≠ .cell v) → s2.os = sc.os → Run ok g s2 →
      ∃ Xc : Cx, Xc.prog = P ∧ Xc.w = w ∧ Xc.s_0 = sc ∧ Xc.H_0 = H ∧ Xc.fs = frs outer ∧ (∀ b ∈ Xc.ex, b ∈ Wl ∧ b < sc.heap.objs.size) ∧ SegL (model P w) B (RG ok Xc Wl items) (YG Xc Wl g items) items.length (s2, H) c ((model P w).den c) [] s2
abbrev TGz := St → Hp → (List HO → Hp → Prop) → Prop
structure PGn (X : Cx) (k : Nat) (e : Expr) (tg : TGz) : Prop where
  run : ∀ (ok : Nat → Prop) (pins : List (Addr × Obj)) (s : Shared) (σ : St) (H : Hp) (C : List HO → Hp → Prop), ZI ok X pins σ H s → tg σ H C →
    anyX X (eval e X.env) (fun u s' => ∃ (H1 : Hp) (sr : Shared) (items : List HO), Inv X pins σ H1 (coolS sr) ∧ s.gens.size ≤ sr.gens.size ∧ Cold ok s' ∧ GMk X.prog X.w X.base k X.stack H1 (coolS sr) items u s' ∧ C items H1) s
section
variable {ok : Nat → Prop} {X : Cx} {Wl : List Addr} {g : Nat} {all : List HO} {P Q : Nat → St → Hp → Prop} {e : Expr} {pos yp : Pos} {tg : TGz} {k : Nat}
theorem Rem.full {α : Type} (l : List α) : Rem l l.length = l := by unfold Rem; rw [Nat.sub_self]; rfl
theorem cold_set {s : Shared} {g : Nat} {y : GenState} (hy : hot y = false) (h : Cold ok s) : Cold ok (s.setGen g y) := fun j hj => h j (hot_set hy j hj)
theorem g_yf (nx : NoX X) (hc : X.calm = true) (Wt : Watch X Wl) (he : PGn X k e tg) (hr : Room (k + 1) X.A) (hst : X.stack = X.env :: X.outer) (hfr : X.env.frame = some X.env.locals) (hi : interactive X.env = false)
    (h : ∀ n σ H, P n σ H → tg σ H fun items H1 => Hx H H1 ∧ n ≤ all.length ∧ ∃ rest, Rem all n = items ++ rest ∧ ∀ H2 m, Hx H1 H2 → m ≤ all.length → Rem all m = rest → Q m σ H2) :
    G1 ok X Wl g all (.Expr (.YieldFrom e yp) pos) P Q := fun A R ip n s₀ Hq c fs K J gd lv s σ H gc I hx co p kk => by
  rw [exec_Expr X.env _ pos hi rfl]
  show SegL _ A R _ n (s₀, Hq) c (.at pos fun _ => ((eval e X.env >>= fun v => (standAt yp >>= fun _ => yieldFrom X.env v)) >>= fun x => dropValue (.YieldFrom e yp) pos x).wrap K J gd lv) fs s
  refine sg_at ?_
  rw [wrap_bind, wrap_bind]
  refine sg_wrap ?_
  rw [gc.over]
  refine aE_of (aL_imp (he.run ok _ s σ H _ (I.zi co.1) (h n σ H p)) fun u s1 ⟨H1, sr, items, Ic, hsz, co1, ⟨a, g1, cc, eu, ha1, ha2, hg, hgs, hlt, hos, hkp, wake⟩, hext, hn, rest, hrem, hQ⟩ => ?_)
  subst eu
  refine sg_at ?_
  show SegL _ A R _ n (s₀, Hq) c ((yieldFrom X.env (.ref a)).wrap (fun b => (dropValue (.YieldFrom e yp) pos b).wrap K J gd lv) J gd lv) fs s1
  unfold yieldFrom
  refine sgw_bind (aE_typeOf hg.typeIs ?_)
  rw [if_neg (by decide)]
  refine sgw_bind (aL_hold ?_)
  rw [gc.over]
  refine aL_imp (aL_calm (s0 := s1) (E := fun _ _ => False) (wpAny_pyIter_gen (s := coolS s1) (Q := fun v s' => v = .ref a ∧ s' = coolS s1) hg ⟨rfl, rfl⟩) (fun _ _ q => q) (coolS_coolS s1).symm (Cl.refl s1)) fun v s3 ⟨s3c, e3, c3, ev, es⟩ => ?_
  subst ev es
  rw [coolS_coolS] at e3
  obtain ⟨eh, _, _, eo, eg⟩ := cool_parts e3
  show SegL _ A R _ n (s₀, Hq) c (.call (yfC a) none (gd false) (lv []) _) fs s3
  refine sg_call fun p => ?_
  -- the watched ones
  have hWs : ∀ b ∈ Wl, ∃ o, (coolS sr).heap.get? b = some o ∧ s₀.heap.get? b = some o ∧ (∀ v, o.data ≠ .cell v) ∧ H1 b = none := fun b hb => by
    obtain ⟨o, ho, hd⟩ := I.obj b hb
    obtain ⟨q1, q2, _⟩ := Ic.pin (b, o) (List.mem_append_right _ (List.mem_append_right _ (mem_pinsAt hb ho)))
    exact ⟨o, q1, ho, hd, q2⟩
  have hWlt : ∀ b ∈ Wl, b < (coolS sr).heap.objs.size := fun b hb => by
    obtain ⟨o, q, _⟩ := hWs b hb
    exact Heap.lt_size q
  have haW : a ∉ Wl := fun hb => absurd (hWlt a hb) (Nat.not_lt.mpr ha1)
  have hgs3 : s3.gens[g1]? = some (.fresh cc) := by
    have q := cool_get eg g1
    rw [hgs] at q
    cases q' : s3.gens[g1]? with
    | none => rw [q'] at q; cases q
    | some z =>
      rw [q'] at q
      have q : cool z = cool (.fresh cc) := Option.some.inj q
      cases z <;> simp only [cool] at q <;> first | (cases q; rfl) | cases q
  have over2 : ∀ {kx : Result → Sem PySem.Fin} {lx : List Value}, A.over (yfC a) (.ret kx none (gd false) lx c p [] :: fs) = X.A.in1 := fun {kx lx} => (over_blt (plainId_weight plain_yf _) (plainId_units plain_yf _)).trans (by rw [gc.over])
  have hg1 : g < g1 := Nat.lt_of_lt_of_le (Nat.lt_of_lt_of_le co.2 hsz) (by
    have : (coolS sr).gens.size = sr.gens.size := by simp [coolS]
    omega)
  have hc3 : Cold ok s3 := fun j hj => co1 j (c3 j hj)
  have g1s : g1 < s3.gens.size := (Array.getElem?_eq_some_iff.mp hgs3).1
  have hgenA : ∃ o, s3.heap.get? a = some o ∧ ∀ v, o.data ≠ .cell v := by
    obtain ⟨o, nm, qn, ho, hc', hd, _⟩ := hg
    exact ⟨o, by rw [eh]; exact ho, fun v q => by rw [hd] at q; cases q⟩
  have hWobj : ∀ b ∈ a :: Wl, ∃ o, s3.heap.get? b = some o ∧ ∀ v, o.data ≠ .cell v := fun b hb => by
    rcases List.mem_cons.mp hb with rfl | hb
    · exact hgenA
    · obtain ⟨o, q1, q2, q3, q4⟩ := hWs b hb
      exact ⟨o, by rw [eh]; exact hkp b o q1, q3⟩
  obtain ⟨Xc, x1, x2, x3, x4, x5, x6, seg⟩ := wake ok X.A.in1.in1 (a :: Wl) (s3.setGen g1 .running) ⟨hr.hd, by have := hr.dp; show X.A.depth + 3 * k + 5 < _; omega, by have := hr.un; show X.A.units + 1 + 1 + 16 * k + 200 < _; omega⟩ I.inv.ok.frames
    (fun b hb => by
      rcases List.mem_cons.mp hb with rfl | hb
      · exact .inr (.inl rfl)
      · refine .inl ⟨hWlt b hb, ?_, ?_, ?_⟩
        · rcases Wt.young b hb with z | z
          · cases q : X.base.get? b with
            | none => rfl
            | some o => exact absurd z (I.inv.ok.noex b o q)
          · cases q : X.base.get? b with
            | none => rfl
            | some o => exact absurd (Nat.lt_of_lt_of_le (Heap.lt_size q) (Nat.le_trans I.inv.ok.bsz z)) (Nat.lt_irrefl _)
        · intro hm
          rcases List.mem_cons.mp (I.inv.stkSub b hm) with z | z
          · exact Wt.loc b hb z
          · exact Wt.fs b hb z
        · obtain ⟨o, _, _, _, q4⟩ := hWs b hb
          exact q4)
    (fun b o q => by show s3.heap.get? b = some o; rw [eh]; exact q) hWobj (by show s3.os = _; rw [eo]; exact hos) ⟨cold_set rfl hc3, by show g1 < (s3.gens.setIfInBounds g1 .running).size; rw [Array.size_setIfInBounds]; exact g1s⟩
  have kid : Kid X ip σ H1 (coolS sr) Wl a g g1 Xc := {
    inv := Ic.pins_of fun p hp => Ic.pin p (List.mem_append_right _ (List.mem_append_left _ hp))
    old := ha1
    notW := haW
    lt := hg1
    prog := x1
    w := x2
    s0 := x3
    h0 := x4
    fs := x5
    ex := fun b hb => by
      rcases List.mem_cons.mp (x6 b hb).1 with z | z
      · exact absurd (x6 b hb).2 (by rw [z]; exact Nat.not_lt.mpr ha1)
      · exact z }
  have G3 : GI X Wl ip s₀ σ H1 s3 := ⟨I.obj, I.apart, by
    have J : Inv X (ip ++ pinsAt Wl s₀.heap) σ H1 (coolS s3) := Ic.call' (ch := []) (by show s3.os = _; rw [eo]; exact hos) (by show Un _ _ _ _ _ s3.heap; rw [eh]; exact Un.kept hkp) (by show HOk _ _ _ s3.heap; rw [eh]; exact Ic.hok.kept hkp) (coolS_bare s3) fun b z => absurd z (by simp)
    exact J⟩
  refine sg_yf (ok := ok) (items := items) nx kid Wt I.apart rest ?_ ?_ ?_ ?_ (fun n' s₀' Hq' s' Hc hn' hrem' GI' hx' run' tp => ?_) items.length n s₀ Hq H1 s3 H1 (.fresh cc) (hx.trans hext) (Hx.refl _) (Nat.le_refl _) hn (by rw [Rem.full]; exact hrem) G3 ?_ hgs3 ?_
  · rw [over2]; exact hr.hd
  · rw [over2]; have := hr.dp; show X.A.depth < _; omega
  · show (splitAtGen fs).map _ = none
    rw [gc.split]; rfl
  · show (gd false || fs.any Frame.guarded) = false
    rw [gc.gd, gc.guard]; rfl
  · exact sg_leaf (.ok (.ret .none)) (kk n' s₀' Hq' s' σ Hc GI' hx' run' (hQ Hc n' tp hn' hrem'))
  · obtain ⟨o, nm, qn, ho, hc', hd, hsl⟩ := hg
    exact ⟨o, nm, qn, by rw [eh]; exact ho, hc', hd, .inl hsl⟩
  · rw [over2]; exact seg
end
end MR
end
section
set_option linter.all false
set_option maxRecDepth 100000
set_option maxHeartbeats 4000000
/-! MG7: a generator def by its body; its call. -/
namespace MR
open PySem L2 PySem.Spec MG

abbrev SpZ := List V → Hp → List HO → Prop
structure FnG (P : Program) (w : World) (K : PySem.W.Frag) (mg : Str → Option Value) (base : Heap) (k : Nat) (f : Addr) (fd : FuncData) (ps : List Str) (sp : SpZ) : Prop where
  len : ∀ vs H items, sp vs H items → vs.length = ps.length
  run : ∀ (ok : Nat → Prop) (A : Around) (outer : List Env) (s : Shared) (H : Hp) (args : Args) (us : List Value) (vs : List V) (items : List HO), Room k A → Env0 P w K mg base A outer (coolS s) H → Cold ok s → BindsTo (coolS s) fd args (ps.zip us) → Vals vs us → sp vs H items →
    flowL (model P w) A (.call (.ref f) args) (fun fl s' => ∃ u, fl = .ret u ∧ Cold ok s' ∧ GMk P w base k outer H (coolS s) items u s') s
/-- the context of a generator's body -/
def gz (P : Program) (w : World) (K : PySem.W.Frag) (mg : Str → Option Value) (base : Heap) (N : List Str) (qual : Str) (scope : Scope) (f : Addr) (cd : Value) (A : Around) (outer : List Env) (s : Shared) (H : Hp) (ex : List Addr) : Cx :=
  { gcxOf P w K mg base N qual scope f cd A outer s H E0 [] with ex := ex, xe := fun _ _ => False }
theorem sg_func {P : Program} {w : World} {A : Around} {G : Type} {R : EndL G} {Y : HandL G} {n : Nat} {s₀ : G} {s : Shared} {fs : List Frame} {env : Env} {body : List Stmt}
    (h : SegL (model P w) A R Y n s₀ (.func body env) ((execs body env).wrap (fun f => .pure (.done (.ret (match f with | .ret v => v | _ => .none)))) (fun e => (leaving env e).wrap (fun _ => .raise e) .raise id id) id id) fs s) :
    SegL (model P w) A R Y n s₀ (.func body env) ((model P w).den (.func body env)) fs s := by
  show SegL _ A R Y n s₀ _ (.point [] fun _ => ((execs body env).onRaise (leaving env)) >>= _) fs s
  refine sg_point ?_
  rw [Sem.onRaise_eq_wrap, Sem.bind_eq_wrap', Sem.wrap_wrap]
  rw [Sem.wrap_congr (execs body env) _ _ (K' := fun f => .pure (.done (.ret (match f with | .ret v => v | _ => .none))))
    (H' := fun e => (leaving env e).wrap (fun _ => .raise e) .raise id id) (fun f => by cases f <;> rfl)
    (fun e => by rw [Sem.bind_eq_wrap, Sem.wrap_wrap]; rfl)]
  exact h
theorem fnG_of {P : Program} {w : World} {K : PySem.W.Frag} {mg : Str → Option Value} {base : Heap} {k : Nat} {f : Addr} {name qual : Str} {params : Arguments} {body : List Stmt} {scope : Scope} {dV kV doc pm cdv ct oc : Value} {an od : Option Addr}
    {osl : Array (Option Value)} {N ps : List Str} {sp : SpZ} (lk : K.lookup f = some ⟨oc, od, .func (PySem.W.fnOf name qual params body scope dV kV doc pm an cdv ct), osl⟩) (hcd : PySem.W.codeIn K cdv qual = true) (S : GScope N ps scope)
    (len : ∀ vs H items, sp vs H items → vs.length = ps.length)
    (hbody : ∀ (B : Around) (outer : List Env) (s : Shared) (H : Hp) (vs : List V) (items : List HO) (ex Wl : List Addr) (ok : Nat → Prop) (g : Nat), Room k (B.deeper (PyProof.Rows.envOfC qual scope s.heap.objs.size f cdv)) → sp vs H items →
      Watch (gz P w K mg base N qual scope f cdv B outer s H ex) Wl → GS ok (gz P w K mg base N qual scope f cdv B outer s H ex) Wl g items body (fun n σ H' => n = items.length ∧ σ = start N vs ∧ H' = H) (fun n σ H' => n = 0)) :
    FnG P w K mg base (k + 1) f (PySem.W.fnOf name qual params body scope dV kV doc pm an cdv ct) ps sp := by
  refine ⟨len, fun ok A outer s H args us vs items hr e0 co hb r hsp => ?_⟩
  have hl := len _ _ _ hsp
  have KX : K.In s.heap := e0.mod.kin.keeps fun b o e => (e0.bs b o e).1
  have lim : s.heap.NoLimit := e0.mod.nolimit.keeps fun b o e => (e0.bs b o e).1
  have hkind : ∀ y ∈ ps.zip us, scope.names.lookup y.1 = some .local ∨ (scope.names.lookup y.1 = some .cell ∧ ((PySem.cellsFrom (s.heap.objs.size + 1) scope.names []).lookup y.1).isSome = true) := fun ⟨n, v⟩ hy => by
    rcases S.par n (List.of_mem_zip hy).1 with q | q
    · exact .inl q
    · exact .inr ⟨q, PySem.W.cellsFrom_some _ _ _ (.inl q)⟩
  -- the calm call
  have call : codeAny (model P w) A (.call (.ref f) args) (fun res s' => ∃ (s1 : Shared) (go : Obj) (nm qn : Value) (tk2 : Nat), res = .ok (.ret (.ref s1.heap.objs.size)) ∧
      InCallC (coolS s) s.heap.objs.size (bindL (PyProof.Rows.envOfC qual scope s.heap.objs.size f cdv).kindOf (ps.zip us) fun _ => none) (PySem.cellsFrom (s.heap.objs.size + 1) scope.names []) (bindC (PyProof.Rows.envOfC qual scope s.heap.objs.size f cdv).kindOf (ps.zip us) fun _ => none) s1 ∧
      go.cls = .type "generator" ∧ go.data = .fields #[.int s1.gens.size 0, nm, qn] ∧ go.slots = #[] ∧ (∀ h : Heap, (h.push go).get? h.objs.size = some go) ∧
      s' = { s1 with gens := s1.gens.push (.fresh (.func body (PyProof.Rows.envOfC qual scope s.heap.objs.size f cdv))), toks := tk2, heap := s1.heap.push go }) (coolS s) := by
    refine codeAny_call_generator hr.depth (KX _ _ lk) rfl S.co S.gen rfl (PySem.W.codeRec_of KX hcd) (hb _ _ _ _ ?_)
    refine wpAny_newFunctionEnv_cells S.kind hkind fun env he s1 x => ?_
    subst he
    exact ⟨lim.keeps x.toInCall.keep, s1, _, _, _, _, rfl, x, rfl, rfl, rfl, fun h => Heap.get?_push_size _ rfl, rfl⟩
  intro Γ pp hc hΓ
  refine RetL.imp (fL_calm (s0 := s) call (coolS_coolS s).symm (Cl.refl s) Γ pp hc hΓ) fun res s' ⟨sx, ex, cx, s1, go, nm, qn, tk2, er, x, hgc, hgd0, hgs, hgp, es⟩ => ?_
  refine ⟨_, er, _, rfl, fun j hj => co j (cx j hj), ?_⟩
  subst es
  obtain ⟨eh, _, _, eo, eg⟩ := cool_parts ex
  have eh : s'.heap = s1.heap.push go := eh
  have eo : s'.os = s1.os := eo
  have eg : s'.gens.map cool = (s1.gens.push (.fresh (.func body (PyProof.Rows.envOfC qual scope s.heap.objs.size f cdv)))).map cool := eg
  obtain ⟨h1, tk, es1, hk1⟩ := x.done
  have os1 : s1.os = s.os := by rw [es1]; rfl
  have gen1 : s1.gens = (coolS s).gens := by rw [es1]
  have lt1 : s.heap.objs.size < s1.heap.objs.size := x.toInCall.ns.lt
  have sz1 : s.heap.objs.size ≤ s1.heap.objs.size := Nat.le_of_lt lt1
  have kp1 : ∀ b o, s.heap.get? b = some o → s1.heap.get? b = some o := x.toInCall.keep
  have hpushed : s'.heap.get? s1.heap.objs.size = some go := by rw [eh]; exact hgp _
  have hfresh : s'.gens[s1.gens.size]? = some (.fresh (.func body (PyProof.Rows.envOfC qual scope s.heap.objs.size f cdv))) := by
    have q := cool_get eg s1.gens.size
    rw [Array.getElem?_push_size] at q
    cases q' : s'.gens[s1.gens.size]? with
    | none => rw [q'] at q; cases q
    | some z =>
      rw [q'] at q
      have q := Option.some.inj q
      cases z <;> simp only [cool] at q <;> first | (cases q; rfl) | cases q
  refine ⟨s1.heap.objs.size, s1.gens.size, _, rfl, sz1, ?_, ⟨go, nm, qn, hpushed, hgc, hgd0, hgs⟩, hfresh, by rw [gen1]; exact Nat.le_refl _, eo.trans os1, fun b o e => by rw [eh]; exact Heap.get?_push_of_some _ (kp1 b o e), ?_⟩
  · rw [eh, Heap.size_push]; exact Nat.lt_succ_self _
  intro ok2 B Wl s2 hrw hfr hW hk2 hobj hos run2
  have e0w : Env0 P w K mg base B outer (coolS s) H := ⟨hfr, e0.mod, e0.bs, e0.bsz, e0.funs, e0.frf, e0.hok, e0.bare⟩
  have I1 : Inv (gcxOf P w K mg base N qual scope f cdv B outer (coolS s) H E0 []) [] (start N vs) H s1 := inv_startG S hrw.hd e0w hl r x
  have kp2 : ∀ b o, s1.heap.get? b = some o → s2.heap.get? b = some o := fun b o e => hk2 b o (by rw [eh]; exact Heap.get?_push_of_some _ e)
  have I2 : Inv (gcxOf P w K mg base N qual scope f cdv B outer (coolS s) H E0 []) [] (start N vs) H (coolS s2) :=
    I1.call' (ch := []) (hos.trans os1.symm) (Un.kept kp2) (I1.hok.kept kp2) (coolS_bare s2) fun b z => by simp at z
  generalize hex : Wl.filter (fun b => decide (b < s.heap.objs.size)) = ex
  have hexm : ∀ b ∈ ex, b ∈ Wl ∧ b < s.heap.objs.size := fun b hb => by
    rw [← hex] at hb
    obtain ⟨q1, q2⟩ := List.mem_filter.mp hb
    exact ⟨q1, by simpa using q2⟩
  have s'sz : s'.heap.objs.size = s1.heap.objs.size + 1 := by rw [eh, Heap.size_push]
  have facts : ∀ b ∈ Wl, (b < s.heap.objs.size ∨ s1.heap.objs.size ≤ b) ∧ H b = none ∧ b ∉ frs outer ∧ (b < s.heap.objs.size → base.get? b = none) := fun b hb => by
    have young : s1.heap.objs.size ≤ b → H b = none ∧ b ∉ frs outer := fun q => ⟨I1.hok.fresh q, I1.nofs q⟩
    rcases hW b hb with ⟨q1, q2, q3, q4⟩ | q | q
    · exact ⟨.inl q1, q4, q3, fun _ => q2⟩
    · have hle : s1.heap.objs.size ≤ b := by rw [q]; exact Nat.le_refl _
      exact ⟨.inr hle, (young hle).1, (young hle).2, fun z => absurd (Nat.lt_of_lt_of_le z (Nat.le_trans sz1 hle)) (Nat.lt_irrefl _)⟩
    · have hle : s1.heap.objs.size ≤ b := by omega
      exact ⟨.inr hle, (young hle).1, (young hle).2, fun z => absurd (Nat.lt_of_lt_of_le z (Nat.le_trans sz1 hle)) (Nat.lt_irrefl _)⟩
  have nloc : ∀ b ∈ Wl, b ≠ s.heap.objs.size := fun b hb => by
    rcases (facts b hb).1 with q | q
    · exact Nat.ne_of_lt q
    · exact Nat.ne_of_gt (Nat.lt_of_lt_of_le lt1 q)
  have ncell : ∀ b ∈ Wl, ∀ y c, (PySem.cellsFrom (s.heap.objs.size + 1) scope.names []).lookup y = some c → c ≠ b := fun b hb y c e z => by
    have hc1 : s.heap.objs.size < c := x.above y c (PySem.mem_of_lookup e)
    obtain ⟨v, ob, ho, _⟩ := I1.cell y c e
    have hc2 : c < s1.heap.objs.size := Heap.lt_size ho
    rcases (facts b hb).1 with q | q
    · exact absurd hc1 (by rw [z]; exact Nat.not_lt.mpr (Nat.le_of_lt q))
    · exact absurd hc2 (by rw [z]; exact Nat.not_lt.mpr q)
  -- the context
  have I3 : Inv (gz P w K mg base N qual scope f cdv B outer (coolS s) H ex) [] (start N vs) H (coolS s2) := by
    refine ⟨⟨I2.ok.mod, I2.ok.kind, I2.ok.glob, I2.ok.blt, I2.ok.above, I2.ok.inj, I2.ok.has, I2.ok.cab, I2.ok.hd, I2.ok.frames, I2.ok.stk, fun b hb => ?_, I2.ok.bs, I2.ok.bsz, fun b o e hb => ?_, fun b hb => ?_, I2.ok.funs, I2.ok.frf⟩, I2.os, I2.bare, I2.base.mono (fun _ h => h) (fun b h => absurd h (by simp [gcxOf, cxOf])), I2.loc, I2.cell, I2.free, I2.freeC, fun p hp => ?_, I2.hok, I2.len⟩
    · exact ⟨nloc b (hexm b hb).1, fun x c e => ncell b (hexm b hb).1 x c e⟩
    · have e : base.get? b = some o := e
      rw [(facts b (hexm b hb).1).2.2.2 (hexm b hb).2] at e
      cases e
    · exact (facts b (hexm b hb).1).2.2.1
    · exact absurd (show p ∈ ([] : List (Addr × Obj)) ++ [] from hp) (by simp)
  have Wt : Watch (gz P w K mg base N qual scope f cdv B outer (coolS s) H ex) Wl := {
    young := fun b hb => by
      rcases (facts b hb).1 with q | q
      · refine .inl ?_
        show b ∈ ex
        rw [← hex]
        exact List.mem_filter.mpr ⟨hb, by simpa using q⟩
      · exact .inr (Nat.le_trans sz1 q)
    loc := fun b hb => nloc b hb
    cells := fun b hb x c e => ncell b hb x c e
    fs := fun b hb => (facts b hb).2.2.1
    pn := fun b hb p hp => absurd (show p ∈ ([] : List (Addr × Obj)) from hp) (by simp) }
  have G : GI (gz P w K mg base N qual scope f cdv B outer (coolS s) H ex) Wl [] s2 (start N vs) H s2 :=
    ⟨hobj, fun p hp => by simp at hp, I3.pinned (fun b hb => ⟨(facts b hb).2.1, nloc b hb, (facts b hb).2.2.1, Wt.young b hb, fun x c e => ncell b hb x c e, fun p hp => absurd (show p ∈ ([] : List (Addr × Obj)) ++ [] from hp) (by simp)⟩) hobj⟩
  refine ⟨gz P w K mg base N qual scope f cdv B outer (coolS s) H ex, rfl, rfl, rfl, rfl, rfl, fun b hb => hexm b hb, ?_⟩
  refine sg_func ?_
  refine hbody B outer (coolS s) H vs items ex Wl ok2 s1.gens.size (hrw.deeper _) hsp Wt B (RG ok2 _ Wl items) [] items.length s2 H _ [] _ _ id id s2 (start N vs) H ⟨GenW.over_func, rfl, rfl, rfl⟩ G (Hx.refl _) run2 ⟨rfl, rfl, rfl⟩ fun n' s₀' Hq' s3 σ' H' I' hx' run' q => ?_
  subst q
  exact sg_end (.ok (.ret .none)) ⟨rfl, .inl rfl, run'.1, [], σ', H', I', hx'⟩
end MR
end
section
set_option linter.all false
set_option maxRecDepth 100000
set_option maxHeartbeats 4000000
namespace MR
open PySem L2 PySem.Spec MG
section
variable {P : Program} {w : World} {A : Around} {s : Shared} {E : Value → Shared → Prop}
theorem aE_ifn {α : Type} {M : Model} {c : Prop} [Decidable c] {x y : Sem α} {Q : α → Shared → Prop} (hc : ¬ c) (h : anyE M A y Q E s) : anyE M A (if c then x else y) Q E s := by rw [if_neg hc]; exact h
theorem aE_ifp {α : Type} {M : Model} {c : Prop} [Decidable c] {x y : Sem α} {Q : α → Shared → Prop} (hc : c) (h : anyE M A x Q E s) : anyE M A (if c then x else y) Q E s := by rw [if_pos hc]; exact h
theorem codeE_builtin {id : String} {args : Args} {b : Builtin} {R : Result → Shared → Prop} (hb : entryFor table id = some b)
    (h : anyE (model P w) (A.under (.builtin id args)) (b args) (fun fin s' => match fin with | .done f => R (.ok f) s' | .again c' => c'.quiet = true ∧ codeE (model P w) A c' R s') (fun x s' => R (.error x) s') s) :
    codeE (model P w) A (.builtin id args) R s := by
  refine codeE_tree ?_
  show anyE _ _ (match entryFor table id with | some b => b args | none => unsupported ((withoutEnding? id "#data").getD id)) _ _ s
  rw [hb]; exact h
theorem codeE_imp {M : Model} {c : Code} {R R' : Result → Shared → Prop} (h : codeE M A c R s) (i : ∀ r s', R r s' → R' r s') : codeE M A c R' s := fun Γ p hc hΓ => RetL.imp (h Γ p hc hΓ) i
theorem call_listZ {u : Value} {Q : Value → Shared → Prop}
    (h : ∀ s1, coolS s1 = { coolS s with heap := s.heap.push { cls := .type "list", data := .seq #[] } } → Cl s s1 → anyE (model P w) A.in1.in1 (Builtin.«list.__init__» ⟨[.ref s.heap.objs.size, u], []⟩) (fun fin s' => match fin with
      | .done f => (match f with | .ret r => r = .none ∧ Q (.ref s.heap.objs.size) s' | _ => False)
      | .again c' => c'.quiet = true ∧ codeE (model P w) A.in1 c' (fun r s' => match r with | .ok (.ret r) => r = .none ∧ Q (.ref s.heap.objs.size) s' | .ok _ => False | .error e => E e s') s') E s1) :
    anyE (model P w) A (call (.type "list") [u]) Q E s := by
  obtain ⟨c, tl, hmro⟩ := F.called_list.mro
  have hmade := F.called_list.made
  have hsub := F.called_list.sub
  have h1 := F.called_list.notType
  have h2 := F.called_list.canCreate
  have hct := F.typeCall_list_1 u
  refine aE_call (codeE_tree ?_)
  show anyE _ _ (callAny (.type "list") _) _ _ _
  refine aE_pure ⟨Code.quiet_builtin _ (by decide +kernel), codeE_builtin F.entry_type_call ?_⟩
  rw [Around.under_plain (weight_type_call_type "list" [u] []) rfl]
  unfold Builtin.«type.__call__»
  dsimp only
  refine aE_ifn (by rw [h1]; decide) ?_
  refine aE_ifn (by rw [h2]; decide) ?_
  refine aE_bind (aE_eq hct ?_)
  refine aE_bind (aE_eq hmro ?_)
  refine aE_ifn (by simp) ?_
  refine aE_bind (aE_eq hmade ?_)
  dsimp only
  refine aE_bind (aE_pure ?_)
  refine aE_bind (aE_hold (aE_imp (aE_calm (s0 := s) (E := fun _ _ => False) (wpAny_call (code_list_new u (s := coolS s) (Q₁ := fun obj s1 => obj = .ref s.heap.objs.size ∧ s1 = { coolS s with heap := s.heap.push { cls := .type "list", data := .seq #[] } }) ⟨rfl, rfl⟩)) (coolS_coolS s).symm (Cl.refl s)) (fun obj s1 ⟨s1c, e1, c1, eo, es⟩ => ?_) fun x s1 ⟨_, _, _, q⟩ => q.elim))
  subst eo es
  have e1 : coolS s1 = { coolS s with heap := s.heap.push { cls := .type "list", data := .seq #[] } } := by
    rw [e1]
    show coolS (⟨_, _, _, _, _⟩ : Shared) = _
    simp only [coolS, Array.map_map]
    congr 1
    congr 1
    funext y
    exact cool_cool y
  have hT : s1.TypeIs (.ref s.heap.objs.size) "list" := by
    have eh : s1.heap = s.heap.push { cls := .type "list", data := .seq #[] } := congrArg Shared.heap e1
    exact ⟨_, by rw [eh]; exact Heap.get?_push_size _ rfl, rfl⟩
  refine aE_bind (aE_isInstance hT hsub ?_)
  refine aE_ifn (by simp) ?_
  refine aE_bind (aE_hold (aE_special hT F.called_list.init ?_))
  refine aE_call (codeE_tree ?_)
  show anyE _ A.in1.in1 (do checkBuiltinCall "list.__init__" ⟨[.ref s.heap.objs.size, u], []⟩; again (.builtin "list.__init__" ⟨[.ref s.heap.objs.size, u], []⟩)) _ _ s1
  refine aE_bind (aE_exact (F.called_list.init.check _ _ _ { s1 with gens := #[] } _ _ _ _ hT (F.args_list_init_2 _ _) ⟨rfl, aE_pure ⟨plainId_quiet F.called_list.init.plain _, codeE_builtin F.entry_list_init ?_⟩⟩))
  rw [Around.under_plainId F.called_list.init.plain]
  refine aE_imp (h s1 e1 c1) (fun fin s' q => ?_) fun _ _ q => q
  cases fin with
  | done f =>
    cases f with
    | ret r =>
      obtain ⟨rfl, q⟩ := q
      exact aE_ifn (by decide) (aE_pure q)
    | next => exact q.elim
    | brk => exact q.elim
    | cont => exact q.elim
  | again c' =>
    refine ⟨q.1, codeE_imp q.2 fun r s2 q => ?_⟩
    cases r with
    | error e => exact q
    | ok f =>
      cases f with
      | ret r =>
        obtain ⟨rfl, q⟩ := q
        exact aE_ifn (by decide) (aE_pure q)
      | next => exact q.elim
      | brk => exact q.elim
      | cont => exact q.elim
end
end MR
end
section
set_option linter.all false
set_option maxRecDepth 100000
set_option maxHeartbeats 4000000
/-! MG9: list(g) on the machine. -/
namespace MR
open PySem L2 PySem.Spec MG

/-- handed out so far, in order, all tracked -/
def Out (H : Hp) (items : List HO) (vs : List V) : Prop := ∀ (i : Nat) (v : V), vs[i]? = some v → ∃ (p : Addr) (d : HO), v = .ref p ∧ items[i]? = some d ∧ H p = some d
theorem Out.hx {H H' : Hp} {items : List HO} {vs : List V} (h : Out H items vs) (x : Hx H H') : Out H' items vs := fun i v e => by
  obtain ⟨p, d, e1, e2, e3⟩ := h i v e
  exact ⟨p, d, e1, e2, x p d e3⟩
theorem Rem.head {α : Type} {l : List α} {m : Nat} {d : α} {r : List α} (hm : m + 1 ≤ l.length) (h : Rem l (m + 1) = d :: r) : l[l.length - (m + 1)]? = some d := by
  unfold Rem at h
  have : (l.drop (l.length - (m + 1)))[0]? = some d := by rw [h]; rfl
  rw [List.getElem?_drop] at this
  simpa using this
section
variable {P : Program} {w : World} {A : Around} {ok : Nat → Prop} {Xc : Cx} {a S : Addr} {g : Nat} {items : List HO} {H0 : Hp}
def Drained (ok : Nat → Prop) (Xc : Cx) (S : Addr) (items : List HO) (s' : Shared) : Prop :=
  ∃ (H : Hp) (vs : List V) (acc : Array Value) (c : Nat), s'.heap.get? S = some (lstObj acc c) ∧ Vals vs acc.toList ∧ vs.length = items.length ∧ Out H items vs ∧ s'.os = Xc.s_0.os ∧ Cold ok s' ∧
    Un Xc.fs Xc.ex Xc.H_0 H Xc.s_0.heap s'.heap ∧ HOk Xc.prog Xc.w H s'.heap ∧ H S = none ∧ Hx Xc.H_0 H
theorem drainZ (hh : A.handled = none) (hd : A.depth < recursionLimit) (haS : a ≠ S) (hSc : S ≠ cStatics) (hsz : items.length ≤ sizeLine) :
    ∀ (m : Nat) (s : Shared) (Hq : Hp) (y : GenState) (vs : List V) (acc : Array Value) (c : Nat), m ≤ items.length → s.heap.get? S = some (lstObj acc c) → Vals vs acc.toList → vs.length + m = items.length → Out Hq items vs → Hx Xc.H_0 Hq →
      GenAt s.heap a g → s.gens[g]? = some y → s.heap.NoLimit → Goes (model P w) A.in1.in1 (RG ok Xc [a, S] items) (YG Xc [a, S] g items) m (s.setGen g .running, Hq) y (s.setGen g .running) →
      codeE (model P w) A (.builtin "list.extend.loop" ⟨[.ref S, .ref a, .none], []⟩) (fun r s' => r = .ok (.ret .none) ∧ Drained ok Xc S items s') s := by
  intro m
  induction m with
  | zero =>
    intro s Hq y vs acc c hm hS hv hl ho hx hg hy hli hgo
    refine codeE_builtin F.entry_extend_loop ?_
    rw [Around.under_plainId F.plain_extend_loop _]
    show anyE _ A.in1 (pyNext (.ref a) >>= _) _ _ s
    unfold pyNext
    refine aE_bind (aE_bind (aE_attempt (aE_genNext (A := A.in1) hh hli hd hg hy hgo (fun m v s1 z hz en hY => by omega) fun r s1 hz hR => ?_)))
    obtain ⟨_, hr, co1, ip, σ, H, I, hx1⟩ := hR
    refine ⟨hr, fun e h' hS' hk => ?_⟩
    obtain ⟨x, o, xs, rfl, hxo, hxc, hxd, hx5⟩ := hS'
    refine aE_bind (aE_isInstance (T := "StopIteration") (b := true) ⟨o, hxo, hxc⟩ isSubtype_stop (aE_pure (aE_pure ⟨rfl, ?_⟩)))
    obtain ⟨oS, g0, g1, _, g3⟩ := I.at (b := S) (by simp)
    have e0 : s.heap.get? S = some oS := g0
    rw [hS] at e0; cases e0
    refine ⟨H, vs, acc, c, hk _ _ g1, hv, by omega, ho.hx hx1, I.inv.os, fun j hj => ?_, I.inv.base.trans (Un.kept hk), I.inv.hok.kept hk, g3, hx.trans hx1⟩
    exact co1 j (hot_set (h := s1.heap) (h' := h') (a := s1.gens) (g := g) (y := .finished) (d := s1.drawn) (d' := s1.drawn) (t := s1.toks) (t' := s1.toks) (o := s1.os) (o' := s1.os) rfl j hj)
  | succ m ih =>
    intro s Hq y vs acc c hm hS hv hl ho hx hg hy hli hgo
    have hgs : g < s.gens.size := (Array.getElem?_eq_some_iff.mp hy).1
    refine codeE_builtin F.entry_extend_loop ?_
    rw [Around.under_plainId F.plain_extend_loop _]
    show anyE _ A.in1 (pyNext (.ref a) >>= _) _ _ s
    unfold pyNext
    refine aE_bind (aE_bind (aE_attempt (aE_genNext (A := A.in1) hh hli hd hg hy hgo (fun m' v s1 z hz en hY => ?_) fun r s1 hz hR => by
      have := hR.1
      omega)))
    have em : m' = m := by omega
    subst em
    obtain ⟨d, ip, σ, H, p, hml, hd1, I, rfl, hp, hx1, kap⟩ := hY
    obtain ⟨oS, g0, g1, _, g3⟩ := I.at (b := S) (by simp)
    have e0 : s.heap.get? S = some oS := g0
    rw [hS] at e0; cases e0
    obtain ⟨oa, a0, a1, a2, a3⟩ := I.at (b := a) (by simp)
    refine aE_pure ?_
    have hacc : acc.size = vs.length := by
      have e1 := hv.length
      simpa using e1.symm
    have hlt : acc.size < sizeLine := by omega
    have keep3 : ∀ b o, b ≠ S → s1.heap.get? b = some o → (s1.heap.update S (Obj.mapSeq (·.push (.ref p)))).get? b = some o := fun b o hb e => (Heap.get?_update_other _ _ (Ne.symm hb)).trans e
    have hS2 := Heap.get?_update_self (Obj.mapSeq (·.push (.ref p))) g1 rfl
    show anyE _ A.in1 (updateSeq S (·.push (.ref p)) >>= _) _ _ _
    refine aE_bind (aE_exact (wpAny_updateSeq (s := { s1.setGen g z with gens := #[] }) g1 rfl ⟨rfl, ?_⟩ (Nat.le_of_lt hlt) (by show (acc.push _).size ≤ sizeLine + 1; rw [Array.size_push]; omega)))
    refine aE_pure ⟨plainId_quiet F.plain_extend_loop _, ?_⟩
    have hd2 := Rem.head hml hd1
    have hga : GenAt (s1.heap.update S (Obj.mapSeq (·.push (.ref p)))) a g := hg.keeps fun o e => by
      have e2 : s.heap.get? a = some oa := a0
      rw [e] at e2; cases e2
      exact keep3 a _ haS a1
    refine ih { s1.setGen g z with heap := s1.heap.update S (Obj.mapSeq (·.push (.ref p))) } H z (vs ++ [.ref p]) (acc.push (.ref p)) _ (by omega) hS2 ?_ (by rw [List.length_append, List.length_singleton]; omega) ?_ (hx.trans hx1) hga ?_ ?_ ?_
    · rw [Array.toList_push]
      exact hv.append (.cons rfl .nil)
    · intro i v e
      rcases Nat.lt_or_ge i vs.length with q | q
      · rw [List.getElem?_append_left q] at e
        obtain ⟨p', d', e1, e2, e3⟩ := ho i v e
        exact ⟨p', d', e1, e2, hx1 p' d' e3⟩
      · rw [List.getElem?_append_right q] at e
        have hi : i = vs.length := by
          rcases Nat.lt_or_ge (i - vs.length) 1 with q2 | q2
          · omega
          · rw [List.getElem?_eq_none (by simpa using q2)] at e; cases e
        subst hi
        simp at e
        refine ⟨p, d, e.symm, ?_, hp⟩
        rw [← hd2]
        congr 1
        omega
    · show (s1.gens.setIfInBounds g z)[g]? = some z
      rw [Array.getElem?_setIfInBounds, if_pos rfl, if_pos (by omega)]
    · obtain ⟨mc, hns, hnn⟩ := I.inv.nolimit
      exact ⟨mc, hns.at' fun o e => keep3 _ o (Ne.symm hSc) e, hnn⟩
    · refine kap _ ⟨rfl, fun b o hb e => ?_, fun b hb => ?_, fun j hj => ?_, ?_, fun j hj => ?_⟩
      · exact keep3 b o (fun e => hb (by rw [e]; simp)) e
      · rcases List.mem_cons.mp hb with rfl | hb
        · exact ⟨oa, keep3 _ _ haS a1, a2⟩
        · rw [List.mem_singleton.mp hb]
          exact ⟨_, hS2, fun v q => by cases q⟩
      · show (((s1.gens.setIfInBounds g z).setIfInBounds g .running)[j]?).map cool = _
        rw [Array.getElem?_setIfInBounds, if_neg (by omega), Array.getElem?_setIfInBounds, if_neg (by omega)]
      · show s1.gens.size ≤ ((s1.gens.setIfInBounds g z).setIfInBounds g .running).size
        rw [Array.size_setIfInBounds, Array.size_setIfInBounds]; exact Nat.le_refl _
      · obtain ⟨w', hw, hq⟩ := hj
        have hw : ((s1.gens.setIfInBounds g z).setIfInBounds g .running)[j]? = some w' := hw
        rw [Array.getElem?_setIfInBounds] at hw
        split at hw
        · split at hw
          · cases hw; cases hq
          · cases hw
        · rename_i hne
          rw [Array.getElem?_setIfInBounds, if_neg hne] at hw
          exact ⟨w', hw, hq⟩
end
end MR
end
section
set_option linter.all false
set_option maxRecDepth 100000
set_option maxHeartbeats 4000000
/-! MG10: list(parts(..)) as an expression; a generator def under its name. -/
namespace MR
open PySem L2 PySem.Spec MG
section
variable {P : Program} {w : World} {base : Heap} {A : Around} {ok : Nat → Prop} {outer : List Env} {H : Hp} {sc s : Shared} {items : List HO} {k : Nat} {u : Value}
def Listed (ok : Nat → Prop) (P : Program) (w : World) (outer : List Env) (H : Hp) (sc : Shared) (items : List HO) (S : Addr) (s' : Shared) : Prop :=
  ∃ (H' : Hp) (vs : List V) (acc : Array Value) (c : Nat), s'.heap.get? S = some (lstObj acc c) ∧ Vals vs acc.toList ∧ vs.length = items.length ∧ Out H' items vs ∧ s'.os = sc.os ∧ Cold ok s' ∧
    Un (frs outer) [] H H' sc.heap s'.heap ∧ HOk P w H' s'.heap ∧ H' S = none ∧ Hx H H'
theorem list_gen (hr : Room (k + 3) A) (hfr : A.frames = some outer) (hlim : s.heap.NoLimit) (co : Cold ok s) (hsz : items.length ≤ sizeLine) (h : GMk P w base k outer H sc items u s) :
    anyL (model P w) A (call (.type "list") [u]) (fun v s' => v = .ref s.heap.objs.size ∧ sc.heap.objs.size ≤ s.heap.objs.size ∧ Listed ok P w outer H sc items s.heap.objs.size s') s := by
  obtain ⟨a, g, c, rfl, ha1, ha2, hg, hgs, hlt, hos, hkp, wake⟩ := h
  have hSa : s.heap.objs.size ≠ a := Nat.ne_of_gt ha2
  have hcl : cStatics < s.heap.objs.size := let ⟨_, hn, _⟩ := hlim; hn.lt
  have hSc : s.heap.objs.size ≠ cStatics := Nat.ne_of_gt hcl
  have hscs : sc.heap.objs.size ≤ s.heap.objs.size := Nat.le_trans ha1 (Nat.le_of_lt ha2)
  refine call_listZ fun s1 e1 c1 => ?_
  have eh : s1.heap = s.heap.push { cls := .type "list", data := .seq #[] } := congrArg Shared.heap e1
  have eo : s1.os = s.os := (congrArg (fun x : Shared => x.os) e1 : (coolS s1).os = _)
  have eg : s1.gens.map cool = s.gens.map cool := congrArg Shared.gens e1
  have hS : s1.heap.get? s.heap.objs.size = some { cls := .type "list", data := .seq #[] } := by rw [eh]; exact Heap.get?_push_size _ rfl
  have k1 : ∀ b o, s.heap.get? b = some o → s1.heap.get? b = some o := fun b o e => by rw [eh]; exact Heap.get?_push_of_some _ e
  have up : ∀ (h : Heap) (f : Obj → Obj), (∀ b o, s.heap.get? b = some o → h.get? b = some o) → ∀ b o, s.heap.get? b = some o → (h.update s.heap.objs.size f).get? b = some o := fun h f q b o e =>
    (Heap.get?_update_other _ _ (Ne.symm (Nat.ne_of_lt (Heap.lt_size e)))).trans (q b o e)
  show anyE _ A.in1.in1 (do let old ← Builtin.List.listItems (.ref s.heap.objs.size); Builtin.List.listUpdate (.ref s.heap.objs.size) (fun _ => #[]); letGo old.toList.reverse; Builtin.List.listExtendWith (.ref s.heap.objs.size) (.ref a) .none) _ _ _
  refine aE_bind ?_
  unfold Builtin.List.listItems
  refine aE_exact (wpAny_bind (wpAny_seqItems (s := { s1 with gens := #[] }) hS rfl (wpAny_pure ⟨rfl, ?_⟩)))
  show anyE _ A.in1.in1 (updateSeq s.heap.objs.size (fun _ => #[]) >>= fun _ => letGo (#[] : Array Value).toList.reverse >>= fun _ => Builtin.List.listExtendWith (.ref s.heap.objs.size) (.ref a) .none) _ _ _
  refine aE_bind (aE_exact (wpAny_updateSeq (s := { s1 with gens := #[] }) hS rfl ⟨rfl, ?_⟩))
  have hS2 := Heap.get?_update_self (Obj.mapSeq (fun _ => (#[] : Array Value))) hS rfl
  have k2 := up s1.heap (Obj.mapSeq (fun _ => (#[] : Array Value))) k1
  refine aE_bind (aE_pure ?_)
  unfold Builtin.List.listExtendWith
  generalize hs2 : ({ s1 with heap := s1.heap.update s.heap.objs.size (Obj.mapSeq (fun _ => (#[] : Array Value))) } : Shared) = s2
  have s2h : s2.heap = s1.heap.update s.heap.objs.size (Obj.mapSeq (fun _ => (#[] : Array Value))) := by rw [← hs2]
  have s2g : s2.gens = s1.gens := by rw [← hs2]
  have s2o : s2.os = s1.os := by rw [← hs2]
  have hg2 : s2.heap.IsGen a g := by rw [s2h]; exact hg.keeps k2
  refine aE_bind (aE_typeOf hg2.typeIs ?_)
  have h1 : Builtin.List.listSameRef (.ref s.heap.objs.size) (.ref a) = false := by simp [Builtin.List.listSameRef, hSa]
  have h2 : (Value.type "generator" == Value.type "list") = false := by decide
  have h3 : (Value.type "generator" == Value.type "tuple") = false := by decide
  simp only [h1, h2, h3, Bool.or_false, Bool.false_eq_true, if_false]
  refine aE_bind (aE_imp (aE_calm (s0 := s2) (E := fun _ _ => False) (wpAny_pyIter_gen (s := coolS s2) (Q := fun v s' => v = .ref a ∧ s' = coolS s2) hg2 ⟨rfl, rfl⟩) (coolS_coolS s2).symm (Cl.refl s2)) (fun v s3 ⟨s3c, e3, c3, ev, es⟩ => ?_) fun _ _ ⟨_, _, _, q⟩ => q)
  subst ev es
  rw [coolS_coolS] at e3
  obtain ⟨eh3, _, _, eo3, eg3⟩ := cool_parts e3
  have hg3 : s3.heap.IsGen a g := by rw [eh3]; exact hg2
  refine aE_bind (aE_hold ?_)
  unfold Builtin.List.listLengthHint
  refine aE_bind (aE_specialOf hg3.typeIs F.gen_no_len ?_)
  show anyE _ A.in1.in1 (specialOf (Value.ref a) (Str.ofString "__length_hint__") >>= _) _ _ _
  refine aE_bind (aE_specialOf hg3.typeIs F.gen_no_hint ?_)
  refine aE_pure ?_
  show anyE _ A.in1.in1 (rule "list.extend.makes-room" >>= fun _ => Builtin.List.listTouch (.ref s.heap.objs.size) >>= fun _ =>
    again (.builtin "list.extend.loop" ⟨[.ref s.heap.objs.size, .ref a, .none], []⟩)) _ _ _
  refine aE_bind (aE_rule ?_)
  refine aE_bind ?_
  have hS3 : s3.heap.get? s.heap.objs.size = some (Obj.mapSeq (fun _ => (#[] : Array Value)) { cls := .type "list", data := .seq #[] }) := by rw [eh3, s2h]; exact hS2
  have k3 : ∀ b o, s.heap.get? b = some o → s3.heap.get? b = some o := fun b o e => by rw [eh3, s2h]; exact k2 b o e
  show anyE _ A.in1.in1 (updateSeq s.heap.objs.size (·.push .none) >>= fun _ => updateSeq s.heap.objs.size (·.pop)) _ _ _
  refine aE_bind (aE_exact (wpAny_updateSeq (s := { s3 with gens := #[] }) hS3 rfl ⟨rfl, ?_⟩))
  have hS4 := Heap.get?_update_self (Obj.mapSeq (·.push Value.none)) hS3 rfl
  refine aE_exact (wpAny_updateSeq (s := { s3 with heap := s3.heap.update s.heap.objs.size (Obj.mapSeq (·.push Value.none)), gens := #[] }) (hz := by seq_fits) hS4 rfl ⟨rfl, ?_⟩)
  have hS5 := Heap.get?_update_self (Obj.mapSeq (·.pop)) hS4 rfl
  have k5 := up _ (Obj.mapSeq (·.pop)) (up _ (Obj.mapSeq (·.push Value.none)) k3)
  generalize hh5 : (s3.heap.update s.heap.objs.size (Obj.mapSeq (·.push Value.none))).update s.heap.objs.size (Obj.mapSeq (·.pop)) = h5 at hS5 k5
  refine aE_pure ⟨plainId_quiet F.plain_extend_loop _, ?_⟩
  have hgs3 : s3.gens[g]? = some (.fresh c) := by
    have q : (s3.gens[g]?).map cool = (s.gens[g]?).map cool := cool_get (eg3.trans ((congrArg (Array.map cool) s2g).trans eg)) g
    rw [hgs] at q
    cases q' : s3.gens[g]? with
    | none => rw [q'] at q; cases q
    | some z =>
      rw [q'] at q
      have q : cool z = cool (.fresh c) := Option.some.inj q
      cases z <;> simp only [cool] at q <;> first | (cases q; rfl) | cases q
  have co3 : Cold ok s3 := fun j hj => by
    have h2' : Hot s2 j := c3 j hj
    obtain ⟨y, hy, hq⟩ := h2'
    rw [s2g] at hy
    exact co j (c1 j ⟨y, hy, hq⟩)
  have g3s : g < s3.gens.size := (Array.getElem?_eq_some_iff.mp hgs3).1
  have os3 : s3.os = sc.os := by rw [eo3, s2o, eo, hos]
  obtain ⟨Xc, x1, x2, x3, x4, x5, x6, seg⟩ := wake ok A.in1.in1.in1 [a, s.heap.objs.size] ({ s3 with heap := h5 }.setGen g .running) ⟨hr.hd, by have := hr.dp; show A.depth + 3 * k + 5 < _; omega, by have := hr.un; show A.units + 1 + 1 + 1 + 16 * k + 200 < _; omega⟩ hfr
    (fun b hb => by
      rcases List.mem_cons.mp hb with rfl | hb
      · exact .inr (.inl rfl)
      · rw [List.mem_singleton.mp hb]
        exact .inr (.inr (Nat.le_refl _))) k5 (fun b hb => by
      rcases List.mem_cons.mp hb with rfl | hb
      · obtain ⟨o, nm, qn, ho, hc', hd, _⟩ := hg
        exact ⟨o, k5 _ _ ho, fun v q => by rw [hd] at q; cases q⟩
      · rw [List.mem_singleton.mp hb]
        exact ⟨_, hS5, fun v q => by cases q⟩) os3 ⟨cold_set rfl (s := { s3 with heap := h5 }) fun j hj => co3 j (hot_same j hj), by show g < (s3.gens.setIfInBounds g .running).size; rw [Array.size_setIfInBounds]; exact g3s⟩
  have hex0 : ∀ b, b ∉ Xc.ex := fun b hb => by
    obtain ⟨q1, q2⟩ := x6 b hb
    rcases List.mem_cons.mp q1 with z | z
    · rw [z] at q2; exact absurd q2 (Nat.not_lt.mpr ha1)
    · rw [List.mem_singleton.mp z] at q2; exact absurd q2 (Nat.not_lt.mpr hscs)
  have lim5 : h5.NoLimit := hlim.keeps k5
  have D := drainZ (P := P) (w := w) (A := A.in1) (ok := ok) (Xc := Xc) (a := a) (S := s.heap.objs.size) (g := g) (items := items) hr.hd (by have := hr.dp; show A.depth < _; omega) (Ne.symm hSa) hSc hsz items.length { s3 with heap := h5 } H (.fresh c) [] _ _ (Nat.le_refl _) hS5 .nil (by simp) (fun i v e => by simp at e) (by rw [x4]; exact Hx.refl _)
    (by
      obtain ⟨o, nm, qn, ho, hc', hd, hsl⟩ := hg
      exact ⟨o, nm, qn, k5 _ _ ho, hc', hd, .inl hsl⟩) hgs3 lim5 seg
  refine codeE_imp D fun r s' ⟨er, H', vs, acc, cc, d1, d2, d3, d4, d5, d6, d7, d8, d9, d10⟩ => ?_
  subst er
  refine ⟨rfl, trivial, hscs, H', vs, acc, cc, d1, d2, d3, d4, by rw [d5, x3], d6, ?_, by rw [← x1, ← x2]; exact d8, d9, by rw [← x4]; exact d10⟩
  rw [x3, x4, x5] at d7
  exact d7.mono (fun _ h => h) fun b hb => absurd hb (hex0 b)
end
end MR
end
section
set_option linter.all false
set_option maxRecDepth 100000
set_option maxHeartbeats 4000000
/-! MG11: expressions: the call of a generator def, list(..) of it; a loud def by its body. -/
namespace MR
open PySem L2 PySem.Spec MG

structure HasG (P : Program) (w : World) (K : PySem.W.Frag) (mg : Str → Option Value) (base : Heap) (k : Nat) (x : Str) (ps : List Str) (sp : SpZ) : Prop where
  ex : ∃ (f : Addr) (fd : FuncData) (oc : Value) (od : Option Addr) (osl : Array (Option Value)), mg x = some (.ref f) ∧ K.lookup f = some ⟨oc, od, .func fd, osl⟩ ∧ Binds K fd ps [] ∧ FnG P w K mg base k f fd ps sp
def tCallG (sp : SpZ) (t : TA) : TGz := fun σ H C => t σ H fun vs H1 => ∃ items, sp vs H1 items ∧ C items H1
section
variable {X : Cx} {e : Expr} {es : List Expr} {pos p : Pos} {t : TA} {x : Str}
theorem pgn_call {k j : Nat} {ps : List Str} {sp : SpZ} (nx : NoX X) (F : HasG X.prog X.w X.K X.mg X.base k x ps sp) (hr : Room j X.A) (hk : k ≤ j) (hg : Gl X x) (ha : PAz X (e :: es) t)
    (hdb : (x == ("__debug__" : Str)) = false := by decide) (he : starEach (e :: es) X.env = (false, eval e X.env) :: starEach es X.env := by rfl) (hpl : (backTo pos (starEach es X.env)).any (·.1) = false := by rfl) :
    PGn X k (.Call (.Name x p) (e :: es) [] pos) (tCallG sp t) := ⟨fun ok pins s σ H C I h => by
  obtain ⟨f, fd, oc, od, osl, hm, lk, hb, F⟩ := F.ex
  rw [arm_eval_Call_Name']
  refine aL_bind (aL_imp (aL_gsz (z_glob (Q := fun u s' => u = .ref f ∧ ZI ok X pins σ H s') nx I hg hm (fun s1 I1 => ⟨rfl, I1⟩) hdb)) fun u s1 ⟨⟨eu, I1⟩, hz1⟩ => ?_)
  subst eu
  have h1 := aL_gsz (ha.run pos ok pins s1 σ H _ I1 h)
  rw [he] at h1 ⊢
  refine aL_callWith (k := .frame) (by show (false || (backTo pos (starEach es X.env)).any (·.1)) = false; rw [hpl]; rfl) (.inl rfl) (aL_evalArgs (aL_imp h1 fun us s2 ⟨⟨vs, H2, I2, r, items, hsp, q⟩, hz2⟩ => ⟨?_, ?_⟩))
  · exact keeper_fn (I2.inv.kIn _ _ lk) rfl
  · have hl : us.length = ps.length := by rw [← r.length]; exact F.len _ _ _ hsp
    have hb2 := hb (coolS s2) us I2.inv.kIn (by rw [List.append_nil]; exact hl)
    rw [List.append_nil] at hb2
    exact aL_call (flowL_imp (F.run ok X.A X.stack s2 H2 ⟨us, []⟩ us vs items (hr.mono hk) I2.inv.env0 I2.hot hb2 r hsp) fun fl s' ⟨u, e, co, g⟩ => ⟨u, e, H2, s2, items, I2.inv, Nat.le_trans hz1 hz2, co, g, q⟩)⟩
def tListZ (tg : TGz) : TE := fun σ H Q => tg σ H fun items H1 => items.length ≤ sizeLine ∧ ∀ H2 vs S, Hx H1 H2 → vs.length = items.length → Out H2 items vs → H2 S = none → Q (.ref S) (upd H2 S (.lst vs))
theorem z_listG {k : Nat} {tg : TGz} (nx : NoX X) (h : PGn X k e tg) (hr : Room (k + 3) X.A) (hg : Gl X "list") (hm : X.mg "list" = none) (hv : bootBuiltins "list" = some (.type "list"))
    (he : starEach [e] X.env = (false, eval e X.env) :: starEach [] X.env := by rfl) : PEz X (.Call (.Name "list" p) [e] [] pos) (tListZ tg) := ⟨fun ok pins s σ H Q I q => by
  rw [arm_eval_Call_Name']
  refine aL_bind (z_blt nx I hg hm hv (fun s1 I1 => ?_))
  rw [he]
  refine aL_callWith (k := .machine) rfl (.inr rfl) (aL_evalArgs ?_)
  show anyX X (do
    let v ← eval e X.env
    let here ← (pure [v] : Sem (List Value))
    return here ++ (← holding here (spliced (backTo pos (starEach [] X.env))))) _ s1
  refine aL_bind (aL_imp (h.run ok pins s1 σ H _ I1 q) fun u s2 ⟨H1, sr, items, Ic, hz, co, hG, hsz, hQ⟩ => ?_)
  refine aL_bind (aL_pure (aL_bind (aL_hold (aL_pure (aL_pure ⟨fun R h => aL_pure h, ?_⟩)))))
  have kp : ∀ b o, (coolS sr).heap.get? b = some o → s2.heap.get? b = some o := by
    obtain ⟨a, g, c, _, _, _, _, _, _, _, kp, _⟩ := hG
    exact kp
  show anyX X (call (.type "list") [u]) _ s2
  refine aL_imp (list_gen (ok := ok) hr I.inv.ok.frames (Ic.nolimit.keeps kp) co hsz hG) fun v s3 ⟨ev, hS, H', vs, acc, c, d1, d2, d3, d4, d5, d6, d7, d8, d9, d10⟩ => ?_
  subst ev
  refine ⟨.ref s2.heap.objs.size, upd H' s2.heap.objs.size (.lst vs), ⟨Ic.drained (s' := coolS s3) hS (by rw [d3]; exact hsz) d1 d2 ExOk.nil d5 (coolS_bare s3) d7 d8 d9, d6⟩, rfl, hQ H' vs _ d10 d3 d4 d9⟩⟩
end

/-- a loud def, by its body -/
theorem fnZ_of {P : Program} {w : World} {K : PySem.W.Frag} {mg : Str → Option Value} {base : Heap} {k : Nat} {f : Addr} {name qual : Str} {params : Arguments} {body : List Stmt} {scope : Scope} {dV kV doc pm cdv ct oc : Value} {an od : Option Addr}
    {osl : Array (Option Value)} {N ps : List Str} {sp : Sp} (lk : K.lookup f = some ⟨oc, od, .func (PySem.W.fnOf name qual params body scope dV kV doc pm an cdv ct), osl⟩) (hcd : PySem.W.codeIn K cdv qual = true) (S : FnScope N ps scope)
    (len : ∀ vs H Q E, sp vs H Q E → vs.length = ps.length)
    (hbody : ∀ (A : Around) (outer : List Env) (s : Shared) (H : Hp) (vs : List V) (Q : VK), Room k (A.deeper (PyProof.Rows.envOfC qual scope s.heap.objs.size f cdv)) → sp vs H Q E0 →
      ∃ t, PSsz (cxOf CX0 P w K mg base N qual scope f cdv A outer s H E0).nox body t ∧ t { nx := fun _ H' => Q .non H', rt := Q } (start N vs) H) :
    FnZ P w K mg base (k + 1) f (PySem.W.fnOf name qual params body scope dV kV doc pm an cdv ct) ps sp := by
  refine ⟨len, fun ok A outer s H args us vs Q hr e0 hot hb r hsp => ?_⟩
  have hl := len _ _ _ _ hsp
  have KX : K.In s.heap := e0.mod.kin.keeps fun b o e => (e0.bs b o e).1
  have lim : s.heap.NoLimit := e0.mod.nolimit.keeps fun b o e => (e0.bs b o e).1
  have hkind : ∀ y ∈ ps.zip us, scope.names.lookup y.1 = some .local ∨ (scope.names.lookup y.1 = some .cell ∧ ((PySem.cellsFrom (s.heap.objs.size + 1) scope.names []).lookup y.1).isSome = true) := fun ⟨n, v⟩ hy => by
    rcases S.par n (List.of_mem_zip hy).1 with q | q
    · exact .inl q
    · exact .inr ⟨q, PySem.W.cellsFrom_some _ _ _ (.inl q)⟩
  refine flowL_tree ?_
  show anyL _ A.in1 (callAny (.ref f) args) _ s
  simp only [callAny]
  refine aL_bind (aL_load (KX _ _ lk) ?_)
  obtain ⟨cx, ocx, vsx, tq, hcx, hoc, hdc, hq⟩ := PySem.W.codeRec_of KX hcd
  have hcdv : cdv = .ref cx := hcx
  subst hcdv
  simp only [PySem.W.fnOf, callFunction, S.co, S.gen]
  refine aL_bind (m := field (.ref cx) 1) (aE_exact (wpAny_field (s := { s with gens := #[] }) hoc hdc hq ⟨rfl, ?_⟩))
  refine aL_bind (aL_pure ?_)
  refine aL_bind (aL_imp (aL_calm (s0 := s) (E := fun _ _ => False) (hb (model P w) A.in1 _ (fun b s' => b = ps.zip us ∧ s' = coolS s) ⟨rfl, rfl⟩) (fun _ _ q => q) (coolS_coolS s).symm (Cl.refl s)) fun b s1 ⟨s1c, e1, c1, eb, es⟩ => ?_)
  subst eb es
  have env2 : wpAny (model P w) A.in1 (newFunctionEnv scope mainGlobals [] (ps.zip us) (qual ++ ".<locals>.") (some f) (.ref cx) none builtinsNs) (fun env s' => env = PyProof.Rows.envOfC qual scope s.heap.objs.size f (.ref cx) ∧
      InCallC (coolS s) s.heap.objs.size (bindL (PyProof.Rows.envOfC qual scope s.heap.objs.size f (.ref cx)).kindOf (ps.zip us) fun _ => none) (PySem.cellsFrom (s.heap.objs.size + 1) scope.names []) (bindC (PyProof.Rows.envOfC qual scope s.heap.objs.size f (.ref cx)).kindOf (ps.zip us) fun _ => none) s') (fun _ _ => False) (coolS s) :=
    wpAny_newFunctionEnv_cells S.kind hkind fun env he s1 x => by
      subst he
      exact ⟨rfl, x⟩
  refine aL_bind (aL_imp (aL_calm (s0 := s) env2 (fun _ _ q => q) e1 c1) fun env s2 ⟨s2c, e2, c2, ee, x⟩ => ?_)
  subst ee
  obtain ⟨h1, tk, es1, hk1⟩ := x.done
  have hbare : coolS s2c = s2c := by
    rw [es1]
    show (⟨_, _, _, _, _⟩ : Shared) = ⟨_, _, _, _, _⟩
    simp only [coolS, Array.map_map]
    congr 1
    congr 1
    funext y
    exact cool_cool y
  rw [hbare] at e2
  have lim2 : s2.heap.NoLimit := by
    have : s2.heap = s2c.heap := (congrArg (fun z : Shared => z.heap) e2 : (coolS s2).heap = _)
    rw [this]
    exact lim.keeps x.toInCall.keep
  refine aL_bind (aE_exact (wpAny_enterFrame (s := { s2 with gens := #[] }) lim2 hr.depth ⟨rfl, ?_⟩))
  refine aL_pure ⟨rfl, flowL_tree ?_⟩
  show anyL _ (A.deeper (PyProof.Rows.envOfC qual scope s.heap.objs.size f (.ref cx))) (do point; match ← (execs body (PyProof.Rows.envOfC qual scope s.heap.objs.size f (.ref cx))).onRaise (leaving _) with | .ret v => ret v | _ => ret .none) _ s2
  obtain ⟨t, ht, hqt⟩ := hbody A outer (coolS s) H vs Q (hr.deeper _) hsp
  have I : Inv (cxOf CX0 P w K mg base N qual scope f (.ref cx) A outer (coolS s) H E0) [] (start N vs) H s2c := inv_start S hr.hd e0 hl r x
  have I2 : ZI ok (cxOf CX0 P w K mg base N qual scope f (.ref cx) A outer (coolS s) H E0).nox [] (start N vs) H s2 := ⟨by rw [e2]; exact I.wish _, fun g hg => hot g (c2 g hg)⟩
  refine aL_bind (aL_point (aL_bind (aL_onRaise (aL_imp (ht.run ok [] s2 (start N vs) H _ I2 hqt) fun fl s3 q => ?_))))
  have fin : ∀ {σ' : St} {H' : Hp} {v : V} {u : Value}, ZI ok (cxOf CX0 P w K mg base N qual scope f (.ref cx) A outer (coolS s) H E0).nox [] σ' H' s3 → RelV v u → Q v H' → CZ ok outer P w H s Q (.ret u) s3 :=
    fun {σ' H' v u} J rv q => ⟨u, rfl, ⟨v, H', J.inv.os, J.inv.bare, J.inv.base, J.inv.hok, rv, q⟩, J.hot⟩
  cases fl with
  | ret u =>
    obtain ⟨v, σ', H', J, rv, q⟩ := q
    exact aL_pure (fin J rv q)
  | next =>
    obtain ⟨σ', H', J, q⟩ := q
    exact aL_pure (fin (v := V.non) (u := Value.none) J rfl q)
  | brk =>
    obtain ⟨_, _, _, q⟩ := q
    exact q.elim
  | cont =>
    obtain ⟨_, _, _, q⟩ := q
    exact q.elim
end MR
end
section
set_option linter.all false
set_option maxRecDepth 100000
set_option maxHeartbeats 4000000
/-! MG12: targets with a star at the end: a, b, *rest = a tuple or a list. -/
namespace MR
open PySem L2 MG
open Sem (wp)
section
variable {prog : Program} {w : World} {A : Around} {E : Value → Shared → Prop} {s : Shared} {I : Addr} {fp wr : List Addr} {n : Nat} {P : Nat → Value → Prop} {St : Nat → Heap → Prop}
/-- the walk that is left after i items -/
theorem walk_from (W : Walks prog w A I fp wr n P St) (i : Nat) (hi : i ≤ n) : Walks prog w A I fp wr (n - i) (fun j => P (i + j)) (fun j => St (i + j)) where
  sub := W.sub
  frame := fun j h h' st hk => W.frame _ h h' st hk
  item := fun j s Q E hj st hQ => W.item (i + j) s Q E (by omega) st fun v h' tk hp st' hk => hQ v h' tk hp st' hk
  done := fun s Q E st hQ => W.done s Q E (by rw [show i + (n - i) = n by omega] at st; exact st) hQ
  self := fun j s Q E st hQ => W.self _ s Q E st hQ
theorem draw_walk (W : Walks prog w A I fp wr n P St) : ∀ (m i : Nat) (s : Shared) (Q : List Value → Shared → Prop), i + m ≤ n → St i s.heap →
    (∀ vs h' tk, vs.length = m → (∀ (j : Nat) v, vs[j]? = some v → P (i + j) v) → St (i + m) h' → (∀ b o, b ∉ wr → s.heap.get? b = some o → h'.get? b = some o) → Q vs { s with heap := h', toks := tk }) →
    wpAny (model prog w) A (draw (.ref I) m) Q E s
  | 0, i, s, Q, _, st, hQ => by
    show wpAny _ _ (pure []) Q E s
    exact wpAny_pure (hQ [] s.heap s.toks rfl (fun j v e => by simp at e) st fun _ _ _ e => e)
  | m + 1, i, s, Q, hle, st, hQ => by
    show wpAny _ _ (pyNext (.ref I) >>= _) Q E s
    refine wpAny_bind (W.item i s _ _ (by omega) st fun v h1 tk1 hp st1 k1 => ?_)
    refine wpAny_bind (wpAny_holding (draw_walk W m (i + 1) _ _ (by omega) st1 fun vs h2 tk2 hl hps st2 k2 => wpAny_pure ?_))
    refine hQ (v :: vs) h2 tk2 (by show vs.length + 1 = m + 1; rw [hl]) (fun j u e => ?_) (by rw [show i + (m + 1) = i + 1 + m by omega]; exact st2) fun b o hb e => k2 b o hb (k1 b o hb e)
    cases j with
    | zero => simp at e; subst e; exact hp
    | succ j =>
      have := hps j u (by simpa using e)
      rw [show i + (j + 1) = i + 1 + j by omega]
      exact this
theorem list_at {its vs : List Value} {i : Nat} (hl : vs.length = its.length - i) (h : ∀ (j : Nat) v, vs[j]? = some v → its[i + j]? = some v) : vs = its.drop i := by
  refine List.ext_getElem? fun j => ?_
  rw [List.getElem?_drop]
  rcases Nat.lt_or_ge j vs.length with q | q
  · rw [h j _ (List.getElem?_eq_getElem q), List.getElem?_eq_getElem q]
  · rw [List.getElem?_eq_none q, List.getElem?_eq_none (by omega)]
theorem list_at0 {its vs : List Value} {m : Nat} (hm : m ≤ its.length) (hl : vs.length = m) (h : ∀ (j : Nat) v, vs[j]? = some v → its[0 + j]? = some v) : vs = its.take m := by
  refine List.ext_getElem? fun j => ?_
  rcases Nat.lt_or_ge j vs.length with q | q
  · have := h j _ (List.getElem?_eq_getElem q)
    rw [List.getElem?_take, if_pos (by omega), List.getElem?_eq_getElem q, ← this, Nat.zero_add]
  · rw [List.getElem?_eq_none q, List.getElem?_eq_none (by rw [List.length_take]; omega)]
theorem star_walk {v : Value} {T : String} {i : Nat} {its : List Value} {Q : List Value → Shared → Prop}
    (hTm : T = "str_ascii_iterator" ∨ T = "str_iterator" ∨ T = "list_iterator" ∨ T = "tuple_iterator")
    (hna : ∀ (Q : Bool → Shared → Prop), Q false s → wpAny (model prog w) A (notIterableAtAll v) Q E s)
    (hit : ∀ (Q : Value → Shared → Prop), (∀ (h' : Heap), (∀ b o, s.heap.get? b = some o → h'.get? b = some o) → St 0 h' → Q (.ref I) { s with heap := h' }) → wpAny (model prog w) A (pyIter v) Q E s)
    (W : Walks prog w A I fp wr its.length P St) (W2 : Walks prog w A.in1 I fp wr its.length P St) (hP : ∀ i v, P i v → its[i]? = some v)
    (hw : ∀ b ∈ wr, s.heap.get? b = none) (hT : ∀ i (s : Shared), St i s.heap → s.TypeIs (.ref I) T) (hI : I ∈ fp) (hlt : ∀ i (h : Heap), St i h → ∀ b ∈ fp, b < h.objs.size)
    (hi : i ≤ its.length) (hz : its.length ≤ sizeLine)
    (hQ : ∀ (h' : Heap) (tk : Nat), (∀ b o, s.heap.get? b = some o → h'.get? b = some o) → Q (its.take i ++ [.ref h'.objs.size]) { s with heap := h'.push { cls := .type "list", data := .seq (its.drop i).toArray }, toks := tk }) :
    wpAny (model prog w) A (unpackItems v (i + 1) (some i)) Q E s := by
  unfold unpackItems
  refine wpAny_bind (hna _ ?_)
  rw [if_neg Bool.false_ne_true]
  refine wpAny_bind (wpAny_holding (hit _ fun h1 k1 st1 => ?_))
  refine wpAny_bind (wpAny_holding (draw_walk W i 0 _ _ (by omega) st1 fun vs h2 tk2 hl hps st2 k2 => ?_))
  have ev : vs = its.take i := list_at0 hi hl fun j v e => hP _ _ (hps j v e)
  rw [if_neg (by omega)]
  rw [Nat.zero_add] at st2
  refine wpAny_bind (wpAny_holding (wpAny_collect_iter hTm (walk_from W2 i hi).toS (fun j s st => hT _ s st) (by exact st2) (hlt _ _ st2) hI (fun s3 acc m3 ia => ?_) (by omega)))
  have ea : acc.toList = its.drop i := by
    refine list_at ?_ fun j v e => hP _ _ (ia.2 j v ?_)
    · rw [Array.length_toList, ia.1]
    · rw [Array.getElem?_toList] at e; exact e
  have hn : ¬ acc.toList.length < i + 1 - 1 - i := by omega
  simp only [if_neg hn]
  have e0 : acc.toList.length - (i + 1 - 1 - i) = acc.toList.length := by omega
  rw [e0, List.take_of_length_le (Nat.le_refl _), List.drop_of_length_le (Nat.le_refl _), ea, ev]
  refine wpAny_bind (wpAny_newList ?_ (by rw [List.length_drop]; omega))
  rw [List.append_nil]
  rw [Moved.eq_with m3]
  have k3 : ∀ b o, s.heap.get? b = some o → s3.heap.get? b = some o := fun b o e => by
    have nb : b ∉ wr := fun hb => by rw [hw b hb] at e; cases e
    exact m3.heap b o nb (k2 b o nb (k1 b o e))
  exact wpAny_pure (hQ _ _ k3)
theorem unpackItems_starT {t : Addr} {i : Nat} {its : List Value} {Q : List Value → Shared → Prop} (hh : A.handled = none) (ht : s.heap.IsTuple t its.toArray)
    (hi : i ≤ its.length) (hz : its.length ≤ sizeLine)
    (hQ : ∀ (h' : Heap) (tk : Nat), (∀ b o, s.heap.get? b = some o → h'.get? b = some o) → Q (its.take i ++ [.ref h'.objs.size]) { s with heap := h'.push { cls := .type "list", data := .seq (its.drop i).toArray }, toks := tk }) :
    wpAny (model prog w) A (unpackItems (.ref t) (i + 1) (some i)) Q E s := by
  have hne : t ≠ s.heap.objs.size := by obtain ⟨o, ho, _⟩ := ht; exact Nat.ne_of_lt (Heap.lt_size ho)
  refine star_walk (T := "tuple_iterator") (.inr (.inr (.inr rfl))) (fun Q q => ?_) (fun Q q => wpAny_pyIter_tuple ht (q _ (fun b o e => Heap.get?_push_of_some _ e) ⟨⟨_, Heap.get?_push_size _ rfl, rfl, rfl⟩, ht.at fun o e => Heap.get?_push_of_some _ e⟩))
    (Walks.tuple hh s.heap.objs.size t hne its.toArray) (Walks.tuple (A := A.in1) hh s.heap.objs.size t hne its.toArray) (fun i v e => by simpa using e) (fun b hb => ?_) (fun i s st => ?_) (by simp) (fun i h st b hb => ?_) hi hz hQ
  · unfold notIterableAtAll
    exact wpAny_bind (wpAny_specialOf ht.typeIs F.slot_tuple_iter.lookup (wpAny_pure q))
  · rw [List.mem_singleton.mp hb]
    exact Heap.get?_none_of_le (Nat.le_refl _)
  · obtain ⟨⟨o, ho, hc, _⟩, _⟩ := st; exact ⟨o, ho, hc⟩
  · obtain ⟨⟨o, ho, _⟩, ⟨u, hu, _⟩⟩ := st
    simp at hb
    rcases hb with rfl | rfl
    · exact Heap.lt_size ho
    · exact Heap.lt_size hu
theorem unpackItems_starL {t : Addr} {i : Nat} {its : List Value} {Q : List Value → Shared → Prop} (hh : A.handled = none) (ht : s.heap.IsList t its.toArray)
    (hi : i ≤ its.length) (hz : its.length ≤ sizeLine)
    (hQ : ∀ (h' : Heap) (tk : Nat), (∀ b o, s.heap.get? b = some o → h'.get? b = some o) → Q (its.take i ++ [.ref h'.objs.size]) { s with heap := h'.push { cls := .type "list", data := .seq (its.drop i).toArray }, toks := tk }) :
    wpAny (model prog w) A (unpackItems (.ref t) (i + 1) (some i)) Q E s := by
  have hne : t ≠ s.heap.objs.size := by obtain ⟨o, ho, _⟩ := ht; exact Nat.ne_of_lt (Heap.lt_size ho)
  refine star_walk (T := "list_iterator") (.inr (.inr (.inl rfl))) (fun Q q => ?_) (fun Q q => wpAny_pyIter_list ht (q _ (fun b o e => Heap.get?_push_of_some _ e) ⟨⟨_, Heap.get?_push_size _ rfl, rfl, rfl⟩, ht.at fun o e => Heap.get?_push_of_some _ e⟩))
    (Walks.list hh s.heap.objs.size t hne its.toArray) (Walks.list (A := A.in1) hh s.heap.objs.size t hne its.toArray) (fun i v e => by simpa using e) (fun b hb => ?_) (fun i s st => ?_) (by simp) (fun i h st b hb => ?_) hi hz hQ
  · unfold notIterableAtAll
    exact wpAny_bind (wpAny_specialOf ht.typeIs slot_list_iter.lookup (wpAny_pure q))
  · rw [List.mem_singleton.mp hb]
    exact Heap.get?_none_of_le (Nat.le_refl _)
  · obtain ⟨⟨o, ho, hc, _⟩, _⟩ := st; exact ⟨o, ho, hc⟩
  · obtain ⟨⟨o, ho, _⟩, ⟨u, hu, _⟩⟩ := st
    simp at hb
    rcases hb with rfl | rfl
    · exact Heap.lt_size ho
    · exact Heap.lt_size hu
end
section
variable {X : Cx} {pos : Pos}
theorem assignInOrder_ext {ts us : List (Value → Sem Unit)} {vs : List Value} (h : ts = us) : assignInOrder ts vs = assignInOrder us vs := by rw [h]
/-- (a, b, .., *rest) = a tuple or a list -/
def gStar (K : PySem.W.Frag) (n : Nat) (t : TGs) : TG := fun v σ H Q => ∃ a xs, v = .ref a ∧ (SqT K H a xs ∨ SqL K H a xs) ∧ n ≤ xs.length ∧ ∀ p, H p = none → t (xs.take n ++ [.ref p]) σ (upd H p (.lst (xs.drop n))) Q
/-- the targets, the star's own as a plain one -/
inductive PGt (X : Cx) : List Expr → Nat → TGs → Prop
  | star {e : Expr} {t : TG} {p : Pos} : PG X e t → PGt X [.Starred e p] 0 (gCons t gNil)
  | cons {e : Expr} {es : List Expr} {t : TG} {n : Nat} {u : TGs} : PG X e t → PGt X es n u → (assignEach (e :: es) X.env = (false, assign e X.env) :: assignEach es X.env) → PGt X (e :: es) (n + 1) (gCons t u)
theorem PGt.each {es : List Expr} {n : Nat} {u : TGs} (h : PGt X es n u) : (assignEach es X.env).findIdx? (·.1) = some n ∧ (assignEach es X.env).length = n + 1 ∧
    ∀ (pins : List (Addr × Obj)) (s : Shared) (σ : L2.St) (H : Hp) (vs : List V) (us : List Value) (Q : L2.St → Hp → Prop), Inv X pins σ H s → Vals vs us → u vs σ H Q →
      wpAny (model X.prog X.w) X.A (assignInOrder ((assignEach es X.env).map (·.2)) us) (fun _ s' => ∃ σ' H', Inv X pins σ' H' s' ∧ Q σ' H') X.xe s := by
  induction h with
  | @star e t p h1 =>
    refine ⟨rfl, rfl, fun pins s σ H vs us Q I r h => ?_⟩
    obtain ⟨v, vr, e1, h⟩ := h
    subst e1
    cases r with
    | cons r rr =>
      show wpAny _ _ (assignInOrder [assign e X.env] _) _ _ s
      refine PyProof.Rows.assignInOrder_cons (thn (h1.run pins s σ H _ _ _ I r h) fun _ s1 ⟨σ1, H1, I1, q1⟩ => ?_)
      obtain ⟨e2, q1⟩ := q1
      subst e2
      cases rr
      exact PyProof.Rows.assignInOrder_nil ⟨σ1, H1, I1, q1⟩
  | @cons e es t n u h1 h2 hs ih =>
    obtain ⟨i1, i2, i3⟩ := ih
    rw [hs]
    refine ⟨?_, by rw [List.length_cons, i2], fun pins s σ H vs us Q I r h => ?_⟩
    · rw [List.findIdx?_cons, i1]; rfl
    · obtain ⟨v, vr, e1, h⟩ := h
      subst e1
      cases r with
      | cons r rr =>
        rw [List.map_cons]
        refine PyProof.Rows.assignInOrder_cons (thn (h1.run pins s σ H _ _ _ I r h) fun _ s1 ⟨σ1, H1, I1, q1⟩ => ?_)
        exact i3 pins s1 σ1 H1 _ _ Q I1 rr q1
theorem vals_append : ∀ {xs ys : List V} {us vs : List Value}, Vals xs us → Vals ys vs → Vals (xs ++ ys) (us ++ vs)
  | [], _, _, _, .nil, h => h
  | _ :: _, _, _, _, .cons r t, h => .cons r (vals_append t h)
theorem vals_take : ∀ {xs : List V} {us : List Value} (n : Nat), Vals xs us → Vals (xs.take n) (us.take n)
  | _, _, 0, _ => by rw [List.take_zero, List.take_zero]; exact .nil
  | _, _, n + 1, .nil => .nil
  | _, _, n + 1, .cons r t => .cons r (vals_take n t)
theorem vals_drop : ∀ {xs : List V} {us : List Value} (n : Nat), Vals xs us → Vals (xs.drop n) (us.drop n)
  | _, _, 0, h => h
  | _, _, n + 1, .nil => .nil
  | _, _, n + 1, .cons r t => vals_drop n t
theorem pg_star {es : List Expr} {k : Nat} {n : Nat} {t : TGs} (hc : X.calm = true) (h : PGt X es n t) : PG X (.Tuple es k pos) (gStar X.K n t) := by
  refine ⟨fun pins s σ H v u Q I r hw => ?_⟩
  obtain ⟨a, xs, e1, hq, hl, hw⟩ := hw
  subst e1
  cases r
  obtain ⟨h1, h2, h3⟩ := h.each
  rw [PyProof.Rows.assign_Tuple]
  refine wpAny_bind (wpAny_standAt ?_)
  unfold unpack
  rw [h1, h2]
  have fin : ∀ (its : List Value), Vals xs its → its.length ≤ sizeLine → ∀ (h' : Heap) (tk : Nat), (∀ b o, s.heap.get? b = some o → h'.get? b = some o) →
      wpAny (model X.prog X.w) X.A (assignInOrder ((assignEach es X.env).map (·.2)) (its.take n ++ [.ref h'.objs.size])) (fun _ s' => ∃ σ' H', Inv X pins σ' H' s' ∧ Q σ' H') X.xe
        { s with heap := h'.push { cls := .type "list", data := .seq (its.drop n).toArray }, toks := tk } := fun its rv hz h' tk k => by
    have I1 : Inv X pins σ H { s with heap := h' } := I.kept (t' := s.toks) k
    have hf : H h'.objs.size = none := I1.hok.fresh (Nat.le_refl _)
    have I2 : Inv X pins σ (upd H h'.objs.size (.lst (xs.drop n))) { s with heap := h'.push { cls := .type "list", data := .seq (its.drop n).toArray }, toks := tk } :=
      I1.laid (t' := tk) (fun b u e => Heap.get?_push_of_some _ e) (Nat.le_refl _) ⟨by rw [List.length_drop, rv.length]; omega, its.drop n, 0, vals_drop n rv, Heap.get?_push_size _ rfl⟩
    exact h3 pins _ σ _ _ _ Q I2 (vals_append (vals_take n rv) (.cons (a := V.ref _) (show RelV (.ref _) _ from rfl) .nil)) (hw _ hf)
  rcases hq with hq | hq
  · obtain ⟨its, rv, ht, hz⟩ := I.tuple hq
    have hz' : its.length ≤ sizeLine := by rw [← rv.length]; exact hz
    exact wpAny_bind (wpAny_holding (unpackItems_starT (I.ok.hd hc) ht (by rw [← rv.length]; exact hl) hz' fun h' tk k => fin its rv hz' h' tk k))
  · obtain ⟨its, rv, ⟨o, m, ho, hcl, _, hd⟩, hz⟩ := I.list hq
    have hz' : its.length ≤ sizeLine := by rw [← rv.length]; exact hz
    exact wpAny_bind (wpAny_holding (unpackItems_starL (I.ok.hd hc) ⟨o, ho, hcl, m, hd⟩ (by rw [← rv.length]; exact hl) hz' fun h' tk k => fin its rv hz' h' tk k))
end
end MR
end
section
set_option linter.all false
set_option maxRecDepth 100000
set_option maxHeartbeats 4000000
/-! MG13: documents, their parts; assertions of a generator's body over slots. -/
namespace MG
open PySem L2 MR
section
variable {V : Vol} {δ : List Slot} {K : PySem.W.Frag}
theorem xg_star {n : Nat} {gs : TGs} {d : D} {ds : List D} {K' : List Slot → Prop} (e : d = .tup ds ∨ d = .lst ds) (hn : n ≤ ds.length) (h : XGs V gs (ds.take n ++ [.lst (ds.drop n)]) δ K') : XG V (gStar K n gs) d δ K' := fun O0 H0 O σ H v m r Q q => by
  have key : ∀ a vs, (SqT K H a vs ∨ SqL K H a vs) → RpL O H ds vs → (gStar K n gs) (.ref a) σ H Q := fun a vs hq r => by
    refine ⟨a, vs, rfl, hq, by rw [r.len]; exact hn, fun p hp => ?_⟩
    have g : Go V H (upd H p (.lst (vs.drop n))) := .new m.ti hp
    refine h O0 H0 O σ _ _ (m.mono g) ((m.rpl g (r.take n)).append (RpL.cons ?_ .nil)) Q fun δ' σ' H' g2 m2 k2 => q δ' σ' H' (g.trans g2) m2 k2
    unfold Rp
    exact ⟨p, _, rfl, upd_same, m.free hp, m.rpl g (r.drop n)⟩
  rcases e with e | e
  · subst e
    unfold Rp at r
    obtain ⟨a, vs, ev, ha, r⟩ := r
    subst ev
    exact key a vs (.inl (SqT.of ha)) r
  · subst e
    unfold Rp at r
    obtain ⟨a, vs, ev, ha, _, r⟩ := r
    subst ev
    exact key a vs (.inr (SqL.of ha)) r
end

/-! ### documents -/
inductive Bx where
  | blk (t b s : Int) | grp (t b p : Int) (bs : List Bx)
mutual
def Bx.d : Bx → D
  | .blk t b s => .tup [.str "block", .int t, .int b, .int s]
  | .grp t b p bs => .tup [.str "group", .int t, .int b, .int p, .tup (Bx.ds bs)]
def Bx.ds : List Bx → List D
  | [] => []
  | b :: bs => b.d :: Bx.ds bs
end
mutual
def Bx.pts : Bx → List Pt
  | .blk t b s => [.m t, .s s, .m b]
  | .grp t b p bs => .m t :: ((if 0 < p then [.s p] else []) ++ (Bx.ptss bs ++ ((if 0 < p then [.s p] else []) ++ [.m b])))
def Bx.ptss : List Bx → List Pt
  | [] => []
  | b :: bs => b.pts ++ Bx.ptss bs
end
mutual
def Bx.dep : Bx → Nat
  | .blk _ _ _ => 0
  | .grp _ _ _ bs => Bx.deps bs + 1
def Bx.deps : List Bx → Nat
  | [] => 0
  | b :: bs => max b.dep (Bx.deps bs)
end
theorem Bx.ds_len : ∀ bs, (Bx.ds bs).length = bs.length
  | [] => by unfold Bx.ds; rfl
  | b :: bs => by unfold Bx.ds; rw [List.length_cons, List.length_cons, Bx.ds_len bs]
theorem Bx.ds_get : ∀ (bs : List Bx) (i : Nat), (Bx.ds bs)[i]? = bs[i]?.map Bx.d
  | [], i => by unfold Bx.ds; simp
  | b :: bs, 0 => by unfold Bx.ds; simp
  | b :: bs, i + 1 => by unfold Bx.ds; simpa using Bx.ds_get bs i
theorem Bx.deps_get {bs : List Bx} {i : Nat} {b : Bx} (h : bs[i]? = some b) : b.dep ≤ Bx.deps bs := by
  induction bs generalizing i with
  | nil => simp at h
  | cons c bs ih =>
    unfold Bx.deps
    cases i with
    | zero => simp at h; subst h; exact Nat.le_max_left ..
    | succ i => exact Nat.le_trans (ih (by simpa using h)) (Nat.le_max_right ..)
theorem Bx.ptss_drop {bs : List Bx} {i : Nat} {b : Bx} (h : bs[i]? = some b) : Bx.ptss (bs.drop i) = b.pts ++ Bx.ptss (bs.drop (i + 1)) := by
  obtain ⟨hi, rfl⟩ := List.getElem?_eq_some_iff.mp h
  rw [List.drop_eq_getElem_cons hi]
  rw [Bx.ptss]
def Bx.doc (bs : List Bx) : D := .tup (Bx.ds bs)
def Pt.ho : Pt → HO
  | .m n => .tup [.str "margin", .int n]
  | .s n => .tup [.str "solid", .int n]
end MG
namespace MR
open PySem L2 MG
abbrev noO : AS := fun _ => False
/-- the locals show these slots -/
def Sh (δ : List Slot) (σ : L2.St) (H : Hp) : Prop := ∃ H0, MtO Vol.nil noO H0 noO δ σ H
theorem Sh.hx {δ : List Slot} {σ : L2.St} {H H' : Hp} (m : Sh δ σ H) (h : Hx H H') : Sh δ σ H' := by
  obtain ⟨H0, m⟩ := m
  exact ⟨H0, m.mono ⟨fun b o _ e => h b o e, trivial⟩⟩
theorem go_hx {H H' : Hp} (g : MG.Go Vol.nil H H') : Hx H H' := fun b o e => g.1 b o (fun z => z) e
theorem sh_no {σ : L2.St} {H : Hp} {n : Nat} (h : σ.length = n) : Sh (List.replicate n .no) σ H := by
  refine ⟨H, ⟨by rw [h, List.length_replicate], fun i s e => ?_, fun i j ds es p e => ?_, fun b z => z, fun b z => z.elim, fun b z => z.elim, fun b z => z.elim, .refl trivial, trivial⟩⟩
  · have := List.mem_of_getElem? e
    rw [List.eq_of_mem_replicate this]; trivial
  · have := List.mem_of_getElem? e
    cases List.eq_of_mem_replicate this
theorem Sh.len {δ : List Slot} {σ : L2.St} {H : Hp} (m : Sh δ σ H) : σ.length = δ.length := by obtain ⟨H0, m⟩ := m; exact m.len
/-- still to hand out: these parts -/
structure SA (all : List HO) (Ha : Hp) (δ : List Slot) (pts : List Pt) (n : Nat) (σ : L2.St) (H : Hp) : Prop where
  le : n ≤ all.length
  rem : Rem all n = pts.map Pt.ho
  hx : Hx Ha H
  sh : Sh δ σ H
section
variable {ok : Nat → Prop} {X : Cx} {Wl : List Addr} {g : Nat} {all : List HO} {Ha : Hp} {δ : List Slot} {pts : List Pt} {Q : Nat → L2.St → Hp → Prop} {e : Expr} {pos yp : Pos}
theorem ga_yield {j : Nat} {kd : Str} {p : Pt} {z : Int} (nx : NoX X) (Wt : Watch X Wl) (he : PE X e (tTup (tCons (tC (.str kd)) (tCons (tVar j) tNil)))) (hj : δ[j]? = some (.dat (.int z))) (hp : p.ho = .tup [.str kd, .int z])
    (hco : X.env.scope.isCoroutine = false) (hi : interactive X.env = false) : G1 ok X Wl g all (.Expr (.Yield (some e) yp) pos) (SA all Ha δ (p :: pts)) (SA all Ha δ pts) :=
  g_yield nx Wt he (fun n σ H a => ⟨a.le, p.ho, pts.map Pt.ho, a.rem, by
    obtain ⟨H0, m⟩ := a.sh
    obtain ⟨v, ev, r⟩ := m.slot j _ hj
    unfold Rp at r
    subst r
    refine ⟨_, ev, by show 2 ≤ sizeLine; decide, fun q hq => ⟨q, rfl, by rw [hp]; exact upd_same, same_new hq, fun k hk en => ?_⟩⟩
    have hx : Hx H (upd H q (.tup [.str kd, .int z])) := same_new hq
    exact ⟨(by have := a.le; omega), hk, a.hx.trans hx, a.sh.hx hx⟩⟩) hco hi
theorem ga_if {c : Expr} {as bs : List Stmt} {tc : TT} {b0 : Bool} (nx : NoX X) (hc : PT X c tc) (h : XT Vol.nil tc δ fun b => b = b0) (ha : b0 = true → GS ok X Wl g all as (SA all Ha δ pts) Q) (hb : b0 = false → GS ok X Wl g all bs (SA all Ha δ pts) Q) :
    G1 ok X Wl g all (.If c as bs pos) (SA all Ha δ pts) Q :=
  g_if nx hc (fun b n σ H => SA all Ha δ pts n σ H ∧ b = b0) (fun n σ H a => by
    obtain ⟨H0, m⟩ := a.sh
    exact h _ _ _ σ H m _ fun b H1 g1 eb => ⟨go_hx g1, ⟨a.le, a.rem, a.hx.trans (go_hx g1), a.sh.hx (go_hx g1)⟩, eb⟩)
    (fun A R ip n s₀ Hq c fs K J gd lv s σ H gc I hx co p k => ha p.2.symm A R ip n s₀ Hq c fs K J gd lv s σ H gc I hx co p.1 k)
    (fun A R ip n s₀ Hq c fs K J gd lv s σ H gc I hx co p k => hb p.2.symm A R ip n s₀ Hq c fs K J gd lv s σ H gc I hx co p.1 k)
theorem ga_imp {P P' : Nat → L2.St → Hp → Prop} {sts : List Stmt} (h : GS ok X Wl g all sts P Q) (i : ∀ n σ H, P' n σ H → P n σ H) : GS ok X Wl g all sts P' Q := fun A R ip n s₀ Hq c fs K J gd lv s σ H gc I hx co p k =>
  h A R ip n s₀ Hq c fs K J gd lv s σ H gc I hx co (i _ _ _ p) k
theorem ga_post {P Q' : Nat → L2.St → Hp → Prop} {sts : List Stmt} (h : GS ok X Wl g all sts P Q) (i : ∀ n σ H, Q n σ H → Q' n σ H) : GS ok X Wl g all sts P Q' := fun A R ip n s₀ Hq c fs K J gd lv s σ H gc I hx co p k =>
  h A R ip n s₀ Hq c fs K J gd lv s σ H gc I hx co p fun n' s₀' Hq' s' σ' H' I' hx' co' q => k n' s₀' Hq' s' σ' H' I' hx' co' (i _ _ _ q)
/-- documents of that depth, by their parts -/
def spParts (d : Nat) : SpZ := fun vs H items => ∃ bs v, vs = [v] ∧ Bx.deps bs ≤ d ∧ Rp noO H (Bx.doc bs) v ∧ items = (Bx.ptss bs).map Pt.ho
theorem Hx.rp {H H' : Hp} (h : Hx H H') {d : D} {v : L2.V} (r : Rp noO H d v) : Rp noO H' d v := Rp.to (fun b xs e => h b _ e) (fun b xs _ e => ⟨fun z => z, h b _ e⟩) d v r
theorem ga_yf {k d : Nat} {bs : List Bx} {ta : TA} (nx : NoX X) (hc : X.calm = true) (Wt : Watch X Wl) (he : PGn X k e (tCallG (spParts d) ta)) (hr : Room (k + 1) X.A) (hst : X.stack = X.env :: X.outer) (hfr : X.env.frame = some X.env.locals) (hi : interactive X.env = false)
    (ha : XA Vol.nil ta δ fun as => ∃ a, as = [a] ∧ a.ok ∧ a.d = Bx.doc bs) (hd : Bx.deps bs ≤ d) :
    G1 ok X Wl g all (.Expr (.YieldFrom e yp) pos) (SA all Ha δ (Bx.ptss bs ++ pts)) (SA all Ha δ pts) :=
  g_yf nx hc Wt he hr hst hfr hi fun n σ H a => by
    obtain ⟨H0, m⟩ := a.sh
    refine ha _ _ _ σ H m _ fun as vs H1 g1 r1 ⟨x, ex, kx, dx⟩ => ?_
    subst ex
    obtain ⟨v, t, ev, h1, h2⟩ := r1
    have h2 : t = [] := h2
    subst h2 ev
    have rv := m.repD h1 kx
    rw [dx] at rv
    refine ⟨_, ⟨bs, v, rfl, hd, rv, rfl⟩, go_hx g1, a.le, pts.map Pt.ho, by rw [a.rem, List.map_append], fun H2 k hx hk hm => ?_⟩
    have hx2 := (go_hx g1).trans hx
    exact ⟨hk, hm, a.hx.trans hx2, a.sh.hx hx2⟩
end
end MR
end
section
set_option linter.all false
set_option maxRecDepth 100000
set_option maxHeartbeats 4000000
/-! MH1: list comprehensions whose parts may be loud. -/
namespace MR
open PySem L2 MG
section
variable {α : Type} {M : Model} {A : Around} {s : Shared}
theorem aL_attempt {m : Sem α} {Q : Except Value α → Shared → Prop} (h : anyL M A m (fun a s' => Q (.ok a) s') s) : anyL M A m.attempt Q s := fun Γ p hΓ => by
  show wpL M Γ ((m >>= fun a => pure (Except.ok a)).tryCatch fun e => pure (Except.error e)) _ _ p s
  rw [wpL_catch, wpL_bind]
  exact wpL_imp M Γ m (fun _ _ _ q => q) (fun _ _ _ q => q.elim) p s (h Γ p hΓ)
end
theorem aL_ask {M : Model} {A : Around} {s : Shared} {Q : Setting → Shared → Prop} (h : Q ⟨M.prog, M.w.params⟩ s) : anyL M A ask Q s := fun _ _ _ => h
theorem aL_ite {α : Type} {M : Model} {A : Around} {s : Shared} {b : Prop} [Decidable b] {t u : Sem α} {Q : α → Shared → Prop} (ht : b → anyL M A t Q s) (hu : ¬ b → anyL M A u Q s) : anyL M A (if b then t else u) Q s := by
  split
  · exact ht ‹_›
  · exact hu ‹_›
/-- conditions, one after the other -/
structure PTsz (X : Cx) (ifs : List Expr) (t : TT) : Prop where
  run : ∀ (ok : Nat → Prop) (pins : List (Addr × Obj)) (s : Shared) (σ : L2.St) (H : Hp) (Q : Bool → Hp → Prop), ZI ok X pins σ H s → t σ H Q →
    anyX X (forIn ifs true fun c r => if r = true then do let ok ← isTrue c X.env (eval c X.env); pure (ForInStep.yield ok) else pure (ForInStep.yield r)) (TZ ok X pins σ Q) s
section
variable {X : Cx} {ifs : List Expr} {c : Expr} {tt : TT}
theorem tsz (nx : NoX X) (h : PTs X ifs tt) : PTsz X ifs tt := ⟨fun ok pins s σ H Q I q => liftT nx I (h.run pins _ σ H Q I.inv q)⟩
theorem tsz_one (h : PTz X c tt) : PTsz X [c] tt := ⟨fun ok pins s σ H Q I q => by
  rw [List.forIn_cons]
  refine aL_bind ?_
  rw [if_pos rfl]
  refine aL_bind (aL_imp (h.run ok pins s σ H Q I q) fun b s' q' => aL_pure ?_)
  show anyX X (forIn [] b _) _ s'
  rw [List.forIn_nil]
  exact aL_pure q'⟩
end
section
variable {prog : Program} {w : World} {A : Around} {s : Shared}
theorem fL_compLoop {R : Flow → Shared → Prop} {elt target iter : Expr} {ifs : List Expr} {scope : Scope} {pos : Pos} {it acc : Value} {env : Env} (I : Nat → Shared → Prop)
    (turn : ∀ n s, I n s → anyL (model prog w) A (pyNext it) (fun r s₁ => match r with
      | none => R .next s₁
      | some v => anyL (model prog w) A (letOwnedTupleGo target it v) (fun _ s₁' => anyL (model prog w) A (assign target env v) (fun _ s₂ =>
          anyL (model prog w) A (forIn ifs true fun c r => if r = true then do let ok ← isTrue c env (eval c env); pure (ForInStep.yield ok) else pure (ForInStep.yield r)) (fun ok s₃ =>
            if ok = true then anyL (model prog w) A (eval elt env) (fun x s₄ => anyL (model prog w) A (call (.builtin "list.append") [acc, x]) (fun _ s₅ => ∃ m, m < n ∧ I m s₅) s₄) s₃
            else ∃ m, m < n ∧ I m s₃) s₂) s₁') s₁) s)
    (n : Nat) (h : I n s) : flowL (model prog w) A (.compLoop (.ListComp elt [⟨target, iter, ifs, 0⟩] scope pos) 0 it acc env) R s := by
  refine fL_loop rfl I (fun n s hI => ?_) n h
  show anyL _ A ((compTurn (.ListComp elt [⟨target, iter, ifs, 0⟩] scope pos) 0 it acc env).onRaise (fun x => do noteFrame x env; theTreesLotGoes x)) _ s
  refine aL_onRaise ?_
  rw [compTurn_list]
  refine aL_bind (aL_stand (aL_bind (aL_imp (turn n s hI) fun r s₁ h₁ => ?_)))
  cases r with
  | none => exact aL_pure h₁
  | some v =>
    refine aL_bind (aL_imp h₁ fun _ s₁' h₁' => aL_bind (aL_imp h₁' fun _ s₂ h₂ => aL_bind (aL_imp h₂ fun ok s₃ h₃ => ?_)))
    cases ok with
    | false => exact aL_pure (.inl ⟨rfl, h₃⟩)
    | true => exact aL_bind (aL_bind (aL_imp h₃ fun x s₄ h₄ => aL_bind (aL_imp h₄ fun _ s₅ h₅ => aL_pure (aL_pure (.inl ⟨rfl, h₅⟩)))))
theorem fL_compStart {R : Flow → Shared → Prop} {elt target iter : Expr} {ifs : List Expr} {scope : Scope} {pos : Pos} {it acc : Value} {env : Env}
    (h0 : flowL (model prog w) A (.compLoop (.ListComp elt [⟨target, iter, ifs, 0⟩] scope pos) 0 it acc env) R s)
    (h : anyL (model prog w) A (pyIter it) (fun it' s' => flowL (model prog w) A (.compLoop (.ListComp elt [⟨target, iter, ifs, 0⟩] scope pos) 0 it' acc env) R s') s) :
    flowL (model prog w) A (.compStart (.ListComp elt [⟨target, iter, ifs, 0⟩] scope pos) 0 it acc env) R s := by
  refine flowL_tree ?_
  show anyL _ _ ((compStart (.ListComp elt [⟨target, iter, ifs, 0⟩] scope pos) 0 it acc env).onRaise (fun x => do noteFrame x env; standAt theWindowsPlace)) _ s
  refine aL_onRaise ?_
  unfold compStart
  show anyL _ _ (ask >>= _) _ s
  refine aL_bind (aL_ask (aL_ite (fun _ => ?_) (fun _ => ?_)))
  · exact aL_bind (aL_pure (aL_pure ⟨rfl, h0⟩))
  · exact aL_bind (aL_rule (aL_bind (aL_stand (aL_bind (aL_imp h fun it' s' h' => aL_pure ⟨rfl, h'⟩)))))
end
end MR
end
section
set_option linter.all false
set_option maxRecDepth 100000
set_option maxHeartbeats 4000000
/-! MH2: a list comprehension whose iterable, tests and elements may be loud. -/
namespace MR
open PySem L2 MG PyProof.Rows
section
variable {α : Type} {M : Model} {A : Around} {s : Shared}
theorem aL_of_eq {t : Sem α} {a : α} {Q : α → Shared → Prop} (e : t = pure a) (h : Q a s) : anyL M A t Q s := by rw [e]; exact aL_pure h
theorem aL_standIf {b : Bool} {p : Pos} {f : Unit → Sem α} {Q : α → Shared → Prop} (h : anyL M A (f ()) Q s) : anyL M A (if b then (standAt p >>= f) else f ()) Q s := by
  cases b
  · exact h
  · exact aL_bind (aL_stand h)
end
section
variable {X : Cx}
theorem lcz_core {ok : Nat → Prop} {pins : List (Addr × Obj)} {s : Shared} {σ : L2.St} {H : Hp} {Q : VK} {elt tg iter : Expr} {ifs : List Expr} {scope : Scope} {own : List (Str × Nat)} {pos pos' : Pos} {wi : TI} {g : TG} {tt : TT} {te : TE} {use : Option (Value → Sem Unit)} {Qc : Value → Shared → Prop}
    (nx : NoX X) (hc : X.calm = true) (hN : X.N.Nodup) (I : ZI ok X pins σ H s) (hi : PIz X tg iter wi) (okb : BlkOk X.N X.env.scope scope own)
    (hg : ∀ (s : Shared) (H : Hp) (C : Addr) (cl : List (Str × Addr)) (fp : List Addr), PG (X.blk s H scope (compEnvC scope cl C X.env) fp) tg g) (ht : ∀ (s : Shared) (H : Hp) (C : Addr) (cl : List (Str × Addr)) (fp : List Addr), PTsz (X.blk s H scope (compEnvC scope cl C X.env) fp) ifs tt)
    (he : ∀ (s : Shared) (H : Hp) (C : Addr) (cl : List (Str × Addr)) (fp : List Addr), PEz (X.blk s H scope (compEnvC scope cl C X.env) fp) elt te) (hs : ∀ x, foldedSetIterable iter X.env x = pure x)
    (h : tLc wi g tt te (own.map (·.2)) σ H Q)
    (hRR : ∀ D C s' m H', Inv X pins σ H' s' → Q (.ref D) H' → s'.heap.Ns C m → FpOk X pins H' C → compPost (model X.prog X.w) X.A X.xe use Qc (.ref D) C (.ok .next) s') :
    anyX X (comprehension (.ListComp elt [⟨tg, iter, ifs, 0⟩] scope pos) scope X.env pos' (newList []) false (eval iter X.env) use) (fun v s' => ∃ s1, coolS s' = coolS s1 ∧ (∀ g, Hot s' g → ok g) ∧ Qc v s1) s := by
  have hfree : ∀ y ∈ scope.names, y.2 = .free → ∃ c, X.env.cells.lookup y.1 = some c := fun y hy e => by
    rcases okb.free y hy e with k | k
    · exact I.inv.ok.has _ (.inl k)
    · exact I.inv.ok.has _ (.inr k)
  unfold comprehension
  rw [closure_ok hfree]
  refine aL_bind (aL_imp (hi.run ok pins s σ H _ I h) fun xv s1 h1 => aL_bind (aL_stand (aL_bind (aL_of_eq (hs xv) (aL_bind (aL_hold (aL_imp h1 fun itv s2 h2 => ?_)))))))
  obtain ⟨it, fp, tn, J, H2, e, I2, T, st2, f2, q⟩ := h2
  subst e
  refine aL_standIf (aL_bind (aL_imp (lift1 nx I2 (coolS_coolS s2).symm (Cl.refl s2) (wpAny_newObj_type (Q := fun v s' => v = .ref s2.heap.objs.size ∧ s' = { coolS s2 with heap := s2.heap.push { cls := .type "list", data := .seq ([] : List Value).toArray } }) ⟨rfl, rfl⟩ (by show 0 ≤ sizeLine; decide))) fun accv s3 ⟨sc3, e3, c3, ev, es3⟩ => ?_))
  subst ev
  generalize hD : s2.heap.objs.size = D at *
  have hDn : H2 D = none := I2.inv.hok.fresh (Nat.le_of_eq hD)
  obtain ⟨W, ⟨m0, w0⟩, turn⟩ := q D hDn
  have h3 : sc3.heap = s2.heap.push { cls := .type "list", data := .seq ([] : List Value).toArray } := by rw [es3]
  have I3 : Inv X pins σ (upd H2 D (.lst [])) sc3 := by
    rw [es3]
    refine I2.inv.laid (t' := s2.toks) (fun b o e => Heap.get?_push_of_some _ e) (Nat.le_of_eq hD) ⟨Nat.zero_le _, [], 0, .nil, ?_⟩
    rw [← hD]
    exact Heap.get?_push_size _ rfl
  have I3z := I2.back e3 c3 I3
  have sz : ∀ b ∈ fp, b < s2.heap.objs.size := fun b hb => by
    obtain ⟨o, e, _⟩ := T.obj _ _ st2 b hb
    exact Heap.lt_size e
  have f3 : ∀ b ∈ fp, FpOk X pins (upd H2 D (.lst [])) b ∧ b < sc3.heap.objs.size := fun b hb => by
    have hlt := sz b hb
    refine ⟨⟨?_, (f2 b hb).2⟩, by rw [h3, Heap.size_push]; exact Nat.lt_succ_of_lt hlt⟩
    rw [upd_ne (by rw [← hD]; exact Nat.ne_of_lt hlt)]
    exact (f2 b hb).1
  have st3 : tn 0 sc3.heap := T.keep _ _ _ st2 fun b _ o e => by rw [h3]; exact Heap.get?_push_of_some _ e
  have I4 := block_start I3 okb hN f3
  have pg := hg sc3 (upd H2 D (.lst [])) sc3.heap.objs.size (cellsFrom (sc3.heap.objs.size + 1) scope.names (cloFrom X.env.cells scope.names [])) fp
  have pt := ht sc3 (upd H2 D (.lst [])) sc3.heap.objs.size (cellsFrom (sc3.heap.objs.size + 1) scope.names (cloFrom X.env.cells scope.names [])) fp
  have pe := he sc3 (upd H2 D (.lst [])) sc3.heap.objs.size (cellsFrom (sc3.heap.objs.size + 1) scope.names (cloFrom X.env.cells scope.names [])) fp
  have nfp : ∀ b ∈ fp, (upd H2 D (.lst [])) b = none := fun b hb => (f3 b hb).1.1
  refine aL_bind (aL_pure (aL_bind (aL_imp (lift1 nx I2 e3 c3 (newEnv_comp (Q := fun env s' => env = newEnv scope sc3.heap.objs.size X.env.globals (cellsFrom (sc3.heap.objs.size + 1) scope.names (cloFrom X.env.cells scope.names [])) X.env.qual none .none (some X.env) _ ∧ s' = { sc3 with heap := pushCells (sc3.heap.push { cls := .type "dict", data := .dict #[] }) scope.names }) ⟨rfl, rfl⟩)) fun cenv s4 ⟨sc4, e4, c4, ece, es4⟩ => ?_)))
  subst ece
  dsimp only
  refine aL_hold (aL_bind (aL_attempt (aL_hold (aL_run ?_))))
  show flowL _ X.A (.compStart (.ListComp elt [⟨tg, iter, ifs, 0⟩] scope pos) 0 (.ref it) (.ref D) (compEnvC scope (cellsFrom (sc3.heap.objs.size + 1) scope.names (cloFrom X.env.cells scope.names [])) sc3.heap.objs.size X.env)) _ s4
  have cL : (compEnvC scope (cellsFrom (sc3.heap.objs.size + 1) scope.names (cloFrom X.env.cells scope.names [])) sc3.heap.objs.size X.env).locals = sc3.heap.objs.size := rfl
  refine flowL_imp (R := fun fl s' => ∃ m H', ZI ok X pins σ H' s' ∧ Q (.ref D) H' ∧ s'.heap.Ns sc3.heap.objs.size m ∧ FpOk X pins H' sc3.heap.objs.size) ?_ fun fl s5 ⟨m, H5, I5, q5, n5, f5⟩ => ?_
  · generalize hce : compEnvC scope (cellsFrom (sc3.heap.objs.size + 1) scope.names (cloFrom X.env.cells scope.names [])) sc3.heap.objs.size X.env = ce at I4 pg pt pe cL ⊢
    generalize hH3 : upd H2 D (.lst []) = H3 at I3 I3z I4 pg pt pe w0 nfp f3
    have I4' : Inv (X.blk sc3 H3 scope ce fp) [] (wipe σ (own.map (·.2))) H3 sc4 := by rw [es4]; exact I4
    have I4z : ZI ok (X.blk sc3 H3 scope ce fp) [] (wipe σ (own.map (·.2))) H3 s4 := ⟨by rw [e4, cool_bare I4'.bare]; exact I4', fun g hg => I2.hot g (c4 g hg)⟩
    have hp4 : s4.heap = sc4.heap := (cool_parts e4).1
    have st4 : tn 0 s4.heap := by
      rw [hp4]
      exact T.keep _ _ _ st3 fun b _ o e => by rw [es4]; exact pushCells_keeps _ _ _ _ (Heap.get?_push_of_some _ e)
    have stat : ∀ {σ' : L2.St} {H' : Hp} {s' : Shared}, Inv (X.blk sc3 H3 scope ce fp) [] σ' H' s' → (∀ b ∈ fp, H' b = none) → ∀ b ∈ fp, FpOk (X.blk sc3 H3 scope ce fp) [] H' b := fun {σ' H' s'} I' hn b hb =>
      ⟨hn b hb, (I'.ok.exf b hb).1, I'.ok.exfs b hb, .inl hb, fun x c e => (I'.ok.exf b hb).2 x c e, fun p hp => absurd (show p ∈ ([] : List (Addr × Obj)) ++ [] from hp) (by simp)⟩
    have nxb : NoX (X.blk sc3 H3 scope ce fp) := fun _ _ z => z
    have loop : ∀ sx, ZI ok (X.blk sc3 H3 scope ce fp) [] (wipe σ (own.map (·.2))) H3 sx → tn 0 sx.heap → flowL (model X.prog X.w) X.A (.compLoop (.ListComp elt [⟨tg, iter, ifs, 0⟩] scope pos) 0 (.ref it) (.ref D) ce) (fun fl s' => ∃ m H', ZI ok X pins σ H' s' ∧ Q (.ref D) H' ∧ s'.heap.Ns sc3.heap.objs.size m ∧ FpOk X pins H' sc3.heap.objs.size) sx := fun sx Ix stx => by
      refine fL_compLoop (fun n s' => ∃ i H', ZI ok (X.blk sc3 H3 scope ce fp) [] (wipe σ (own.map (·.2))) H' s' ∧ tn i s'.heap ∧ (∀ b ∈ fp, H' b = none) ∧ W i n H') ?_ m0 ⟨0, H3, Ix, stx, nfp, w0⟩
      rintro n s5 ⟨i, H5, I5, st5, n5, w5⟩
      rcases turn i n H5 w5 with ⟨stop, qq⟩ | ⟨go, Nx, hNx, step⟩
      · have td := T.done (X.blk sc3 H3 scope ce fp) rfl rfl rfl hc i [] (coolS s5) _ H5 (fun _ _ => False) I5.inv (stat I5.inv n5) st5 stop
        refine aL_imp (lift1 (X := X.blk sc3 H3 scope ce fp) nxb I5 (coolS_coolS s5).symm (Cl.refl s5) td) fun r s6 ⟨sc6, e6, c6, hr, I6⟩ => ?_
        subst hr
        have I7 : Inv X pins σ H5 sc6 := I3.call' (ch := fp) I6.os I6.base I6.hok I6.bare fun b hb => ⟨(f3 b hb).1.2.2.2.1, (f3 b hb).1.2.1, (f3 b hb).1.2.2.2.2.1, (f3 b hb).1.2.2.2.2.2⟩
        have nC : H5 sc3.heap.objs.size = none := by
          have z : H5 ce.locals = none := I6.free
          rw [cL] at z
          exact z
        obtain ⟨m, hn, _⟩ := I6.loc
        have hn : sc6.heap.Ns ce.locals m := hn
        rw [cL] at hn
        have hp6 : s6.heap = sc6.heap := (cool_parts e6).1
        exact ⟨m, H5, ⟨by rw [e6, cool_bare I7.bare]; exact I7, fun g hg => I5.hot g (c6 g hg)⟩, qq, by rw [hp6]; exact hn, I3.fpOk (Nat.le_refl _) nC⟩
      · have ti := T.item (X.blk sc3 H3 scope ce fp) rfl rfl rfl hc i [] (coolS s5) _ H5 (fun _ _ => False) I5.inv (stat I5.inv n5) st5 go
        refine aL_imp (lift1 (X := X.blk sc3 H3 scope ce fp) nxb I5 (coolS_coolS s5).symm (Cl.refl s5) ti) fun r s6 ⟨sc6, e6, c6, u, hr, h6⟩ => ?_
        subst hr
        refine aL_imp (lift1 (X := X.blk sc3 H3 scope ce fp) nxb I5 e6 c6 h6) fun _ s7 ⟨sc7, e7, c7, x, H7, I7, r7, y7, st7, n7⟩ => ?_
        have hp7 : s7.heap = sc7.heap := (cool_parts e7).1
        have I7z := I5.back e7 c7 I7
        have st7' : tn (i + 1) s7.heap := by rw [hp7]; exact st7
        have I7' : ZI ok (X.blk sc3 H3 scope ce fp) ([] ++ pinsAt fp s7.heap) (wipe σ (own.map (·.2))) H7 s7 := ⟨I7z.inv.pinned (stat I7z.inv n7) (T.obj _ _ st7'), I7z.hot⟩
        refine aL_imp (lift1 (X := X.blk sc3 H3 scope ce fp) nxb I7' (coolS_coolS s7).symm (Cl.refl s7) (pg.run _ (coolS s7) _ H7 x u _ I7'.inv r7 (step x H7 y7))) fun _ s8 ⟨sc8, e8, c8, σ8, H8, I8, hw8, q8⟩ => ?_
        refine aL_imp (pt.run ok _ s8 σ8 H8 _ (I7'.back e8 c8 I8) q8) fun b s9 ⟨H9, I9, q9⟩ => ?_
        have fin : ∀ {s' : Shared} {H' : Hp}, ZI ok (X.blk sc3 H3 scope ce fp) ([] ++ pinsAt fp s7.heap) σ8 H' s' → Nx H' → ∃ m, m < n ∧ ∃ i H', ZI ok (X.blk sc3 H3 scope ce fp) [] (wipe σ (own.map (·.2))) H' s' ∧ tn i s'.heap ∧ (∀ b ∈ fp, H' b = none) ∧ W i m H' := fun {s' H'} I' nx' => by
          obtain ⟨m', hm, w'⟩ := hNx H' nx'
          have pin' : ∀ b ∈ fp, ∀ o, s7.heap.get? b = some o → s'.heap.get? b = some o ∧ H' b = none := fun b hb o e =>
            let z := I'.inv.pin (b, o) (List.mem_append_right _ (List.mem_append_right _ (mem_pinsAt hb e)))
            ⟨z.1, z.2.1⟩
          have hl : (wipe σ (own.map (·.2))).length = σ8.length := by rw [← hw8, wipe_length]
          refine ⟨m', hm, i + 1, H', ⟨(I'.inv.unpinned (pins := [])).weak hl (fun j v e => ?_), I'.hot⟩, T.keep _ _ _ st7' fun b hb o e => (pin' b hb o e).1, fun b hb => ?_, w'⟩
          · rw [← hw8] at e
            exact (wipe_some e).1
          · obtain ⟨o, e, _⟩ := T.obj _ _ st7' b hb
            exact (pin' b hb o e).2
        cases b with
        | false =>
          simp only [Bool.false_eq_true, if_false] at q9 ⊢
          exact fin I9 q9
        | true =>
          simp only [if_true] at q9 ⊢
          refine aL_imp (pe.run ok _ s9 σ8 H9 _ I9 q9) fun z s10 ⟨yv, H10, I10, r10, acc, hD10, hz10, nx'⟩ => ?_
          refine aL_imp (lift1 (X := X.blk sc3 H3 scope ce fp) nxb I10 (coolS_coolS s10).symm (Cl.refl s10) (app_ok (X := X.blk sc3 H3 scope ce fp) (Q := fun _ s' => Inv (X.blk sc3 H3 scope ce fp) ([] ++ pinsAt fp s7.heap) σ8 (upd H10 D (.lst (acc ++ [yv]))) s') I10.inv hD10 hz10 r10 fun s11 I11 => I11)) fun _ s11 ⟨sc11, e11, c11, I11⟩ => ?_
          exact fin (I10.back e11 c11 I11) nx'
    refine fL_compStart (loop s4 I4z st4) (aL_imp (lift1 (X := X.blk sc3 H3 scope ce fp) nxb I4z (coolS_coolS s4).symm (Cl.refl s4) (T.self X.A 0 _ (fun v s' => v = .ref it ∧ s' = coolS s4) _ st4 ⟨rfl, rfl⟩)) fun v s5 ⟨sc5, e5, c5, ev, es5⟩ => ?_)
    subst ev
    have I5 : Inv (X.blk sc3 H3 scope ce fp) [] (wipe σ (own.map (·.2))) H3 sc5 := by rw [es5]; exact I4z.inv
    exact loop s5 (I4z.back e5 c5 I5) (by rw [(cool_parts e5).1, es5]; exact st4)
  · have hp := hRR D sc3.heap.objs.size (coolS s5) m H5 I5.inv q5 n5 f5
    have hv : ∀ x ∈ (scope.names.filter fun x => (x.2 == .local || x.2 == .cell) && x.1 != (".0" : Str)).reverse, x.2 = .local →
        Env.kindOf (compEnvC scope (cellsFrom (sc3.heap.objs.size + 1) scope.names (cloFrom X.env.cells scope.names [])) sc3.heap.objs.size X.env) x.1 = some .local := fun x hx hl =>
      lookup_relabel_local (by have := okb.uniq x (List.mem_filter.mp (List.mem_reverse.mp hx)).1; rw [hl] at this; exact this)
    have hv' : ∀ x ∈ (scope.names.filter fun x => (x.2 == .local || x.2 == .cell) && x.1 != (".0" : Str)).reverse.drop 1 ++ (scope.names.filter fun x => (x.2 == .local || x.2 == .cell) && x.1 != (".0" : Str)).reverse.take 1,
        x.2 = .local → Env.kindOf (compEnvC scope (cellsFrom (sc3.heap.objs.size + 1) scope.names (cloFrom X.env.cells scope.names [])) sc3.heap.objs.size X.env) x.1 = some .local := fun x hx hl => by
      rcases List.mem_append.mp hx with h1 | h1
      · exact hv x (List.mem_of_mem_drop h1) hl
      · exact hv x (List.mem_of_mem_take h1) hl
    cases use with
    | none =>
      obtain ⟨m', hn, hr⟩ := hp
      refine aL_imp (lift1 (Q := fun v s1 => Qc v s1) nx I5 (coolS_coolS s5).symm (Cl.refl s5) (wpAny_bind (wpAny_holding (wpAny_comp_letGo (cenv := compEnvC scope (cellsFrom (sc3.heap.objs.size + 1) scope.names (cloFrom X.env.cells scope.names [])) sc3.heap.objs.size X.env) okb.kind _ (coolS s5) m' hv hn fun h' m'' _ hs' => wpAny_pure (hr h' hs'))))) fun v s6 ⟨sc6, e6, c6, q6⟩ => ⟨sc6, e6, fun g hg => I5.hot g (c6 g hg), q6⟩
    | some u =>
      refine aL_imp (lift1 (Q := fun v s1 => Qc v s1) nx I5 (coolS_coolS s5).symm (Cl.refl s5) (wpAny_bind (wpAny_rule (wpAny_bind (wpAny_holding (wpAny_mono hp (fun _ s'' hr' => ?_) fun _ _ h' => h')))))) fun v s6 ⟨sc6, e6, c6, q6⟩ => ⟨sc6, e6, fun g hg => I5.hot g (c6 g hg), q6⟩
      obtain ⟨m', hn, hr'⟩ := hr'
      exact wpAny_bind (wpAny_comp_letGo (cenv := compEnvC scope (cellsFrom (sc3.heap.objs.size + 1) scope.names (cloFrom X.env.cells scope.names [])) sc3.heap.objs.size X.env) okb.kind _ s'' m' hv' hn fun h' m'' _ hs' => wpAny_pure (hr' h' hs'))
theorem z_lc {elt tg iter : Expr} {ifs : List Expr} {scope : Scope} {own : List (Str × Nat)} {pos : Pos} {wi : TI} {g : TG} {tt : TT} {te : TE} (nx : NoX X) (hc : X.calm = true) (hN : X.N.Nodup) (hi : PIz X tg iter wi) (ok : BlkOk X.N X.env.scope scope own)
    (hg : ∀ (s : Shared) (H : Hp) (C : Addr) (cl : List (Str × Addr)) (fp : List Addr), PG (X.blk s H scope (compEnvC scope cl C X.env) fp) tg g) (ht : ∀ (s : Shared) (H : Hp) (C : Addr) (cl : List (Str × Addr)) (fp : List Addr), PTsz (X.blk s H scope (compEnvC scope cl C X.env) fp) ifs tt)
    (he : ∀ (s : Shared) (H : Hp) (C : Addr) (cl : List (Str × Addr)) (fp : List Addr), PEz (X.blk s H scope (compEnvC scope cl C X.env) fp) elt te) (hs : ∀ x, foldedSetIterable iter X.env x = pure x := by intro _; rfl) :
    PEz X (.ListComp elt [⟨tg, iter, ifs, 0⟩] scope pos) (tLc wi g tt te (own.map (·.2))) := ⟨fun okk pins s σ H Q I h => by
  rw [eval_ListComp]
  refine aL_imp (lcz_core (Qc := EP X pins σ Q) (use := none) nx hc hN I hi ok hg ht he hs h fun D C s' m H' I' q hn f => ⟨m, hn, fun h'' sb => ?_⟩) fun v s' ⟨s1, e1, c1, v1, H1, I1, r1, q1⟩ => ⟨v1, H1, ⟨by rw [e1, cool_bare I1.bare]; exact I1, c1⟩, r1, q1⟩
  obtain ⟨f0, f1, f2, f3, f4, f5⟩ := f
  exact ⟨.ref D, H', I'.turned (t' := s'.toks) (fun b o hb e => (sb.2 b hb).trans e) f0 f1 f3 f4 f5, rfl, q⟩⟩
theorem z_setLc {i : Nat} {y : Str} {py : Pos} {elt tg iter : Expr} {ifs : List Expr} {scope : Scope} {own : List (Str × Nat)} {pos spos : Pos} {wi : TI} {g : TG} {tt : TT} {te : TE} (nx : NoX X) (hc : X.calm = true) (hN : X.N.Nodup) (hy : X.N[i]? = some y) (hyl : X.env.scope.names.lookup y = some .local)
    (hsw : swapsWith (.ListComp elt [⟨tg, iter, ifs, 0⟩] scope pos) (some (.Name y py)) spos.line X.env = pure true) (hi : PIz X tg iter wi) (ok : BlkOk X.N X.env.scope scope own)
    (hg : ∀ (s : Shared) (H : Hp) (C : Addr) (cl : List (Str × Addr)) (fp : List Addr), PG (X.blk s H scope (compEnvC scope cl C X.env) fp) tg g) (ht : ∀ (s : Shared) (H : Hp) (C : Addr) (cl : List (Str × Addr)) (fp : List Addr), PTsz (X.blk s H scope (compEnvC scope cl C X.env) fp) ifs tt)
    (he : ∀ (s : Shared) (H : Hp) (C : Addr) (cl : List (Str × Addr)) (fp : List Addr), PEz (X.blk s H scope (compEnvC scope cl C X.env) fp) elt te) (hs : ∀ x, foldedSetIterable iter X.env x = pure x := by intro _; rfl) :
    PSz X (.Assign [.Name y py] (.ListComp elt [⟨tg, iter, ifs, 0⟩] scope pos) spos) (tAsg (tLc wi g tt te (own.map (·.2))) (gName i)) := ⟨fun okk pins s σ H D I h => by
  rw [exec_Assign_Name_used _ _ _ _ hsw]
  refine aL_bind (aL_stand (aL_bind ?_))
  show anyX X (do let _ ← comprehension (.ListComp elt [⟨tg, iter, ifs, 0⟩] scope pos) scope X.env (firstIterPos [⟨tg, iter, ifs, 0⟩] pos) (newList []) false (eval iter X.env) (some (assign (.Name y py) X.env))) _ s
  have h : tLc wi g tt te (own.map (·.2)) σ H (fun x H1 => gName i x σ H1 D.nx) := h
  refine aL_bind (aL_imp (lcz_core (Qc := fun _ s' => SP X pins D .next s') nx hc hN I hi ok hg ht he hs h fun L C s' m H' I' q hn f => ?_) fun _ s' ⟨s1, e1, c1, q1⟩ => aL_pure (aL_pure ?_))
  · show wpAny _ _ (assign (.Name y py) X.env (.ref L)) _ _ _
    refine wpAny_assign_Name (store_ok2 (v := V.ref L) I' hN hy (.inl hyl) rfl (fun s2 I2 ⟨a, sb, ha⟩ => ?_) (.inr hyl))
    obtain ⟨f0, f1, f2, f3, f4, f5⟩ := f
    have haC : C ≠ a := by
      rcases ha with z | z
      · rw [z]; exact f1
      · exact fun e => f4 y a z e.symm
    refine ⟨m, hn.sameBut sb haC, fun h3 sb3 => ?_⟩
    exact ⟨_, H', I2.turned (t' := s2.toks) (fun b o hb e => (sb3.2 b hb).trans e) f0 f1 f3 f4 f5, q⟩
  · obtain ⟨σ', H', I', q'⟩ := q1
    exact ⟨σ', H', ⟨by rw [e1, cool_bare I'.bare]; exact I', c1⟩, q'⟩⟩
end
end MR
end
section
set_option linter.all false
set_option maxRecDepth 100000
set_option maxHeartbeats 4000000
/-! MH3: loud defs by their bodies over the data. -/
namespace MG
open PySem L2 MR
section
variable {P : Program} {w : World} {K : PySem.W.Frag} {mg : Str → Option Value} {base : Heap} {x qual : Str} {st : Stmt} {fa : Addr} {fd : FuncData} {N ps : List Str} {k : Nat}
theorem lift_run {sp : ASp} (ts : TS) (hp : ps.length ≤ N.length) (len : ∀ ds P, sp ds P → ds.length = ps.length)
    (hx : ∀ ds P, sp ds P → XS Vol.nil ts (ds.map Slot.dat ++ List.replicate (N.length - ps.length) .no) { nx := fun _ => P (.dat .non), rt := P }) {vs : List L2.V} {H : Hp} {Q : VK} {E : XK} (h : Lift sp vs H Q E) :
    ts { nx := fun _ H' => Q .non H', rt := Q } (L2.start N vs) H := by
  obtain ⟨O, ds, P, al, r, s', q⟩ := h
  have l1 : vs.length = ps.length := by rw [r.len]; exact len ds P s'
  have m : MtO Vol.nil O H O (ds.map Slot.dat ++ List.replicate (N.length - ps.length) .no) (L2.start N vs) H :=
    { len := by
        unfold L2.start
        rw [List.length_append, List.length_append, List.length_map, List.length_map, List.length_replicate, List.length_replicate, r.len, l1.symm, r.len]
      slot := fun j sl e => by
        rcases Nat.lt_or_ge j ds.length with h | h
        · rw [List.getElem?_append_left (by rw [List.length_map]; exact h), List.getElem?_map] at e
          cases ed : ds[j]? with
          | none => rw [ed] at e; cases e
          | some d =>
            rw [ed] at e
            have e : Slot.dat d = sl := Option.some.inj e
            subst e
            obtain ⟨v, ev, rv⟩ := r.get ed
            refine ⟨v, ?_, rv⟩
            unfold L2.start
            rw [List.getElem?_append_left (by rw [List.length_map, r.len]; exact h), List.getElem?_map, ev]
            rfl
        · rw [List.getElem?_append_right (by rw [List.length_map]; exact h)] at e
          have : sl = .no := by
            rw [List.getElem?_replicate] at e
            split at e
            · exact (Option.some.inj e).symm
            · cases e
          subst this
          trivial
      sep := fun a b d1 d2 p e1 _ _ _ => by
        have no : ∀ (j : Nat) (d : List D), (ds.map Slot.dat ++ List.replicate (N.length - ps.length) Slot.no)[j]? ≠ some (.own d) := fun j d e => by
          rcases Nat.lt_or_ge j ds.length with h | h
          · rw [List.getElem?_append_left (by rw [List.length_map]; exact h), List.getElem?_map] at e
            cases ed : ds[j]? with
            | none => rw [ed] at e; cases e
            | some d => rw [ed] at e; cases e
          · rw [List.getElem?_append_right (by rw [List.length_map]; exact h), List.getElem?_replicate] at e
            split at e <;> cases e
        exact absurd e1 (no a d1)
      sub := fun _ h => h
      vf := fun _ h => h.elim
      al0 := fun b h => by obtain ⟨o, e, _⟩ := al b h; exact ⟨o, e⟩
      al := al
      go := .refl trivial
      ti0 := trivial }
  refine hx ds P s' O H O _ H _ m ⟨fun δ' O' σ' H' st' m' k' => ?_, fun a v H' g r' k' p => q a v H' (fun b o e => g.1 b o (fun z => z) e) r' p, fun _ _ _ _ _ _ z => z.elim, fun _ _ _ _ _ _ z => z.elim⟩
  exact q (.dat .non) .non H' (fun b o e => m'.go.1 b o (fun z => z) e) (by show Rp O H' _ _; exact rp_non) k'
/-- a loud def by its body over the data -/
theorem liftZ_of {sp : ASp} (F : Fun K x qual st fa fd) (S : FnScope N ps (defScope st)) (hp : ps.length ≤ N.length) (len : ∀ ds P, sp ds P → ds.length = ps.length) (ts : TS)
    (hb : ∀ (cdv : Value) (A : Around) (outer : List Env) (s : Shared) (H : Hp) (E : XK), Room k (A.deeper (PyProof.Rows.envOfC qual (defScope st) s.heap.objs.size fa cdv)) → PSsz (cxOf CX0 P w K mg base N qual (defScope st) fa cdv A outer s H E).nox (defBody st) ts)
    (hx : ∀ ds P, sp ds P → XS Vol.nil ts (ds.map Slot.dat ++ List.replicate (N.length - ps.length) .no) { nx := fun _ => P (.dat .non), rt := P }) : FnZ P w K mg base (k + 1) fa fd ps (Lift sp) := by
  obtain ⟨oc, od, kV, doc, pm, an, cdv, ct, osl, rfl, lk, hcd⟩ := F.ex
  refine fnZ_of lk hcd S (fun vs H Q E h => ?_) fun A outer s H vs Q hr h => ⟨ts, hb cdv A outer s H E0 hr, lift_run ts hp len hx h⟩
  obtain ⟨O, ds, P, al, r, s, q⟩ := h
  rw [r.len]; exact len ds P s
theorem hasZ_of {sp : Sp} {y : Str} (F : Fun K x qual st fa fd) (hm : mg y = some (.ref fa)) (bd : Binds K fd ps []) (ok : FnZ P w K mg base k fa fd ps sp) : HasZ P w K mg base k y ps sp := by
  obtain ⟨oc, od, kV, doc, pm, an, cdv, ct, osl, rfl, lk, hcd⟩ := F.ex
  exact ⟨fa, _, oc, od, osl, hm, lk, bd, ok⟩
theorem has_of {sp : Sp} {y : Str} (F : Fun K x qual st fa fd) (hm : mg y = some (.ref fa)) (bd : Binds K fd ps []) (ok : FnOk P w K mg base CX0 k fa fd ps sp) : Has P w K mg base k y ps sp ∧ HasZ P w K mg base k y ps sp :=
  ⟨⟨fa, fd, hm, F.kp, bd, ok⟩, hasZ_of F hm bd (FnZ.of ok)⟩
end
/-! ### list(parts(document)) -/
section
variable {V : Vol} {δ : List Slot}
theorem out_rp {O : AS} {H : Hp} : ∀ {ps : List Pt} {vs : List L2.V}, vs.length = (ps.map Pt.ho).length → Out H (ps.map Pt.ho) vs → RpL O H (ps.map Pt.d) vs
  | [], vs, hl, _ => by
    have : vs = [] := List.eq_nil_of_length_eq_zero hl
    subst this; exact RpL.nil
  | p :: ps, [], hl, _ => by simp at hl
  | p :: ps, v :: vs, hl, h => by
    refine RpL.cons ?_ (out_rp (by simpa using hl) fun i u e => h (i + 1) u (by simpa using e))
    obtain ⟨q, d, ev, ed, hq⟩ := h 0 v rfl
    have ed : p.ho = d := by simpa using ed
    subst ed ev
    cases p with
    | m n => exact rp_tup hq (RpL.cons (by unfold Rp; rfl) (RpL.cons rp_int RpL.nil))
    | s n => exact rp_tup hq (RpL.cons (by unfold Rp; rfl) (RpL.cons rp_int RpL.nil))
theorem xe_parts {d : Nat} {ta : TA} {P : AV → Prop} (h : XA V ta δ fun as => ∃ a bs, as = [a] ∧ a.ok ∧ a.d = Bx.doc bs ∧ Bx.deps bs ≤ d ∧ (Bx.ptss bs).length ≤ sizeLine ∧ P (.new ((Bx.ptss bs).map Pt.d))) :
    XE V (tListZ (tCallG (spParts d) ta)) δ P := fun O0 H0 O σ H m Q q =>
  h O0 H0 O σ H m _ fun as vs H1 g1 r1 ⟨a, bs, ea, ka, da, hd, hl, p⟩ => by
    subst ea
    obtain ⟨v, t, ev, h1, h2⟩ := r1
    have h2 : t = [] := h2
    subst h2 ev
    have m1 := m.mono g1
    have rv := m.repD h1 ka
    rw [da] at rv
    refine ⟨_, ⟨bs, v, rfl, hd, Rp.to (fun b xs e => e) (fun b xs _ e => ⟨fun z => z, e⟩) _ _ rv, rfl⟩, by rw [List.length_map]; exact hl, fun H2 us S hx hlen ho hS => ?_⟩
    have g2 : Go V H1 H2 := .same g1.2 hx
    have g3 : Go V H2 (upd H2 S (.lst us)) := .new g2.2 hS
    refine q (.new ((Bx.ptss bs).map Pt.d)) (.ref S) _ ((g1.trans g2).trans g3) ⟨S, us, rfl, (g1.trans g2).none m.ti hS, upd_same, ?_⟩ p
    exact (m1.mono g2).rplNew g3 hS (out_rp hlen ho)
end
end MG
end
section
set_option linter.all false
set_option maxRecDepth 100000
set_option maxHeartbeats 4000000
/-! MH4: the head of a law that runs on the machine itself. -/
namespace Zh
open PySem PySem.W PySem.Spec PySem.Calls PyProof.Rows L2 MR
theorem aL_nsGet {M : Model} {A : Around} {s : Shared} {a : Addr} {m : Str → Option Value} {x : Str} {Q : Option Value → Shared → Prop}
    (hg : s.gens = #[]) (hn : s.heap.Ns a m) (h : Q (m x) s) : anyL M A (nsGet a x) Q s := by
  have k : wpAny M A (nsGet a x) (fun v s' => v = m x ∧ s' = s) (fun _ _ => False) s := wpAny_nsGet hn ⟨rfl, rfl⟩
  refine aL_imp (aL_calm (s0 := s) k (fun _ _ z => z) rfl (MR.Cl.refl s)) fun v s' ⟨s1, e, _, ev, es⟩ => ?_
  subst es ev
  have hg1 : s'.gens = #[] := by
    have e5 := (cool_parts e).2.2.2.2
    have z := cool_size e5
    rw [hg] at z
    exact Array.eq_empty_of_size_eq_zero z
  have e2 : s' = s1 := by
    obtain ⟨e1, e2, e3, e4, _⟩ := cool_parts e
    cases s'; cases s1
    simp only at e1 e2 e3 e4 hg1 hg
    subst e1 e2 e3 e4 hg1 hg
    rfl
  rw [e2]; exact h
/-- a tree that runs to its end on the machine: the claim's caller -/
theorem endsZ {prog : Program} {w : World} {t : Sem PySem.Fin} {s : Shared} {R : Flow → Shared → Prop} (hz : s.asleep)
    (h : anyL (model prog w) callerA t (fun fin s' => ∃ f, fin = .done f ∧ R f s' ∧ AllBare s'.gens) s) :
    ∃ n f s' s'', schedN (denote table) prog w n (.single s ⟨t, .builtin "claim.caller" {}, default, []⟩) = .halted (outcomeOf (.ok f)) s' ∧
      s'.forget = s''.forget ∧ s'.heap.life = s.heap.life ∧ R f s'' := by
  have k := h ⟨.builtin "claim.caller" {}, none, none, [], none⟩ default caller_in
  obtain ⟨n, s', t', p', g, q⟩ := wpL_go (model prog w) ⟨.builtin "claim.caller" {}, none, none, [], none⟩ t (st := []) (by constructor <;> rfl) default s k
  rcases q with ⟨x, rfl, f, rfl, r, b⟩ | ⟨x, _, q⟩
  · obtain ⟨m, s'', e1, e2, e3⟩ := CK.ends (r := .ok f) _ _ _ g hz (leftWithCleanup_false_of_bare b)
    exact ⟨m, f, s'', s', e1, e2, e3, r⟩
  · exact q.elim
theorem callFromZ {c : ClaimW} {tree : List Value → Sem PySem.Fin} {w : World} {s : Shared} {free : Addr → Prop}
    {gens : Prop} {kept : Heap → Prop} (hz : s.asleep) (hgens : s.gens = #[])
    (hspec : ∀ args, c.pre args = true → WData.layableAll args = true → ∀ ord : List DictEntry → List DictEntry, (∀ l, (ord l).Perm l) →
      ∃ vs s₁, layAllW c.records (classAt s.heap) w.params ord args s = some (vs, s₁) ∧
        anyL (model c.prog w) callerA (tree vs) (fun fin s' => ∃ f, fin = .done f ∧ (c.Ends s args vs s₁ (.ok f) s' ∧ s'.os = s.os ∧ kept s'.heap) ∧ AllBare s'.gens) s₁) :
    c.CallFrom (fun vs => ⟨tree vs, .builtin "claim.caller" {}, default, []⟩) w free gens kept s := by
  intro args hpre hlay ord hord
  obtain ⟨vs, s₁, hlaid, hcode⟩ := hspec args hpre hlay ord hord
  have hal := layAllW_rest _ _ _ hlaid
  obtain ⟨k, f, s', s'', hsched, hfo, hlife, hcase, hos, hkp⟩ := endsZ (Shared.asleep_of_life hal.2.2.2 hz) hcode
  obtain ⟨eh, _, _, eo, _⟩ := Shared.forget_eq hfo
  have hcase := hcase.congr eh
  have hkp : kept s'.heap := by rw [eh]; exact hkp
  rw [← eo] at hos
  have hlife : s'.heap.life = s.heap.life := hlife.trans hal.2.2.2
  refine ⟨vs, s₁, hlaid, k, _, s', hsched, ?_, (fun _ i x hx => by rw [hgens] at hx; simp at hx), hkp, by rw [hlife], Shared.rest_eq hos⟩
  rcases hcase with ⟨v, d0, d1, d2, d3, d4, d5⟩ | ⟨e, ob, cls, d0, _⟩
  · cases d0
    exact .inl ⟨v, rfl, d1, d2, d3, fun b o y _ => d4 b o y, d5⟩
  · cases d0
abbrev WalkZ (q : Program) (loose : List Str) (XP : (Str → Option Value) → Heap → Prop) (YP : World → Heap → Prop) (r : RowW) (d : DefRec) (kwd : List (Str × Expr)) : Prop :=
  ∀ (w : World) (s₀ s₁ : Shared) (mg mb : Str → Option Value), Ground q loose r.records XP w s₀ mg mb s₁.heap → YP w s₁.heap →
    ∀ (a : Addr) (o : Obj) (pm cd doc dV kV : Value), s₁.heap.get? a = some o →
      o.data = .func { docDef d.name d.params d.body d.scope pm cd doc with defaults := dV, kwdefaults := kV } →
      s₁.heap.CodeRec cd d.name → Dflts mg s₁.heap d.params kwd dV kV → mg d.name = some (.ref a) → s₁.gens = #[] →
    ∀ (args : List WData) (vals : List Value) (as : List Addr), r.claim.pre args = true → WData.layableAll args = true →
      WellAll w.params s₁.heap vals args →
      anyL (model r.prog w) callerA (PySem.call (.ref a) vals)
        (fun v s' => GoodWG r.claim (classAt s₀.heap) (ExcName.means s₀.heap) args s₁ (.ok (.ret v)) s') s₁
theorem PySem.W.holds_open {r : OpenRow} {q : Program} {loose : List Str} {Xt : Shared → Bool} {XP : (Str → Option Value) → Heap → Prop}
    {α : Type} {Yf : Shared → α} {Ya : World → α} {YP : World → Heap → Prop} {d : DefRec} {kwd : List (Str × Expr)} {N : Nat}
    (left : LeftO r.prog q loose Xt Yf Ya N) (hY : ∀ w s, Yf s = Ya w → YP w s.heap)
    (hYk : ∀ w h h', YP w h → (∀ b o, h.get? b = some o → h'.get? b = some o) → YP w h')
    (hX : ∀ s, Xt s = true → XP (s.heap.nsMap mainGlobals) s.heap)
    (hXk : ∀ mg h h', XP mg h → (∀ b o, h.get? b = some o → h'.get? b = some o) → XP mg h')
    (hdef : defOf q r.name = some (d, kwd)) (hp : r.prog.theDef r.name = some (d.params, d.body, d.scope))
    (hk : kwWritten? d.params.kwonlyargs d.params.kw_defaults = some kwd) (hRf : ∀ s, Xt s = true → RecFacts r.records s.heap)
    (hwr : (!r.writes || r.records.isEmpty) = true) (k1 : r.wellSaid = true)
    (ok : (chainsOk q && opensWell r.prog && (frees r.toRowW && r.within.isEmpty)) = true)
    (hb : r.prog.bare) (hw : r.toRowW.promised) (call : WalkZ q loose XP YP r.toRowW d kwd) : r.Holds := by
  refine ⟨k1, hw, ?_⟩
  obtain ⟨ok, k5⟩ := Bool.and_eq_true_iff.mp ok
  obtain ⟨hch, o1⟩ := Bool.and_eq_true_iff.mp ok
  obtain ⟨k5, k6⟩ := Bool.and_eq_true_iff.mp k5
  obtain ⟨hsame, hu, ha, hap, hm⟩ := frees_parts k5
  refine ⟨⟨hb, o1, by show r.makers.map _ = []; rw [hm]; rfl⟩, hw.witness, fun w => ⟨(left.behind hX hch w).1, fun s' hs' => ?_⟩⟩
  obtain ⟨s₀, hf, hg0, s, hT, hz, hgens, hg, G00, y⟩ := (left.behind (XP := fun mg h => XP mg h ∧ RecFacts r.records h) (fun s hs => ⟨hX s hs, hRf s hs⟩) hch w).2 s' hs'
  have G0 : Ground q loose [] XP w s (s.heap.nsMap mainGlobals) (s.heap.nsMap builtinsNs) s.heap :=
    ⟨G00.T, G00.B, G00.D, G00.TE, G00.TD, G00.W, G00.X.1, G00.cls, G00.has, G00.apart, G00.once, G00.K⟩
  have RF := G00.X.2
  have hT' := hT
  refine ⟨s₀, hf, hg0, s, hT, fun n hn => ?_, RF.1, RF.2.1, ?_⟩
  · obtain rfl : n = r.name := by split at hn <;> simp_all
    exact pinned_of_view hg G0 hdef hp hk
  have hgens : s.gens = #[] := Array.eq_empty_of_size_eq_zero (beq_iff_eq.mp hgens)
  have G : Ground q loose r.records XP w s _ _ s.heap := RF.ground G0
  refine callFromZ (c := r.claim) hz hgens fun args hpre hlay ord hord => ?_
  obtain ⟨⟨vs, s₁⟩, hlaid⟩ := Option.isSome_iff_exists.mp (layAllW_isSome (P := w.params) (ord := ord) G.has args r.args s (pre_splitW hpre).1)
  have keeps := layAllW_keeps _ _ _ hlaid
  have hal := layAllW_rest _ _ _ hlaid
  obtain ⟨as, hrd, hin, hold⟩ := reads_layAllW hord _ _ _ hlaid hlay s₁.heap (fun _ _ e => e)
  have L : Laid r.records w s s₁ args vs as := ⟨⟨ord, hord, hlaid⟩, hrd, hin, hold, keeps, hal.1.trans hgens, hal.2.2.1⟩
  have G₁ := G.keeps hXk keeps
  have hi := ident_freeW hu ha hap
  have hwi : r.claim.within = [] := List.isEmpty_iff.mp k6
  obtain ⟨a, o, pm, cd, doc, dV, kV, h1, h2, h3, h4, h5⟩ := G₁.fn hdef
  have h := call w s s₁ _ _ G₁ (hYk _ _ _ (hY w s y) keeps) a o pm cd doc dV kV h2 h3 h4 h5 (defOf_name hdef ▸ h1) L.gens args vs as hpre hlay L.well
  refine ⟨vs, s₁, hlaid, ?_⟩
  refine aL_bind (aL_nsGet L.gens G₁.T.g ?_)
  rw [h1]
  refine aL_bind (aL_imp h fun v s' g => aL_pure ⟨_, rfl, ?_⟩)
  have z := g.laid (c := r.claim) hsame hwi hi L
  exact ⟨⟨z.1, z.2.1, fun q => ⟨namesKept_of hT' hg _ keeps g.2.1.old, noTable hwr q⟩⟩, z.2.2⟩
/-- the law's call, from the promise of its def on the machine -/
theorem lawZ {P : Program} {w : World} {K : PySem.W.Frag} {mg mb : Str → Option Value} {k : Nat} {fa a : Addr} {fd : FuncData} {x : Str} {sp : Sp} {s₁ : Shared} {vs : List Value} {ns : List Int}
    (KX : K.In s₁.heap) (hns : s₁.heap.Ns mainGlobals mg) (hb : s₁.heap.Ns builtinsNs mb) (hbb : ∀ x : Str, x ≠ "__name__" → mb x = bootBuiltins x) (hlim : s₁.heap.NoLimit) (hg : s₁.gens = #[])
    (ha : s₁.heap.get? a = some { cls := .type "list", data := .seq vs.toArray }) (hi : IntsAre vs ns) (hl : ns.length ≤ sizeLine) (hr : Room k callerA)
    (F : ∀ base : Heap, K.In base → base.Ns mainGlobals mg → FnZ P w K mg base k fa fd [x] sp) (hbind : ∀ (s : Shared) (u : Value), BindsTo s fd ⟨[u], []⟩ [(x, u)])
    (hsp : ∀ H : Hp, Only H → SqL K H a (ns.map V.int) → sp [.ref a] H (fun v _ => v = .bl true) L2.E0) :
    flowL (model P w) callerA (.call (.ref fa) ⟨[.ref a], []⟩) (fun f s' => f = .ret (.bool true) ∧ OldK s₁.heap s'.heap ∧ s'.os = s₁.os ∧ AllBare s'.gens) s₁ := by
  have rv := vals_ints hi
  have lenV := hi.length
  have ec : coolS s₁ = s₁ := cool_bare (.of_eq hg)
  have core : ∀ H : Hp, Only H → SqL K H a (ns.map V.int) → HOk P w H s₁.heap → (∀ b, H b ≠ none → b = a) → (H a ≠ none → K.lookup a = none) →
      flowL (model P w) callerA (.call (.ref fa) ⟨[.ref a], []⟩) (fun f s' => f = .ret (.bool true) ∧ OldK s₁.heap s'.heap ∧ s'.os = s₁.os ∧ AllBare s'.gens) s₁ := by
    intro H hO hS hok hA hK
    have base_of : ∀ {b : Addr} {o : Obj}, s₁.heap.get? b = some o → H b = none → (hidT s₁.heap H).get? b = some o := fun e n => hidT_get e n
    have noA : ∀ {b : Addr} {o : Obj} {es : Array DictEntry} {ep : Nat}, s₁.heap.get? b = some o → o.data = .dict es ep → H b = none := fun {b o es ep} e d => by
      cases q : H b with
      | none => rfl
      | some u =>
        have e' : b = a := hA b (by rw [q]; simp)
        subst e'
        rw [ha] at e; cases e
        cases (show Data.seq vs.toArray _ = Data.dict es ep from d)
    have nsK : ∀ {b : Addr} {m : Str → Option Value}, s₁.heap.Ns b m → (hidT s₁.heap H).Ns b m := fun {b m} ⟨o, es, ep, e, d, r⟩ => ⟨o, es, ep, base_of e (noA e d), d, r⟩
    have hKb : K.In (hidT s₁.heap H) := fun b o e => base_of (KX b o e) (by
      cases q : H b with
      | none => rfl
      | some u =>
        have e' : b = a := hA b (by rw [q]; simp)
        subst e'
        rw [hK (by rw [q]; simp)] at e; cases e)
    have hM : Mod K mg (hidT s₁.heap H) := ⟨hKb, nsK hns, ⟨mb, nsK hb, hbb⟩, let ⟨mc, h1, h2⟩ := hlim; ⟨mc, nsK h1, h2⟩⟩
    have e0 : Env0 P w K mg (hidT s₁.heap H) callerA [] (coolS s₁) H := by
      rw [ec]
      exact ⟨rfl, hM, fun b o e => of_hidT e, Nat.le_of_eq (hidT_size _ _), trivial, fun b hb => absurd (show b ∈ ([] : List Addr) from hb) (by simp), hok, .of_eq hg⟩
    refine flowL_imp ((F _ hKb (nsK hns)).run (fun _ => False) callerA [] s₁ H ⟨[.ref a], []⟩ [.ref a] [.ref a] _ hr e0 (fun g ⟨y, hy, _⟩ => by rw [hg] at hy; simp at hy) (by rw [ec]; exact hbind s₁ (.ref a)) (.cons rfl .nil) (hsp H hO hS)) fun f s' h => ?_
    obtain ⟨u, rfl, ⟨v, H', os, bare, un, hok', r', q⟩, hot⟩ := h
    have q' : v = .bl true := q
    subst q'
    obtain rfl : u = Value.bool true := r'
    have un : Un (frs []) [] H H' s₁.heap s'.heap := by rw [ec] at un; exact un
    refine ⟨rfl, OldK.of_keep fun b o e => ?_, os, fun y hy => ?_⟩
    · cases q : H b with
      | none => exact un.keep b o e q (by intro z; exact absurd (show b ∈ ([] : List Addr) from z) (by simp)) (by simp)
      | some u =>
        rcases hO b with z | ⟨ob, xs, z⟩
        · rw [q] at z; cases z
        · have z2 := un.frzs b ob _ z
          obtain ⟨e1, _⟩ := hok b _ z
          obtain ⟨e2, _⟩ := hok' b _ z2
          rw [e] at e1; cases e1
          exact e2
    · obtain ⟨i, hi, ei⟩ := Array.getElem_of_mem hy
      have hh : MR.hot y = false := by
        cases hq : MR.hot y with
        | false => rfl
        | true => exact (hot i ⟨y, by rw [Array.getElem?_eq_getElem hi, ei], hq⟩).elim
      have hb := bare (cool y) (by
        show cool y ∈ s'.gens.map cool
        exact Array.mem_map_of_mem hy)
      cases y with
      | suspended k l c p fs cl => cases cl <;> first | exact hb | cases hh
      | _ => exact hb
  cases hk : K.lookup a with
  | some o =>
    have e := KX a o hk
    rw [ha] at e
    cases e
    refine core (fun _ => none) (fun _ => .inl rfl) (.inr ⟨_, vs.toArray, _, hk, rfl, rfl, rfl, by rw [List.size_toArray, lenV]; exact hl, by simpa using rv⟩) (fun b u z => by cases (show (none : Option HO) = some u from z)) (fun b z => absurd rfl z) fun z => absurd rfl z
  | none =>
    refine core (fun b => if b = a then some (.frz { cls := .type "list", data := .seq vs.toArray } (.lst (ns.map V.int))) else none) (fun b => ?_) (.inl (.inr ⟨{ cls := .type "list", data := .seq vs.toArray }, if_pos rfl⟩)) (fun b u z => ?_) (fun b z => ?_) fun _ => hk
    · by_cases hb : b = a
      · exact .inr ⟨_, _, if_pos hb⟩
      · exact .inl (if_neg hb)
    · by_cases hb : b = a
      · have z' := (if_pos hb).symm.trans z
        cases z'
        subst hb
        exact ⟨ha, by rw [List.length_map]; exact hl, vs, _, rv, ha⟩
      · cases ((if_neg hb).symm.trans z)
    · by_cases hb : b = a
      · exact hb
      · exact absurd (if_neg hb) z
/-- what k_head leaves -/
theorem walkZ {l : PySem.W.OpenLaw} {n k : Nat} {q : Program} {loose : List Str} {XP : (Str → Option Value) → Heap → Prop} {YP : World → Heap → Prop} {d : DefRec} {K : Params → PySem.W.Frag} {sp : World → Sp} {x : Str}
    (hn : l.most = some n) (hn2 : n ≤ sizeLine) (hdf : d.params.defaults = []) (hr : Room k callerA)
    (hY : ∀ (w : World) (h : Heap), YP w h → (K w.params).In h)
    (F : ∀ (w : World) (mg : Str → Option Value) (fa : Addr) (h : Heap), (K w.params).In h → h.Ns mainGlobals mg → mg d.name = some (.ref fa) →
      ∃ fd : FuncData, (∀ (s : Shared) (u : Value), BindsTo s fd ⟨[u], []⟩ [(x, u)]) ∧
        ∀ base : Heap, (K w.params).In base → base.Ns mainGlobals mg → FnZ l.prog w (K w.params) mg base k fa fd [x] (sp w))
    (hsp : ∀ (w : World) (H : Hp) (a : Addr) (ns : List Int), ns.length ≤ n → Only H → SqL (K w.params) H a (ns.map V.int) → sp w [.ref a] H (fun v _ => v = .bl true) L2.E0) :
    WalkZ q loose XP YP l.row.toRowW d [] := by
  intro w s₀ s₁ mg mb G Y fa o pm cd doc dV kV ho hd hcd hD hmg hg args vals as hpre hlay hwl
  obtain rfl : dV = .none := Dflts.none hD hdf
  obtain rfl : kV = .none := Dflts.noKw hD
  obtain ⟨a, vs, ns, rfl, rfl, hobj, hints, hlen⟩ := Att.script_of hn hpre hwl
  have KX := hY w _ Y
  obtain ⟨fd, hb, hF⟩ := F w mg fa _ KX G.T.g hmg
  refine aL_call (flowL_imp (lawZ KX G.T.g G.T.b G.T.builtins G.T.nolimit hg hobj hints (Nat.le_trans hlen hn2) hr hF hb (fun H hO hS => hsp w H a ns hlen hO hS)) fun f s' hq => ?_)
  obtain ⟨rfl, h2, h3, h4⟩ := hq
  exact ⟨_, rfl, .inl ⟨.bool true, .bool true, [], rfl, fun _ => rfl, .bool true, Att.post_true l _, fun _ => ⟨List.Pairwise.nil, fun _ hm => (nomatch hm)⟩⟩, h2, h3, h4⟩
end Zh
end
section
set_option linter.all false
set_option maxRecDepth 100000
set_option maxHeartbeats 4000000
/-! MT1: the tape of a law, the count that boxes are drawn from. -/
namespace MG
open PySem L2
theorem rpl_ints {O : AS} {H : Hp} : ∀ xs : List Int, RpL O H (dInts xs) (xs.map L2.V.int)
  | [] => RpL.nil
  | x :: xs => RpL.cons rp_int (rpl_ints xs)
/-- the tape: its numbers, its place, its cell -/
structure TapeV (V : Vol) (l : Addr) (xs : List Int) : Prop where
  tT : V.T V.t
  lF : V.F l
  lT : ¬ V.T l
  get : ∀ H, V.TI H → (∃ i c, H V.t = some (.lst [.ref l, .int i, .int c])) ∧ H l = some (.lst (xs.map .int))
  put : ∀ H i c, V.TI H → V.TI (upd H V.t (.lst [.ref l, .int i, .int c]))
/-- one more volatile list, of one number -/
def Vol.add (V : Vol) (p : Addr) : Vol := ⟨V.t, fun b => V.T b ∨ b = p, fun b => V.F b ∨ b = p, fun H => V.TI H ∧ ∃ n, H p = some (.lst [.int n]),
  fun b h => h.elim (fun z => .inl (V.sub b z)) .inr, fun H H' h ⟨a, n, e⟩ => ⟨V.stab H H' (fun b o hb => h b o (.inl hb)) a, n, h p _ (.inr rfl) e⟩,
  fun H b ⟨a, n, e⟩ h => h.elim (fun z => V.nt H b a z) fun z => ⟨.lst [.int n], z ▸ e, fun xs z => by cases z⟩⟩
theorem Vol.add_T {V : Vol} {p b : Addr} : (V.add p).T b ↔ (V.T b ∨ b = p) := Iff.rfl
theorem Vol.add_F {V : Vol} {p b : Addr} : (V.add p).F b ↔ (V.F b ∨ b = p) := Iff.rfl
theorem Vol.add_I {V : Vol} {p : Addr} {H : Hp} : (V.add p).TI H ↔ (V.TI H ∧ ∃ n, H p = some (.lst [.int n])) := Iff.rfl
theorem TapeV.add {V : Vol} {l p : Addr} {xs : List Int} (T : TapeV V l xs) (h1 : p ≠ V.t) (h2 : p ≠ l) : TapeV (V.add p) l xs where
  tT := Vol.add_T.mpr (.inl T.tT)
  lF := Vol.add_F.mpr (.inl T.lF)
  lT := fun h => (Vol.add_T.mp h).elim T.lT fun z => h2 z.symm
  get := fun H h => T.get H (Vol.add_I.mp h).1
  put := fun H i c h => by
    obtain ⟨a, n, e⟩ := Vol.add_I.mp h
    refine Vol.add_I.mpr ⟨T.put H i c a, n, ?_⟩
    show upd H V.t _ p = _
    rw [upd_ne h1]; exact e
section
variable {V : Vol} {δ : List Slot} {K : PySem.W.Frag} {l : Addr} {xs : List Int}
theorem xe_tape0 {j : Nat} {P : AV → Prop} (T : TapeV V l xs) (e : δ[j]? = some .tape) (h : P (.brw (dInts xs))) : XE V (tOp (rIx K) (tVar j) (tC (.int 0))) δ P := fun O0 H0 O σ H m Q q => by
  have hs : σ[j]? = some (some (.ref V.t)) := m.slot j _ e
  obtain ⟨⟨i, c, ht⟩, hl⟩ := T.get H m.ti
  exact ⟨_, hs, .inl ⟨V.t, _, 0, .ref l, rfl, rfl, SqL.of ht, rfl, q (.brw (dInts xs)) (.ref l) H (.refl m.ti) ⟨l, _, rfl, m.sub _ (m.vf _ T.lF), T.lT, hl, rpl_ints xs⟩ h⟩⟩
theorem xe_tapeI {j : Nat} {k : Int} {P : AV → Prop} (T : TapeV V l xs) (e : δ[j]? = some .tape) (hk : k = 1 ∨ k = 2) (h : ∀ i, P (.dat (.int i))) : XE V (tOp (rIx K) (tVar j) (tC (.int k))) δ P := fun O0 H0 O σ H m Q q => by
  have hs : σ[j]? = some (some (.ref V.t)) := m.slot j _ e
  obtain ⟨⟨i, c, ht⟩, hl⟩ := T.get H m.ti
  rcases hk with rfl | rfl
  · exact ⟨_, hs, .inl ⟨V.t, _, 1, .int i, rfl, rfl, SqL.of ht, rfl, q (.dat (.int i)) (.int i) H (.refl m.ti) (show Rp O H (.int i) _ from rp_int) (h i)⟩⟩
  · exact ⟨_, hs, .inl ⟨V.t, _, 2, .int c, rfl, rfl, SqL.of ht, rfl, q (.dat (.int c)) (.int c) H (.refl m.ti) (show Rp O H (.int c) _ from rp_int) (h c)⟩⟩
theorem xs_tape {j : Nat} {k : Int} {te : TE} {E : AEnds} (T : TapeV V l xs) (e : δ[j]? = some .tape) (hk : k = 1 ∨ k = 2) (h : XE V te δ fun a => ∃ i, a.d = .int i ∧ E.nx δ) : XS V (tAsg te (gSub (tVar j) (tC (.int k)) rSetL)) δ E := fun O0 H0 O σ H D m i =>
  h O0 H0 O σ H m _ fun a v H1 g1 r1 ⟨n, ea, p⟩ => by
    have ev : v = .int n := repV r1 ea
    subst ev
    have m1 := m.mono g1
    have hs : σ[j]? = some (some (.ref V.t)) := m.slot j _ e
    obtain ⟨⟨i0, c0, ht⟩, hl⟩ := T.get H1 m1.ti
    have fin : ∀ i' c', D.nx σ (upd H1 V.t (.lst [.ref l, .int i', .int c'])) := fun i' c' => by
      have g2 : Go V H1 (upd H1 V.t (.lst [.ref l, .int i', .int c'])) := ⟨fun b o nb eb => by rw [upd_ne (fun z => nb (by rw [z]; exact T.tT))]; exact eb, T.put H1 i' c' m1.ti⟩
      exact i.1 δ O σ _ (m.str (g1.trans g2)) (m1.mono g2) p
    rcases hk with rfl | rfl
    · exact ⟨_, hs, V.t, _, 1, 1, rfl, rfl, ht, rfl, fin n c0⟩
    · exact ⟨_, hs, V.t, _, 2, 2, rfl, rfl, ht, rfl, fin i0 n⟩
theorem xe_left {j : Nat} {p : Addr} {P : AV → Prop} (e : δ[j]? = some (.dat (.raw (.ref p)))) (h : ∀ n, P (.dat (.int n))) : XE (V.add p) (tOp (rIx K) (tVar j) (tC (.int 0))) δ P := fun O0 H0 O σ H m Q q => by
  obtain ⟨v, hs, r⟩ := m.slot j _ e
  unfold Rp at r
  subst r
  obtain ⟨_, n, hp⟩ := Vol.add_I.mp m.ti
  exact ⟨_, hs, .inl ⟨p, _, 0, .int n, rfl, rfl, SqL.of hp, rfl, q (.dat (.int n)) (.int n) H (.refl m.ti) (show Rp O H (.int n) _ from rp_int) (h n)⟩⟩
theorem xs_left {j : Nat} {p : Addr} {te : TE} {E : AEnds} (hp : p ≠ V.t) (hF : ¬ V.F p) (e : δ[j]? = some (.dat (.raw (.ref p)))) (h : XE (V.add p) te δ fun a => ∃ i, a.d = .int i ∧ E.nx δ) : XS (V.add p) (tAsg te (gSub (tVar j) (tC (.int 0)) rSetL)) δ E := fun O0 H0 O σ H D m i =>
  h O0 H0 O σ H m _ fun a v H1 g1 r1 ⟨n, ea, pp⟩ => by
    have ev : v = .int n := repV r1 ea
    subst ev
    have m1 := m.mono g1
    obtain ⟨v, hs, r⟩ := m.slot j _ e
    unfold Rp at r
    subst r
    obtain ⟨ti, n0, h0⟩ := Vol.add_I.mp m1.ti
    have g2 : Go (V.add p) H1 (upd H1 p (.lst [.int n])) := ⟨fun b o nb eb => by rw [upd_ne (fun z => nb (Vol.add_T.mpr (.inr z)))]; exact eb, Vol.add_I.mpr ⟨V.stab H1 _ (fun b o fb eb => by rw [upd_ne (show b ≠ p from fun z => hF (by rw [← z]; exact fb))]; exact eb) ti, n, upd_same⟩⟩
    exact ⟨_, hs, p, _, 0, 0, rfl, rfl, h0, rfl, i.1 δ O σ _ (m.str (g1.trans g2)) (m1.mono g2) pp⟩
theorem xe_callT {j : Nat} {tp : Vol → Prop} {sp : ASp} {ta : TA} {P : AV → Prop} (e : δ[j]? = some .tape) (hV : tp V) (h : XA V ta δ fun as => AllOk as ∧ sp (as.map AV.d) fun a => a.ok ∧ P a) : XE V (tCall (LiftT tp sp) [] E0 (tCons (tVar j) ta)) δ P := fun O0 H0 O σ H m Q q => by
  have hs : σ[j]? = some (some (.ref V.t)) := m.slot j _ e
  refine ⟨_, hs, h O0 H0 O σ H m _ fun as vs H1 g1 r1 ⟨ok, s⟩ => ?_⟩
  have m1 := m.mono g1
  refine ⟨V, O, vs, as.map AV.d, _, hV, by rw [List.append_nil], m1.ti, fun b hb => m.sub b (m.vf b hb), m1.al, m.repDs r1 ok, s, fun a v H' sm r ⟨k, p⟩ => ?_⟩
  exact q a v H' (g1.trans sm) (m.repB g1 r) p
section
variable {N ps : List Str}
/-- the start of a def whose first argument is the tape -/
theorem liftT_run {tp : Vol → Prop} {sp : ASp} (ts : TS) (hp : ps.length ≤ N.length) (len : ∀ ds P, sp ds P → ds.length + 1 = ps.length)
    (hx : ∀ V, tp V → ∀ ds P, sp ds P → XS V ts (Slot.tape :: (ds.map Slot.dat ++ List.replicate (N.length - ps.length) .no)) { nx := fun _ => P (.dat .non), rt := P }) {vs : List L2.V} {H : Hp} {Q : VK} {E : XK} (h : LiftT tp sp vs H Q E) :
    ts { nx := fun _ H' => Q .non H', rt := Q } (L2.start N vs) H := by
  obtain ⟨V, O, us, ds, P, hV, rfl, ti, fo, al, r, s', q⟩ := h
  have l1 : us.length + 1 = ps.length := by rw [r.len]; exact len ds P s'
  have dat : ∀ (j : Nat) (sl : Slot), (ds.map Slot.dat ++ List.replicate (N.length - ps.length) Slot.no)[j]? = some sl → (∃ d v, sl = .dat d ∧ us[j]? = some v ∧ Rp O H d v) ∨ sl = .no := fun j sl e => by
    rcases Nat.lt_or_ge j ds.length with h | h
    · rw [List.getElem?_append_left (by rw [List.length_map]; exact h), List.getElem?_map] at e
      cases ed : ds[j]? with
      | none => rw [ed] at e; cases e
      | some d =>
        rw [ed] at e
        have e : Slot.dat d = sl := Option.some.inj e
        obtain ⟨v, ev, rv⟩ := r.get ed
        exact .inl ⟨d, v, e.symm, ev, rv⟩
    · rw [List.getElem?_append_right (by rw [List.length_map]; exact h), List.getElem?_replicate] at e
      split at e
      · exact .inr (Option.some.inj e).symm
      · cases e
  have m : MtO V O H O (Slot.tape :: (ds.map Slot.dat ++ List.replicate (N.length - ps.length) .no)) (L2.start N (.ref V.t :: us)) H :=
    { len := by
        unfold L2.start
        simp only [List.length_append, List.length_map, List.length_replicate, List.length_cons, r.len]
        have := r.len
        omega
      slot := fun j sl e => by
        cases j with
        | zero =>
          have e : Slot.tape = sl := Option.some.inj e
          subst e
          rfl
        | succ j =>
          have e : (ds.map Slot.dat ++ List.replicate (N.length - ps.length) Slot.no)[j]? = some sl := e
          rcases dat j sl e with ⟨d, v, rfl, ev, rv⟩ | rfl
          · refine ⟨v, ?_, rv⟩
            unfold L2.start
            show ((us.map some) ++ _)[j]? = _
            rw [List.getElem?_append_left (by rw [List.length_map]; exact (List.getElem?_eq_some_iff.mp ev).1), List.getElem?_map, ev]
            rfl
          · trivial
      sep := fun a b d1 d2 p e1 _ _ _ => by
        cases a with
        | zero => cases e1
        | succ a =>
          have e1 : (ds.map Slot.dat ++ List.replicate (N.length - ps.length) Slot.no)[a]? = some (.own d1) := e1
          rcases dat a _ e1 with ⟨d, v, z, _⟩ | z <;> cases z
      sub := fun _ h => h
      vf := fun b h => fo b h
      al0 := fun b h => by obtain ⟨o, e, _⟩ := al b h; exact ⟨o, e⟩
      al := al
      go := .refl ti
      ti0 := ti }
  refine hx V hV ds P s' O H O _ H _ m ⟨fun δ' O' σ' H' st' m' k' => ?_, fun a v H' g r' k' p => q a v H' g r' p, fun _ _ _ _ _ _ z => z.elim, fun _ _ _ _ _ _ z => z.elim⟩
  exact q (.dat .non) .non H' m'.go (by show Rp O H' _ _; exact rp_non) k'
end
end
end MG
end
section
set_option linter.all false
set_option maxRecDepth 100000
set_option maxHeartbeats 4000000
/-! MTr: readings that gen.py printed (law k03). -/
namespace MG
open PySem L2 MR
def ts__law_draw (K : PySem.W.Frag) : TS :=
    (tSeq (tAsg (tC (.int 2305843009213693951)) (gName 2))
    (tSeq (tIfS (tTest (tOp (rI0 fun i j => .bl (decide (i < j))) (tOp (rIx K) (tVar 0) (tC (.int 2))) (tVar 1)))
    (tSeq (tAsg (tC (.int 0)) (gName 3))
    (tSeq (tIfS (tTest (tOp (rI0 fun i j => .bl (decide (j < i))) (tCB (rLenQ K) (tCons (tOp (rIx K) (tVar 0) (tC (.int 0))) tNil)) (tC (.int 0))))
    (tAsg (tOp (rIx K) (tOp (rIx K) (tVar 0) (tC (.int 0))) (tOp (rI (fun _ j => 0 < j) fun i j => .int (i % j)) (tOp (rIx K) (tVar 0) (tC (.int 1))) (tCB (rLenQ K) (tCons (tOp (rIx K) (tVar 0) (tC (.int 0))) tNil)))) (gName 3))
    tNext)
    (tSeq (tIfS (tOr (tTest (tOp (rI0 fun i j => .bl (decide (j ≤ i))) (tOp (rIx K) (tVar 0) (tC (.int 1))) (tCB (rLenQ K) (tCons (tOp (rIx K) (tVar 0) (tC (.int 0))) tNil)))) (tTest (tOp (rI0 fun i j => .bl (decide (i < j))) (tVar 3) (tOp (rI CPow fun i j => .int (i ^ j.toNat)) (tC (.int 10)) (tC (.int 18))))))
    (tSeq (tAsg (tOp (rI (fun _ j => 0 < j) fun i j => .int (i % j)) (tOp (rI0 fun i j => .int (i + j)) (tVar 3) (tOp (rI CMul fun i j => .int (i * j)) (tC (.int 1000003)) (tOp (rIx K) (tVar 0) (tC (.int 1))))) (tVar 2)) (gName 3))
    (tSeq (tAsg (tOp (rI (fun _ j => 0 < j) fun i j => .int (i % j)) (tOp (rI0 fun i j => .int (i + j)) (tOp (rI0 fun i j => .int (i + j)) (tOp (rI CMul fun i j => .int (i * j)) (tVar 3) (tVar 3)) (tOp (rI CMul fun i j => .int (i * j)) (tC (.int 1181783497276652981)) (tVar 3))) (tC (.int 2049848353892358983))) (tVar 2)) (gName 3))
    (tAsg (tOp (rI (fun _ j => 0 < j) fun i j => .int (i % j)) (tOp (rI0 fun i j => .int (i + j)) (tOp (rI CMul fun i j => .int (i * j)) (tVar 3) (tVar 3)) (tC (.int 1442695040888963407))) (tVar 2)) (gName 3))))
    tNext)
    (tSeq (tAsg (tOp (rI0 fun i j => .int (i + j)) (tOp (rIx K) (tVar 0) (tC (.int 1))) (tC (.int 1))) (gSub (tVar 0) (tC (.int 1)) rSetL))
    (tAsg (tVar 3) (gSub (tVar 0) (tC (.int 2)) rSetL))))))
    tNext)
    (tSeq (tAsg (tOp (rI (fun _ j => 0 < j) fun i j => .int (i % j)) (tOp (rIx K) (tVar 0) (tC (.int 2))) (tVar 1)) (gName 4))
    (tSeq (tAsg (tOp (rI CDivW fun i j => .int (i / j)) (tOp (rIx K) (tVar 0) (tC (.int 2))) (tVar 1)) (gSub (tVar 0) (tC (.int 2)) rSetL))
    (tRet (tVar 4))))))
def ts__law_like (K : PySem.W.Frag) (c_law_like : Sp) : TS :=
    (tSeq (tIfS (tB (tCB (rIsiT K) (tCons (tVar 0) (tCons (tTup (tCons (tC (.ty "list")) (tCons (tC (.ty "tuple")) tNil))) tNil))))
    (tSeq (tIfS (tOr (tTest (tOp (rNeD K) (tCB (rIsi K) (tCons (tVar 0) (tCons (tC (.ty "list")) tNil))) (tCB (rIsi K) (tCons (tVar 1) (tCons (tC (.ty "list")) tNil))))) (tTest (tOp (rNeD K) (tCB (rIsi K) (tCons (tVar 0) (tCons (tC (.ty "tuple")) tNil))) (tCB (rIsi K) (tCons (tVar 1) (tCons (tC (.ty "tuple")) tNil))))))
    (tRet (tC (.bl false)))
    tNext)
    (tSeq (tIfS (tTest (tOp (rNeD K) (tCB (rLenQ K) (tCons (tVar 0) tNil)) (tCB (rLenQ K) (tCons (tVar 1) tNil))))
    (tRet (tC (.bl false)))
    tNext)
    (tRet (tOp (rEqD K) (tLc (iRng1 (tCons (tCB (rLenQ K) (tCons (tVar 0) tNil)) tNil)) (gName 2) (tNot (tB (tCall c_law_like [] E0 (tCons (tOp (rIx K) (tVar 0) (tVar 2)) (tCons (tOp (rIx K) (tVar 1) (tVar 2)) tNil))))) (tVar 2) [2]) (tLst tNil)))))
    tNext)
    (tSeq (tIfS (tB (tCB (rIsiT K) (tCons (tVar 1) (tCons (tTup (tCons (tC (.ty "list")) (tCons (tC (.ty "tuple")) tNil))) tNil))))
    (tRet (tC (.bl false)))
    tNext)
    (tRet (tAndV (tOp (rEqD K) (tCB (rIsi K) (tCons (tVar 0) (tCons (tC (.ty "bool")) tNil))) (tCB (rIsi K) (tCons (tVar 1) (tCons (tC (.ty "bool")) tNil)))) (tOp (rEqD K) (tVar 0) (tVar 1))))))
def ts__law_margin (K : PySem.W.Frag) (c_law_draw : Sp) : TS :=
    (tSeq (tAsg (tCall c_law_draw [] E0 (tCons (tVar 0) (tCons (tOp (rI0 fun i j => .int (i + j)) (tVar 1) (tC (.int 1))) tNil))) (gName 2))
    (tRet (tOp (rIx K) (tLst (tCons (tC (.int 0)) (tCons (tVar 2) (tCons (tVar 2) (tCons (tUn (rU fun i => .int (-i)) (tVar 2)) tNil))))) (tCall c_law_draw [] E0 (tCons (tVar 0) (tCons (tC (.int 4)) tNil))))))
def ts__law_boxes (K : PySem.W.Frag) (c_law_draw : Sp) (c_law_margin : Sp) (c_law_boxes : Sp) : TS :=
    (tSeq (tAsg (tTup tNil) (gName 4))
    (tSeq (tFor (iRng1 (tCons (tCall c_law_draw [] E0 (tCons (tVar 0) (tCons (tC (.int 4)) tNil))) tNil)) (gName 5)
    (tIfS (tTest (tOp (rI0 fun i j => .bl (decide (j < i))) (tOp (rIx K) (tVar 1) (tC (.int 0))) (tC (.int 0))))
    (tSeq (tAsg (tOp (rI0 fun i j => .int (i - j)) (tOp (rIx K) (tVar 1) (tC (.int 0))) (tC (.int 1))) (gSub (tVar 1) (tC (.int 0)) rSetL))
    (tSeq (tPar 6 7 (tCons (tCall c_law_margin [] E0 (tCons (tVar 0) (tCons (tVar 3) tNil))) (tCons (tCall c_law_margin [] E0 (tCons (tVar 0) (tCons (tVar 3) tNil))) tNil)))
    (tIfS (tOr (tTest (tOp (rEqD K) (tVar 2) (tC (.int 0)))) (tTest (tOp (rEqD K) (tCall c_law_draw [] E0 (tCons (tVar 0) (tCons (tC (.int 2)) tNil))) (tC (.int 0)))))
    (tAsg (tOp (rCatA K) (tVar 4) (tTup (tCons (tTup (tCons (tC (.str "block")) (tCons (tVar 6) (tCons (tVar 7) (tCons (tOp (rI0 fun i j => .int (i + j)) (tC (.int 1)) (tCall c_law_draw [] E0 (tCons (tVar 0) (tCons (tC (.int 9)) tNil)))) tNil))))) tNil))) (gName 4))
    (tSeq (tAsg (tOp (rIx K) (tLst (tCons (tC (.int 0)) (tCons (tC (.int 0)) (tCons (tC (.int 0)) (tCons (tCall c_law_draw [] E0 (tCons (tVar 0) (tCons (tC (.int 5)) tNil))) tNil))))) (tCall c_law_draw [] E0 (tCons (tVar 0) (tCons (tC (.int 4)) tNil)))) (gName 8))
    (tSeq (tAsg (tCall c_law_boxes [] E0 (tCons (tVar 0) (tCons (tVar 1) (tCons (tOp (rI0 fun i j => .int (i - j)) (tVar 2) (tC (.int 1))) (tCons (tVar 3) tNil))))) (gName 9))
    (tAsg (tOp (rCatA K) (tVar 4) (tTup (tCons (tTup (tCons (tC (.str "group")) (tCons (tVar 6) (tCons (tVar 7) (tCons (tVar 8) (tCons (tVar 9) tNil)))))) tNil))) (gName 4)))))))
    tNext))
    (tRet (tVar 4))))
def ts__law_document (K : PySem.W.Frag) (c_law_boxes : Sp) : TS :=
    (tRet (tCall c_law_boxes [] E0 (tCons (tVar 0) (tCons (tLst (tCons (tVar 1) tNil)) (tCons (tC (.int 3)) (tCons (tVar 2) tNil))))))
end MG
end
section
set_option linter.all false
set_option maxRecDepth 100000
set_option maxHeartbeats 4000000
/-! MT2: promises of defs that take the tape; what is drawn. -/
namespace MG
open PySem L2 MR
def LiftI {ι : Type} (tp : ι → Vol → Prop) (sp : ι → ASp) : Sp := fun vs H Q E => ∃ i, LiftT (tp i) (sp i) vs H Q E
theorem liftI_of {ι : Type} {K : PySem.W.Frag} {P : Program} {w : World} {mg : Str → Option Value} {base : Heap} {x qual : Str} {st : Stmt} {f : Addr} {fd : FuncData} {N ps : List Str} {k : Nat} {tp : ι → Vol → Prop} {sp : ι → ASp} (F : Fun K x qual st f fd) (S : FnScope N ps (defScope st)) (hp : ps.length ≤ N.length)
    (len : ∀ i ds P, sp i ds P → ds.length + 1 = ps.length)
    (ts : TS) (hb : ∀ (cdv : Value) (A : Around) (outer : List Env) (s : Shared) (H : Hp) (E : XK), Room k (A.deeper (PyProof.Rows.envOfC qual (defScope st) s.heap.objs.size f cdv)) → PSs (cxOf CX0 P w K mg base N qual (defScope st) f cdv A outer s H E).nox (defBody st) ts)
    (hx : ∀ i V, tp i V → ∀ ds P, sp i ds P → XS V ts (Slot.tape :: (ds.map Slot.dat ++ List.replicate (N.length - ps.length) .no)) { nx := fun _ => P (.dat .non), rt := P }) : FnOk P w K mg base CX0 (k + 1) f fd ps (LiftI tp sp) := by
  refine F.ok S (fun vs H Q E h => ?_) (fun cdv A outer s H vs Q E hr h => ?_)
  · obtain ⟨i, V, O, us, ds, P, _, rfl, _, _, _, r, s, q⟩ := h
    rw [List.length_cons, r.len]; exact len i ds P s
  · obtain ⟨i, h⟩ := h
    exact ⟨ts, hb cdv A outer s H E hr, liftT_run ts hp (len i) (hx i) h⟩
section
variable {V : Vol} {δ : List Slot} {K : PySem.W.Frag} {l : Addr} {xs : List Int}
theorem xe_callI {ι : Type} {j : Nat} {tp : ι → Vol → Prop} {sp : ι → ASp} {ta : TA} {P : AV → Prop} (i : ι) (e : δ[j]? = some .tape) (hV : tp i V) (h : XA V ta δ fun as => AllOk as ∧ sp i (as.map AV.d) fun a => a.ok ∧ P a) : XE V (tCall (LiftI tp sp) [] E0 (tCons (tVar j) ta)) δ P := fun O0 H0 O σ H m Q q => by
  have hs : σ[j]? = some (some (.ref V.t)) := m.slot j _ e
  refine ⟨_, hs, h O0 H0 O σ H m _ fun as vs H1 g1 r1 ⟨ok, s⟩ => ?_⟩
  have m1 := m.mono g1
  refine ⟨i, V, O, vs, as.map AV.d, _, hV, by rw [List.append_nil], m1.ti, fun b hb => m.sub b (m.vf b hb), m1.al, m.repDs r1 ok, s, fun a v H' sm r ⟨k, p⟩ => ?_⟩
  exact q a v H' (g1.trans sm) (m.repB g1 r) p
def spDraw : ASp := fun ds P => ∃ n : Int, ds = [.int n] ∧ 0 < n ∧ n.natAbs.log2 < 9000 ∧ ∀ r, 0 ≤ r → r < n → P (.dat (.int r))
def dTail (K : PySem.W.Frag) : TS := tSeq (tAsg (tOp (rI (fun _ j => 0 < j) fun i j => .int (i % j)) (tOp (rIx K) (tVar 0) (tC (.int 2))) (tVar 1)) (gName 4)) (tSeq (tAsg (tOp (rI CDivW fun i j => .int (i / j)) (tOp (rIx K) (tVar 0) (tC (.int 2))) (tVar 1)) (gSub (tVar 0) (tC (.int 2)) rSetL)) (tRet (tVar 4)))
def dFin (K : PySem.W.Frag) : TS := tSeq (tAsg (tOp (rI0 fun i j => .int (i + j)) (tOp (rIx K) (tVar 0) (tC (.int 1))) (tC (.int 1))) (gSub (tVar 0) (tC (.int 1)) rSetL)) (tAsg (tVar 3) (gSub (tVar 0) (tC (.int 2)) rSetL))
def dMix1 (K : PySem.W.Frag) : TS := tAsg (tOp (rI (fun _ j => 0 < j) fun i j => .int (i % j)) (tOp (rI0 fun i j => .int (i + j)) (tVar 3) (tOp (rI CMul fun i j => .int (i * j)) (tC (.int 1000003)) (tOp (rIx K) (tVar 0) (tC (.int 1))))) (tVar 2)) (gName 3)
def dMix2 : TS := tAsg (tOp (rI (fun _ j => 0 < j) fun i j => .int (i % j)) (tOp (rI0 fun i j => .int (i + j)) (tOp (rI0 fun i j => .int (i + j)) (tOp (rI CMul fun i j => .int (i * j)) (tVar 3) (tVar 3)) (tOp (rI CMul fun i j => .int (i * j)) (tC (.int 1181783497276652981)) (tVar 3))) (tC (.int 2049848353892358983))) (tVar 2)) (gName 3)
def dMix3 : TS := tAsg (tOp (rI (fun _ j => 0 < j) fun i j => .int (i % j)) (tOp (rI0 fun i j => .int (i + j)) (tOp (rI CMul fun i j => .int (i * j)) (tVar 3) (tVar 3)) (tC (.int 1442695040888963407))) (tVar 2)) (gName 3)
def dCond (K : PySem.W.Frag) : TT := tOr (tTest (tOp (rI0 fun i j => .bl (decide (j ≤ i))) (tOp (rIx K) (tVar 0) (tC (.int 1))) (tCB (rLenQ K) (tCons (tOp (rIx K) (tVar 0) (tC (.int 0))) tNil)))) (tTest (tOp (rI0 fun i j => .bl (decide (i < j))) (tVar 3) (tOp (rI CPow fun i j => .int (i ^ j.toNat)) (tC (.int 10)) (tC (.int 18)))))
def dCell (K : PySem.W.Frag) : TS := tAsg (tOp (rIx K) (tOp (rIx K) (tVar 0) (tC (.int 0))) (tOp (rI (fun _ j => 0 < j) fun i j => .int (i % j)) (tOp (rIx K) (tVar 0) (tC (.int 1))) (tCB (rLenQ K) (tCons (tOp (rIx K) (tVar 0) (tC (.int 0))) tNil)))) (gName 3)
theorem draw_shape : ts__law_draw K = tSeq (tAsg (tC (.int 2305843009213693951)) (gName 2)) (tSeq (tIfS (tTest (tOp (rI0 fun i j => .bl (decide (i < j))) (tOp (rIx K) (tVar 0) (tC (.int 2))) (tVar 1)))
    (tSeq (tAsg (tC (.int 0)) (gName 3)) (tSeq (tIfS (tTest (tOp (rI0 fun i j => .bl (decide (j < i))) (tCB (rLenQ K) (tCons (tOp (rIx K) (tVar 0) (tC (.int 0))) tNil)) (tC (.int 0)))) (dCell K) tNext)
      (tSeq (tIfS (dCond K) (tSeq (dMix1 K) (tSeq dMix2 dMix3)) tNext) (dFin K)))) tNext) (dTail K)) := rfl
def dS (n : Int) (s3 : Slot) : List Slot := [.tape, .dat (.int n), .dat (.int 2305843009213693951), s3, .no]
theorem xs_draw (T : TapeV V l xs) {n : Int} (hn : 0 < n) (hl : n.natAbs.log2 < 9000) {P : AV → Prop} (hP : ∀ r, 0 ≤ r → r < n → P (.dat (.int r))) :
    XS V (ts__law_draw K) [.tape, .dat (.int n), .no, .no, .no] { nx := fun _ => P (.dat .non), rt := P } := by
  have tail : ∀ s3, XS V (dTail K) (dS n s3) { nx := fun _ => P (.dat .non), rt := P } := fun s3 => by
    refine xs_seq (xs_set (xe_I (xe_tapeI T rfl (.inr rfl) fun c => ⟨c, rfl, xe_vard rfl ⟨n, rfl, hn, trivial, ?_⟩⟩)))
    show XS V _ [.tape, .dat (.int n), .dat (.int 2305843009213693951), s3, .dat (.int (c % n))] _
    refine xs_seq (xs_tape T rfl (.inr rfl) (xe_I (xe_tapeI T rfl (.inr rfl) fun c2 => ⟨c2, rfl, xe_vard rfl ⟨n, rfl, ⟨hn, hl⟩, _, rfl, ?_⟩⟩)))
    exact xs_ret (xe_vard rfl ⟨trivial, hP _ (Int.emod_nonneg _ (by omega)) (Int.emod_lt_of_pos _ hn)⟩)
  rw [draw_shape]
  generalize hE : ({ nx := fun _ => P (.dat .non), rt := P } : AEnds) = E at tail ⊢
  refine xs_seq (xs_set (xe_c ⟨trivial, ?_⟩))
  show XS V _ [.tape, .dat (.int n), .dat (.int 2305843009213693951), .no, .no] _
  refine xs_seq (xs_if (xt_test (xe_I0 (xe_tapeI T rfl (.inr rfl) fun c => ⟨c, rfl, xe_vard rfl ⟨n, rfl, _, rfl, ?_⟩⟩))))
  by_cases hc : c < n
  case neg =>
    rw [if_neg (by simpa using hc)]
    exact xs_next (tail .no)
  rw [if_pos (by simpa using hc)]
  generalize hE2 : ({ E with nx := fun δ' => XS V (dTail K) δ' E } : AEnds) = E2
  have nx2 : ∀ s3, E2.nx (dS n s3) := fun s3 => by rw [← hE2]; exact tail s3
  have fin : ∀ z : Int, XS V (dFin K) (dS n (.dat (.int z))) E2 := fun z => by
    refine xs_seq (xs_tape T rfl (.inl rfl) (xe_I0 (xe_tapeI T rfl (.inl rfl) fun i => ⟨i, rfl, xe_c ⟨_, rfl, _, rfl, ?_⟩⟩)))
    exact xs_tape T rfl (.inr rfl) (xe_vard rfl ⟨_, rfl, nx2 _⟩)
  have pr : ∀ a : Int, 0 ≤ a % 2305843009213693951 ∧ a % 2305843009213693951 < 2 ^ 64 := fun a => ⟨Int.emod_nonneg _ (by decide), Int.lt_trans (Int.emod_lt_of_pos _ (by decide)) (by decide)⟩
  have small : ∀ (a b : Int), CMul (a % 2305843009213693951) b := fun a b => .inl ⟨by have := (pr a).1; omega, (pr a).2⟩
  have mid : ∀ z : Int, XS V (tSeq (tIfS (dCond K) (tSeq (dMix1 K) (tSeq dMix2 dMix3)) tNext) (dFin K)) (dS n (.dat (.int z))) E2 := fun z => by
    have big : XS V (tSeq (dMix1 K) (tSeq dMix2 dMix3)) (dS n (.dat (.int z))) { E2 with nx := fun δ' => XS V (dFin K) δ' E2 } := by
      refine xs_seq (xs_set (xe_I (xe_I0 (xe_vard rfl ⟨z, rfl, xe_I (xe_c ⟨_, rfl, xe_tapeI T rfl (.inl rfl) fun i => ⟨i, rfl, .inl ⟨by decide, by decide⟩, _, rfl, ⟨_, rfl, xe_vard rfl ⟨_, rfl, by decide, trivial, ?_⟩⟩⟩⟩)⟩))))
      show XS V _ (dS n (.dat (.int ((z + 1000003 * i) % 2305843009213693951)))) _
      generalize (z + 1000003 * i) = y
      refine xs_seq (xs_set (xe_I (xe_I0 (xe_I0 (xe_I (xe_vard rfl ⟨_, rfl, xe_vard rfl ⟨_, rfl, small _ _, ⟨_, rfl, xe_I (xe_c ⟨_, rfl, xe_vard rfl ⟨_, rfl, .inl ⟨by decide, by decide⟩, ⟨_, rfl, _, rfl, xe_c ⟨_, rfl, _, rfl, xe_vard rfl ⟨_, rfl, by decide, trivial, ?_⟩⟩⟩⟩⟩)⟩⟩⟩))))))
      show XS V _ (dS n (.dat (.int (_ % 2305843009213693951)))) _
      exact xs_set (xe_I (xe_I0 (xe_I (xe_vard rfl ⟨_, rfl, xe_vard rfl ⟨_, rfl, small _ _, ⟨_, rfl, xe_c ⟨_, rfl, _, rfl, xe_vard rfl ⟨_, rfl, by decide, trivial, fin _⟩⟩⟩⟩⟩))))
    refine xs_seq (xs_if ?_)
    have both : ∀ b : Bool, if b = true then XS V (tSeq (dMix1 K) (tSeq dMix2 dMix3)) (dS n (.dat (.int z))) { E2 with nx := fun δ' => XS V (dFin K) δ' E2 } else XS V tNext (dS n (.dat (.int z))) { E2 with nx := fun δ' => XS V (dFin K) δ' E2 } := fun b => by
      cases b
      · exact xs_next (fin z)
      · exact big
    refine xt_or (xt_test (xe_I0 (xe_tapeI T rfl (.inl rfl) fun i => ⟨i, rfl, xe_len (xa_cons (xe_tape0 T rfl (xa_nil ⟨_, _, rfl, .inr rfl, _, rfl, _, rfl, ?_⟩)))⟩)))
    cases hb : decide ((((dInts xs).length : Nat) : Int) ≤ i)
    · exact xt_test (xe_I0 (xe_vard rfl ⟨_, rfl, xe_I (xe_c ⟨_, rfl, xe_c ⟨_, rfl, ⟨by decide, by decide, by decide⟩, _, rfl, _, rfl, both _⟩⟩)⟩))
    · exact both true
  refine xs_seq (xs_set (xe_c ⟨trivial, ?_⟩))
  show XS V _ (dS n (.dat (.int 0))) _
  refine xs_seq (xs_if (xt_test (xe_I0 (xe_len (xa_cons (xe_tape0 T rfl (xa_nil ⟨_, _, rfl, .inr rfl, _, rfl, xe_c ⟨_, rfl, _, rfl, ?_⟩⟩)))))))
  by_cases hx : (0 : Int) < ((dInts xs).length : Nat)
  case neg =>
    rw [if_neg (by simpa using hx)]
    exact xs_next (mid 0)
  rw [if_pos (by simpa using hx)]
  refine xs_set (xe_ix (xe_tape0 T rfl (xe_I (xe_tapeI T rfl (.inl rfl) fun i => ⟨i, rfl, xe_len (xa_cons (xe_tape0 T rfl (xa_nil ⟨_, _, rfl, .inr rfl, _, rfl, hx, ?_⟩)))⟩))))
  have key : ∃ z, atI (dInts xs) (i % ((dInts xs).length : Nat)) = some (.int z) := by
    have h1 : (0 : Int) ≤ i % ((dInts xs).length : Nat) := Int.emod_nonneg _ (by omega)
    have h2 : i % ((dInts xs).length : Nat) < ((dInts xs).length : Nat) := Int.emod_lt_of_pos _ hx
    generalize i % ((dInts xs).length : Nat) = q at h1 h2
    have hl2 : (dInts xs).length = xs.length := by unfold dInts; simp
    have hj : q.toNat < xs.length := by omega
    refine ⟨xs[q.toNat]'hj, atI_of (j := q.toNat) ?_ (by unfold dInts; rw [List.getElem?_map, List.getElem?_eq_getElem hj]; rfl)⟩
    unfold ixN
    rw [if_pos h1, if_pos h2]
  obtain ⟨z, hz⟩ := key
  exact ⟨dInts xs, _, .int z, .inr rfl, rfl, hz, trivial, mid _⟩
end
end MG
end
section
set_option linter.all false
set_option maxRecDepth 100000
set_option maxHeartbeats 4000000
/-! MT3: drawn margins, boxes, documents. -/
namespace MG
open PySem L2 MR
theorem small_log {n : Int} (h0 : 0 < n) (h : n ≤ 1000000) : n.natAbs.log2 < 9000 := by
  have : n.natAbs.log2 < 40 := (Nat.log2_lt (by omega)).mpr (by omega)
  omega
abbrev tpT : Unit → Vol → Prop := fun _ V => ∃ l xs, TapeV V l xs
abbrev cDraw : Sp := LiftI tpT fun _ => spDraw
def spMargin : ASp := fun ds P => ∃ w : Int, ds = [.int w] ∧ 0 ≤ w ∧ w ≤ 100000 ∧ ∀ r, -w ≤ r → r ≤ w → P (.dat (.int r))
abbrev cMargin : Sp := LiftI tpT fun _ => spMargin
section
variable {V : Vol} {δ : List Slot} {K : PySem.W.Frag} {l : Addr} {xs : List Int}
theorem allOk_int {is : List Int} : AllOk (is.map fun i => AV.dat (.int i)) := fun a h => by
  obtain ⟨i, _, rfl⟩ := List.mem_map.mp h
  trivial
/-- a draw of a number that stands there -/
theorem xe_draw {j : Nat} {n : Int} {te : TE} {P : AV → Prop} (T : TapeV V l xs) (e : δ[j]? = some .tape) (h0 : 0 < n) (h1 : n ≤ 1000000) (ht : ∀ Q : AV → Prop, (∀ a, a.d = .int n → a.ok → Q a) → XE V te δ Q) (h : ∀ r, 0 ≤ r → r < n → P (.dat (.int r))) : XE V (tCall cDraw [] E0 (tCons (tVar j) (tCons te tNil))) δ P :=
  xe_callI () e ⟨l, xs, T⟩ (xa_cons (ht _ fun a ea ka => xa_nil ⟨fun b hb => by simp at hb; rw [hb]; exact ka, n, by simp [ea], h0, small_log h0 h1, fun r g1 g2 => ⟨trivial, h r g1 g2⟩⟩))
theorem xe_drawC {j : Nat} {n : Int} {P : AV → Prop} (T : TapeV V l xs) (e : δ[j]? = some .tape) (h0 : 0 < n) (h1 : n ≤ 1000000) (h : ∀ r, 0 ≤ r → r < n → P (.dat (.int r))) : XE V (tCall cDraw [] E0 (tCons (tVar j) (tCons (tC (.int n)) tNil))) δ P :=
  xe_draw T e h0 h1 (fun Q q => xe_c (q _ rfl trivial)) h
theorem xs_margin (T : TapeV V l xs) {w : Int} (h0 : 0 ≤ w) (h1 : w ≤ 100000) {P : AV → Prop} (hP : ∀ r, -w ≤ r → r ≤ w → P (.dat (.int r))) :
    XS V (ts__law_margin K cDraw) [.tape, .dat (.int w), .no] { nx := fun _ => P (.dat .non), rt := P } := by
  unfold ts__law_margin
  refine xs_seq (xs_set (xe_draw (n := w + 1) T rfl (by omega) (by omega) (fun Q q => xe_I0 (xe_vard rfl ⟨w, rfl, xe_c ⟨1, rfl, q _ rfl trivial⟩⟩)) fun r g1 g2 => ⟨trivial, ?_⟩))
  show XS V _ [.tape, .dat (.int w), .dat (.int r)] _
  refine xs_ret (xe_ix (xe_lst (xa_cons (xe_c (xa_cons (xe_vard rfl (xa_cons (xe_vard rfl (xa_cons (xe_U (xe_vard rfl ⟨r, rfl, xa_nil ⟨?_, by show 4 ≤ sizeLine; decide, ?_⟩⟩)))))))))))
  · intro a ha
    simp at ha
    rcases ha with rfl | rfl | rfl <;> trivial
  · refine xe_drawC T rfl (by decide) (by decide) fun q q1 q2 => ?_
    have : q = 0 ∨ q = 1 ∨ q = 2 ∨ q = 3 := by omega
    rcases this with rfl | rfl | rfl | rfl
    · exact ⟨_, 0, .int 0, .inr rfl, rfl, rfl, trivial, hP 0 (by omega) (by omega)⟩
    · exact ⟨_, 1, .int r, .inr rfl, rfl, rfl, trivial, hP r (by omega) (by omega)⟩
    · exact ⟨_, 2, .int r, .inr rfl, rfl, rfl, trivial, hP r (by omega) (by omega)⟩
    · exact ⟨_, 3, .int (-r), .inr rfl, rfl, rfl, trivial, hP (-r) (by omega) (by omega)⟩
theorem xe_margin {j : Nat} {w : Int} {te : TE} {P : AV → Prop} (T : TapeV V l xs) (e : δ[j]? = some .tape) (h0 : 0 ≤ w) (h1 : w ≤ 100000) (ht : ∀ Q : AV → Prop, (∀ a, a.d = .int w → a.ok → Q a) → XE V te δ Q) (h : ∀ r, -w ≤ r → r ≤ w → P (.dat (.int r))) : XE V (tCall cMargin [] E0 (tCons (tVar j) (tCons te tNil))) δ P :=
  xe_callI () e ⟨l, xs, T⟩ (xa_cons (ht _ fun a ea ka => xa_nil ⟨fun b hb => by simp at hb; rw [hb]; exact ka, w, by simp [ea], h0, h1, fun r g1 g2 => ⟨trivial, h r g1 g2⟩⟩))
end
/-! what may be drawn: rows of at most three, so deep, margins and heights within bounds -/
mutual
def Bx.fine (w : Int) : Nat → Bx → Prop
  | _, .blk t b s => -w ≤ t ∧ t ≤ w ∧ -w ≤ b ∧ b ≤ w ∧ 1 ≤ s ∧ s ≤ 9
  | 0, .grp _ _ _ _ => False
  | d + 1, .grp t b p bs => -w ≤ t ∧ t ≤ w ∧ -w ≤ b ∧ b ≤ w ∧ 0 ≤ p ∧ p ≤ 4 ∧ bs.length ≤ 3 ∧ Bx.fines w d bs
def Bx.fines (w : Int) : Nat → List Bx → Prop
  | _, [] => True
  | d, b :: bs => Bx.fine w d b ∧ Bx.fines w d bs
end
def Bx.drawn (w : Int) (d : Nat) (bs : List Bx) : Prop := bs.length ≤ 3 ∧ Bx.fines w d bs
theorem Bx.fines_snoc {w : Int} {d : Nat} : ∀ {bs : List Bx} {b : Bx}, Bx.fines w d bs → Bx.fine w d b → Bx.fines w d (bs ++ [b])
  | [], b, _, h => by
    show Bx.fines w d [b]
    unfold Bx.fines; exact ⟨h, by unfold Bx.fines; trivial⟩
  | c :: bs, b, h, g => by
    show Bx.fines w d (c :: (bs ++ [b]))
    unfold Bx.fines at h ⊢; exact ⟨h.1, Bx.fines_snoc h.2 g⟩
theorem Bx.ds_snoc : ∀ (bs : List Bx) (b : Bx), Bx.ds (bs ++ [b]) = Bx.ds bs ++ [b.d]
  | [], b => by
    show Bx.ds [b] = _
    unfold Bx.ds; unfold Bx.ds; rfl
  | c :: bs, b => by
    show Bx.ds (c :: (bs ++ [b])) = _
    rw [Bx.ds, Bx.ds, Bx.ds_snoc bs b]; rfl
def spBoxes (p : Addr) : ASp := fun ds P => ∃ (d : Nat) (w : Int), ds = [.raw (.ref p), .int d, .int w] ∧ d ≤ 10 ∧ 0 ≤ w ∧ w ≤ 100000 ∧ ∀ bs, Bx.drawn w d bs → P (.dat (Bx.doc bs))
def spBoxesD (n : Nat) (p : Addr) : ASp := fun ds P => ∃ (d : Nat) (w : Int), d ≤ n ∧ ds = [.raw (.ref p), .int d, .int w] ∧ d ≤ 10 ∧ 0 ≤ w ∧ w ≤ 100000 ∧ ∀ bs, Bx.drawn w d bs → P (.dat (Bx.doc bs))
def tpB : Addr → Vol → Prop := fun p V => ∃ U l xs, V = Vol.add U p ∧ TapeV U l xs ∧ p ≠ U.t ∧ p ≠ l ∧ ¬ U.F p
end MG
end
section
set_option linter.all false
set_option maxRecDepth 100000
set_option maxHeartbeats 4000000
/-! MT4: drawn boxes. -/
namespace MG
open PySem L2 MR
def cBoxes : Nat → Sp
  | 0 => fun _ _ _ _ => False
  | n + 1 => LiftI tpB (spBoxesD n)
section
variable {U : Vol} {K : PySem.W.Frag} {l p : Addr} {xs : List Int}
def bS (p : Addr) (d : Nat) (w : Int) (bs : List Bx) (s5 s6 s7 s8 s9 : Slot) : List Slot := [.tape, .dat (.raw (.ref p)), .dat (.int d), .dat (.int w), .dat (Bx.doc bs), s5, s6, s7, s8, s9]
theorem big_size : (100000 : Nat) ≤ sizeLine := by decide
def dBlock (K : PySem.W.Frag) : TS := tAsg (tOp (rCatA K) (tVar 4) (tTup (tCons (tTup (tCons (tC (.str "block")) (tCons (tVar 6) (tCons (tVar 7) (tCons (tOp (rI0 fun i j => .int (i + j)) (tC (.int 1)) (tCall cDraw [] E0 (tCons (tVar 0) (tCons (tC (.int 9)) tNil)))) tNil))))) tNil))) (gName 4)
theorem xs_block {d : Nat} {w t b : Int} {bs : List Bx} {s5 s8 s9 : Slot} {E : AEnds} (T : TapeV U l xs) (len : (Bx.ds bs).length + 1 ≤ sizeLine) (hE : ∀ r, 1 ≤ r → r ≤ 9 → E.nx (bS p d w (bs ++ [.blk t b r]) s5 (.dat (.int t)) (.dat (.int b)) s8 s9)) :
    XS U (dBlock K) (bS p d w bs s5 (.dat (.int t)) (.dat (.int b)) s8 s9) E := by
  refine xs_set (xe_catT (xe_vard rfl (xe_tupD (xd_cons (xe_tupD (xd_cons (xe_c ⟨trivial, xd_cons (xe_vard rfl ⟨trivial, xd_cons (xe_vard rfl ⟨trivial, xd_cons (xe_I0 (xe_c ⟨1, rfl, xe_drawC T rfl (by decide) (by decide) fun r r0 r1 => ⟨r, rfl, trivial, xd_nil ⟨by show 4 ≤ sizeLine; decide, trivial, xd_nil ⟨by show 1 ≤ sizeLine; decide, ?_⟩⟩⟩⟩))⟩)⟩)⟩)))))))
  refine ⟨Bx.ds bs, _, rfl, rfl, len, trivial, ?_⟩
  have := hE (1 + r) (by omega) (by omega)
  unfold bS Bx.doc at this
  rw [Bx.ds_snoc, Bx.d] at this
  exact this
def dGroup (K : PySem.W.Frag) (c : Sp) : TS := tSeq (tAsg (tOp (rIx K) (tLst (tCons (tC (.int 0)) (tCons (tC (.int 0)) (tCons (tC (.int 0)) (tCons (tCall cDraw [] E0 (tCons (tVar 0) (tCons (tC (.int 5)) tNil))) tNil))))) (tCall cDraw [] E0 (tCons (tVar 0) (tCons (tC (.int 4)) tNil)))) (gName 8))
    (tSeq (tAsg (tCall c [] E0 (tCons (tVar 0) (tCons (tVar 1) (tCons (tOp (rI0 fun i j => .int (i - j)) (tVar 2) (tC (.int 1))) (tCons (tVar 3) tNil))))) (gName 9))
    (tAsg (tOp (rCatA K) (tVar 4) (tTup (tCons (tTup (tCons (tC (.str "group")) (tCons (tVar 6) (tCons (tVar 7) (tCons (tVar 8) (tCons (tVar 9) tNil)))))) tNil))) (gName 4)))
theorem xs_group {n d : Nat} {w t b : Int} {bs : List Bx} {s5 s8 s9 : Slot} {E : AEnds} (T : TapeV U l xs) (hV : tpB p U) (hd : d ≤ n) (hd10 : d + 1 ≤ 10) (h0 : 0 ≤ w) (h1 : w ≤ 100000) (len : (Bx.ds bs).length + 1 ≤ sizeLine)
    (hE : ∀ q inner s8 s9, 0 ≤ q → q ≤ 4 → Bx.drawn w d inner → E.nx (bS p (d + 1) w (bs ++ [.grp t b q inner]) s5 (.dat (.int t)) (.dat (.int b)) s8 s9)) :
    XS U (dGroup K (LiftI tpB (spBoxesD n))) (bS p (d + 1) w bs s5 (.dat (.int t)) (.dat (.int b)) s8 s9) E := by
  have key : ∀ q s8, 0 ≤ q → q ≤ 4 → XS U (tSeq (tAsg (tCall (LiftI tpB (spBoxesD n)) [] E0 (tCons (tVar 0) (tCons (tVar 1) (tCons (tOp (rI0 fun i j => .int (i - j)) (tVar 2) (tC (.int 1))) (tCons (tVar 3) tNil))))) (gName 9))
      (tAsg (tOp (rCatA K) (tVar 4) (tTup (tCons (tTup (tCons (tC (.str "group")) (tCons (tVar 6) (tCons (tVar 7) (tCons (tVar 8) (tCons (tVar 9) tNil)))))) tNil))) (gName 4))) (bS p (d + 1) w bs s5 (.dat (.int t)) (.dat (.int b)) (.dat (.int q)) s8) E := fun q s9 q0 q1 => by
    refine xs_seq (xs_set (xe_callI p rfl hV (xa_cons (xe_vard rfl (xa_cons (xe_I0 (xe_vard rfl ⟨_, rfl, xe_c ⟨1, rfl, xa_cons (xe_vard rfl (xa_nil ⟨?_, d, w, hd, ?_, by omega, h0, h1, fun inner hi => ⟨trivial, trivial, ?_⟩⟩))⟩⟩)))))))
    · intro a ha
      simp at ha
      rcases ha with rfl | rfl | rfl <;> trivial
    · show [_, D.int (((d + 1 : Nat) : Int) - 1), _] = _
      rw [show (((d + 1 : Nat) : Int) - 1) = (d : Int) by omega]
      rfl
    · show XS U _ (bS p (d + 1) w bs s5 (.dat (.int t)) (.dat (.int b)) (.dat (.int q)) (.dat (Bx.doc inner))) E
      refine xs_set (xe_catT (xe_vard rfl (xe_tupD (xd_cons (xe_tupD (xd_cons (xe_c ⟨trivial, xd_cons (xe_vard rfl ⟨trivial, xd_cons (xe_vard rfl ⟨trivial, xd_cons (xe_vard rfl ⟨trivial, xd_cons (xe_vard rfl ⟨trivial, xd_nil ⟨by show 5 ≤ sizeLine; decide, trivial, xd_nil ⟨by show 1 ≤ sizeLine; decide, ?_⟩⟩⟩)⟩)⟩)⟩)⟩)))))))
      refine ⟨Bx.ds bs, _, rfl, rfl, len, trivial, ?_⟩
      have := hE q inner (.dat (.int q)) (.dat (Bx.doc inner)) q0 q1 hi
      unfold bS at this
      rw [show Bx.doc (bs ++ [.grp t b q inner]) = D.tup (Bx.ds bs ++ [(Bx.grp t b q inner).d]) by unfold Bx.doc; rw [Bx.ds_snoc], Bx.d] at this
      exact this
  refine xs_seq (xs_set (xe_ix (xe_lst (xa_cons (xe_c (xa_cons (xe_c (xa_cons (xe_c (xa_cons (xe_drawC T rfl (by decide) (by decide) fun r r0 r1 => xa_nil ⟨?_, by show 4 ≤ sizeLine; decide, xe_drawC T rfl (by decide) (by decide) fun q q1 q2 => ?_⟩)))))))))))
  · intro a ha
    simp at ha
    rcases ha with rfl | rfl <;> trivial
  · have : q = 0 ∨ q = 1 ∨ q = 2 ∨ q = 3 := by omega
    rcases this with rfl | rfl | rfl | rfl
    · exact ⟨_, 0, .int 0, .inr rfl, rfl, rfl, trivial, key 0 _ (by omega) (by omega)⟩
    · exact ⟨_, 1, .int 0, .inr rfl, rfl, rfl, trivial, key 0 _ (by omega) (by omega)⟩
    · exact ⟨_, 2, .int 0, .inr rfl, rfl, rfl, trivial, key 0 _ (by omega) (by omega)⟩
    · exact ⟨_, 3, .int r, .inr rfl, rfl, rfl, trivial, key r _ (by omega) (by omega)⟩
theorem xs_boxes {n d : Nat} {w : Int} (T0 : TapeV U l xs) (hp : p ≠ U.t) (hpl : p ≠ l) (hF : ¬ U.F p) (hd : d ≤ n) (hd10 : d ≤ 10) (h0 : 0 ≤ w) (h1 : w ≤ 100000) {P : AV → Prop} (hP : ∀ bs, Bx.drawn w d bs → P (.dat (Bx.doc bs))) :
    XS (U.add p) (ts__law_boxes K cDraw cMargin (cBoxes n)) [.tape, .dat (.raw (.ref p)), .dat (.int d), .dat (.int w), .no, .no, .no, .no, .no, .no] { nx := fun _ => P (.dat .non), rt := P } := by
  have T : TapeV (U.add p) l xs := T0.add hp hpl
  unfold ts__law_boxes
  refine xs_seq (xs_set (xe_tupD (xd_nil ⟨Nat.zero_le _, trivial, ?_⟩)))
  show XS _ _ (bS p d w [] .no .no .no .no .no) _
  refine xs_seq (xs_forR1 (xa_cons (xe_drawC T rfl (by decide) (by decide) fun j j0 j1 => xa_nil ⟨_, j, rfl, rfl, by omega, by omega, fun i δ' => ∃ bs s5 s6 s7 s8 s9, bs.length ≤ i ∧ Bx.fines w d bs ∧ δ' = bS p d w bs s5 s6 s7 s8 s9,
    ⟨[], .no, .no, .no, .no, .no, Nat.zero_le _, by unfold Bx.fines; trivial, rfl⟩, ?_, ?_⟩)))
  · rintro i hi δ' ⟨bs, s5, s6, s7, s8, s9, hl, hf, rfl⟩
    have hl4 : bs.length ≤ 2 := by omega
    refine xg_name ?_
    show XS _ _ (bS p d w bs (.dat (.int i)) s6 s7 s8 s9) _
    refine xs_if (xt_test (xe_I0 (xe_left rfl fun m => ⟨m, rfl, xe_c ⟨0, rfl, _, rfl, ?_⟩⟩)))
    by_cases hm : (0 : Int) < m
    case neg =>
      rw [if_neg (by simpa using hm)]
      exact xs_next ⟨bs, _, _, _, _, _, by omega, hf, rfl⟩
    rw [if_pos (by simpa using hm)]
    refine xs_seq (xs_left hp hF rfl (xe_I0 (xe_left rfl fun m => ⟨m, rfl, xe_c ⟨1, rfl, _, rfl, ?_⟩⟩)))
    refine xs_seq (xs_par (xa_cons (xe_margin (w := w) T rfl h0 h1 (fun Q q => xe_vard rfl (q _ rfl trivial)) fun t t0 t1 => xa_cons (xe_margin (w := w) T rfl h0 h1 (fun Q q => xe_vard rfl (q _ rfl trivial)) fun b b0 b1 => xa_nil ⟨_, _, rfl, trivial, trivial, ?_⟩))))
    show XS _ _ (bS p d w bs (.dat (.int i)) (.dat (.int t)) (.dat (.int b)) s8 s9) _
    have done : ∀ (x : Bx) s5 s6 s7 s8 s9, Bx.fine w d x → ∃ bs' s5' s6' s7' s8' s9', bs'.length ≤ i + 1 ∧ Bx.fines w d bs' ∧ bS p d w (bs ++ [x]) s5 s6 s7 s8 s9 = bS p d w bs' s5' s6' s7' s8' s9' := fun x s5 s6 s7 s8 s9 hx =>
      ⟨bs ++ [x], _, _, _, _, _, by rw [List.length_append]; show bs.length + 1 ≤ _; omega, Bx.fines_snoc hf hx, rfl⟩
    have len : (Bx.ds bs).length + 1 ≤ sizeLine := by have := big_size; rw [Bx.ds_len]; omega
    have blk : ∀ E : AEnds, (∀ δ', (∃ bs s5 s6 s7 s8 s9, bs.length ≤ i + 1 ∧ Bx.fines w d bs ∧ δ' = bS p d w bs s5 s6 s7 s8 s9) → E.nx δ') → XS (U.add p) (dBlock K) (bS p d w bs (.dat (.int i)) (.dat (.int t)) (.dat (.int b)) s8 s9) E := fun E hE =>
      xs_block T len fun r r0 r1 => hE _ (done _ _ _ _ _ _ (by cases d <;> unfold Bx.fine <;> exact ⟨t0, t1, b0, b1, r0, r1⟩))
    refine xs_if ?_
    cases d with
    | zero =>
      refine xt_or (xt_test (xe_eqD (xe_vard rfl (xe_c ⟨lay_int _, lay_int _, _, rfl, ?_⟩))))
      rw [if_pos (by decide +kernel), if_pos rfl]
      exact blk _ fun _ h => h
    | succ d' =>
      obtain ⟨n', rfl⟩ : ∃ n', n = n' + 1 := ⟨n - 1, by omega⟩
      have grp : ∀ E : AEnds, (∀ δ', (∃ bs s5 s6 s7 s8 s9, bs.length ≤ i + 1 ∧ Bx.fines w (d' + 1) bs ∧ δ' = bS p (d' + 1) w bs s5 s6 s7 s8 s9) → E.nx δ') → XS (U.add p) (dGroup K (cBoxes (n' + 1))) (bS p (d' + 1) w bs (.dat (.int i)) (.dat (.int t)) (.dat (.int b)) s8 s9) E := fun E hE =>
        xs_group T ⟨U, l, xs, rfl, T0, hp, hpl, hF⟩ (by omega) hd10 h0 h1 len fun q inner s8 s9 q0 q1 hi => hE _ (done _ _ _ _ _ _ (by unfold Bx.fine; exact ⟨t0, t1, b0, b1, q0, q1, hi.1, hi.2⟩))
      have two : ∀ (x : Bool) {A B : Prop}, A → B → if x = true then A else B := fun x A B ha hb => by cases x <;> assumption
      refine xt_or (xt_test (xe_eqD (xe_vard rfl (xe_c ⟨lay_int _, lay_int _, _, rfl, ?_⟩))))
      refine two _ (two true (blk _ fun _ h => h) (grp _ fun _ h => h)) (xt_test (xe_eqD (xe_drawC T rfl (by decide) (by decide) fun r r0 r1 => xe_c ⟨lay_int _, lay_int _, _, rfl, ?_⟩)))
      exact two _ (blk _ fun _ h => h) (grp _ fun _ h => h)
  · rintro δ' ⟨bs, s5, s6, s7, s8, s9, hl, hf, rfl⟩
    exact xs_ret (xe_vard rfl ⟨trivial, hP bs ⟨by omega, hf⟩⟩)
end
end MG
end
section
set_option linter.all false
set_option maxRecDepth 100000
set_option maxHeartbeats 4000000
/-! MT5: drawn documents. -/
namespace MG
open PySem L2 MR
def spDoc : ASp := fun ds P => ∃ (n w : Int), ds = [.int n, .int w] ∧ 0 ≤ w ∧ w ≤ 100000 ∧ ∀ bs, Bx.drawn w 3 bs → P (.dat (Bx.doc bs))
abbrev cDoc : Sp := LiftI tpT fun _ => spDoc
section
variable {V : Vol} {δ : List Slot} {K : PySem.W.Frag} {l : Addr} {xs : List Int}
theorem xe_boxes {n : Nat} {j : Nat} {m w : Int} {tm tw : TE} {d : Nat} {P : AV → Prop} (T : TapeV V l xs) (e : δ[j]? = some .tape) (hm : ∀ Q : AV → Prop, (∀ a, a.d = .int m → a.ok → Q a) → XE V tm δ Q) (hw : ∀ Q : AV → Prop, (∀ a, a.d = .int w → a.ok → Q a) → XE V tw δ Q)
    (hd : d ≤ n) (hd10 : d ≤ 10) (h0 : 0 ≤ w) (h1 : w ≤ 100000) (h : ∀ bs, Bx.drawn w d bs → P (.dat (Bx.doc bs))) :
    XE V (tCall (LiftI tpB (spBoxesD n)) [] E0 (tCons (tVar j) (tCons (tLst (tCons tm tNil)) (tCons (tC (.int d)) (tCons tw tNil))))) δ P := fun O0 H0 O σ H m0 Q q => by
  have hs : σ[j]? = some (some (.ref V.t)) := m0.slot j _ e
  refine ⟨_, hs, hm _ (fun a ea ka => ?_) O0 H0 O σ H m0 _ fun a v H1 g1 r1 (p : a.d = .int m ∧ a.ok) => ?_⟩
  · exact ⟨ea, ka⟩
  have ev : v = .int m := repV r1 p.1
  subst ev
  have m1 := m0.mono g1
  refine ⟨by show 1 ≤ sizeLine; decide, fun p hp => ?_⟩
  have g2 : Go V H1 (upd H1 p (.lst [.int m])) := .new m1.ti hp
  have m2 := m1.mono g2
  refine hw _ (fun a ea ka => ⟨ea, ka⟩) O0 H0 O σ _ m2 _ fun a2 v2 H2 g3 r2 (p2 : a2.d = .int w ∧ a2.ok) => ?_
  have ev : v2 = .int w := repV r2 p2.1
  subst ev
  have m3 := m2.mono g3
  have nT : ¬ V.T p := fun z => by
    obtain ⟨o, e, _⟩ := V.nt H1 p m1.ti z
    rw [hp] at e; cases e
  have hp2 : H2 p = some (.lst [.int m]) := g3.1 p _ nT upd_same
  have aliveF : ∀ b, V.F b → b ≠ p := fun b fb z => by
    obtain ⟨o, e, _⟩ := m1.al b (m1.sub b (m1.vf b fb))
    rw [z, hp] at e; cases e
  refine ⟨p, V.add p, fun b => O b ∨ b = p, [.ref p, .int d, .int w], [.raw (.ref p), .int d, .int w], fun a => ∃ bs, Bx.drawn w d bs ∧ a = .dat (Bx.doc bs), ⟨V, l, xs, rfl, T, fun z => aliveF _ (V.sub _ T.tT) z.symm, fun z => aliveF _ T.lF z.symm, fun z => aliveF _ z rfl⟩, rfl, Vol.add_I.mpr ⟨m3.ti, m, hp2⟩, fun b hb => (Vol.add_F.mp hb).elim (fun z => .inl (m3.sub b (m3.vf b z))) .inr,
    fun b hb => hb.elim (fun z => m3.al b z) fun z => ⟨.lst [.int m], z ▸ hp2, fun xs z => by cases z⟩, RpL.cons (by unfold Rp; rfl) (RpL.cons rp_int (RpL.cons rp_int RpL.nil)), ⟨d, w, hd, rfl, hd10, h0, h1, fun bs hb => ⟨bs, hb, rfl⟩⟩, fun a v H' g r ⟨bs, hb, ea⟩ => ?_⟩
  subst ea
  have g4 : Go V H1 H' := ⟨fun b o nb eb => by
    have hb : b ≠ p := fun z => by rw [z, hp] at eb; cases eb
    exact g.1 b o (fun z => (Vol.add_T.mp z).elim nb hb) ((g2.trans g3).1 b o nb eb), (Vol.add_I.mp g.2).1⟩
  exact q (.dat (Bx.doc bs)) v H' (g1.trans g4) (Rp.to (fun b xs e => e) (fun b xs nb e => ⟨fun z => nb (.inl z), e⟩) _ _ r) (h bs hb)
theorem xs_doc (T : TapeV V l xs) {n w : Int} (h0 : 0 ≤ w) (h1 : w ≤ 100000) {P : AV → Prop} (hP : ∀ bs, Bx.drawn w 3 bs → P (.dat (Bx.doc bs))) :
    XS V (ts__law_document K (LiftI tpB (spBoxesD 3))) [.tape, .dat (.int n), .dat (.int w)] { nx := fun _ => P (.dat .non), rt := P } := by
  unfold ts__law_document
  exact xs_ret (xe_boxes (d := 3) (m := n) (w := w) T rfl (fun Q q => xe_vard rfl (q _ rfl trivial)) (fun Q q => xe_vard rfl (q _ rfl trivial)) (by decide) (by decide) h0 h1 fun bs hb => ⟨trivial, hP bs hb⟩)
end
end MG
end
section
set_option linter.all false
set_option maxRecDepth 100000
set_option maxHeartbeats 4000000
/-! MS1: max and min of several arguments; sum of a tuple. -/
namespace PySem
open Sem (wp)
section
variable {prog : Program} {w : World} {A : Around} {E : Value → Shared → Prop} {s : Shared}
theorem F.args_maxN (a b : Value) (r : List Value) : argsOk "max" ⟨a :: b :: r, []⟩ := by unfold argsOk; kernel_rfl
theorem F.args_minN (a b : Value) (r : List Value) : argsOk "min" ⟨a :: b :: r, []⟩ := by unfold argsOk; kernel_rfl
theorem call_max_many {a b : Value} {r : List Value} {Q : Value → Shared → Prop} (hz : (a :: b :: r).length ≤ sizeLine)
    (h : wpAny (model prog w) A.in1 (pyIter (.ref s.heap.objs.size)) (fun it s₂ => ∃ I fp wr n P St bt, it = .ref I ∧ Walks prog w A.in1 I fp wr n P St ∧ St 0 s₂.heap ∧ (∀ b ∈ fp, b < s₂.heap.objs.size) ∧ 0 < n ∧ CmpOf prog w A.in1 .Gt P bt ∧
      ∀ v h' tk, P (argBest bt (n - 1)) v → (∀ b o, b ∉ wr → s₂.heap.get? b = some o → h'.get? b = some o) → Q v { s₂ with heap := h', toks := tk }) E
      { s with heap := s.heap.push { cls := .type "tuple", data := .seq (a :: b :: r).toArray } }) :
    wpAny (model prog w) A (call (.builtin "max") (a :: b :: r)) Q E s := by
  have hname : (toString "max" ++ toString ".loop" : String) = "max.loop" := by decide
  refine call_function_tree F.kind_max F.plain_max F.entry_max (F.args_maxN _ _ _) ?_
  show wpAny _ A.in1 (Builtin.Builtins.bindParams "max" ["key", "default"] 0 ⟨[], []⟩ >>= _) _ _ s
  refine wpAny_bind (wpAny_of_eq (show Builtin.Builtins.bindParams "max" ["key", "default"] 0 ⟨[], []⟩ = pure [none, none] from rfl) ?_)
  show wpAny _ A.in1 (newTuple (a :: b :: r) >>= _) _ _ s
  refine wpAny_bind (wpAny_newObj_type ?_ (by show (a :: b :: r).toArray.size ≤ sizeLine; rw [List.size_toArray]; exact hz))
  refine wpAny_bind (wpAny_mono h (fun it s₂ h₂ => ?_) fun _ _ e => e)
  obtain ⟨I, fp, wr, n, P, St, bt, rfl, W, hst, hfp, hn, hcmp, hQ⟩ := h₂
  refine wpAny_bind (wpAny_newObj_type ?_)
  have hSf : s₂.heap.objs.size ∉ fp := fun hm => Nat.lt_irrefl _ (hfp _ hm)
  rw [hname]
  refine wpAny_pure ⟨plainId_quiet F.plain_max_loop _, codeAny_max_loop_first W bt hcmp s₂.heap.objs.size hSf hn (W.frame _ _ _ hst fun b _ o e => Heap.get?_push_of_some _ e) (Heap.get?_push_size _ rfl) fun v h' tk hP hk => ?_⟩
  exact hQ v h' tk hP fun b o hbw e => hk b o hbw (Nat.ne_of_lt (Heap.lt_size e)) (Heap.get?_push_of_some _ e)
theorem call_min_many {a b : Value} {r : List Value} {Q : Value → Shared → Prop} (hz : (a :: b :: r).length ≤ sizeLine)
    (h : wpAny (model prog w) A.in1 (pyIter (.ref s.heap.objs.size)) (fun it s₂ => ∃ I fp wr n P St bt, it = .ref I ∧ Walks prog w A.in1 I fp wr n P St ∧ St 0 s₂.heap ∧ (∀ b ∈ fp, b < s₂.heap.objs.size) ∧ 0 < n ∧ CmpOf prog w A.in1 .Lt P bt ∧
      ∀ v h' tk, P (argBest bt (n - 1)) v → (∀ b o, b ∉ wr → s₂.heap.get? b = some o → h'.get? b = some o) → Q v { s₂ with heap := h', toks := tk }) E
      { s with heap := s.heap.push { cls := .type "tuple", data := .seq (a :: b :: r).toArray } }) :
    wpAny (model prog w) A (call (.builtin "min") (a :: b :: r)) Q E s := by
  have hname : (toString "min" ++ toString ".loop" : String) = "min.loop" := by decide
  refine call_function_tree F.kind_min F.plain_min F.entry_min (F.args_minN _ _ _) ?_
  show wpAny _ A.in1 (Builtin.Builtins.bindParams "min" ["key", "default"] 0 ⟨[], []⟩ >>= _) _ _ s
  refine wpAny_bind (wpAny_of_eq (show Builtin.Builtins.bindParams "min" ["key", "default"] 0 ⟨[], []⟩ = pure [none, none] from rfl) ?_)
  show wpAny _ A.in1 (newTuple (a :: b :: r) >>= _) _ _ s
  refine wpAny_bind (wpAny_newObj_type ?_ (by show (a :: b :: r).toArray.size ≤ sizeLine; rw [List.size_toArray]; exact hz))
  refine wpAny_bind (wpAny_mono h (fun it s₂ h₂ => ?_) fun _ _ e => e)
  obtain ⟨I, fp, wr, n, P, St, bt, rfl, W, hst, hfp, hn, hcmp, hQ⟩ := h₂
  refine wpAny_bind (wpAny_newObj_type ?_)
  have hSf : s₂.heap.objs.size ∉ fp := fun hm => Nat.lt_irrefl _ (hfp _ hm)
  rw [hname]
  refine wpAny_pure ⟨plainId_quiet F.plain_min_loop _, codeAny_min_loop_first W bt hcmp s₂.heap.objs.size hSf hn (W.frame _ _ _ hst fun b _ o e => Heap.get?_push_of_some _ e) (Heap.get?_push_size _ rfl) fun v h' tk hP hk => ?_⟩
  exact hQ v h' tk hP fun b o hbw e => hk b o hbw (Nat.ne_of_lt (Heap.lt_size e)) (Heap.get?_push_of_some _ e)
end
end PySem
end
section
set_option linter.all false
set_option maxRecDepth 100000
set_option maxHeartbeats 4000000
/-! MS2: their rules. -/
namespace L2
open PySem PySem.Spec PyProof.Rows
section
variable {prog : Program} {w : World} {A : Around} {E : Value → Shared → Prop} {s : Shared} {Q : Value → Shared → Prop}
theorem max_args {us : List Value} {ns : List Int} (hh : A.handled = none) (hi : IntsAre us ns) (h2 : 2 ≤ us.length) (hl : us.length = ns.length) (hz : us.length ≤ sizeLine)
    (h : ∀ h' tk M t', (∀ b o, s.heap.get? b = some o → h'.get? b = some o) → M ∈ ns → (∀ a, a ∈ ns → a ≤ M) → Q (.int M t') { s with heap := h', toks := tk }) : wpAny (model prog w) A (call (.builtin "max") us) Q E s := by
  obtain ⟨xs, e⟩ := hi.allInts.items
  have hn : numsOf (intItems xs).toList = ns := by rw [← e]; exact hi.numsOf
  rw [nums_intItems] at hn
  subst hn
  have hxs : xs.size = us.length := by have := congrArg Array.size e; simp [intItems] at this; omega
  match us, h2, e, hz, hxs with
  | a :: b :: r, _, e, hz, hxs =>
    have hT : (s.heap.push { cls := .type "tuple", data := .seq (a :: b :: r).toArray }).IsTuple s.heap.objs.size (intItems xs) := ⟨_, Heap.get?_push_size _ rfl, rfl, 0, by rw [e]⟩
    refine call_max_many hz (wpAny_pyIter_tuple hT ?_)
    have hsz : (s.heap.push { cls := .type "tuple", data := .seq (a :: b :: r).toArray }).objs.size = s.heap.objs.size + 1 := Heap.size_push ..
    refine ⟨_, [_, s.heap.objs.size], [_], _, _, _, _, rfl, Walks.tuple (A := A.in1) hh _ s.heap.objs.size (by rw [hsz]; exact Nat.ne_of_lt (Nat.lt_succ_self _)) (intItems xs),
      ⟨⟨_, Heap.get?_push_size _ rfl, rfl, rfl⟩, hT.push _⟩, fun d hd => ?_, by simp [intItems, hxs], CmpOf.ints_gt (numAt xs) (fun _ _ => intItems_at), fun v h' tk hP hk => ?_⟩
    · show d < ((s.heap.push _).push _).objs.size
      rw [Heap.size_push, hsz]
      rcases List.mem_cons.mp hd with rfl | hd
      · rw [hsz]; exact Nat.lt_succ_self _
      · rcases List.mem_cons.mp hd with rfl | hd
        · exact Nat.lt_succ_of_lt (Nat.lt_succ_self _)
        · cases hd
    · have hold : ∀ d o, s.heap.get? d = some o → h'.get? d = some o := fun d o e => by
        refine hk d o (fun hm => ?_) (Heap.get?_push_of_some _ (Heap.get?_push_of_some _ e))
        rcases List.mem_cons.mp hm with e1 | hm
        · have := Heap.lt_size e; rw [e1, hsz] at this; exact Nat.lt_irrefl _ (Nat.lt_of_succ_lt this)
        · cases hm
      obtain ⟨t, rfl⟩ := intItems_at hP
      have hs1 : (intItems xs).size = xs.size := by simp [intItems]
      rw [hs1]
      obtain ⟨h1, h2⟩ := argBest_gt (numAt xs) (xs.size - 1)
      refine h h' tk _ t hold ?_ fun a ha => ?_
      · rw [numAt_eq]; exact PySem.getD_mem (by rw [List.length_map, Array.length_toList]; simp at hxs; omega)
      · obtain ⟨j, hj, rfl⟩ := mem_getD ha
        rw [List.length_map, Array.length_toList] at hj
        rw [← numAt_eq]; exact h2 j (by omega)
theorem min_args {us : List Value} {ns : List Int} (hh : A.handled = none) (hi : IntsAre us ns) (h2 : 2 ≤ us.length) (hl : us.length = ns.length) (hz : us.length ≤ sizeLine)
    (h : ∀ h' tk M t', (∀ b o, s.heap.get? b = some o → h'.get? b = some o) → M ∈ ns → (∀ a, a ∈ ns → M ≤ a) → Q (.int M t') { s with heap := h', toks := tk }) : wpAny (model prog w) A (call (.builtin "min") us) Q E s := by
  obtain ⟨xs, e⟩ := hi.allInts.items
  have hn : numsOf (intItems xs).toList = ns := by rw [← e]; exact hi.numsOf
  rw [nums_intItems] at hn
  subst hn
  have hxs : xs.size = us.length := by have := congrArg Array.size e; simp [intItems] at this; omega
  match us, h2, e, hz, hxs with
  | a :: b :: r, _, e, hz, hxs =>
    have hT : (s.heap.push { cls := .type "tuple", data := .seq (a :: b :: r).toArray }).IsTuple s.heap.objs.size (intItems xs) := ⟨_, Heap.get?_push_size _ rfl, rfl, 0, by rw [e]⟩
    refine call_min_many hz (wpAny_pyIter_tuple hT ?_)
    have hsz : (s.heap.push { cls := .type "tuple", data := .seq (a :: b :: r).toArray }).objs.size = s.heap.objs.size + 1 := Heap.size_push ..
    refine ⟨_, [_, s.heap.objs.size], [_], _, _, _, _, rfl, Walks.tuple (A := A.in1) hh _ s.heap.objs.size (by rw [hsz]; exact Nat.ne_of_lt (Nat.lt_succ_self _)) (intItems xs),
      ⟨⟨_, Heap.get?_push_size _ rfl, rfl, rfl⟩, hT.push _⟩, fun d hd => ?_, by simp [intItems, hxs], CmpOf.ints_lt (numAt xs) (fun _ _ => intItems_at), fun v h' tk hP hk => ?_⟩
    · show d < ((s.heap.push _).push _).objs.size
      rw [Heap.size_push, hsz]
      rcases List.mem_cons.mp hd with rfl | hd
      · rw [hsz]; exact Nat.lt_succ_self _
      · rcases List.mem_cons.mp hd with rfl | hd
        · exact Nat.lt_succ_of_lt (Nat.lt_succ_self _)
        · cases hd
    · have hold : ∀ d o, s.heap.get? d = some o → h'.get? d = some o := fun d o e => by
        refine hk d o (fun hm => ?_) (Heap.get?_push_of_some _ (Heap.get?_push_of_some _ e))
        rcases List.mem_cons.mp hm with e1 | hm
        · have := Heap.lt_size e; rw [e1, hsz] at this; exact Nat.lt_irrefl _ (Nat.lt_of_succ_lt this)
        · cases hm
      obtain ⟨t, rfl⟩ := intItems_at hP
      have hs1 : (intItems xs).size = xs.size := by simp [intItems]
      rw [hs1]
      obtain ⟨h1, h2⟩ := argBest_lt (numAt xs) (xs.size - 1)
      refine h h' tk _ t hold ?_ fun a ha => ?_
      · rw [numAt_eq]; exact PySem.getD_mem (by rw [List.length_map, Array.length_toList]; simp at hxs; omega)
      · obtain ⟨j, hj, rfl⟩ := mem_getD ha
        rw [List.length_map, Array.length_toList] at hj
        rw [← numAt_eq]; exact h2 j (by omega)
theorem sum_tup {l : Addr} {its : List Value} {ns : List Int} (hh : A.handled = none) (hl : s.heap.IsTuple l its.toArray) (hi : IntsAre its ns)
    (h : ∀ h' tk t', (∀ b o, s.heap.get? b = some o → h'.get? b = some o) → Q (.int ns.sum t') { s with heap := h', toks := tk }) : wpAny (model prog w) A (call (.builtin "sum") [.ref l]) Q E s := by
  obtain ⟨xs, e⟩ := hi.allInts.items
  have hn : numsOf (intItems xs).toList = ns := by rw [← e]; exact hi.numsOf
  rw [nums_intItems] at hn
  rw [e] at hl
  have hlt : l < s.heap.objs.size := by obtain ⟨o, ho, _⟩ := hl; exact Heap.lt_size ho
  have hsz : (s.heap.push { cls := .type "tuple_iterator", data := .fields #[.ref l, .int 0 0] }).objs.size = s.heap.objs.size + 1 := Heap.size_push ..
  refine call_sum_walkG (wpAny_pyIter_tuple hl ?_)
  refine ⟨_, [_, l], [_], _, _, _, numAt xs, rfl, Walks.tuple (A := A.in1) hh _ l (Nat.ne_of_lt hlt) (intItems xs), ⟨⟨_, Heap.get?_push_size _ rfl, rfl, rfl⟩, hl.push _⟩, fun d hd => ?_, (fun _ _ => intItems_at), fun h' tk t' hk => ?_⟩
  · show d < (s.heap.push _).objs.size
    rw [hsz]
    rcases List.mem_cons.mp hd with rfl | hd
    · exact Nat.lt_succ_self _
    · rcases List.mem_cons.mp hd with rfl | hd
      · exact Nat.lt_succ_of_lt hlt
      · cases hd
  · have := h h' tk t' fun d o e => hk d o (fun hm => by
      rcases List.mem_cons.mp hm with e1 | hm
      · have := Heap.lt_size e; rw [e1] at this; exact Nat.lt_irrefl _ this
      · cases hm) (Heap.get?_push_of_some _ e)
    have hs1 : (intItems xs).size = xs.size := by simp [intItems]
    rw [hs1, preSum_eq, List.take_of_length_le (by simp), hn]; exact this
end
section
variable {X : Cx}
def rMmax : List V → Hp → VK → Prop := fun vs H Q => ∃ ns : List Int, vs = ns.map V.int ∧ 2 ≤ ns.length ∧ ns.length ≤ sizeLine ∧ ∀ m, m ∈ ns → (∀ y, y ∈ ns → y ≤ m) → Q (.int m) H
theorem cr_Mmax (hc : X.calm = true) : CallR X (.builtin "max") rMmax := by
  intro pins s σ H vs us Q I r h
  obtain ⟨ns, rfl, h2, hz, q⟩ := h
  have hl := r.length
  rw [List.length_map] at hl
  exact max_args (I.ok.hd hc) r.ints (by omega) hl.symm (by omega) fun h' tk M t' hk hm hall => ⟨.int M, H, I.kept hk, ⟨_, rfl⟩, q M hm hall⟩
def rMmin : List V → Hp → VK → Prop := fun vs H Q => ∃ ns : List Int, vs = ns.map V.int ∧ 2 ≤ ns.length ∧ ns.length ≤ sizeLine ∧ ∀ m, m ∈ ns → (∀ y, y ∈ ns → m ≤ y) → Q (.int m) H
theorem cr_Mmin (hc : X.calm = true) : CallR X (.builtin "min") rMmin := by
  intro pins s σ H vs us Q I r h
  obtain ⟨ns, rfl, h2, hz, q⟩ := h
  have hl := r.length
  rw [List.length_map] at hl
  exact min_args (I.ok.hd hc) r.ints (by omega) hl.symm (by omega) fun h' tk M t' hk hm hall => ⟨.int M, H, I.kept hk, ⟨_, rfl⟩, q M hm hall⟩
def rSumT (K : PySem.W.Frag) : List V → Hp → VK → Prop := fun vs H Q => ∃ (a : Addr) (ns : List Int), vs = [V.ref a] ∧ SqT K H a (ns.map V.int) ∧ Q (.int ns.sum) H
theorem cr_sumT (hc : X.calm = true) : CallR X (.builtin "sum") (rSumT X.K) := by
  intro pins s σ H vs us Q I r h
  obtain ⟨a, ns, rfl, hs, q⟩ := h
  obtain ⟨its, rv, hl, _⟩ := I.tuple hs
  rw [Vals.ref1 r]
  exact sum_tup (I.ok.hd hc) hl rv.ints fun h' tk t' hk => ⟨.int _, H, I.kept hk, ⟨_, rfl⟩, q⟩
end
end L2
end
section
set_option linter.all false
set_option maxRecDepth 100000
set_option maxHeartbeats 4000000
/-! MS3: a builtin called with star arguments; what these read. -/
namespace L2
open PySem PySem.Spec
section
variable {X : Cx} {e : Expr} {es : List Expr} {t : TA} {p pos : Pos} {x : Str}
theorem pe_callBS {id : String} {r : List V → Hp → VK → Prop} (hc : CallR X (.builtin id) r) (hg : Gl X x) (hm : X.mg x = none) (hv : bootBuiltins x = some (.builtin id)) (ha : PA X (e :: es) t) (hn : x ≠ "__name__" := by decide) (hdb : (x == ("__debug__" : Str)) = false := by decide)
    (he : starEach (e :: es) X.env = (false, eval e X.env) :: starEach es X.env := by rfl) (hst : (backTo pos (starEach es X.env)).any (·.1) = true := by rfl) : PE X (.Call (.Name x p) (e :: es) [] pos) (tCB r t) := by
  refine ⟨fun pins s σ H Q I h => ?_⟩
  refine wpAny_Call_Name_kw (ld_blt I hg hm hv ?_ hn hdb)
  have h1 := thn (ha.run pos pins s σ H _ I h) fun us s1 ⟨vs, H1, I1, r1, q1⟩ => (show True ∧ wpAny (model X.prog X.w) X.A (call (.builtin id) ([] ++ us)) (EP X pins σ Q) X.xe s1 from ⟨trivial, hc pins s1 σ H1 vs us Q I1 r1 q1⟩)
  rw [he] at h1 ⊢
  exact PySem.W.ks_call (P := fun _ => True) (by show (false || (backTo pos (starEach es X.env)).any (·.1)) = true; rw [hst]; rfl) (fun h _ => ⟨.machine, .inr (.inl rfl), fun A E s Q _ q => wpAny_pure q⟩) (Calls.evalArgs_plain h1)
end
end L2
namespace MG
open PySem L2
section
variable {V : Vol} {δ : List Slot} {K : PySem.W.Frag}
theorem rpl_int_eq {O : AS} {H : Hp} : ∀ {ns : List Int} {vs : List L2.V}, RpL O H (dInts ns) vs → vs = ns.map L2.V.int
  | [], vs, h => by unfold dInts at h; simp only [List.map_nil] at h; unfold RpL at h; exact h
  | n :: ns, vs, h => by
    unfold dInts at h
    simp only [List.map_cons] at h
    unfold RpL at h
    obtain ⟨v, r, e, h1, h2⟩ := h
    unfold Rp at h1
    subst h1 e
    rw [List.map_cons, rpl_int_eq h2]
theorem xe_Mmax {ta : TA} {P : AV → Prop} (h : XD V ta δ fun ds => ∃ ns, ds = dInts ns ∧ 2 ≤ ns.length ∧ ns.length ≤ sizeLine ∧ ∀ m, m ∈ ns → (∀ y ∈ ns, y ≤ m) → P (.dat (.int m))) : XE V (tCB rMmax ta) δ P := fun O0 H0 O σ H m Q q =>
  h O0 H0 O σ H m _ fun ds vs H1 g1 r1 ⟨ns, ed, h2, hz, hp⟩ => by
    subst ed
    exact ⟨ns, rpl_int_eq r1, h2, hz, fun k hk hall => q (.dat (.int k)) _ H1 g1 (show Rp O H1 (.int k) _ from rp_int) (hp k hk hall)⟩
theorem xe_Mmin {ta : TA} {P : AV → Prop} (h : XD V ta δ fun ds => ∃ ns, ds = dInts ns ∧ 2 ≤ ns.length ∧ ns.length ≤ sizeLine ∧ ∀ m, m ∈ ns → (∀ y ∈ ns, m ≤ y) → P (.dat (.int m))) : XE V (tCB rMmin ta) δ P := fun O0 H0 O σ H m Q q =>
  h O0 H0 O σ H m _ fun ds vs H1 g1 r1 ⟨ns, ed, h2, hz, hp⟩ => by
    subst ed
    exact ⟨ns, rpl_int_eq r1, h2, hz, fun k hk hall => q (.dat (.int k)) _ H1 g1 (show Rp O H1 (.int k) _ from rp_int) (hp k hk hall)⟩
theorem xe_sumT {ta : TA} {P : AV → Prop} (h : XD V ta δ fun ds => ∃ ns, ds = [.tup (dInts ns)] ∧ P (.dat (.int ns.sum))) : XE V (tCB (rSumT K) ta) δ P := fun O0 H0 O σ H m Q q =>
  h O0 H0 O σ H m _ fun ds vs H1 g1 r1 ⟨ns, ed, hp⟩ => by
    subst ed
    unfold RpL at r1
    obtain ⟨v, r, e, h1, h2⟩ := r1
    have h2 : r = [] := by unfold RpL at h2; exact h2
    unfold Rp at h1
    obtain ⟨a, us, ev, ha, hu⟩ := h1
    subst e h2 ev
    rw [rpl_int_eq hu] at ha
    exact ⟨a, ns, rfl, SqT.of ha, q (.dat (.int ns.sum)) _ H1 g1 (show Rp O H1 (.int ns.sum) _ from rp_int) hp⟩
end
end MG
end
section
set_option linter.all false
set_option maxRecDepth 100000
set_option maxHeartbeats 4000000
/-! MA1: equality of data, rules in forms that a tactic can run. -/
namespace MG
open PySem L2 MR
/-! ### equality -/
def deq (a b : D) : Bool := PyData.eqv a.py b.py
mutual
/-- no bool, nothing raw within; texts that can be laid; so deep at most -/
def D.nb : Nat → D → Bool
  | _, .non => true
  | _, .bl _ => false
  | _, .int _ => true
  | _, .str s => PyData.strOk s
  | 0, .tup _ => false
  | 0, .lst _ => false
  | n + 1, .tup xs => D.nbs n xs
  | n + 1, .lst xs => D.nbs n xs
  | _, .raw _ => false
def D.nbs : Nat → List D → Bool
  | _, [] => true
  | n, x :: xs => x.nb n && D.nbs n xs
end
theorem D.nbs_iff {n : Nat} : ∀ {xs : List D}, D.nbs n xs = true ↔ ∀ x ∈ xs, x.nb n = true
  | [] => by simp [D.nbs]
  | x :: xs => by
    unfold D.nbs
    rw [Bool.and_eq_true, D.nbs_iff (xs := xs)]
    simp
mutual
theorem D.nb_raw : ∀ (n : Nat) (d : D), d.nb n = true → d.noRaw = true
  | _, .non, _ => rfl
  | _, .int _, _ => rfl
  | _, .str _, _ => rfl
  | n + 1, .tup xs, h => by unfold D.nb at h; unfold D.noRaw; exact D.nbs_raw n xs h
  | n + 1, .lst xs, h => by unfold D.nb at h; unfold D.noRaw; exact D.nbs_raw n xs h
  | 0, .tup xs, h => by unfold D.nb at h; cases h
  | 0, .lst xs, h => by unfold D.nb at h; cases h
  | n, .bl _, h => by unfold D.nb at h; cases n <;> cases h
  | n, .raw _, h => by unfold D.nb at h; cases n <;> cases h
theorem D.nbs_raw : ∀ (n : Nat) (d : List D), D.nbs n d = true → D.noRaws d = true
  | _, [], _ => rfl
  | n, x :: xs, h => by
    unfold D.nbs at h
    rw [Bool.and_eq_true] at h
    unfold D.noRaws
    rw [D.nb_raw n x h.1, D.nbs_raw n xs h.2]; rfl
end
mutual
theorem D.nb_lay : ∀ (n : Nat) (d : D), d.nb n = true → d.py.canLay0 = true ∧ d.py.depth ≤ n + 1
  | _, .non, _ => ⟨by unfold D.py; simp [PyData.canLay0], by unfold D.py; simp [PyData.depth]⟩
  | _, .int _, _ => ⟨by unfold D.py; simp [PyData.canLay0], by unfold D.py; simp [PyData.depth]⟩
  | n, .str s, h => ⟨by unfold D.py; have h : PyData.strOk s = true := (by cases n <;> exact h); simp [PyData.canLay0, h], by unfold D.py; simp [PyData.depth]⟩
  | n + 1, .tup xs, h => by
    unfold D.nb at h
    obtain ⟨h1, h2⟩ := D.nbs_lay n xs h
    unfold D.py
    exact ⟨by unfold PyData.canLay0; exact h1, by simp only [PyData.depth]; omega⟩
  | n + 1, .lst xs, h => by
    unfold D.nb at h
    obtain ⟨h1, h2⟩ := D.nbs_lay n xs h
    unfold D.py
    exact ⟨by unfold PyData.canLay0; exact h1, by simp only [PyData.depth]; omega⟩
  | 0, .tup xs, h => by unfold D.nb at h; cases h
  | 0, .lst xs, h => by unfold D.nb at h; cases h
  | n, .bl _, h => by unfold D.nb at h; cases n <;> cases h
  | n, .raw _, h => by unfold D.nb at h; cases n <;> cases h
theorem D.nbs_lay : ∀ (n : Nat) (d : List D), D.nbs n d = true → PyData.canLayAll0 (D.pys d) = true ∧ PyData.depthAll (D.pys d) ≤ n + 1
  | _, [], _ => ⟨by unfold D.pys; simp [PyData.canLayAll0], by unfold D.pys; simp [PyData.depthAll]⟩
  | n, x :: xs, h => by
    unfold D.nbs at h
    rw [Bool.and_eq_true] at h
    obtain ⟨a1, a2⟩ := D.nb_lay n x h.1
    obtain ⟨b1, b2⟩ := D.nbs_lay n xs h.2
    unfold D.pys
    refine ⟨by unfold PyData.canLayAll0; rw [a1, b1]; rfl, ?_⟩
    simp only [PyData.depthAll]
    omega
end
theorem D.nb_good {n : Nat} {d : D} (hn : n ≤ 40) (h : d.nb n = true) : d.lay := by
  obtain ⟨a, b⟩ := D.nb_lay n d h
  refine ⟨D.nb_raw n d h, ?_⟩
  unfold SeqAt.shaped
  rw [a, decide_eq_true (show d.py.depth ≤ 64 by omega)]; rfl
mutual
theorem D.eqv_iff : ∀ (n : Nat) (a b : D), a.nb n = true → b.nb n = true → (PyData.eqv a.py b.py = true ↔ a = b)
  | n, .non, b, _, hb => by cases b <;> first | (simp [D.py, PyData.eqv]; done) | (cases n <;> simp [D.nb] at hb)
  | n, .int i, b, _, hb => by cases b <;> first | (simp [D.py, PyData.eqv]; done) | (cases n <;> simp [D.nb] at hb)
  | n, .str i, b, _, hb => by cases b <;> first | (simp [D.py, PyData.eqv]; done) | (cases n <;> simp [D.nb] at hb)
  | n + 1, .tup xs, b, ha, hb => by
    cases b with
    | tup ys =>
      unfold D.nb at ha hb
      have k := D.eqvs_iff n xs ys ha hb
      unfold D.py PyData.eqv
      rw [k]
      exact ⟨fun e => by rw [e], fun e => by injection e⟩
    | raw v => simp [D.nb] at hb
    | bl v => simp [D.nb] at hb
    | _ => simp [D.py, PyData.eqv]
  | n + 1, .lst xs, b, ha, hb => by
    cases b with
    | lst ys =>
      unfold D.nb at ha hb
      have k := D.eqvs_iff n xs ys ha hb
      unfold D.py PyData.eqv
      rw [k]
      exact ⟨fun e => by rw [e], fun e => by injection e⟩
    | raw v => simp [D.nb] at hb
    | bl v => simp [D.nb] at hb
    | _ => simp [D.py, PyData.eqv]
  | 0, .tup xs, b, h, _ => by unfold D.nb at h; cases h
  | 0, .lst xs, b, h, _ => by unfold D.nb at h; cases h
  | n, .bl _, b, h, _ => by unfold D.nb at h; cases n <;> cases h
  | n, .raw _, b, h, _ => by unfold D.nb at h; cases n <;> cases h
theorem D.eqvs_iff : ∀ (n : Nat) (a b : List D), D.nbs n a = true → D.nbs n b = true → (PyData.eqvAll (D.pys a) (D.pys b) = true ↔ a = b)
  | _, [], [], _, _ => by simp [D.pys, PyData.eqvAll]
  | _, [], _ :: _, _, _ => by simp [D.pys, PyData.eqvAll]
  | _, _ :: _, [], _, _ => by simp [D.pys, PyData.eqvAll]
  | n, x :: xs, y :: ys, ha, hb => by
    unfold D.nbs at ha hb
    rw [Bool.and_eq_true] at ha hb
    unfold D.pys PyData.eqvAll
    rw [Bool.and_eq_true, D.eqv_iff n x y ha.1 hb.1, D.eqvs_iff n xs ys ha.2 hb.2]
    simp
end
theorem lay_str {s : Str} (h : PyData.strOk s = true) : (D.str s).lay := D.nb_good (n := 0) (by decide) (by unfold D.nb; exact h)
/-- what a test of equality asks -/
def EqK (x y : D) (P : Bool → Prop) : Prop := x.lay ∧ y.lay ∧ P (deq x y)
theorem eqk_int {i j : Int} {P : Bool → Prop} (h : P (decide (i = j))) : EqK (.int i) (.int j) P := ⟨lay_int i, lay_int j, by
  have e : deq (.int i) (.int j) = decide (i = j) := by unfold deq D.py PyData.eqv; exact rfl
  rw [e]; exact h⟩
theorem eqk_bl {i j : Bool} {P : Bool → Prop} (h : P (decide (i = j))) : EqK (.bl i) (.bl j) P := ⟨lay_bl i, lay_bl j, by
  have e : deq (.bl i) (.bl j) = decide (i = j) := by cases i <;> cases j <;> rfl
  rw [e]; exact h⟩
theorem eqk_str {i j : Str} {P : Bool → Prop} (hi : PyData.strOk i = true) (hj : PyData.strOk j = true) (h : P (decide (i = j))) : EqK (.str i) (.str j) P := ⟨lay_str hi, lay_str hj, by
  have e : deq (.str i) (.str j) = decide (i = j) := by
    have k := D.eqv_iff 0 (.str i) (.str j) (by unfold D.nb; exact hi) (by unfold D.nb; exact hj)
    unfold deq
    by_cases q : i = j
    · rw [k.mpr (by rw [q]), decide_eq_true q]
    · rw [decide_eq_false q]
      cases z : PyData.eqv (D.str i).py (D.str j).py with
      | false => rfl
      | true => exact absurd (by simpa using k.mp z) q
  rw [e]; exact h⟩
theorem eqk_nb {x y : D} {P : Bool → Prop} (n : Nat) (hx : x.nb n = true) (hy : y.nb n = true) (h : ∀ b, (b = true ↔ x = y) → P b) (hn : n ≤ 40 := by decide) : EqK x y P :=
  ⟨D.nb_good hn hx, D.nb_good hn hy, h _ (D.eqv_iff n x y hx hy)⟩
theorem eqk_same {x y : D} {P : Bool → Prop} (n : Nat) (hx : x.nb n = true) (e : x = y) (h : P true) (hn : n ≤ 40 := by decide) : EqK x y P := by
  subst e
  exact eqk_nb n hx hx (fun b hb => by rw [hb.mpr rfl]; exact h) hn
section
variable {V : Vol} {δ : List Slot} {K : PySem.W.Frag} {O0 O : AS} {H0 H H' H1 H2 : Hp} {σ : St}
theorem xe_eqK {ta tb : TE} {P : AV → Prop} (h : XE V ta δ fun a => XE V tb δ fun b => EqK a.d b.d fun r => P (.dat (.bl r))) : XE V (tOp (rEqD K) ta tb) δ P := xe_eqD h
theorem xe_neK {ta tb : TE} {P : AV → Prop} (h : XE V ta δ fun a => XE V tb δ fun b => EqK a.d b.d fun r => P (.dat (.bl (!r)))) : XE V (tOp (rNeD K) ta tb) δ P := xe_neD h
/-! ### results of ifs -/
theorem ite_dec {p : Prop} [Decidable p] {A B : Prop} (ha : p → A) (hb : ¬ p → B) : if decide p = true then A else B := by
  by_cases h : p
  · rw [if_pos (decide_eq_true h)]; exact ha h
  · rw [if_neg (by rw [decide_eq_false h]; exact Bool.false_ne_true)]; exact hb h
theorem ite_ndec {p : Prop} [Decidable p] {A B : Prop} (ha : ¬ p → A) (hb : p → B) : if (!decide p) = true then A else B := by
  by_cases h : p
  · rw [decide_eq_true h, if_neg (by decide)]; exact hb h
  · rw [decide_eq_false h, if_pos (by decide)]; exact ha h
theorem ite_b {b : Bool} {A B : Prop} (ha : b = true → A) (hb : b = false → B) : if b = true then A else B := by
  cases b
  · rw [if_neg (by decide)]; exact hb rfl
  · rw [if_pos rfl]; exact ha rfl
theorem ite_nb {b : Bool} {A B : Prop} (ha : b = false → A) (hb : b = true → B) : if (!b) = true then A else B := by
  cases b
  · rw [if_pos (by decide)]; exact ha rfl
  · rw [if_neg (by decide)]; exact hb rfl
theorem ite_t {b : Bool} (e : b = true) {A B : Prop} (ha : A) : if b = true then A else B := by rw [if_pos e]; exact ha
theorem ite_f {b : Bool} (e : b = false) {A B : Prop} (hb : B) : if b = true then A else B := by rw [e, if_neg (by decide)]; exact hb
/-! ### a name that owns its list; where values are put -/
def gOwn (j : Nat) : TG := gName j
theorem xs_setO {te : TE} {j : Nat} {E : AEnds} (h : XE V te δ fun a => ∃ ds, a = .new ds ∧ E.nx (δ.set j (.own ds))) : XS V (tAsg te (gOwn j)) δ E := xs_setN h
def oB (_b : Bool) (j : Nat) : Nat := j
def StoB (b : Bool) (a : AV) (k : Slot → Prop) : Prop := ∃ s, (if b = true then ∃ ds, a = .new ds ∧ s = .own ds else a.ok ∧ s = .dat a.d) ∧ k s
theorem stob_t {ds : List D} {k : Slot → Prop} (h : k (.own ds)) : StoB true (.new ds) k := ⟨_, by rw [if_pos rfl]; exact ⟨ds, rfl, rfl⟩, h⟩
theorem stob_f {a : AV} {k : Slot → Prop} (ha : a.ok) (h : k (.dat a.d)) : StoB false a k := ⟨_, by rw [if_neg (by decide)]; exact ⟨ha, rfl⟩, h⟩
theorem stob_sto {b : Bool} {a : AV} {k : Slot → Prop} (h : StoB b a k) : ∃ s, Sto a s ∧ k s := by
  obtain ⟨s, h1, h2⟩ := h
  cases b
  · rw [if_neg (by decide)] at h1; exact ⟨s, .inl h1, h2⟩
  · rw [if_pos rfl] at h1; exact ⟨s, .inr h1, h2⟩
theorem xs_parJ {b1 b2 : Bool} {j k : Nat} {t1 t2 : TE} {E : AEnds} (hjk : j ≠ k) (hk : k < δ.length) (h : XE V t1 δ fun a => StoB b1 a fun s1 => XE V t2 δ fun b => StoB b2 b fun s2 => E.nx ((δ.set k s2).set j s1)) :
    XS V (tPar (oB b1 j) (oB b2 k) (tCons t1 (tCons t2 tNil))) δ E := xs_par2 hjk hk (h.imp fun a h1 => by
      obtain ⟨s, s1, s2⟩ := stob_sto h1
      exact ⟨s, s1, s2.imp fun b h2 => stob_sto h2⟩)
theorem xs_parJ3 {b1 b2 b3 : Bool} {j k l : Nat} {t1 t2 t3 : TE} {E : AEnds} (hjk : j ≠ k) (hjl : j ≠ l) (hkl : k ≠ l) (hk : k < δ.length) (hl : l < δ.length)
    (h : XE V t1 δ fun a => StoB b1 a fun s1 => XE V t2 δ fun b => StoB b2 b fun s2 => XE V t3 δ fun c => StoB b3 c fun s3 => E.nx (((δ.set l s3).set k s2).set j s1)) :
    XS V (tPar3 (oB b1 j) (oB b2 k) (oB b3 l) (tCons t1 (tCons t2 (tCons t3 tNil)))) δ E := xs_par3 hjk hjl hkl hk hl (h.imp fun a h1 => by
      obtain ⟨s, s1, s2⟩ := stob_sto h1
      refine ⟨s, s1, s2.imp fun b h2 => ?_⟩
      obtain ⟨s, s1, s2⟩ := stob_sto h2
      exact ⟨s, s1, s2.imp fun c h3 => stob_sto h3⟩)
/-! ### arguments -/
theorem allOk_nil : AllOk [] := fun _ h => by cases h
theorem allOk_cons {a : AV} {as : List AV} (h : a.ok) (r : AllOk as) : AllOk (a :: as) := fun b hb => by
  rcases List.mem_cons.mp hb with rfl | hb
  · exact h
  · exact r b hb
def ArgK (as : List AV) (sp : ASp) (P : AV → Prop) : Prop := AllOk as ∧ sp (as.map AV.d) fun a => a.ok ∧ P a
theorem argK {as : List AV} {sp : ASp} {P : AV → Prop} (h : AllOk as) (k : sp (as.map AV.d) fun a => a.ok ∧ P a) : ArgK as sp P := ⟨h, k⟩
theorem xe_callK {sp : ASp} {ta : TA} {P : AV → Prop} (h : XA V ta δ fun as => ArgK as sp P) : XE V (tCall (Lift sp) [] E0 ta) δ P := xe_call h
/-! ### one sequence asked -/
def SeqA (as : List AV) (k : List D → Prop) : Prop := ∃ a ds, as = [a] ∧ (a.d = .tup ds ∨ a.d = .lst ds) ∧ k ds
theorem seqa_t {ds : List D} {k : List D → Prop} (h : k ds) : SeqA [.dat (.tup ds)] k := ⟨_, ds, rfl, .inl rfl, h⟩
theorem seqa_l {ds : List D} {k : List D → Prop} (h : k ds) : SeqA [.dat (.lst ds)] k := ⟨_, ds, rfl, .inr rfl, h⟩
theorem seqa_n {ds : List D} {k : List D → Prop} (h : k ds) : SeqA [.new ds] k := ⟨_, ds, rfl, .inr rfl, h⟩
theorem seqa_b {ds : List D} {k : List D → Prop} (h : k ds) : SeqA [.brw ds] k := ⟨_, ds, rfl, .inr rfl, h⟩
theorem xe_lenK {ta : TA} {P : AV → Prop} (h : XA V ta δ fun as => SeqA as fun ds => P (.dat (.int ds.length))) : XE V (tCB (rLenQ K) ta) δ P := xe_len h
theorem xe_listK {ta : TA} {P : AV → Prop} (h : XA V ta δ fun as => SeqA as fun ds => P (.new ds)) : XE V (tCB (rListQ K) ta) δ P := xe_list h
theorem xe_tupleK {ta : TA} {P : AV → Prop} (h : XA V ta δ fun as => SeqA as fun ds => P (.dat (.tup ds))) : XE V (tCB (rTupQ K) ta) δ P := xe_tuple h
/-- ints in a list -/
def IntsA (as : List AV) (k : List Int → Prop) : Prop := ∃ (a : AV) (ns : List Int), as = [a] ∧ a.d = .lst (dInts ns) ∧ k ns
theorem xe_sumK {ta : TA} {P : AV → Prop} (h : XA V ta δ fun as => IntsA as fun ns => P (.dat (.int ns.sum))) : XE V (tCB (rSum K) ta) δ P := xe_sum h
theorem xe_maxK {ta : TA} {P : AV → Prop} (h : XA V ta δ fun as => IntsA as fun ns => 0 < ns.length ∧ ∀ m, m ∈ ns → (∀ y ∈ ns, y ≤ m) → P (.dat (.int m))) : XE V (tCB (rMax K) ta) δ P := xe_max h
theorem xe_minK {ta : TA} {P : AV → Prop} (h : XA V ta δ fun as => IntsA as fun ns => 0 < ns.length ∧ ∀ m, m ∈ ns → (∀ y ∈ ns, m ≤ y) → P (.dat (.int m))) : XE V (tCB (rMin K) ta) δ P := xe_min h
/-! ### an item -/
def IxK (x y : D) (k : D → Prop) : Prop := ∃ ds i d, (x = .tup ds ∨ x = .lst ds) ∧ y = .int i ∧ L2.atI ds i = some d ∧ k d
theorem xe_ixK {ta tb : TE} {P : AV → Prop} (h : XE V ta δ fun a => XE V tb δ fun b => IxK a.d b.d fun d => P (.dat d)) : XE V (tOp (rIx K) ta tb) δ P :=
  xe_ix (h.imp fun a hb => hb.imp fun b ⟨ds, i, d, e, eb, ei, p⟩ => ⟨ds, i, d, e, eb, ei, p⟩)
theorem ixk_t {ds : List D} {i : Int} {d : D} {k : D → Prop} (e : L2.atI ds i = some d) (h : k d) : IxK (.tup ds) (.int i) k := ⟨ds, i, d, .inl rfl, rfl, e, h⟩
theorem ixk_l {ds : List D} {i : Int} {d : D} {k : D → Prop} (e : L2.atI ds i = some d) (h : k d) : IxK (.lst ds) (.int i) k := ⟨ds, i, d, .inr rfl, rfl, e, h⟩
/-! ### both lists -/
def CatK (x y : D) (k : List D → Prop) : Prop := ∃ ds es, x = .lst ds ∧ y = .lst es ∧ ds.length + es.length ≤ sizeLine ∧ k (ds ++ es)
theorem catk {ds es : List D} {k : List D → Prop} (l : ds.length + es.length ≤ sizeLine) (h : k (ds ++ es)) : CatK (.lst ds) (.lst es) k := ⟨ds, es, rfl, rfl, l, h⟩
theorem xe_catLK {ta tb : TE} {P : AV → Prop} (h : XE V ta δ fun a => XE V tb δ fun b => CatK a.d b.d fun l => P (.new l)) : XE V (tOp rCat ta tb) δ P := xe_catL h
def CatT (x y : D) (k : List D → Prop) : Prop := ∃ ds es, x = .tup ds ∧ y = .tup es ∧ ds.length + es.length ≤ sizeLine ∧ k (ds ++ es)
theorem catt {ds es : List D} {k : List D → Prop} (l : ds.length + es.length ≤ sizeLine) (h : k (ds ++ es)) : CatT (.tup ds) (.tup es) k := ⟨ds, es, rfl, rfl, l, h⟩
theorem xe_catTK {ta tb : TE} {P : AV → Prop} (h : XE V ta δ fun a => XE V tb δ fun b => CatT a.d b.d fun l => P (.dat (.tup l))) : XE V (tOp (rCatA K) ta tb) δ P := xe_catT h
/-! ### displays -/
theorem xe_tupK {ta : TA} {P : AV → Prop} (h : XD V ta δ fun ds => ds.length ≤ sizeLine ∧ P (.dat (.tup ds))) : XE V (tTup ta) δ P := xe_tupD h
/-! ### list methods -/
theorem xs_appK {j : Nat} {ds : List D} {te : TE} {E : AEnds} (e : δ[j]? = some (.own ds)) (h : XE V te δ fun a => a.ok ∧ ds.length < sizeLine ∧ E.nx (δ.set j (.own (ds ++ [a.d])))) :
    XS V (tDrop (tBM K "list" rAppend (tVar j) (tCons te tNil))) δ E := xs_app e h
/-! ### loops by folds -/
theorem xs_forF {α β : Type} {tl : TE} {g : TG} {tb : TS} {E : AEnds} (xs : List α) (enc : α → D) (b0 : β) (step : β → α → β) (sl : β → List Slot → Prop)
    (h : XE V tl δ fun a => a.ok ∧ a.d = .lst (xs.map enc) ∧ sl b0 δ ∧
      (∀ pre x post, xs = pre ++ x :: post → ∀ δ', sl (pre.foldl step b0) δ' → XG V g (enc x) δ' fun δ2 => XS V tb δ2 { E with nx := sl (step (pre.foldl step b0) x), ct := sl (step (pre.foldl step b0) x), bk := E.nx }) ∧
      ∀ δ', sl (xs.foldl step b0) δ' → E.nx δ') : XS V (tFor (iList K tl) g tb) δ E := by
  refine xs_forL (h.imp fun a ⟨ok, e, s0, st, en⟩ => ⟨ok, _, e, fun i δ' => sl ((xs.take i).foldl step b0) δ', s0, ?_, fun δ' s => en δ' ?_⟩)
  · intro i d hi δ' s
    rw [List.getElem?_map] at hi
    cases ex : xs[i]? with
    | none => rw [ex] at hi; cases hi
    | some x =>
      rw [ex] at hi
      cases hi
      have hl := (List.getElem?_eq_some_iff.mp ex).1
      have sp : xs = xs.take i ++ x :: xs.drop (i + 1) := by
        have := (List.getElem?_eq_some_iff.mp ex).2
        rw [← this, List.getElem_cons_drop, List.take_append_drop]
      have k := st (xs.take i) x (xs.drop (i + 1)) sp δ' s
      rw [← take_fold step b0 xs ex] at k
      exact k
  · rw [List.length_map, List.take_length] at s; exact s
theorem xs_forFT {α β : Type} {tl : TE} {g : TG} {tb : TS} {E : AEnds} (xs : List α) (enc : α → D) (b0 : β) (step : β → α → β) (sl : β → List Slot → Prop)
    (h : XE V tl δ fun a => a.d = .tup (xs.map enc) ∧ sl b0 δ ∧
      (∀ pre x post, xs = pre ++ x :: post → ∀ δ', sl (pre.foldl step b0) δ' → XG V g (enc x) δ' fun δ2 => XS V tb δ2 { E with nx := sl (step (pre.foldl step b0) x), ct := sl (step (pre.foldl step b0) x), bk := E.nx }) ∧
      ∀ δ', sl (xs.foldl step b0) δ' → E.nx δ') : XS V (tFor (iTup K tl) g tb) δ E := by
  refine xs_forT (h.imp fun a ⟨e, s0, st, en⟩ => ⟨_, e, fun i δ' => sl ((xs.take i).foldl step b0) δ', s0, ?_, fun δ' s => en δ' ?_⟩)
  · intro i d hi δ' s
    rw [List.getElem?_map] at hi
    cases ex : xs[i]? with
    | none => rw [ex] at hi; cases hi
    | some x =>
      rw [ex] at hi
      cases hi
      have hl := (List.getElem?_eq_some_iff.mp ex).1
      have sp : xs = xs.take i ++ x :: xs.drop (i + 1) := by
        have := (List.getElem?_eq_some_iff.mp ex).2
        rw [← this, List.getElem_cons_drop, List.take_append_drop]
      have k := st (xs.take i) x (xs.drop (i + 1)) sp δ' s
      rw [← take_fold step b0 xs ex] at k
      exact k
  · rw [List.length_map, List.take_length] at s; exact s
/-- a comprehension over a list: each item gives its own -/
theorem xe_lcF {α : Type} {tl : TE} {g : TG} {te : TE} {tt : TT} {vs : List Nat} {P : AV → Prop} (tin : TgtIn g vs) (xs : List α) (enc : α → D) (p : α → Bool) (f : α → D) (hl : xs.length ≤ 100000)
    (h : XE V tl δ fun a => a.d = .lst (xs.map enc) ∧
      (∀ x ∈ xs, XG V g (enc x) (wipeS δ vs) fun δ2 => XT V tt δ2 fun b => b = p x ∧ (p x = true → XE V te δ2 fun a => a.ok ∧ a.d = f x)) ∧ P (.new ((xs.filter p).map f))) :
    XE V (tLc (iList K tl) g tt te vs) δ P := by
  have big : (100001 : Nat) ≤ sizeLine := by decide
  refine xe_lcL tin (h.imp fun a ⟨e, st, en⟩ => ⟨_, e, fun i es => es = ((xs.take i).filter p).map f, by simp, ?_, fun es he => ?_⟩)
  · intro i d es hi he
    rw [List.getElem?_map] at hi
    cases ex : xs[i]? with
    | none => rw [ex] at hi; cases hi
    | some x =>
      rw [ex] at hi
      cases hi
      have hl2 := (List.getElem?_eq_some_iff.mp ex).1
      have hle : es.length < sizeLine := by
        rw [he, List.length_map]
        have := List.length_filter_le p (xs.take i)
        rw [List.length_take] at this
        omega
      have et : xs.take (i + 1) = xs.take i ++ [x] := by rw [List.take_add_one, ex]; rfl
      intro O0 H0 O σ H v m r Q q
      refine st x (List.mem_of_getElem? ex) O0 H0 O σ H v m r Q fun δ' σ' H' g1 m1 k => q δ' σ' H' g1 m1 ?_
      refine k.imp fun b ⟨eb, hb⟩ => ?_
      cases b with
      | false =>
        rw [if_neg (by decide)]
        show es = ((xs.take (i + 1)).filter p).map f
        rw [et, List.filter_append, he]
        simp [← eb]
      | true =>
        rw [if_pos rfl]
        refine (hb eb.symm).imp fun a ⟨ok, ea⟩ => ⟨ok, hle, ?_⟩
        show es ++ [a.d] = ((xs.take (i + 1)).filter p).map f
        rw [et, List.filter_append, he, ea]
        simp [← eb]
  · rw [List.length_map, List.take_length] at he
    rw [he]; exact en
end
theorem d_dat (d : D) : AV.d (.dat d) = d := rfl
theorem d_new (d : List D) : AV.d (.new d) = .lst d := rfl
theorem d_brw (d : List D) : AV.d (.brw d) = .lst d := rfl
theorem ofV_int (i : Int) : ofV (.int i) = .int i := rfl
theorem ofV_bl (i : Bool) : ofV (.bl i) = .bl i := rfl
theorem ofV_str (i : Str) : ofV (.str i) = .str i := rfl
theorem ofV_non : ofV .non = .non := rfl
theorem dInts_len (xs : List Int) : (dInts xs).length = xs.length := List.length_map ..
theorem dInts_nil : dInts [] = [] := rfl
theorem dInts_cons (x : Int) (xs : List Int) : dInts (x :: xs) = .int x :: dInts xs := rfl
theorem dInts_app (xs ys : List Int) : dInts (xs ++ ys) = dInts xs ++ dInts ys := List.map_append ..
theorem intsA {a : AV} {ns : List Int} {k : List Int → Prop} (e : a.d = .lst (dInts ns)) (h : k ns) : IntsA [a] k := ⟨a, ns, rfl, e, h⟩
/-! ### int of a flag -/
def rIntQ : List L2.V → Hp → VK → Prop := fun xs H Q => (∃ i, xs = [.int i] ∧ Q (.int i) H) ∨ ∃ k, xs = [.bl k] ∧ Q (.int (if k then 1 else 0)) H
theorem cr_intQ {X : Cx} : CallR X (.type "int") rIntQ := call_int1
def BlA (as : List AV) (k : Bool → Prop) : Prop := ∃ a b, as = [a] ∧ a.d = .bl b ∧ k b
theorem bla {b : Bool} {k : Bool → Prop} (h : k b) : BlA [.dat (.bl b)] k := ⟨_, b, rfl, rfl, h⟩
section
variable {V : Vol} {δ : List Slot} {K : PySem.W.Frag}
theorem xe_intB {ta : TA} {P : AV → Prop} (h : XA V ta δ fun as => BlA as fun b => P (.dat (.int (if b then 1 else 0)))) : XE V (tCB rIntQ ta) δ P :=
  xe_cb fun O0 H0 O σ H m Q q => h O0 H0 O σ H m Q fun as vs H1 g1 r1 ⟨a, b, e, ea, p⟩ => q as vs H1 g1 r1 (by
    subst e
    intro O0 H0 O σ H H1 vs m g1 r1 Q q
    obtain ⟨v, e, ra⟩ := rep1 r1
    subst e
    have ev : v = .bl b := repV ra ea
    subst ev
    exact .inr ⟨b, rfl, q (.dat (.int _)) _ H1 (.refl g1.2) ra_int p⟩)
/-! ### chains, slices -/
theorem xe_chI {f g : Int → Int → Bool} {ta tb tc : TE} {P : AV → Prop} (h : XE V ta δ fun a => ∃ i, a.d = .int i ∧ XE V tb δ fun b => ∃ j, b.d = .int j ∧
      if f i j = true then XE V tc δ fun c => ∃ k, c.d = .int k ∧ P (.dat (.bl (g j k))) else P (.dat (.bl false))) : XE V (tChain (rI0 fun i j => .bl (f i j)) (rI0 fun i j => .bl (g i j)) ta tb tc) δ P := fun O0 H0 O σ H m Q q =>
  h O0 H0 O σ H m _ fun a v H1 g1 r1 ⟨i, ea, p1⟩ => p1 O0 H0 O σ H1 (m.mono g1) _ fun b u H2 g2 r2 ⟨j, eb, p2⟩ => by
    have ev : v = .int i := repV r1 ea
    have eu : u = .int j := repV r2 eb
    subst ev eu
    refine ⟨i, j, rfl, rfl, f i j, rfl, ?_⟩
    cases hf : f i j with
    | false =>
      rw [hf, if_neg (by decide)] at p2
      rw [if_neg (by decide)]
      exact q (.dat (.bl false)) _ H2 (g1.trans g2) ra_bl p2
    | true =>
      rw [hf, if_pos rfl] at p2
      rw [if_pos rfl]
      refine p2 O0 H0 O σ H2 (m.mono (g1.trans g2)) _ fun c w' H3 g3 r3 ⟨k, ec, p3⟩ => ?_
      have ew : w' = .int k := repV r3 ec
      subst ew
      exact ⟨j, k, rfl, rfl, q (.dat (.bl (g j k))) _ H3 ((g1.trans g2).trans g3) ra_bl p3⟩
def CutL (x : D) (k : List D → Prop) : Prop := ∃ ds, x = .lst ds ∧ k ds
def CutT (x : D) (k : List D → Prop) : Prop := ∃ ds, x = .tup ds ∧ k ds
theorem cutl {ds : List D} {k : List D → Prop} (h : k ds) : CutL (.lst ds) k := ⟨ds, rfl, h⟩
theorem cutt {ds : List D} {k : List D → Prop} (h : k ds) : CutT (.tup ds) k := ⟨ds, rfl, h⟩
theorem xe_slLK {te : TE} {tl th : TO} {P : AV → Prop} (h : XE V te δ fun a => XO V tl δ fun lo => XO V th δ fun hi => CutL a.d fun ds => P (.new (cutD ds lo hi))) : XE V (tSl (rSlL K) te tl th) δ P := xe_slL h
theorem xe_slTK {te : TE} {tl th : TO} {P : AV → Prop} (h : XE V te δ fun a => XO V tl δ fun lo => XO V th δ fun hi => CutT a.d fun ds => P (.dat (.tup (cutD ds lo hi)))) : XE V (tSl (rSlA K) te tl th) δ P := xe_slT h
end
end MG
end
section
set_option linter.all false
set_option maxRecDepth 100000
set_option maxHeartbeats 4000000
/-! MTs: more readings that gen.py printed (law k03). -/
namespace MG
open PySem L2 MR
def ts_split (K : PySem.W.Frag) : TS :=
    (tSeq (tPar3 1 2 3 (tCons (tLst tNil) (tCons (tLst tNil) (tCons (tTup tNil) tNil))))
    (tSeq (tFor (iList K (tVar 0)) (gTup K 2 (gCons (gName 4) (gCons (gName 5) gNil)))
    (tIfS (tTest (tOp (rEqD K) (tVar 4) (tC (.str "solid"))))
    (tSeq (tDrop (tBM K "list" rAppend (tVar 2) (tCons (tVar 5) tNil)))
    (tSeq (tDrop (tBM K "list" rAppend (tVar 1) (tCons (tVar 3) tNil)))
    (tAsg (tTup tNil) (gName 3))))
    (tAsg (tTup (StX.tStar K (tVar 3) (tCons (tVar 5) tNil))) (gName 3))))
    (tRet (tTup (tCons (tOp rCat (tVar 1) (tLst (tCons (tVar 3) tNil))) (tCons (tVar 2) tNil))))))
def ts_pair (K : PySem.W.Frag) : TS :=
    (tRet (tTup (tCons (tCB rMmax (tCons (tC (.int 0)) (StX.tStar K (tVar 0) (tCons (tC (.int 0)) tNil)))) (tCons (tCB rMmin (tCons (tC (.int 0)) (StX.tStar K (tVar 0) (tCons (tC (.int 0)) tNil)))) tNil))))
def ts_gap (K : PySem.W.Frag) (cpair : Sp) : TS :=
    (tRet (tCB (rSumT K) (tCons (tCall cpair [] E0 (tCons (tVar 0) tNil)) tNil)))
def ts_runs (K : PySem.W.Frag) (dparts : Nat) (csplit : Sp) : TS :=
    (tRet (tOp (rIx K) (tCall csplit [] E0 (tCons (tListZ (tCallG (spParts dparts) (tCons (tVar 0) tNil))) tNil)) (tC (.int 0))))
def ts_gaps (K : PySem.W.Frag) (cruns : Sp) (cgap : Sp) : TS :=
    (tRet (tLc (iList K (tCall cruns [] E0 (tCons (tVar 0) tNil))) (gName 1) tYes (tCall cgap [] E0 (tCons (tVar 1) tNil)) [1]))
def ts_total (K : PySem.W.Frag) (dparts : Nat) (csplit : Sp) (cgap : Sp) : TS :=
    (tSeq (tAsg (tCall csplit [] E0 (tCons (tListZ (tCallG (spParts dparts) (tCons (tVar 0) tNil))) tNil)) (gTup K 2 (gCons (gName 1) (gCons (gName 2) gNil))))
    (tRet (tOp (rI0 fun i j => .int (i + j)) (tCB (rSum K) (tCons (tLc (iList K (tVar 1)) (gName 3) tYes (tCall cgap [] E0 (tCons (tVar 3) tNil)) [3]) tNil)) (tCB (rSum K) (tCons (tVar 2) tNil)))))
end MG
end
section
set_option linter.all false
set_option maxRecDepth 100000
set_option maxHeartbeats 4000000
/-! MRd: readings of the defs of all laws, printed by common.py. -/
namespace MG
open PySem L2 MR
def ts_is_integer (K : PySem.W.Frag) : TS :=
    (tRet (tAndV (tCB (rIsi K) (tCons (tVar 0) (tCons (tC (.ty "int")) tNil))) (tAndV (tNotV (tCB (rIsi K) (tCons (tVar 0) (tCons (tC (.ty "bool")) tNil)))) (tChain (rI0 fun i j => .bl (decide (i ≤ j))) (rI0 fun i j => .bl (decide (i ≤ j))) (tVar 1) (tVar 0) (tVar 2)))))
def ts__law_whole (K : PySem.W.Frag) : TS :=
    (tRet (tAndV (tCB (rIsi K) (tCons (tVar 0) (tCons (tC (.ty "int")) tNil))) (tNotV (tCB (rIsi K) (tCons (tVar 0) (tCons (tC (.ty "bool")) tNil))))))
def ts__law_within (K : PySem.W.Frag) (c_law_whole : Sp) : TS :=
    (tRet (tAndV (tCall c_law_whole [] E0 (tCons (tVar 0) tNil)) (tChain (rI0 fun i j => .bl (decide (i ≤ j))) (rI0 fun i j => .bl (decide (i ≤ j))) (tVar 1) (tVar 0) (tVar 2))))
def ts__law_any (K : PySem.W.Frag) (c_law_draw : Sp) (c_law_any : Sp) : TS :=
    (tSeq (tAsg (tCall c_law_draw [] E0 (tCons (tVar 0) (tCons (tC (.int 13)) tNil))) (gName 2))
    (tSeq (tIfS (tAnd (tTest (tOp (rI0 fun i j => .bl (decide (i < j))) (tVar 2) (tC (.int 4)))) (tTest (tOp (rI0 fun i j => .bl (decide (j < i))) (tVar 1) (tC (.int 0)))))
    (tSeq (tAsg (tLc (iRng1 (tCons (tCall c_law_draw [] E0 (tCons (tVar 0) (tCons (tC (.int 4)) tNil))) tNil)) (gName 4) tYes (tCall c_law_any [] E0 (tCons (tVar 0) (tCons (tOp (rI0 fun i j => .int (i - j)) (tVar 1) (tC (.int 1))) tNil))) [4]) (gName 3))
    (tRet (tOp (rIx K) (tLst (tCons (tVar 3) (tCons (tCB (rTupQ K) (tCons (tVar 3) tNil)) (tCons (tCB (rTupQ K) (tCons (tVar 3) tNil)) (tCons (tCB (rTupQ K) (tCons (tVar 3) tNil)) tNil))))) (tVar 2))))
    tNext)
    (tSeq (tIfS (tTest (tOp (rI0 fun i j => .bl (decide (i < j))) (tVar 2) (tC (.int 8))))
    (tRet (tOp (rIx K) (tLst (tCons (tOp (rI0 fun i j => .int (i - j)) (tCall c_law_draw [] E0 (tCons (tVar 0) (tCons (tC (.int 12)) tNil))) (tC (.int 2))) (tCons (tCall c_law_draw [] E0 (tCons (tVar 0) (tCons (tOp (rI CPow fun i j => .int (i ^ j.toNat)) (tC (.int 10)) (tC (.int 12))) tNil))) (tCons (tC (.int 0)) (tCons (tC (.int 3)) tNil))))) (tCB rMmax (tCons (tC (.int 0)) (tCons (tOp (rI0 fun i j => .int (i - j)) (tVar 2) (tC (.int 4))) tNil)))))
    tNext)
    (tSeq (tAsg (tLst (tCons (tC (.str "")) (tCons (tC (.str " ")) (tCons (tC (.str "block")) (tCons (tC (.str "group")) (tCons (tC (.str "margin")) (tCons (tC (.str "A")) (tCons (tC (.str "a\nb")) tNil)))))))) (gName 3))
    (tRet (tOp (rIx K) (tLst (tCons (tC (.bl true)) (tCons (tC (.bl false)) (tCons (tC .non) (tCons (tOp (rIx K) (tVar 3) (tCall c_law_draw [] E0 (tCons (tVar 0) (tCons (tC (.int 7)) tNil)))) (tCons (tTup (tCons (tC (.int 1)) (tCons (tC (.int 2)) tNil))) tNil)))))) (tOp (rI0 fun i j => .int (i - j)) (tVar 2) (tC (.int 8)))))))))
def ts__law_boxes_in (K : PySem.W.Frag) (c_law_within : Sp) (c_law_boxes_in : Sp) : TS :=
    (tSeq (tIfS (tOr (tNot (tB (tCB (rIsi K) (tCons (tVar 0) (tCons (tC (.ty "tuple")) tNil))))) (tTest (tOp (rI0 fun i j => .bl (decide (j < i))) (tCB (rLenQ K) (tCons (tVar 0) tNil)) (tC (.int 6)))))
    (tRet (tC (.int 99)))
    tNext)
    (tSeq (tAsg (tC (.int 0)) (gName 2))
    (tSeq (tFor (iTup K (tVar 0)) (gName 3)
    (tSeq (tIfS (tOr (tNot (tB (tCB (rIsi K) (tCons (tVar 3) (tCons (tC (.ty "tuple")) tNil))))) (tOr (tTest (tOp (rI0 fun i j => .bl (decide (i < j))) (tCB (rLenQ K) (tCons (tVar 3) tNil)) (tC (.int 4)))) (tTest (tOp (rIn K true) (tOp (rIx K) (tVar 3) (tC (.int 0))) (tTup (tCons (tC (.str "block")) (tCons (tC (.str "group")) tNil)))))))
    (tRet (tC (.int 99)))
    tNext)
    (tSeq (tIfS (tOr (tNot (tB (tCall c_law_within [] E0 (tCons (tOp (rIx K) (tVar 3) (tC (.int 1))) (tCons (tUn (rU fun i => .int (-i)) (tC (.int 100))) (tCons (tC (.int 100)) tNil)))))) (tNot (tB (tCall c_law_within [] E0 (tCons (tOp (rIx K) (tVar 3) (tC (.int 2))) (tCons (tUn (rU fun i => .int (-i)) (tC (.int 100))) (tCons (tC (.int 100)) tNil)))))))
    (tRet (tC (.int 99)))
    tNext)
    (tIfS (tTest (tOp (rEqD K) (tOp (rIx K) (tVar 3) (tC (.int 0))) (tC (.str "block"))))
    (tAsg (tOp (rI0 fun i j => .int (i + j)) (tVar 2) (tIf (tAnd (tTest (tOp (rEqD K) (tCB (rLenQ K) (tCons (tVar 3) tNil)) (tC (.int 4)))) (tB (tCall c_law_within [] E0 (tCons (tOp (rIx K) (tVar 3) (tC (.int 3))) (tCons (tC (.int 1)) (tCons (tC (.int 1000)) tNil)))))) (tC (.int 1)) (tC (.int 99)))) (gName 2))
    (tIfS (tAnd (tTest (tOp (rEqD K) (tCB (rLenQ K) (tCons (tVar 3) tNil)) (tC (.int 5)))) (tAnd (tB (tCall c_law_within [] E0 (tCons (tOp (rIx K) (tVar 3) (tC (.int 3))) (tCons (tC (.int 0)) (tCons (tC (.int 100)) tNil))))) (tTest (tOp (rI0 fun i j => .bl (decide (i < j))) (tVar 1) (tC (.int 4))))))
    (tAsg (tOp (rI0 fun i j => .int (i + j)) (tOp (rI0 fun i j => .int (i + j)) (tVar 2) (tC (.int 1))) (tCall c_law_boxes_in [] E0 (tCons (tOp (rIx K) (tVar 3) (tC (.int 4))) (tCons (tOp (rI0 fun i j => .int (i + j)) (tVar 1) (tC (.int 1))) tNil)))) (gName 2))
    (tRet (tC (.int 99))))))))
    (tRet (tVar 2)))))
def ts__law_parts (K : PySem.W.Frag) (c_law_parts : Sp) : TS :=
    (tSeq (tAsg (tLst tNil) (gOwn 1))
    (tSeq (tFor (iTup K (tVar 0)) (gName 2)
    (tSeq (tDrop (tBM K "list" rAppend (tVar 1) (tCons (tTup (tCons (tC (.str "margin")) (tCons (tOp (rIx K) (tVar 2) (tC (.int 1))) tNil))) tNil)))
    (tSeq (tIfS (tTest (tOp (rEqD K) (tOp (rIx K) (tVar 2) (tC (.int 0))) (tC (.str "block"))))
    (tDrop (tBM K "list" rAppend (tVar 1) (tCons (tTup (tCons (tC (.str "solid")) (tCons (tOp (rIx K) (tVar 2) (tC (.int 3))) tNil))) tNil)))
    (tSeq (tAsg (tIf (tTest (tOp (rI0 fun i j => .bl (decide (j < i))) (tOp (rIx K) (tVar 2) (tC (.int 3))) (tC (.int 0)))) (tLst (tCons (tTup (tCons (tC (.str "solid")) (tCons (tOp (rIx K) (tVar 2) (tC (.int 3))) tNil))) tNil)) (tLst tNil)) (gName 3))
    (tAsg (tOp rCat (tOp rCat (tOp rCat (tVar 1) (tVar 3)) (tCall c_law_parts [] E0 (tCons (tOp (rIx K) (tVar 2) (tC (.int 4))) tNil))) (tVar 3)) (gOwn 1))))
    (tDrop (tBM K "list" rAppend (tVar 1) (tCons (tTup (tCons (tC (.str "margin")) (tCons (tOp (rIx K) (tVar 2) (tC (.int 2))) tNil))) tNil))))))
    (tRet (tVar 1))))
def ts_edges (K : PySem.W.Frag) (dparts : Nat) (csplit : Sp) (cgap : Sp) : TS :=
    (tSeq (tAsg (tCall csplit [] E0 (tCons (tListZ (tCallG (spParts dparts) (tCons (tVar 0) tNil))) tNil)) (gTup K 2 (gCons (gName 1) (gCons (gName 2) gNil))))
    (tSeq (tPar (oB true 3) (oB false 4) (tCons (tLst tNil) (tCons (tC (.int 0)) tNil)))
    (tSeq (tFor (iZip K (tCons (tVar 1) (tCons (tVar 2) tNil))) (gTup K 2 (gCons (gName 5) (gCons (gName 6) gNil)))
    (tSeq (tAsg (tOp (rI0 fun i j => .int (i + j)) (tVar 4) (tCall cgap [] E0 (tCons (tVar 5) tNil))) (gName 7))
    (tSeq (tAsg (tOp (rI0 fun i j => .int (i + j)) (tVar 7) (tVar 6)) (gName 4))
    (tDrop (tBM K "list" rAppend (tVar 3) (tCons (tTup (tCons (tVar 7) (tCons (tVar 4) tNil))) tNil))))))
    (tRet (tVar 3)))))
def ts__law_runs (K : PySem.W.Frag) : TS :=
    (tSeq (tPar (oB true 1) (oB true 2) (tCons (tLst (tCons (tLst tNil) tNil)) (tCons (tLst tNil) tNil)))
    (tSeq (tFor (iList K (tVar 0)) (gTup K 2 (gCons (gName 3) (gCons (gName 4) gNil)))
    (tIfS (tTest (tOp (rEqD K) (tVar 3) (tC (.str "margin"))))
    (tAsg (tOp rCat (tOp (rIx K) (tVar 1) (tUn (rU fun i => .int (-i)) (tC (.int 1)))) (tLst (tCons (tVar 4) tNil))) (gSub (tVar 1) (tUn (rU fun i => .int (-i)) (tC (.int 1))) rSetL))
    (tSeq (tDrop (tBM K "list" rAppend (tVar 2) (tCons (tVar 4) tNil)))
    (tDrop (tBM K "list" rAppend (tVar 1) (tCons (tLst tNil) tNil))))))
    (tRet (tTup (tCons (tLc (iList K (tVar 1)) (gName 5) tYes (tCB (rTupQ K) (tCons (tVar 5) tNil)) [5]) (tCons (tVar 2) tNil))))))
def ts__law_pair (K : PySem.W.Frag) : TS :=
    (tRet (tTup (tCons (tCB (rMax K) (tCons (tOp rCat (tLst (tCons (tC (.int 0)) tNil)) (tCB (rListQ K) (tCons (tVar 0) tNil))) tNil)) (tCons (tCB (rMin K) (tCons (tOp rCat (tLst (tCons (tC (.int 0)) tNil)) (tCB (rListQ K) (tCons (tVar 0) tNil))) tNil)) tNil))))
def ts__law_gap (K : PySem.W.Frag) (c_law_pair : Sp) : TS :=
    (tRet (tCB (rSumT K) (tCons (tCall c_law_pair [] E0 (tCons (tVar 0) tNil)) tNil)))
def ts__law_edges (K : PySem.W.Frag) (c_law_gap : Sp) : TS :=
    (tSeq (tPar3 (oB false 1) (oB false 2) (oB true 3) (tCons (tC (.int 0)) (tCons (tLst tNil) (tCons (tLst tNil) tNil))))
    (tSeq (tFor (iList K (tOp rCat (tVar 0) (tLst (tCons (tTup (tCons (tC (.str "end")) (tCons (tC (.int 0)) tNil))) tNil)))) (gTup K 2 (gCons (gName 4) (gCons (gName 5) gNil)))
    (tIfS (tTest (tOp (rEqD K) (tVar 4) (tC (.str "margin"))))
    (tAsg (tOp rCat (tVar 2) (tLst (tCons (tVar 5) tNil))) (gName 2))
    (tSeq (tAsg (tOp (rI0 fun i j => .int (i + j)) (tVar 1) (tCall c_law_gap [] E0 (tCons (tVar 2) tNil))) (gName 1))
    (tSeq (tIfS (tTest (tOp (rEqD K) (tVar 4) (tC (.str "solid"))))
    (tDrop (tBM K "list" rAppend (tVar 3) (tCons (tTup (tCons (tVar 1) (tCons (tOp (rI0 fun i j => .int (i + j)) (tVar 1) (tVar 5)) tNil))) tNil)))
    tNext)
    (tPar (oB false 1) (oB false 2) (tCons (tOp (rI0 fun i j => .int (i + j)) (tVar 1) (tVar 5)) (tCons (tLst tNil) tNil)))))))
    (tRet (tTup (tCons (tVar 3) (tCons (tVar 1) tNil))))))
def ts_form_of (K : PySem.W.Frag) (csplit : Sp) (cpair : Sp) (cgap : Sp) : TS :=
    (tSeq (tAsg (tCall csplit [] E0 (tCons (tVar 0) tNil)) (gTup K 2 (gCons (gName 1) (gCons (gName 2) gNil))))
    (tSeq (tIfS (tTest (tOp (rEqD K) (tVar 2) (tLst tNil)))
    (tRet (tTup (tCons (tC (.str "through")) (tCons (tCall cpair [] E0 (tCons (tOp (rIx K) (tVar 1) (tC (.int 0))) tNil)) tNil))))
    tNext)
    (tSeq (tAsg (tSl (rSlL K) (tVar 1) (tPart (tC (.int 1))) (tPart (tUn (rU fun i => .int (-i)) (tC (.int 1))))) (gName 3))
    (tRet (tTup (tCons (tC (.str "solid")) (tCons (tCall cpair [] E0 (tCons (tOp (rIx K) (tVar 1) (tC (.int 0))) tNil)) (tCons (tOp (rI0 fun i j => .int (i + j)) (tCB (rSum K) (tCons (tVar 2) tNil)) (tCB (rSum K) (tCons (tLc (iList K (tVar 3)) (gName 4) tYes (tCall cgap [] E0 (tCons (tVar 4) tNil)) [4]) tNil))) (tCons (tCall cpair [] E0 (tCons (tOp (rIx K) (tVar 1) (tUn (rU fun i => .int (-i)) (tC (.int 1)))) tNil)) tNil)))))))))
def ts_form (K : PySem.W.Frag) (dparts : Nat) (cform_of : Sp) : TS :=
    (tRet (tCall cform_of [] E0 (tCons (tListZ (tCallG (spParts dparts) (tCons (tVar 0) tNil))) tNil)))
def ts_interchangeable (K : PySem.W.Frag) (cform : Sp) : TS :=
    (tRet (tOp (rEqD K) (tCall cform [] E0 (tCons (tVar 0) tNil)) (tCall cform [] E0 (tCons (tVar 1) tNil))))
def ts__law_form (K : PySem.W.Frag) (c_law_runs : Sp) (c_law_pair : Sp) (c_law_gap : Sp) : TS :=
    (tSeq (tAsg (tCall c_law_runs [] E0 (tCons (tVar 0) tNil)) (gTup K 2 (gCons (gName 1) (gCons (gName 2) gNil))))
    (tSeq (tIfS (tTest (tOp (rEqD K) (tVar 2) (tLst tNil)))
    (tRet (tTup (tCons (tC (.str "through")) (tCons (tCall c_law_pair [] E0 (tCons (tOp (rIx K) (tVar 1) (tC (.int 0))) tNil)) tNil))))
    tNext)
    (tSeq (tAsg (tOp (rI0 fun i j => .int (i + j)) (tCB (rSum K) (tCons (tVar 2) tNil)) (tCB (rSum K) (tCons (tLc (iList K (tSl (rSlL K) (tVar 1) (tPart (tC (.int 1))) (tPart (tUn (rU fun i => .int (-i)) (tC (.int 1)))))) (gName 4) tYes (tCall c_law_gap [] E0 (tCons (tVar 4) tNil)) [4]) tNil))) (gName 3))
    (tRet (tTup (tCons (tC (.str "solid")) (tCons (tCall c_law_pair [] E0 (tCons (tOp (rIx K) (tVar 1) (tC (.int 0))) tNil)) (tCons (tVar 3) (tCons (tCall c_law_pair [] E0 (tCons (tOp (rIx K) (tVar 1) (tUn (rU fun i => .int (-i)) (tC (.int 1)))) tNil)) tNil)))))))))
def ts__law_alike_fragment (K : PySem.W.Frag) : TS :=
    (tSeq (tIfS (tTest (tOp (rEqD K) (tOp (rIx K) (tVar 0) (tC (.int 0))) (tC (.str "through"))))
    (tRet (tTup (tCons (tTup (tCons (tC (.str "group")) (tCons (tOp (rIx K) (tOp (rIx K) (tVar 0) (tC (.int 1))) (tC (.int 0))) (tCons (tOp (rIx K) (tOp (rIx K) (tVar 0) (tC (.int 1))) (tC (.int 1))) (tCons (tC (.int 0)) (tCons (tTup tNil) tNil)))))) tNil)))
    tNext)
    (tSeq (tIfS (tNot (tTest (tChain (rI0 fun i j => .bl (decide (i ≤ j))) (rI0 fun i j => .bl (decide (i ≤ j))) (tC (.int 1)) (tOp (rIx K) (tVar 0) (tC (.int 2))) (tC (.int 1000)))))
    (tRet (tC .non))
    tNext)
    (tSeq (tPar (oB false 1) (oB false 2) (tCons (tOp (rIx K) (tVar 0) (tC (.int 1))) (tCons (tOp (rIx K) (tVar 0) (tC (.int 3))) tNil)))
    (tRet (tTup (tCons (tTup (tCons (tC (.str "group")) (tCons (tOp (rIx K) (tVar 1) (tC (.int 0))) (tCons (tOp (rIx K) (tVar 1) (tC (.int 1))) (tCons (tC (.int 0)) (tCons (tTup tNil) tNil)))))) (tCons (tTup (tCons (tC (.str "block")) (tCons (tC (.int 0)) (tCons (tC (.int 0)) (tCons (tOp (rIx K) (tVar 0) (tC (.int 2))) tNil))))) (tCons (tTup (tCons (tC (.str "group")) (tCons (tOp (rIx K) (tVar 2) (tC (.int 1))) (tCons (tOp (rIx K) (tVar 2) (tC (.int 0))) (tCons (tC (.int 0)) (tCons (tTup tNil) tNil)))))) tNil))))))))
def ts__law_outside (K : PySem.W.Frag) (c_law_parts : Sp) (c_law_edges : Sp) : TS :=
    (tSeq (tAsg (tOp (rCatA K) (tOp (rCatA K) (tVar 0) (tVar 1)) (tVar 2)) (gName 4))
    (tSeq (tIfS (tB (tNotN (tVar 3)))
    (tAsg (tTup (tCons (tTup (tCons (tC (.str "block")) (tCons (tC (.int 0)) (tCons (tC (.int 3)) (tCons (tC (.int 2)) tNil))))) (tCons (tTup (tCons (tC (.str "group")) (tCons (tC (.int 4)) (tCons (tUn (rU fun i => .int (-i)) (tC (.int 1))) (tCons (tVar 3) (tCons (tVar 4) tNil)))))) (tCons (tTup (tCons (tC (.str "block")) (tCons (tC (.int 2)) (tCons (tC (.int 0)) (tCons (tC (.int 1)) tNil))))) tNil)))) (gName 4))
    tNext)
    (tSeq (tAsg (tCall c_law_edges [] E0 (tCons (tCall c_law_parts [] E0 (tCons (tVar 4) tNil)) tNil)) (gTup K 2 (gCons (gName 5) (gCons (gName 6) gNil))))
    (tSeq (tAsg (tCB (rLenQ K) (tCons (tLc (iList K (tCall c_law_parts [] E0 (tCons (tVar 1) tNil))) (gTup K 2 (gCons (gName 9) (gCons (gName 10) gNil))) (tTest (tOp (rEqD K) (tVar 9) (tC (.str "solid")))) (tC (.int 1)) [9, 10]) tNil)) (gName 7))
    (tSeq (tAsg (tCB (rLenQ K) (tCons (tLc (iList K (tCall c_law_parts [] E0 (tCons (tVar 0) tNil))) (gTup K 2 (gCons (gName 9) (gCons (gName 10) gNil))) (tTest (tOp (rEqD K) (tVar 9) (tC (.str "solid")))) (tC (.int 1)) [9, 10]) tNil)) (gName 8))
    (tSeq (tIfS (tB (tNotN (tVar 3)))
    (tAsg (tOp (rI0 fun i j => .int (i + j)) (tOp (rI0 fun i j => .int (i + j)) (tVar 8) (tC (.int 1))) (tCB rIntQ (tCons (tOp (rI0 fun i j => .bl (decide (j < i))) (tVar 3) (tC (.int 0))) tNil))) (gName 8))
    tNext)
    (tRet (tTup (tCons (tSl (rSlL K) (tVar 5) tNoPart (tPart (tVar 8))) (tCons (tSl (rSlL K) (tVar 5) (tPart (tOp (rI0 fun i j => .int (i + j)) (tVar 8) (tVar 7))) tNoPart) (tCons (tVar 6) tNil)))))))))))
def ts_merged (K : PySem.W.Frag) : TS :=
    (tRet (tTup (tCons (tCB rMmax (tCons (tOp (rIx K) (tVar 0) (tC (.int 0))) (tCons (tOp (rIx K) (tVar 1) (tC (.int 0))) tNil))) (tCons (tCB rMmin (tCons (tOp (rIx K) (tVar 0) (tC (.int 1))) (tCons (tOp (rIx K) (tVar 1) (tC (.int 1))) tNil))) tNil))))
def ts__law_drawn_form (K : PySem.W.Frag) (c_law_draw : Sp) : TS :=
    (tSeq (tAsg (tLc (iRng1 (tCons (tC (.int 2)) tNil)) (gName 2) tYes (tTup (tCons (tCall c_law_draw [] E0 (tCons (tVar 0) (tCons (tC (.int 30)) tNil))) (tCons (tUn (rU fun i => .int (-i)) (tCall c_law_draw [] E0 (tCons (tVar 0) (tCons (tC (.int 30)) tNil)))) tNil))) [2]) (gName 1))
    (tSeq (tIfS (tTest (tOp (rEqD K) (tCall c_law_draw [] E0 (tCons (tVar 0) (tCons (tC (.int 2)) tNil))) (tC (.int 0))))
    (tRet (tTup (tCons (tC (.str "through")) (tCons (tOp (rIx K) (tVar 1) (tC (.int 0))) tNil))))
    tNext)
    (tRet (tTup (tCons (tC (.str "solid")) (tCons (tOp (rIx K) (tVar 1) (tC (.int 0))) (tCons (tOp (rI0 fun i j => .int (i - j)) (tCall c_law_draw [] E0 (tCons (tVar 0) (tCons (tC (.int 100)) tNil))) (tC (.int 30))) (tCons (tOp (rIx K) (tVar 1) (tC (.int 1))) tNil))))))))
def ts_repeated_form (K : PySem.W.Frag) (cmerged : Sp) : TS :=
    (tSeq (tIfS (tTest (tOp (rEqD K) (tVar 1) (tC (.int 0))))
    (tRet (tTup (tCons (tC (.str "through")) (tCons (tTup (tCons (tC (.int 0)) (tCons (tC (.int 0)) tNil))) tNil))))
    tNext)
    (tSeq (tIfS (tTest (tOp (rEqD K) (tOp (rIx K) (tVar 0) (tC (.int 0))) (tC (.str "through"))))
    (tRet (tVar 0))
    tNext)
    (tSeq (tAsg (tVar 0) (gTup K 4 (gCons (gName 2) (gCons (gName 3) (gCons (gName 4) (gCons (gName 5) gNil))))))
    (tRet (tTup (tCons (tC (.str "solid")) (tCons (tVar 3) (tCons (tOp (rI0 fun i j => .int (i + j)) (tOp (rI CMul fun i j => .int (i * j)) (tVar 1) (tVar 4)) (tOp (rI CMul fun i j => .int (i * j)) (tOp (rI0 fun i j => .int (i - j)) (tVar 1) (tC (.int 1))) (tCB (rSumT K) (tCons (tCall cmerged [] E0 (tCons (tVar 5) (tCons (tVar 3) tNil))) tNil)))) (tCons (tVar 5) tNil)))))))))
def ts_distance_of (K : PySem.W.Frag) (cgap : Sp) : TS :=
    (tSeq (tIfS (tTest (tOp (rEqD K) (tOp (rIx K) (tVar 0) (tC (.int 0))) (tC (.str "through"))))
    (tRet (tCall cgap [] E0 (tCons (tTup (StX.tStar K (tOp (rIx K) (tVar 0) (tC (.int 1))) (tCons (tVar 1) (tCons (tVar 2) tNil)))) tNil)))
    tNext)
    (tSeq (tAsg (tVar 0) (gTup K 4 (gCons (gName 3) (gCons (gName 4) (gCons (gName 5) (gCons (gName 6) gNil))))))
    (tRet (tOp (rI0 fun i j => .int (i + j)) (tOp (rI0 fun i j => .int (i + j)) (tCall cgap [] E0 (tCons (tTup (StX.tStar K (tVar 4) (tCons (tVar 1) tNil))) tNil)) (tVar 5)) (tCall cgap [] E0 (tCons (tTup (StX.tStar K (tVar 6) (tCons (tVar 2) tNil))) tNil))))))
def ts__law_far (K : PySem.W.Frag) (c_law_gap : Sp) : TS :=
    (tSeq (tIfS (tTest (tOp (rEqD K) (tOp (rIx K) (tVar 0) (tC (.int 0))) (tC (.str "through"))))
    (tRet (tCall c_law_gap [] E0 (tCons (tOp rCat (tCB (rListQ K) (tCons (tOp (rIx K) (tVar 0) (tC (.int 1))) tNil)) (tLst (tCons (tVar 1) (tCons (tVar 2) tNil)))) tNil)))
    tNext)
    (tRet (tOp (rI0 fun i j => .int (i + j)) (tOp (rI0 fun i j => .int (i + j)) (tCall c_law_gap [] E0 (tCons (tOp rCat (tCB (rListQ K) (tCons (tOp (rIx K) (tVar 0) (tC (.int 1))) tNil)) (tLst (tCons (tVar 1) tNil))) tNil)) (tOp (rIx K) (tVar 0) (tC (.int 2)))) (tCall c_law_gap [] E0 (tCons (tOp rCat (tCB (rListQ K) (tCons (tOp (rIx K) (tVar 0) (tC (.int 3))) tNil)) (tLst (tCons (tVar 2) tNil))) tNil)))))
def ts__law_margins (K : PySem.W.Frag) (c_law_parts : Sp) : TS :=
    (tRet (tLc (iList K (tCall c_law_parts [] E0 (tCons (tVar 0) tNil))) (gTup K 2 (gCons (gName 1) (gCons (gName 2) gNil))) (tTest (tOp (rEqD K) (tVar 1) (tC (.str "margin")))) (tVar 2) [1, 2]))
def ts__law_changed (K : PySem.W.Frag) (c_law_margins : Sp) (c_law_with : Sp) : TS :=
    (tSeq (tAsg (tCall c_law_margins [] E0 (tCons (tVar 0) tNil)) (gOwn 3))
    (tSeq (tAsg (tVar 2) (gSub (tVar 3) (tVar 1) rSetL))
    (tRet (tCall c_law_with [] E0 (tCons (tVar 0) (tCons (tVar 3) tNil))))))
def ts__law_first (K : PySem.W.Frag) (c_law_far : Sp) : TS :=
    (tSeq (tFor (iRng1 (tCons (tOp (rI0 fun i j => .int (i + j)) (tVar 2) (tC (.int 1))) tNil)) (gName 3)
    (tFor (iRng2 (tCons (tUn (rU fun i => .int (-i)) (tVar 3)) (tCons (tOp (rI0 fun i j => .int (i + j)) (tVar 3) (tC (.int 1))) tNil))) (gName 4)
    (tSeq (tAsg (tOp (rI0 fun i j => .int (i - j)) (tVar 3) (tCB rMmax (tCons (tVar 4) (tCons (tUn (rU fun i => .int (-i)) (tVar 4)) tNil)))) (gName 5))
    (tFor (iTup K (tTup (tCons (tUn (rU fun i => .int (-i)) (tVar 5)) (tCons (tVar 5) tNil)))) (gName 6)
    (tIfS (tTest (tOp (rNeD K) (tCall c_law_far [] E0 (tCons (tVar 0) (tCons (tVar 4) (tCons (tVar 6) tNil)))) (tCall c_law_far [] E0 (tCons (tVar 1) (tCons (tVar 4) (tCons (tVar 6) tNil))))))
    (tRet (tTup (tCons (tVar 4) (tCons (tVar 6) tNil))))
    tNext)))))
    (tRet (tC .non)))
def ts__law_nine (K : PySem.W.Frag) (c_law_far : Sp) : TS :=
    (tSeq (tAsg (tC (.int 1)) (gName 2))
    (tSeq (tFor (iTup K (tTup (tCons (tVar 0) (tCons (tVar 1) tNil)))) (gName 3)
    (tFor (iList K (tLst (tCons (tOp (rIx K) (tVar 3) (tC (.int 1))) (tCons (tOp (rIx K) (tVar 3) (tUn (rU fun i => .int (-i)) (tC (.int 1)))) tNil)))) (gName 4)
    (tAsg (tCB rMmax (tCons (tVar 2) (tCons (tOp (rI0 fun i j => .int (i + j)) (tOp (rIx K) (tVar 4) (tC (.int 0))) (tC (.int 1))) (tCons (tOp (rI0 fun i j => .int (i - j)) (tC (.int 1)) (tOp (rIx K) (tVar 4) (tC (.int 1)))) tNil)))) (gName 2))))
    (tSeq (tFor (iTup K (tTup (tCons (tC (.int 0)) (tCons (tVar 2) (tCons (tUn (rU fun i => .int (-i)) (tVar 2)) tNil))))) (gName 5)
    (tIfS (tTest (tOp (rNeD K) (tLc (iTup K (tTup (tCons (tC (.int 0)) (tCons (tVar 2) (tCons (tUn (rU fun i => .int (-i)) (tVar 2)) tNil))))) (gName 6) (tTest (tOp (rNeD K) (tCall c_law_far [] E0 (tCons (tVar 0) (tCons (tVar 5) (tCons (tVar 6) tNil)))) (tCall c_law_far [] E0 (tCons (tVar 1) (tCons (tVar 5) (tCons (tVar 6) tNil)))))) (tC (.int 1)) [6]) (tLst tNil)))
    (tRet (tC (.bl true)))
    tNext))
    (tRet (tC (.bl false))))))
def ts_distance (K : PySem.W.Frag) (cform : Sp) (cdistance_of : Sp) : TS :=
    (tRet (tCall cdistance_of [] E0 (tCons (tCall cform [] E0 (tCons (tVar 0) tNil)) (tCons (tVar 1) (tCons (tVar 2) tNil)))))
def ts_filled (K : PySem.W.Frag) (cfilled : Sp) : TS :=
    (tSeq (tAsg (tLst tNil) (gOwn 2))
    (tSeq (tFor (iTup K (tVar 0)) (gStar K 4 (gCons (gName 3) (gCons (gName 4) (gCons (gName 5) (gCons (gName 6) (gCons (gName 7) gNil))))))
    (tSeq (tAsg (tVar 1) (gStar K 1 (gCons (gName 8) (gCons (gName 1) gNil))))
    (tSeq (tIfS (tTest (tOp (rEqD K) (tVar 3) (tC (.str "group"))))
    (tSeq (tAsg (tCall cfilled [] E0 (tCons (tOp (rIx K) (tVar 7) (tC (.int 0))) (tCons (tVar 1) tNil))) (gTup K 2 (gCons (gName 9) (gCons (gName 1) gNil))))
    (tAsg (tLst (tCons (tVar 9) tNil)) (gName 7)))
    tNext)
    (tSeq (tAsg (tVar 1) (gStar K 1 (gCons (gName 10) (gCons (gName 1) gNil))))
    (tDrop (tBM K "list" rAppend (tVar 2) (tCons (tTup (tCons (tVar 3) (tCons (tVar 8) (tCons (tVar 10) (tCons (tVar 6) (StX.tStar K (tVar 7) tNil)))))) tNil)))))))
    (tRet (tTup (tCons (tCB (rTupQ K) (tCons (tVar 2) tNil)) (tCons (tVar 1) tNil))))))
def ts_with_margins (K : PySem.W.Frag) (cfilled : Sp) : TS :=
    (tRet (tOp (rIx K) (tCall cfilled [] E0 (tCons (tVar 0) (tCons (tVar 1) tNil))) (tC (.int 0))))
def ts_with_margin (K : PySem.W.Frag) (cmargins : Sp) (cwith_margins : Sp) : TS :=
    (tSeq (tAsg (tCall cmargins [] E0 (tCons (tVar 0) tNil)) (gOwn 3))
    (tSeq (tAsg (tVar 2) (gSub (tVar 3) (tVar 1) rSetL))
    (tRet (tCall cwith_margins [] E0 (tCons (tVar 0) (tCons (tVar 3) tNil))))))
def ts_needless (K : PySem.W.Frag) (cgaps : Sp) (cmargins : Sp) (cwith_margin : Sp) : TS :=
    (tSeq (tAsg (tCall cgaps [] E0 (tCons (tVar 0) tNil)) (gName 1))
    (tRet (tLc (iRng1 (tCons (tCB (rLenQ K) (tCons (tCall cmargins [] E0 (tCons (tVar 0) tNil)) tNil)) tNil)) (gName 2) (tTest (tOp (rEqD K) (tCall cgaps [] E0 (tCons (tCall cwith_margin [] E0 (tCons (tVar 0) (tCons (tVar 2) (tCons (tC (.int 0)) tNil)))) tNil)) (tVar 1))) (tVar 2) [2])))
def ts__law_gaps (K : PySem.W.Frag) (c_law_parts : Sp) (c_law_runs : Sp) (c_law_gap : Sp) : TS :=
    (tRet (tLc (iList K (tOp (rIx K) (tCall c_law_runs [] E0 (tCons (tCall c_law_parts [] E0 (tCons (tVar 0) tNil)) tNil)) (tC (.int 0)))) (gName 1) tYes (tCall c_law_gap [] E0 (tCons (tVar 1) tNil)) [1]))
def ts_move (K : PySem.W.Frag) (cwith_margin : Sp) (ctotal : Sp) : TS :=
    (tRet (tOp (rI0 fun i j => .int (i - j)) (tCall ctotal [] E0 (tCons (tCall cwith_margin [] E0 (tCons (tVar 0) (tCons (tVar 1) (tCons (tVar 2) tNil)))) tNil)) (tCall ctotal [] E0 (tCons (tVar 0) tNil))))
def ts_plan (K : PySem.W.Frag) (cruns : Sp) (cgap : Sp) (cpair : Sp) : TS :=
    (tSeq (tPar (oB true 2) (oB false 3) (tCons (tLst tNil) (tCons (tC (.int 0)) tNil)))
    (tSeq (tFor (iZip K (tCons (tCall cruns [] E0 (tCons (tVar 0) tNil)) (tCons (tVar 1) tNil))) (gTup K 2 (gCons (gName 4) (gCons (gName 5) gNil)))
    (tSeq (tIfS (tTest (tOp (rNeD K) (tCall cgap [] E0 (tCons (tVar 4) tNil)) (tVar 5)))
    (tSeq (tIfS (tTest (tOp (rEqD K) (tVar 4) (tTup tNil)))
    (tRet (tC .non))
    tNext)
    (tSeq (tAsg (tCall cpair [] E0 (tCons (tSl (rSlA K) (tVar 4) (tPart (tC (.int 1))) tNoPart) tNil)) (gTup K 2 (gCons (gName 6) (gCons (gName 7) gNil))))
    (tSeq (tAsg (tTup (tCons (tIf (tTest (tOp (rI0 fun i j => .bl (decide (j < i))) (tVar 5) (tOp (rI0 fun i j => .int (i + j)) (tVar 6) (tVar 7)))) (tOp (rI0 fun i j => .int (i - j)) (tVar 5) (tVar 7)) (tOp (rI0 fun i j => .int (i - j)) (tVar 5) (tVar 6))) (StX.tStar K (tSl (rSlA K) (tVar 4) (tPart (tC (.int 1))) tNoPart) tNil))) (gName 4))
    (tAug 3 (tC (.int 1)) (ipI fun i j => i + j)))))
    tNext)
    (tDrop (tBM K "list" rExtend (tVar 2) (tCons (tVar 4) tNil)))))
    (tRet (tTup (tCons (tVar 2) (tCons (tVar 3) tNil))))))
def ts_fewest_changes (K : PySem.W.Frag) (cplan : Sp) : TS :=
    (tSeq (tAsg (tCall cplan [] E0 (tCons (tVar 0) (tCons (tVar 1) tNil))) (gName 2))
    (tRet (tIf (tB (tNotN (tVar 2))) (tOp (rIx K) (tVar 2) (tC (.int 1))) (tC .non))))
def ts_mended (K : PySem.W.Frag) (cplan : Sp) (cwith_margins : Sp) : TS :=
    (tSeq (tAsg (tCall cplan [] E0 (tCons (tVar 0) (tCons (tVar 1) tNil))) (gName 2))
    (tRet (tIf (tB (tNotN (tVar 2))) (tCall cwith_margins [] E0 (tCons (tVar 0) (tCons (tOp (rIx K) (tVar 2) (tC (.int 0))) tNil))) (tC .non))))
def ts__law_bare (K : PySem.W.Frag) (c_law_margins : Sp) (c_law_with : Sp) : TS :=
    (tRet (tCall c_law_with [] E0 (tCons (tVar 0) (tCons (tOp rRep (tLst (tCons (tC (.int 0)) tNil)) (tCB (rLenQ K) (tCons (tCall c_law_margins [] E0 (tCons (tVar 0) tNil)) tNil))) tNil))))
def ts_groups (K : PySem.W.Frag) (cgroups : Sp) : TS :=
    (tSeq (tAsg (tLst tNil) (gOwn 1))
    (tSeq (tFor (iTup K (tVar 0)) (gName 2)
    (tIfS (tTest (tOp (rEqD K) (tOp (rIx K) (tVar 2) (tC (.int 0))) (tC (.str "group"))))
    (tSeq (tDrop (tBM K "list" rAppend (tVar 1) (tCons (tVar 2) tNil)))
    (tDrop (tBM K "list" rExtend (tVar 1) (tCons (tCall cgroups [] E0 (tCons (tOp (rIx K) (tVar 2) (tC (.int 4))) tNil)) tNil))))
    tNext))
    (tRet (tVar 1))))
def ts_dissolved (K : PySem.W.Frag) (cwithout : Sp) : TS :=
    (tRet (tOp (rIx K) (tCall cwithout [] E0 (tCons (tVar 0) (tCons (tVar 1) tNil))) (tC (.int 0))))
def ts_invisible_here (K : PySem.W.Frag) (cgroups : Sp) (cdissolved : Sp) (cedges : Sp) (ctotal : Sp) : TS :=
    (tSeq (tAsg (tLst tNil) (gOwn 1))
    (tSeq (tFor (iRng1 (tCons (tCB (rLenQ K) (tCons (tCall cgroups [] E0 (tCons (tVar 0) tNil)) tNil)) tNil)) (gName 2)
    (tSeq (tAsg (tCall cdissolved [] E0 (tCons (tVar 0) (tCons (tVar 2) tNil))) (gName 3))
    (tIfS (tAnd (tTest (tOp (rEqD K) (tCall cedges [] E0 (tCons (tVar 3) tNil)) (tCall cedges [] E0 (tCons (tVar 0) tNil)))) (tTest (tOp (rEqD K) (tCall ctotal [] E0 (tCons (tVar 3) tNil)) (tCall ctotal [] E0 (tCons (tVar 0) tNil)))))
    (tDrop (tBM K "list" rAppend (tVar 1) (tCons (tVar 2) tNil)))
    tNext)))
    (tRet (tVar 1))))
def ts__law_count (K : PySem.W.Frag) (c_law_count : Sp) : TS :=
    (tSeq (tAsg (tC (.int 0)) (gName 1))
    (tSeq (tFor (iTup K (tVar 0)) (gName 2)
    (tIfS (tTest (tOp (rEqD K) (tOp (rIx K) (tVar 2) (tC (.int 0))) (tC (.str "group"))))
    (tAsg (tOp (rI0 fun i j => .int (i + j)) (tOp (rI0 fun i j => .int (i + j)) (tVar 1) (tC (.int 1))) (tCall c_law_count [] E0 (tCons (tOp (rIx K) (tVar 2) (tC (.int 4))) tNil))) (gName 1))
    tNext))
    (tRet (tVar 1))))
def ts__law_dissolved (K : PySem.W.Frag) (c_law_count : Sp) (c_law_dissolved : Sp) : TS :=
    (tSeq (tAsg (tTup tNil) (gName 2))
    (tSeq (tFor (iTup K (tVar 0)) (gName 3)
    (tSeq (tAsg (tCall c_law_count [] E0 (tCons (tTup (tCons (tVar 3) tNil)) tNil)) (gName 4))
    (tSeq (tIfS (tAnd (tTest (tOp (rEqD K) (tVar 1) (tC (.int 0)))) (tTest (tOp (rEqD K) (tOp (rIx K) (tVar 3) (tC (.int 0))) (tC (.str "group")))))
    (tAsg (tOp (rCatA K) (tVar 2) (tOp (rIx K) (tVar 3) (tC (.int 4)))) (gName 2))
    (tIfS (tTest (tChain (rI0 fun i j => .bl (decide (i < j))) (rI0 fun i j => .bl (decide (i < j))) (tC (.int 0)) (tVar 1) (tVar 4)))
    (tAsg (tOp (rCatA K) (tVar 2) (tTup (tCons (tOp (rCatA K) (tSl (rSlA K) (tVar 3) tNoPart (tPart (tC (.int 4)))) (tTup (tCons (tCall c_law_dissolved [] E0 (tCons (tOp (rIx K) (tVar 3) (tC (.int 4))) (tCons (tOp (rI0 fun i j => .int (i - j)) (tVar 1) (tC (.int 1))) tNil))) tNil))) tNil))) (gName 2))
    (tAsg (tOp (rCatA K) (tVar 2) (tTup (tCons (tVar 3) tNil))) (gName 2))))
    (tAsg (tOp (rI0 fun i j => .int (i - j)) (tVar 1) (tVar 4)) (gName 1)))))
    (tRet (tVar 2))))
def ts_invisible_always (K : PySem.W.Frag) (cgroups : Sp) (cform : Sp) : TS :=
    (tSeq (tAsg (tLst tNil) (gOwn 1))
    (tSeq (tFor (iEnum K (tCons (tCall cgroups [] E0 (tCons (tVar 0) tNil)) tNil)) (gTup K 2 (gCons (gName 2) (gCons (gName 3) gNil)))
    (tIfS (tAnd (tTest (tOp (rEqD K) (tOp (rIx K) (tVar 3) (tC (.int 3))) (tC (.int 0)))) (tTest (tOp (rEqD K) (tCall cform [] E0 (tCons (tTup (tCons (tVar 3) tNil)) tNil)) (tCall cform [] E0 (tCons (tOp (rIx K) (tVar 3) (tC (.int 4))) tNil)))))
    (tDrop (tBM K "list" rAppend (tVar 1) (tCons (tVar 2) tNil)))
    tNext))
    (tRet (tVar 1))))
def ts__law_groups (K : PySem.W.Frag) (c_law_groups : Sp) : TS :=
    (tSeq (tAsg (tLst tNil) (gName 1))
    (tSeq (tFor (iTup K (tVar 0)) (gName 2)
    (tIfS (tTest (tOp (rEqD K) (tOp (rIx K) (tVar 2) (tC (.int 0))) (tC (.str "group"))))
    (tAsg (tOp rCat (tOp rCat (tVar 1) (tLst (tCons (tVar 2) tNil))) (tCall c_law_groups [] E0 (tCons (tOp (rIx K) (tVar 2) (tC (.int 4))) tNil))) (gName 1))
    tNext))
    (tRet (tVar 1))))
def ts__law_second_right (K : PySem.W.Frag) (cmargins : Sp) (cneedless : Sp) (cmove : Sp) (clean : Sp) (cwith_margin : Sp) (cedges : Sp) (cpossible_margins : Sp) (cfewest_changes : Sp) (cmended : Sp) (cgaps : Sp) (cinvisible_here : Sp) (cdissolved : Sp) (cinvisible_always : Sp) : TS :=
    (tSeq (tAsg (tTup (tCons (tTup (tCons (tC (.str "block")) (tCons (tC (.int 10)) (tCons (tC (.int 4)) (tCons (tOp (rI0 fun i j => .int (i + j)) (tC (.int 20)) (tVar 0)) tNil))))) (tCons (tTup (tCons (tC (.str "group")) (tCons (tUn (rU fun i => .int (-i)) (tC (.int 3))) (tCons (tC (.int 0)) (tCons (tC (.int 0)) (tCons (tTup (tCons (tTup (tCons (tC (.str "block")) (tCons (tC (.int 12)) (tCons (tC (.int 5)) (tCons (tC (.int 30)) tNil))))) tNil)) tNil)))))) tNil))) (gName 1))
    (tSeq (tIfS (tOr (tTest (tOp (rNeD K) (tCall cmargins [] E0 (tCons (tVar 1) tNil)) (tLst (tCons (tC (.int 10)) (tCons (tC (.int 4)) (tCons (tUn (rU fun i => .int (-i)) (tC (.int 3))) (tCons (tC (.int 12)) (tCons (tC (.int 5)) (tCons (tC (.int 0)) tNil))))))))) (tOr (tTest (tOp (rNeD K) (tCall cneedless [] E0 (tCons (tVar 1) tNil)) (tLst (tCons (tC (.int 1)) (tCons (tC (.int 5)) tNil))))) (tTest (tOp (rNeD K) (tCall cmove [] E0 (tCons (tVar 1) (tCons (tC (.int 3)) (tCons (tC (.int 20)) tNil)))) (tC (.int 8))))))
    (tRet (tC (.bl false)))
    tNext)
    (tSeq (tIfS (tOr (tTest (tOp (rNeD K) (tOp (rIx K) (tCall clean [] E0 (tCons (tVar 1) tNil)) (tC (.int 0))) (tTup (tCons (tC (.str "block")) (tCons (tC (.int 10)) (tCons (tC (.int 0)) (tCons (tOp (rI0 fun i j => .int (i + j)) (tC (.int 20)) (tVar 0)) tNil))))))) (tTest (tOp (rNeD K) (tOp (rIx K) (tCall cwith_margin [] E0 (tCons (tVar 1) (tCons (tC (.int 0)) (tCons (tUn (rU fun i => .int (-i)) (tC (.int 7))) tNil)))) (tC (.int 0))) (tTup (tCons (tC (.str "block")) (tCons (tUn (rU fun i => .int (-i)) (tC (.int 7))) (tCons (tC (.int 4)) (tCons (tOp (rI0 fun i j => .int (i + j)) (tC (.int 20)) (tVar 0)) tNil))))))))
    (tRet (tC (.bl false)))
    tNext)
    (tSeq (tIfS (tTest (tOp (rNeD K) (tCall cpossible_margins [] E0 (tCons (tVar 1) (tCons (tC (.int 1)) (tCons (tCall cedges [] E0 (tCons (tVar 1) tNil)) tNil)))) (tTup (tCons (tUn (rU fun i => .int (-i)) (tC (.int 3))) (tCons (tC (.int 12)) tNil)))))
    (tRet (tC (.bl false)))
    tNext)
    (tSeq (tIfS (tTest (tOp (rNeD K) (tCall cpossible_margins [] E0 (tCons (tVar 1) (tCons (tC (.int 3)) (tCons (tLst (tCons (tTup (tCons (tC (.int 10)) (tCons (tOp (rI0 fun i j => .int (i + j)) (tC (.int 30)) (tVar 0)) tNil))) (tCons (tTup (tCons (tOp (rI0 fun i j => .int (i + j)) (tC (.int 40)) (tVar 0)) (tCons (tOp (rI0 fun i j => .int (i + j)) (tC (.int 70)) (tVar 0)) tNil))) tNil))) tNil)))) (tTup (tCons (tC (.int 13)) (tCons (tC (.int 13)) tNil)))))
    (tRet (tC (.bl false)))
    tNext)
    (tSeq (tIfS (tOr (tTest (tOp (rNeD K) (tCall cfewest_changes [] E0 (tCons (tVar 1) (tCons (tLst (tCons (tC (.int 10)) (tCons (tC (.int 9)) (tCons (tC (.int 0)) tNil)))) tNil))) (tC (.int 1)))) (tTest (tOp (rNeD K) (tCall cgaps [] E0 (tCons (tCall cmended [] E0 (tCons (tVar 1) (tCons (tLst (tCons (tC (.int 0)) (tCons (tUn (rU fun i => .int (-i)) (tC (.int 20))) (tCons (tC (.int 7)) tNil)))) tNil))) tNil)) (tLst (tCons (tC (.int 0)) (tCons (tUn (rU fun i => .int (-i)) (tC (.int 20))) (tCons (tC (.int 7)) tNil)))))))
    (tRet (tC (.bl false)))
    tNext)
    (tSeq (tIfS (tOr (tB (tNotN (tCall cfewest_changes [] E0 (tCons (tTup (tCons (tTup (tCons (tC (.str "group")) (tCons (tC (.int 0)) (tCons (tC (.int 0)) (tCons (tC (.int 2)) (tCons (tTup tNil) tNil)))))) tNil)) (tCons (tLst (tCons (tC (.int 0)) (tCons (tC (.int 1)) (tCons (tC (.int 0)) tNil)))) tNil))))) (tTest (tOp (rNeD K) (tCall cinvisible_here [] E0 (tCons (tVar 1) tNil)) (tLst tNil))))
    (tRet (tC (.bl false)))
    tNext)
    (tSeq (tIfS (tTest (tOp (rNeD K) (tCall cdissolved [] E0 (tCons (tVar 1) (tCons (tC (.int 0)) tNil))) (tTup (tCons (tOp (rIx K) (tVar 1) (tC (.int 0))) (tCons (tTup (tCons (tC (.str "block")) (tCons (tC (.int 12)) (tCons (tC (.int 5)) (tCons (tC (.int 30)) tNil))))) tNil)))))
    (tRet (tC (.bl false)))
    tNext)
    (tRet (tOp (rEqD K) (tCall cinvisible_always [] E0 (tCons (tTup (tCons (tTup (tCons (tC (.str "group")) (tCons (tC (.int 2)) (tCons (tC (.int 3)) (tCons (tC (.int 0)) (tCons (tTup (tCons (tTup (tCons (tC (.str "block")) (tCons (tC (.int 5)) (tCons (tC (.int 5)) (tCons (tC (.int 10)) tNil))))) tNil)) tNil)))))) tNil)) tNil)) (tLst (tCons (tC (.int 0)) tNil))))))))))))
end MG
end
section
set_option linter.all false
set_option maxRecDepth 100000
set_option maxHeartbeats 4000000
/-! MA2: more loops by folds. -/
namespace MG
open PySem L2 MR
section
variable {V : Vol} {δ : List Slot} {K : PySem.W.Frag}
theorem take_split {α : Type} {xs : List α} {i : Nat} {x : α} (e : xs[i]? = some x) : xs = xs.take i ++ x :: xs.drop (i + 1) := by
  have hl := (List.getElem?_eq_some_iff.mp e).1
  have := (List.getElem?_eq_some_iff.mp e).2
  rw [← this, List.getElem_cons_drop, List.take_append_drop]
theorem map_get {α : Type} {xs : List α} {f : α → D} {i : Nat} {d : D} (h : (xs.map f)[i]? = some d) : ∃ x, xs[i]? = some x ∧ d = f x := by
  rw [List.getElem?_map] at h
  cases e : xs[i]? with
  | none => rw [e] at h; cases h
  | some x => rw [e] at h; cases h; exact ⟨x, rfl, rfl⟩
theorem zip_get {α β : Type} {xs : List α} {ys : List β} {i : Nat} {x : α} {y : β} (h1 : xs[i]? = some x) (h2 : ys[i]? = some y) : (xs.zip ys)[i]? = some (x, y) := by
  rw [List.zip, List.getElem?_zipWith, h1, h2]
theorem ixN_last (n : Nat) : ixN (n + 1) (-1) = some n := by
  unfold ixN
  have h1 : ¬ (0 : Int) ≤ -1 := by omega
  simp [h1]
  omega
theorem atI_lastD (ds : List D) (d : D) : atI (ds ++ [d]) (-1) = some d := by
  refine atI_of (j := ds.length) ?_ (by simp)
  rw [List.length_append]; exact ixN_last _
theorem ixk_last {ds : List D} {d : D} {k : D → Prop} (h : k d) : IxK (.lst (ds ++ [d])) (.int (-1)) k := ixk_l (atI_lastD ds d) h
theorem xs_setLast {j : Nat} {ds : List D} {d0 : D} {te : TE} {E : AEnds} (e : δ[j]? = some (.own (ds ++ [d0]))) (h : XE V te δ fun a => a.ok ∧ E.nx (δ.set j (.own (ds ++ [a.d])))) :
    XS V (tAsg te (gSub (tVar j) (tUn (rU fun i => .int (-i)) (tC (.int 1))) rSetL)) δ E :=
  xs_setIx e (h.imp fun a ⟨ok, p⟩ => ⟨ok, xe_U (xe_c ⟨1, rfl, -1, ds.length, rfl, by rw [List.length_append]; exact ixN_last _, by
    rw [List.set_append_right _ _ (Nat.le_refl _), Nat.sub_self]; exact p⟩)⟩)
theorem xs_forZF {α β γ : Type} {ta : TA} {g : TG} {tb : TS} {E : AEnds} (xs : List α) (ys : List β) (ea : α → D) (eb : β → D) (b0 : γ) (step : γ → α × β → γ) (sl : γ → List Slot → Prop)
    (h : XA V ta δ fun as => ∃ a b, as = [a, b] ∧ a.ok ∧ b.ok ∧ a.d = .lst (xs.map ea) ∧ b.d = .lst (ys.map eb) ∧ sl b0 δ ∧
      (∀ pre x y post, xs.zip ys = pre ++ (x, y) :: post → ∀ δ', sl (pre.foldl step b0) δ' → XG V g (.tup [ea x, eb y]) δ' fun δ2 => XS V tb δ2 { E with nx := sl (step (pre.foldl step b0) (x, y)), ct := sl (step (pre.foldl step b0) (x, y)), bk := E.nx }) ∧
      ∀ δ', sl ((xs.zip ys).foldl step b0) δ' → E.nx δ') : XS V (tFor (iZip K ta) g tb) δ E := by
  refine xs_forZ fun O0 H0 O σ H m Q q => h O0 H0 O σ H m Q fun as vs H' g r ⟨a, b, e, oa, ob, ea', eb', s0, st, en⟩ => q as vs H' g r
    ⟨a, b, _, _, e, oa, ob, ea', eb', fun i δ' => sl (((xs.zip ys).take i).foldl step b0) δ', s0, ?_, fun δ' s => en δ' ?_⟩
  · intro i d d2 h1 h2 δ' s
    obtain ⟨x, ex, rfl⟩ := map_get h1
    obtain ⟨y, ey, rfl⟩ := map_get h2
    have ez := zip_get ex ey
    have k := st _ x y _ (take_split ez) δ' s
    rw [← take_fold step b0 _ ez] at k
    exact k
  · rw [List.length_map, List.length_map, ← List.length_zip, List.take_length] at s; exact s
theorem xs_forEF {α γ : Type} {ta : TA} {g : TG} {tb : TS} {E : AEnds} (xs : List α) (ea : α → D) (b0 : γ) (step : γ → α → γ) (sl : γ → List Slot → Prop)
    (h : XA V ta δ fun as => ∃ a, as = [a] ∧ a.ok ∧ a.d = .lst (xs.map ea) ∧ sl b0 δ ∧
      (∀ pre x post, xs = pre ++ x :: post → ∀ δ', sl (pre.foldl step b0) δ' → XG V g (.tup [.int (pre.length : Int), ea x]) δ' fun δ2 => XS V tb δ2 { E with nx := sl (step (pre.foldl step b0) x), ct := sl (step (pre.foldl step b0) x), bk := E.nx }) ∧
      ∀ δ', sl (xs.foldl step b0) δ' → E.nx δ') : XS V (tFor (iEnum K ta) g tb) δ E := by
  refine xs_forE fun O0 H0 O σ H m Q q => h O0 H0 O σ H m Q fun as vs H' g r ⟨a, e, oa, ea', s0, st, en⟩ => q as vs H' g r
    ⟨a, _, e, oa, ea', fun i δ' => sl ((xs.take i).foldl step b0) δ', s0, ?_, fun δ' s => en δ' ?_⟩
  · intro i d h1 δ' s
    obtain ⟨x, ex, rfl⟩ := map_get h1
    have k := st _ x _ (take_split ex) δ' s
    rw [← take_fold step b0 _ ex, List.length_take, Nat.min_eq_left (Nat.le_of_lt (List.getElem?_eq_some_iff.mp ex).1)] at k
    exact k
  · rw [List.length_map, List.take_length] at s; exact s
end
end MG
end
section
set_option linter.all false
set_option maxRecDepth 100000
set_option maxHeartbeats 4000000
/-! MP1: pair, gap, runs, gaps over the data. -/
namespace MG
open PySem L2 MR
def mx (xs : List Int) : Int := xs.foldr max 0
def mn (xs : List Int) : Int := xs.foldr min 0
theorem mx_mem : ∀ xs : List Int, mx xs ∈ xs ∨ mx xs = 0
  | [] => .inr rfl
  | x :: xs => by
    show max x (mx xs) ∈ x :: xs ∨ max x (mx xs) = 0
    rcases mx_mem xs with h | h
    · by_cases hx : x ≤ mx xs
      · rw [Int.max_eq_right hx]; exact .inl (List.mem_cons_of_mem _ h)
      · rw [Int.max_eq_left (by omega)]; exact .inl List.mem_cons_self
    · rw [h]
      by_cases hx : x ≤ 0
      · rw [Int.max_eq_right hx]; exact .inr rfl
      · rw [Int.max_eq_left (by omega)]; exact .inl List.mem_cons_self
theorem mx_le : ∀ (xs : List Int) (y : Int), y ∈ xs ∨ y = 0 → y ≤ mx xs
  | [], y, h => by rcases h with h | h; · cases h
                   · rw [h]; exact Int.le_refl _
  | x :: xs, y, h => by
    show y ≤ max x (mx xs)
    rcases h with h | h
    · rcases List.mem_cons.mp h with rfl | h
      · exact Int.le_max_left ..
      · exact Int.le_trans (mx_le xs y (.inl h)) (Int.le_max_right ..)
    · exact Int.le_trans (mx_le xs y (.inr h)) (Int.le_max_right ..)
theorem mx_eq {xs : List Int} {m : Int} (h : m ∈ 0 :: (xs ++ [0])) (a : ∀ y ∈ 0 :: (xs ++ [0]), y ≤ m) : m = mx xs := by
  have h1 : m ≤ mx xs := mx_le xs m (by simp at h; rcases h with h | h | h <;> simp [h])
  have h2 : mx xs ≤ m := a _ (by rcases mx_mem xs with h | h <;> simp [h])
  omega
theorem mn_mem : ∀ xs : List Int, mn xs ∈ xs ∨ mn xs = 0
  | [] => .inr rfl
  | x :: xs => by
    show min x (mn xs) ∈ x :: xs ∨ min x (mn xs) = 0
    rcases mn_mem xs with h | h
    · by_cases hx : x ≤ mn xs
      · rw [Int.min_eq_left hx]; exact .inl List.mem_cons_self
      · rw [Int.min_eq_right (by omega)]; exact .inl (List.mem_cons_of_mem _ h)
    · rw [h]
      by_cases hx : x ≤ 0
      · rw [Int.min_eq_left hx]; exact .inl List.mem_cons_self
      · rw [Int.min_eq_right (by omega)]; exact .inr rfl
theorem mn_le : ∀ (xs : List Int) (y : Int), y ∈ xs ∨ y = 0 → mn xs ≤ y
  | [], y, h => by rcases h with h | h; · cases h
                   · rw [h]; exact Int.le_refl _
  | x :: xs, y, h => by
    show min x (mn xs) ≤ y
    rcases h with h | h
    · rcases List.mem_cons.mp h with rfl | h
      · exact Int.min_le_left ..
      · exact Int.le_trans (Int.min_le_right ..) (mn_le xs y (.inl h))
    · exact Int.le_trans (Int.min_le_right ..) (mn_le xs y (.inr h))
theorem mn_eq {xs : List Int} {m : Int} (h : m ∈ 0 :: (xs ++ [0])) (a : ∀ y ∈ 0 :: (xs ++ [0]), m ≤ y) : m = mn xs := by
  have h1 : mn xs ≤ m := mn_le xs m (by simp at h; rcases h with h | h | h <;> simp [h])
  have h2 : m ≤ mn xs := a _ (by rcases mn_mem xs with h | h <;> simp [h])
  omega
def gapI (xs : List Int) : Int := mx xs + mn xs
section
variable {K : PySem.W.Frag}
def spPair : ASp := fun ds P => ∃ xs : List Int, ds = [tI xs] ∧ xs.length ≤ 100000 ∧ P (.dat (tI [mx xs, mn xs]))
theorem xs_pair (ds : List D) (P : AV → Prop) (h : spPair ds P) : XS Vol.nil (ts_pair K) (ds.map Slot.dat ++ List.replicate 0 .no) { nx := fun _ => P (.dat .non), rt := P } := by
  obtain ⟨xs, rfl, hl, hp⟩ := h
  have big := big_size
  have len : 2 ≤ (0 :: (xs ++ [0])).length ∧ (0 :: (xs ++ [0])).length ≤ sizeLine := ⟨by simp, by
    simp; have : (100002 : Nat) ≤ sizeLine := by decide
    omega⟩
  have arg : ∀ {P : List D → Prop}, P (dInts (0 :: (xs ++ [0]))) → XD Vol.nil (tCons (tC (.int 0)) (StX.tStar K (tVar 0) (tCons (tC (.int 0)) tNil))) [.dat (tI xs)] P := fun {P} h =>
    xd_cons (xe_c ⟨trivial, xd_star (xe_vard rfl ⟨dInts xs, .inl rfl, xd_cons (xe_c ⟨trivial, xd_nil (by
      have e : dInts (0 :: (xs ++ [0])) = D.int 0 :: (dInts xs ++ [D.int 0]) := by simp [dInts]
      rw [e] at h; exact h)⟩)⟩)⟩)
  show XS Vol.nil _ [.dat (tI xs)] _
  unfold ts_pair
  refine xs_ret (xe_tupD (xd_cons (xe_Mmax (arg ⟨_, rfl, len.1, len.2, fun m hm ha => ⟨trivial, xd_cons (xe_Mmin (arg ⟨_, rfl, len.1, len.2, fun k hk hb => ⟨trivial, xd_nil ⟨by show 2 ≤ sizeLine; decide, trivial, ?_⟩⟩⟩))⟩⟩))))
  rw [mx_eq hm ha, mn_eq hk hb]
  exact hp
def spGap : ASp := fun ds P => ∃ xs : List Int, ds = [tI xs] ∧ xs.length ≤ 100000 ∧ P (.dat (.int (gapI xs)))
theorem xs_gap (ds : List D) (P : AV → Prop) (h : spGap ds P) : XS Vol.nil (ts_gap K (Lift spPair)) (ds.map Slot.dat ++ List.replicate 0 .no) { nx := fun _ => P (.dat .non), rt := P } := by
  obtain ⟨xs, rfl, hl, hp⟩ := h
  show XS Vol.nil _ [.dat (tI xs)] _
  unfold ts_gap
  refine xs_ret (xe_sumT (xd_cons (xe_call (xa_cons (xe_vard rfl (xa_nil ⟨fun a ha => by simp at ha; rw [ha]; trivial, xs, rfl, hl, trivial, trivial, xd_nil ⟨[mx xs, mn xs], rfl, trivial, ?_⟩⟩))))))
  have e : [mx xs, mn xs].sum = gapI xs := by simp [gapI]
  rw [e]
  exact hp
end
end MG
end
section
set_option linter.all false
set_option maxRecDepth 100000
set_option maxHeartbeats 4000000
/-! MP2: runs over the data. -/
namespace MG
open PySem L2 MR
def rowsOf (ps : List Pt) : List (List Int) := (runsOf ps).rows ++ [(runsOf ps).run]
section
variable {K : PySem.W.Frag} {dp : Nat}
def spRuns (dp : Nat) : ASp := fun ds P => ∃ bs, ds = [Bx.doc bs] ∧ Bx.deps bs ≤ dp ∧ (Bx.ptss bs).length ≤ 100000 ∧ P (.dat (.lst ((rowsOf (Bx.ptss bs)).map tI)))
theorem xs_runs (ds : List D) (P : AV → Prop) (h : spRuns dp ds P) : XS Vol.nil (ts_runs K dp (Lift spSplit)) (ds.map Slot.dat ++ List.replicate 0 .no) { nx := fun _ => P (.dat .non), rt := P } := by
  obtain ⟨bs, rfl, hd, hl, hp⟩ := h
  have big := big_size
  show XS Vol.nil _ [.dat (Bx.doc bs)] _
  unfold ts_runs
  exact xs_ret (xe_ix (xe_call (xa_cons (xe_parts (xa_cons (xe_vard rfl (xa_nil ⟨_, bs, rfl, trivial, rfl, hd, by omega, xa_nil ⟨fun a ha => by simp at ha; rw [ha]; trivial, Bx.ptss bs, rfl, hl, trivial,
    xe_c ⟨_, 0, _, .inl rfl, rfl, rfl, trivial, hp⟩⟩⟩)))))))
end
end MG
end
section
set_option linter.all false
set_option maxRecDepth 100000
set_option maxHeartbeats 4000000
/-! MP3: gaps over the data. -/
namespace MG
open PySem L2 MR
section
variable {K : PySem.W.Frag} {dp : Nat}
theorem rowsOf_len (ps : List Pt) : (rowsOf ps).length ≤ ps.length + 1 := by
  obtain ⟨h, _, _⟩ := Rs.rows_len ps
  unfold rowsOf
  rw [List.length_append]
  show _ + 1 ≤ _
  omega
def spGaps (dp : Nat) : ASp := fun ds P => ∃ bs, ds = [Bx.doc bs] ∧ Bx.deps bs ≤ dp ∧ (Bx.ptss bs).length ≤ 99999 ∧ (∀ r ∈ rowsOf (Bx.ptss bs), r.length ≤ 100000) ∧ P (.new (dInts ((rowsOf (Bx.ptss bs)).map gapI)))
theorem xs_gaps (ds : List D) (P : AV → Prop) (h : spGaps dp ds P) : XS Vol.nil (ts_gaps K (Lift (spRuns dp)) (Lift spGap)) (ds.map Slot.dat ++ List.replicate 1 .no) { nx := fun _ => P (.dat .non), rt := P } := by
  obtain ⟨bs, rfl, hd, hl, hr, hp⟩ := h
  have big := big_size
  have hrl := rowsOf_len (Bx.ptss bs)
  show XS Vol.nil _ [.dat (Bx.doc bs), .no] _
  unfold ts_gaps
  generalize hrows : rowsOf (Bx.ptss bs) = rows at *
  refine xs_ret (xe_lcL (by first | exact tin_name (by decide) | decide) (xe_call (xa_cons (xe_vard rfl (xa_nil ⟨fun a ha => by simp at ha; rw [ha]; trivial, bs, rfl, hd, by omega, trivial, rows.map tI, by rw [hrows]; rfl,
    fun i es => es = dInts ((rows.take i).map gapI), rfl, ?_, ?_⟩)))))
  · rintro i d es hi rfl
    rw [List.getElem?_map] at hi
    obtain ⟨r, er, rfl⟩ : ∃ r, rows[i]? = some r ∧ tI r = d := by
      cases e : rows[i]? with
      | none => rw [e] at hi; cases hi
      | some r => rw [e] at hi; exact ⟨r, rfl, Option.some.inj hi⟩
    have hlt := (List.getElem?_eq_some_iff.mp er).1
    refine xg_name (xt_yes ?_)
    rw [if_pos rfl]
    refine xe_call (xa_cons (xe_vard rfl (xa_nil ⟨fun a ha => by simp at ha; rw [ha]; trivial, r, rfl, hr r (List.mem_of_getElem? er), trivial, trivial, ?_, ?_⟩)))
    · simp [dInts]; omega
    · show _ = dInts (List.map gapI (List.take (i + 1) rows))
      rw [List.take_add_one, er]; simp [dInts]; rfl
  · rintro es rfl
    rw [List.length_map, List.take_of_length_le (Nat.le_refl _)]
    exact ⟨trivial, hp⟩
end
end MG
end
section
set_option linter.all false
set_option maxRecDepth 100000
set_option maxHeartbeats 4000000
namespace MG
open PySem L2
theorem lay_margin : (D.str "margin").lay := by unfold D.lay; decide +kernel
theorem lay_solid : (D.str "solid").lay := by unfold D.lay; decide +kernel
theorem xs_split {K : PySem.W.Frag} (ds : List D) (P : AV → Prop) (h : spSplit ds P) : XS Vol.nil (ts_split K) (ds.map Slot.dat ++ List.replicate 5 .no) { nx := fun _ => P (.dat .non), rt := P } := by
  obtain ⟨ps, rfl, hl, hp⟩ := h
  show XS Vol.nil _ [.dat (.lst (ps.map Pt.d)), .no, .no, .no, .no, .no] _
  unfold ts_split
  refine xs_seq (xs_par3 (by decide) (by decide) (by decide) (by show 2 < 6; decide) (by show 3 < 6; decide) ?_)
  refine xe_lstD (xd_nil ⟨Nat.zero_le _, _, .inr ⟨_, rfl, rfl⟩, ?_⟩)
  refine xe_lstD (xd_nil ⟨Nat.zero_le _, _, .inr ⟨_, rfl, rfl⟩, ?_⟩)
  refine xe_tupD (xd_nil ⟨Nat.zero_le _, _, .inl ⟨trivial, rfl⟩, ?_⟩)
  show XS Vol.nil _ [.dat (.lst (ps.map Pt.d)), .own [], .own [], .dat (.tup []), .no, .no] _
  refine xs_seq (xs_forL (xe_vard rfl ⟨trivial, _, rfl, fun i δ' => ∃ a b, δ' = [.dat (.lst (ps.map Pt.d)), .own (((ps.take i).foldl Rs.step ⟨[], [], []⟩).rows.map tI), .own (dInts ((ps.take i).foldl Rs.step ⟨[], [], []⟩).sol), .dat (tI ((ps.take i).foldl Rs.step ⟨[], [], []⟩).run), a, b], ⟨.no, .no, rfl⟩, ?_, ?_⟩))
  · rintro i d hi δ' ⟨a, b, rfl⟩
    rw [List.getElem?_map] at hi
    obtain ⟨p, ep, rfl⟩ : ∃ p, ps[i]? = some p ∧ p.d = d := by
      cases e : ps[i]? with
      | none => rw [e] at hi; cases hi
      | some p => rw [e] at hi; exact ⟨p, rfl, Option.some.inj hi⟩
    have hlen : i < ps.length := (List.getElem?_eq_some_iff.mp ep).1
    obtain ⟨l1, l2, _⟩ := Rs.rows_len (ps.take i)
    rw [List.length_take] at l1 l2
    have tf := take_fold Rs.step ⟨[], [], []⟩ ps ep
    generalize hr : (ps.take i).foldl Rs.step ⟨[], [], []⟩ = r at tf
    have l1 : r.rows.length + r.run.length ≤ 100000 := by rw [← hr]; unfold runsOf at l1; omega
    have l2 : r.sol.length ≤ 100000 := by rw [← hr]; unfold runsOf at l2; omega
    have big : (100001 : Nat) ≤ sizeLine := by decide
    cases p with
    | m n =>
      refine xg_tup rfl rfl (xgs_cons (xg_name (xgs_cons (xg_name (xgs_nil ?_)))))
      refine xs_if (xt_test (xe_eqD (xe_vard rfl (xe_c ⟨lay_margin, lay_solid, _, rfl, ?_⟩))))
      refine xs_set (xe_tupD (xd_star (xe_vard rfl ⟨_, .inl rfl, xd_cons (xe_vard rfl ⟨trivial, xd_nil ⟨?_, trivial, ?_⟩⟩)⟩)))
      · unfold dInts; simp; omega
      · refine ⟨.dat (.str "margin"), .dat (.int n), ?_⟩
        show _ = [_, _, _, _, _, _]
        rw [tf]
        simp [Rs.step, tI, dInts]
        rfl
    | s n =>
      refine xg_tup rfl rfl (xgs_cons (xg_name (xgs_cons (xg_name (xgs_nil ?_)))))
      refine xs_if (xt_test (xe_eqD (xe_vard rfl (xe_c ⟨lay_solid, lay_solid, _, rfl, ?_⟩))))
      refine xs_seq (xs_app (ds := dInts r.sol) rfl (xe_vard rfl ⟨trivial, ?_, ?_⟩))
      · unfold dInts; simp; omega
      refine xs_seq (xs_app (ds := r.rows.map tI) rfl (xe_vard rfl ⟨trivial, ?_, ?_⟩))
      · simp; omega
      refine xs_set (xe_tupD (xd_nil ⟨Nat.zero_le _, trivial, ?_⟩))
      refine ⟨.dat (.str "solid"), .dat (.int n), ?_⟩
      show _ = [_, _, _, _, _, _]
      rw [tf]
      simp [Rs.step, tI, dInts, AV.d]
  · rintro δ' ⟨a, b, rfl⟩
    rw [List.length_map, List.take_length]
    obtain ⟨l1, l2, _⟩ := Rs.rows_len ps
    have big : (100001 : Nat) ≤ sizeLine := by decide
    refine xs_rel 2 rfl ?_
    refine xs_ret (xe_tup (xa_cons (xe_catL (xe_varo rfl (xe_lstD (xd_cons (xe_vard rfl ⟨trivial, xd_nil ⟨by show 1 ≤ sizeLine; decide, _, _, rfl, rfl, ?_, ?_⟩⟩)))))))
    · simp; unfold runsOf at l1; omega
    · refine xa_cons (xe_vard rfl (xa_nil ⟨?_, by show 2 ≤ sizeLine; decide, trivial, ?_⟩))
      · intro a ha
        simp at ha
        rcases ha with rfl | rfl <;> trivial
      · have e : splitD ps = .tup [.lst (((ps.foldl Rs.step ⟨[], [], []⟩).rows.map tI) ++ [tI (ps.foldl Rs.step ⟨[], [], []⟩).run]), .lst (dInts (ps.foldl Rs.step ⟨[], [], []⟩).sol)] := by
          unfold splitD runsOf; simp
        rw [e] at hp
        exact hp
end MG
end
section
set_option linter.all false
set_option maxRecDepth 100000
set_option maxHeartbeats 4000000
/-! MP5: total over the data. -/
namespace MG
open PySem L2 MR
section
variable {K : PySem.W.Frag} {dp : Nat}
def solOf (ps : List Pt) : List Int := (runsOf ps).sol
def totalOf (ps : List Pt) : Int := ((rowsOf ps).map gapI).sum + (solOf ps).sum
def spTotal (dp : Nat) : ASp := fun ds P => ∃ bs, ds = [Bx.doc bs] ∧ Bx.deps bs ≤ dp ∧ (Bx.ptss bs).length ≤ 99999 ∧ (∀ r ∈ rowsOf (Bx.ptss bs), r.length ≤ 100000) ∧ P (.dat (.int (totalOf (Bx.ptss bs))))
theorem xs_total (ds : List D) (P : AV → Prop) (h : spTotal dp ds P) : XS Vol.nil (ts_total K dp (Lift spSplit) (Lift spGap)) (ds.map Slot.dat ++ List.replicate 3 .no) { nx := fun _ => P (.dat .non), rt := P } := by
  obtain ⟨bs, rfl, hd, hl, hr, hp⟩ := h
  have big := big_size
  have hrl := rowsOf_len (Bx.ptss bs)
  show XS Vol.nil _ [.dat (Bx.doc bs), .no, .no, .no] _
  unfold ts_total
  refine xs_seq (xs_asg (xe_call (xa_cons (xe_parts (xa_cons (xe_vard rfl (xa_nil ⟨_, bs, rfl, trivial, rfl, hd, by omega, xa_nil ⟨fun a ha => by simp at ha; rw [ha]; trivial, Bx.ptss bs, rfl, by omega, trivial, trivial,
    xg_tup rfl rfl (xgs_cons (xg_name (xgs_cons (xg_name (xgs_nil ?_)))))⟩⟩)))))))
  show XS Vol.nil _ [.dat (Bx.doc bs), .dat (.lst ((rowsOf (Bx.ptss bs)).map tI)), .dat (.lst (dInts (solOf (Bx.ptss bs)))), .no] _
  unfold totalOf at hp
  generalize hrows : rowsOf (Bx.ptss bs) = rows at *
  refine xs_ret (xe_I0 (xe_sum (xa_cons (xe_lcL (tin_name (by decide)) (xe_vard rfl ⟨rows.map tI, rfl, fun i es => es = dInts ((rows.take i).map gapI), rfl, ?_, ?_⟩)))))
  · rintro i d es hi rfl
    rw [List.getElem?_map] at hi
    obtain ⟨r, er, rfl⟩ : ∃ r, rows[i]? = some r ∧ tI r = d := by
      cases e : rows[i]? with
      | none => rw [e] at hi; cases hi
      | some r => rw [e] at hi; exact ⟨r, rfl, Option.some.inj hi⟩
    have hlt := (List.getElem?_eq_some_iff.mp er).1
    refine xg_name (xt_yes ?_)
    rw [if_pos rfl]
    refine xe_call (xa_cons (xe_vard rfl (xa_nil ⟨fun a ha => by simp at ha; rw [ha]; trivial, r, rfl, hr r (List.mem_of_getElem? er), trivial, trivial, ?_, ?_⟩)))
    · simp [dInts]; omega
    · show _ = dInts (List.map gapI (List.take (i + 1) rows))
      rw [List.take_add_one, er]; simp [dInts]; rfl
  · rintro es rfl
    rw [List.length_map, List.take_of_length_le (Nat.le_refl _)]
    exact xa_nil ⟨_, rows.map gapI, rfl, rfl, _, rfl, xe_sum (xa_cons (xe_vard rfl (xa_nil ⟨_, solOf (Bx.ptss bs), rfl, rfl, _, rfl, trivial, hp⟩)))⟩
end
end MG
end
section
set_option linter.all false
set_option maxRecDepth 100000
set_option maxHeartbeats 4000000
/-! MP6: edges over the data. -/
namespace MG
open PySem L2 MR
/-- from here on: where solids begin and end -/
def edgesFrom : Int → List (List Int × Int) → List (Int × Int)
  | _, [] => []
  | h, (r, z) :: ps => (h + gapI r, h + gapI r + z) :: edgesFrom (h + gapI r + z) ps
def edgesOf (ps : List Pt) : List (Int × Int) := edgesFrom 0 ((rowsOf ps).zip (solOf ps))
def eD (p : Int × Int) : D := .tup [.int p.1, .int p.2]
def hereAt (h : Int) (l : List (List Int × Int)) : Int := l.foldl (fun h q => h + gapI q.1 + q.2) h
theorem edgesFrom_snoc : ∀ (h : Int) (l : List (List Int × Int)) (q : List Int × Int), edgesFrom h (l ++ [q]) = edgesFrom h l ++ [(hereAt h l + gapI q.1, hereAt h l + gapI q.1 + q.2)]
  | h, [], q => rfl
  | h, (r, z) :: l, q => by
    show (_, _) :: edgesFrom _ (l ++ [q]) = _
    rw [edgesFrom_snoc]; rfl
theorem edgesFrom_len : ∀ (h : Int) (l : List (List Int × Int)), (edgesFrom h l).length = l.length
  | _, [] => rfl
  | h, (r, z) :: l => by
    show (edgesFrom _ l).length + 1 = l.length + 1
    rw [edgesFrom_len]
theorem hereAt_snoc (h : Int) (l : List (List Int × Int)) (q : List Int × Int) : hereAt h (l ++ [q]) = hereAt h l + gapI q.1 + q.2 := by
  unfold hereAt; rw [List.foldl_append]; rfl
end MG
end
section
set_option linter.all false
set_option maxRecDepth 100000
set_option maxHeartbeats 4000000
/-! ML1: the law's own pair, gap, runs, edges, parts. -/
open PySem L2 MR MG
local macro_rules | `(tactic| walk_at "size") => `(tactic| first | (with_reducible assumption) | (with_unfolding_all exact Nat.le_of_ble_eq_true rfl) | (simp [dInts]; omega) | omega)
local macro_rules | `(tactic| walk_at "norm") => `(tactic| (try dsimp only [List.set_cons_succ, List.set_cons_zero, d_dat, d_new, d_brw, ofV_int, ofV_bl, ofV_str, ofV_non, List.map_cons, List.map_nil, List.cons_append, List.nil_append]))
local macro_rules | `(tactic| walk_at "xl") => `(tactic| first
  | ((with_reducible refine' And.intro ?okk ?_); (case okk => exact True.intro))
  | ((with_reducible refine' And.intro (?cmm : CMul _ _) ?_); (case cmm => first | exact .inl ⟨by decide, by decide⟩ | exact .inr ⟨by decide, by decide⟩ | exact .inl ⟨by omega, by omega⟩ | exact .inr ⟨by omega, by omega⟩))
  | ((with_reducible refine' And.intro (?pss : (0 : Int) < _) ?_); (case pss => first | decide | omega))
  | ((with_reducible refine' And.intro (?nrr : ∀ w, _ ≠ D.raw w) ?_); (case nrr => (intro w e; cases e)))
  | ((with_reducible refine' And.intro (?eqq : (_ : D) = _) ?_); (case eqq => exact rfl))
  | ((with_reducible refine' Exists.intro _ (And.intro (?eqq : (_ : D) = _) ?_)); (case eqq => exact rfl))
  | ((with_reducible refine' Exists.intro _ (And.intro (?eqq : (_ : AV) = _) ?_)); (case eqq => exact rfl))
  | ((with_reducible refine' Exists.intro _ (And.intro (?eqq : (_ : List D) = _) ?_)); (case eqq => exact rfl))
  | ((with_reducible refine' turnE ?eqq); (case eqq => exact rfl))
  | ((with_reducible refine' And.intro (?szz : _ ≤ sizeLine) ?_); (case szz => walk_at "size"))
  | ((with_reducible refine' And.intro (?szz : _ < sizeLine) ?_); (case szz => walk_at "size")))
local macro_rules | `(tactic| walk_at "xk") => `(tactic| first
  | ((with_reducible refine' argK ?okk ?_); (case okk => repeat (first | exact allOk_nil | refine allOk_cons True.intro ?_)))
  | (with_reducible refine stob_t ?_) | ((with_reducible refine' stob_f ?okk ?_); (case okk => exact True.intro))
  | ((refine' likek ?eqq ?lkk ?_); (case eqq => exact rfl); (case lkk => walk_at "lk"))
  | refine seqa_t ?_ | refine seqa_l ?_ | refine seqa_n ?_ | refine seqa_b ?_
  | refine starT ?_ | refine starL ?_ | refine bla ?_ | refine cutl ?_ | refine cutt ?_
  | ((refine' catk ?szz ?_); (case szz => walk_at "size")) | ((refine' catt_doc ?szz ?_); (case szz => walk_at "size")) | ((refine' catt ?szz ?_); (case szz => walk_at "size")) | ((refine' catt_docT ?szz ?_); (case szz => walk_at "size"))
  | (refine ixk_last ?_) | (refine ixk_0 ?_) | (refine ixk_last2 ?_) | ((refine' ixk_t ?eqq ?_); (case eqq => exact rfl)) | ((refine' ixk_l ?eqq ?_); (case eqq => exact rfl))
  | refine eqk_int ?_ | refine eqk_bl ?_ | ((refine eqk_str ?s1 ?s2 ?_); (case s1 => with_unfolding_all rfl); (case s2 => with_unfolding_all rfl)))
local macro_rules | `(tactic| walk_at "lk") => `(tactic| first | exact lk_int | exact lk_fm _ | (exact rfl) | (with_reducible assumption) | (apply lk_rows <;> (first | (with_reducible assumption) | omega | (intro r hr; apply Nat.le_trans (by first | (exact (by assumption : ∀ r ∈ _, _) r hr)) (by omega)))) | (apply lk_lI; walk_at "size") | (apply lk_tI; walk_at "size") | (apply lk_edges; walk_at "size"))
local macro_rules | `(tactic| walk_at "sd") => `(tactic| first | (with_reducible assumption) | omega)
local macro_rules | `(tactic| walk_at "sp") => `(tactic| first
  | ((refine' draw_i ?b1 ?b2 ?_); (case b1 => walk_at "sd"); (case b2 => walk_at "sd"); intro r hr0 hr1)
  | ((refine' doc_i ?b1 ?b2 ?_); (case b1 => walk_at "sd"); (case b2 => walk_at "sd"); intro bs hbs)
  | ((refine' lparts_i ?b1 ?b2 ?_); (case b1 => walk_at "sd"); (case b2 => walk_at "sd"))
  | ((refine' runs_i ?b1 ?b2 ?_); (case b1 => walk_at "sd"); (case b2 => walk_at "sd"))
  | ((refine' gaps_i ?b1 ?b2 ?_); (case b1 => walk_at "sd"); (case b2 => walk_at "sd"))
  | ((refine' edges_i ?b1 ?b2 ?_); (case b1 => walk_at "sd"); (case b2 => walk_at "sd"))
  | ((refine' total_i ?b1 ?b2 ?_); (case b1 => walk_at "sd"); (case b2 => walk_at "sd"))
  | ((refine' lruns_i ?b1 ?_); (case b1 => walk_at "sd"))
  | ((refine' ledges_i ?b1 ?_); (case b1 => walk_at "sd"))
  | ((refine' lgap_t ?b1 ?_); (case b1 => walk_at "sd"))
  | ((refine' lgap_l ?b1 ?_); (case b1 => walk_at "sd"))
  | ((refine' gap_t ?b1 ?_); (case b1 => walk_at "sd"))
  | ((refine' form_i ?b1 ?b2 ?_); (case b1 => walk_at "sd"); (case b2 => walk_at "sd"))
  | ((refine' form_of_i ?b1 ?_); (case b1 => walk_at "sd"))
  | (refine distof_i ?_) | ((refine' dist_i ?b1 ?b2 ?_); (case b1 => walk_at "sd"); (case b2 => walk_at "sd"))
  | ((refine' partsA_i ?b1 ?b2 ?_); (case b1 => walk_at "sd"); (case b2 => walk_at "sd"))
  | fail "sp")
local macro_rules | `(tactic| walk_at "xg") => `(tactic| first
  | with_reducible refine xg_name ?_ | ((with_reducible refine' xg_tup ?eqq ?lnn ?_); (case eqq => exact rfl); (case lnn => exact rfl))
  | with_reducible refine xgs_cons ?_ | with_reducible refine xgs_nil ?_)
local macro_rules | `(tactic| walk_at "xe") => `(tactic| first
  | ((with_reducible refine' xe_vard ?eqq ?_); (case eqq => exact rfl)) | ((with_reducible refine' xe_varo ?eqq ?_); (case eqq => exact rfl))
  | with_reducible refine xe_c ?_ | with_reducible refine xe_I0 ?_ | with_reducible refine xe_I ?_ | with_reducible refine xe_U ?_
  | with_reducible refine xe_ixK ?_ | with_reducible refine xe_eqK ?_ | with_reducible refine xe_neK ?_ | with_reducible refine xe_callK ?_ | with_reducible refine xe_likeK ?_ | ((with_reducible refine' xe_drawK ?ttt ?eqq ?_); (case ttt => with_reducible assumption); (case eqq => exact rfl))
  | with_reducible refine xe_partsK ?_ | with_reducible refine xe_tupK ?_ | with_reducible refine xe_lstD ?_ | with_reducible refine xe_catLK ?_ | with_reducible refine xe_catTK ?_
  | with_reducible refine xa_nil ?_ | with_reducible refine xa_cons ?_ | with_reducible refine xd_nil ?_ | with_reducible refine xd_cons ?_
  | with_reducible refine xe_lenK ?_ | with_reducible refine xe_listK ?_ | with_reducible refine xe_tupleK ?_ | with_reducible refine xe_sumK ?_
  | with_reducible refine xe_intB ?_ | with_reducible refine xe_slLK ?_ | with_reducible refine xe_slTK ?_ | with_reducible refine xo_none ?_ | with_reducible refine xo_some ?_
  | with_reducible refine xt_test ?_ | with_reducible refine xt_B ?_ | with_reducible refine xt_not ?_ | with_reducible refine xt_and ?_ | with_reducible refine xt_or ?_ | with_reducible refine xt_yes ?_
  | with_reducible refine xe_if ?_ | with_reducible refine xe_andV ?_ | with_reducible refine xe_orV ?_ | with_reducible refine xe_notV ?_ | with_reducible refine xe_chI ?_ | with_reducible refine xd_starK ?_ | with_reducible refine xe_notBK ?_ | with_reducible refine xe_isBK ?_ | with_reducible refine xe_notN ?_ | with_reducible refine xe_isN ?_)
local macro_rules | `(tactic| walk_at "xs") => `(tactic| first
  | with_reducible refine xs_seq ?_ | with_reducible refine xs_if ?_ | ((with_reducible refine' xs_retO ?eqq ?_); (case eqq => exact rfl)) | with_reducible refine xs_ret ?_
  | with_reducible refine xs_set ?_ | with_reducible refine xs_setO ?_ | with_reducible refine xs_next ?_ | with_reducible refine xs_cont ?_ | with_reducible refine xs_break ?_
  | ((with_reducible refine' xs_appK ?eqq ?_); (case eqq => exact rfl)) | ((with_reducible refine' xs_ext ?eqq ?_); (case eqq => exact rfl)) | ((with_reducible refine' xs_extT ?eqq ?_); (case eqq => exact rfl))
  | ((with_reducible refine' xs_parJ ?n1 ?n2 ?_); (case n1 => decide); (case n2 => exact Nat.lt_of_sub_pos (by exact Nat.le_of_ble_eq_true rfl)))
  | ((with_reducible refine' xs_parJ3 ?n1 ?n2 ?n3 ?n4 ?n5 ?_); (case n1 => decide); (case n2 => decide); (case n3 => decide); (case n4 => exact Nat.lt_of_sub_pos (by exact Nat.le_of_ble_eq_true rfl)); (case n5 => exact Nat.lt_of_sub_pos (by exact Nat.le_of_ble_eq_true rfl)))
  | ((with_reducible refine' xs_setLast ?eqq ?_); (case eqq => exact rfl))
  | with_reducible refine xs_asg ?_)
local macro_rules | `(tactic| walk_at "xi") => `(tactic| first
  | ((with_reducible refine' ite_t ?eqq ?_); (case eqq => decide +kernel)) | ((with_reducible refine' ite_f ?eqq ?_); (case eqq => decide +kernel))
  | ((with_reducible refine' ite_t ?eqq ?_); (case eqq => exact rfl)) | ((with_reducible refine' ite_f ?eqq ?_); (case eqq => exact rfl))
  | ((with_reducible refine' ite_t ?eqq ?_); (case eqq => exact decide_eq_true (by first | (with_reducible assumption) | exact rfl))) | ((with_reducible refine' ite_f ?eqq ?_); (case eqq => exact decide_eq_false (by assumption))) | ((with_reducible refine' ite_nd_t ?eqq ?_); (case eqq => first | (with_reducible assumption) | exact rfl)) | ((with_reducible refine' ite_nd_f ?eqq ?_); (case eqq => with_reducible assumption)) | fail "xi")
local macro_rules | `(tactic| walk_at "xw") => `(tactic| (first | walk_at "xs" | walk_at "xe" | walk_at "xg" | walk_at "xl" | walk_at "xk" | walk_at "xi" | walk_at "sp" | fail "xw"); walk_at "norm")

namespace MG
section
variable {K : PySem.W.Frag}
def lgL (x : D) (xs : List Int) : Prop := x = .tup (dInts xs) ∨ x = .lst (dInts xs)
def spLPair : ASp := fun ds P => ∃ (x : D) (xs : List Int), ds = [x] ∧ lgL x xs ∧ xs.length ≤ 100000 ∧ P (.dat (tI [mx xs, mn xs]))
theorem mx_eq0 {xs : List Int} {m : Int} (h : m ∈ 0 :: xs) (a : ∀ y ∈ 0 :: xs, y ≤ m) : m = mx xs :=
  mx_eq (by simp at h ⊢; rcases h with h | h <;> simp [h]) (fun y hy => a y (by simp at hy ⊢; rcases hy with h | h | h <;> simp [h]))
theorem mn_eq0 {xs : List Int} {m : Int} (h : m ∈ 0 :: xs) (a : ∀ y ∈ 0 :: xs, m ≤ y) : m = mn xs :=
  mn_eq (by simp at h ⊢; rcases h with h | h <;> simp [h]) (fun y hy => a y (by simp at hy ⊢; rcases hy with h | h | h <;> simp [h]))
theorem xs_lpair (ds : List D) (P : AV → Prop) (h : spLPair ds P) : XS Vol.nil (ts__law_pair K) (ds.map Slot.dat ++ List.replicate 0 .no) { nx := fun _ => P (.dat .non), rt := P } := by
  obtain ⟨x, xs, rfl, hx, hl, hp⟩ := h
  have big : (100001 : Nat) ≤ sizeLine := by decide
  have li : ∀ {Q : AV → Prop}, Q (.new (dInts (0 :: xs))) → XE Vol.nil (tOp rCat (tLst (tCons (tC (.int 0)) tNil)) (tCB (rListQ K) (tCons (tVar 0) tNil))) [.dat x] Q := fun {Q} h => by
    rcases hx with rfl | rfl <;> repeat' walk_at "xw"
    all_goals (rw [dInts_cons] at h; exact h)
  show XS Vol.nil _ [.dat x] _
  unfold ts__law_pair
  repeat' walk_at "xw"
  refine xe_maxK (xa_cons (li (xa_nil (intsA rfl ⟨by simp, fun m hm ha => ⟨trivial, ?_⟩⟩))))
  rw [mx_eq0 hm ha]
  repeat' walk_at "xw"
  refine xe_minK (xa_cons (li (xa_nil (intsA rfl ⟨by simp, fun m hm ha => ⟨trivial, ?_⟩⟩))))
  rw [mn_eq0 hm ha]
  repeat' walk_at "xw"
  exact hp
def spLGap : ASp := fun ds P => ∃ (x : D) (xs : List Int), ds = [x] ∧ lgL x xs ∧ xs.length ≤ 100000 ∧ P (.dat (.int (gapI xs)))
theorem sum2 (a b : Int) : [a, b].sum = a + b := by simp
theorem xs_lgap (ds : List D) (P : AV → Prop) (h : spLGap ds P) : XS Vol.nil (ts__law_gap K (Lift spLPair)) (ds.map Slot.dat ++ List.replicate 0 .no) { nx := fun _ => P (.dat .non), rt := P } := by
  obtain ⟨x, xs, rfl, hx, hl, hp⟩ := h
  show XS Vol.nil _ [.dat x] _
  unfold ts__law_gap
  refine xs_ret (xe_sumT (xd_cons ?_))
  repeat' walk_at "xw"
  refine ⟨x, xs, rfl, hx, hl, trivial, ?_⟩
  repeat' walk_at "xw"
  rw [sum2]; exact hp
theorem lgap_t {xs : List Int} {P : AV → Prop} (hl : xs.length ≤ 100000) (h : P (.dat (.int (gapI xs)))) : spLGap [tI xs] P := ⟨_, xs, rfl, .inl rfl, hl, h⟩
theorem lgap_l {xs : List Int} {P : AV → Prop} (hl : xs.length ≤ 100000) (h : P (.dat (.int (gapI xs)))) : spLGap [.lst (dInts xs)] P := ⟨_, xs, rfl, .inr rfl, hl, h⟩
theorem gap_t {xs : List Int} {P : AV → Prop} (hl : xs.length ≤ 100000) (h : P (.dat (.int (gapI xs)))) : spGap [tI xs] P := ⟨xs, rfl, hl, h⟩
/-! edges -/
def spEdges (dp : Nat) : ASp := fun ds P => ∃ bs, ds = [Bx.doc bs] ∧ Bx.deps bs ≤ dp ∧ (Bx.ptss bs).length ≤ 99999 ∧ P (.new ((edgesOf (Bx.ptss bs)).map eD))
theorem rows_each (ps : List Pt) : ∀ r ∈ rowsOf ps, r.length ≤ ps.length := by
  have key : ∀ (qs : List Pt) (r : Rs) (n : Nat), (∀ x ∈ r.rows ++ [r.run], x.length ≤ n) → ∀ x ∈ (qs.foldl Rs.step r).rows ++ [(qs.foldl Rs.step r).run], x.length ≤ n + qs.length := by
    intro qs
    induction qs with
    | nil => intro r n h; simpa using h
    | cons q qs ih =>
      intro r n h x hx
      have := ih (r.step q) (n + 1) (fun x hx => by
        cases q with
        | m k =>
          have hx : x ∈ r.rows ++ [r.run ++ [k]] := hx
          rcases List.mem_append.mp hx with hx | hx
          · exact Nat.le_succ_of_le (h x (List.mem_append_left _ hx))
          · rw [List.mem_singleton.mp hx, List.length_append]
            have := h r.run (List.mem_append_right _ (List.mem_singleton.mpr rfl))
            simp; omega
        | s k =>
          have hx : x ∈ (r.rows ++ [r.run]) ++ [[]] := hx
          rcases List.mem_append.mp hx with hx | hx
          · exact Nat.le_succ_of_le (h x hx)
          · rw [List.mem_singleton.mp hx]; simp) x hx
      rw [List.length_cons]; omega
  intro r hr
  have := key ps ⟨[], [], []⟩ 0 (by simp) r hr
  omega
theorem xs_edges {dp : Nat} (ds : List D) (P : AV → Prop) (h : spEdges dp ds P) : XS Vol.nil (ts_edges K dp (Lift spSplit) (Lift spGap)) (ds.map Slot.dat ++ List.replicate 7 .no) { nx := fun _ => P (.dat .non), rt := P } := by
  obtain ⟨bs, rfl, hd, hl, hp⟩ := h
  have big : (100001 : Nat) ≤ sizeLine := by decide
  have hrl := rowsOf_len (Bx.ptss bs)
  have hre := rows_each (Bx.ptss bs)
  show XS Vol.nil _ [.dat (Bx.doc bs), .no, .no, .no, .no, .no, .no, .no] _
  unfold ts_edges
  refine xs_seq (xs_asg (xe_callK (xa_cons (xe_parts (xa_cons (xe_vard rfl (xa_nil ⟨_, bs, rfl, trivial, rfl, hd, by omega, xa_nil (argK (allOk_cons trivial allOk_nil) ⟨Bx.ptss bs, rfl, by omega, trivial, trivial, ?_⟩)⟩)))))))
  show XG _ _ (.tup [.lst ((rowsOf (Bx.ptss bs)).map tI), .lst (dInts (solOf (Bx.ptss bs)))]) _ _
  have hsl : (solOf (Bx.ptss bs)).length + 1 = (rowsOf (Bx.ptss bs)).length := by
    obtain ⟨_, _, e⟩ := Rs.rows_len (Bx.ptss bs)
    unfold solOf rowsOf; rw [← e, List.length_append]; rfl
  unfold edgesOf at hp
  generalize rowsOf (Bx.ptss bs) = rows at *
  generalize solOf (Bx.ptss bs) = sol at *
  repeat' walk_at "xw"
  refine xs_forZF rows sol tI .int ([], 0) (fun (b : List (Int × Int) × Int) q => (b.1 ++ [(b.2 + gapI q.1, b.2 + gapI q.1 + q.2)], b.2 + gapI q.1 + q.2))
    (fun b δ' => ∃ s5 s6 s7, δ' = [.dat (Bx.doc bs), .dat (.lst (rows.map tI)), .dat (.lst (dInts sol)), .own (b.1.map eD), .dat (.int b.2), s5, s6, s7]) ?_
  repeat' walk_at "xw"
  refine ⟨_, _, rfl, trivial, trivial, rfl, rfl, ⟨.no, .no, .no, rfl⟩, ?_, ?_⟩
  · rintro pre r z post e δ' ⟨s5, s6, s7, rfl⟩
    have hm : (r, z) ∈ rows.zip sol := by rw [e]; simp
    have hr := hre r (List.of_mem_zip hm).1
    have hpl : pre.length ≤ 100000 := by
      have := congrArg List.length e
      rw [List.length_zip, List.length_append] at this
      omega
    have hb : (pre.foldl (fun (b : List (Int × Int) × Int) q => (b.1 ++ [(b.2 + gapI q.1, b.2 + gapI q.1 + q.2)], b.2 + gapI q.1 + q.2)) ([], 0)).1.length = pre.length := by
      have : ∀ (l : List (List Int × Int)) (b : List (Int × Int) × Int), (l.foldl (fun (b : List (Int × Int) × Int) q => (b.1 ++ [(b.2 + gapI q.1, b.2 + gapI q.1 + q.2)], b.2 + gapI q.1 + q.2)) b).1.length = b.1.length + l.length := by
        intro l
        induction l with
        | nil => intro b; rfl
        | cons q l ih => intro b; rw [List.foldl_cons, ih]; simp; omega
      simpa using this pre ([], 0)
    generalize pre.foldl _ _ = b at hb ⊢
    repeat' walk_at "xw"
    refine gap_t (by omega) ⟨trivial, ?_⟩
    repeat' walk_at "xw"
    exact ⟨_, _, _, by rw [List.map_append]; rfl⟩
  · rintro δ' ⟨s5, s6, s7, rfl⟩
    repeat' walk_at "xw"
    have key : ∀ (l : List (List Int × Int)) (a : List (Int × Int)) (h : Int), (l.foldl (fun (b : List (Int × Int) × Int) q => (b.1 ++ [(b.2 + gapI q.1, b.2 + gapI q.1 + q.2)], b.2 + gapI q.1 + q.2)) (a, h)).1 = a ++ edgesFrom h l := by
      intro l
      induction l with
      | nil => intro a h; simp [edgesFrom]
      | cons q l ih => intro a h; rw [List.foldl_cons, ih]; obtain ⟨r, z⟩ := q; simp [edgesFrom]
    rw [key]
    exact hp
/-! the law's runs -/
def lrD (r : List Int) : D := .lst (dInts r)
def spLRuns : ASp := fun ds P => ∃ ps : List Pt, ds = [.lst (ps.map Pt.d)] ∧ ps.length ≤ 99999 ∧ P (.dat (splitD ps))
theorem rows_bound (ps : List Pt) : (runsOf ps).rows.length ≤ ps.length ∧ (runsOf ps).run.length ≤ ps.length ∧ (runsOf ps).sol.length ≤ ps.length := by
  obtain ⟨a, b, _⟩ := Rs.rows_len ps
  exact ⟨by omega, by omega, b⟩
theorem xs_lruns (ds : List D) (P : AV → Prop) (h : spLRuns ds P) : XS Vol.nil (ts__law_runs K) (ds.map Slot.dat ++ List.replicate 5 .no) { nx := fun _ => P (.dat .non), rt := P } := by
  obtain ⟨ps, rfl, hl, hp⟩ := h
  have big : (100001 : Nat) ≤ sizeLine := by decide
  show XS Vol.nil _ [.dat (.lst (ps.map Pt.d)), .no, .no, .no, .no, .no] _
  unfold ts__law_runs
  repeat' walk_at "xw"
  refine xs_forF ps Pt.d ⟨[], [], []⟩ Rs.step (fun r δ' => ∃ s3 s4, δ' = [.dat (.lst (ps.map Pt.d)), .own (r.rows.map lrD ++ [lrD r.run]), .own (dInts r.sol), s3, s4, .no]) ?_
  repeat' walk_at "xw"
  refine ⟨⟨.no, .no, rfl⟩, ?_, ?_⟩
  · rintro pre p post e δ' ⟨s3, s4, rfl⟩
    have hb := rows_bound pre
    have hpl : pre.length ≤ 99999 := by
      have := congrArg List.length e
      rw [List.length_append] at this
      omega
    change (pre.foldl Rs.step ⟨[], [], []⟩).rows.length ≤ _ ∧ (pre.foldl Rs.step ⟨[], [], []⟩).run.length ≤ _ ∧ (pre.foldl Rs.step ⟨[], [], []⟩).sol.length ≤ _ at hb
    generalize pre.foldl Rs.step ⟨[], [], []⟩ = r at hb ⊢
    cases p with
    | m n =>
      refine xg_tup rfl rfl ?_
      repeat' walk_at "xw"
      exact ⟨_, _, by simp [Rs.step, lrD, dInts]; exact ⟨rfl, rfl⟩⟩
    | s n =>
      refine xg_tup rfl rfl ?_
      repeat' walk_at "xw"
      exact ⟨_, _, by simp [Rs.step, lrD, dInts]; exact ⟨rfl, rfl⟩⟩
  · rintro δ' ⟨s3, s4, rfl⟩
    refine xs_rel 2 rfl ?_
    obtain ⟨b1, b2, b3⟩ := rows_bound ps
    have er := rows_each ps
    unfold splitD at hp
    unfold rowsOf at er
    change ∀ r ∈ (ps.foldl Rs.step ⟨[], [], []⟩).rows ++ [(ps.foldl Rs.step ⟨[], [], []⟩).run], _ at er
    change (ps.foldl Rs.step ⟨[], [], []⟩).rows.length ≤ _ at b1
    change P (.dat (.tup [.lst (((ps.foldl Rs.step ⟨[], [], []⟩).rows ++ [(ps.foldl Rs.step ⟨[], [], []⟩).run]).map tI), .lst (dInts (ps.foldl Rs.step ⟨[], [], []⟩).sol)])) at hp
    generalize ps.foldl Rs.step ⟨[], [], []⟩ = r at b1 er hp ⊢
    repeat' walk_at "xw"
    refine xe_lcF (by first | exact tin_name (by decide)) (r.rows ++ [r.run]) lrD (fun _ => true) tI (by simp; omega) ?_
    refine xe_varo rfl ⟨by simp [AV.d], fun x hx => ?_, ?_⟩
    · repeat' walk_at "xw"
      refine ⟨rfl, fun _ => ?_⟩
      unfold wipeS
      repeat' walk_at "xw"
      exact rfl
    · rw [List.filter_eq_self.mpr (fun _ _ => rfl)]
      repeat' walk_at "xw"
      exact hp
/-! the law's parts -/
theorem ds_map : ∀ bs, Bx.ds bs = bs.map Bx.d
  | [] => by unfold Bx.ds; rfl
  | b :: bs => by unfold Bx.ds; rw [ds_map bs]; rfl
theorem ptss_app : ∀ xs ys, Bx.ptss (xs ++ ys) = Bx.ptss xs ++ Bx.ptss ys
  | [], ys => by
    show Bx.ptss ys = Bx.ptss [] ++ Bx.ptss ys
    rw [Bx.ptss]; rfl
  | b :: xs, ys => by
    show Bx.ptss (b :: (xs ++ ys)) = _
    rw [Bx.ptss, Bx.ptss, ptss_app xs ys, List.append_assoc]
theorem ptss_fold : ∀ (bs : List Bx) (a : List Pt), bs.foldl (fun (a : List Pt) b => a ++ b.pts) a = a ++ Bx.ptss bs
  | [], a => by rw [Bx.ptss]; simp
  | b :: bs, a => by rw [List.foldl_cons, ptss_fold bs, Bx.ptss, List.append_assoc]
theorem dep_mem {b : Bx} {bs : List Bx} (h : b ∈ bs) : b.dep ≤ Bx.deps bs := by
  obtain ⟨i, hi⟩ := List.getElem?_of_mem h
  exact Bx.deps_get hi
def cLParts : Nat → ASp := fun d ds P => ∃ bs, ds = [Bx.doc bs] ∧ Bx.deps bs ≤ d ∧ (Bx.ptss bs).length ≤ 99999 ∧ P (.new ((Bx.ptss bs).map Pt.d))
def sLParts : Nat → Sp
  | 0 => fun _ _ _ _ => False
  | n + 1 => Lift (cLParts n)
theorem xs_lparts {d : Nat} (ds : List D) (P : AV → Prop) (h : cLParts d ds P) : XS Vol.nil (ts__law_parts K (sLParts d)) (ds.map Slot.dat ++ List.replicate 3 .no) { nx := fun _ => P (.dat .non), rt := P } := by
  obtain ⟨bs, rfl, hd, hl, hp⟩ := h
  have big : (100001 : Nat) ≤ sizeLine := by decide
  show XS Vol.nil _ [.dat (Bx.doc bs), .no, .no, .no] _
  unfold ts__law_parts
  repeat' walk_at "xw"
  refine xs_forFT bs Bx.d [] (fun (a : List Pt) b => a ++ b.pts) (fun a δ' => ∃ s2 s3, δ' = [.dat (Bx.doc bs), .own (a.map Pt.d), s2, s3]) ?_
  refine xe_vard rfl ⟨by rw [← ds_map]; rfl, ⟨.no, .no, rfl⟩, ?_, ?_⟩
  · rintro pre b post e δ' ⟨s2, s3, rfl⟩
    have hb : b ∈ bs := by rw [e]; simp
    have hdb := dep_mem hb
    have hpl : (pre.foldl (fun (a : List Pt) b => a ++ b.pts) []).length + b.pts.length ≤ 99999 := by
      rw [ptss_fold, List.nil_append]
      rw [e, ptss_app, Bx.ptss] at hl
      simp only [List.length_append] at hl
      omega
    generalize pre.foldl _ _ = a at hpl ⊢
    cases b with
    | blk t bo z =>
      unfold Bx.d
      unfold Bx.pts at hpl
      simp at hpl
      repeat' walk_at "xw"
      exact ⟨_, _, by simp [Bx.pts, Pt.d]; exact ⟨rfl, rfl⟩⟩
    | grp t bo z inner =>
      unfold Bx.d
      unfold Bx.pts at hpl
      unfold Bx.dep at hdb
      obtain ⟨d', rfl⟩ : ∃ d', d = d' + 1 := ⟨d - 1, by omega⟩
      have two : ∀ (Q : AV → Prop) (a : List D), ((Bx.ptss inner).length ≤ 99999 → Q (.new ((Bx.ptss inner).map Pt.d))) → cLParts d' [Bx.doc inner] Q := fun Q a q =>
        ⟨inner, rfl, by omega, by simp at hpl; omega, q (by simp at hpl; omega)⟩
      by_cases hz : 0 < z
      all_goals (
        simp [hz] at hpl
        rw [show (sLParts (d' + 1)) = Lift (cLParts d') from rfl]
        repeat' walk_at "xw"
        refine two _ [] fun hil => ⟨trivial, ?_⟩
        repeat' walk_at "xw"
        exact ⟨_, _, by simp [Bx.pts, Pt.d, hz]; exact ⟨rfl, rfl⟩⟩)
  · rintro δ' ⟨s2, s3, rfl⟩
    repeat' walk_at "xw"
    rw [ptss_fold, List.nil_append]; exact hp
end
end MG
end
section
set_option linter.all false
set_option maxRecDepth 100000
set_option maxHeartbeats 4000000
/-! ML2: the law's own edges; equal values are alike. -/
open PySem L2 MR MG
local macro_rules | `(tactic| walk_at "size") => `(tactic| first | (with_reducible assumption) | (with_unfolding_all exact Nat.le_of_ble_eq_true rfl) | (simp [dInts]; omega) | omega)
local macro_rules | `(tactic| walk_at "norm") => `(tactic| (try dsimp only [List.set_cons_succ, List.set_cons_zero, d_dat, d_new, d_brw, ofV_int, ofV_bl, ofV_str, ofV_non, List.map_cons, List.map_nil, List.cons_append, List.nil_append]))
local macro_rules | `(tactic| walk_at "xl") => `(tactic| first
  | ((with_reducible refine' And.intro ?okk ?_); (case okk => exact True.intro))
  | ((with_reducible refine' And.intro (?cmm : CMul _ _) ?_); (case cmm => first | exact .inl ⟨by decide, by decide⟩ | exact .inr ⟨by decide, by decide⟩ | exact .inl ⟨by omega, by omega⟩ | exact .inr ⟨by omega, by omega⟩))
  | ((with_reducible refine' And.intro (?pss : (0 : Int) < _) ?_); (case pss => first | decide | omega))
  | ((with_reducible refine' And.intro (?nrr : ∀ w, _ ≠ D.raw w) ?_); (case nrr => (intro w e; cases e)))
  | ((with_reducible refine' And.intro (?eqq : (_ : D) = _) ?_); (case eqq => exact rfl))
  | ((with_reducible refine' Exists.intro _ (And.intro (?eqq : (_ : D) = _) ?_)); (case eqq => exact rfl))
  | ((with_reducible refine' Exists.intro _ (And.intro (?eqq : (_ : AV) = _) ?_)); (case eqq => exact rfl))
  | ((with_reducible refine' Exists.intro _ (And.intro (?eqq : (_ : List D) = _) ?_)); (case eqq => exact rfl))
  | ((with_reducible refine' turnE ?eqq); (case eqq => exact rfl))
  | ((with_reducible refine' And.intro (?szz : _ ≤ sizeLine) ?_); (case szz => walk_at "size"))
  | ((with_reducible refine' And.intro (?szz : _ < sizeLine) ?_); (case szz => walk_at "size")))
local macro_rules | `(tactic| walk_at "xk") => `(tactic| first
  | ((with_reducible refine' argK ?okk ?_); (case okk => repeat (first | exact allOk_nil | refine allOk_cons True.intro ?_)))
  | (with_reducible refine stob_t ?_) | ((with_reducible refine' stob_f ?okk ?_); (case okk => exact True.intro))
  | ((refine' likek ?eqq ?lkk ?_); (case eqq => exact rfl); (case lkk => walk_at "lk"))
  | refine seqa_t ?_ | refine seqa_l ?_ | refine seqa_n ?_ | refine seqa_b ?_
  | refine starT ?_ | refine starL ?_ | refine bla ?_ | refine cutl ?_ | refine cutt ?_
  | ((refine' catk ?szz ?_); (case szz => walk_at "size")) | ((refine' catt_doc ?szz ?_); (case szz => walk_at "size")) | ((refine' catt ?szz ?_); (case szz => walk_at "size")) | ((refine' catt_docT ?szz ?_); (case szz => walk_at "size"))
  | (refine ixk_last ?_) | (refine ixk_0 ?_) | (refine ixk_last2 ?_) | ((refine' ixk_t ?eqq ?_); (case eqq => exact rfl)) | ((refine' ixk_l ?eqq ?_); (case eqq => exact rfl))
  | refine eqk_int ?_ | refine eqk_bl ?_ | ((refine eqk_str ?s1 ?s2 ?_); (case s1 => with_unfolding_all rfl); (case s2 => with_unfolding_all rfl)))
local macro_rules | `(tactic| walk_at "lk") => `(tactic| first | exact lk_int | exact lk_fm _ | (exact rfl) | (with_reducible assumption) | (apply lk_rows <;> (first | (with_reducible assumption) | omega | (intro r hr; apply Nat.le_trans (by first | (exact (by assumption : ∀ r ∈ _, _) r hr)) (by omega)))) | (apply lk_lI; walk_at "size") | (apply lk_tI; walk_at "size") | (apply lk_edges; walk_at "size"))
local macro_rules | `(tactic| walk_at "sd") => `(tactic| first | (with_reducible assumption) | omega)
local macro_rules | `(tactic| walk_at "sp") => `(tactic| first
  | ((refine' draw_i ?b1 ?b2 ?_); (case b1 => walk_at "sd"); (case b2 => walk_at "sd"); intro r hr0 hr1)
  | ((refine' doc_i ?b1 ?b2 ?_); (case b1 => walk_at "sd"); (case b2 => walk_at "sd"); intro bs hbs)
  | ((refine' lparts_i ?b1 ?b2 ?_); (case b1 => walk_at "sd"); (case b2 => walk_at "sd"))
  | ((refine' runs_i ?b1 ?b2 ?_); (case b1 => walk_at "sd"); (case b2 => walk_at "sd"))
  | ((refine' gaps_i ?b1 ?b2 ?_); (case b1 => walk_at "sd"); (case b2 => walk_at "sd"))
  | ((refine' edges_i ?b1 ?b2 ?_); (case b1 => walk_at "sd"); (case b2 => walk_at "sd"))
  | ((refine' total_i ?b1 ?b2 ?_); (case b1 => walk_at "sd"); (case b2 => walk_at "sd"))
  | ((refine' lruns_i ?b1 ?_); (case b1 => walk_at "sd"))
  | ((refine' ledges_i ?b1 ?_); (case b1 => walk_at "sd"))
  | ((refine' lgap_t ?b1 ?_); (case b1 => walk_at "sd"))
  | ((refine' lgap_l ?b1 ?_); (case b1 => walk_at "sd"))
  | ((refine' gap_t ?b1 ?_); (case b1 => walk_at "sd"))
  | ((refine' form_i ?b1 ?b2 ?_); (case b1 => walk_at "sd"); (case b2 => walk_at "sd"))
  | ((refine' form_of_i ?b1 ?_); (case b1 => walk_at "sd"))
  | (refine distof_i ?_) | ((refine' dist_i ?b1 ?b2 ?_); (case b1 => walk_at "sd"); (case b2 => walk_at "sd"))
  | ((refine' partsA_i ?b1 ?b2 ?_); (case b1 => walk_at "sd"); (case b2 => walk_at "sd"))
  | fail "sp")
local macro_rules | `(tactic| walk_at "xg") => `(tactic| first
  | with_reducible refine xg_name ?_ | ((with_reducible refine' xg_tup ?eqq ?lnn ?_); (case eqq => exact rfl); (case lnn => exact rfl))
  | with_reducible refine xgs_cons ?_ | with_reducible refine xgs_nil ?_)
local macro_rules | `(tactic| walk_at "xe") => `(tactic| first
  | ((with_reducible refine' xe_vard ?eqq ?_); (case eqq => exact rfl)) | ((with_reducible refine' xe_varo ?eqq ?_); (case eqq => exact rfl))
  | with_reducible refine xe_c ?_ | with_reducible refine xe_I0 ?_ | with_reducible refine xe_I ?_ | with_reducible refine xe_U ?_
  | with_reducible refine xe_ixK ?_ | with_reducible refine xe_eqK ?_ | with_reducible refine xe_neK ?_ | with_reducible refine xe_callK ?_ | with_reducible refine xe_likeK ?_ | ((with_reducible refine' xe_drawK ?ttt ?eqq ?_); (case ttt => with_reducible assumption); (case eqq => exact rfl))
  | with_reducible refine xe_partsK ?_ | with_reducible refine xe_tupK ?_ | with_reducible refine xe_lstD ?_ | with_reducible refine xe_catLK ?_ | with_reducible refine xe_catTK ?_
  | with_reducible refine xa_nil ?_ | with_reducible refine xa_cons ?_ | with_reducible refine xd_nil ?_ | with_reducible refine xd_cons ?_
  | with_reducible refine xe_lenK ?_ | with_reducible refine xe_listK ?_ | with_reducible refine xe_tupleK ?_ | with_reducible refine xe_sumK ?_
  | with_reducible refine xe_intB ?_ | with_reducible refine xe_slLK ?_ | with_reducible refine xe_slTK ?_ | with_reducible refine xo_none ?_ | with_reducible refine xo_some ?_
  | with_reducible refine xt_test ?_ | with_reducible refine xt_B ?_ | with_reducible refine xt_not ?_ | with_reducible refine xt_and ?_ | with_reducible refine xt_or ?_ | with_reducible refine xt_yes ?_
  | with_reducible refine xe_if ?_ | with_reducible refine xe_andV ?_ | with_reducible refine xe_orV ?_ | with_reducible refine xe_notV ?_ | with_reducible refine xe_chI ?_ | with_reducible refine xd_starK ?_ | with_reducible refine xe_notBK ?_ | with_reducible refine xe_isBK ?_ | with_reducible refine xe_notN ?_ | with_reducible refine xe_isN ?_)
local macro_rules | `(tactic| walk_at "xs") => `(tactic| first
  | with_reducible refine xs_seq ?_ | with_reducible refine xs_if ?_ | ((with_reducible refine' xs_retO ?eqq ?_); (case eqq => exact rfl)) | with_reducible refine xs_ret ?_
  | with_reducible refine xs_set ?_ | with_reducible refine xs_setO ?_ | with_reducible refine xs_next ?_ | with_reducible refine xs_cont ?_ | with_reducible refine xs_break ?_
  | ((with_reducible refine' xs_appK ?eqq ?_); (case eqq => exact rfl)) | ((with_reducible refine' xs_ext ?eqq ?_); (case eqq => exact rfl)) | ((with_reducible refine' xs_extT ?eqq ?_); (case eqq => exact rfl))
  | ((with_reducible refine' xs_parJ ?n1 ?n2 ?_); (case n1 => decide); (case n2 => exact Nat.lt_of_sub_pos (by exact Nat.le_of_ble_eq_true rfl)))
  | ((with_reducible refine' xs_parJ3 ?n1 ?n2 ?n3 ?n4 ?n5 ?_); (case n1 => decide); (case n2 => decide); (case n3 => decide); (case n4 => exact Nat.lt_of_sub_pos (by exact Nat.le_of_ble_eq_true rfl)); (case n5 => exact Nat.lt_of_sub_pos (by exact Nat.le_of_ble_eq_true rfl)))
  | ((with_reducible refine' xs_setLast ?eqq ?_); (case eqq => exact rfl))
  | with_reducible refine xs_asg ?_)
local macro_rules | `(tactic| walk_at "xi") => `(tactic| first
  | ((with_reducible refine' ite_t ?eqq ?_); (case eqq => decide +kernel)) | ((with_reducible refine' ite_f ?eqq ?_); (case eqq => decide +kernel))
  | ((with_reducible refine' ite_t ?eqq ?_); (case eqq => exact rfl)) | ((with_reducible refine' ite_f ?eqq ?_); (case eqq => exact rfl))
  | ((with_reducible refine' ite_t ?eqq ?_); (case eqq => exact decide_eq_true (by first | (with_reducible assumption) | exact rfl))) | ((with_reducible refine' ite_f ?eqq ?_); (case eqq => exact decide_eq_false (by assumption))) | ((with_reducible refine' ite_nd_t ?eqq ?_); (case eqq => first | (with_reducible assumption) | exact rfl)) | ((with_reducible refine' ite_nd_f ?eqq ?_); (case eqq => with_reducible assumption)) | fail "xi")
local macro_rules | `(tactic| walk_at "xw") => `(tactic| (first | walk_at "xs" | walk_at "xe" | walk_at "xg" | walk_at "xl" | walk_at "xk" | walk_at "xi" | walk_at "sp" | fail "xw"); walk_at "norm")

namespace MG
section
variable {K : PySem.W.Frag}
def spLEdges : ASp := fun ds P => ∃ ps : List Pt, ds = [.lst (ps.map Pt.d)] ∧ ps.length ≤ 99998 ∧ P (.dat (.tup [.lst ((edgesOf ps).map eD), .int (totalOf ps)]))
def Rs.here (r : Rs) : Int := hereAt 0 (r.rows.zip r.sol)
def Rs.edg (r : Rs) : List (Int × Int) := edgesFrom 0 (r.rows.zip r.sol)
theorem here_total (ps : List Pt) : (runsOf ps).here + gapI (runsOf ps).run = totalOf ps := by
  have e := (Rs.rows_len ps).2.2
  unfold totalOf rowsOf solOf Rs.here
  generalize runsOf ps = r at e
  rw [List.map_append, List.sum_append]
  have key : ∀ (rows : List (List Int)) (sol : List Int) (h : Int), rows.length = sol.length → hereAt h (rows.zip sol) = h + (rows.map gapI).sum + sol.sum := by
    intro rows
    induction rows with
    | nil => intro sol h e; cases sol with
      | nil => simp [hereAt]
      | cons _ _ => simp at e
    | cons x rows ih => intro sol h e; cases sol with
      | nil => simp at e
      | cons y sol =>
        show hereAt (h + gapI x + y) (rows.zip sol) = _
        rw [ih sol _ (by simpa using e)]
        simp; omega
  rw [key _ _ 0 e]
  simp; omega
theorem zip_snoc {α β : Type} : ∀ (xs : List α) (ys : List β) (x : α) (y : β), xs.length = ys.length → (xs ++ [x]).zip (ys ++ [y]) = xs.zip ys ++ [(x, y)]
  | [], [], x, y, _ => rfl
  | [], _ :: _, _, _, h => by simp at h
  | _ :: _, [], _, _, h => by simp at h
  | a :: xs, b :: ys, x, y, h => by
    show (a, b) :: (xs ++ [x]).zip (ys ++ [y]) = _
    rw [zip_snoc xs ys x y (by simpa using h)]; rfl
theorem zip_len1 {α β : Type} (xs : List α) (ys : List β) : xs.zip (ys) = (xs.take ys.length).zip ys := by
  induction xs generalizing ys with
  | nil => simp
  | cons x xs ih => cases ys with
    | nil => simp
    | cons y ys => simp; exact ih ys
theorem edg_of (ps : List Pt) : (runsOf ps).edg = edgesOf ps := by
  have e := (Rs.rows_len ps).2.2
  unfold edgesOf rowsOf solOf Rs.edg
  rw [zip_len1 (_ ++ _), List.take_append_of_le_length (by omega), List.take_of_length_le (by omega)]
theorem here_snoc {ps : List Pt} (z : Int) : (runsOf (ps ++ [.s z])).here = (runsOf ps).here + gapI (runsOf ps).run + z ∧ (runsOf (ps ++ [.s z])).edg = (runsOf ps).edg ++ [((runsOf ps).here + gapI (runsOf ps).run, (runsOf ps).here + gapI (runsOf ps).run + z)] ∧ (runsOf (ps ++ [.s z])).run = [] := by
  have e := (Rs.rows_len ps).2.2
  have e2 : runsOf (ps ++ [.s z]) = (runsOf ps).step (.s z) := by unfold runsOf; rw [List.foldl_append]; rfl
  rw [e2]
  refine ⟨?_, ?_, rfl⟩
  · show hereAt 0 (((runsOf ps).rows ++ [(runsOf ps).run]).zip ((runsOf ps).sol ++ [z])) = _
    rw [zip_snoc _ _ _ _ e, hereAt_snoc]; rfl
  · show edgesFrom 0 (((runsOf ps).rows ++ [(runsOf ps).run]).zip ((runsOf ps).sol ++ [z])) = _
    rw [zip_snoc _ _ _ _ e, edgesFrom_snoc]; rfl
theorem run_snoc {ps : List Pt} (n : Int) : (runsOf (ps ++ [.m n])).here = (runsOf ps).here ∧ (runsOf (ps ++ [.m n])).edg = (runsOf ps).edg ∧ (runsOf (ps ++ [.m n])).run = (runsOf ps).run ++ [n] := by
  have e2 : runsOf (ps ++ [.m n]) = (runsOf ps).step (.m n) := by unfold runsOf; rw [List.foldl_append]; rfl
  rw [e2]
  exact ⟨rfl, rfl, rfl⟩
theorem edg_len (ps : List Pt) : (runsOf ps).edg.length ≤ ps.length := by
  have e := (Rs.rows_len ps).2.1
  unfold Rs.edg
  rw [edgesFrom_len, List.length_zip]; omega
theorem xs_ledges (ds : List D) (P : AV → Prop) (h : spLEdges ds P) : XS Vol.nil (ts__law_edges K (Lift spLGap)) (ds.map Slot.dat ++ List.replicate 5 .no) { nx := fun _ => P (.dat .non), rt := P } := by
  obtain ⟨ps, rfl, hl, hp⟩ := h
  have big : (100001 : Nat) ≤ sizeLine := by decide
  show XS Vol.nil _ [.dat (.lst (ps.map Pt.d)), .no, .no, .no, .no, .no] _
  unfold ts__law_edges
  repeat' walk_at "xw"
  refine xs_forL ?_
  repeat' walk_at "xw"
  refine ⟨fun i δ' => (i ≤ ps.length → ∃ s4 s5, δ' = [.dat (.lst (ps.map Pt.d)), .dat (.int (runsOf (ps.take i)).here), .dat (.lst (dInts (runsOf (ps.take i)).run)), .own ((runsOf (ps.take i)).edg.map eD), s4, s5]) ∧
    (ps.length < i → ∃ s4 s5, δ' = [.dat (.lst (ps.map Pt.d)), .dat (.int (totalOf ps)), .dat (.lst []), .own ((edgesOf ps).map eD), s4, s5]), ⟨fun _ => ⟨.no, .no, rfl⟩, fun h => absurd h (Nat.not_lt_zero _)⟩, ?_, ?_⟩
  · rintro i d hi δ' ⟨h1, _⟩
    rcases Nat.lt_or_ge i ps.length with hlt | hge
    · obtain ⟨s4, s5, rfl⟩ := h1 (by omega)
      rw [List.getElem?_append_left (by rw [List.length_map]; exact hlt)] at hi
      obtain ⟨p, ep, rfl⟩ := map_get hi
      have et : ps.take (i + 1) = ps.take i ++ [p] := by rw [List.take_add_one, ep]; rfl
      obtain ⟨b1, b2, b3⟩ := rows_bound (ps.take i)
      have b4 := edg_len (ps.take i)
      rw [List.length_take] at b1 b2 b3 b4
      cases p with
      | m n =>
        refine xg_tup rfl rfl ?_
        repeat' walk_at "xw"
        refine ⟨fun _ => ?_, fun h => absurd h (by omega)⟩
        obtain ⟨e1, e2, e3⟩ := run_snoc (ps := ps.take i) n
        rw [et, e1, e2, e3, dInts_app]
        exact ⟨_, _, rfl⟩
      | s n =>
        refine xg_tup rfl rfl ?_
        repeat' walk_at "xw"
        refine ⟨fun _ => ?_, fun h => absurd h (by omega)⟩
        obtain ⟨e1, e2, e3⟩ := here_snoc (ps := ps.take i) n
        rw [et, e1, e2, e3, List.map_append]
        exact ⟨_, _, rfl⟩
    · have hi2 : i = ps.length := by
        have := (List.getElem?_eq_some_iff.mp hi).1
        simp at this; omega
      subst hi2
      obtain ⟨s4, s5, rfl⟩ := h1 (Nat.le_refl _)
      rw [List.getElem?_append_right (by simp), List.length_map, Nat.sub_self] at hi
      cases hi
      rw [List.take_length]
      obtain ⟨b1, b2, b3⟩ := rows_bound ps
      refine xg_tup rfl rfl ?_
      repeat' walk_at "xw"
      refine ⟨fun h => absurd h (by omega), fun _ => ?_⟩
      rw [here_total, edg_of, Int.add_zero]
      exact ⟨_, _, rfl⟩
  · rintro δ' ⟨_, h2⟩
    obtain ⟨s4, s5, rfl⟩ := h2 (by simp)
    refine xs_rel 3 rfl ?_
    repeat' walk_at "xw"
    exact hp
end
end MG
end
section
set_option linter.all false
set_option maxRecDepth 100000
set_option maxHeartbeats 4000000
/-! ML3: equal values are alike. -/
open PySem L2 MR MG
local macro_rules | `(tactic| walk_at "size") => `(tactic| first | (with_reducible assumption) | (with_unfolding_all exact Nat.le_of_ble_eq_true rfl) | (simp [dInts]; omega) | omega)
local macro_rules | `(tactic| walk_at "norm") => `(tactic| (try dsimp only [List.set_cons_succ, List.set_cons_zero, d_dat, d_new, d_brw, ofV_int, ofV_bl, ofV_str, ofV_non, List.map_cons, List.map_nil, List.cons_append, List.nil_append]))
local macro_rules | `(tactic| walk_at "xl") => `(tactic| first
  | ((with_reducible refine' And.intro ?okk ?_); (case okk => exact True.intro))
  | ((with_reducible refine' And.intro (?cmm : CMul _ _) ?_); (case cmm => first | exact .inl ⟨by decide, by decide⟩ | exact .inr ⟨by decide, by decide⟩ | exact .inl ⟨by omega, by omega⟩ | exact .inr ⟨by omega, by omega⟩))
  | ((with_reducible refine' And.intro (?pss : (0 : Int) < _) ?_); (case pss => first | decide | omega))
  | ((with_reducible refine' And.intro (?nrr : ∀ w, _ ≠ D.raw w) ?_); (case nrr => (intro w e; cases e)))
  | ((with_reducible refine' And.intro (?eqq : (_ : D) = _) ?_); (case eqq => exact rfl))
  | ((with_reducible refine' Exists.intro _ (And.intro (?eqq : (_ : D) = _) ?_)); (case eqq => exact rfl))
  | ((with_reducible refine' Exists.intro _ (And.intro (?eqq : (_ : AV) = _) ?_)); (case eqq => exact rfl))
  | ((with_reducible refine' Exists.intro _ (And.intro (?eqq : (_ : List D) = _) ?_)); (case eqq => exact rfl))
  | ((with_reducible refine' turnE ?eqq); (case eqq => exact rfl))
  | ((with_reducible refine' And.intro (?szz : _ ≤ sizeLine) ?_); (case szz => walk_at "size"))
  | ((with_reducible refine' And.intro (?szz : _ < sizeLine) ?_); (case szz => walk_at "size")))
local macro_rules | `(tactic| walk_at "xk") => `(tactic| first
  | ((with_reducible refine' argK ?okk ?_); (case okk => repeat (first | exact allOk_nil | refine allOk_cons True.intro ?_)))
  | (with_reducible refine stob_t ?_) | ((with_reducible refine' stob_f ?okk ?_); (case okk => exact True.intro))
  | ((refine' likek ?eqq ?lkk ?_); (case eqq => exact rfl); (case lkk => walk_at "lk"))
  | refine seqa_t ?_ | refine seqa_l ?_ | refine seqa_n ?_ | refine seqa_b ?_
  | refine starT ?_ | refine starL ?_ | refine bla ?_ | refine cutl ?_ | refine cutt ?_
  | ((refine' catk ?szz ?_); (case szz => walk_at "size")) | ((refine' catt_doc ?szz ?_); (case szz => walk_at "size")) | ((refine' catt ?szz ?_); (case szz => walk_at "size")) | ((refine' catt_docT ?szz ?_); (case szz => walk_at "size"))
  | (refine ixk_last ?_) | (refine ixk_0 ?_) | (refine ixk_last2 ?_) | ((refine' ixk_t ?eqq ?_); (case eqq => exact rfl)) | ((refine' ixk_l ?eqq ?_); (case eqq => exact rfl))
  | refine eqk_int ?_ | refine eqk_bl ?_ | ((refine eqk_str ?s1 ?s2 ?_); (case s1 => with_unfolding_all rfl); (case s2 => with_unfolding_all rfl)))
local macro_rules | `(tactic| walk_at "lk") => `(tactic| first | exact lk_int | exact lk_fm _ | (exact rfl) | (with_reducible assumption) | (apply lk_rows <;> (first | (with_reducible assumption) | omega | (intro r hr; apply Nat.le_trans (by first | (exact (by assumption : ∀ r ∈ _, _) r hr)) (by omega)))) | (apply lk_lI; walk_at "size") | (apply lk_tI; walk_at "size") | (apply lk_edges; walk_at "size"))
local macro_rules | `(tactic| walk_at "sd") => `(tactic| first | (with_reducible assumption) | omega)
local macro_rules | `(tactic| walk_at "sp") => `(tactic| first
  | ((refine' draw_i ?b1 ?b2 ?_); (case b1 => walk_at "sd"); (case b2 => walk_at "sd"); intro r hr0 hr1)
  | ((refine' doc_i ?b1 ?b2 ?_); (case b1 => walk_at "sd"); (case b2 => walk_at "sd"); intro bs hbs)
  | ((refine' lparts_i ?b1 ?b2 ?_); (case b1 => walk_at "sd"); (case b2 => walk_at "sd"))
  | ((refine' runs_i ?b1 ?b2 ?_); (case b1 => walk_at "sd"); (case b2 => walk_at "sd"))
  | ((refine' gaps_i ?b1 ?b2 ?_); (case b1 => walk_at "sd"); (case b2 => walk_at "sd"))
  | ((refine' edges_i ?b1 ?b2 ?_); (case b1 => walk_at "sd"); (case b2 => walk_at "sd"))
  | ((refine' total_i ?b1 ?b2 ?_); (case b1 => walk_at "sd"); (case b2 => walk_at "sd"))
  | ((refine' lruns_i ?b1 ?_); (case b1 => walk_at "sd"))
  | ((refine' ledges_i ?b1 ?_); (case b1 => walk_at "sd"))
  | ((refine' lgap_t ?b1 ?_); (case b1 => walk_at "sd"))
  | ((refine' lgap_l ?b1 ?_); (case b1 => walk_at "sd"))
  | ((refine' gap_t ?b1 ?_); (case b1 => walk_at "sd"))
  | ((refine' form_i ?b1 ?b2 ?_); (case b1 => walk_at "sd"); (case b2 => walk_at "sd"))
  | ((refine' form_of_i ?b1 ?_); (case b1 => walk_at "sd"))
  | (refine distof_i ?_) | ((refine' dist_i ?b1 ?b2 ?_); (case b1 => walk_at "sd"); (case b2 => walk_at "sd"))
  | ((refine' partsA_i ?b1 ?b2 ?_); (case b1 => walk_at "sd"); (case b2 => walk_at "sd"))
  | fail "sp")
local macro_rules | `(tactic| walk_at "xg") => `(tactic| first
  | with_reducible refine xg_name ?_ | ((with_reducible refine' xg_tup ?eqq ?lnn ?_); (case eqq => exact rfl); (case lnn => exact rfl))
  | with_reducible refine xgs_cons ?_ | with_reducible refine xgs_nil ?_)
local macro_rules | `(tactic| walk_at "xe") => `(tactic| first
  | ((with_reducible refine' xe_vard ?eqq ?_); (case eqq => exact rfl)) | ((with_reducible refine' xe_varo ?eqq ?_); (case eqq => exact rfl))
  | with_reducible refine xe_c ?_ | with_reducible refine xe_I0 ?_ | with_reducible refine xe_I ?_ | with_reducible refine xe_U ?_
  | with_reducible refine xe_ixK ?_ | with_reducible refine xe_eqK ?_ | with_reducible refine xe_neK ?_ | with_reducible refine xe_callK ?_ | with_reducible refine xe_likeK ?_ | ((with_reducible refine' xe_drawK ?ttt ?eqq ?_); (case ttt => with_reducible assumption); (case eqq => exact rfl))
  | with_reducible refine xe_partsK ?_ | with_reducible refine xe_tupK ?_ | with_reducible refine xe_lstD ?_ | with_reducible refine xe_catLK ?_ | with_reducible refine xe_catTK ?_
  | with_reducible refine xa_nil ?_ | with_reducible refine xa_cons ?_ | with_reducible refine xd_nil ?_ | with_reducible refine xd_cons ?_
  | with_reducible refine xe_lenK ?_ | with_reducible refine xe_listK ?_ | with_reducible refine xe_tupleK ?_ | with_reducible refine xe_sumK ?_
  | with_reducible refine xe_intB ?_ | with_reducible refine xe_slLK ?_ | with_reducible refine xe_slTK ?_ | with_reducible refine xo_none ?_ | with_reducible refine xo_some ?_
  | with_reducible refine xt_test ?_ | with_reducible refine xt_B ?_ | with_reducible refine xt_not ?_ | with_reducible refine xt_and ?_ | with_reducible refine xt_or ?_ | with_reducible refine xt_yes ?_
  | with_reducible refine xe_if ?_ | with_reducible refine xe_andV ?_ | with_reducible refine xe_orV ?_ | with_reducible refine xe_notV ?_ | with_reducible refine xe_chI ?_ | with_reducible refine xd_starK ?_ | with_reducible refine xe_notBK ?_ | with_reducible refine xe_isBK ?_ | with_reducible refine xe_notN ?_ | with_reducible refine xe_isN ?_)
local macro_rules | `(tactic| walk_at "xs") => `(tactic| first
  | with_reducible refine xs_seq ?_ | with_reducible refine xs_if ?_ | ((with_reducible refine' xs_retO ?eqq ?_); (case eqq => exact rfl)) | with_reducible refine xs_ret ?_
  | with_reducible refine xs_set ?_ | with_reducible refine xs_setO ?_ | with_reducible refine xs_next ?_ | with_reducible refine xs_cont ?_ | with_reducible refine xs_break ?_
  | ((with_reducible refine' xs_appK ?eqq ?_); (case eqq => exact rfl)) | ((with_reducible refine' xs_ext ?eqq ?_); (case eqq => exact rfl)) | ((with_reducible refine' xs_extT ?eqq ?_); (case eqq => exact rfl))
  | ((with_reducible refine' xs_parJ ?n1 ?n2 ?_); (case n1 => decide); (case n2 => exact Nat.lt_of_sub_pos (by exact Nat.le_of_ble_eq_true rfl)))
  | ((with_reducible refine' xs_parJ3 ?n1 ?n2 ?n3 ?n4 ?n5 ?_); (case n1 => decide); (case n2 => decide); (case n3 => decide); (case n4 => exact Nat.lt_of_sub_pos (by exact Nat.le_of_ble_eq_true rfl)); (case n5 => exact Nat.lt_of_sub_pos (by exact Nat.le_of_ble_eq_true rfl)))
  | ((with_reducible refine' xs_setLast ?eqq ?_); (case eqq => exact rfl))
  | with_reducible refine xs_asg ?_)
local macro_rules | `(tactic| walk_at "xi") => `(tactic| first
  | ((with_reducible refine' ite_t ?eqq ?_); (case eqq => decide +kernel)) | ((with_reducible refine' ite_f ?eqq ?_); (case eqq => decide +kernel))
  | ((with_reducible refine' ite_t ?eqq ?_); (case eqq => exact rfl)) | ((with_reducible refine' ite_f ?eqq ?_); (case eqq => exact rfl))
  | ((with_reducible refine' ite_t ?eqq ?_); (case eqq => exact decide_eq_true (by first | (with_reducible assumption) | exact rfl))) | ((with_reducible refine' ite_f ?eqq ?_); (case eqq => exact decide_eq_false (by assumption))) | ((with_reducible refine' ite_nd_t ?eqq ?_); (case eqq => first | (with_reducible assumption) | exact rfl)) | ((with_reducible refine' ite_nd_f ?eqq ?_); (case eqq => with_reducible assumption)) | fail "xi")
local macro_rules | `(tactic| walk_at "xw") => `(tactic| (first | walk_at "xs" | walk_at "xe" | walk_at "xg" | walk_at "xl" | walk_at "xk" | walk_at "xi" | walk_at "sp" | fail "xw"); walk_at "norm")

namespace MG
mutual
def D.lk : Nat → D → Bool
  | _, .non => true
  | _, .bl _ => true
  | _, .int _ => true
  | _, .str s => PyData.strOk s
  | 0, .tup _ => false
  | 0, .lst _ => false
  | n + 1, .tup xs => decide (xs.length ≤ 100000) && D.lks n xs
  | n + 1, .lst xs => decide (xs.length ≤ 100000) && D.lks n xs
  | _, .raw _ => false
def D.lks : Nat → List D → Bool
  | _, [] => true
  | n, x :: xs => x.lk n && D.lks n xs
end
theorem D.lks_iff {n : Nat} : ∀ {xs : List D}, D.lks n xs = true ↔ ∀ x ∈ xs, x.lk n = true
  | [] => by simp [D.lks]
  | x :: xs => by
    unfold D.lks
    rw [Bool.and_eq_true, D.lks_iff (xs := xs)]
    simp
def cLike (n : Nat) : ASp := fun ds P => ∃ x : D, ds = [x, x] ∧ x.lk n = true ∧ P (.dat (.bl true))
def sLike : Nat → Sp
  | 0 => fun _ _ _ _ => False
  | n + 1 => Lift (cLike n)
theorem like_i {n : Nat} {x y : D} {P : AV → Prop} (e : x = y) (h : x.lk n = true) (p : P (.dat (.bl true))) : cLike n [x, y] P := by subst e; exact ⟨x, rfl, h, p⟩
section
variable {K : PySem.W.Frag}
theorem kb1 : kitB "NoneType" "list" = some false ∧ kitB "NoneType" "tuple" = some false ∧ kitB "NoneType" "bool" = some false := by decide +kernel
theorem kb2 : kitB "bool" "list" = some false ∧ kitB "bool" "tuple" = some false ∧ kitB "bool" "bool" = some true := by decide +kernel
theorem kb3 : kitB "int" "list" = some false ∧ kitB "int" "tuple" = some false ∧ kitB "int" "bool" = some false := by decide +kernel
theorem kb4 : kitB "str" "list" = some false ∧ kitB "str" "tuple" = some false ∧ kitB "str" "bool" = some false := by decide +kernel
theorem kb5 : kitB "tuple" "list" = some false ∧ kitB "tuple" "tuple" = some true ∧ kitB "tuple" "bool" = some false := by decide +kernel
theorem kb6 : kitB "list" "list" = some true ∧ kitB "list" "tuple" = some false ∧ kitB "list" "bool" = some false := by decide +kernel
theorem noraw {v : D} (h : ∀ w, v ≠ .raw w) : ∀ w, v ≠ .raw w := h
/-- the branch of lists and tuples -/
theorem like_seq {n : Nat} {x : D} {xs : List D} {E : AEnds} (hx : x = .tup xs ∨ x = .lst xs) (hl : xs.length ≤ 100000) (hk : ∀ y ∈ xs, y.lk n = true) (hp : E.rt (.dat (.bl true))) :
    XE Vol.nil (tOp (rEqD K) (tLc (iRng1 (tCons (tCB (rLenQ K) (tCons (tVar 0) tNil)) tNil)) (gName 2) (tNot (tB (tCall (sLike (n + 1)) [] E0 (tCons (tOp (rIx K) (tVar 0) (tVar 2)) (tCons (tOp (rIx K) (tVar 1) (tVar 2)) tNil))))) (tVar 2) [2]) (tLst tNil)) [.dat x, .dat x, .no] fun a => a.ok ∧ E.rt a := by
  have big : (100001 : Nat) ≤ sizeLine := by decide
  rw [show sLike (n + 1) = Lift (cLike n) from rfl]
  refine xe_eqK (xe_lcR1 (tin_name (by decide)) (xa_cons (xe_lenK (xa_cons (xe_vard rfl (xa_nil ⟨_, xs, rfl, hx, xa_nil ⟨_, (xs.length : Int), rfl, rfl, by omega, by omega, fun i es => es = [], rfl, ?_, ?_⟩⟩))))))
  · rintro i es hi rfl
    have hi : i < xs.length := by omega
    have ix : ∀ {k : D → Prop}, k xs[i] → IxK x (.int (i : Int)) k := fun {k} h => by
      rcases hx with rfl | rfl
      · exact ixk_t (atI_of (j := i) (by unfold ixN; simp; exact hi) (List.getElem?_eq_getElem hi)) h
      · exact ixk_l (atI_of (j := i) (by unfold ixN; simp; exact hi) (List.getElem?_eq_getElem hi)) h
    unfold wipeS wipeS
    repeat' walk_at "xw"
    refine ix ?_
    repeat' walk_at "xw"
    refine ix ?_
    repeat' walk_at "xw"
    refine like_i rfl (hk _ (List.getElem_mem hi)) ⟨trivial, ?_⟩
    repeat' walk_at "xw"
  · rintro es rfl
    repeat' walk_at "xw"
    exact eqk_same 1 rfl rfl ⟨trivial, hp⟩
theorem xs_like {n : Nat} (ds : List D) (P : AV → Prop) (h : cLike n ds P) : XS Vol.nil (ts__law_like K (sLike n)) (ds.map Slot.dat ++ List.replicate 1 .no) { nx := fun _ => P (.dat .non), rt := P } := by
  obtain ⟨x, rfl, hk, hp⟩ := h
  show XS Vol.nil _ [.dat x, .dat x, .no] _
  unfold ts__law_like
  have seq : ∀ xs, (x = .tup xs ∨ x = .lst xs) → ∃ m, n = m + 1 ∧ xs.length ≤ 100000 ∧ ∀ y ∈ xs, y.lk m = true := fun xs hx => by
    cases n with
    | zero => rcases hx with rfl | rfl <;> (unfold D.lk at hk; cases hk)
    | succ m =>
      refine ⟨m, rfl, ?_⟩
      rcases hx with rfl | rfl <;> (unfold D.lk at hk; rw [Bool.and_eq_true] at hk; exact ⟨of_decide_eq_true hk.1, D.lks_iff.mp hk.2⟩)
  have nr : ∀ w, x ≠ .raw w := fun w e => by subst e; unfold D.lk at hk; cases n <;> cases hk
  have is2 : ∀ {j : Nat} {b c : Bool} {Q : Bool → Prop}, (j = 0 ∨ j = 1) → kitB x.ty "list" = some b → kitB x.ty "tuple" = some c → Q (b || c) →
      XT Vol.nil (tB (tCB (rIsiT K) (tCons (tVar j) (tCons (tTup (tCons (tC (.ty "list")) (tCons (tC (.ty "tuple")) tNil))) tNil)))) [.dat x, .dat x, .no] Q := fun {j b c Q} hj h1 h2 q => by
    rcases hj with rfl | rfl <;> exact xt_B (xe_isi2 (xe_vard rfl ⟨nr, b, c, h1, h2, _, rfl, q⟩))
  have is1 : ∀ {T : String} {j : Nat} {b : Bool} {Q : AV → Prop}, (j = 0 ∨ j = 1) → kitB x.ty T = some b → Q (.dat (.bl b)) → XE Vol.nil (tCB (rIsi K) (tCons (tVar j) (tCons (tC (.ty T)) tNil))) [.dat x, .dat x, .no] Q := fun {T j b Q} hj h1 q => by
    rcases hj with rfl | rfl <;> exact xe_isi (xe_vard rfl ⟨nr, b, h1, q⟩)
  have scal : kitB x.ty "list" = some false → kitB x.ty "tuple" = some false → (∃ b, kitB x.ty "bool" = some b) → (∀ Q : Bool → Prop, Q true → EqK x x Q) → XS Vol.nil (ts__law_like K (sLike n)) [.dat x, .dat x, .no] { nx := fun _ => P (.dat .non), rt := P } := fun h1 h2 ⟨b, h3⟩ h4 => by
    unfold ts__law_like
    refine xs_seq (xs_if (is2 (.inl rfl) h1 h2 (ite_f rfl (xs_next ?_))))
    refine xs_seq (xs_if (is2 (.inr rfl) h1 h2 (ite_f rfl (xs_next ?_))))
    refine xs_ret (xe_andV (xe_eqK (is1 (.inl rfl) h3 (is1 (.inr rfl) h3 ?_))))
    refine eqk_bl ⟨_, rfl, ?_⟩
    rw [decide_eq_true rfl, if_pos rfl]
    repeat' walk_at "xw"
    exact h4 _ ⟨trivial, hp⟩
  have sq : ∀ xs, (x = .tup xs ∨ x = .lst xs) → ∀ b c, kitB x.ty "list" = some b → kitB x.ty "tuple" = some c → (b || c) = true → XS Vol.nil (ts__law_like K (sLike n)) [.dat x, .dat x, .no] { nx := fun _ => P (.dat .non), rt := P } := fun xs hx b c h1 h2 h3 => by
    obtain ⟨m, rfl, hl, hm⟩ := seq xs hx
    have len : ∀ {Q : Bool → Prop}, Q false → XT Vol.nil (tTest (tOp (rNeD K) (tCB (rLenQ K) (tCons (tVar 0) tNil)) (tCB (rLenQ K) (tCons (tVar 1) tNil)))) [.dat x, .dat x, .no] Q := fun {Q} q => by
      refine xt_test (xe_neK (xe_lenK (xa_cons (xe_vard rfl (xa_nil ⟨_, xs, rfl, hx, xe_lenK (xa_cons (xe_vard rfl (xa_nil ⟨_, xs, rfl, hx, eqk_int ?_⟩)))⟩)))))
      rw [decide_eq_true rfl]
      exact ⟨false, rfl, q⟩
    unfold ts__law_like
    refine xs_seq (xs_if (is2 (.inl rfl) h1 h2 (ite_t h3 ?_)))
    refine xs_seq (xs_if (xt_or (xt_test (xe_neK (is1 (.inl rfl) h1 (is1 (.inr rfl) h1 (eqk_bl ?_)))))))
    rw [decide_eq_true rfl]
    refine ⟨false, rfl, ite_f rfl (xt_test (xe_neK (is1 (.inl rfl) h2 (is1 (.inr rfl) h2 (eqk_bl ?_)))))⟩
    rw [decide_eq_true rfl]
    refine ⟨false, rfl, ite_f rfl (xs_next ?_)⟩
    refine xs_seq (xs_if (len (ite_f rfl (xs_next ?_))))
    exact xs_ret (like_seq hx hl hm hp)
  have st : ∀ s, x = .str s → PyData.strOk s = true := fun s e => by subst e; unfold D.lk at hk; cases n <;> exact hk
  cases x with
  | non => exact scal kb1.1 kb1.2.1 ⟨false, kb1.2.2⟩ fun Q q => eqk_same 0 rfl rfl q
  | bl b => exact scal kb2.1 kb2.2.1 ⟨true, kb2.2.2⟩ fun Q q => eqk_bl (by rw [decide_eq_true rfl]; exact q)
  | int b => exact scal kb3.1 kb3.2.1 ⟨false, kb3.2.2⟩ fun Q q => eqk_int (by rw [decide_eq_true rfl]; exact q)
  | str s => exact scal kb4.1 kb4.2.1 ⟨false, kb4.2.2⟩ fun Q q => eqk_str (st s rfl) (st s rfl) (by rw [decide_eq_true rfl]; exact q)
  | tup xs => exact sq xs (.inl rfl) false true kb5.1 kb5.2.1 rfl
  | lst xs => exact sq xs (.inr rfl) true false kb6.1 kb6.2.1 rfl
  | raw w => exact absurd rfl (nr w)
end
end MG
end
section
set_option linter.all false
set_option maxRecDepth 100000
set_option maxHeartbeats 4000000
/-! ML4: a law makes its tape. -/
namespace MG
open PySem L2 MR
def tapeVol (t l : Addr) (ns : List Int) (h : l ≠ t) : Vol := ⟨t, fun b => b = t, fun b => b = t ∨ b = l, fun H => (∃ i c, H t = some (.lst [.ref l, .int i, .int c])) ∧ H l = some (.lst (ns.map .int)),
  fun b z => .inl z, fun H H' k ⟨⟨i, c, e⟩, e2⟩ => ⟨⟨i, c, k t _ (.inl rfl) e⟩, k l _ (.inr rfl) e2⟩, fun H b ⟨⟨i, c, e⟩, _⟩ z => ⟨_, z ▸ e, fun xs q => by cases q⟩⟩
theorem tapeVol_ok {t l : Addr} {ns : List Int} (h : l ≠ t) : TapeV (tapeVol t l ns h) l ns where
  tT := rfl
  lF := .inr rfl
  lT := h
  get := fun H z => z
  put := fun H i c ⟨_, e⟩ => ⟨⟨i, c, upd_same⟩, by show upd H t _ l = _; rw [upd_ne h]; exact e⟩
def tTape (K : PySem.W.Frag) : TS := tAsg (tLst (tCons (tCB (rListQ K) (tCons (tVar 0) tNil)) (tCons (tC (.int 0)) (tCons (tC (.int 0)) tNil)))) (gName 1)
theorem xs_tapeNew {K : PySem.W.Frag} {ns : List Int} {rest : TS} {n : Nat} {E : AEnds}
    (h : ∀ V l, TapeV V l ns → XS V rest (.dat (.lst (dInts ns)) :: .tape :: List.replicate n .no) { nx := fun _ => False, rt := E.rt }) :
    XS Vol.nil (tSeq (tTape K) rest) (.dat (.lst (dInts ns)) :: .no :: List.replicate n .no) E := fun O0 H0 O σ H Dn m im => by
  obtain ⟨v, ev, rv⟩ := m.slot 0 (.dat (.lst (dInts ns))) rfl
  unfold Rp at rv
  obtain ⟨a, vs, rfl, ha, na, r⟩ := rv
  have evs : vs = ns.map L2.V.int := rpl_int_eq r
  subst evs
  refine ⟨.ref a, ev, a, _, rfl, .inl (SqL.of ha), fun l hl => ⟨by show 3 ≤ sizeLine; decide, fun t ht => ?_⟩⟩
  have hlt : l ≠ t := fun z => by rw [← z, upd_same] at ht; cases ht
  have htn : H t = none := by rw [upd_ne hlt.symm] at ht; exact ht
  have old : ∀ b o, H b = some o → (upd (upd H l (.lst (ns.map .int))) t (.lst [.ref l, .int 0, .int 0])) b = some o := fun b o e => by
    rw [upd_ne (ne_of_none e htn), upd_ne (ne_of_none e hl)]; exact e
  have ti : (tapeVol t l ns hlt).TI (upd (upd H l (.lst (ns.map .int))) t (.lst [.ref l, .int 0, .int 0])) := ⟨⟨0, 0, upd_same⟩, by rw [upd_ne hlt]; exact upd_same⟩
  generalize hH2 : (upd (upd H l (.lst (ns.map .int))) t (.lst [.ref l, .int 0, .int 0])) = H2 at old ti
  have ht2 : H2 t = some (.lst [.ref l, .int 0, .int 0]) := by rw [← hH2]; exact upd_same
  have hl2 : H2 l = some (.lst (ns.map .int)) := ti.2
  have nO : ∀ b, H b = none → ¬ O b := fun b e => m.free e
  have hlen : σ.length = n + 2 := by rw [m.len]; simp
  refine h (tapeVol t l ns hlt) l (tapeVol_ok hlt) (fun b => O0 b ∨ b = t ∨ b = l) H2 (fun b => O b ∨ b = t ∨ b = l) (σ.set 1 (some (.ref t))) H2 _
    { len := by rw [List.length_set, hlen]; simp
      slot := fun i s e => ?_
      sep := fun i j d1 d2 p e1 _ _ _ => ?_
      sub := fun b z => z.imp (m.sub b) id
      vf := fun b z => .inr z
      al0 := fun b z => ?_
      al := fun b z => ?_
      go := .refl ti
      ti0 := ti } ⟨fun _ _ _ _ _ _ z => z.elim, fun a' v H' g r' k p => ?_, fun _ _ _ _ _ _ z => z.elim, fun _ _ _ _ _ _ z => z.elim⟩
  · match i with
    | 0 =>
      cases (Option.some.inj e : Slot.dat (.lst (dInts ns)) = s)
      refine ⟨.ref a, by rw [List.getElem?_set_ne (by decide)]; exact ev, ?_⟩
      unfold Rp
      refine ⟨a, _, rfl, old a _ ha, fun z => ?_, rpl_ints ns⟩
      rcases z with z | z | z
      · exact na z
      · rw [z, htn] at ha; cases ha
      · rw [z, hl] at ha; cases ha
    | 1 =>
      cases (Option.some.inj e : Slot.tape = s)
      show (σ.set 1 _)[1]? = _
      rw [List.getElem?_set_self (by omega)]; rfl
    | i + 2 =>
      have e : (List.replicate n Slot.no)[i]? = some s := e
      rw [List.getElem?_replicate] at e
      split at e
      · cases e; trivial
      · cases e
  · have no : ∀ (j : Nat) (d : List D), (Slot.dat (.lst (dInts ns)) :: Slot.tape :: List.replicate n Slot.no)[j]? ≠ some (.own d) := fun j d e => by
      match j with
      | 0 => cases e
      | 1 => cases e
      | j + 2 =>
        have e : (List.replicate n Slot.no)[j]? = some (.own d) := e
        rw [List.getElem?_replicate] at e
        split at e <;> cases e
    exact absurd e1 (no i d1)
  · rcases z with z | z | z
    · obtain ⟨o, e⟩ := m.al0 b z
      exact ⟨o, old b o (m.go.1 b o (fun q => q) e)⟩
    · exact ⟨_, z ▸ ht2⟩
    · exact ⟨_, z ▸ hl2⟩
  · rcases z with z | z | z
    · obtain ⟨o, e, nt⟩ := m.al b z
      exact ⟨o, old b o e, nt⟩
    · exact ⟨_, z ▸ ht2, fun xs q => by cases q⟩
    · exact ⟨_, z ▸ hl2, fun xs q => by cases q⟩
  · have back : ∀ b o, H0 b = some o → H' b = some o := fun b o e => by
      have e2 := m.go.1 b o (fun q => q) e
      exact g.1 b o (fun q => by have q : b = t := q; rw [q, htn] at e2; cases e2) (old b o e2)
    refine im.2.1 a' v H' ⟨fun b o _ e => back b o e, trivial⟩ ?_ k p
    cases a' with
    | dat d => exact rp_less (fun b hb => .inl hb) (show Rp _ H' d v from r')
    | new ds =>
      obtain ⟨p, us, e, hn, h1, r2⟩ := r'
      refine ⟨p, us, e, ?_, h1, rpl_less (fun b hb => hb.imp (fun z => .inl z) id) r2⟩
      cases q : H0 p with
      | none => rfl
      | some o => rw [old p o (m.go.1 p o (fun z => z) q)] at hn; cases hn
    | brw ds => exact k.elim
end MG
end
section
set_option linter.all false
set_option maxRecDepth 100000
set_option maxHeartbeats 4000000
/-! MA3: calls that are lent a list of ours; calls that draw; bounds of what is drawn. -/
namespace MG
open PySem L2 MR
section
variable {V : Vol} {δ : List Slot} {K : PySem.W.Frag} {O0 O : AS} {H0 H H' H1 H2 : Hp} {σ : L2.St} {l : Addr} {xs : List Int}
theorem MtO.lend (m : MtO V O0 H0 O δ σ H) {a : AV} {v : L2.V} (r : RepA V O H H1 a v) : Rp (fun _ => False) H1 a.d v := by
  cases a with
  | dat d => exact rp_less (fun _ z => z.elim) (show Rp O H1 d v from r)
  | new ds =>
    obtain ⟨p, vs, e, n, h1, r⟩ := r
    show Rp _ H1 (.lst ds) v
    unfold Rp
    exact ⟨p, vs, e, h1, id, rpl_less (fun _ z => z.elim) r⟩
  | brw ds =>
    obtain ⟨p, vs, e, _, _, h1, r⟩ := r
    show Rp _ H1 (.lst ds) v
    unfold Rp
    exact ⟨p, vs, e, h1, id, rpl_less (fun _ z => z.elim) r⟩
theorem MtO.lends (m : MtO V O0 H0 O δ σ H) : ∀ {as : List AV} {vs : List L2.V}, RepAs V O H H1 as vs → RpL (fun _ => False) H1 (as.map AV.d) vs
  | [], vs, r => by
    have r : vs = [] := r
    subst r; exact RpL.nil
  | a :: as, vs, r => by
    obtain ⟨v, t, e, h1, h2⟩ := r
    subst e
    exact RpL.cons (m.lend h1) (m.lends h2)
theorem rp_scal {O O' : AS} {H H' : Hp} {d : D} {v : L2.V} (s : d.scal = true) (r : Rp O H d v) : Rp O' H' d v := by
  cases d <;> first | (unfold Rp at r ⊢; exact r) | cases s
theorem xe_callLend {sp : ASp} {ta : TA} {P : AV → Prop} (h : XA V ta δ fun as => sp (as.map AV.d) fun a => a.d.scal = true ∧ P (.dat a.d)) : XE V (tCall (Lift sp) [] E0 ta) δ P := fun O0 H0 O σ H m Q q =>
  h O0 H0 O σ H m _ fun as vs H1 g1 r1 s => by
    refine ⟨fun _ => False, as.map AV.d, _, fun b z => z.elim, ?_, s, fun a v H' sm r ⟨k, p⟩ => ?_⟩
    · rw [List.append_nil]; exact m.lends r1
    · have m1 := m.mono g1
      refine q (.dat a.d) v H' (g1.trans (.same g1.2 sm)) ?_ p
      show Rp O H' a.d v
      cases a with
      | dat d => exact rp_scal k (show Rp _ H' d v from r)
      | new ds => cases k
      | brw ds => cases k
def LikeK (n : Nat) (as : List AV) (P : AV → Prop) : Prop := ∃ a b, as = [a, b] ∧ a.d = b.d ∧ a.d.lk n = true ∧ P (.dat (.bl true))
theorem likek {n : Nat} {a b : AV} {P : AV → Prop} (e : a.d = b.d) (h : a.d.lk n = true) (p : P (.dat (.bl true))) : LikeK n [a, b] P := ⟨a, b, rfl, e, h, p⟩
theorem xe_likeK {n : Nat} {ta : TA} {P : AV → Prop} (h : XA V ta δ fun as => LikeK n as P) : XE V (tCall (sLike (n + 1)) [] E0 ta) δ P := by
  refine xe_callLend (sp := cLike n) fun O0 H0 O σ H m Q q => h O0 H0 O σ H m Q fun as vs H' g r ⟨a, b, e, e2, hk, p⟩ => q as vs H' g r ?_
  subst e
  exact ⟨a.d, by rw [List.map_cons, List.map_cons, List.map_nil, e2], hk, rfl, p⟩
/-! draws -/
theorem xe_drawK {sp : ASp} {j : Nat} {ta : TA} {P : AV → Prop} (T : TapeV V l xs) (e : δ[j]? = some .tape) (h : XA V ta δ fun as => ArgK as sp P) : XE V (tCall (LiftI tpT fun _ => sp) [] E0 (tCons (tVar j) ta)) δ P :=
  xe_callI () e ⟨l, xs, T⟩ h
theorem draw_i {n : Int} {P : AV → Prop} (h0 : 0 < n) (h1 : n ≤ 1000000) (h : ∀ r, 0 ≤ r → r < n → P (.dat (.int r))) : spDraw [.int n] P := ⟨n, rfl, h0, small_log h0 h1, h⟩
theorem margin_i {n : Int} {P : AV → Prop} (h0 : 0 ≤ n) (h1 : n ≤ 100000) (h : ∀ r, -n ≤ r → r ≤ n → P (.dat (.int r))) : spMargin [.int n] P := ⟨n, rfl, h0, h1, h⟩
theorem doc_i {n w : Int} {P : AV → Prop} (h0 : 0 ≤ w) (h1 : w ≤ 100000) (h : ∀ bs, Bx.drawn w 3 bs → P (.dat (Bx.doc bs))) : spDoc [.int n, .int w] P := ⟨n, w, rfl, h0, h1, h⟩
end
/-! ### what is drawn is small -/
def bxMax : Nat → Nat
  | 0 => 3
  | n + 1 => 4 + 3 * bxMax n
theorem bxMax3 : bxMax 3 = 133 := rfl
mutual
theorem fine_len {w : Int} : ∀ (d : Nat) (b : Bx), Bx.fine w d b → b.pts.length ≤ bxMax d ∧ b.dep ≤ d
  | 0, .blk t b s, _ => by unfold Bx.pts Bx.dep; exact ⟨by simp [bxMax], Nat.le_refl _⟩
  | d + 1, .blk t b s, _ => by
    unfold Bx.pts Bx.dep
    refine ⟨?_, Nat.zero_le _⟩
    have : 1 ≤ bxMax d := by cases d <;> simp [bxMax]; omega
    simp [bxMax]; omega
  | 0, .grp t b p bs, h => by unfold Bx.fine at h; exact h.elim
  | d + 1, .grp t b p bs, h => by
    unfold Bx.fine at h
    obtain ⟨_, _, _, _, _, _, hl, hf⟩ := h
    obtain ⟨k1, k2⟩ := fines_len d bs hf
    unfold Bx.pts Bx.dep
    refine ⟨?_, by omega⟩
    have : bs.length * bxMax d ≤ 3 * bxMax d := Nat.mul_le_mul_right _ hl
    by_cases hp : 0 < p
    · simp [hp, bxMax]; omega
    · simp [hp, bxMax]; omega
theorem fines_len {w : Int} : ∀ (d : Nat) (bs : List Bx), Bx.fines w d bs → (Bx.ptss bs).length ≤ bs.length * bxMax d ∧ Bx.deps bs ≤ d
  | d, [], _ => by unfold Bx.ptss Bx.deps; exact ⟨Nat.zero_le _, Nat.zero_le _⟩
  | d, b :: bs, h => by
    unfold Bx.fines at h
    obtain ⟨a1, a2⟩ := fine_len d b h.1
    obtain ⟨b1, b2⟩ := fines_len d bs h.2
    unfold Bx.ptss Bx.deps
    refine ⟨?_, by omega⟩
    rw [List.length_append, List.length_cons, Nat.add_mul]; omega
end
theorem drawn_len {w : Int} {bs : List Bx} (h : Bx.drawn w 3 bs) : (Bx.ptss bs).length ≤ 399 ∧ Bx.deps bs ≤ 3 := by
  obtain ⟨a, b⟩ := fines_len 3 bs h.2
  have : bs.length * bxMax 3 ≤ 3 * bxMax 3 := Nat.mul_le_mul_right _ h.1
  rw [bxMax3] at this a
  exact ⟨by omega, b⟩
/-! ### they are like themselves -/
theorem lk_ints {n : Nat} (xs : List Int) : ∀ x ∈ dInts xs, x.lk n = true := fun x hx => by
  obtain ⟨i, _, rfl⟩ := List.mem_map.mp hx
  cases n <;> rfl
theorem lk_lst {n : Nat} {xs : List D} (hl : xs.length ≤ 100000) (h : ∀ x ∈ xs, x.lk n = true) : (D.lst xs).lk (n + 1) = true := by
  unfold D.lk; rw [Bool.and_eq_true]; exact ⟨decide_eq_true hl, D.lks_iff.mpr h⟩
theorem lk_tup {n : Nat} {xs : List D} (hl : xs.length ≤ 100000) (h : ∀ x ∈ xs, x.lk n = true) : (D.tup xs).lk (n + 1) = true := by
  unfold D.lk; rw [Bool.and_eq_true]; exact ⟨decide_eq_true hl, D.lks_iff.mpr h⟩
theorem lk_int {n : Nat} {i : Int} : (D.int i).lk n = true := by cases n <;> rfl
theorem lk_tI {n : Nat} {xs : List Int} (h : xs.length ≤ 100000) : (tI xs).lk (n + 1) = true := lk_tup (by rw [dInts_len]; exact h) (lk_ints xs)
theorem lk_lI {n : Nat} {xs : List Int} (h : xs.length ≤ 100000) : (D.lst (dInts xs)).lk (n + 1) = true := lk_lst (by rw [dInts_len]; exact h) (lk_ints xs)
theorem lk_rows {n : Nat} {rs : List (List Int)} (h : rs.length ≤ 100000) (h2 : ∀ r ∈ rs, r.length ≤ 100000) : (D.lst (rs.map tI)).lk (n + 2) = true := lk_lst (by rw [List.length_map]; exact h) fun x hx => by
  obtain ⟨r, hr, rfl⟩ := List.mem_map.mp hx
  exact lk_tI (h2 r hr)
theorem lk_edges {n : Nat} {es : List (Int × Int)} (h : es.length ≤ 100000) : (D.lst (es.map eD)).lk (n + 2) = true := lk_lst (by rw [List.length_map]; exact h) fun x hx => by
  obtain ⟨r, hr, rfl⟩ := List.mem_map.mp hx
  exact lk_tup (show 2 ≤ 100000 by decide) fun y hy => by
    have hy : y = .int r.1 ∨ y = .int r.2 := by simpa using hy
    rcases hy with rfl | rfl <;> exact lk_int
theorem nb_edges {es : List (Int × Int)} : (D.lst (es.map eD)).nb 2 = true := by
  unfold D.nb
  refine D.nbs_iff.mpr fun x hx => ?_
  obtain ⟨r, hr, rfl⟩ := List.mem_map.mp hx
  rfl
theorem edges_len (ps : List Pt) : (edgesOf ps).length ≤ ps.length := by rw [← edg_of]; exact edg_len ps
/-! ### promises, ready to run -/
theorem lparts_i {d : Nat} {bs : List Bx} {P : AV → Prop} (h1 : Bx.deps bs ≤ d) (h2 : (Bx.ptss bs).length ≤ 99999) (h : P (.new ((Bx.ptss bs).map Pt.d))) : cLParts d [Bx.doc bs] P := ⟨bs, rfl, h1, h2, h⟩
theorem lruns_i {ps : List Pt} {P : AV → Prop} (h1 : ps.length ≤ 99999) (h : P (.dat (.tup [.lst ((rowsOf ps).map tI), .lst (dInts (solOf ps))]))) : spLRuns [.lst (ps.map Pt.d)] P := ⟨ps, rfl, h1, h⟩
theorem ledges_i {ps : List Pt} {P : AV → Prop} (h1 : ps.length ≤ 99998) (h : P (.dat (.tup [.lst ((edgesOf ps).map eD), .int (totalOf ps)]))) : spLEdges [.lst (ps.map Pt.d)] P := ⟨ps, rfl, h1, h⟩
theorem runs_i {d : Nat} {bs : List Bx} {P : AV → Prop} (h1 : Bx.deps bs ≤ d) (h2 : (Bx.ptss bs).length ≤ 99999) (h : P (.dat (.lst ((rowsOf (Bx.ptss bs)).map tI)))) : spRuns d [Bx.doc bs] P := ⟨bs, rfl, h1, by omega, h⟩
theorem gaps_i {d : Nat} {bs : List Bx} {P : AV → Prop} (h1 : Bx.deps bs ≤ d) (h2 : (Bx.ptss bs).length ≤ 99999) (h : P (.new (dInts ((rowsOf (Bx.ptss bs)).map gapI)))) : spGaps d [Bx.doc bs] P := ⟨bs, rfl, h1, h2, fun r hr => Nat.le_trans (rows_each _ r hr) (by omega), h⟩
theorem edges_i {d : Nat} {bs : List Bx} {P : AV → Prop} (h1 : Bx.deps bs ≤ d) (h2 : (Bx.ptss bs).length ≤ 99999) (h : P (.new ((edgesOf (Bx.ptss bs)).map eD))) : spEdges d [Bx.doc bs] P := ⟨bs, rfl, h1, h2, h⟩
theorem total_i {d : Nat} {bs : List Bx} {P : AV → Prop} (h1 : Bx.deps bs ≤ d) (h2 : (Bx.ptss bs).length ≤ 99999) (h : P (.dat (.int (totalOf (Bx.ptss bs))))) : spTotal d [Bx.doc bs] P := ⟨bs, rfl, h1, h2, fun r hr => Nat.le_trans (rows_each _ r hr) (by omega), h⟩
theorem ixk_pick {ds : List D} {r : Int} {k : D → Prop} (h0 : 0 ≤ r) (h1 : r < ds.length) (h : ∀ d ∈ ds, k d) : IxK (.lst ds) (.int r) k := by
  have hj : r.toNat < ds.length := by omega
  refine ixk_l (d := ds[r.toNat]) (atI_of (j := r.toNat) ?_ (List.getElem?_eq_getElem hj)) (h _ (List.getElem_mem hj))
  unfold ixN
  rw [if_pos h0, if_pos h1]
/-- one of some written numbers -/
theorem ixk_nums {ns : List Int} {r lo hi : Int} {k : D → Prop} (h0 : 0 ≤ r) (h1 : r < (ns.length : Int)) (hb : ∀ n ∈ ns, lo ≤ n ∧ n ≤ hi) (h : ∀ w, lo ≤ w → w ≤ hi → k (.int w)) : IxK (.lst (ns.map .int)) (.int r) k :=
  ixk_pick h0 (by rw [List.length_map]; exact h1) fun d hd => by
    obtain ⟨n, hn, rfl⟩ := List.mem_map.mp hd
    exact h n (hb n hn).1 (hb n hn).2
/-! ### turns of a law -/
def TurnE (a b : Slot) (n : Nat) (δ' : List Slot) : Prop := ∃ δx, δx.length = n ∧ δ' = a :: b :: δx
theorem turnE {a b : Slot} {n : Nat} {δx : List Slot} (h : δx.length = n) : TurnE a b n (a :: b :: δx) := ⟨δx, h, rfl⟩
theorem xs_turns {V : Vol} {a b : Slot} {δr : List Slot} {n : Nat} {tb : TS} {E : AEnds} (hn : n ≤ 100000) (hs : ∀ (i : Nat) (δx : List Slot), δx.length = δr.length → XS V tb (a :: b :: (δx.set 0 (.dat (.int (i : Int))))) { E with nx := TurnE a b δr.length, ct := TurnE a b δr.length, bk := E.nx })
    (he : ∀ δx : List Slot, δx.length = δr.length → E.nx (a :: b :: δx)) : XS V (tFor (iRng1 (tCons (tC (.int (n : Int))) tNil)) (gName 2) tb) (a :: b :: δr) E :=
  xs_forR1 (xa_cons (xe_c (xa_nil ⟨_, (n : Int), rfl, rfl, by omega, by omega, fun _ δ' => TurnE a b δr.length δ', ⟨δr, rfl, rfl⟩, fun i _ δ' ⟨δx, hl, e⟩ => by
    subst e
    exact xg_name (hs i δx hl), fun δ' ⟨δx, hl, e⟩ => by subst e; exact he δx hl⟩)))
/-! facts of a drawn document, for the tactic -/
structure DocF (n : Nat) (bs : List Bx) : Prop where
  len : (Bx.ptss bs).length ≤ 9999
  dep : Bx.deps bs ≤ n
  rows : (rowsOf (Bx.ptss bs)).length ≤ 10000
  each : ∀ r ∈ rowsOf (Bx.ptss bs), r.length ≤ 100000
  sol : (solOf (Bx.ptss bs)).length ≤ 9999
  edg : (edgesOf (Bx.ptss bs)).length ≤ 9999
  k1 : (D.lst ((rowsOf (Bx.ptss bs)).map tI)).lk 8 = true
  k2 : (D.lst (dInts ((rowsOf (Bx.ptss bs)).map gapI))).lk 8 = true
  k3 : (D.lst ((edgesOf (Bx.ptss bs)).map eD)).lk 8 = true
theorem DocF.of {n : Nat} {bs : List Bx} (h : (Bx.ptss bs).length ≤ 9999) (h2 : Bx.deps bs ≤ n) : DocF n bs := by
  have a := rowsOf_len (Bx.ptss bs)
  have b := rows_each (Bx.ptss bs)
  have c := edges_len (Bx.ptss bs)
  have e := (rows_bound (Bx.ptss bs)).2.2
  have b' : ∀ r ∈ rowsOf (Bx.ptss bs), r.length ≤ 100000 := fun r hr => Nat.le_trans (b r hr) (by omega)
  exact ⟨h, h2, by omega, b', Nat.le_trans e (by omega), by omega, lk_rows (by omega) b', lk_lI (by rw [List.length_map]; omega), lk_edges (by omega)⟩
theorem drawnF {w : Int} {bs : List Bx} (h : Bx.drawn w 3 bs) : DocF 3 bs := by
  obtain ⟨a, b⟩ := drawn_len h
  exact .of (by omega) b
/-- the gaps of rows, by the law's own gap -/
theorem xe_gapsK {V : Vol} {δ : List Slot} {K : PySem.W.Frag} {j k : Nat} {rows : List (List Int)} {P : AV → Prop} (e : δ[j]? = some (.dat (.lst (rows.map tI)))) (hk : k < δ.length) (hl : rows.length ≤ 100000) (h2 : ∀ r ∈ rows, r.length ≤ 100000)
    (h : P (.new (dInts (rows.map gapI)))) : XE V (tLc (iList K (tVar j)) (gName k) tYes (tCall (Lift spLGap) [] E0 (tCons (tVar k) tNil)) [k]) δ P := by
  refine xe_lcF (tin_name (List.mem_singleton.mpr rfl)) rows tI (fun _ => true) (fun r => .int (gapI r)) hl (xe_vard e ⟨rfl, fun r hr => ?_, ?_⟩)
  · refine xg_name (xt_yes ⟨rfl, fun _ => ?_⟩)
    refine xe_callK (xa_cons (xe_vard (d := tI r) ?_ (xa_nil (argK (allOk_cons trivial allOk_nil) (lgap_t (h2 r hr) ⟨trivial, trivial, rfl⟩)))))
    unfold wipeS wipeS
    rw [List.set_set, List.getElem?_set_self hk]
  · rw [List.filter_eq_self.mpr (fun _ _ => rfl)]
    have e : dInts (rows.map gapI) = rows.map fun r => D.int (gapI r) := by unfold dInts; rw [List.map_map]; rfl
    rw [← e]; exact h
end MG
end
section
set_option linter.all false
set_option maxRecDepth 100000
set_option maxHeartbeats 4000000
/-! MA4: what stands at the top; defs whose promise is empty. -/
namespace MG
open PySem L2 MR
theorem ite_nd_t {p : Prop} [Decidable p] {A B : Prop} (h : p) (b : B) : if (!decide p) = true then A else B := by
  rw [decide_eq_true h, if_neg (by decide)]; exact b
theorem ite_nd_f {p : Prop} [Decidable p] {A B : Prop} (h : ¬ p) (a : A) : if (!decide p) = true then A else B := by
  rw [decide_eq_false h, if_pos (by decide)]; exact a
def Stands (K : PySem.W.Frag) (x : Str) (st : Stmt) : Prop := ∃ (f : Addr) (oc : Value) (od an : Option Addr) (osl : Array (Option Value)) (kV doc pm cdv ct : Value),
  PySem.W.nsIn K mainGlobals x = some (some (.ref f)) ∧ K.lookup f = some ⟨oc, od, .func (PySem.W.fnOf x x (defArgs st) (defBody st) (defScope st) .none kV doc pm an cdv ct), osl⟩ ∧ PySem.W.codeIn K cdv x = true ∧ PySem.W.keepIn K (.ref f) = true
theorem stands {K : PySem.W.Frag} {x : Str} {st : Stmt} {f : Addr} {oc : Value} {od an : Option Addr} {osl : Array (Option Value)} {kV doc pm cdv ct : Value}
    (a : PySem.W.nsIn K mainGlobals x = some (some (.ref f))) (l : K.lookup f = some ⟨oc, od, .func (PySem.W.fnOf x x (defArgs st) (defBody st) (defScope st) .none kV doc pm an cdv ct), osl⟩) (c : PySem.W.codeIn K cdv x = true) (k : PySem.W.keepIn K (.ref f) = true) : Stands K x st :=
  ⟨f, oc, od, an, osl, kV, doc, pm, cdv, ct, a, l, c, k⟩
structure At (K : PySem.W.Frag) (mg : Str → Option Value) (x : Str) (st : Stmt) : Prop where
  ex : ∃ (fa : Addr) (kV doc pm cdv ct : Value) (an : Option Addr), mg x = some (.ref fa) ∧ L2.Fun K x x st fa (PySem.W.fnOf x x (defArgs st) (defBody st) (defScope st) .none kV doc pm an cdv ct)
theorem Stands.at {K : PySem.W.Frag} {x : Str} {st : Stmt} {h : Heap} {mg : Str → Option Value} (s : Stands K x st) (X : K.In h) (G : h.Ns mainGlobals mg) : At K mg x st := by
  obtain ⟨f, oc, od, an, osl, kV, doc, pm, cdv, ct, a, l, c, k⟩ := s
  exact ⟨f, kV, doc, pm, cdv, ct, an, PySem.W.mg_of X G a, L2.fun_mk (st := st) l c k⟩
section
variable {P : Program} {w : World} {K : PySem.W.Frag} {mg : Str → Option Value} {base : Heap} {x qual : Str} {st : Stmt} {fa : Addr} {fd : FuncData} {ps : List Str} {k : Nat}
theorem has_empty (F : L2.Fun K x qual st fa fd) (hm : mg x = some (.ref fa)) (bd : Binds K fd ps []) : Has P w K mg base k x ps (fun _ _ _ _ => False) ∧ HasZ P w K mg base k x ps (fun _ _ _ _ => False) :=
  has_of F hm bd ⟨fun _ _ _ _ h => h.elim, fun _ _ _ _ _ _ _ _ _ _ _ _ _ h => h.elim⟩
end
/-! ### a law's start -/
def spLaw (K : PySem.W.Frag) : Sp := fun vs H Q _ => ∃ (a : Addr) (ns : List Int), vs = [.ref a] ∧ SqL K H a (ns.map L2.V.int) ∧ ∀ H', Q (.bl true) H'
abbrev lawE : AEnds := { nx := fun _ => False, rt := fun a => a = .dat (.bl true) }
theorem law_run {K : PySem.W.Frag} {N : List Str} {rest : TS} {n : Nat} {H : Hp} {a : Addr} {ns : List Int} {Dn : Ends} (hN : N.length = n + 2) (hS : SqL K H a (ns.map L2.V.int))
    (h : ∀ V l, TapeV V l ns → XS V rest (.no :: .tape :: List.replicate n .no) lawE) (q : ∀ H', Dn.rt (.bl true) H') : tSeq (tTape K) rest Dn (L2.start N [.ref a]) H := by
  have hst : L2.start N [.ref a] = some (.ref a) :: none :: List.replicate n none := by
    unfold L2.start
    rw [List.map_singleton, hN]
    rfl
  rw [hst]
  refine ⟨.ref a, rfl, a, _, rfl, .inl hS, fun l hl => ⟨by show 3 ≤ sizeLine; decide, fun t ht => ?_⟩⟩
  have hlt : l ≠ t := fun z => by rw [← z, upd_same] at ht; cases ht
  have ti : (tapeVol t l ns hlt).TI (upd (upd H l (.lst (ns.map .int))) t (.lst [.ref l, .int 0, .int 0])) := ⟨⟨0, 0, upd_same⟩, by rw [upd_ne hlt]; exact upd_same⟩
  generalize hH2 : (upd (upd H l (.lst (ns.map .int))) t (.lst [.ref l, .int 0, .int 0])) = H2 at ti
  have ht2 : H2 t = some (.lst [.ref l, .int 0, .int 0]) := by rw [← hH2]; exact upd_same
  have hl2 : H2 l = some (.lst (ns.map .int)) := ti.2
  refine h (tapeVol t l ns hlt) l (tapeVol_ok hlt) (fun b => b = t ∨ b = l) H2 (fun b => b = t ∨ b = l) _ H2 _
    { len := by simp
      slot := fun i s e => ?_
      sep := fun i j d1 d2 p e1 _ _ _ => ?_
      sub := fun b z => z
      vf := fun b z => z
      al0 := fun b z => ?_
      al := fun b z => ?_
      go := .refl ti
      ti0 := ti } ⟨fun _ _ _ _ _ _ z => z.elim, fun a' v H' g r' k p => ?_, fun _ _ _ _ _ _ z => z.elim, fun _ _ _ _ _ _ z => z.elim⟩
  · match i with
    | 0 =>
      cases (Option.some.inj e : Slot.no = s)
      trivial
    | 1 =>
      cases (Option.some.inj e : Slot.tape = s)
      rfl
    | i + 2 =>
      have e : (List.replicate n Slot.no)[i]? = some s := e
      rw [List.getElem?_replicate] at e
      split at e
      · cases e; trivial
      · cases e
  · have no : ∀ (j : Nat) (d : List D), (Slot.no :: Slot.tape :: List.replicate n Slot.no)[j]? ≠ some (.own d) := fun j d e => by
      match j with
      | 0 => cases e
      | 1 => cases e
      | j + 2 =>
        have e : (List.replicate n Slot.no)[j]? = some (.own d) := e
        rw [List.getElem?_replicate] at e
        split at e <;> cases e
    exact absurd e1 (no i d1)
  · rcases z with z | z
    · exact ⟨_, z ▸ ht2⟩
    · exact ⟨_, z ▸ hl2⟩
  · rcases z with z | z
    · exact ⟨_, z ▸ ht2, fun xs q => by cases q⟩
    · exact ⟨_, z ▸ hl2, fun xs q => by cases q⟩
  · have p : a' = .dat (.bl true) := p
    subst p
    have r' : Rp (fun b => b = t ∨ b = l) H' (.bl true) v := r'
    unfold Rp at r'
    subst r'
    exact q H'
section
variable {P : Program} {w : World} {K : PySem.W.Frag} {mg : Str → Option Value} {base : Heap} {x qual : Str} {st : Stmt} {fa : Addr} {fd : FuncData} {N : List Str} {y : Str} {k : Nat} {ts : TS}
theorem fnz_start (F : L2.Fun K x qual st fa fd) (S : FnScope N [y] (defScope st))
    (hb : ∀ (cdv : Value) (A : Around) (outer : List Env) (s : Shared) (H : Hp) (E : XK), Room k (A.deeper (PyProof.Rows.envOfC qual (defScope st) s.heap.objs.size fa cdv)) → PSsz (cxOf CX0 P w K mg base N qual (defScope st) fa cdv A outer s H E).nox (defBody st) ts)
    (hx : ∀ (H : Hp) (a : Addr) (ns : List Int) (Dn : Ends), SqL K H a (ns.map L2.V.int) → (∀ H', Dn.rt (.bl true) H') → ts Dn (L2.start N [.ref a]) H) : FnZ P w K mg base (k + 1) fa fd [y] (spLaw K) := by
  obtain ⟨oc, od, kV, doc, pm, an, cdv, ct, osl, rfl, lk, hcd⟩ := F.ex
  refine fnZ_of lk hcd S (fun vs H Q E h => ?_) fun A outer s H vs Q hr h => ⟨ts, hb cdv A outer s H E0 hr, ?_⟩
  · obtain ⟨a, ns, rfl, _⟩ := h; rfl
  · obtain ⟨a, ns, rfl, hS, q⟩ := h
    exact hx H a ns _ hS q
theorem fnz_startC (F : L2.Fun K x qual st fa fd) (S : FnScope N [y] (defScope st))
    (hb : ∀ (cdv : Value) (A : Around) (outer : List Env) (s : Shared) (H : Hp) (E : XK), Room k (A.deeper (PyProof.Rows.envOfC qual (defScope st) s.heap.objs.size fa cdv)) → PSs (cxOf CX0 P w K mg base N qual (defScope st) fa cdv A outer s H E).nox (defBody st) ts)
    (hx : ∀ (H : Hp) (a : Addr) (ns : List Int) (Dn : Ends), SqL K H a (ns.map L2.V.int) → (∀ H', Dn.rt (.bl true) H') → ts Dn (L2.start N [.ref a]) H) : FnZ P w K mg base (k + 1) fa fd [y] (spLaw K) :=
  fnz_start F S (fun cdv A outer s H E hr => ssz (fun _ _ h => h) (hb cdv A outer s H E hr)) hx
end
end MG
end
section
set_option linter.all false
set_option maxRecDepth 100000
set_option maxHeartbeats 4000000
/-! ML5: how parts act on what is around them; forms. -/
namespace MG
open PySem L2 MR
theorem mx_app : ∀ (xs ys : List Int), mx (xs ++ ys) = max (mx xs) (mx ys)
  | [], ys => by
    show mx ys = max 0 (mx ys)
    have := mx_le ys 0 (.inr rfl)
    omega
  | x :: xs, ys => by
    show max x (mx (xs ++ ys)) = max (max x (mx xs)) (mx ys)
    rw [mx_app xs ys]; omega
theorem mn_app : ∀ (xs ys : List Int), mn (xs ++ ys) = min (mn xs) (mn ys)
  | [], ys => by
    show mn ys = min 0 (mn ys)
    have := mn_le ys 0 (.inr rfl)
    omega
  | x :: xs, ys => by
    show min x (mn (xs ++ ys)) = min (min x (mn xs)) (mn ys)
    rw [mn_app xs ys]; omega
theorem mx_0 (xs : List Int) : 0 ≤ mx xs := mx_le xs 0 (.inr rfl)
theorem mn_0 (xs : List Int) : mn xs ≤ 0 := mn_le xs 0 (.inr rfl)
theorem mx_one (x : Int) : mx [x] = max x 0 := rfl
theorem mn_one (x : Int) : mn [x] = min x 0 := rfl
theorem mx_nil : mx [] = 0 := rfl
theorem mn_nil : mn [] = 0 := rfl
theorem snoc_ind {α : Type} {P : List α → Prop} (h0 : P []) (hs : ∀ xs x, P xs → P (xs ++ [x])) (xs : List α) : P xs := by
  have key : ∀ ys : List α, P ys.reverse := fun ys => by
    induction ys with
    | nil => exact h0
    | cons y ys ih => rw [List.reverse_cons]; exact hs _ _ ih
  have := key xs.reverse
  rwa [List.reverse_reverse] at this
/-- edges so far, here, the pair of the open run -/
structure G4 where
  edg : List (Int × Int)
  h : Int
  hi : Int
  lo : Int
def G4.step (g : G4) : Pt → G4
  | .m n => { g with hi := max g.hi n, lo := min g.lo n }
  | .s n => ⟨g.edg ++ [(g.h + g.hi + g.lo, g.h + g.hi + g.lo + n)], g.h + g.hi + g.lo + n, 0, 0⟩
def G4.go (g : G4) (ps : List Pt) : G4 := ps.foldl G4.step g
def G4.zero : G4 := ⟨[], 0, 0, 0⟩
theorem G4.go_app (g : G4) (a b : List Pt) : g.go (a ++ b) = (g.go a).go b := List.foldl_append ..
def nsol : List Pt → Nat
  | [] => 0
  | .m _ :: ps => nsol ps
  | .s _ :: ps => nsol ps + 1
theorem nsol_app : ∀ a b, nsol (a ++ b) = nsol a + nsol b
  | [], b => by simp [nsol]
  | .m _ :: a, b => by simp [nsol, nsol_app a b]
  | .s _ :: a, b => by simp [nsol, nsol_app a b]; omega
theorem G4.go_edg : ∀ (ps : List Pt) (e : List (Int × Int)) (h hi lo : Int), (G4.mk e h hi lo).go ps = ⟨e ++ ((G4.mk [] h hi lo).go ps).edg, ((G4.mk [] h hi lo).go ps).h, ((G4.mk [] h hi lo).go ps).hi, ((G4.mk [] h hi lo).go ps).lo⟩
  | [], e, h, hi, lo => by simp [G4.go]
  | .m n :: ps, e, h, hi, lo => by
    show (G4.mk e h (max hi n) (min lo n)).go ps = _
    rw [G4.go_edg ps e]; rfl
  | .s n :: ps, e, h, hi, lo => by
    show (G4.mk (e ++ [(h + hi + lo, h + hi + lo + n)]) (h + hi + lo + n) 0 0).go ps = _
    rw [G4.go_edg ps (e ++ _)]
    have : (G4.mk [] h hi lo).go (.s n :: ps) = (G4.mk [(h + hi + lo, h + hi + lo + n)] (h + hi + lo + n) 0 0).go ps := rfl
    rw [this, G4.go_edg ps [(h + hi + lo, h + hi + lo + n)]]
    simp
theorem G4.edg_len : ∀ (ps : List Pt) (h hi lo : Int), ((G4.mk [] h hi lo).go ps).edg.length = nsol ps
  | [], h, hi, lo => rfl
  | .m n :: ps, h, hi, lo => G4.edg_len ps h (max hi n) (min lo n)
  | .s n :: ps, h, hi, lo => by
    show ((G4.mk [(h + hi + lo, h + hi + lo + n)] (h + hi + lo + n) 0 0).go ps).edg.length = nsol ps + 1
    rw [G4.go_edg]
    simp [G4.edg_len ps]
theorem runs_snoc (ps : List Pt) (p : Pt) : runsOf (ps ++ [p]) = (runsOf ps).step p := by unfold runsOf; rw [List.foldl_append]; rfl
/-- the definition, by the pairs alone -/
theorem go_runs (ps : List Pt) : G4.zero.go ps = ⟨(runsOf ps).edg, (runsOf ps).here, mx (runsOf ps).run, mn (runsOf ps).run⟩ := by
  induction ps using snoc_ind with
  | h0 => rfl
  | hs ps p ih =>
    rw [G4.go_app, ih]
    cases p with
    | m n =>
      obtain ⟨e1, e2, e3⟩ := run_snoc (ps := ps) n
      rw [e1, e2, e3, mx_app, mn_app, mx_one, mn_one]
      have a0 := mx_0 (runsOf ps).run
      have a1 := mn_0 (runsOf ps).run
      have q1 : max (mx (runsOf ps).run) n = max (mx (runsOf ps).run) (max n 0) := by omega
      have q2 : min (mn (runsOf ps).run) n = min (mn (runsOf ps).run) (min n 0) := by omega
      show G4.mk _ _ (max (mx (runsOf ps).run) n) (min (mn (runsOf ps).run) n) = _
      rw [q1, q2]
    | s n =>
      obtain ⟨e1, e2, e3⟩ := here_snoc (ps := ps) n
      rw [e1, e2, e3]
      show G4.mk (_ ++ [_]) _ 0 0 = _
      unfold gapI
      have e : (runsOf ps).here + mx (runsOf ps).run + mn (runsOf ps).run = (runsOf ps).here + (mx (runsOf ps).run + mn (runsOf ps).run) := by omega
      rw [e]; rfl
theorem edges_go (ps : List Pt) : edgesOf ps = (G4.zero.go ps).edg := by rw [go_runs, edg_of]
theorem total_go (ps : List Pt) : totalOf ps = (G4.zero.go ps).h + (G4.zero.go ps).hi + (G4.zero.go ps).lo := by
  rw [go_runs, ← here_total]; unfold gapI; show _ = (runsOf ps).here + mx (runsOf ps).run + mn (runsOf ps).run; omega
/-! ### forms -/
inductive Fm where
  | thr (h l : Int)
  | sol (fh fl e lh ll : Int)
def Fm.d : Fm → D
  | .thr h l => .tup [.str "through", tI [h, l]]
  | .sol fh fl e lh ll => .tup [.str "solid", tI [fh, fl], .int e, tI [lh, ll]]
def formOf (ps : List Pt) : Fm := match (runsOf ps).rows with
  | [] => .thr (mx (runsOf ps).run) (mn (runsOf ps).run)
  | r0 :: rs => .sol (mx r0) (mn r0) ((runsOf ps).sol.sum + (rs.map gapI).sum) (mx (runsOf ps).run) (mn (runsOf ps).run)
/-- what a fragment does to here and to the open run's pair -/
def Fm.act : Fm → Int → Int → Int → Int × Int × Int
  | .thr a b, h, hi, lo => (h, max hi a, min lo b)
  | .sol f0 f1 e l0 l1, h, hi, lo => (h + max hi f0 + min lo f1 + e, l0, l1)
theorem go_form (ps : List Pt) (h hi lo : Int) (h0 : 0 ≤ hi) (h1 : lo ≤ 0) : (((G4.mk [] h hi lo).go ps).h, ((G4.mk [] h hi lo).go ps).hi, ((G4.mk [] h hi lo).go ps).lo) = (formOf ps).act h hi lo := by
  induction ps using snoc_ind with
  | h0 =>
    show (h, hi, lo) = (h, max hi (mx []), min lo (mn []))
    rw [mx_nil, mn_nil]
    congr 2 <;> omega
  | hs ps p ih =>
    have hr := (Rs.rows_len ps).2.2
    rw [G4.go_app]
    unfold formOf at ih ⊢
    rw [runs_snoc]
    generalize runsOf ps = R at ih hr ⊢
    generalize (G4.mk [] h hi lo).go ps = g at ih ⊢
    obtain ⟨rows, run, sol⟩ := R
    have m0 := mx_0 run
    have m1 := mn_0 run
    cases p with
    | m n =>
      show (g.h, max g.hi n, min g.lo n) = _
      cases rows with
      | nil =>
        have ih : (g.h, g.hi, g.lo) = (h, max hi (mx run), min lo (mn run)) := ih
        simp only [Prod.mk.injEq] at ih
        show _ = (h, max hi (mx (run ++ [n])), min lo (mn (run ++ [n])))
        rw [mx_app, mn_app, mx_one, mn_one, ih.1, ih.2.1, ih.2.2]
        congr 2 <;> omega
      | cons r0 rs =>
        have ih : (g.h, g.hi, g.lo) = (h + max hi (mx r0) + min lo (mn r0) + (sol.sum + (rs.map gapI).sum), mx run, mn run) := ih
        simp only [Prod.mk.injEq] at ih
        show _ = (h + max hi (mx r0) + min lo (mn r0) + (sol.sum + (rs.map gapI).sum), mx (run ++ [n]), mn (run ++ [n]))
        rw [mx_app, mn_app, mx_one, mn_one, ih.1, ih.2.1, ih.2.2]
        congr 2 <;> omega
    | s n =>
      show (g.h + g.hi + g.lo + n, (0 : Int), (0 : Int)) = _
      cases rows with
      | nil =>
        have ih2 : (g.h, g.hi, g.lo) = (h, max hi (mx run), min lo (mn run)) := ih
        simp only [Prod.mk.injEq] at ih2
        show _ = (h + max hi (mx run) + min lo (mn run) + ((sol ++ [n]).sum + (([] : List (List Int)).map gapI).sum), (0 : Int), (0 : Int))
        have hs : sol = [] := by cases sol with
          | nil => rfl
          | cons _ _ => simp at hr
        subst hs
        rw [ih2.1, ih2.2.1, ih2.2.2]
        simp
      | cons r0 rs =>
        have ih : (g.h, g.hi, g.lo) = (h + max hi (mx r0) + min lo (mn r0) + (sol.sum + (rs.map gapI).sum), mx run, mn run) := ih
        simp only [Prod.mk.injEq] at ih
        show _ = (h + max hi (mx r0) + min lo (mn r0) + ((sol ++ [n]).sum + ((rs ++ [run]).map gapI).sum), (0 : Int), (0 : Int))
        rw [ih.1, ih.2.1, ih.2.2]
        simp [gapI]; omega
/-- fragments with one form leave the same behind -/
theorem go_same {F F' : List Pt} (e : formOf F = formOf F') (g : G4) (h0 : 0 ≤ g.hi) (h1 : g.lo ≤ 0) : (g.go F).h = (g.go F').h ∧ (g.go F).hi = (g.go F').hi ∧ (g.go F).lo = (g.go F').lo := by
  obtain ⟨ed, h, hi, lo⟩ := g
  have a := go_form F h hi lo h0 h1
  have b := go_form F' h hi lo h0 h1
  rw [e, ← b] at a
  simp only [Prod.mk.injEq] at a
  rw [G4.go_edg F, G4.go_edg F']
  exact a
theorem go_sign (ps : List Pt) (g : G4) (h0 : 0 ≤ g.hi) (h1 : g.lo ≤ 0) : 0 ≤ (g.go ps).hi ∧ (g.go ps).lo ≤ 0 := by
  induction ps generalizing g with
  | nil => exact ⟨h0, h1⟩
  | cons p ps ih =>
    refine ih (g.step p) ?_ ?_
    · cases p with
      | m n => show 0 ≤ max g.hi n; omega
      | s n => exact Int.le_refl 0
    · cases p with
      | m n => show min g.lo n ≤ 0; omega
      | s n => exact Int.le_refl 0
/-- exchanging a fragment moves nothing outside it -/
theorem exchange {A F F' B : List Pt} (e : formOf F = formOf F') :
    (edgesOf (A ++ F ++ B)).take (nsol A) = (edgesOf (A ++ F' ++ B)).take (nsol A) ∧ (edgesOf (A ++ F ++ B)).drop (nsol A + nsol F) = (edgesOf (A ++ F' ++ B)).drop (nsol A + nsol F') ∧ totalOf (A ++ F ++ B) = totalOf (A ++ F' ++ B) := by
  have hA := go_sign A G4.zero (Int.le_refl _) (Int.le_refl _)
  obtain ⟨s1, s2, s3⟩ := go_same e (G4.zero.go A) hA.1 hA.2
  have key : ∀ X, G4.zero.go (A ++ X ++ B) = (((G4.zero.go A).go X).go B) := fun X => by rw [G4.go_app, G4.go_app]
  have el : ∀ X : List Pt, (edgesOf (A ++ X ++ B)) = (G4.zero.go A).edg ++ (((G4.mk [] (G4.zero.go A).h (G4.zero.go A).hi (G4.zero.go A).lo).go X).edg ++ ((G4.mk [] ((G4.zero.go A).go X).h ((G4.zero.go A).go X).hi ((G4.zero.go A).go X).lo).go B).edg) := fun X => by
    rw [edges_go, key]
    have e1 : (G4.zero.go A).go X = ⟨(G4.zero.go A).edg ++ ((G4.mk [] (G4.zero.go A).h (G4.zero.go A).hi (G4.zero.go A).lo).go X).edg, ((G4.zero.go A).go X).h, ((G4.zero.go A).go X).hi, ((G4.zero.go A).go X).lo⟩ := by
      have := G4.go_edg X (G4.zero.go A).edg (G4.zero.go A).h (G4.zero.go A).hi (G4.zero.go A).lo
      have e0 : G4.mk (G4.zero.go A).edg (G4.zero.go A).h (G4.zero.go A).hi (G4.zero.go A).lo = G4.zero.go A := rfl
      rw [e0] at this
      rw [this]
    rw [e1, G4.go_edg B]
    simp
  have lA : (G4.zero.go A).edg.length = nsol A := G4.edg_len A 0 0 0
  refine ⟨?_, ?_, ?_⟩
  · rw [el F, el F', List.take_append_of_le_length (by omega), List.take_append_of_le_length (by omega)]
  · have dr : ∀ X : List Pt, (edgesOf (A ++ X ++ B)).drop (nsol A + nsol X) = ((G4.mk [] ((G4.zero.go A).go X).h ((G4.zero.go A).go X).hi ((G4.zero.go A).go X).lo).go B).edg := fun X => by
      rw [el X, ← List.append_assoc, List.drop_left' (by rw [List.length_append, lA, G4.edg_len])]
    rw [dr F, dr F', s1, s2, s3]
  · rw [total_go, total_go, key, key]
    have e1 : ∀ g : G4, g.go B = ⟨g.edg ++ ((G4.mk [] g.h g.hi g.lo).go B).edg, ((G4.mk [] g.h g.hi g.lo).go B).h, ((G4.mk [] g.h g.hi g.lo).go B).hi, ((G4.mk [] g.h g.hi g.lo).go B).lo⟩ := fun g => G4.go_edg B g.edg g.h g.hi g.lo
    rw [e1 ((G4.zero.go A).go F), e1 ((G4.zero.go A).go F'), s1, s2, s3]
end MG
end
section
set_option linter.all false
set_option maxRecDepth 100000
set_option maxHeartbeats 4000000
/-! ML6: form_of, form, interchangeable; the law's own form. -/
open PySem L2 MR MG
local macro_rules | `(tactic| walk_at "size") => `(tactic| first | (with_reducible assumption) | (with_unfolding_all exact Nat.le_of_ble_eq_true rfl) | (simp [dInts]; omega) | omega)
local macro_rules | `(tactic| walk_at "norm") => `(tactic| (try dsimp only [List.set_cons_succ, List.set_cons_zero, d_dat, d_new, d_brw, ofV_int, ofV_bl, ofV_str, ofV_non, List.map_cons, List.map_nil, List.cons_append, List.nil_append]))
local macro_rules | `(tactic| walk_at "xl") => `(tactic| first
  | ((with_reducible refine' And.intro ?okk ?_); (case okk => exact True.intro))
  | ((with_reducible refine' And.intro (?cmm : CMul _ _) ?_); (case cmm => first | exact .inl ⟨by decide, by decide⟩ | exact .inr ⟨by decide, by decide⟩ | exact .inl ⟨by omega, by omega⟩ | exact .inr ⟨by omega, by omega⟩))
  | ((with_reducible refine' And.intro (?pss : (0 : Int) < _) ?_); (case pss => first | decide | omega))
  | ((with_reducible refine' And.intro (?nrr : ∀ w, _ ≠ D.raw w) ?_); (case nrr => (intro w e; cases e)))
  | ((with_reducible refine' And.intro (?eqq : (_ : D) = _) ?_); (case eqq => exact rfl))
  | ((with_reducible refine' Exists.intro _ (And.intro (?eqq : (_ : D) = _) ?_)); (case eqq => exact rfl))
  | ((with_reducible refine' Exists.intro _ (And.intro (?eqq : (_ : AV) = _) ?_)); (case eqq => exact rfl))
  | ((with_reducible refine' Exists.intro _ (And.intro (?eqq : (_ : List D) = _) ?_)); (case eqq => exact rfl))
  | ((with_reducible refine' turnE ?eqq); (case eqq => exact rfl))
  | ((with_reducible refine' And.intro (?szz : _ ≤ sizeLine) ?_); (case szz => walk_at "size"))
  | ((with_reducible refine' And.intro (?szz : _ < sizeLine) ?_); (case szz => walk_at "size")))
local macro_rules | `(tactic| walk_at "xk") => `(tactic| first
  | ((with_reducible refine' argK ?okk ?_); (case okk => repeat (first | exact allOk_nil | refine allOk_cons True.intro ?_)))
  | (with_reducible refine stob_t ?_) | ((with_reducible refine' stob_f ?okk ?_); (case okk => exact True.intro))
  | ((refine' likek ?eqq ?lkk ?_); (case eqq => exact rfl); (case lkk => walk_at "lk"))
  | refine seqa_t ?_ | refine seqa_l ?_ | refine seqa_n ?_ | refine seqa_b ?_
  | refine starT ?_ | refine starL ?_ | refine bla ?_ | refine cutl ?_ | refine cutt ?_
  | ((refine' catk ?szz ?_); (case szz => walk_at "size")) | ((refine' catt_doc ?szz ?_); (case szz => walk_at "size")) | ((refine' catt ?szz ?_); (case szz => walk_at "size")) | ((refine' catt_docT ?szz ?_); (case szz => walk_at "size"))
  | (refine ixk_last ?_) | (refine ixk_0 ?_) | (refine ixk_last2 ?_) | ((refine' ixk_t ?eqq ?_); (case eqq => exact rfl)) | ((refine' ixk_l ?eqq ?_); (case eqq => exact rfl))
  | refine eqk_int ?_ | refine eqk_bl ?_ | ((refine eqk_str ?s1 ?s2 ?_); (case s1 => with_unfolding_all rfl); (case s2 => with_unfolding_all rfl)))
local macro_rules | `(tactic| walk_at "lk") => `(tactic| first | exact lk_int | exact lk_fm _ | (exact rfl) | (with_reducible assumption) | (apply lk_rows <;> (first | (with_reducible assumption) | omega | (intro r hr; apply Nat.le_trans (by first | (exact (by assumption : ∀ r ∈ _, _) r hr)) (by omega)))) | (apply lk_lI; walk_at "size") | (apply lk_tI; walk_at "size") | (apply lk_edges; walk_at "size"))
local macro_rules | `(tactic| walk_at "sd") => `(tactic| first | (with_reducible assumption) | omega)
local macro_rules | `(tactic| walk_at "sp") => `(tactic| first
  | ((refine' draw_i ?b1 ?b2 ?_); (case b1 => walk_at "sd"); (case b2 => walk_at "sd"); intro r hr0 hr1)
  | ((refine' doc_i ?b1 ?b2 ?_); (case b1 => walk_at "sd"); (case b2 => walk_at "sd"); intro bs hbs)
  | ((refine' lparts_i ?b1 ?b2 ?_); (case b1 => walk_at "sd"); (case b2 => walk_at "sd"))
  | ((refine' runs_i ?b1 ?b2 ?_); (case b1 => walk_at "sd"); (case b2 => walk_at "sd"))
  | ((refine' gaps_i ?b1 ?b2 ?_); (case b1 => walk_at "sd"); (case b2 => walk_at "sd"))
  | ((refine' edges_i ?b1 ?b2 ?_); (case b1 => walk_at "sd"); (case b2 => walk_at "sd"))
  | ((refine' total_i ?b1 ?b2 ?_); (case b1 => walk_at "sd"); (case b2 => walk_at "sd"))
  | ((refine' lruns_i ?b1 ?_); (case b1 => walk_at "sd"))
  | ((refine' ledges_i ?b1 ?_); (case b1 => walk_at "sd"))
  | ((refine' lgap_t ?b1 ?_); (case b1 => walk_at "sd"))
  | ((refine' lgap_l ?b1 ?_); (case b1 => walk_at "sd"))
  | ((refine' gap_t ?b1 ?_); (case b1 => walk_at "sd"))
  | ((refine' form_i ?b1 ?b2 ?_); (case b1 => walk_at "sd"); (case b2 => walk_at "sd"))
  | ((refine' form_of_i ?b1 ?_); (case b1 => walk_at "sd"))
  | (refine distof_i ?_) | ((refine' dist_i ?b1 ?b2 ?_); (case b1 => walk_at "sd"); (case b2 => walk_at "sd"))
  | ((refine' partsA_i ?b1 ?b2 ?_); (case b1 => walk_at "sd"); (case b2 => walk_at "sd"))
  | fail "sp")
local macro_rules | `(tactic| walk_at "xg") => `(tactic| first
  | with_reducible refine xg_name ?_ | ((with_reducible refine' xg_tup ?eqq ?lnn ?_); (case eqq => exact rfl); (case lnn => exact rfl))
  | with_reducible refine xgs_cons ?_ | with_reducible refine xgs_nil ?_)
local macro_rules | `(tactic| walk_at "xe") => `(tactic| first
  | ((with_reducible refine' xe_vard ?eqq ?_); (case eqq => exact rfl)) | ((with_reducible refine' xe_varo ?eqq ?_); (case eqq => exact rfl))
  | with_reducible refine xe_c ?_ | with_reducible refine xe_I0 ?_ | with_reducible refine xe_I ?_ | with_reducible refine xe_U ?_
  | with_reducible refine xe_ixK ?_ | with_reducible refine xe_eqK ?_ | with_reducible refine xe_neK ?_ | with_reducible refine xe_callK ?_ | with_reducible refine xe_likeK ?_ | ((with_reducible refine' xe_drawK ?ttt ?eqq ?_); (case ttt => with_reducible assumption); (case eqq => exact rfl))
  | with_reducible refine xe_partsK ?_ | with_reducible refine xe_tupK ?_ | with_reducible refine xe_lstD ?_ | with_reducible refine xe_catLK ?_ | with_reducible refine xe_catTK ?_
  | with_reducible refine xa_nil ?_ | with_reducible refine xa_cons ?_ | with_reducible refine xd_nil ?_ | with_reducible refine xd_cons ?_
  | with_reducible refine xe_lenK ?_ | with_reducible refine xe_listK ?_ | with_reducible refine xe_tupleK ?_ | with_reducible refine xe_sumK ?_
  | with_reducible refine xe_intB ?_ | with_reducible refine xe_slLK ?_ | with_reducible refine xe_slTK ?_ | with_reducible refine xo_none ?_ | with_reducible refine xo_some ?_
  | with_reducible refine xt_test ?_ | with_reducible refine xt_B ?_ | with_reducible refine xt_not ?_ | with_reducible refine xt_and ?_ | with_reducible refine xt_or ?_ | with_reducible refine xt_yes ?_
  | with_reducible refine xe_if ?_ | with_reducible refine xe_andV ?_ | with_reducible refine xe_orV ?_ | with_reducible refine xe_notV ?_ | with_reducible refine xe_chI ?_ | with_reducible refine xd_starK ?_ | with_reducible refine xe_notBK ?_ | with_reducible refine xe_isBK ?_ | with_reducible refine xe_notN ?_ | with_reducible refine xe_isN ?_)
local macro_rules | `(tactic| walk_at "xs") => `(tactic| first
  | with_reducible refine xs_seq ?_ | with_reducible refine xs_if ?_ | ((with_reducible refine' xs_retO ?eqq ?_); (case eqq => exact rfl)) | with_reducible refine xs_ret ?_
  | with_reducible refine xs_set ?_ | with_reducible refine xs_setO ?_ | with_reducible refine xs_next ?_ | with_reducible refine xs_cont ?_ | with_reducible refine xs_break ?_
  | ((with_reducible refine' xs_appK ?eqq ?_); (case eqq => exact rfl)) | ((with_reducible refine' xs_ext ?eqq ?_); (case eqq => exact rfl)) | ((with_reducible refine' xs_extT ?eqq ?_); (case eqq => exact rfl))
  | ((with_reducible refine' xs_parJ ?n1 ?n2 ?_); (case n1 => decide); (case n2 => exact Nat.lt_of_sub_pos (by exact Nat.le_of_ble_eq_true rfl)))
  | ((with_reducible refine' xs_parJ3 ?n1 ?n2 ?n3 ?n4 ?n5 ?_); (case n1 => decide); (case n2 => decide); (case n3 => decide); (case n4 => exact Nat.lt_of_sub_pos (by exact Nat.le_of_ble_eq_true rfl)); (case n5 => exact Nat.lt_of_sub_pos (by exact Nat.le_of_ble_eq_true rfl)))
  | ((with_reducible refine' xs_setLast ?eqq ?_); (case eqq => exact rfl))
  | with_reducible refine xs_asg ?_)
local macro_rules | `(tactic| walk_at "xi") => `(tactic| first
  | ((with_reducible refine' ite_t ?eqq ?_); (case eqq => decide +kernel)) | ((with_reducible refine' ite_f ?eqq ?_); (case eqq => decide +kernel))
  | ((with_reducible refine' ite_t ?eqq ?_); (case eqq => exact rfl)) | ((with_reducible refine' ite_f ?eqq ?_); (case eqq => exact rfl))
  | ((with_reducible refine' ite_t ?eqq ?_); (case eqq => exact decide_eq_true (by first | (with_reducible assumption) | exact rfl))) | ((with_reducible refine' ite_f ?eqq ?_); (case eqq => exact decide_eq_false (by assumption))) | ((with_reducible refine' ite_nd_t ?eqq ?_); (case eqq => first | (with_reducible assumption) | exact rfl)) | ((with_reducible refine' ite_nd_f ?eqq ?_); (case eqq => with_reducible assumption)) | fail "xi")
local macro_rules | `(tactic| walk_at "xw") => `(tactic| (first | walk_at "xs" | walk_at "xe" | walk_at "xg" | walk_at "xl" | walk_at "xk" | walk_at "xi" | walk_at "sp" | fail "xw"); walk_at "norm")

namespace MG
section
variable {K : PySem.W.Frag}
theorem cut_mid {α : Type} (x : α) (xs : List α) (y : α) : cutD (x :: xs ++ [y]) (some 1) (some (-1)) = xs := by
  unfold cutD
  have h1 : HT.sIx (x :: xs ++ [y]).length 0 (some 1) = 1 := by
    have := HT.sIx_nat (x :: xs ++ [y]).length 0 1
    simp at this ⊢
    rw [this]
  have h2 : HT.sIx (x :: xs ++ [y]).length (x :: xs ++ [y]).length (some (-1)) = xs.length + 1 := by
    show (if (-1 : Int) < 0 then ((-1 : Int) + ((x :: xs ++ [y]).length : Int)).toNat else min (-1 : Int).toNat (x :: xs ++ [y]).length) = xs.length + 1
    rw [if_pos (by decide)]
    simp only [List.length_append, List.length_cons, List.length_nil]
    omega
  rw [h1, h2]
  simp
theorem ixk_0 {d : D} {ds : List D} {k : D → Prop} (h : k d) : IxK (.lst (d :: ds)) (.int 0) k := ixk_l (d := d) (atI_of (j := 0) (by unfold ixN; simp) rfl) h
theorem ixk_last2 {d0 d : D} {ds : List D} {k : D → Prop} (h : k d) : IxK (.lst (d0 :: (ds ++ [d]))) (.int (-1)) k := ixk_last (ds := d0 :: ds) h
theorem pair_i {xs : List Int} {P : AV → Prop} (h1 : xs.length ≤ 100000) (h : P (.dat (tI [mx xs, mn xs]))) : spPair [tI xs] P := ⟨xs, rfl, h1, h⟩
theorem lpair_t {xs : List Int} {P : AV → Prop} (h1 : xs.length ≤ 100000) (h : P (.dat (tI [mx xs, mn xs]))) : spLPair [tI xs] P := ⟨_, xs, rfl, .inl rfl, h1, h⟩
def spFormOf : ASp := fun ds P => ∃ ps : List Pt, ds = [.lst (ps.map Pt.d)] ∧ ps.length ≤ 99998 ∧ P (.dat (formOf ps).d)
theorem split_i {ps : List Pt} {P : AV → Prop} (h1 : ps.length ≤ 99999) (h : P (.dat (.tup [.lst ((rowsOf ps).map tI), .lst (dInts (solOf ps))]))) : spSplit [.lst (ps.map Pt.d)] P := ⟨ps, rfl, by omega, h⟩
/-- gap of each, by the program's own gap -/
theorem xe_gapsP {V : Vol} {δ : List Slot} {j k : Nat} {rows : List (List Int)} {P : AV → Prop} (e : δ[j]? = some (.dat (.lst (rows.map tI)))) (hk : k < δ.length) (hl : rows.length ≤ 100000) (h2 : ∀ r ∈ rows, r.length ≤ 100000)
    (h : P (.new (dInts (rows.map gapI)))) : XE V (tLc (iList K (tVar j)) (gName k) tYes (tCall (Lift spGap) [] E0 (tCons (tVar k) tNil)) [k]) δ P := by
  refine xe_lcF (tin_name (List.mem_singleton.mpr rfl)) rows tI (fun _ => true) (fun r => .int (gapI r)) hl (xe_vard e ⟨rfl, fun r hr => ?_, ?_⟩)
  · refine xg_name (xt_yes ⟨rfl, fun _ => ?_⟩)
    refine xe_callK (xa_cons (xe_vard (d := tI r) ?_ (xa_nil (argK (allOk_cons trivial allOk_nil) (gap_t (h2 r hr) ⟨trivial, trivial, rfl⟩)))))
    unfold wipeS wipeS
    rw [List.set_set, List.getElem?_set_self hk]
  · rw [List.filter_eq_self.mpr (fun _ _ => rfl)]
    have e : dInts (rows.map gapI) = rows.map fun r => D.int (gapI r) := by unfold dInts; rw [List.map_map]; rfl
    rw [← e]; exact h
theorem lst_nil_iff (xs : List Int) : D.lst (dInts xs) = D.lst [] ↔ xs = [] := by
  constructor
  · intro h
    injection h with h
    cases xs with
    | nil => rfl
    | cons _ _ => cases h
  · intro h; rw [h]; rfl
theorem nb_ints {n : Nat} (xs : List Int) : (D.lst (dInts xs)).nb (n + 1) = true := by
  unfold D.nb
  refine D.nbs_iff.mpr fun x hx => ?_
  obtain ⟨i, _, rfl⟩ := List.mem_map.mp hx
  cases n <;> rfl
theorem rowsOf_cases (ps : List Pt) : ((runsOf ps).rows = [] ∧ (runsOf ps).sol = []) ∨ ∃ r0 rs, (runsOf ps).rows = r0 :: rs ∧ (runsOf ps).sol ≠ [] := by
  have e := (Rs.rows_len ps).2.2
  cases h : (runsOf ps).rows with
  | nil => rw [h] at e; exact .inl ⟨rfl, List.eq_nil_of_length_eq_zero e.symm⟩
  | cons r0 rs => exact .inr ⟨r0, rs, rfl, fun z => by rw [h, z] at e; cases e⟩
theorem xs_form_of (ds : List D) (P : AV → Prop) (h : spFormOf ds P) : XS Vol.nil (ts_form_of K (Lift spSplit) (Lift spPair) (Lift spGap)) (ds.map Slot.dat ++ List.replicate 4 .no) { nx := fun _ => P (.dat .non), rt := P } := by
  obtain ⟨ps, rfl, hl, hp⟩ := h
  have big : (100001 : Nat) ≤ sizeLine := by decide
  show XS Vol.nil _ [.dat (.lst (ps.map Pt.d)), .no, .no, .no, .no] _
  unfold ts_form_of
  have er := rows_each ps
  have el := rowsOf_len ps
  repeat' walk_at "xw"
  refine split_i (by omega) ⟨trivial, ?_⟩
  unfold rowsOf at *
  unfold solOf
  unfold formOf at hp
  rcases rowsOf_cases ps with ⟨h1, h2⟩ | ⟨r0, rs, h1, h2⟩
  · rw [h1] at hp er ⊢
    rw [h2]
    have hr := er (runsOf ps).run (by simp)
    repeat' walk_at "xw"
    refine eqk_same 1 rfl rfl ⟨_, rfl, ?_⟩
    repeat' walk_at "xw"
    refine pair_i (by omega) ⟨trivial, ?_⟩
    repeat' walk_at "xw"
    exact hp
  · rw [h1] at hp er el ⊢
    have hr := er (runsOf ps).run (by simp)
    have hr0 := er r0 (by simp)
    have hrs : ∀ r ∈ rs, r.length ≤ 100000 := fun r hr => Nat.le_trans (er r (by simp [hr])) (by omega)
    have hll : rs.length ≤ 100000 := by simp at el; omega
    repeat' walk_at "xw"
    refine eqk_nb 1 (nb_ints _) rfl fun b hb => ⟨_, rfl, ite_b (fun e => absurd ((lst_nil_iff _).mp (hb.mp e)) h2) fun _ => ?_⟩
    repeat' walk_at "xw"
    have em : List.map tI (r0 :: (rs ++ [(runsOf ps).run])) = tI r0 :: rs.map tI ++ [tI (runsOf ps).run] := by simp
    rw [em, cut_mid]
    refine ixk_0 ?_
    repeat' walk_at "xw"
    refine pair_i (by omega) ⟨trivial, ?_⟩
    repeat' walk_at "xw"
    refine intsA rfl ⟨_, rfl, ?_⟩
    refine xe_sumK (xa_cons (xe_gapsP rfl (by show 4 < 5; decide) hll hrs (xa_nil (intsA (ns := rs.map gapI) rfl ⟨_, rfl, ?_⟩))))
    repeat' walk_at "xw"
    refine ixk_last2 ?_
    repeat' walk_at "xw"
    refine pair_i (by omega) ⟨trivial, ?_⟩
    repeat' walk_at "xw"
    exact hp
theorem form_of_i {ps : List Pt} {P : AV → Prop} (h1 : ps.length ≤ 99998) (h : P (.dat (formOf ps).d)) : spFormOf [.lst (ps.map Pt.d)] P := ⟨ps, rfl, h1, h⟩
def spForm (dp : Nat) : ASp := fun ds P => ∃ bs, ds = [Bx.doc bs] ∧ Bx.deps bs ≤ dp ∧ (Bx.ptss bs).length ≤ 9999 ∧ P (.dat (formOf (Bx.ptss bs)).d)
theorem form_i {dp : Nat} {bs : List Bx} {P : AV → Prop} (h1 : Bx.deps bs ≤ dp) (h2 : (Bx.ptss bs).length ≤ 9999) (h : P (.dat (formOf (Bx.ptss bs)).d)) : spForm dp [Bx.doc bs] P := ⟨bs, rfl, h1, h2, h⟩
theorem xs_form {dp : Nat} (ds : List D) (P : AV → Prop) (h : spForm dp ds P) : XS Vol.nil (ts_form K dp (Lift spFormOf)) (ds.map Slot.dat ++ List.replicate 0 .no) { nx := fun _ => P (.dat .non), rt := P } := by
  obtain ⟨bs, rfl, hd, hl, hp⟩ := h
  have big : (100001 : Nat) ≤ sizeLine := by decide
  show XS Vol.nil _ [.dat (Bx.doc bs)] _
  unfold ts_form
  refine xs_ret (xe_callK (xa_cons (xe_parts (xa_cons (xe_vard rfl (xa_nil ⟨_, bs, rfl, trivial, rfl, hd, by omega, xa_nil (argK (allOk_cons trivial allOk_nil) (form_of_i (by omega) ⟨trivial, trivial, hp⟩))⟩))))))
theorem nb_tI {n : Nat} (xs : List Int) : (tI xs).nb (n + 1) = true := by
  show (D.tup (dInts xs)).nb (n + 1) = true
  unfold D.nb
  refine D.nbs_iff.mpr fun x hx => ?_
  obtain ⟨i, _, rfl⟩ := List.mem_map.mp hx
  cases n <;> rfl
theorem ok_th : PyData.strOk "through" = true := by decide +kernel
theorem ok_so : PyData.strOk "solid" = true := by decide +kernel
theorem ok_ma : PyData.strOk "margin" = true := by decide +kernel
theorem nb_int {n : Nat} {i : Int} : (D.int i).nb n = true := by cases n <;> rfl
theorem nb_fm (f : Fm) : f.d.nb 2 = true := by
  cases f
  · exact D.nbs_iff.mpr fun x hx => by
      simp at hx; rcases hx with rfl | rfl
      · exact ok_th
      · exact nb_tI _
  · exact D.nbs_iff.mpr fun x hx => by
      simp at hx; rcases hx with rfl | rfl | rfl | rfl
      · exact ok_so
      · exact nb_tI _
      · exact nb_int
      · exact nb_tI _
theorem lk_str {n : Nat} {s : Str} (h : PyData.strOk s = true) : (D.str s).lk n = true := by cases n <;> exact h
theorem lk_fm {n : Nat} (f : Fm) : f.d.lk (n + 2) = true := by
  cases f
  · exact lk_tup (show 2 ≤ 100000 by decide) fun x hx => by
      simp at hx; rcases hx with rfl | rfl
      · exact lk_str ok_th
      · exact lk_tI (show 2 ≤ 100000 by decide)
  · exact lk_tup (show 4 ≤ 100000 by decide) fun x hx => by
      simp at hx; rcases hx with rfl | rfl | rfl | rfl
      · exact lk_str ok_so
      · exact lk_tI (show 2 ≤ 100000 by decide)
      · exact lk_int
      · exact lk_tI (show 2 ≤ 100000 by decide)
theorem fm_inj {f g : Fm} (h : f.d = g.d) : f = g := by
  cases f <;> cases g <;> simp [Fm.d, tI, dInts] at h ⊢
  · exact h
  · exact ⟨h.1.1, h.1.2, h.2.1, h.2.2.1, h.2.2.2⟩
theorem fm_iff {f g : Fm} : f.d = g.d ↔ f = g := ⟨fm_inj, fun h => by rw [h]⟩
def spSameForm (dp : Nat) : ASp := fun ds P => ∃ as bs, ds = [Bx.doc as, Bx.doc bs] ∧ Bx.deps as ≤ dp ∧ (Bx.ptss as).length ≤ 9999 ∧ Bx.deps bs ≤ dp ∧ (Bx.ptss bs).length ≤ 9999 ∧ ∀ b : Bool, (b = true ↔ formOf (Bx.ptss as) = formOf (Bx.ptss bs)) → P (.dat (.bl b))
theorem xs_interchangeable {dp : Nat} (ds : List D) (P : AV → Prop) (h : spSameForm dp ds P) : XS Vol.nil (ts_interchangeable K (Lift (spForm dp))) (ds.map Slot.dat ++ List.replicate 0 .no) { nx := fun _ => P (.dat .non), rt := P } := by
  obtain ⟨as, bs, rfl, h1, h2, h3, h4, hp⟩ := h
  show XS Vol.nil _ [.dat (Bx.doc as), .dat (Bx.doc bs)] _
  unfold ts_interchangeable
  repeat' walk_at "xw"
  refine form_i h1 h2 ⟨trivial, ?_⟩
  repeat' walk_at "xw"
  refine form_i h3 h4 ⟨trivial, ?_⟩
  repeat' walk_at "xw"
  exact eqk_nb 2 (nb_fm _) (nb_fm _) fun b hb => ⟨trivial, hp b (hb.trans fm_iff)⟩
theorem xe_gapsG {V : Vol} {δ : List Slot} {te : TE} {k : Nat} {rows : List (List Int)} {P : AV → Prop} (ht : XE V te δ fun a => a.d = .lst (rows.map tI)) (hk : k < δ.length) (hl : rows.length ≤ 100000) (h2 : ∀ r ∈ rows, r.length ≤ 100000)
    (h : P (.new (dInts (rows.map gapI)))) : XE V (tLc (iList K te) (gName k) tYes (tCall (Lift spLGap) [] E0 (tCons (tVar k) tNil)) [k]) δ P := by
  refine xe_lcF (tin_name (List.mem_singleton.mpr rfl)) rows tI (fun _ => true) (fun r => .int (gapI r)) hl (ht.imp fun a ea => ⟨ea, fun r hr => ?_, ?_⟩)
  · refine xg_name (xt_yes ⟨rfl, fun _ => ?_⟩)
    refine xe_callK (xa_cons (xe_vard (d := tI r) ?_ (xa_nil (argK (allOk_cons trivial allOk_nil) (lgap_t (h2 r hr) ⟨trivial, trivial, rfl⟩)))))
    unfold wipeS wipeS
    rw [List.set_set, List.getElem?_set_self hk]
  · rw [List.filter_eq_self.mpr (fun _ _ => rfl)]
    have e : dInts (rows.map gapI) = rows.map fun r => D.int (gapI r) := by unfold dInts; rw [List.map_map]; rfl
    rw [← e]; exact h
/-! the law's own form -/
theorem xs_lform (ds : List D) (P : AV → Prop) (h : spFormOf ds P) : XS Vol.nil (ts__law_form K (Lift spLRuns) (Lift spLPair) (Lift spLGap)) (ds.map Slot.dat ++ List.replicate 4 .no) { nx := fun _ => P (.dat .non), rt := P } := by
  obtain ⟨ps, rfl, hl, hp⟩ := h
  have big : (100001 : Nat) ≤ sizeLine := by decide
  show XS Vol.nil _ [.dat (.lst (ps.map Pt.d)), .no, .no, .no, .no] _
  unfold ts__law_form
  have er := rows_each ps
  have el := rowsOf_len ps
  repeat' walk_at "xw"
  unfold rowsOf at *
  unfold solOf
  unfold formOf at hp
  rcases rowsOf_cases ps with ⟨h1, h2⟩ | ⟨r0, rs, h1, h2⟩
  · rw [h1] at hp er ⊢
    rw [h2]
    have hr := er (runsOf ps).run (by simp)
    repeat' walk_at "xw"
    refine eqk_same 1 rfl rfl ⟨_, rfl, ?_⟩
    repeat' walk_at "xw"
    refine lpair_t (by omega) ⟨trivial, ?_⟩
    repeat' walk_at "xw"
    exact hp
  · rw [h1] at hp er el ⊢
    have hr := er (runsOf ps).run (by simp)
    have hr0 := er r0 (by simp)
    have hrs : ∀ r ∈ rs, r.length ≤ 100000 := fun r hr => Nat.le_trans (er r (by simp [hr])) (by omega)
    have hll : rs.length ≤ 100000 := by simp at el; omega
    repeat' walk_at "xw"
    refine eqk_nb 1 (nb_ints _) rfl fun b hb => ⟨_, rfl, ite_b (fun e => absurd ((lst_nil_iff _).mp (hb.mp e)) h2) fun _ => ?_⟩
    repeat' walk_at "xw"
    have em : List.map tI (r0 :: (rs ++ [(runsOf ps).run])) = tI r0 :: rs.map tI ++ [tI (runsOf ps).run] := by simp
    rw [em]
    refine intsA rfl ⟨_, rfl, ?_⟩
    refine xe_sumK (xa_cons (xe_gapsG (rows := rs) ?_ (by show 4 < 5; decide) hll hrs (xa_nil (intsA (ns := rs.map gapI) rfl ⟨_, rfl, ?_⟩))))
    · repeat' walk_at "xw"
      exact congrArg D.lst (cut_mid _ _ _)
    repeat' walk_at "xw"
    refine ixk_0 ?_
    repeat' walk_at "xw"
    refine lpair_t (by omega) ⟨trivial, ?_⟩
    repeat' walk_at "xw"
    refine ixk_last2 ?_
    repeat' walk_at "xw"
    refine lpair_t (by omega) ⟨trivial, ?_⟩
    repeat' walk_at "xw"
    exact hp
end
end MG
end
section
set_option linter.all false
set_option maxRecDepth 100000
set_option maxHeartbeats 4000000
/-! ML7: what is outside a fragment. -/
open PySem L2 MR MG
local macro_rules | `(tactic| walk_at "size") => `(tactic| first | (with_reducible assumption) | (with_unfolding_all exact Nat.le_of_ble_eq_true rfl) | (simp [dInts]; omega) | omega)
local macro_rules | `(tactic| walk_at "norm") => `(tactic| (try dsimp only [List.set_cons_succ, List.set_cons_zero, d_dat, d_new, d_brw, ofV_int, ofV_bl, ofV_str, ofV_non, List.map_cons, List.map_nil, List.cons_append, List.nil_append]))
local macro_rules | `(tactic| walk_at "xl") => `(tactic| first
  | ((with_reducible refine' And.intro ?okk ?_); (case okk => exact True.intro))
  | ((with_reducible refine' And.intro (?cmm : CMul _ _) ?_); (case cmm => first | exact .inl ⟨by decide, by decide⟩ | exact .inr ⟨by decide, by decide⟩ | exact .inl ⟨by omega, by omega⟩ | exact .inr ⟨by omega, by omega⟩))
  | ((with_reducible refine' And.intro (?pss : (0 : Int) < _) ?_); (case pss => first | decide | omega))
  | ((with_reducible refine' And.intro (?nrr : ∀ w, _ ≠ D.raw w) ?_); (case nrr => (intro w e; cases e)))
  | ((with_reducible refine' And.intro (?eqq : (_ : D) = _) ?_); (case eqq => exact rfl))
  | ((with_reducible refine' Exists.intro _ (And.intro (?eqq : (_ : D) = _) ?_)); (case eqq => exact rfl))
  | ((with_reducible refine' Exists.intro _ (And.intro (?eqq : (_ : AV) = _) ?_)); (case eqq => exact rfl))
  | ((with_reducible refine' Exists.intro _ (And.intro (?eqq : (_ : List D) = _) ?_)); (case eqq => exact rfl))
  | ((with_reducible refine' turnE ?eqq); (case eqq => exact rfl))
  | ((with_reducible refine' And.intro (?szz : _ ≤ sizeLine) ?_); (case szz => walk_at "size"))
  | ((with_reducible refine' And.intro (?szz : _ < sizeLine) ?_); (case szz => walk_at "size")))
local macro_rules | `(tactic| walk_at "xk") => `(tactic| first
  | ((with_reducible refine' argK ?okk ?_); (case okk => repeat (first | exact allOk_nil | refine allOk_cons True.intro ?_)))
  | (with_reducible refine stob_t ?_) | ((with_reducible refine' stob_f ?okk ?_); (case okk => exact True.intro))
  | ((refine' likek ?eqq ?lkk ?_); (case eqq => exact rfl); (case lkk => walk_at "lk"))
  | refine seqa_t ?_ | refine seqa_l ?_ | refine seqa_n ?_ | refine seqa_b ?_
  | refine starT ?_ | refine starL ?_ | refine bla ?_ | refine cutl ?_ | refine cutt ?_
  | ((refine' catk ?szz ?_); (case szz => walk_at "size")) | ((refine' catt_doc ?szz ?_); (case szz => walk_at "size")) | ((refine' catt ?szz ?_); (case szz => walk_at "size")) | ((refine' catt_docT ?szz ?_); (case szz => walk_at "size"))
  | (refine ixk_last ?_) | (refine ixk_0 ?_) | (refine ixk_last2 ?_) | ((refine' ixk_t ?eqq ?_); (case eqq => exact rfl)) | ((refine' ixk_l ?eqq ?_); (case eqq => exact rfl))
  | refine eqk_int ?_ | refine eqk_bl ?_ | ((refine eqk_str ?s1 ?s2 ?_); (case s1 => with_unfolding_all rfl); (case s2 => with_unfolding_all rfl)))
local macro_rules | `(tactic| walk_at "lk") => `(tactic| first | exact lk_int | exact lk_fm _ | (exact rfl) | (with_reducible assumption) | (apply lk_rows <;> (first | (with_reducible assumption) | omega | (intro r hr; apply Nat.le_trans (by first | (exact (by assumption : ∀ r ∈ _, _) r hr)) (by omega)))) | (apply lk_lI; walk_at "size") | (apply lk_tI; walk_at "size") | (apply lk_edges; walk_at "size"))
local macro_rules | `(tactic| walk_at "sd") => `(tactic| first | (with_reducible assumption) | omega)
local macro_rules | `(tactic| walk_at "sp") => `(tactic| first
  | ((refine' draw_i ?b1 ?b2 ?_); (case b1 => walk_at "sd"); (case b2 => walk_at "sd"); intro r hr0 hr1)
  | ((refine' doc_i ?b1 ?b2 ?_); (case b1 => walk_at "sd"); (case b2 => walk_at "sd"); intro bs hbs)
  | ((refine' lparts_i ?b1 ?b2 ?_); (case b1 => walk_at "sd"); (case b2 => walk_at "sd"))
  | ((refine' runs_i ?b1 ?b2 ?_); (case b1 => walk_at "sd"); (case b2 => walk_at "sd"))
  | ((refine' gaps_i ?b1 ?b2 ?_); (case b1 => walk_at "sd"); (case b2 => walk_at "sd"))
  | ((refine' edges_i ?b1 ?b2 ?_); (case b1 => walk_at "sd"); (case b2 => walk_at "sd"))
  | ((refine' total_i ?b1 ?b2 ?_); (case b1 => walk_at "sd"); (case b2 => walk_at "sd"))
  | ((refine' lruns_i ?b1 ?_); (case b1 => walk_at "sd"))
  | ((refine' ledges_i ?b1 ?_); (case b1 => walk_at "sd"))
  | ((refine' lgap_t ?b1 ?_); (case b1 => walk_at "sd"))
  | ((refine' lgap_l ?b1 ?_); (case b1 => walk_at "sd"))
  | ((refine' gap_t ?b1 ?_); (case b1 => walk_at "sd"))
  | ((refine' form_i ?b1 ?b2 ?_); (case b1 => walk_at "sd"); (case b2 => walk_at "sd"))
  | ((refine' form_of_i ?b1 ?_); (case b1 => walk_at "sd"))
  | (refine distof_i ?_) | ((refine' dist_i ?b1 ?b2 ?_); (case b1 => walk_at "sd"); (case b2 => walk_at "sd"))
  | ((refine' partsA_i ?b1 ?b2 ?_); (case b1 => walk_at "sd"); (case b2 => walk_at "sd"))
  | fail "sp")
local macro_rules | `(tactic| walk_at "xg") => `(tactic| first
  | with_reducible refine xg_name ?_ | ((with_reducible refine' xg_tup ?eqq ?lnn ?_); (case eqq => exact rfl); (case lnn => exact rfl))
  | with_reducible refine xgs_cons ?_ | with_reducible refine xgs_nil ?_)
local macro_rules | `(tactic| walk_at "xe") => `(tactic| first
  | ((with_reducible refine' xe_vard ?eqq ?_); (case eqq => exact rfl)) | ((with_reducible refine' xe_varo ?eqq ?_); (case eqq => exact rfl))
  | with_reducible refine xe_c ?_ | with_reducible refine xe_I0 ?_ | with_reducible refine xe_I ?_ | with_reducible refine xe_U ?_
  | with_reducible refine xe_ixK ?_ | with_reducible refine xe_eqK ?_ | with_reducible refine xe_neK ?_ | with_reducible refine xe_callK ?_ | with_reducible refine xe_likeK ?_ | ((with_reducible refine' xe_drawK ?ttt ?eqq ?_); (case ttt => with_reducible assumption); (case eqq => exact rfl))
  | with_reducible refine xe_partsK ?_ | with_reducible refine xe_tupK ?_ | with_reducible refine xe_lstD ?_ | with_reducible refine xe_catLK ?_ | with_reducible refine xe_catTK ?_
  | with_reducible refine xa_nil ?_ | with_reducible refine xa_cons ?_ | with_reducible refine xd_nil ?_ | with_reducible refine xd_cons ?_
  | with_reducible refine xe_lenK ?_ | with_reducible refine xe_listK ?_ | with_reducible refine xe_tupleK ?_ | with_reducible refine xe_sumK ?_
  | with_reducible refine xe_intB ?_ | with_reducible refine xe_slLK ?_ | with_reducible refine xe_slTK ?_ | with_reducible refine xo_none ?_ | with_reducible refine xo_some ?_
  | with_reducible refine xt_test ?_ | with_reducible refine xt_B ?_ | with_reducible refine xt_not ?_ | with_reducible refine xt_and ?_ | with_reducible refine xt_or ?_ | with_reducible refine xt_yes ?_
  | with_reducible refine xe_if ?_ | with_reducible refine xe_andV ?_ | with_reducible refine xe_orV ?_ | with_reducible refine xe_notV ?_ | with_reducible refine xe_chI ?_ | with_reducible refine xd_starK ?_ | with_reducible refine xe_notBK ?_ | with_reducible refine xe_isBK ?_ | with_reducible refine xe_notN ?_ | with_reducible refine xe_isN ?_)
local macro_rules | `(tactic| walk_at "xs") => `(tactic| first
  | with_reducible refine xs_seq ?_ | with_reducible refine xs_if ?_ | ((with_reducible refine' xs_retO ?eqq ?_); (case eqq => exact rfl)) | with_reducible refine xs_ret ?_
  | with_reducible refine xs_set ?_ | with_reducible refine xs_setO ?_ | with_reducible refine xs_next ?_ | with_reducible refine xs_cont ?_ | with_reducible refine xs_break ?_
  | ((with_reducible refine' xs_appK ?eqq ?_); (case eqq => exact rfl)) | ((with_reducible refine' xs_ext ?eqq ?_); (case eqq => exact rfl)) | ((with_reducible refine' xs_extT ?eqq ?_); (case eqq => exact rfl))
  | ((with_reducible refine' xs_parJ ?n1 ?n2 ?_); (case n1 => decide); (case n2 => exact Nat.lt_of_sub_pos (by exact Nat.le_of_ble_eq_true rfl)))
  | ((with_reducible refine' xs_parJ3 ?n1 ?n2 ?n3 ?n4 ?n5 ?_); (case n1 => decide); (case n2 => decide); (case n3 => decide); (case n4 => exact Nat.lt_of_sub_pos (by exact Nat.le_of_ble_eq_true rfl)); (case n5 => exact Nat.lt_of_sub_pos (by exact Nat.le_of_ble_eq_true rfl)))
  | ((with_reducible refine' xs_setLast ?eqq ?_); (case eqq => exact rfl))
  | with_reducible refine xs_asg ?_)
local macro_rules | `(tactic| walk_at "xi") => `(tactic| first
  | ((with_reducible refine' ite_t ?eqq ?_); (case eqq => decide +kernel)) | ((with_reducible refine' ite_f ?eqq ?_); (case eqq => decide +kernel))
  | ((with_reducible refine' ite_t ?eqq ?_); (case eqq => exact rfl)) | ((with_reducible refine' ite_f ?eqq ?_); (case eqq => exact rfl))
  | ((with_reducible refine' ite_t ?eqq ?_); (case eqq => exact decide_eq_true (by first | (with_reducible assumption) | exact rfl))) | ((with_reducible refine' ite_f ?eqq ?_); (case eqq => exact decide_eq_false (by assumption))) | ((with_reducible refine' ite_nd_t ?eqq ?_); (case eqq => first | (with_reducible assumption) | exact rfl)) | ((with_reducible refine' ite_nd_f ?eqq ?_); (case eqq => with_reducible assumption)) | fail "xi")
local macro_rules | `(tactic| walk_at "xw") => `(tactic| (first | walk_at "xs" | walk_at "xe" | walk_at "xg" | walk_at "xl" | walk_at "xk" | walk_at "xi" | walk_at "sp" | fail "xw"); walk_at "norm")

namespace MG
section
variable {K : PySem.W.Frag}
def Pt.isS : Pt → Bool
  | .m _ => false
  | .s _ => true
theorem nsol_filter : ∀ ps : List Pt, nsol ps = (ps.filter Pt.isS).length
  | [] => rfl
  | .m _ :: ps => by simp [nsol, Pt.isS, nsol_filter ps]
  | .s n :: ps => by
    rw [List.filter_cons_of_pos (by rfl), List.length_cons, ← nsol_filter ps]; rfl
/-- the number of solids, as the law counts it -/
theorem xe_nsol {V : Vol} {δ : List Slot} {te : TE} {j k : Nat} {ps : List Pt} {P : AV → Prop} (ht : XE V te δ fun a => a.d = .lst (ps.map Pt.d)) (hj : j < δ.length) (hk : k < δ.length) (hjk : j ≠ k) (hl : ps.length ≤ 100000) (h : P (.dat (.int (nsol ps)))) :
    XE V (tCB (rLenQ K) (tCons (tLc (iList K te) (gTup K 2 (gCons (gName j) (gCons (gName k) gNil))) (tTest (tOp (rEqD K) (tVar j) (tC (.str "solid")))) (tC (.int 1)) [j, k]) tNil)) δ P := by
  refine xe_lenK (xa_cons (xe_lcF (tin_2 (by simp) (by simp)) ps Pt.d Pt.isS (fun _ => .int 1) hl (ht.imp fun a ea => ⟨ea, fun p hp => ?_, ?_⟩)))
  · have gk : ∀ (kd n : D), ((((wipeS δ [j, k]).set j (.dat kd)).set k (.dat n)))[j]? = some (.dat kd) := fun kd n => by
      rw [List.getElem?_set_ne (Ne.symm hjk), List.getElem?_set_self]
      unfold wipeS wipeS wipeS
      rw [List.length_set, List.length_set]; exact hj
    cases p with
    | m n =>
      refine xg_tup rfl rfl (xgs_cons (xg_name (xgs_cons (xg_name (xgs_nil ?_)))))
      refine xt_test (xe_eqK (xe_vard (gk _ _) (xe_c (eqk_str (by decide +kernel) (by decide +kernel) ⟨_, rfl, ?_, fun e => by cases e⟩))))
      exact decide_eq_false (by decide +kernel)
    | s n =>
      refine xg_tup rfl rfl (xgs_cons (xg_name (xgs_cons (xg_name (xgs_nil ?_)))))
      refine xt_test (xe_eqK (xe_vard (gk _ _) (xe_c (eqk_str (by decide +kernel) (by decide +kernel) ⟨_, rfl, ?_, fun e => xe_c ⟨trivial, rfl⟩⟩))))
      exact decide_eq_true rfl
  · refine xa_nil (seqa_n ?_)
    rw [List.length_map, ← nsol_filter]; exact h
theorem ds_app (A B : List Bx) : Bx.ds (A ++ B) = Bx.ds A ++ Bx.ds B := by rw [ds_map, ds_map, ds_map, List.map_append]
theorem catt_doc {A B : List Bx} {k : List D → Prop} (l : A.length + B.length ≤ sizeLine) (h : k (Bx.ds (A ++ B))) : CatT (Bx.doc A) (Bx.doc B) k := ⟨Bx.ds A, Bx.ds B, rfl, rfl, by rw [Bx.ds_len, Bx.ds_len]; exact l, by rw [← ds_app]; exact h⟩
theorem cut_take {α : Type} (xs : List α) (k : Nat) (h : k ≤ xs.length) : cutD xs none (some (k : Int)) = xs.take k := by
  unfold cutD
  rw [HT.sIx_none, HT.sIx_nat, Nat.min_eq_left h]
  simp
theorem cut_drop {α : Type} (xs : List α) (k : Nat) (h : k ≤ xs.length) : cutD xs (some (k : Int)) none = xs.drop k := by
  unfold cutD
  rw [HT.sIx_none, HT.sIx_nat, Nat.min_eq_left h, List.take_of_length_le]
  rw [List.length_drop]; exact Nat.le_refl _
/-- the page around a fragment -/
def pageOf (A F B : List Bx) : Option Int → List Bx
  | none => A ++ F ++ B
  | some z => [.blk 0 3 2, .grp 4 (-1) z (A ++ F ++ B), .blk 2 0 1]
def preP (A : List Bx) : Option Int → List Pt
  | none => Bx.ptss A
  | some z => [.m 0, .s 2, .m 3, .m 4] ++ (if 0 < z then [.s z] else []) ++ Bx.ptss A
def postP (B : List Bx) : Option Int → List Pt
  | none => Bx.ptss B
  | some z => Bx.ptss B ++ ((if 0 < z then [.s z] else []) ++ [.m (-1), .m 2, .s 1, .m 0])
theorem page_parts (A F B : List Bx) (o : Option Int) : Bx.ptss (pageOf A F B o) = preP A o ++ Bx.ptss F ++ postP B o := by
  cases o with
  | none => simp [pageOf, preP, postP, ptss_app]
  | some z => simp [pageOf, preP, postP, ptss_app, Bx.ptss, Bx.pts]
def optI : Option Int → D
  | none => .non
  | some z => .int z
def outD (A F B : List Bx) (o : Option Int) : D := .tup [.lst (((edgesOf (Bx.ptss (pageOf A F B o))).take (nsol (preP A o))).map eD), .lst (((edgesOf (Bx.ptss (pageOf A F B o))).drop (nsol (preP A o) + nsol (Bx.ptss F))).map eD), .int (totalOf (Bx.ptss (pageOf A F B o)))]
def spOutside (dp : Nat) : ASp := fun ds P => ∃ A F B o, ds = [Bx.doc A, Bx.doc F, Bx.doc B, optI o] ∧ (Bx.deps A < dp ∧ Bx.deps F < dp ∧ Bx.deps B < dp) ∧ ((Bx.ptss A).length ≤ 9999 ∧ (Bx.ptss F).length ≤ 9999 ∧ (Bx.ptss B).length ≤ 9999) ∧ (A.length ≤ 9999 ∧ F.length ≤ 9999 ∧ B.length ≤ 9999) ∧ P (.dat (outD A F B o))
theorem deps_app : ∀ A B, Bx.deps (A ++ B) = max (Bx.deps A) (Bx.deps B)
  | [], B => by
    show Bx.deps B = max (Bx.deps []) _
    rw [Bx.deps]; omega
  | a :: A, B => by
    show Bx.deps (a :: (A ++ B)) = _
    rw [Bx.deps, Bx.deps, deps_app A B]; omega
theorem edges_nsol (ps : List Pt) : (edgesOf ps).length = nsol ps := by rw [edges_go]; exact G4.edg_len ps 0 0 0
theorem xs_outside {dp : Nat} (ds : List D) (P : AV → Prop) (h : spOutside dp ds P) : XS Vol.nil (ts__law_outside K (Lift (cLParts dp)) (Lift spLEdges)) (ds.map Slot.dat ++ List.replicate 7 .no) { nx := fun _ => P (.dat .non), rt := P } := by
  obtain ⟨A, F, B, o, rfl, ⟨d1, d2, d3⟩, ⟨l1, l2, l3⟩, ⟨n1, n2, n3⟩, hp⟩ := h
  have big : (100001 : Nat) ≤ sizeLine := by decide
  have hpp := page_parts A F B o
  have hlen : (Bx.ptss (pageOf A F B o)).length ≤ 40000 := by
    rw [hpp]
    cases o with
    | none => simp [preP, postP]; omega
    | some z => by_cases hz : 0 < z <;> simp [preP, postP, hz] <;> omega
  have hdep : Bx.deps (pageOf A F B o) ≤ dp := by
    cases o with
    | none => show Bx.deps (A ++ F ++ B) ≤ dp; rw [deps_app, deps_app]; omega
    | some z =>
      show Bx.deps [.blk 0 3 2, .grp 4 (-1) z (A ++ F ++ B), .blk 2 0 1] ≤ dp
      simp only [Bx.deps, Bx.dep]
      rw [deps_app, deps_app]; omega
  have hns : nsol (Bx.ptss (pageOf A F B o)) = nsol (preP A o) + nsol (Bx.ptss F) + nsol (postP B o) := by rw [hpp, nsol_app, nsol_app]
  have hel := edges_nsol (Bx.ptss (pageOf A F B o))
  show XS Vol.nil _ [.dat (Bx.doc A), .dat (Bx.doc F), .dat (Bx.doc B), .dat (optI o), .no, .no, .no, .no, .no, .no, .no] _
  unfold ts__law_outside
  have fin : ∀ k : Int, k = (nsol (preP A o) : Int) → P (.dat (.tup [.lst (cutD ((edgesOf (Bx.ptss (pageOf A F B o))).map eD) none (some k)), .lst (cutD ((edgesOf (Bx.ptss (pageOf A F B o))).map eD) (some (k + (nsol (Bx.ptss F) : Int))) none), .int (totalOf (Bx.ptss (pageOf A F B o)))])) := fun k hk => by
    subst hk
    unfold outD at hp
    rw [cut_take _ _ (by rw [List.length_map]; omega), show ((nsol (preP A o) : Int) + (nsol (Bx.ptss F) : Int)) = ((nsol (preP A o) + nsol (Bx.ptss F) : Nat) : Int) by simp, cut_drop _ _ (by rw [List.length_map]; omega), ← List.map_take, ← List.map_drop]
    exact hp
  have cnt : ∀ {s4 s7 s8 : Slot} {j : Nat} {X : List Bx} {Q : AV → Prop}, (j = 0 ∧ X = A ∨ j = 1 ∧ X = F) → Q (.dat (.int (nsol (Bx.ptss X)))) → XE Vol.nil (tCB (rLenQ K) (tCons (tLc (iList K (tCall (Lift (cLParts dp)) [] E0 (tCons (tVar j) tNil))) (gTup K 2 (gCons (gName 9) (gCons (gName 10) gNil))) (tTest (tOp (rEqD K) (tVar 9) (tC (.str "solid")))) (tC (.int 1)) [9, 10]) tNil))
      [.dat (Bx.doc A), .dat (Bx.doc F), .dat (Bx.doc B), .dat (optI o), s4, .dat (.lst ((edgesOf (Bx.ptss (pageOf A F B o))).map eD)), .dat (.int (totalOf (Bx.ptss (pageOf A F B o)))), s7, s8, .no, .no] Q := fun {s4 s7 s8 j X Q} hj q => by
    rcases hj with ⟨rfl, rfl⟩ | ⟨rfl, rfl⟩
    · refine xe_nsol (ps := Bx.ptss X) ?_ (by show 9 < 11; decide) (by show 10 < 11; decide) (by decide) (by omega) q
      repeat' walk_at "xw"
    · refine xe_nsol (ps := Bx.ptss X) ?_ (by show 9 < 11; decide) (by show 10 < 11; decide) (by decide) (by omega) q
      repeat' walk_at "xw"
  have tail : ∀ {s4 : Slot}, XS Vol.nil (tSeq (tAsg (tCB (rLenQ K) (tCons (tLc (iList K (tCall (Lift (cLParts dp)) [] E0 (tCons (tVar 1) tNil))) (gTup K 2 (gCons (gName 9) (gCons (gName 10) gNil))) (tTest (tOp (rEqD K) (tVar 9) (tC (.str "solid")))) (tC (.int 1)) [9, 10]) tNil)) (gName 7))
    (tSeq (tAsg (tCB (rLenQ K) (tCons (tLc (iList K (tCall (Lift (cLParts dp)) [] E0 (tCons (tVar 0) tNil))) (gTup K 2 (gCons (gName 9) (gCons (gName 10) gNil))) (tTest (tOp (rEqD K) (tVar 9) (tC (.str "solid")))) (tC (.int 1)) [9, 10]) tNil)) (gName 8))
    (tSeq (tIfS (tB (tNotN (tVar 3)))
    (tAsg (tOp (rI0 fun i j => .int (i + j)) (tOp (rI0 fun i j => .int (i + j)) (tVar 8) (tC (.int 1))) (tCB rIntQ (tCons (tOp (rI0 fun i j => .bl (decide (j < i))) (tVar 3) (tC (.int 0))) tNil))) (gName 8))
    tNext)
    (tRet (tTup (tCons (tSl (rSlL K) (tVar 5) tNoPart (tPart (tVar 8))) (tCons (tSl (rSlL K) (tVar 5) (tPart (tOp (rI0 fun i j => .int (i + j)) (tVar 8) (tVar 7))) tNoPart) (tCons (tVar 6) tNil))))))))
      [.dat (Bx.doc A), .dat (Bx.doc F), .dat (Bx.doc B), .dat (optI o), s4, .dat (.lst ((edgesOf (Bx.ptss (pageOf A F B o))).map eD)), .dat (.int (totalOf (Bx.ptss (pageOf A F B o)))), .no, .no, .no, .no] { nx := fun _ => P (.dat .non), rt := P } := fun {s4} => by
    refine xs_seq (xs_set (cnt (.inr ⟨rfl, rfl⟩) ⟨trivial, ?_⟩))
    walk_at "norm"
    refine xs_seq (xs_set (cnt (.inl ⟨rfl, rfl⟩) ⟨trivial, ?_⟩))
    walk_at "norm"
    cases o with
    | none =>
      unfold optI
      repeat' walk_at "xw"
      exact fin _ rfl
    | some z =>
      unfold optI
      repeat' walk_at "xw"
      refine fin _ ?_
      by_cases hz : 0 < z <;> simp [preP, nsol_app, nsol, hz] <;> omega
  cases o with
  | none =>
    unfold optI at tail ⊢
    repeat' walk_at "xw"
    refine catt_doc (by omega) ?_
    repeat' walk_at "xw"
    refine catt_doc (A := A ++ F) (by rw [List.length_append]; omega) ?_
    repeat' walk_at "xw"
    refine lparts_i (bs := A ++ F ++ B) hdep (by have : (Bx.ptss (A ++ F ++ B)).length ≤ 40000 := hlen; omega) ⟨trivial, ?_⟩
    refine xa_nil (argK (allOk_cons trivial allOk_nil) (ledges_i (by have : (Bx.ptss (A ++ F ++ B)).length ≤ 40000 := hlen; omega) ⟨trivial, ?_⟩))
    exact ⟨trivial, xg_tup rfl rfl (xgs_cons (xg_name (xgs_cons (xg_name (xgs_nil tail)))))⟩
  | some z =>
    unfold optI at tail ⊢
    repeat' walk_at "xw"
    refine catt_doc (by omega) ?_
    repeat' walk_at "xw"
    refine catt_doc (A := A ++ F) (by rw [List.length_append]; omega) ?_
    repeat' walk_at "xw"
    refine lparts_i (bs := [.blk 0 3 2, .grp 4 (-1) z (A ++ F ++ B), .blk 2 0 1]) hdep (by have : (Bx.ptss [.blk 0 3 2, .grp 4 (-1) z (A ++ F ++ B), .blk 2 0 1]).length ≤ 40000 := hlen; omega) ⟨trivial, ?_⟩
    refine xa_nil (argK (allOk_cons trivial allOk_nil) (ledges_i (by have : (Bx.ptss [.blk 0 3 2, .grp 4 (-1) z (A ++ F ++ B), .blk 2 0 1]).length ≤ 40000 := hlen; omega) ⟨trivial, ?_⟩))
    exact ⟨trivial, xg_tup rfl rfl (xgs_cons (xg_name (xgs_cons (xg_name (xgs_nil tail)))))⟩
end
end MG
end
section
set_option linter.all false
set_option maxRecDepth 100000
set_option maxHeartbeats 4000000
/-! L04: fragments with one form; the body of law k04. -/
open PySem L2 MR MG
local macro_rules | `(tactic| walk_at "size") => `(tactic| first | (with_reducible assumption) | (with_unfolding_all exact Nat.le_of_ble_eq_true rfl) | (simp [dInts]; omega) | omega)
local macro_rules | `(tactic| walk_at "norm") => `(tactic| (try dsimp only [List.set_cons_succ, List.set_cons_zero, d_dat, d_new, d_brw, ofV_int, ofV_bl, ofV_str, ofV_non, List.map_cons, List.map_nil, List.cons_append, List.nil_append]))
local macro_rules | `(tactic| walk_at "xl") => `(tactic| first
  | ((with_reducible refine' And.intro ?okk ?_); (case okk => exact True.intro))
  | ((with_reducible refine' And.intro (?cmm : CMul _ _) ?_); (case cmm => first | exact .inl ⟨by decide, by decide⟩ | exact .inr ⟨by decide, by decide⟩ | exact .inl ⟨by omega, by omega⟩ | exact .inr ⟨by omega, by omega⟩))
  | ((with_reducible refine' And.intro (?pss : (0 : Int) < _) ?_); (case pss => first | decide | omega))
  | ((with_reducible refine' And.intro (?nrr : ∀ w, _ ≠ D.raw w) ?_); (case nrr => (intro w e; cases e)))
  | ((with_reducible refine' And.intro (?eqq : (_ : D) = _) ?_); (case eqq => exact rfl))
  | ((with_reducible refine' Exists.intro _ (And.intro (?eqq : (_ : D) = _) ?_)); (case eqq => exact rfl))
  | ((with_reducible refine' Exists.intro _ (And.intro (?eqq : (_ : AV) = _) ?_)); (case eqq => exact rfl))
  | ((with_reducible refine' Exists.intro _ (And.intro (?eqq : (_ : List D) = _) ?_)); (case eqq => exact rfl))
  | ((with_reducible refine' turnE ?eqq); (case eqq => exact rfl))
  | ((with_reducible refine' And.intro (?szz : _ ≤ sizeLine) ?_); (case szz => walk_at "size"))
  | ((with_reducible refine' And.intro (?szz : _ < sizeLine) ?_); (case szz => walk_at "size")))
local macro_rules | `(tactic| walk_at "xk") => `(tactic| first
  | ((with_reducible refine' argK ?okk ?_); (case okk => repeat (first | exact allOk_nil | refine allOk_cons True.intro ?_)))
  | (with_reducible refine stob_t ?_) | ((with_reducible refine' stob_f ?okk ?_); (case okk => exact True.intro))
  | ((refine' likek ?eqq ?lkk ?_); (case eqq => exact rfl); (case lkk => walk_at "lk"))
  | refine seqa_t ?_ | refine seqa_l ?_ | refine seqa_n ?_ | refine seqa_b ?_
  | refine starT ?_ | refine starL ?_ | refine bla ?_ | refine cutl ?_ | refine cutt ?_
  | ((refine' catk ?szz ?_); (case szz => walk_at "size")) | ((refine' catt_doc ?szz ?_); (case szz => walk_at "size")) | ((refine' catt ?szz ?_); (case szz => walk_at "size")) | ((refine' catt_docT ?szz ?_); (case szz => walk_at "size"))
  | (refine ixk_last ?_) | (refine ixk_0 ?_) | (refine ixk_last2 ?_) | ((refine' ixk_t ?eqq ?_); (case eqq => exact rfl)) | ((refine' ixk_l ?eqq ?_); (case eqq => exact rfl))
  | refine eqk_int ?_ | refine eqk_bl ?_ | ((refine eqk_str ?s1 ?s2 ?_); (case s1 => with_unfolding_all rfl); (case s2 => with_unfolding_all rfl)))
local macro_rules | `(tactic| walk_at "lk") => `(tactic| first | exact lk_int | exact lk_fm _ | (exact rfl) | (with_reducible assumption) | (apply lk_rows <;> (first | (with_reducible assumption) | omega | (intro r hr; apply Nat.le_trans (by first | (exact (by assumption : ∀ r ∈ _, _) r hr)) (by omega)))) | (apply lk_lI; walk_at "size") | (apply lk_tI; walk_at "size") | (apply lk_edges; walk_at "size"))
local macro_rules | `(tactic| walk_at "sd") => `(tactic| first | (with_reducible assumption) | omega)
local macro_rules | `(tactic| walk_at "sp") => `(tactic| first
  | ((refine' draw_i ?b1 ?b2 ?_); (case b1 => walk_at "sd"); (case b2 => walk_at "sd"); intro r hr0 hr1)
  | ((refine' doc_i ?b1 ?b2 ?_); (case b1 => walk_at "sd"); (case b2 => walk_at "sd"); intro bs hbs)
  | ((refine' lparts_i ?b1 ?b2 ?_); (case b1 => walk_at "sd"); (case b2 => walk_at "sd"))
  | ((refine' runs_i ?b1 ?b2 ?_); (case b1 => walk_at "sd"); (case b2 => walk_at "sd"))
  | ((refine' gaps_i ?b1 ?b2 ?_); (case b1 => walk_at "sd"); (case b2 => walk_at "sd"))
  | ((refine' edges_i ?b1 ?b2 ?_); (case b1 => walk_at "sd"); (case b2 => walk_at "sd"))
  | ((refine' total_i ?b1 ?b2 ?_); (case b1 => walk_at "sd"); (case b2 => walk_at "sd"))
  | ((refine' lruns_i ?b1 ?_); (case b1 => walk_at "sd"))
  | ((refine' ledges_i ?b1 ?_); (case b1 => walk_at "sd"))
  | ((refine' lgap_t ?b1 ?_); (case b1 => walk_at "sd"))
  | ((refine' lgap_l ?b1 ?_); (case b1 => walk_at "sd"))
  | ((refine' gap_t ?b1 ?_); (case b1 => walk_at "sd"))
  | ((refine' form_i ?b1 ?b2 ?_); (case b1 => walk_at "sd"); (case b2 => walk_at "sd"))
  | ((refine' form_of_i ?b1 ?_); (case b1 => walk_at "sd"))
  | (refine distof_i ?_) | ((refine' dist_i ?b1 ?b2 ?_); (case b1 => walk_at "sd"); (case b2 => walk_at "sd"))
  | ((refine' partsA_i ?b1 ?b2 ?_); (case b1 => walk_at "sd"); (case b2 => walk_at "sd"))
  | fail "sp")
local macro_rules | `(tactic| walk_at "xg") => `(tactic| first
  | with_reducible refine xg_name ?_ | ((with_reducible refine' xg_tup ?eqq ?lnn ?_); (case eqq => exact rfl); (case lnn => exact rfl))
  | with_reducible refine xgs_cons ?_ | with_reducible refine xgs_nil ?_)
local macro_rules | `(tactic| walk_at "xe") => `(tactic| first
  | ((with_reducible refine' xe_vard ?eqq ?_); (case eqq => exact rfl)) | ((with_reducible refine' xe_varo ?eqq ?_); (case eqq => exact rfl))
  | with_reducible refine xe_c ?_ | with_reducible refine xe_I0 ?_ | with_reducible refine xe_I ?_ | with_reducible refine xe_U ?_
  | with_reducible refine xe_ixK ?_ | with_reducible refine xe_eqK ?_ | with_reducible refine xe_neK ?_ | with_reducible refine xe_callK ?_ | with_reducible refine xe_likeK ?_ | ((with_reducible refine' xe_drawK ?ttt ?eqq ?_); (case ttt => with_reducible assumption); (case eqq => exact rfl))
  | with_reducible refine xe_partsK ?_ | with_reducible refine xe_tupK ?_ | with_reducible refine xe_lstD ?_ | with_reducible refine xe_catLK ?_ | with_reducible refine xe_catTK ?_
  | with_reducible refine xa_nil ?_ | with_reducible refine xa_cons ?_ | with_reducible refine xd_nil ?_ | with_reducible refine xd_cons ?_
  | with_reducible refine xe_lenK ?_ | with_reducible refine xe_listK ?_ | with_reducible refine xe_tupleK ?_ | with_reducible refine xe_sumK ?_
  | with_reducible refine xe_intB ?_ | with_reducible refine xe_slLK ?_ | with_reducible refine xe_slTK ?_ | with_reducible refine xo_none ?_ | with_reducible refine xo_some ?_
  | with_reducible refine xt_test ?_ | with_reducible refine xt_B ?_ | with_reducible refine xt_not ?_ | with_reducible refine xt_and ?_ | with_reducible refine xt_or ?_ | with_reducible refine xt_yes ?_
  | with_reducible refine xe_if ?_ | with_reducible refine xe_andV ?_ | with_reducible refine xe_orV ?_ | with_reducible refine xe_notV ?_ | with_reducible refine xe_chI ?_ | with_reducible refine xd_starK ?_ | with_reducible refine xe_notBK ?_ | with_reducible refine xe_isBK ?_ | with_reducible refine xe_notN ?_ | with_reducible refine xe_isN ?_)
local macro_rules | `(tactic| walk_at "xs") => `(tactic| first
  | with_reducible refine xs_seq ?_ | with_reducible refine xs_if ?_ | ((with_reducible refine' xs_retO ?eqq ?_); (case eqq => exact rfl)) | with_reducible refine xs_ret ?_
  | with_reducible refine xs_set ?_ | with_reducible refine xs_setO ?_ | with_reducible refine xs_next ?_ | with_reducible refine xs_cont ?_ | with_reducible refine xs_break ?_
  | ((with_reducible refine' xs_appK ?eqq ?_); (case eqq => exact rfl)) | ((with_reducible refine' xs_ext ?eqq ?_); (case eqq => exact rfl)) | ((with_reducible refine' xs_extT ?eqq ?_); (case eqq => exact rfl))
  | ((with_reducible refine' xs_parJ ?n1 ?n2 ?_); (case n1 => decide); (case n2 => exact Nat.lt_of_sub_pos (by exact Nat.le_of_ble_eq_true rfl)))
  | ((with_reducible refine' xs_parJ3 ?n1 ?n2 ?n3 ?n4 ?n5 ?_); (case n1 => decide); (case n2 => decide); (case n3 => decide); (case n4 => exact Nat.lt_of_sub_pos (by exact Nat.le_of_ble_eq_true rfl)); (case n5 => exact Nat.lt_of_sub_pos (by exact Nat.le_of_ble_eq_true rfl)))
  | ((with_reducible refine' xs_setLast ?eqq ?_); (case eqq => exact rfl))
  | with_reducible refine xs_asg ?_)
local macro_rules | `(tactic| walk_at "xi") => `(tactic| first
  | ((with_reducible refine' ite_t ?eqq ?_); (case eqq => decide +kernel)) | ((with_reducible refine' ite_f ?eqq ?_); (case eqq => decide +kernel))
  | ((with_reducible refine' ite_t ?eqq ?_); (case eqq => exact rfl)) | ((with_reducible refine' ite_f ?eqq ?_); (case eqq => exact rfl))
  | ((with_reducible refine' ite_t ?eqq ?_); (case eqq => exact decide_eq_true (by first | (with_reducible assumption) | exact rfl))) | ((with_reducible refine' ite_f ?eqq ?_); (case eqq => exact decide_eq_false (by assumption))) | ((with_reducible refine' ite_nd_t ?eqq ?_); (case eqq => first | (with_reducible assumption) | exact rfl)) | ((with_reducible refine' ite_nd_f ?eqq ?_); (case eqq => with_reducible assumption)) | fail "xi")
local macro_rules | `(tactic| walk_at "xw") => `(tactic| (first | walk_at "xs" | walk_at "xe" | walk_at "xg" | walk_at "xl" | walk_at "xk" | walk_at "xi" | walk_at "sp" | fail "xw"); walk_at "norm")

namespace MG
section
variable {K : PySem.W.Frag}
def alikeOf : Fm → Option (List Bx)
  | .thr h l => some [.grp h l 0 []]
  | .sol fh fl e lh ll => if 1 ≤ e ∧ e ≤ 1000 then some [.grp fh fl 0 [], .blk 0 0 e, .grp ll lh 0 []] else none
def docO : Option (List Bx) → D
  | none => .non
  | some bs => Bx.doc bs
def spAlike : ASp := fun ds P => ∃ f : Fm, ds = [f.d] ∧ P (.dat (docO (alikeOf f)))
theorem doc_1 (h l : Int) : Bx.doc [.grp h l 0 []] = .tup [.tup [.str "group", .int h, .int l, .int 0, .tup []]] := rfl
theorem doc_3 (a b e c d : Int) : Bx.doc [.grp a b 0 [], .blk 0 0 e, .grp c d 0 []] = .tup [.tup [.str "group", .int a, .int b, .int 0, .tup []], .tup [.str "block", .int 0, .int 0, .int e], .tup [.str "group", .int c, .int d, .int 0, .tup []]] := rfl
theorem xs_alike (ds : List D) (P : AV → Prop) (h : spAlike ds P) : XS Vol.nil (ts__law_alike_fragment K) (ds.map Slot.dat ++ List.replicate 2 .no) { nx := fun _ => P (.dat .non), rt := P } := by
  obtain ⟨f, rfl, hp⟩ := h
  have big : (100001 : Nat) ≤ sizeLine := by decide
  show XS Vol.nil _ [.dat f.d, .no, .no] _
  unfold ts__law_alike_fragment
  cases f with
  | thr h l =>
    unfold Fm.d tI dInts
    repeat' walk_at "xw"
    exact hp
  | sol fh fl e lh ll =>
    unfold Fm.d tI dInts
    unfold alikeOf at hp
    have hp1 : 1 ≤ e ∧ e ≤ 1000 → P (.dat (Bx.doc [.grp fh fl 0 [], .blk 0 0 e, .grp ll lh 0 []])) := fun z => by change P (.dat (docO (if 1 ≤ e ∧ e ≤ 1000 then some _ else none))) at hp; rw [if_pos z] at hp; exact hp
    have hp2 : ¬ (1 ≤ e ∧ e ≤ 1000) → P (.dat .non) := fun z => by change P (.dat (docO (if 1 ≤ e ∧ e ≤ 1000 then some _ else none))) at hp; rw [if_neg z] at hp; exact hp
    by_cases h1 : 1 ≤ e
    · by_cases h2 : e ≤ 1000
      · repeat' walk_at "xw"
        exact hp1 ⟨h1, h2⟩
      · repeat' walk_at "xw"
        exact hp2 fun z => h2 z.2
    · repeat' walk_at "xw"
      exact hp2 fun z => h1 z.1
def ts_law04 (K : PySem.W.Frag) (c_law_document : Sp) (c_law_parts : Sp) (c_law_form : Sp) (cform : Sp) (c_law_like : Sp) (c_law_alike_fragment : Sp) (cinterchangeable : Sp) (c_law_outside : Sp) : TS :=
    (tSeq (tAsg (tLst (tCons (tCB (rListQ K) (tCons (tVar 0) tNil)) (tCons (tC (.int 0)) (tCons (tC (.int 0)) tNil)))) (gName 1))
    (tSeq (tFor (iRng1 (tCons (tC (.int 8)) tNil)) (gName 2)
    (tSeq (tAsg (tCall c_law_document [] E0 (tCons (tVar 1) (tCons (tC (.int 6)) (tCons (tC (.int 9)) tNil)))) (gName 3))
    (tSeq (tAsg (tCall c_law_form [] E0 (tCons (tCall c_law_parts [] E0 (tCons (tVar 3) tNil)) tNil)) (gName 4))
    (tSeq (tIfS (tNot (tB (tCall c_law_like [] E0 (tCons (tCall cform [] E0 (tCons (tVar 3) tNil)) (tCons (tVar 4) tNil)))))
    (tRet (tC (.bl false)))
    tNext)
    (tSeq (tAsg (tCall c_law_alike_fragment [] E0 (tCons (tVar 4) tNil)) (gName 5))
    (tIfS (tB (tNotN (tVar 5)))
    (tSeq (tIfS (tOr (tTest (tOp (rNeD K) (tCall cform [] E0 (tCons (tVar 5) tNil)) (tVar 4))) (tTest (tOp rNotB (tCall cinterchangeable [] E0 (tCons (tVar 3) (tCons (tVar 5) tNil))) (tC (.bl true)))))
    (tRet (tC (.bl false)))
    tNext)
    (tSeq (tPar (oB false 6) (oB false 7) (tCons (tCall c_law_document [] E0 (tCons (tVar 1) (tCons (tC (.int 4)) (tCons (tC (.int 12)) tNil)))) (tCons (tCall c_law_document [] E0 (tCons (tVar 1) (tCons (tC (.int 4)) (tCons (tC (.int 12)) tNil)))) tNil)))
    (tFor (iTup K (tTup (tCons (tC .non) (tCons (tC (.int 0)) (tCons (tC (.int 2)) tNil))))) (gName 8)
    (tIfS (tTest (tOp (rNeD K) (tCall c_law_outside [] E0 (tCons (tVar 6) (tCons (tVar 3) (tCons (tVar 7) (tCons (tVar 8) tNil))))) (tCall c_law_outside [] E0 (tCons (tVar 6) (tCons (tVar 5) (tCons (tVar 7) (tCons (tVar 8) tNil)))))))
    (tRet (tC (.bl false)))
    tNext))))
    tNext))))))
    (tRet (tOp (rEqD K) (tCall cform [] E0 (tCons (tTup tNil) tNil)) (tTup (tCons (tC (.str "through")) (tCons (tTup (tCons (tC (.int 0)) (tCons (tC (.int 0)) tNil))) tNil)))))))
abbrev law04T (K : PySem.W.Frag) : TS := ts_law04 K cDoc (Lift (cLParts 4)) (Lift spFormOf) (Lift (spForm 3)) (sLike 9) (Lift spAlike) (Lift (spSameForm 3)) (Lift (spOutside 4))
def Fm.ok : Fm → Prop
  | .thr h l => 0 ≤ h ∧ l ≤ 0
  | .sol fh fl _ lh ll => 0 ≤ fh ∧ fl ≤ 0 ∧ 0 ≤ lh ∧ ll ≤ 0
theorem formOf_ok (ps : List Pt) : (formOf ps).ok := by
  unfold formOf
  cases (runsOf ps).rows with
  | nil => exact ⟨mx_0 _, mn_0 _⟩
  | cons r0 rs => exact ⟨mx_0 _, mn_0 _, mx_0 _, mn_0 _⟩
theorem mx_cons (x : Int) (xs : List Int) : mx (x :: xs) = max x (mx xs) := rfl
theorem mn_cons (x : Int) (xs : List Int) : mn (x :: xs) = min x (mn xs) := rfl
theorem alike_form {f : Fm} {bs : List Bx} (h : alikeOf f = some bs) (hk : f.ok) : formOf (Bx.ptss bs) = f ∧ Bx.deps bs ≤ 1 ∧ (Bx.ptss bs).length ≤ 9 ∧ bs.length ≤ 3 := by
  cases f with
  | thr a b =>
    cases h
    obtain ⟨h1, h2⟩ := hk
    refine ⟨?_, by simp [Bx.deps, Bx.dep], by simp [Bx.ptss, Bx.pts], by simp⟩
    have e : Bx.ptss [.grp a b 0 []] = [.m a, .m b] := by simp [Bx.ptss, Bx.pts]
    rw [e]
    show Fm.thr (mx [a, b]) (mn [a, b]) = _
    simp only [mx_cons, mn_cons, mx_nil, mn_nil]
    congr 1 <;> omega
  | sol a b e c d =>
    obtain ⟨h1, h2, h3, h4⟩ := hk
    change (if 1 ≤ e ∧ e ≤ 1000 then some _ else none) = some bs at h
    by_cases he : 1 ≤ e ∧ e ≤ 1000
    · rw [if_pos he] at h
      cases h
      refine ⟨?_, by simp [Bx.deps, Bx.dep], by simp [Bx.ptss, Bx.pts], by simp⟩
      have e1 : Bx.ptss [.grp a b 0 [], .blk 0 0 e, .grp d c 0 []] = [.m a, .m b, .m 0, .s e, .m 0, .m d, .m c] := by simp [Bx.ptss, Bx.pts]
      rw [e1]
      show Fm.sol (mx [a, b, 0]) (mn [a, b, 0]) (([e] : List Int).sum + (([] : List (List Int)).map gapI).sum) (mx [0, d, c]) (mn [0, d, c]) = _
      simp only [mx_cons, mn_cons, mx_nil, mn_nil, List.sum_cons, List.sum_nil, List.map_nil]
      congr 1 <;> omega
    · rw [if_neg he] at h; cases h
theorem exchange_page {A F F' B : List Bx} {o : Option Int} (e : formOf (Bx.ptss F) = formOf (Bx.ptss F')) : outD A F B o = outD A F' B o := by
  unfold outD
  obtain ⟨e1, e2, e3⟩ := exchange (A := preP A o) (B := postP B o) e
  rw [page_parts, page_parts, e1, e2, e3]
theorem nb_out {A F B : List Bx} {o : Option Int} : (outD A F B o).nb 3 = true := by
  unfold outD
  refine D.nbs_iff.mpr fun x hx => ?_
  simp at hx
  rcases hx with rfl | rfl | rfl
  · rw [← List.map_take]; exact nb_edges
  · rw [← List.map_drop]; exact nb_edges
  · rfl
theorem alike_i {f : Fm} {P : AV → Prop} (h : P (.dat (docO (alikeOf f)))) : spAlike [f.d] P := ⟨f, rfl, h⟩
theorem drawn_rows {w : Int} {bs : List Bx} (h : Bx.drawn w 3 bs) : bs.length ≤ 3 := h.1
theorem xs_law04 (H : Hp) (a : Addr) (ns : List Int) (Dn : Ends) (hS : SqL K H a (ns.map L2.V.int)) (q : ∀ H', Dn.rt (.bl true) H') {N : List Str} (hN : N.length = 9) : law04T K Dn (L2.start N [.ref a]) H := by
  unfold law04T ts_law04
  refine law_run (n := 7) hN hS (fun V l T => ?_) q
  have big : (100001 : Nat) ≤ sizeLine := by decide
  refine xs_seq (xs_turns (n := 8) (by decide) (fun i δx hl => ?_) fun δx hl => ?_)
  · match δx, hl with
    | [s2, s3, s4, s5, s6, s7, s8], _ =>
      repeat' walk_at "xw"
      rename_i bs hbs
      obtain ⟨f1, f2, f3, f4, f5, f6, k1, k2, k3⟩ := drawnF hbs
      repeat' walk_at "xw"
      refine alike_i ⟨by cases alikeOf (formOf (Bx.ptss bs)) <;> trivial, ?_⟩
      cases ha : alikeOf (formOf (Bx.ptss bs)) with
      | none =>
        unfold docO
        repeat' walk_at "xw"
      | some as =>
        obtain ⟨e1, e2, e3, e4⟩ := alike_form ha (formOf_ok _)
        unfold docO Bx.doc
        repeat' walk_at "xw"
        rw [e1]
        refine eqk_same 2 (nb_fm _) rfl ⟨_, rfl, ?_⟩
        repeat' walk_at "xw"
        refine xe_notB ?_
        repeat' walk_at "xw"
        refine ⟨bs, as, rfl, by omega, by omega, by omega, by omega, fun b hb => ⟨trivial, ?_⟩⟩
        have eb : b = true := hb.mpr e1.symm
        subst eb
        repeat' walk_at "xw"
        refine ⟨true, true, rfl, rfl, ?_⟩
        repeat' walk_at "xw"
        rename_i A hA B hB
        obtain ⟨a1, a2⟩ := drawn_len hA
        obtain ⟨b1, b2⟩ := drawn_len hB
        have a3 := drawn_rows hA
        have b3 := drawn_rows hB
        have c3 := drawn_rows hbs
        refine xs_forFT [none, some 0, some 2] optI () (fun _ _ => ()) (fun _ δ' => ∃ s8, δ' = [.no, .tape, .dat (.int (i : Int)), .dat (Bx.doc bs), .dat (formOf (Bx.ptss bs)).d, .dat (Bx.doc as), .dat (Bx.doc A), .dat (Bx.doc B), s8]) ?_
        repeat' walk_at "xw"
        refine ⟨⟨_, rfl⟩, fun pre o post _ δ' ⟨s8, eδ⟩ => ?_, fun δ' ⟨s8, eδ⟩ => ?_⟩
        · subst eδ
          repeat' walk_at "xw"
          refine ⟨A, bs, B, o, rfl, ⟨by omega, by omega, by omega⟩, ⟨by omega, by omega, by omega⟩, ⟨by omega, by omega, by omega⟩, ⟨trivial, ?_⟩⟩
          repeat' walk_at "xw"
          refine ⟨A, as, B, o, rfl, ⟨by omega, by omega, by omega⟩, ⟨by omega, by omega, by omega⟩, ⟨by omega, by omega, by omega⟩, ⟨trivial, ?_⟩⟩
          refine eqk_same 3 nb_out (exchange_page e1.symm) ⟨_, rfl, ?_⟩
          repeat' walk_at "xw"
          exact ⟨_, rfl⟩
        · subst eδ
          repeat' walk_at "xw"
  · match δx, hl with
    | [s2, s3, s4, s5, s6, s7, s8], _ =>
      repeat' walk_at "xw"
      refine form_i (bs := []) (by decide) (by decide) ⟨trivial, ?_⟩
      repeat' walk_at "xw"
      exact eqk_same 2 (nb_fm (.thr 0 0)) rfl ⟨trivial, rfl⟩
end
end MG
end
section
set_option linter.all false
set_option maxRecDepth 100000
set_option maxHeartbeats 4000000
/-! ML8: distances. -/
open PySem L2 MR MG
namespace MG
section
variable {V : Vol} {δ : List Slot} {K : PySem.W.Frag}
def StarK (x : D) (k : List D → Prop) : Prop := ∃ xs, (x = .tup xs ∨ x = .lst xs) ∧ k xs
theorem starT {xs : List D} {k : List D → Prop} (h : k xs) : StarK (.tup xs) k := ⟨xs, .inl rfl, h⟩
theorem starL {xs : List D} {k : List D → Prop} (h : k xs) : StarK (.lst xs) k := ⟨xs, .inr rfl, h⟩
theorem xd_starK {ta : TE} {tr : TA} {P : List D → Prop} (h : XE V ta δ fun a => StarK a.d fun xs => XD V tr δ fun ds => P (xs ++ ds)) : XD V (StX.tStar K ta tr) δ P := xd_star h
theorem xe_notBK {ta tb : TE} {P : AV → Prop} (h : XE V ta δ fun a => ∃ x, a.d = .bl x ∧ XE V tb δ fun b => ∃ y, b.d = .bl y ∧ P (.dat (.bl (!decide (x = y))))) : XE V (tOp rNotB ta tb) δ P :=
  xe_notB (h.imp fun a ⟨x, ea, hb⟩ => hb.imp fun b ⟨y, eb, p⟩ => ⟨x, y, ea, eb, p⟩)
theorem xe_isBK {ta tb : TE} {P : AV → Prop} (h : XE V ta δ fun a => ∃ x, a.d = .bl x ∧ XE V tb δ fun b => ∃ y, b.d = .bl y ∧ P (.dat (.bl (decide (x = y))))) : XE V (tOp rIsB ta tb) δ P :=
  xe_isB (h.imp fun a ⟨x, ea, hb⟩ => hb.imp fun b ⟨y, eb, p⟩ => ⟨x, y, ea, eb, p⟩)
end
end MG
local macro_rules | `(tactic| walk_at "size") => `(tactic| first | (with_reducible assumption) | (with_unfolding_all exact Nat.le_of_ble_eq_true rfl) | (simp [dInts]; omega) | omega)
local macro_rules | `(tactic| walk_at "norm") => `(tactic| (try dsimp only [List.set_cons_succ, List.set_cons_zero, d_dat, d_new, d_brw, ofV_int, ofV_bl, ofV_str, ofV_non, List.map_cons, List.map_nil, List.cons_append, List.nil_append]))
local macro_rules | `(tactic| walk_at "xl") => `(tactic| first
  | ((with_reducible refine' And.intro ?okk ?_); (case okk => exact True.intro))
  | ((with_reducible refine' And.intro (?cmm : CMul _ _) ?_); (case cmm => first | exact .inl ⟨by decide, by decide⟩ | exact .inr ⟨by decide, by decide⟩ | exact .inl ⟨by omega, by omega⟩ | exact .inr ⟨by omega, by omega⟩))
  | ((with_reducible refine' And.intro (?pss : (0 : Int) < _) ?_); (case pss => first | decide | omega))
  | ((with_reducible refine' And.intro (?nrr : ∀ w, _ ≠ D.raw w) ?_); (case nrr => (intro w e; cases e)))
  | ((with_reducible refine' And.intro (?eqq : (_ : D) = _) ?_); (case eqq => exact rfl))
  | ((with_reducible refine' Exists.intro _ (And.intro (?eqq : (_ : D) = _) ?_)); (case eqq => exact rfl))
  | ((with_reducible refine' Exists.intro _ (And.intro (?eqq : (_ : AV) = _) ?_)); (case eqq => exact rfl))
  | ((with_reducible refine' Exists.intro _ (And.intro (?eqq : (_ : List D) = _) ?_)); (case eqq => exact rfl))
  | ((with_reducible refine' turnE ?eqq); (case eqq => exact rfl))
  | ((with_reducible refine' And.intro (?szz : _ ≤ sizeLine) ?_); (case szz => walk_at "size"))
  | ((with_reducible refine' And.intro (?szz : _ < sizeLine) ?_); (case szz => walk_at "size")))
local macro_rules | `(tactic| walk_at "xk") => `(tactic| first
  | ((with_reducible refine' argK ?okk ?_); (case okk => repeat (first | exact allOk_nil | refine allOk_cons True.intro ?_)))
  | (with_reducible refine stob_t ?_) | ((with_reducible refine' stob_f ?okk ?_); (case okk => exact True.intro))
  | ((refine' likek ?eqq ?lkk ?_); (case eqq => exact rfl); (case lkk => walk_at "lk"))
  | refine seqa_t ?_ | refine seqa_l ?_ | refine seqa_n ?_ | refine seqa_b ?_
  | refine starT ?_ | refine starL ?_ | refine bla ?_ | refine cutl ?_ | refine cutt ?_
  | ((refine' catk ?szz ?_); (case szz => walk_at "size")) | ((refine' catt_doc ?szz ?_); (case szz => walk_at "size")) | ((refine' catt ?szz ?_); (case szz => walk_at "size")) | ((refine' catt_docT ?szz ?_); (case szz => walk_at "size"))
  | (refine ixk_last ?_) | (refine ixk_0 ?_) | (refine ixk_last2 ?_) | ((refine' ixk_t ?eqq ?_); (case eqq => exact rfl)) | ((refine' ixk_l ?eqq ?_); (case eqq => exact rfl))
  | refine eqk_int ?_ | refine eqk_bl ?_ | ((refine eqk_str ?s1 ?s2 ?_); (case s1 => with_unfolding_all rfl); (case s2 => with_unfolding_all rfl)))
local macro_rules | `(tactic| walk_at "lk") => `(tactic| first | exact lk_int | exact lk_fm _ | (exact rfl) | (with_reducible assumption) | (apply lk_rows <;> (first | (with_reducible assumption) | omega | (intro r hr; apply Nat.le_trans (by first | (exact (by assumption : ∀ r ∈ _, _) r hr)) (by omega)))) | (apply lk_lI; walk_at "size") | (apply lk_tI; walk_at "size") | (apply lk_edges; walk_at "size"))
local macro_rules | `(tactic| walk_at "sd") => `(tactic| first | (with_reducible assumption) | omega)
local macro_rules | `(tactic| walk_at "sp") => `(tactic| first
  | ((refine' draw_i ?b1 ?b2 ?_); (case b1 => walk_at "sd"); (case b2 => walk_at "sd"); intro r hr0 hr1)
  | ((refine' doc_i ?b1 ?b2 ?_); (case b1 => walk_at "sd"); (case b2 => walk_at "sd"); intro bs hbs)
  | ((refine' lparts_i ?b1 ?b2 ?_); (case b1 => walk_at "sd"); (case b2 => walk_at "sd"))
  | ((refine' runs_i ?b1 ?b2 ?_); (case b1 => walk_at "sd"); (case b2 => walk_at "sd"))
  | ((refine' gaps_i ?b1 ?b2 ?_); (case b1 => walk_at "sd"); (case b2 => walk_at "sd"))
  | ((refine' edges_i ?b1 ?b2 ?_); (case b1 => walk_at "sd"); (case b2 => walk_at "sd"))
  | ((refine' total_i ?b1 ?b2 ?_); (case b1 => walk_at "sd"); (case b2 => walk_at "sd"))
  | ((refine' lruns_i ?b1 ?_); (case b1 => walk_at "sd"))
  | ((refine' ledges_i ?b1 ?_); (case b1 => walk_at "sd"))
  | ((refine' lgap_t ?b1 ?_); (case b1 => walk_at "sd"))
  | ((refine' lgap_l ?b1 ?_); (case b1 => walk_at "sd"))
  | ((refine' gap_t ?b1 ?_); (case b1 => walk_at "sd"))
  | ((refine' form_i ?b1 ?b2 ?_); (case b1 => walk_at "sd"); (case b2 => walk_at "sd"))
  | ((refine' form_of_i ?b1 ?_); (case b1 => walk_at "sd"))
  | (refine distof_i ?_) | ((refine' dist_i ?b1 ?b2 ?_); (case b1 => walk_at "sd"); (case b2 => walk_at "sd"))
  | ((refine' partsA_i ?b1 ?b2 ?_); (case b1 => walk_at "sd"); (case b2 => walk_at "sd"))
  | fail "sp")
local macro_rules | `(tactic| walk_at "xg") => `(tactic| first
  | with_reducible refine xg_name ?_ | ((with_reducible refine' xg_tup ?eqq ?lnn ?_); (case eqq => exact rfl); (case lnn => exact rfl))
  | with_reducible refine xgs_cons ?_ | with_reducible refine xgs_nil ?_)
local macro_rules | `(tactic| walk_at "xe") => `(tactic| first
  | ((with_reducible refine' xe_vard ?eqq ?_); (case eqq => exact rfl)) | ((with_reducible refine' xe_varo ?eqq ?_); (case eqq => exact rfl))
  | with_reducible refine xe_c ?_ | with_reducible refine xe_I0 ?_ | with_reducible refine xe_I ?_ | with_reducible refine xe_U ?_
  | with_reducible refine xe_ixK ?_ | with_reducible refine xe_eqK ?_ | with_reducible refine xe_neK ?_ | with_reducible refine xe_callK ?_ | with_reducible refine xe_likeK ?_ | ((with_reducible refine' xe_drawK ?ttt ?eqq ?_); (case ttt => with_reducible assumption); (case eqq => exact rfl))
  | with_reducible refine xe_partsK ?_ | with_reducible refine xe_tupK ?_ | with_reducible refine xe_lstD ?_ | with_reducible refine xe_catLK ?_ | with_reducible refine xe_catTK ?_
  | with_reducible refine xa_nil ?_ | with_reducible refine xa_cons ?_ | with_reducible refine xd_nil ?_ | with_reducible refine xd_cons ?_
  | with_reducible refine xe_lenK ?_ | with_reducible refine xe_listK ?_ | with_reducible refine xe_tupleK ?_ | with_reducible refine xe_sumK ?_
  | with_reducible refine xe_intB ?_ | with_reducible refine xe_slLK ?_ | with_reducible refine xe_slTK ?_ | with_reducible refine xo_none ?_ | with_reducible refine xo_some ?_
  | with_reducible refine xt_test ?_ | with_reducible refine xt_B ?_ | with_reducible refine xt_not ?_ | with_reducible refine xt_and ?_ | with_reducible refine xt_or ?_ | with_reducible refine xt_yes ?_
  | with_reducible refine xe_if ?_ | with_reducible refine xe_andV ?_ | with_reducible refine xe_orV ?_ | with_reducible refine xe_notV ?_ | with_reducible refine xe_chI ?_ | with_reducible refine xd_starK ?_ | with_reducible refine xe_notBK ?_ | with_reducible refine xe_isBK ?_ | with_reducible refine xe_notN ?_ | with_reducible refine xe_isN ?_)
local macro_rules | `(tactic| walk_at "xs") => `(tactic| first
  | with_reducible refine xs_seq ?_ | with_reducible refine xs_if ?_ | ((with_reducible refine' xs_retO ?eqq ?_); (case eqq => exact rfl)) | with_reducible refine xs_ret ?_
  | with_reducible refine xs_set ?_ | with_reducible refine xs_setO ?_ | with_reducible refine xs_next ?_ | with_reducible refine xs_cont ?_ | with_reducible refine xs_break ?_
  | ((with_reducible refine' xs_appK ?eqq ?_); (case eqq => exact rfl)) | ((with_reducible refine' xs_ext ?eqq ?_); (case eqq => exact rfl)) | ((with_reducible refine' xs_extT ?eqq ?_); (case eqq => exact rfl))
  | ((with_reducible refine' xs_parJ ?n1 ?n2 ?_); (case n1 => decide); (case n2 => exact Nat.lt_of_sub_pos (by exact Nat.le_of_ble_eq_true rfl)))
  | ((with_reducible refine' xs_parJ3 ?n1 ?n2 ?n3 ?n4 ?n5 ?_); (case n1 => decide); (case n2 => decide); (case n3 => decide); (case n4 => exact Nat.lt_of_sub_pos (by exact Nat.le_of_ble_eq_true rfl)); (case n5 => exact Nat.lt_of_sub_pos (by exact Nat.le_of_ble_eq_true rfl)))
  | ((with_reducible refine' xs_setLast ?eqq ?_); (case eqq => exact rfl))
  | with_reducible refine xs_asg ?_)
local macro_rules | `(tactic| walk_at "xi") => `(tactic| first
  | ((with_reducible refine' ite_t ?eqq ?_); (case eqq => decide +kernel)) | ((with_reducible refine' ite_f ?eqq ?_); (case eqq => decide +kernel))
  | ((with_reducible refine' ite_t ?eqq ?_); (case eqq => exact rfl)) | ((with_reducible refine' ite_f ?eqq ?_); (case eqq => exact rfl))
  | ((with_reducible refine' ite_t ?eqq ?_); (case eqq => exact decide_eq_true (by first | (with_reducible assumption) | exact rfl))) | ((with_reducible refine' ite_f ?eqq ?_); (case eqq => exact decide_eq_false (by assumption))) | ((with_reducible refine' ite_nd_t ?eqq ?_); (case eqq => first | (with_reducible assumption) | exact rfl)) | ((with_reducible refine' ite_nd_f ?eqq ?_); (case eqq => with_reducible assumption)) | fail "xi")
local macro_rules | `(tactic| walk_at "xw") => `(tactic| (first | walk_at "xs" | walk_at "xe" | walk_at "xg" | walk_at "xl" | walk_at "xk" | walk_at "xi" | walk_at "sp" | fail "xw"); walk_at "norm")

namespace MG
section
variable {K : PySem.W.Frag}
def distOf : Fm → Int → Int → Int
  | .thr h l, a, b => gapI [h, l, a, b]
  | .sol fh fl e lh ll, a, b => gapI [fh, fl, a] + e + gapI [lh, ll, b]
def spDistOf : ASp := fun ds P => ∃ (f : Fm) (a b : Int), ds = [f.d, .int a, .int b] ∧ P (.dat (.int (distOf f a b)))
theorem xs_distance_of (ds : List D) (P : AV → Prop) (h : spDistOf ds P) : XS Vol.nil (ts_distance_of K (Lift spGap)) (ds.map Slot.dat ++ List.replicate 4 .no) { nx := fun _ => P (.dat .non), rt := P } := by
  obtain ⟨f, a, b, rfl, hp⟩ := h
  have big : (100001 : Nat) ≤ sizeLine := by decide
  show XS Vol.nil _ [.dat f.d, .dat (.int a), .dat (.int b), .no, .no, .no, .no] _
  unfold ts_distance_of
  cases f with
  | thr h l =>
    unfold Fm.d
    repeat' walk_at "xw"
    refine gap_t (xs := [h, l, a, b]) (by simp) ⟨trivial, trivial, hp⟩
  | sol fh fl e lh ll =>
    unfold Fm.d
    repeat' walk_at "xw"
    refine gap_t (xs := [fh, fl, a]) (by simp) ?_
    repeat' walk_at "xw"
    refine gap_t (xs := [lh, ll, b]) (by simp) ?_
    repeat' walk_at "xw"
    exact hp
theorem distof_i {f : Fm} {a b : Int} {P : AV → Prop} (h : P (.dat (.int (distOf f a b)))) : spDistOf [f.d, .int a, .int b] P := ⟨f, a, b, rfl, h⟩
def spDist (dp : Nat) : ASp := fun ds P => ∃ (bs : List Bx) (a b : Int), ds = [Bx.doc bs, .int a, .int b] ∧ Bx.deps bs ≤ dp ∧ (Bx.ptss bs).length ≤ 9999 ∧ P (.dat (.int (distOf (formOf (Bx.ptss bs)) a b)))
theorem dist_i {dp : Nat} {bs : List Bx} {a b : Int} {P : AV → Prop} (h1 : Bx.deps bs ≤ dp) (h2 : (Bx.ptss bs).length ≤ 9999) (h : P (.dat (.int (distOf (formOf (Bx.ptss bs)) a b)))) : spDist dp [Bx.doc bs, .int a, .int b] P := ⟨bs, a, b, rfl, h1, h2, h⟩
theorem xs_distance {dp : Nat} (ds : List D) (P : AV → Prop) (h : spDist dp ds P) : XS Vol.nil (ts_distance K (Lift (spForm dp)) (Lift spDistOf)) (ds.map Slot.dat ++ List.replicate 0 .no) { nx := fun _ => P (.dat .non), rt := P } := by
  obtain ⟨bs, a, b, rfl, hd, hl, hp⟩ := h
  show XS Vol.nil _ [.dat (Bx.doc bs), .dat (.int a), .dat (.int b)] _
  unfold ts_distance
  repeat' walk_at "xw"
  exact distof_i ⟨trivial, trivial, hp⟩
theorem xs_lfar (ds : List D) (P : AV → Prop) (h : spDistOf ds P) : XS Vol.nil (ts__law_far K (Lift spLGap)) (ds.map Slot.dat ++ List.replicate 0 .no) { nx := fun _ => P (.dat .non), rt := P } := by
  obtain ⟨f, a, b, rfl, hp⟩ := h
  have big : (100001 : Nat) ≤ sizeLine := by decide
  show XS Vol.nil _ [.dat f.d, .dat (.int a), .dat (.int b)] _
  unfold ts__law_far
  cases f with
  | thr h l =>
    unfold Fm.d
    repeat' walk_at "xw"
    refine lgap_l (xs := [h, l, a, b]) (by simp) ⟨trivial, trivial, hp⟩
  | sol fh fl e lh ll =>
    unfold Fm.d
    repeat' walk_at "xw"
    refine lgap_l (xs := [fh, fl, a]) (by simp) ?_
    repeat' walk_at "xw"
    refine lgap_l (xs := [lh, ll, b]) (by simp) ?_
    repeat' walk_at "xw"
    exact hp
/-- the two blocks around a fragment -/
theorem around (F : List Pt) (a b : Int) : ∃ mid x, edgesOf ([.m 0, .s 1, .m a] ++ F ++ [.m b, .s 1, .m 0]) = (0, 1) :: (mid ++ [(x, x + 1)]) ∧ x - 1 = distOf (formOf F) a b := by
  rw [edges_go, G4.go_app, G4.go_app]
  have e1 : G4.zero.go [.m 0, .s 1, .m a] = ⟨[(0, 1)], 1, max 0 a, min 0 a⟩ := by
    show (G4.mk [(0 + max 0 0 + min 0 0, 0 + max 0 0 + min 0 0 + 1)] (0 + max 0 0 + min 0 0 + 1) (max 0 a) (min 0 a)) = _
    simp
  rw [e1, G4.go_edg F]
  have k := go_form F 1 (max 0 a) (min 0 a) (by omega) (by omega)
  have ok := formOf_ok F
  generalize (G4.mk [] 1 (max 0 a) (min 0 a)).go F = g at k ⊢
  generalize formOf F = f at k ok ⊢
  refine ⟨g.edg, g.h + max g.hi b + min g.lo b, rfl, ?_⟩
  cases f with
  | thr p q =>
    obtain ⟨o1, o2⟩ := ok
    have k : (g.h, g.hi, g.lo) = (1, max (max 0 a) p, min (min 0 a) q) := k
    simp only [Prod.mk.injEq] at k
    obtain ⟨k1, k2, k3⟩ := k
    show _ = gapI [p, q, a, b]
    simp only [gapI, mx_cons, mn_cons, mx_nil, mn_nil]
    omega
  | sol f0 f1 e l0 l1 =>
    obtain ⟨o1, o2, o3, o4⟩ := ok
    have k : (g.h, g.hi, g.lo) = (1 + max (max 0 a) f0 + min (min 0 a) f1 + e, l0, l1) := k
    simp only [Prod.mk.injEq] at k
    obtain ⟨k1, k2, k3⟩ := k
    show _ = gapI [f0, f1, a] + e + gapI [l0, l1, b]
    simp only [gapI, mx_cons, mn_cons, mx_nil, mn_nil]
    omega
end
end MG
end
section
set_option linter.all false
set_option maxRecDepth 100000
set_option maxHeartbeats 4000000
/-! MS4: a list extended by a tuple. -/
namespace MR
open PySem L2 PySem.Spec PyProof.Rows PySem.Calls PySem.AutoSeq1
theorem ext_tup (l : Addr) (items : Array Value) (n : Nat) (b : Addr) (items2 : Array Value) (n2 : Nat) (dd : Option Addr) (sl : Array (Option Value))
    (hs0 : ¬(!items.isEmpty && Builtin.List.listTooLong (items.size + items2.size)) = true) (hs1 : items.size ≤ sizeLine) (hs2 : items.size + items2.size ≤ sizeLine + 1) :
    Meets (Builtin.«list.extend» ⟨[.ref l, .ref b], []⟩) (fun _ R s =>
      s.heap.get? l = some { cls := .type "list", dict := none, data := .seq items n, slots := #[] } ∧
      s.heap.get? b = some { cls := .type "tuple", dict := dd, data := .seq items2 n2, slots := sl } ∧
      R (.ok (.ret Value.none)) { s with heap := s.heap.update l (Obj.mapSeq fun x => x ++ items2), toks := s.toks }) :=
  .of_wp fun prog w A R s h => by
    obtain ⟨hp, g, d, tk, os⟩ := s
    obtain ⟨hl, hb, h⟩ := h
    have f1 := AutoSeq1.idx_int
    have f2 := AutoSeq1.sub_tuple_tuple
    have f3 := AutoSeq1.sub_list_list
    have f4 := AutoSeq1.sub_tuple_list
    have f5 := AutoSeq1.sub_list_tuple
    have hz' : (items ++ items2).size ≤ sizeLine + 1 := by
      rw [Array.size_append]; exact hs2
    wp_walk using (wpAny_updateSeq hl rfl (hz := hs1) (_hz' := hz')), wpAny_loadPart' hl, wpAny_loadPart' hb
    exact ⟨_, rfl, h⟩
section
variable {X : Cx}
def rExtT : V → List V → Hp → VK → Prop := fun x vs H Q => ∃ l b xs zs, x = .ref l ∧ vs = [.ref b] ∧ H l = some (.lst xs) ∧ H b = some (.tup zs) ∧ xs.length + zs.length ≤ sizeLine ∧ Q .non (upd H l (.lst (xs ++ zs)))
theorem mt_extT : MtM X "list.extend" rExtT := by
  intro pins s σ H x vs v us Q I rx rv h
  obtain ⟨l, b, xs, zs, rfl, rfl, hH, hB, hz, q⟩ := h
  cases rx
  obtain ⟨u, rfl, ru⟩ := rv.one
  cases ru
  obtain ⟨z, its, n, r, hl, e⟩ := I.lstM hH
  obtain ⟨its2, r2, ⟨o, e2, hc, n2, hd⟩, _⟩ := I.tuple (SqT.of hB)
  obtain ⟨oc, od, odt, osl⟩ := o
  simp only at hc hd
  subst hc hd
  have l1 := r.length
  have l2 := r2.length
  have hsz : its.toArray.size + its2.toArray.size ≤ sizeLine := by rw [List.size_toArray, List.size_toArray]; omega
  have hlong : ¬ (!its.toArray.isEmpty && Builtin.List.listTooLong (its.toArray.size + its2.toArray.size)) = true := by
    rw [notLongL hsz, Bool.and_false]
    exact Bool.false_ne_true
  refine call_meets F.slot_list_extend ⟨_, e, rfl⟩ F.entry_list_extend (F.args_list_extend_2 _ _)
    (ext_tup l its.toArray n b its2.toArray n2 od osl hlong (by rw [List.size_toArray]; omega) (by omega)) ⟨e, e2, ?_⟩
  refine ⟨.non, _, I.lset (its' := its ++ its2) hH e (by simp) (r.append r2) ?_, rfl, q⟩
  rw [List.length_append]
  omega
end
end MR
namespace MG
open PySem L2 MR
section
variable {V : Vol} {δ : List Slot} {K : PySem.W.Frag}
theorem xs_extT {j : Nat} {ds : List D} {te : TE} {E : AEnds} (e : δ[j]? = some (.own ds)) (h : XE V te δ fun a => ∃ es, a.d = .tup es ∧ ds.length + es.length ≤ sizeLine ∧ E.nx (δ.set j (.own (ds ++ es)))) :
    XS V (tDrop (tBM K "list" rExtT (tVar j) (tCons te tNil))) δ E := fun O0 H0 O σ H D m i => by
  obtain ⟨p, vs, ev, o, h0, hp, r⟩ := m.slot j _ e
  refine ⟨.ref p, ev, .inl ⟨rfl, vs, SqL.of hp⟩, h O0 H0 O σ H m _ fun a v H1 g1 r1 ⟨es, ea, l, n⟩ => ?_⟩
  have m1 := m.mono g1
  have hp1 : H1 p = some (.lst vs) := g1.1 p _ (m.notT h0) hp
  obtain ⟨b, us, eu, hb, ru⟩ := m.seqT r1 ea
  subst eu
  refine ⟨p, b, vs, us, rfl, rfl, hp1, hb, by rw [r.len, ru.len]; exact l, ?_⟩
  exact i.1 _ O σ _ ((m.str g1).trans (m1.mutR e ev)) (m1.mut e ev ((m.rpl g1 r).append ru)) n
end
end MG
end
section
set_option linter.all false
set_option maxRecDepth 100000
set_option maxHeartbeats 4000000
/-! ML9: groups, dissolved. -/
open PySem L2 MR MG
local macro_rules | `(tactic| walk_at "size") => `(tactic| first | (with_reducible assumption) | (with_unfolding_all exact Nat.le_of_ble_eq_true rfl) | (simp [dInts]; omega) | omega)
local macro_rules | `(tactic| walk_at "norm") => `(tactic| (try dsimp only [List.set_cons_succ, List.set_cons_zero, d_dat, d_new, d_brw, ofV_int, ofV_bl, ofV_str, ofV_non, List.map_cons, List.map_nil, List.cons_append, List.nil_append]))
local macro_rules | `(tactic| walk_at "xl") => `(tactic| first
  | ((with_reducible refine' And.intro ?okk ?_); (case okk => exact True.intro))
  | ((with_reducible refine' And.intro (?cmm : CMul _ _) ?_); (case cmm => first | exact .inl ⟨by decide, by decide⟩ | exact .inr ⟨by decide, by decide⟩ | exact .inl ⟨by omega, by omega⟩ | exact .inr ⟨by omega, by omega⟩))
  | ((with_reducible refine' And.intro (?pss : (0 : Int) < _) ?_); (case pss => first | decide | omega))
  | ((with_reducible refine' And.intro (?nrr : ∀ w, _ ≠ D.raw w) ?_); (case nrr => (intro w e; cases e)))
  | ((with_reducible refine' And.intro (?eqq : (_ : D) = _) ?_); (case eqq => exact rfl))
  | ((with_reducible refine' Exists.intro _ (And.intro (?eqq : (_ : D) = _) ?_)); (case eqq => exact rfl))
  | ((with_reducible refine' Exists.intro _ (And.intro (?eqq : (_ : AV) = _) ?_)); (case eqq => exact rfl))
  | ((with_reducible refine' Exists.intro _ (And.intro (?eqq : (_ : List D) = _) ?_)); (case eqq => exact rfl))
  | ((with_reducible refine' turnE ?eqq); (case eqq => exact rfl))
  | ((with_reducible refine' And.intro (?szz : _ ≤ sizeLine) ?_); (case szz => walk_at "size"))
  | ((with_reducible refine' And.intro (?szz : _ < sizeLine) ?_); (case szz => walk_at "size")))
local macro_rules | `(tactic| walk_at "xk") => `(tactic| first
  | ((with_reducible refine' argK ?okk ?_); (case okk => repeat (first | exact allOk_nil | refine allOk_cons True.intro ?_)))
  | (with_reducible refine stob_t ?_) | ((with_reducible refine' stob_f ?okk ?_); (case okk => exact True.intro))
  | ((refine' likek ?eqq ?lkk ?_); (case eqq => exact rfl); (case lkk => walk_at "lk"))
  | refine seqa_t ?_ | refine seqa_l ?_ | refine seqa_n ?_ | refine seqa_b ?_
  | refine starT ?_ | refine starL ?_ | refine bla ?_ | refine cutl ?_ | refine cutt ?_
  | ((refine' catk ?szz ?_); (case szz => walk_at "size")) | ((refine' catt_doc ?szz ?_); (case szz => walk_at "size")) | ((refine' catt ?szz ?_); (case szz => walk_at "size")) | ((refine' catt_docT ?szz ?_); (case szz => walk_at "size"))
  | (refine ixk_last ?_) | (refine ixk_0 ?_) | (refine ixk_last2 ?_) | ((refine' ixk_t ?eqq ?_); (case eqq => exact rfl)) | ((refine' ixk_l ?eqq ?_); (case eqq => exact rfl))
  | refine eqk_int ?_ | refine eqk_bl ?_ | ((refine eqk_str ?s1 ?s2 ?_); (case s1 => with_unfolding_all rfl); (case s2 => with_unfolding_all rfl)))
local macro_rules | `(tactic| walk_at "lk") => `(tactic| first | exact lk_int | exact lk_fm _ | (exact rfl) | (with_reducible assumption) | (apply lk_rows <;> (first | (with_reducible assumption) | omega | (intro r hr; apply Nat.le_trans (by first | (exact (by assumption : ∀ r ∈ _, _) r hr)) (by omega)))) | (apply lk_lI; walk_at "size") | (apply lk_tI; walk_at "size") | (apply lk_edges; walk_at "size"))
local macro_rules | `(tactic| walk_at "sd") => `(tactic| first | (with_reducible assumption) | omega)
local macro_rules | `(tactic| walk_at "sp") => `(tactic| first
  | ((refine' draw_i ?b1 ?b2 ?_); (case b1 => walk_at "sd"); (case b2 => walk_at "sd"); intro r hr0 hr1)
  | ((refine' doc_i ?b1 ?b2 ?_); (case b1 => walk_at "sd"); (case b2 => walk_at "sd"); intro bs hbs)
  | ((refine' lparts_i ?b1 ?b2 ?_); (case b1 => walk_at "sd"); (case b2 => walk_at "sd"))
  | ((refine' runs_i ?b1 ?b2 ?_); (case b1 => walk_at "sd"); (case b2 => walk_at "sd"))
  | ((refine' gaps_i ?b1 ?b2 ?_); (case b1 => walk_at "sd"); (case b2 => walk_at "sd"))
  | ((refine' edges_i ?b1 ?b2 ?_); (case b1 => walk_at "sd"); (case b2 => walk_at "sd"))
  | ((refine' total_i ?b1 ?b2 ?_); (case b1 => walk_at "sd"); (case b2 => walk_at "sd"))
  | ((refine' lruns_i ?b1 ?_); (case b1 => walk_at "sd"))
  | ((refine' ledges_i ?b1 ?_); (case b1 => walk_at "sd"))
  | ((refine' lgap_t ?b1 ?_); (case b1 => walk_at "sd"))
  | ((refine' lgap_l ?b1 ?_); (case b1 => walk_at "sd"))
  | ((refine' gap_t ?b1 ?_); (case b1 => walk_at "sd"))
  | ((refine' form_i ?b1 ?b2 ?_); (case b1 => walk_at "sd"); (case b2 => walk_at "sd"))
  | ((refine' form_of_i ?b1 ?_); (case b1 => walk_at "sd"))
  | (refine distof_i ?_) | ((refine' dist_i ?b1 ?b2 ?_); (case b1 => walk_at "sd"); (case b2 => walk_at "sd"))
  | ((refine' partsA_i ?b1 ?b2 ?_); (case b1 => walk_at "sd"); (case b2 => walk_at "sd"))
  | fail "sp")
local macro_rules | `(tactic| walk_at "xg") => `(tactic| first
  | with_reducible refine xg_name ?_ | ((with_reducible refine' xg_tup ?eqq ?lnn ?_); (case eqq => exact rfl); (case lnn => exact rfl))
  | with_reducible refine xgs_cons ?_ | with_reducible refine xgs_nil ?_)
local macro_rules | `(tactic| walk_at "xe") => `(tactic| first
  | ((with_reducible refine' xe_vard ?eqq ?_); (case eqq => exact rfl)) | ((with_reducible refine' xe_varo ?eqq ?_); (case eqq => exact rfl))
  | with_reducible refine xe_c ?_ | with_reducible refine xe_I0 ?_ | with_reducible refine xe_I ?_ | with_reducible refine xe_U ?_
  | with_reducible refine xe_ixK ?_ | with_reducible refine xe_eqK ?_ | with_reducible refine xe_neK ?_ | with_reducible refine xe_callK ?_ | with_reducible refine xe_likeK ?_ | ((with_reducible refine' xe_drawK ?ttt ?eqq ?_); (case ttt => with_reducible assumption); (case eqq => exact rfl))
  | with_reducible refine xe_partsK ?_ | with_reducible refine xe_tupK ?_ | with_reducible refine xe_lstD ?_ | with_reducible refine xe_catLK ?_ | with_reducible refine xe_catTK ?_
  | with_reducible refine xa_nil ?_ | with_reducible refine xa_cons ?_ | with_reducible refine xd_nil ?_ | with_reducible refine xd_cons ?_
  | with_reducible refine xe_lenK ?_ | with_reducible refine xe_listK ?_ | with_reducible refine xe_tupleK ?_ | with_reducible refine xe_sumK ?_
  | with_reducible refine xe_intB ?_ | with_reducible refine xe_slLK ?_ | with_reducible refine xe_slTK ?_ | with_reducible refine xo_none ?_ | with_reducible refine xo_some ?_
  | with_reducible refine xt_test ?_ | with_reducible refine xt_B ?_ | with_reducible refine xt_not ?_ | with_reducible refine xt_and ?_ | with_reducible refine xt_or ?_ | with_reducible refine xt_yes ?_
  | with_reducible refine xe_if ?_ | with_reducible refine xe_andV ?_ | with_reducible refine xe_orV ?_ | with_reducible refine xe_notV ?_ | with_reducible refine xe_chI ?_ | with_reducible refine xd_starK ?_ | with_reducible refine xe_notBK ?_ | with_reducible refine xe_isBK ?_ | with_reducible refine xe_notN ?_ | with_reducible refine xe_isN ?_)
local macro_rules | `(tactic| walk_at "xs") => `(tactic| first
  | with_reducible refine xs_seq ?_ | with_reducible refine xs_if ?_ | ((with_reducible refine' xs_retO ?eqq ?_); (case eqq => exact rfl)) | with_reducible refine xs_ret ?_
  | with_reducible refine xs_set ?_ | with_reducible refine xs_setO ?_ | with_reducible refine xs_next ?_ | with_reducible refine xs_cont ?_ | with_reducible refine xs_break ?_
  | ((with_reducible refine' xs_appK ?eqq ?_); (case eqq => exact rfl)) | ((with_reducible refine' xs_ext ?eqq ?_); (case eqq => exact rfl)) | ((with_reducible refine' xs_extT ?eqq ?_); (case eqq => exact rfl))
  | ((with_reducible refine' xs_parJ ?n1 ?n2 ?_); (case n1 => decide); (case n2 => exact Nat.lt_of_sub_pos (by exact Nat.le_of_ble_eq_true rfl)))
  | ((with_reducible refine' xs_parJ3 ?n1 ?n2 ?n3 ?n4 ?n5 ?_); (case n1 => decide); (case n2 => decide); (case n3 => decide); (case n4 => exact Nat.lt_of_sub_pos (by exact Nat.le_of_ble_eq_true rfl)); (case n5 => exact Nat.lt_of_sub_pos (by exact Nat.le_of_ble_eq_true rfl)))
  | ((with_reducible refine' xs_setLast ?eqq ?_); (case eqq => exact rfl))
  | with_reducible refine xs_asg ?_)
local macro_rules | `(tactic| walk_at "xi") => `(tactic| first
  | ((with_reducible refine' ite_t ?eqq ?_); (case eqq => decide +kernel)) | ((with_reducible refine' ite_f ?eqq ?_); (case eqq => decide +kernel))
  | ((with_reducible refine' ite_t ?eqq ?_); (case eqq => exact rfl)) | ((with_reducible refine' ite_f ?eqq ?_); (case eqq => exact rfl))
  | ((with_reducible refine' ite_t ?eqq ?_); (case eqq => exact decide_eq_true (by first | (with_reducible assumption) | exact rfl))) | ((with_reducible refine' ite_f ?eqq ?_); (case eqq => exact decide_eq_false (by assumption))) | ((with_reducible refine' ite_nd_t ?eqq ?_); (case eqq => first | (with_reducible assumption) | exact rfl)) | ((with_reducible refine' ite_nd_f ?eqq ?_); (case eqq => with_reducible assumption)) | fail "xi")
local macro_rules | `(tactic| walk_at "xw") => `(tactic| (first | walk_at "xs" | walk_at "xe" | walk_at "xg" | walk_at "xl" | walk_at "xk" | walk_at "xi" | walk_at "sp" | fail "xw"); walk_at "norm")

namespace MG
mutual
def Bx.grps : Bx → List Bx
  | .blk _ _ _ => []
  | .grp t b p bs => .grp t b p bs :: Bx.grpss bs
def Bx.grpss : List Bx → List Bx
  | [] => []
  | b :: bs => b.grps ++ Bx.grpss bs
end
mutual
def Bx.wo : Bx → Int → List Bx × Int
  | .blk t b s, i => ([.blk t b s], i)
  | .grp t b p bs, i => if i < 0 then ([.grp t b p bs], i) else if i = 0 then (bs, -1) else ([.grp t b p (Bx.wos bs (i - 1)).1], (Bx.wos bs (i - 1)).2)
def Bx.wos : List Bx → Int → List Bx × Int
  | [], i => ([], i)
  | b :: bs, i => ((b.wo i).1 ++ (Bx.wos bs (b.wo i).2).1, (Bx.wos bs (b.wo i).2).2)
end
mutual
def Bx.di : Bx → Int → List Bx
  | .blk t b s, _ => [.blk t b s]
  | .grp t b p bs, i => if i = 0 then bs else if 0 < i ∧ i < ((Bx.grpss bs).length + 1 : Nat) then [.grp t b p (Bx.dis bs (i - 1))] else [.grp t b p bs]
def Bx.dis : List Bx → Int → List Bx
  | [], _ => []
  | b :: bs, i => b.di i ++ Bx.dis bs (i - (b.grps.length : Nat))
end
mutual
theorem wo_neg : ∀ (b : Bx) (i : Int), i < 0 → b.wo i = ([b], i)
  | .blk t b s, i, h => by unfold Bx.wo; rfl
  | .grp t b p bs, i, h => by unfold Bx.wo; rw [if_pos h]
theorem wos_neg : ∀ (bs : List Bx) (i : Int), i < 0 → Bx.wos bs i = (bs, i)
  | [], i, h => by unfold Bx.wos; rfl
  | b :: bs, i, h => by unfold Bx.wos; rw [wo_neg b i h, wos_neg bs i h]; rfl
end
mutual
theorem di_out : ∀ (b : Bx) (i : Int), (i < 0 ∨ (b.grps.length : Int) ≤ i) → b.di i = [b]
  | .blk t b s, i, h => by unfold Bx.di; rfl
  | .grp t b p bs, i, h => by
    unfold Bx.grps at h
    rw [List.length_cons] at h
    unfold Bx.di
    rw [if_neg (by omega), if_neg (by omega)]
theorem dis_out : ∀ (bs : List Bx) (i : Int), (i < 0 ∨ ((Bx.grpss bs).length : Int) ≤ i) → Bx.dis bs i = bs
  | [], i, h => by unfold Bx.dis; rfl
  | b :: bs, i, h => by
    unfold Bx.grpss at h
    rw [List.length_append] at h
    unfold Bx.dis
    rw [di_out b i (by omega), dis_out bs _ (by omega)]; rfl
end
mutual
theorem wo_di : ∀ (b : Bx) (i : Int), 0 ≤ i → (b.wo i).1 = b.di i ∧ (b.wo i).2 = if i < (b.grps.length : Int) then -1 else i - (b.grps.length : Int)
  | .blk t b s, i, h => by
    unfold Bx.wo Bx.di Bx.grps
    refine ⟨rfl, ?_⟩
    rw [if_neg (by simp; omega)]; simp
  | .grp t b p bs, i, h => by
    unfold Bx.wo Bx.di Bx.grps
    rw [if_neg (by omega)]
    by_cases h0 : i = 0
    · subst h0
      rw [if_pos rfl, if_pos rfl]
      refine ⟨rfl, ?_⟩
      rw [if_pos (by rw [List.length_cons]; omega)]
    · rw [if_neg h0, if_neg h0]
      obtain ⟨k1, k2⟩ := wos_dis bs (i - 1) (by omega)
      rw [List.length_cons]
      by_cases h1 : i < ((Bx.grpss bs).length + 1 : Nat)
      · rw [if_pos ⟨by omega, h1⟩, if_pos h1, k1, k2, if_pos (by omega)]
        exact ⟨rfl, rfl⟩
      · rw [if_neg (fun z => h1 z.2), if_neg h1, k1, k2, if_neg (by omega), dis_out bs _ (by omega)]
        exact ⟨rfl, by show i - 1 - _ = _; omega⟩
theorem wos_dis : ∀ (bs : List Bx) (i : Int), 0 ≤ i → (Bx.wos bs i).1 = Bx.dis bs i ∧ (Bx.wos bs i).2 = if i < ((Bx.grpss bs).length : Int) then -1 else i - ((Bx.grpss bs).length : Int)
  | [], i, h => by
    unfold Bx.wos Bx.dis Bx.grpss
    refine ⟨rfl, ?_⟩
    rw [if_neg (by simp; omega)]; simp
  | b :: bs, i, h => by
    obtain ⟨k1, k2⟩ := wo_di b i h
    unfold Bx.wos Bx.dis Bx.grpss
    rw [k1, k2, List.length_append]
    by_cases h1 : i < (b.grps.length : Int)
    · rw [if_pos h1, wos_neg bs (-1) (by decide), dis_out bs _ (.inl (by omega)), if_pos (by omega)]
      exact ⟨rfl, rfl⟩
    · rw [if_neg h1]
      obtain ⟨q1, q2⟩ := wos_dis bs (i - (b.grps.length : Int)) (by omega)
      rw [q1, q2]
      refine ⟨rfl, ?_⟩
      by_cases h2 : i < ((b.grps.length + (Bx.grpss bs).length : Nat) : Int)
      · rw [if_pos h2, if_pos (by omega)]
      · rw [if_neg h2, if_neg (by omega)]; omega
end
/-! how many boxes -/
mutual
def Bx.num : Bx → Nat
  | .blk _ _ _ => 1
  | .grp _ _ _ bs => Bx.nums bs + 1
def Bx.nums : List Bx → Nat
  | [] => 0
  | b :: bs => b.num + Bx.nums bs
end
theorem num_pos : ∀ b : Bx, 1 ≤ b.num
  | .blk _ _ _ => by unfold Bx.num; exact Nat.le_refl _
  | .grp _ _ _ bs => by unfold Bx.num; omega
theorem nums_len : ∀ bs, bs.length ≤ Bx.nums bs
  | [] => Nat.zero_le _
  | b :: bs => by
    have := nums_len bs
    have := num_pos b
    unfold Bx.nums
    rw [List.length_cons]; omega
theorem nums_app : ∀ a b, Bx.nums (a ++ b) = Bx.nums a + Bx.nums b
  | [], b => by show Bx.nums b = Bx.nums [] + _; unfold Bx.nums; omega
  | x :: a, b => by
    show Bx.nums (x :: (a ++ b)) = _
    rw [Bx.nums, Bx.nums, nums_app a b]; omega
mutual
theorem grps_num : ∀ b : Bx, b.grps.length ≤ b.num
  | .blk _ _ _ => by unfold Bx.grps Bx.num; simp
  | .grp _ _ _ bs => by
    have := grpss_num bs
    unfold Bx.grps Bx.num
    rw [List.length_cons]; omega
theorem grpss_num : ∀ bs : List Bx, (Bx.grpss bs).length ≤ Bx.nums bs
  | [] => by unfold Bx.grpss; exact Nat.zero_le _
  | b :: bs => by
    have := grps_num b
    have := grpss_num bs
    unfold Bx.grpss Bx.nums
    rw [List.length_append]; omega
end
mutual
theorem wo_num : ∀ (b : Bx) (i : Int), Bx.nums (b.wo i).1 ≤ b.num ∧ Bx.deps (b.wo i).1 ≤ b.dep ∧ (Bx.ptss (b.wo i).1).length ≤ b.pts.length
  | .blk t b s, i => by unfold Bx.wo; simp [Bx.nums, Bx.deps, Bx.ptss]
  | .grp t b p bs, i => by
    unfold Bx.wo
    by_cases h : i < 0
    · rw [if_pos h]; simp [Bx.nums, Bx.deps, Bx.ptss]
    · rw [if_neg h]
      by_cases h0 : i = 0
      · rw [if_pos h0]
        simp only [Bx.num, Bx.dep, Bx.pts]
        refine ⟨by omega, by omega, ?_⟩
        simp; omega
      · rw [if_neg h0]
        obtain ⟨k1, k2, k3⟩ := wos_num bs (i - 1)
        simp only [Bx.nums, Bx.deps, Bx.ptss, Bx.num, Bx.dep, Bx.pts]
        refine ⟨by omega, by omega, ?_⟩
        simp; omega
theorem wos_num : ∀ (bs : List Bx) (i : Int), Bx.nums (Bx.wos bs i).1 ≤ Bx.nums bs ∧ Bx.deps (Bx.wos bs i).1 ≤ Bx.deps bs ∧ (Bx.ptss (Bx.wos bs i).1).length ≤ (Bx.ptss bs).length
  | [], i => by unfold Bx.wos; exact ⟨Nat.le_refl _, Nat.le_refl _, Nat.le_refl _⟩
  | b :: bs, i => by
    obtain ⟨a1, a2, a3⟩ := wo_num b i
    obtain ⟨b1, b2, b3⟩ := wos_num bs (b.wo i).2
    unfold Bx.wos
    show Bx.nums ((b.wo i).1 ++ _) ≤ _ ∧ Bx.deps ((b.wo i).1 ++ _) ≤ _ ∧ (Bx.ptss ((b.wo i).1 ++ _)).length ≤ _
    rw [nums_app, deps_app, ptss_app, List.length_append]
    simp only [Bx.nums, Bx.deps, Bx.ptss, List.length_append]
    omega
end
def nMax : Nat → Nat
  | 0 => 1
  | n + 1 => 1 + 3 * nMax n
mutual
theorem fine_num {w : Int} : ∀ (d : Nat) (b : Bx), Bx.fine w d b → b.num ≤ nMax d
  | 0, .blk t b s, _ => by unfold Bx.num; exact Nat.le_refl _
  | d + 1, .blk t b s, _ => by unfold Bx.num nMax; omega
  | 0, .grp t b p bs, h => by unfold Bx.fine at h; exact h.elim
  | d + 1, .grp t b p bs, h => by
    unfold Bx.fine at h
    obtain ⟨_, _, _, _, _, _, hl, hf⟩ := h
    have k := fines_num d bs hf
    have : bs.length * nMax d ≤ 3 * nMax d := Nat.mul_le_mul_right _ hl
    unfold Bx.num nMax
    omega
theorem fines_num {w : Int} : ∀ (d : Nat) (bs : List Bx), Bx.fines w d bs → Bx.nums bs ≤ bs.length * nMax d
  | d, [], _ => Nat.zero_le _
  | d, b :: bs, h => by
    unfold Bx.fines at h
    have a := fine_num d b h.1
    have c := fines_num d bs h.2
    unfold Bx.nums
    rw [List.length_cons, Nat.add_mul]; omega
end
theorem drawn_num {w : Int} {bs : List Bx} (h : Bx.drawn w 3 bs) : Bx.nums bs ≤ 120 := by
  have a := fines_num 3 bs h.2
  have : bs.length * nMax 3 ≤ 3 * nMax 3 := Nat.mul_le_mul_right _ h.1
  have e : nMax 3 = 40 := rfl
  rw [e] at this a
  omega
end MG
end
section
set_option linter.all false
set_option maxRecDepth 100000
set_option maxHeartbeats 4000000
/-! ML10: groups, without, invisible_here; the law's count and dissolved. -/
open PySem L2 MR MG
local macro_rules | `(tactic| walk_at "size") => `(tactic| first | (with_reducible assumption) | (with_unfolding_all exact Nat.le_of_ble_eq_true rfl) | (simp [dInts]; omega) | omega)
local macro_rules | `(tactic| walk_at "norm") => `(tactic| (try dsimp only [List.set_cons_succ, List.set_cons_zero, d_dat, d_new, d_brw, ofV_int, ofV_bl, ofV_str, ofV_non, List.map_cons, List.map_nil, List.cons_append, List.nil_append]))
local macro_rules | `(tactic| walk_at "xl") => `(tactic| first
  | ((with_reducible refine' And.intro ?okk ?_); (case okk => exact True.intro))
  | ((with_reducible refine' And.intro (?cmm : CMul _ _) ?_); (case cmm => first | exact .inl ⟨by decide, by decide⟩ | exact .inr ⟨by decide, by decide⟩ | exact .inl ⟨by omega, by omega⟩ | exact .inr ⟨by omega, by omega⟩))
  | ((with_reducible refine' And.intro (?pss : (0 : Int) < _) ?_); (case pss => first | decide | omega))
  | ((with_reducible refine' And.intro (?nrr : ∀ w, _ ≠ D.raw w) ?_); (case nrr => (intro w e; cases e)))
  | ((with_reducible refine' And.intro (?eqq : (_ : D) = _) ?_); (case eqq => exact rfl))
  | ((with_reducible refine' Exists.intro _ (And.intro (?eqq : (_ : D) = _) ?_)); (case eqq => exact rfl))
  | ((with_reducible refine' Exists.intro _ (And.intro (?eqq : (_ : AV) = _) ?_)); (case eqq => exact rfl))
  | ((with_reducible refine' Exists.intro _ (And.intro (?eqq : (_ : List D) = _) ?_)); (case eqq => exact rfl))
  | ((with_reducible refine' turnE ?eqq); (case eqq => exact rfl))
  | ((with_reducible refine' And.intro (?szz : _ ≤ sizeLine) ?_); (case szz => walk_at "size"))
  | ((with_reducible refine' And.intro (?szz : _ < sizeLine) ?_); (case szz => walk_at "size")))
local macro_rules | `(tactic| walk_at "xk") => `(tactic| first
  | ((with_reducible refine' argK ?okk ?_); (case okk => repeat (first | exact allOk_nil | refine allOk_cons True.intro ?_)))
  | (with_reducible refine stob_t ?_) | ((with_reducible refine' stob_f ?okk ?_); (case okk => exact True.intro))
  | ((refine' likek ?eqq ?lkk ?_); (case eqq => exact rfl); (case lkk => walk_at "lk"))
  | refine seqa_t ?_ | refine seqa_l ?_ | refine seqa_n ?_ | refine seqa_b ?_
  | refine starT ?_ | refine starL ?_ | refine bla ?_ | refine cutl ?_ | refine cutt ?_
  | ((refine' catk ?szz ?_); (case szz => walk_at "size")) | ((refine' catt_doc ?szz ?_); (case szz => walk_at "size")) | ((refine' catt ?szz ?_); (case szz => walk_at "size")) | ((refine' catt_docT ?szz ?_); (case szz => walk_at "size"))
  | (refine ixk_last ?_) | (refine ixk_0 ?_) | (refine ixk_last2 ?_) | ((refine' ixk_t ?eqq ?_); (case eqq => exact rfl)) | ((refine' ixk_l ?eqq ?_); (case eqq => exact rfl))
  | refine eqk_int ?_ | refine eqk_bl ?_ | ((refine eqk_str ?s1 ?s2 ?_); (case s1 => with_unfolding_all rfl); (case s2 => with_unfolding_all rfl)))
local macro_rules | `(tactic| walk_at "lk") => `(tactic| first | exact lk_int | exact lk_fm _ | (exact rfl) | (with_reducible assumption) | (apply lk_rows <;> (first | (with_reducible assumption) | omega | (intro r hr; apply Nat.le_trans (by first | (exact (by assumption : ∀ r ∈ _, _) r hr)) (by omega)))) | (apply lk_lI; walk_at "size") | (apply lk_tI; walk_at "size") | (apply lk_edges; walk_at "size"))
local macro_rules | `(tactic| walk_at "sd") => `(tactic| first | (with_reducible assumption) | omega)
local macro_rules | `(tactic| walk_at "sp") => `(tactic| first
  | ((refine' draw_i ?b1 ?b2 ?_); (case b1 => walk_at "sd"); (case b2 => walk_at "sd"); intro r hr0 hr1)
  | ((refine' doc_i ?b1 ?b2 ?_); (case b1 => walk_at "sd"); (case b2 => walk_at "sd"); intro bs hbs)
  | ((refine' lparts_i ?b1 ?b2 ?_); (case b1 => walk_at "sd"); (case b2 => walk_at "sd"))
  | ((refine' runs_i ?b1 ?b2 ?_); (case b1 => walk_at "sd"); (case b2 => walk_at "sd"))
  | ((refine' gaps_i ?b1 ?b2 ?_); (case b1 => walk_at "sd"); (case b2 => walk_at "sd"))
  | ((refine' edges_i ?b1 ?b2 ?_); (case b1 => walk_at "sd"); (case b2 => walk_at "sd"))
  | ((refine' total_i ?b1 ?b2 ?_); (case b1 => walk_at "sd"); (case b2 => walk_at "sd"))
  | ((refine' lruns_i ?b1 ?_); (case b1 => walk_at "sd"))
  | ((refine' ledges_i ?b1 ?_); (case b1 => walk_at "sd"))
  | ((refine' lgap_t ?b1 ?_); (case b1 => walk_at "sd"))
  | ((refine' lgap_l ?b1 ?_); (case b1 => walk_at "sd"))
  | ((refine' gap_t ?b1 ?_); (case b1 => walk_at "sd"))
  | ((refine' form_i ?b1 ?b2 ?_); (case b1 => walk_at "sd"); (case b2 => walk_at "sd"))
  | ((refine' form_of_i ?b1 ?_); (case b1 => walk_at "sd"))
  | (refine distof_i ?_) | ((refine' dist_i ?b1 ?b2 ?_); (case b1 => walk_at "sd"); (case b2 => walk_at "sd"))
  | ((refine' partsA_i ?b1 ?b2 ?_); (case b1 => walk_at "sd"); (case b2 => walk_at "sd"))
  | fail "sp")
local macro_rules | `(tactic| walk_at "xg") => `(tactic| first
  | with_reducible refine xg_name ?_ | ((with_reducible refine' xg_tup ?eqq ?lnn ?_); (case eqq => exact rfl); (case lnn => exact rfl))
  | with_reducible refine xgs_cons ?_ | with_reducible refine xgs_nil ?_)
local macro_rules | `(tactic| walk_at "xe") => `(tactic| first
  | ((with_reducible refine' xe_vard ?eqq ?_); (case eqq => exact rfl)) | ((with_reducible refine' xe_varo ?eqq ?_); (case eqq => exact rfl))
  | with_reducible refine xe_c ?_ | with_reducible refine xe_I0 ?_ | with_reducible refine xe_I ?_ | with_reducible refine xe_U ?_
  | with_reducible refine xe_ixK ?_ | with_reducible refine xe_eqK ?_ | with_reducible refine xe_neK ?_ | with_reducible refine xe_callK ?_ | with_reducible refine xe_likeK ?_ | ((with_reducible refine' xe_drawK ?ttt ?eqq ?_); (case ttt => with_reducible assumption); (case eqq => exact rfl))
  | with_reducible refine xe_partsK ?_ | with_reducible refine xe_tupK ?_ | with_reducible refine xe_lstD ?_ | with_reducible refine xe_catLK ?_ | with_reducible refine xe_catTK ?_
  | with_reducible refine xa_nil ?_ | with_reducible refine xa_cons ?_ | with_reducible refine xd_nil ?_ | with_reducible refine xd_cons ?_
  | with_reducible refine xe_lenK ?_ | with_reducible refine xe_listK ?_ | with_reducible refine xe_tupleK ?_ | with_reducible refine xe_sumK ?_
  | with_reducible refine xe_intB ?_ | with_reducible refine xe_slLK ?_ | with_reducible refine xe_slTK ?_ | with_reducible refine xo_none ?_ | with_reducible refine xo_some ?_
  | with_reducible refine xt_test ?_ | with_reducible refine xt_B ?_ | with_reducible refine xt_not ?_ | with_reducible refine xt_and ?_ | with_reducible refine xt_or ?_ | with_reducible refine xt_yes ?_
  | with_reducible refine xe_if ?_ | with_reducible refine xe_andV ?_ | with_reducible refine xe_orV ?_ | with_reducible refine xe_notV ?_ | with_reducible refine xe_chI ?_ | with_reducible refine xd_starK ?_ | with_reducible refine xe_notBK ?_ | with_reducible refine xe_isBK ?_ | with_reducible refine xe_notN ?_ | with_reducible refine xe_isN ?_)
local macro_rules | `(tactic| walk_at "xs") => `(tactic| first
  | with_reducible refine xs_seq ?_ | with_reducible refine xs_if ?_ | ((with_reducible refine' xs_retO ?eqq ?_); (case eqq => exact rfl)) | with_reducible refine xs_ret ?_
  | with_reducible refine xs_set ?_ | with_reducible refine xs_setO ?_ | with_reducible refine xs_next ?_ | with_reducible refine xs_cont ?_ | with_reducible refine xs_break ?_
  | ((with_reducible refine' xs_appK ?eqq ?_); (case eqq => exact rfl)) | ((with_reducible refine' xs_ext ?eqq ?_); (case eqq => exact rfl)) | ((with_reducible refine' xs_extT ?eqq ?_); (case eqq => exact rfl))
  | ((with_reducible refine' xs_parJ ?n1 ?n2 ?_); (case n1 => decide); (case n2 => exact Nat.lt_of_sub_pos (by exact Nat.le_of_ble_eq_true rfl)))
  | ((with_reducible refine' xs_parJ3 ?n1 ?n2 ?n3 ?n4 ?n5 ?_); (case n1 => decide); (case n2 => decide); (case n3 => decide); (case n4 => exact Nat.lt_of_sub_pos (by exact Nat.le_of_ble_eq_true rfl)); (case n5 => exact Nat.lt_of_sub_pos (by exact Nat.le_of_ble_eq_true rfl)))
  | ((with_reducible refine' xs_setLast ?eqq ?_); (case eqq => exact rfl))
  | with_reducible refine xs_asg ?_)
local macro_rules | `(tactic| walk_at "xi") => `(tactic| first
  | ((with_reducible refine' ite_t ?eqq ?_); (case eqq => decide +kernel)) | ((with_reducible refine' ite_f ?eqq ?_); (case eqq => decide +kernel))
  | ((with_reducible refine' ite_t ?eqq ?_); (case eqq => exact rfl)) | ((with_reducible refine' ite_f ?eqq ?_); (case eqq => exact rfl))
  | ((with_reducible refine' ite_t ?eqq ?_); (case eqq => exact decide_eq_true (by first | (with_reducible assumption) | exact rfl))) | ((with_reducible refine' ite_f ?eqq ?_); (case eqq => exact decide_eq_false (by assumption))) | ((with_reducible refine' ite_nd_t ?eqq ?_); (case eqq => first | (with_reducible assumption) | exact rfl)) | ((with_reducible refine' ite_nd_f ?eqq ?_); (case eqq => with_reducible assumption)) | fail "xi")
local macro_rules | `(tactic| walk_at "xw") => `(tactic| (first | walk_at "xs" | walk_at "xe" | walk_at "xg" | walk_at "xl" | walk_at "xk" | walk_at "xi" | walk_at "sp" | fail "xw"); walk_at "norm")

namespace MG
def ts_without (K : PySem.W.Frag) (cwithout : Sp) : TS :=
    (tSeq (tAsg (tLst tNil) (gOwn 2))
    (tSeq (tFor (iTup K (tVar 0)) (gName 3)
    (tIfS (tOr (tTest (tOp (rEqD K) (tOp (rIx K) (tVar 3) (tC (.int 0))) (tC (.str "block")))) (tTest (tOp (rI0 fun i j => .bl (decide (i < j))) (tVar 1) (tC (.int 0)))))
    (tDrop (tBM K "list" rAppend (tVar 2) (tCons (tVar 3) tNil)))
    (tIfS (tTest (tOp (rEqD K) (tVar 1) (tC (.int 0))))
    (tSeq (tDrop (tBM K "list" rExtT (tVar 2) (tCons (tOp (rIx K) (tVar 3) (tC (.int 4))) tNil)))
    (tAsg (tUn (rU fun i => .int (-i)) (tC (.int 1))) (gName 1)))
    (tSeq (tAsg (tCall cwithout [] E0 (tCons (tOp (rIx K) (tVar 3) (tC (.int 4))) (tCons (tOp (rI0 fun i j => .int (i - j)) (tVar 1) (tC (.int 1))) tNil))) (gTup K 2 (gCons (gName 4) (gCons (gName 1) gNil))))
    (tDrop (tBM K "list" rAppend (tVar 2) (tCons (tTup (StX.tStar K (tSl (rSlA K) (tVar 3) tNoPart (tPart (tC (.int 4)))) (tCons (tVar 4) tNil))) tNil)))))))
    (tRet (tTup (tCons (tCB (rTupQ K) (tCons (tVar 2) tNil)) (tCons (tVar 1) tNil))))))
section
variable {K : PySem.W.Frag}
/-- by depth: nothing at 0 -/
def recS (c : Nat → ASp) : Nat → Sp
  | 0 => fun _ _ _ _ => False
  | n + 1 => Lift (c n)
def cGroups (d : Nat) : ASp := fun ds P => ∃ bs, ds = [Bx.doc bs] ∧ Bx.deps bs ≤ d ∧ Bx.nums bs ≤ 99999 ∧ P (.new ((Bx.grpss bs).map Bx.d))
theorem groups_i {d : Nat} {bs : List Bx} {P : AV → Prop} (h1 : Bx.deps bs ≤ d) (h2 : Bx.nums bs ≤ 99999) (h : P (.new ((Bx.grpss bs).map Bx.d))) : cGroups d [Bx.doc bs] P := ⟨bs, rfl, h1, h2, h⟩
theorem grpss_fold : ∀ (bs : List Bx) (a : List Bx), bs.foldl (fun a b => a ++ b.grps) a = a ++ Bx.grpss bs
  | [], a => by rw [Bx.grpss]; simp
  | b :: bs, a => by rw [List.foldl_cons, grpss_fold bs, Bx.grpss, List.append_assoc]
theorem grpss_app : ∀ xs ys, Bx.grpss (xs ++ ys) = Bx.grpss xs ++ Bx.grpss ys
  | [], ys => by show Bx.grpss ys = Bx.grpss [] ++ _; rw [Bx.grpss]; rfl
  | b :: xs, ys => by
    show Bx.grpss (b :: (xs ++ ys)) = _
    rw [Bx.grpss, Bx.grpss, grpss_app xs ys, List.append_assoc]
theorem xs_groups {d : Nat} (ds : List D) (P : AV → Prop) (h : cGroups d ds P) : XS Vol.nil (ts_groups K (recS cGroups d)) (ds.map Slot.dat ++ List.replicate 2 .no) { nx := fun _ => P (.dat .non), rt := P } := by
  obtain ⟨bs, rfl, hd, hl, hp⟩ := h
  have big : (100001 : Nat) ≤ sizeLine := by decide
  show XS Vol.nil _ [.dat (Bx.doc bs), .no, .no] _
  unfold ts_groups
  repeat' walk_at "xw"
  refine xs_forFT bs Bx.d [] (fun (a : List Bx) b => a ++ b.grps) (fun a δ' => ∃ s2, δ' = [.dat (Bx.doc bs), .own (a.map Bx.d), s2]) ?_
  refine xe_vard rfl ⟨by rw [← ds_map]; rfl, ⟨.no, rfl⟩, ?_, ?_⟩
  · rintro pre b post e δ' ⟨s2, rfl⟩
    have hb : b ∈ bs := by rw [e]; simp
    have hdb := dep_mem hb
    have hpl : (pre.foldl (fun (a : List Bx) b => a ++ b.grps) []).length + b.grps.length ≤ 99999 := by
      rw [grpss_fold, List.nil_append]
      have := grpss_num bs
      rw [e, grpss_app, Bx.grpss] at this
      simp only [List.length_append] at this
      rw [← e] at this
      omega
    generalize pre.foldl _ _ = a at hpl ⊢
    cases b with
    | blk t bo z =>
      unfold Bx.d
      repeat' walk_at "xw"
      exact ⟨_, by simp [Bx.grps]; rfl⟩
    | grp t bo z inner =>
      unfold Bx.d
      unfold Bx.grps at hpl
      unfold Bx.dep at hdb
      rw [List.length_cons] at hpl
      obtain ⟨d', rfl⟩ : ∃ d', d = d' + 1 := ⟨d - 1, by omega⟩
      rw [show recS cGroups (d' + 1) = Lift (cGroups d') from rfl]
      have hin : Bx.nums inner ≤ 99999 := by
        have : Bx.num (.grp t bo z inner) ≤ Bx.nums bs := by rw [e, nums_app, Bx.nums]; omega
        unfold Bx.num at this; omega
      repeat' walk_at "xw"
      refine groups_i (by omega) hin ⟨trivial, ?_⟩
      repeat' walk_at "xw"
      exact ⟨_, by simp [Bx.grps, Bx.d]; rfl⟩
  · rintro δ' ⟨s2, rfl⟩
    repeat' walk_at "xw"
    rw [grpss_fold, List.nil_append]; exact hp
def cWithout (d : Nat) : ASp := fun ds P => ∃ bs i, ds = [Bx.doc bs, .int i] ∧ Bx.deps bs ≤ d ∧ Bx.nums bs ≤ 99999 ∧ P (.dat (.tup [Bx.doc (Bx.wos bs i).1, .int (Bx.wos bs i).2]))
theorem without_i {d : Nat} {bs : List Bx} {i : Int} {P : AV → Prop} (h1 : Bx.deps bs ≤ d) (h2 : Bx.nums bs ≤ 99999) (h : P (.dat (.tup [Bx.doc (Bx.wos bs i).1, .int (Bx.wos bs i).2]))) : cWithout d [Bx.doc bs, .int i] P := ⟨bs, i, rfl, h1, h2, h⟩
def woStep (a : List Bx × Int) (b : Bx) : List Bx × Int := (a.1 ++ (b.wo a.2).1, (b.wo a.2).2)
theorem wos_fold : ∀ (bs : List Bx) (a : List Bx) (i : Int), bs.foldl woStep (a, i) = (a ++ (Bx.wos bs i).1, (Bx.wos bs i).2)
  | [], a, i => by rw [Bx.wos]; simp
  | b :: bs, a, i => by
    rw [List.foldl_cons]
    show bs.foldl woStep (a ++ (b.wo i).1, (b.wo i).2) = _
    rw [wos_fold bs, Bx.wos, List.append_assoc]
theorem xs_without {d : Nat} (ds : List D) (P : AV → Prop) (h : cWithout d ds P) : XS Vol.nil (ts_without K (recS cWithout d)) (ds.map Slot.dat ++ List.replicate 3 .no) { nx := fun _ => P (.dat .non), rt := P } := by
  obtain ⟨bs, i, rfl, hd, hl, hp⟩ := h
  have big : (100001 : Nat) ≤ sizeLine := by decide
  show XS Vol.nil _ [.dat (Bx.doc bs), .dat (.int i), .no, .no, .no] _
  unfold ts_without
  repeat' walk_at "xw"
  refine xs_forFT bs Bx.d ([], i) woStep (fun a δ' => ∃ s3 s4, δ' = [.dat (Bx.doc bs), .dat (.int a.2), .own (a.1.map Bx.d), s3, s4]) ?_
  refine xe_vard rfl ⟨by rw [← ds_map]; rfl, ⟨.no, .no, rfl⟩, ?_, ?_⟩
  · rintro pre b post e δ' ⟨s3, s4, rfl⟩
    have hb : b ∈ bs := by rw [e]; simp
    have hdb := dep_mem hb
    have hn : Bx.nums bs = Bx.nums pre + b.num + Bx.nums post := by rw [e, nums_app, Bx.nums]; omega
    have hpl : (pre.foldl woStep ([], i)).1.length ≤ Bx.nums pre := by
      rw [wos_fold]
      have := (wos_num pre i).1
      have := nums_len (Bx.wos pre i).1
      simp; omega
    generalize pre.foldl woStep ([], i) = a at hpl ⊢
    obtain ⟨a, k⟩ := a
    have np := num_pos b
    unfold woStep
    change a.length ≤ _ at hpl
    cases b with
    | blk t bo z =>
      unfold Bx.d
      repeat' walk_at "xw"
      exact ⟨_, _, by simp [Bx.wo, Bx.d]; exact ⟨rfl, rfl⟩⟩
    | grp t bo z inner =>
      unfold Bx.d
      unfold Bx.dep at hdb
      unfold Bx.num at hn
      have hil := nums_len inner
      have hil2 := Bx.ds_len inner
      obtain ⟨d', rfl⟩ : ∃ d', d = d' + 1 := ⟨d - 1, by omega⟩
      rw [show recS cWithout (d' + 1) = Lift (cWithout d') from rfl]
      by_cases h1 : k < 0
      · repeat' walk_at "xw"
        exact ⟨_, _, by simp [Bx.wo, Bx.d, h1]; exact ⟨rfl, rfl⟩⟩
      · by_cases h2 : k = 0
        · subst h2
          repeat' walk_at "xw"
          exact ⟨_, _, by simp [Bx.wo, ds_map]; exact ⟨rfl, rfl⟩⟩
        · repeat' walk_at "xw"
          refine without_i (by omega) (by omega) ⟨trivial, ?_⟩
          have e4 : cutD [D.str "group", D.int t, D.int bo, D.int z, D.tup (Bx.ds inner)] none (some 4) = [D.str "group", D.int t, D.int bo, D.int z] := rfl
          repeat' walk_at "xw"
          rw [e4]
          repeat' walk_at "xw"
          exact ⟨_, _, by simp [Bx.wo, Bx.d, h1, h2, Bx.doc]; exact ⟨rfl, rfl⟩⟩
  · rintro δ' ⟨s3, s4, rfl⟩
    repeat' walk_at "xw"
    rw [wos_fold, List.nil_append, ← ds_map]; exact hp
def spDissolved (dp : Nat) : ASp := fun ds P => ∃ bs i, ds = [Bx.doc bs, .int i] ∧ Bx.deps bs ≤ dp ∧ Bx.nums bs ≤ 99999 ∧ P (.dat (Bx.doc (Bx.wos bs i).1))
theorem dissolved_i {d : Nat} {bs : List Bx} {i : Int} {P : AV → Prop} (h1 : Bx.deps bs ≤ d) (h2 : Bx.nums bs ≤ 99999) (h : P (.dat (Bx.doc (Bx.wos bs i).1))) : spDissolved d [Bx.doc bs, .int i] P := ⟨bs, i, rfl, h1, h2, h⟩
theorem xs_dissolved {dp : Nat} (ds : List D) (P : AV → Prop) (h : spDissolved dp ds P) : XS Vol.nil (ts_dissolved K (Lift (cWithout dp))) (ds.map Slot.dat ++ List.replicate 0 .no) { nx := fun _ => P (.dat .non), rt := P } := by
  obtain ⟨bs, i, rfl, hd, hl, hp⟩ := h
  show XS Vol.nil _ [.dat (Bx.doc bs), .dat (.int i)] _
  unfold ts_dissolved
  repeat' walk_at "xw"
  refine without_i hd hl ⟨trivial, ?_⟩
  repeat' walk_at "xw"
  exact hp
/-! the law's own -/
def cCount (d : Nat) : ASp := fun ds P => ∃ bs, ds = [Bx.doc bs] ∧ Bx.deps bs ≤ d ∧ P (.dat (.int (Bx.grpss bs).length))
theorem count_i {d : Nat} {bs : List Bx} {P : AV → Prop} (h1 : Bx.deps bs ≤ d) (h : P (.dat (.int (Bx.grpss bs).length))) : cCount d [Bx.doc bs] P := ⟨bs, rfl, h1, h⟩
theorem count_fold : ∀ (bs : List Bx) (a : Int), bs.foldl (fun a b => a + (b.grps.length : Int)) a = a + ((Bx.grpss bs).length : Int)
  | [], a => by rw [Bx.grpss]; simp
  | b :: bs, a => by rw [List.foldl_cons, count_fold bs, Bx.grpss, List.length_append]; omega
theorem xs_lcount {d : Nat} (ds : List D) (P : AV → Prop) (h : cCount d ds P) : XS Vol.nil (ts__law_count K (recS cCount d)) (ds.map Slot.dat ++ List.replicate 2 .no) { nx := fun _ => P (.dat .non), rt := P } := by
  obtain ⟨bs, rfl, hd, hp⟩ := h
  show XS Vol.nil _ [.dat (Bx.doc bs), .no, .no] _
  unfold ts__law_count
  repeat' walk_at "xw"
  refine xs_forFT bs Bx.d 0 (fun (a : Int) b => a + (b.grps.length : Int)) (fun a δ' => ∃ s2, δ' = [.dat (Bx.doc bs), .dat (.int a), s2]) ?_
  refine xe_vard rfl ⟨by rw [← ds_map]; rfl, ⟨.no, rfl⟩, ?_, ?_⟩
  · rintro pre b post e δ' ⟨s2, rfl⟩
    have hb : b ∈ bs := by rw [e]; simp
    have hdb := dep_mem hb
    generalize pre.foldl _ _ = a
    cases b with
    | blk t bo z =>
      unfold Bx.d
      repeat' walk_at "xw"
      exact ⟨_, by simp [Bx.grps]; rfl⟩
    | grp t bo z inner =>
      unfold Bx.d
      unfold Bx.dep at hdb
      obtain ⟨d', rfl⟩ : ∃ d', d = d' + 1 := ⟨d - 1, by omega⟩
      rw [show recS cCount (d' + 1) = Lift (cCount d') from rfl]
      repeat' walk_at "xw"
      refine count_i (by omega) ⟨trivial, ?_⟩
      repeat' walk_at "xw"
      have e : a + 1 + ((Bx.grpss inner).length : Int) = a + ((Bx.grps (.grp t bo z inner)).length : Int) := by
        unfold Bx.grps; rw [List.length_cons]; omega
      exact ⟨_, by rw [e]⟩
  · rintro δ' ⟨s2, rfl⟩
    repeat' walk_at "xw"
    rw [count_fold, Int.zero_add]; exact hp
theorem catt_docT {A : List Bx} {es : List D} {k : List D → Prop} (l : A.length + es.length ≤ sizeLine) (h : k (Bx.ds A ++ es)) : CatT (Bx.doc A) (.tup es) k := ⟨_, _, rfl, rfl, by rw [Bx.ds_len]; exact l, h⟩
end
end MG
end
section
set_option linter.all false
set_option maxRecDepth 100000
set_option maxHeartbeats 4000000
/-! ML11: invisible_here, law dissolved. -/
open PySem L2 MR MG
local macro_rules | `(tactic| walk_at "size") => `(tactic| first | (with_reducible assumption) | (with_unfolding_all exact Nat.le_of_ble_eq_true rfl) | (simp [dInts]; omega) | omega)
local macro_rules | `(tactic| walk_at "norm") => `(tactic| (try dsimp only [List.set_cons_succ, List.set_cons_zero, d_dat, d_new, d_brw, ofV_int, ofV_bl, ofV_str, ofV_non, List.map_cons, List.map_nil, List.cons_append, List.nil_append]))
local macro_rules | `(tactic| walk_at "xl") => `(tactic| first
  | ((with_reducible refine' And.intro ?okk ?_); (case okk => exact True.intro))
  | ((with_reducible refine' And.intro (?cmm : CMul _ _) ?_); (case cmm => first | exact .inl ⟨by decide, by decide⟩ | exact .inr ⟨by decide, by decide⟩ | exact .inl ⟨by omega, by omega⟩ | exact .inr ⟨by omega, by omega⟩))
  | ((with_reducible refine' And.intro (?pss : (0 : Int) < _) ?_); (case pss => first | decide | omega))
  | ((with_reducible refine' And.intro (?nrr : ∀ w, _ ≠ D.raw w) ?_); (case nrr => (intro w e; cases e)))
  | ((with_reducible refine' And.intro (?eqq : (_ : D) = _) ?_); (case eqq => exact rfl))
  | ((with_reducible refine' Exists.intro _ (And.intro (?eqq : (_ : D) = _) ?_)); (case eqq => exact rfl))
  | ((with_reducible refine' Exists.intro _ (And.intro (?eqq : (_ : AV) = _) ?_)); (case eqq => exact rfl))
  | ((with_reducible refine' Exists.intro _ (And.intro (?eqq : (_ : List D) = _) ?_)); (case eqq => exact rfl))
  | ((with_reducible refine' turnE ?eqq); (case eqq => exact rfl))
  | ((with_reducible refine' And.intro (?szz : _ ≤ sizeLine) ?_); (case szz => walk_at "size"))
  | ((with_reducible refine' And.intro (?szz : _ < sizeLine) ?_); (case szz => walk_at "size")))
local macro_rules | `(tactic| walk_at "xk") => `(tactic| first
  | ((with_reducible refine' argK ?okk ?_); (case okk => repeat (first | exact allOk_nil | refine allOk_cons True.intro ?_)))
  | (with_reducible refine stob_t ?_) | ((with_reducible refine' stob_f ?okk ?_); (case okk => exact True.intro))
  | ((refine' likek ?eqq ?lkk ?_); (case eqq => exact rfl); (case lkk => walk_at "lk"))
  | refine seqa_t ?_ | refine seqa_l ?_ | refine seqa_n ?_ | refine seqa_b ?_
  | refine starT ?_ | refine starL ?_ | refine bla ?_ | refine cutl ?_ | refine cutt ?_
  | ((refine' catk ?szz ?_); (case szz => walk_at "size")) | ((refine' catt_doc ?szz ?_); (case szz => walk_at "size")) | ((refine' catt ?szz ?_); (case szz => walk_at "size")) | ((refine' catt_docT ?szz ?_); (case szz => walk_at "size"))
  | (refine ixk_last ?_) | (refine ixk_0 ?_) | (refine ixk_last2 ?_) | ((refine' ixk_t ?eqq ?_); (case eqq => exact rfl)) | ((refine' ixk_l ?eqq ?_); (case eqq => exact rfl))
  | refine eqk_int ?_ | refine eqk_bl ?_ | ((refine eqk_str ?s1 ?s2 ?_); (case s1 => with_unfolding_all rfl); (case s2 => with_unfolding_all rfl)))
local macro_rules | `(tactic| walk_at "lk") => `(tactic| first | exact lk_int | exact lk_fm _ | (exact rfl) | (with_reducible assumption) | (apply lk_rows <;> (first | (with_reducible assumption) | omega | (intro r hr; apply Nat.le_trans (by first | (exact (by assumption : ∀ r ∈ _, _) r hr)) (by omega)))) | (apply lk_lI; walk_at "size") | (apply lk_tI; walk_at "size") | (apply lk_edges; walk_at "size"))
local macro_rules | `(tactic| walk_at "sd") => `(tactic| first | (with_reducible assumption) | omega)
local macro_rules | `(tactic| walk_at "sp") => `(tactic| first
  | ((refine' draw_i ?b1 ?b2 ?_); (case b1 => walk_at "sd"); (case b2 => walk_at "sd"); intro r hr0 hr1)
  | ((refine' doc_i ?b1 ?b2 ?_); (case b1 => walk_at "sd"); (case b2 => walk_at "sd"); intro bs hbs)
  | ((refine' lparts_i ?b1 ?b2 ?_); (case b1 => walk_at "sd"); (case b2 => walk_at "sd"))
  | ((refine' runs_i ?b1 ?b2 ?_); (case b1 => walk_at "sd"); (case b2 => walk_at "sd"))
  | ((refine' gaps_i ?b1 ?b2 ?_); (case b1 => walk_at "sd"); (case b2 => walk_at "sd"))
  | ((refine' edges_i ?b1 ?b2 ?_); (case b1 => walk_at "sd"); (case b2 => walk_at "sd"))
  | ((refine' total_i ?b1 ?b2 ?_); (case b1 => walk_at "sd"); (case b2 => walk_at "sd"))
  | ((refine' lruns_i ?b1 ?_); (case b1 => walk_at "sd"))
  | ((refine' ledges_i ?b1 ?_); (case b1 => walk_at "sd"))
  | ((refine' lgap_t ?b1 ?_); (case b1 => walk_at "sd"))
  | ((refine' lgap_l ?b1 ?_); (case b1 => walk_at "sd"))
  | ((refine' gap_t ?b1 ?_); (case b1 => walk_at "sd"))
  | ((refine' form_i ?b1 ?b2 ?_); (case b1 => walk_at "sd"); (case b2 => walk_at "sd"))
  | ((refine' form_of_i ?b1 ?_); (case b1 => walk_at "sd"))
  | (refine distof_i ?_) | ((refine' dist_i ?b1 ?b2 ?_); (case b1 => walk_at "sd"); (case b2 => walk_at "sd"))
  | ((refine' partsA_i ?b1 ?b2 ?_); (case b1 => walk_at "sd"); (case b2 => walk_at "sd"))
  | fail "sp")
local macro_rules | `(tactic| walk_at "xg") => `(tactic| first
  | with_reducible refine xg_name ?_ | ((with_reducible refine' xg_tup ?eqq ?lnn ?_); (case eqq => exact rfl); (case lnn => exact rfl))
  | with_reducible refine xgs_cons ?_ | with_reducible refine xgs_nil ?_)
local macro_rules | `(tactic| walk_at "xe") => `(tactic| first
  | ((with_reducible refine' xe_vard ?eqq ?_); (case eqq => exact rfl)) | ((with_reducible refine' xe_varo ?eqq ?_); (case eqq => exact rfl))
  | with_reducible refine xe_c ?_ | with_reducible refine xe_I0 ?_ | with_reducible refine xe_I ?_ | with_reducible refine xe_U ?_
  | with_reducible refine xe_ixK ?_ | with_reducible refine xe_eqK ?_ | with_reducible refine xe_neK ?_ | with_reducible refine xe_callK ?_ | with_reducible refine xe_likeK ?_ | ((with_reducible refine' xe_drawK ?ttt ?eqq ?_); (case ttt => with_reducible assumption); (case eqq => exact rfl))
  | with_reducible refine xe_partsK ?_ | with_reducible refine xe_tupK ?_ | with_reducible refine xe_lstD ?_ | with_reducible refine xe_catLK ?_ | with_reducible refine xe_catTK ?_
  | with_reducible refine xa_nil ?_ | with_reducible refine xa_cons ?_ | with_reducible refine xd_nil ?_ | with_reducible refine xd_cons ?_
  | with_reducible refine xe_lenK ?_ | with_reducible refine xe_listK ?_ | with_reducible refine xe_tupleK ?_ | with_reducible refine xe_sumK ?_
  | with_reducible refine xe_intB ?_ | with_reducible refine xe_slLK ?_ | with_reducible refine xe_slTK ?_ | with_reducible refine xo_none ?_ | with_reducible refine xo_some ?_
  | with_reducible refine xt_test ?_ | with_reducible refine xt_B ?_ | with_reducible refine xt_not ?_ | with_reducible refine xt_and ?_ | with_reducible refine xt_or ?_ | with_reducible refine xt_yes ?_
  | with_reducible refine xe_if ?_ | with_reducible refine xe_andV ?_ | with_reducible refine xe_orV ?_ | with_reducible refine xe_notV ?_ | with_reducible refine xe_chI ?_ | with_reducible refine xd_starK ?_ | with_reducible refine xe_notBK ?_ | with_reducible refine xe_isBK ?_ | with_reducible refine xe_notN ?_ | with_reducible refine xe_isN ?_)
local macro_rules | `(tactic| walk_at "xs") => `(tactic| first
  | with_reducible refine xs_seq ?_ | with_reducible refine xs_if ?_ | ((with_reducible refine' xs_retO ?eqq ?_); (case eqq => exact rfl)) | with_reducible refine xs_ret ?_
  | with_reducible refine xs_set ?_ | with_reducible refine xs_setO ?_ | with_reducible refine xs_next ?_ | with_reducible refine xs_cont ?_ | with_reducible refine xs_break ?_
  | ((with_reducible refine' xs_appK ?eqq ?_); (case eqq => exact rfl)) | ((with_reducible refine' xs_ext ?eqq ?_); (case eqq => exact rfl)) | ((with_reducible refine' xs_extT ?eqq ?_); (case eqq => exact rfl))
  | ((with_reducible refine' xs_parJ ?n1 ?n2 ?_); (case n1 => decide); (case n2 => exact Nat.lt_of_sub_pos (by exact Nat.le_of_ble_eq_true rfl)))
  | ((with_reducible refine' xs_parJ3 ?n1 ?n2 ?n3 ?n4 ?n5 ?_); (case n1 => decide); (case n2 => decide); (case n3 => decide); (case n4 => exact Nat.lt_of_sub_pos (by exact Nat.le_of_ble_eq_true rfl)); (case n5 => exact Nat.lt_of_sub_pos (by exact Nat.le_of_ble_eq_true rfl)))
  | ((with_reducible refine' xs_setLast ?eqq ?_); (case eqq => exact rfl))
  | with_reducible refine xs_asg ?_)
local macro_rules | `(tactic| walk_at "xi") => `(tactic| first
  | ((with_reducible refine' ite_t ?eqq ?_); (case eqq => decide +kernel)) | ((with_reducible refine' ite_f ?eqq ?_); (case eqq => decide +kernel))
  | ((with_reducible refine' ite_t ?eqq ?_); (case eqq => exact rfl)) | ((with_reducible refine' ite_f ?eqq ?_); (case eqq => exact rfl))
  | ((with_reducible refine' ite_t ?eqq ?_); (case eqq => exact decide_eq_true (by first | (with_reducible assumption) | exact rfl))) | ((with_reducible refine' ite_f ?eqq ?_); (case eqq => exact decide_eq_false (by assumption))) | ((with_reducible refine' ite_nd_t ?eqq ?_); (case eqq => first | (with_reducible assumption) | exact rfl)) | ((with_reducible refine' ite_nd_f ?eqq ?_); (case eqq => with_reducible assumption)) | fail "xi")
local macro_rules | `(tactic| walk_at "xw") => `(tactic| (first | walk_at "xs" | walk_at "xe" | walk_at "xg" | walk_at "xl" | walk_at "xk" | walk_at "xi" | walk_at "sp" | fail "xw"); walk_at "norm")

namespace MG
section
variable {V : Vol} {δ : List Slot} {K : PySem.W.Frag}
theorem foldl_range_succ {β : Type} (step : β → Nat → β) (b0 : β) (i : Nat) : (List.range (i + 1)).foldl step b0 = step ((List.range i).foldl step b0) i := by
  rw [List.range_succ, List.foldl_append]; rfl
theorem xs_forRF {β : Type} {ta : TA} {g : TG} {tb : TS} {E : AEnds} (n : Nat) (b0 : β) (step : β → Nat → β) (sl : β → List Slot → Prop)
    (h : XA V ta δ fun as => ∃ a, as = [a] ∧ a.d = .int (n : Int) ∧ n ≤ 1000000 ∧ sl b0 δ ∧
      (∀ i : Nat, i < n → ∀ δ', sl ((List.range i).foldl step b0) δ' → XG V g (.int (i : Int)) δ' fun δ2 => XS V tb δ2 { E with nx := sl (step ((List.range i).foldl step b0) i), ct := sl (step ((List.range i).foldl step b0) i), bk := E.nx }) ∧
      ∀ δ', sl ((List.range n).foldl step b0) δ' → E.nx δ') : XS V (tFor (iRng1 ta) g tb) δ E := by
  refine xs_forR1 fun O0 H0 O σ H m Q q => h O0 H0 O σ H m Q fun as vs H' g r ⟨a, e, ea, hn, s0, st, en⟩ => q as vs H' g r
    ⟨a, n, e, ea, by omega, by omega, fun i δ' => sl ((List.range i).foldl step b0) δ', s0, ?_, fun δ' s => en δ' s⟩
  intro i hi δ' s
  have k := st i (by simpa using hi) δ' s
  rw [← foldl_range_succ step b0 i] at k
  exact k
end
mutual
theorem lk_bx : ∀ (d : Nat) (b : Bx), b.dep ≤ d → b.num ≤ 100000 → b.d.lk (2 * d + 2) = true
  | d, .blk t b s, _, _ => by
    unfold Bx.d
    refine lk_tup (by simp) fun x hx => ?_
    simp at hx
    rcases hx with rfl | rfl | rfl | rfl
    · exact lk_str (by decide +kernel)
    all_goals exact lk_int
  | 0, .grp t b p bs, h, _ => by unfold Bx.dep at h; omega
  | d + 1, .grp t b p bs, h, h2 => by
    unfold Bx.dep at h
    unfold Bx.num at h2
    unfold Bx.d
    refine lk_tup (by simp) fun x hx => ?_
    simp at hx
    rcases hx with rfl | rfl | rfl | rfl | rfl
    · exact lk_str (by decide +kernel)
    · exact lk_int
    · exact lk_int
    · exact lk_int
    · exact lk_doc d bs (by omega) (by omega)
theorem lk_bxs : ∀ (d : Nat) (bs : List Bx), Bx.deps bs ≤ d → Bx.nums bs ≤ 100000 → ∀ x ∈ Bx.ds bs, x.lk (2 * d + 2) = true
  | d, [], _, _ => fun x hx => by unfold Bx.ds at hx; cases hx
  | d, b :: bs, h, h2 => fun x hx => by
    unfold Bx.deps at h
    unfold Bx.nums at h2
    unfold Bx.ds at hx
    rcases List.mem_cons.mp hx with rfl | hx
    · exact lk_bx d b (by omega) (by omega)
    · exact lk_bxs d bs (by omega) (by omega) x hx
theorem lk_doc : ∀ (d : Nat) (bs : List Bx), Bx.deps bs ≤ d → Bx.nums bs ≤ 100000 → (D.tup (Bx.ds bs)).lk (2 * d + 3) = true
  | d, bs, h, h2 => lk_tup (by rw [Bx.ds_len]; have := nums_len bs; omega) (lk_bxs d bs h h2)
end
/-! which groups do not show -/
def hereStep (bs : List Bx) (a : List Int) (i : Nat) : List Int := if edgesOf (Bx.ptss (Bx.dis bs i)) = edgesOf (Bx.ptss bs) ∧ totalOf (Bx.ptss (Bx.dis bs i)) = totalOf (Bx.ptss bs) then a ++ [(i : Int)] else a
def hereN (bs : List Bx) (n : Nat) : List Int := (List.range n).foldl (hereStep bs) []
def hereOf (bs : List Bx) : List Int := hereN bs (Bx.grpss bs).length
theorem hereN_len (bs : List Bx) : ∀ n, (hereN bs n).length ≤ n
  | 0 => by unfold hereN; simp
  | n + 1 => by
    have := hereN_len bs n
    unfold hereN at *
    rw [foldl_range_succ]
    unfold hereStep at *
    split <;> simp <;> omega
theorem dis_num (bs : List Bx) (i : Nat) : Bx.nums (Bx.dis bs i) ≤ Bx.nums bs ∧ Bx.deps (Bx.dis bs i) ≤ Bx.deps bs ∧ (Bx.ptss (Bx.dis bs i)).length ≤ (Bx.ptss bs).length := by
  rw [← (wos_dis bs i (by omega)).1]; exact wos_num bs i
theorem eD_inj {xs ys : List (Int × Int)} (h : xs.map eD = ys.map eD) : xs = ys := by
  refine List.map_inj_right (fun a b e => ?_) |>.mp h
  unfold eD at e
  obtain ⟨a1, a2⟩ := a
  obtain ⟨b1, b2⟩ := b
  simp at e
  rw [e.1, e.2]
def spHere (dp : Nat) : ASp := fun ds P => ∃ bs, ds = [Bx.doc bs] ∧ Bx.deps bs ≤ dp ∧ Bx.nums bs ≤ 9999 ∧ (Bx.ptss bs).length ≤ 99999 ∧ P (.new (dInts (hereOf bs)))
theorem here_i {d : Nat} {bs : List Bx} {P : AV → Prop} (h1 : Bx.deps bs ≤ d) (h2 : Bx.nums bs ≤ 9999) (h3 : (Bx.ptss bs).length ≤ 99999) (h : P (.new (dInts (hereOf bs)))) : spHere d [Bx.doc bs] P := ⟨bs, rfl, h1, h2, h3, h⟩
section
variable {K : PySem.W.Frag}
theorem xs_here {dp : Nat} (ds : List D) (P : AV → Prop) (h : spHere dp ds P) : XS Vol.nil (ts_invisible_here K (Lift (cGroups dp)) (Lift (spDissolved dp)) (Lift (spEdges dp)) (Lift (spTotal dp))) (ds.map Slot.dat ++ List.replicate 3 .no) { nx := fun _ => P (.dat .non), rt := P } := by
  obtain ⟨bs, rfl, hd, hl, hp, h⟩ := h
  show XS Vol.nil _ [.dat (Bx.doc bs), .no, .no, .no] _
  have big : (100001 : Nat) ≤ sizeLine := by decide
  have hg := grpss_num bs
  unfold ts_invisible_here
  repeat' walk_at "xw"
  refine xs_forRF (Bx.grpss bs).length ([] : List Int) (hereStep bs) (fun a δ' => ∃ s2 s3, δ' = [.dat (Bx.doc bs), .own (dInts a), s2, s3]) ?_
  repeat' walk_at "xw"
  refine groups_i hd (by omega) ⟨trivial, ?_⟩
  repeat' walk_at "xw"
  refine ⟨_, rfl, by rw [List.length_map]; rfl, by omega, ⟨_, _, rfl⟩, ?_, ?_⟩
  · rintro i hi δ' ⟨s2, s3, rfl⟩
    have dn := dis_num bs i
    have hl2 := hereN_len bs i
    have ew := (wos_dis bs i (by omega)).1
    change (List.length (List.foldl (hereStep bs) [] (List.range i)) ≤ i) at hl2
    generalize (List.range i).foldl (hereStep bs) [] = a at hl2 ⊢
    repeat' walk_at "xw"
    refine dissolved_i hd (by omega) ⟨trivial, ?_⟩
    rw [ew]
    repeat' walk_at "xw"
    refine eqk_nb 2 nb_edges nb_edges fun b1 hb1 => ⟨_, rfl, ?_⟩
    cases b1 with
    | false =>
      have ne : ¬ (edgesOf (Bx.ptss (Bx.dis bs i)) = edgesOf (Bx.ptss bs) ∧ totalOf (Bx.ptss (Bx.dis bs i)) = totalOf (Bx.ptss bs)) := fun z => by
        have := hb1.mpr (by rw [z.1]); cases this
      have es : hereStep bs a i = a := if_neg ne
      rw [es]
      repeat' walk_at "xw"
      exact ⟨_, _, rfl⟩
    | true =>
      have e1 := eD_inj (D.lst.inj (hb1.mp rfl))
      repeat' walk_at "xw"
      refine ite_dec (fun e2 => ?_) fun e2 => ?_
      · have es : hereStep bs a i = a ++ [(i : Int)] := if_pos ⟨e1, e2⟩
        rw [es]
        repeat' walk_at "xw"
        exact ⟨_, _, by simp only [dInts, List.map_append, List.map_cons, List.map_nil]; rfl⟩
      · have es : hereStep bs a i = a := if_neg fun z => e2 z.2
        rw [es]
        repeat' walk_at "xw"
        exact ⟨_, _, rfl⟩
  · rintro δ' ⟨s2, s3, rfl⟩
    repeat' walk_at "xw"
    exact h
def cDis (d : Nat) : ASp := fun ds P => ∃ bs i, ds = [Bx.doc bs, .int i] ∧ Bx.deps bs ≤ d ∧ Bx.deps bs ≤ 3 ∧ Bx.nums bs ≤ 99999 ∧ P (.dat (Bx.doc (Bx.dis bs i)))
theorem dis_i {d : Nat} {bs : List Bx} {i : Int} {P : AV → Prop} (h1 : Bx.deps bs ≤ d) (h3 : Bx.deps bs ≤ 3) (h2 : Bx.nums bs ≤ 99999) (h : P (.dat (Bx.doc (Bx.dis bs i)))) : cDis d [Bx.doc bs, .int i] P := ⟨bs, i, rfl, h1, h3, h2, h⟩
def diStep (a : List Bx × Int) (b : Bx) : List Bx × Int := (a.1 ++ b.di a.2, a.2 - (b.grps.length : Int))
theorem dis_fold : ∀ (bs : List Bx) (a : List Bx) (i : Int), (bs.foldl diStep (a, i)).1 = a ++ Bx.dis bs i
  | [], a, i => by unfold Bx.dis; simp
  | b :: bs, a, i => by
    rw [List.foldl_cons, diStep, dis_fold bs]
    conv => rhs; unfold Bx.dis
    rw [List.append_assoc]
theorem di_num (b : Bx) (i : Int) : Bx.nums (b.di i) ≤ b.num := by
  by_cases h : i < 0
  · rw [di_out b i (.inl h)]; unfold Bx.nums Bx.nums; omega
  · rw [← (wo_di b i (by omega)).1]; exact (wo_num b i).1
theorem dis_pre : ∀ (pre : List Bx) (a : List Bx × Int), Bx.nums (pre.foldl diStep a).1 ≤ Bx.nums a.1 + Bx.nums pre
  | [], a => by simp [Bx.nums]
  | b :: pre, a => by
    rw [List.foldl_cons]
    have := dis_pre pre (diStep a b)
    have k := di_num b a.2
    have e : Bx.nums (diStep a b).1 = Bx.nums a.1 + Bx.nums (b.di a.2) := nums_app _ _
    rw [Bx.nums]; omega
theorem xs_ldis {d : Nat} (ds : List D) (P : AV → Prop) (h : cDis d ds P) : XS Vol.nil (ts__law_dissolved K (Lift (cCount 3)) (recS cDis d)) (ds.map Slot.dat ++ List.replicate 3 .no) { nx := fun _ => P (.dat .non), rt := P } := by
  obtain ⟨bs, i, rfl, hd, hd3, hl, hp⟩ := h
  show XS Vol.nil _ [.dat (Bx.doc bs), .dat (.int i), .no, .no, .no] _
  have big : (100001 : Nat) ≤ sizeLine := by decide
  unfold ts__law_dissolved
  repeat' walk_at "xw"
  refine xs_forFT bs Bx.d (([], i) : List Bx × Int) diStep (fun a δ' => ∃ s3 s4, δ' = [.dat (Bx.doc bs), .dat (.int a.2), .dat (Bx.doc a.1), s3, s4]) ?_
  refine xe_vard rfl ⟨by rw [← ds_map]; rfl, ⟨_, _, rfl⟩, ?_, ?_⟩
  · rintro pre b post e δ' ⟨s3, s4, rfl⟩
    have hb : b ∈ bs := by rw [e]; simp
    have hdb := dep_mem hb
    have hn : Bx.nums bs = Bx.nums pre + b.num + Bx.nums post := by rw [e, nums_app, Bx.nums]; omega
    have hpl := dis_pre pre ([], i)
    change _ ≤ 0 + _ at hpl
    generalize pre.foldl diStep ([], i) = a at hpl ⊢
    obtain ⟨a, k⟩ := a
    change Bx.nums a ≤ _ at hpl
    have hal := nums_len a
    have np := num_pos b
    have hc : Bx.grpss [b] = b.grps := by unfold Bx.grpss Bx.grpss; rw [List.append_nil]
    have hdb3 := Nat.le_trans (dep_mem hb) hd3
    have hcd : Bx.deps [b] ≤ 3 := by unfold Bx.deps Bx.deps; omega
    unfold diStep
    cases b with
    | blk t bo z =>
      have hg : ((Bx.blk t bo z).grps.length : Int) = 0 := by unfold Bx.grps; rfl
      repeat' walk_at "xw"
      refine count_i (bs := [.blk t bo z]) hcd ⟨trivial, ?_⟩
      rw [hc, hg]
      unfold Bx.d Bx.di
      repeat' walk_at "xw"
      refine ite_dec (fun h0 => ?_) fun h0 => ?_
      · repeat' walk_at "xw"
        refine ite_f (decide_eq_false (by omega)) ?_
        repeat' walk_at "xw"
        exact ⟨_, _, by simp only [Bx.doc, ds_app]; rfl⟩
      · repeat' walk_at "xw"
        refine ite_dec (fun h1 => ?_) fun h1 => ?_
        · repeat' walk_at "xw"
          refine ite_f (decide_eq_false (by omega)) ?_
          repeat' walk_at "xw"
          exact ⟨_, _, by simp only [Bx.doc, ds_app]; rfl⟩
        · repeat' walk_at "xw"
          exact ⟨_, _, by simp only [Bx.doc, ds_app]; rfl⟩
    | grp t bo z inner =>
      have hg : ((Bx.grp t bo z inner).grps.length : Int) = ((Bx.grpss inner).length + 1 : Nat) := by unfold Bx.grps; rfl
      unfold Bx.dep at hdb hdb3
      unfold Bx.num at hn
      have hil := nums_len inner
      have hil2 := Bx.ds_len inner
      obtain ⟨d', rfl⟩ : ∃ d', d = d' + 1 := ⟨d - 1, by omega⟩
      rw [show recS cDis (d' + 1) = Lift (cDis d') from rfl]
      repeat' walk_at "xw"
      refine count_i (bs := [.grp t bo z inner]) hcd ⟨trivial, ?_⟩
      rw [hc, hg]
      unfold Bx.d Bx.di
      repeat' walk_at "xw"
      refine ite_dec (fun h0 => ?_) fun h0 => ?_
      · repeat' walk_at "xw"
        rw [if_pos h0]
        exact ⟨_, _, rfl⟩
      · rw [if_neg h0]
        repeat' walk_at "xw"
        refine ite_dec (fun h1 => ?_) fun h1 => ?_
        · repeat' walk_at "xw"
          refine ite_dec (fun h2 => ?_) fun h2 => ?_
          · rw [if_pos ⟨h1, h2⟩]
            repeat' walk_at "xw"
            refine dis_i (bs := inner) (by omega) (by omega) (by omega) ⟨trivial, ?_⟩
            repeat' walk_at "xw"
            have e4 : cutD [D.str "group", D.int t, D.int bo, D.int z, D.tup (Bx.ds inner)] none (some 4) = [D.str "group", D.int t, D.int bo, D.int z] := rfl
            rw [e4]
            repeat' walk_at "xw"
            exact ⟨_, _, by simp only [Bx.doc, ds_app]; rfl⟩
          · rw [if_neg fun z => h2 z.2]
            repeat' walk_at "xw"
            exact ⟨_, _, by simp only [Bx.doc, ds_app]; rfl⟩
        · rw [if_neg fun z => h1 z.1]
          repeat' walk_at "xw"
          exact ⟨_, _, by simp only [Bx.doc, ds_app]; rfl⟩
  · rintro δ' ⟨s3, s4, rfl⟩
    repeat' walk_at "xw"
    rw [dis_fold]; exact hp
end
end MG
end
section
set_option linter.all false
set_option maxRecDepth 100000
set_option maxHeartbeats 4000000
/-! ML12: list(parts(..)) for the tactic. -/
open PySem L2 MR MG
namespace MG
section
variable {V : Vol} {δ : List Slot}
def PartsA (d : Nat) (as : List AV) (P : AV → Prop) : Prop := ∃ a bs, as = [a] ∧ a.ok ∧ a.d = Bx.doc bs ∧ Bx.deps bs ≤ d ∧ (Bx.ptss bs).length ≤ 99999 ∧ P (.new ((Bx.ptss bs).map Pt.d))
theorem xe_partsK {d : Nat} {ta : TA} {P : AV → Prop} (h : XA V ta δ fun as => PartsA d as P) : XE V (tListZ (tCallG (spParts d) ta)) δ P :=
  xe_parts fun O0 H0 O σ H m Q q => h O0 H0 O σ H m Q fun as vs H' g r ⟨a, bs, e, oa, ed, h1, h2, p⟩ => q as vs H' g r ⟨a, bs, e, oa, ed, h1, Nat.le_trans h2 (by decide), p⟩
theorem partsA_i {d : Nat} {bs : List Bx} {P : AV → Prop} (h1 : Bx.deps bs ≤ d) (h2 : (Bx.ptss bs).length ≤ 99999) (h : P (.new ((Bx.ptss bs).map Pt.d))) : PartsA d [.dat (Bx.doc bs)] P := ⟨_, bs, rfl, trivial, rfl, h1, h2, h⟩
end
theorem pt_lk (n : Nat) (p : Pt) : p.d.lk (n + 1) = true := by
  cases p with
  | m i => refine lk_tup (show 2 ≤ 100000 by decide) fun y hy => ?_
           have hy : y = .str "margin" ∨ y = .int i := by simpa using hy
           rcases hy with rfl | rfl
           · exact lk_str (by decide +kernel)
           · exact lk_int
  | s i => refine lk_tup (show 2 ≤ 100000 by decide) fun y hy => ?_
           have hy : y = .str "solid" ∨ y = .int i := by simpa using hy
           rcases hy with rfl | rfl
           · exact lk_str (by decide +kernel)
           · exact lk_int
theorem lk_pts {n : Nat} {ps : List Pt} (h : ps.length ≤ 100000) : (D.lst (ps.map Pt.d)).lk (n + 2) = true := lk_lst (by rw [List.length_map]; exact h) fun x hx => by
  obtain ⟨p, _, rfl⟩ := List.mem_map.mp hx
  exact pt_lk n p
theorem nb_pts {ps : List Pt} : (D.lst (ps.map Pt.d)).nb 2 = true := by
  unfold D.nb
  refine D.nbs_iff.mpr fun x hx => ?_
  obtain ⟨p, _, rfl⟩ := List.mem_map.mp hx
  cases p <;> (unfold Pt.d D.nb D.nbs D.nbs D.nbs; rw [show (D.str _).nb 0 = true by decide +kernel, nb_int]; rfl)
end MG
end
section
set_option linter.all false
set_option maxRecDepth 100000
set_option maxHeartbeats 4000000
/-! L02: the body of law k02. -/
open PySem L2 MR MG
local macro_rules | `(tactic| walk_at "size") => `(tactic| first | (with_reducible assumption) | (with_unfolding_all exact Nat.le_of_ble_eq_true rfl) | (simp [dInts]; omega) | omega)
local macro_rules | `(tactic| walk_at "norm") => `(tactic| (try dsimp only [List.set_cons_succ, List.set_cons_zero, d_dat, d_new, d_brw, ofV_int, ofV_bl, ofV_str, ofV_non, List.map_cons, List.map_nil, List.cons_append, List.nil_append]))
local macro_rules | `(tactic| walk_at "xl") => `(tactic| first
  | ((with_reducible refine' And.intro ?okk ?_); (case okk => exact True.intro))
  | ((with_reducible refine' And.intro (?cmm : CMul _ _) ?_); (case cmm => first | exact .inl ⟨by decide, by decide⟩ | exact .inr ⟨by decide, by decide⟩ | exact .inl ⟨by omega, by omega⟩ | exact .inr ⟨by omega, by omega⟩))
  | ((with_reducible refine' And.intro (?pss : (0 : Int) < _) ?_); (case pss => first | decide | omega))
  | ((with_reducible refine' And.intro (?nrr : ∀ w, _ ≠ D.raw w) ?_); (case nrr => (intro w e; cases e)))
  | ((with_reducible refine' And.intro (?eqq : (_ : D) = _) ?_); (case eqq => exact rfl))
  | ((with_reducible refine' Exists.intro _ (And.intro (?eqq : (_ : D) = _) ?_)); (case eqq => exact rfl))
  | ((with_reducible refine' Exists.intro _ (And.intro (?eqq : (_ : AV) = _) ?_)); (case eqq => exact rfl))
  | ((with_reducible refine' Exists.intro _ (And.intro (?eqq : (_ : List D) = _) ?_)); (case eqq => exact rfl))
  | ((with_reducible refine' turnE ?eqq); (case eqq => exact rfl))
  | ((with_reducible refine' And.intro (?szz : _ ≤ sizeLine) ?_); (case szz => walk_at "size"))
  | ((with_reducible refine' And.intro (?szz : _ < sizeLine) ?_); (case szz => walk_at "size")))
local macro_rules | `(tactic| walk_at "xk") => `(tactic| first
  | ((with_reducible refine' argK ?okk ?_); (case okk => repeat (first | exact allOk_nil | refine allOk_cons True.intro ?_)))
  | (with_reducible refine stob_t ?_) | ((with_reducible refine' stob_f ?okk ?_); (case okk => exact True.intro))
  | ((refine' likek ?eqq ?lkk ?_); (case eqq => exact rfl); (case lkk => walk_at "lk"))
  | refine seqa_t ?_ | refine seqa_l ?_ | refine seqa_n ?_ | refine seqa_b ?_
  | refine starT ?_ | refine starL ?_ | refine bla ?_ | refine cutl ?_ | refine cutt ?_
  | ((refine' catk ?szz ?_); (case szz => walk_at "size")) | ((refine' catt_doc ?szz ?_); (case szz => walk_at "size")) | ((refine' catt ?szz ?_); (case szz => walk_at "size")) | ((refine' catt_docT ?szz ?_); (case szz => walk_at "size"))
  | (refine ixk_last ?_) | (refine ixk_0 ?_) | (refine ixk_last2 ?_) | ((refine' ixk_t ?eqq ?_); (case eqq => exact rfl)) | ((refine' ixk_l ?eqq ?_); (case eqq => exact rfl))
  | refine eqk_int ?_ | refine eqk_bl ?_ | ((refine eqk_str ?s1 ?s2 ?_); (case s1 => with_unfolding_all rfl); (case s2 => with_unfolding_all rfl)))
local macro_rules | `(tactic| walk_at "lk") => `(tactic| first | exact lk_int | exact lk_fm _ | (exact rfl) | (with_reducible assumption) | (apply lk_rows <;> (first | (with_reducible assumption) | omega | (intro r hr; apply Nat.le_trans (by first | (exact (by assumption : ∀ r ∈ _, _) r hr)) (by omega)))) | (apply lk_lI; walk_at "size") | (apply lk_tI; walk_at "size") | (apply lk_edges; walk_at "size"))
local macro_rules | `(tactic| walk_at "sd") => `(tactic| first | (with_reducible assumption) | omega)
local macro_rules | `(tactic| walk_at "sp") => `(tactic| first
  | ((refine' draw_i ?b1 ?b2 ?_); (case b1 => walk_at "sd"); (case b2 => walk_at "sd"); intro r hr0 hr1)
  | ((refine' doc_i ?b1 ?b2 ?_); (case b1 => walk_at "sd"); (case b2 => walk_at "sd"); intro bs hbs)
  | ((refine' lparts_i ?b1 ?b2 ?_); (case b1 => walk_at "sd"); (case b2 => walk_at "sd"))
  | ((refine' runs_i ?b1 ?b2 ?_); (case b1 => walk_at "sd"); (case b2 => walk_at "sd"))
  | ((refine' gaps_i ?b1 ?b2 ?_); (case b1 => walk_at "sd"); (case b2 => walk_at "sd"))
  | ((refine' edges_i ?b1 ?b2 ?_); (case b1 => walk_at "sd"); (case b2 => walk_at "sd"))
  | ((refine' total_i ?b1 ?b2 ?_); (case b1 => walk_at "sd"); (case b2 => walk_at "sd"))
  | ((refine' lruns_i ?b1 ?_); (case b1 => walk_at "sd"))
  | ((refine' ledges_i ?b1 ?_); (case b1 => walk_at "sd"))
  | ((refine' lgap_t ?b1 ?_); (case b1 => walk_at "sd"))
  | ((refine' lgap_l ?b1 ?_); (case b1 => walk_at "sd"))
  | ((refine' gap_t ?b1 ?_); (case b1 => walk_at "sd"))
  | ((refine' form_i ?b1 ?b2 ?_); (case b1 => walk_at "sd"); (case b2 => walk_at "sd"))
  | ((refine' form_of_i ?b1 ?_); (case b1 => walk_at "sd"))
  | (refine distof_i ?_) | ((refine' dist_i ?b1 ?b2 ?_); (case b1 => walk_at "sd"); (case b2 => walk_at "sd"))
  | ((refine' partsA_i ?b1 ?b2 ?_); (case b1 => walk_at "sd"); (case b2 => walk_at "sd"))
  | fail "sp")
local macro_rules | `(tactic| walk_at "xg") => `(tactic| first
  | with_reducible refine xg_name ?_ | ((with_reducible refine' xg_tup ?eqq ?lnn ?_); (case eqq => exact rfl); (case lnn => exact rfl))
  | with_reducible refine xgs_cons ?_ | with_reducible refine xgs_nil ?_)
local macro_rules | `(tactic| walk_at "xe") => `(tactic| first
  | ((with_reducible refine' xe_vard ?eqq ?_); (case eqq => exact rfl)) | ((with_reducible refine' xe_varo ?eqq ?_); (case eqq => exact rfl))
  | with_reducible refine xe_c ?_ | with_reducible refine xe_I0 ?_ | with_reducible refine xe_I ?_ | with_reducible refine xe_U ?_
  | with_reducible refine xe_ixK ?_ | with_reducible refine xe_eqK ?_ | with_reducible refine xe_neK ?_ | with_reducible refine xe_callK ?_ | with_reducible refine xe_likeK ?_ | ((with_reducible refine' xe_drawK ?ttt ?eqq ?_); (case ttt => with_reducible assumption); (case eqq => exact rfl))
  | with_reducible refine xe_partsK ?_ | with_reducible refine xe_tupK ?_ | with_reducible refine xe_lstD ?_ | with_reducible refine xe_catLK ?_ | with_reducible refine xe_catTK ?_
  | with_reducible refine xa_nil ?_ | with_reducible refine xa_cons ?_ | with_reducible refine xd_nil ?_ | with_reducible refine xd_cons ?_
  | with_reducible refine xe_lenK ?_ | with_reducible refine xe_listK ?_ | with_reducible refine xe_tupleK ?_ | with_reducible refine xe_sumK ?_
  | with_reducible refine xe_intB ?_ | with_reducible refine xe_slLK ?_ | with_reducible refine xe_slTK ?_ | with_reducible refine xo_none ?_ | with_reducible refine xo_some ?_
  | with_reducible refine xt_test ?_ | with_reducible refine xt_B ?_ | with_reducible refine xt_not ?_ | with_reducible refine xt_and ?_ | with_reducible refine xt_or ?_ | with_reducible refine xt_yes ?_
  | with_reducible refine xe_if ?_ | with_reducible refine xe_andV ?_ | with_reducible refine xe_orV ?_ | with_reducible refine xe_notV ?_ | with_reducible refine xe_chI ?_ | with_reducible refine xd_starK ?_ | with_reducible refine xe_notBK ?_ | with_reducible refine xe_isBK ?_ | with_reducible refine xe_notN ?_ | with_reducible refine xe_isN ?_)
local macro_rules | `(tactic| walk_at "xs") => `(tactic| first
  | with_reducible refine xs_seq ?_ | with_reducible refine xs_if ?_ | ((with_reducible refine' xs_retO ?eqq ?_); (case eqq => exact rfl)) | with_reducible refine xs_ret ?_
  | with_reducible refine xs_set ?_ | with_reducible refine xs_setO ?_ | with_reducible refine xs_next ?_ | with_reducible refine xs_cont ?_ | with_reducible refine xs_break ?_
  | ((with_reducible refine' xs_appK ?eqq ?_); (case eqq => exact rfl)) | ((with_reducible refine' xs_ext ?eqq ?_); (case eqq => exact rfl)) | ((with_reducible refine' xs_extT ?eqq ?_); (case eqq => exact rfl))
  | ((with_reducible refine' xs_parJ ?n1 ?n2 ?_); (case n1 => decide); (case n2 => exact Nat.lt_of_sub_pos (by exact Nat.le_of_ble_eq_true rfl)))
  | ((with_reducible refine' xs_parJ3 ?n1 ?n2 ?n3 ?n4 ?n5 ?_); (case n1 => decide); (case n2 => decide); (case n3 => decide); (case n4 => exact Nat.lt_of_sub_pos (by exact Nat.le_of_ble_eq_true rfl)); (case n5 => exact Nat.lt_of_sub_pos (by exact Nat.le_of_ble_eq_true rfl)))
  | ((with_reducible refine' xs_setLast ?eqq ?_); (case eqq => exact rfl))
  | with_reducible refine xs_asg ?_)
local macro_rules | `(tactic| walk_at "xi") => `(tactic| first
  | ((with_reducible refine' ite_t ?eqq ?_); (case eqq => decide +kernel)) | ((with_reducible refine' ite_f ?eqq ?_); (case eqq => decide +kernel))
  | ((with_reducible refine' ite_t ?eqq ?_); (case eqq => exact rfl)) | ((with_reducible refine' ite_f ?eqq ?_); (case eqq => exact rfl))
  | ((with_reducible refine' ite_t ?eqq ?_); (case eqq => exact decide_eq_true (by first | (with_reducible assumption) | exact rfl))) | ((with_reducible refine' ite_f ?eqq ?_); (case eqq => exact decide_eq_false (by assumption))) | ((with_reducible refine' ite_nd_t ?eqq ?_); (case eqq => first | (with_reducible assumption) | exact rfl)) | ((with_reducible refine' ite_nd_f ?eqq ?_); (case eqq => with_reducible assumption)) | fail "xi")
local macro_rules | `(tactic| walk_at "xw") => `(tactic| (first | walk_at "xs" | walk_at "xe" | walk_at "xg" | walk_at "xl" | walk_at "xk" | walk_at "xi" | walk_at "sp" | fail "xw"); walk_at "norm")

namespace MG
def ts_law02 (K : PySem.W.Frag) (dparts : Nat) (c_law_document : Sp) (c_law_parts : Sp) (c_law_like : Sp) : TS :=
    (tSeq (tAsg (tLst (tCons (tCB (rListQ K) (tCons (tVar 0) tNil)) (tCons (tC (.int 0)) (tCons (tC (.int 0)) tNil)))) (gName 1))
    (tSeq (tFor (iRng1 (tCons (tC (.int 6)) tNil)) (gName 2)
    (tSeq (tPar (oB false 3) (oB false 4) (tCons (tCall c_law_document [] E0 (tCons (tVar 1) (tCons (tC (.int 10)) (tCons (tC (.int 9)) tNil)))) (tCons (tCall c_law_document [] E0 (tCons (tVar 1) (tCons (tC (.int 4)) (tCons (tC (.int 9)) tNil)))) tNil)))
    (tSeq (tAsg (tCall c_law_parts [] E0 (tCons (tVar 3) tNil)) (gName 5))
    (tSeq (tIfS (tOr (tNot (tB (tCall c_law_like [] E0 (tCons (tListZ (tCallG (spParts dparts) (tCons (tVar 3) tNil))) (tCons (tVar 5) tNil))))) (tTest (tOp (rNeD K) (tListZ (tCallG (spParts dparts) (tCons (tVar 3) tNil))) (tVar 5))))
    (tRet (tC (.bl false)))
    tNext)
    (tIfS (tAnd (tTest (tOp (rI0 fun i j => .bl (decide (i ≤ j))) (tCB (rLenQ K) (tCons (tOp (rCatA K) (tVar 3) (tVar 4)) tNil)) (tC (.int 6)))) (tTest (tOp (rNeD K) (tListZ (tCallG (spParts dparts) (tCons (tOp (rCatA K) (tVar 3) (tVar 4)) tNil))) (tOp rCat (tVar 5) (tCall c_law_parts [] E0 (tCons (tVar 4) tNil))))))
    (tRet (tC (.bl false)))
    tNext)))))
    (tRet (tOp (rEqD K) (tListZ (tCallG (spParts dparts) (tCons (tTup (tCons (tTup (tCons (tC (.str "group")) (tCons (tC (.int 1)) (tCons (tC (.int 2)) (tCons (tC (.int 3)) (tCons (tTup tNil) tNil)))))) tNil)) tNil))) (tLst (tCons (tTup (tCons (tC (.str "margin")) (tCons (tC (.int 1)) tNil))) (tCons (tTup (tCons (tC (.str "solid")) (tCons (tC (.int 3)) tNil))) (tCons (tTup (tCons (tC (.str "solid")) (tCons (tC (.int 3)) tNil))) (tCons (tTup (tCons (tC (.str "margin")) (tCons (tC (.int 2)) tNil))) tNil)))))))))
section
variable {K : PySem.W.Frag}
abbrev law02T (K : PySem.W.Frag) : TS := ts_law02 K 3 cDoc (Lift (cLParts 3)) (sLike 9)
theorem xs_law02 (H : Hp) (a : Addr) (ns : List Int) (Dn : Ends) (hS : SqL K H a (ns.map L2.V.int)) (q : ∀ H', Dn.rt (.bl true) H') {N : List Str} (hN : N.length = 7) : law02T K Dn (L2.start N [.ref a]) H := by
  unfold law02T ts_law02
  refine law_run (n := 5) hN hS (fun V l T => ?_) q
  have big : (100001 : Nat) ≤ sizeLine := by decide
  refine xs_seq (xs_turns (n := 6) (by decide) (fun i δx hl => ?_) fun δx hl => ?_)
  · match δx, hl with
    | [s2, s3, s4, s5, s6], _ =>
      repeat' walk_at "xw"
      rename_i page hpage other hother
      obtain ⟨f1, f2, f3, f4, f5, f6, k1, k2, k3⟩ := drawnF hpage
      obtain ⟨g1, g2, g3, g4, g5, g6, l1, l2, l3⟩ := drawnF hother
      have r1 := drawn_rows hpage
      have r2 := drawn_rows hother
      repeat' walk_at "xw"
      refine likek rfl (lk_pts (n := 6) (by omega)) ?_
      repeat' walk_at "xw"
      refine eqk_same 2 nb_pts rfl ⟨_, rfl, ?_⟩
      repeat' walk_at "xw"
      refine ite_dec (fun h6 => ?_) fun h6 => ?_
      · repeat' walk_at "xw"
        refine partsA_i (bs := page ++ other) (by rw [deps_app]; omega) (by rw [ptss_app, List.length_append]; omega) ?_
        repeat' walk_at "xw"
        refine eqk_same 2 nb_pts (by rw [ptss_app, List.map_append]) ⟨_, rfl, ?_⟩
        repeat' walk_at "xw"
      · repeat' walk_at "xw"
  · match δx, hl with
    | [s2, s3, s4, s5, s6], _ =>
      repeat' walk_at "xw"
      refine partsA_i (bs := [.grp 1 2 3 []]) (by decide) (by decide) ?_
      repeat' walk_at "xw"
      exact eqk_same 2 nb_pts rfl ⟨trivial, rfl⟩
end
end MG
end
section
set_option linter.all false
set_option maxRecDepth 100000
set_option maxHeartbeats 4000000
/-! MC1: a list comprehension straight over a generator: the loop. -/
namespace MR
open PySem L2 PySem.Spec MG
/-- what a turn leaves -/
structure Stp (C : Addr) (s s' : Shared) : Prop where
  ns : ∃ m', s'.heap.Ns C m'
  os : s'.os = s.os
  gens : s'.gens = s.gens
  keep : ∀ b o, b ≠ C → s.heap.get? b = some o → s'.heap.get? b = some o
abbrev testsOf (ifs : List Expr) (cenv : Env) : Sem Bool := forIn ifs true fun c r => if r = true then do let ok ← isTrue c cenv (eval c cenv); pure (ForInStep.yield ok) else pure (ForInStep.yield r)
structure CTurn (P : Program) (w : World) (A : Around) (tgt elt : Expr) (ifs : List Expr) (cenv : Env) (C a : Addr) (okI : HO → Prop) (sel : HO → V → Option V) : Prop where
  run : ∀ (s : Shared) (H : Hp) (p : Addr) (d : HO) (m : Str → Option Value) (g : Nat), okI d → H p = some d → HOk P w H s.heap → s.heap.Ns C m → GenAt s.heap a g → H C = none →
    wpAny (model P w) A (letOwnedTupleGo tgt (.ref a) (.ref p)) (fun _ s1 => wpAny (model P w) A (assign tgt cenv (.ref p)) (fun _ s2 =>
      wpAny (model P w) A (testsOf ifs cenv) (fun ok s3 => if ok = true then wpAny (model P w) A (eval elt cenv) (fun u s4 => ∃ y, sel d (.ref p) = some y ∧ RelV y u ∧ Stp C s s4) (fun _ _ => False) s3
        else sel d (.ref p) = none ∧ Stp C s s3) (fun _ _ => False) s2) (fun _ _ => False) s1) (fun _ _ => False) s
def sels (sel : HO → V → Option V) (items : List HO) (qs : List V) : List V := (items.zip qs).filterMap fun x => sel x.1 x.2
theorem zip_snoc1 {α β : Type} : ∀ (items : List α) (qs : List β) (q : β) (d : α), items[qs.length]? = some d → items.zip (qs ++ [q]) = items.zip qs ++ [(d, q)]
  | [], qs, q, d, h => by simp at h
  | i :: items, [], q, d, h => by simp at h; subst h; simp
  | i :: items, r :: qs, q, d, h => by
    have h : items[qs.length]? = some d := by simpa using h
    simp only [List.cons_append, List.zip_cons_cons]
    rw [zip_snoc1 items qs q d h]
theorem sels_snoc {sel : HO → V → Option V} {items : List HO} {qs : List V} {q : V} {d : HO} (h : items[qs.length]? = some d) : sels sel items (qs ++ [q]) = sels sel items qs ++ (match sel d q with | some y => [y] | none => []) := by
  unfold sels
  rw [zip_snoc1 items qs q d h, List.filterMap_append]
  congr 1
  simp only [List.filterMap_cons, List.filterMap_nil]
  cases sel d q <;> rfl
theorem sels_len {sel : HO → V → Option V} {items : List HO} {qs : List V} : (sels sel items qs).length ≤ qs.length := by
  unfold sels
  refine Nat.le_trans (List.length_filterMap_le _ _) ?_
  rw [List.length_zip]
  exact Nat.min_le_right _ _
section
variable {P : Program} {w : World} {A : Around} {ok : Nat → Prop} {Xc : Cx} {a S C : Addr} {g : Nat} {items : List HO} {H0 : Hp} {sel : HO → V → Option V} {okI : HO → Prop} {tgt elt iter : Expr} {ifs : List Expr} {scope : Scope} {pos : Pos} {cenv : Env}
def DrainedC (ok : Nat → Prop) (Xc : Cx) (S C : Addr) (sel : HO → V → Option V) (items : List HO) (s' : Shared) : Prop :=
  ∃ (H : Hp) (qs : List V) (acc : Array Value) (c : Nat) (mC : Str → Option Value), s'.heap.get? S = some (lstObj acc c) ∧ Vals (sels sel items qs) acc.toList ∧ qs.length = items.length ∧ Out H items qs ∧ s'.os = Xc.s_0.os ∧ Cold ok s' ∧
    Un Xc.fs Xc.ex Xc.H_0 H Xc.s_0.heap s'.heap ∧ HOk Xc.prog Xc.w H s'.heap ∧ H S = none ∧ H C = none ∧ Hx Xc.H_0 H ∧ s'.heap.Ns C mC
theorem compG (hP : Xc.prog = P) (hw : Xc.w = w) (hL : cenv.locals = C) (hh : A.handled = none) (hd : A.depth < recursionLimit) (haS : a ≠ S) (haC : a ≠ C) (hSC : S ≠ C) (hSc : S ≠ cStatics) (hCc : C ≠ cStatics) (hsz : items.length ≤ sizeLine) (hitems : ∀ d ∈ items, okI d)
    (T : CTurn P w A tgt elt ifs cenv C a okI sel) :
    ∀ (m : Nat) (s : Shared) (Hq : Hp) (y : GenState) (qs : List V) (acc : Array Value) (c : Nat) (mC : Str → Option Value), m ≤ items.length → s.heap.get? S = some (lstObj acc c) → Vals (sels sel items qs) acc.toList → qs.length + m = items.length → Out Hq items qs → Hx Xc.H_0 Hq →
      GenAt s.heap a g → s.gens[g]? = some y → s.heap.NoLimit → s.heap.Ns C mC → Goes (model P w) A.in1 (RG ok Xc [a, S, C] items) (YG Xc [a, S, C] g items) m (s.setGen g .running, Hq) y (s.setGen g .running) →
      flowL (model P w) A (.compLoop (.ListComp elt [⟨tgt, iter, ifs, 0⟩] scope pos) 0 (.ref a) (.ref S) cenv) (fun fl s' => fl = .next ∧ DrainedC ok Xc S C sel items s') s := by
  intro m
  induction m with
  | zero =>
    intro s Hq y qs acc c mC hm hS hv hl ho hx hg hy hli hns hgo
    refine flowL_tree ?_
    show anyL _ A ((compTurn (.ListComp elt [⟨tgt, iter, ifs, 0⟩] scope pos) 0 (.ref a) (.ref S) cenv).onRaise (fun x => do noteFrame x cenv; theTreesLotGoes x)) _ s
    refine aL_onRaise ?_
    rw [compTurn_list]
    refine aL_bind (aL_stand ?_)
    show anyE _ A (pyNext (.ref a) >>= _) _ (fun _ _ => False) s
    unfold pyNext
    refine aE_bind (aE_bind (aE_attempt (aE_genNext (A := A) hh hli hd hg hy hgo (fun m v s1 z hz en hY => by omega) fun r s1 hz hR => ?_)))
    obtain ⟨_, hr, co1, ip, σ, H, I, hx1⟩ := hR
    refine ⟨hr, fun e h' hS' hk => ?_⟩
    obtain ⟨x, o, xs, rfl, hxo, hxc, hxd, hx5⟩ := hS'
    refine aE_bind (aE_isInstance (T := "StopIteration") (b := true) ⟨o, hxo, hxc⟩ isSubtype_stop (aE_pure (aE_pure ⟨rfl, ?_⟩)))
    obtain ⟨oS, g0, g1, _, g3⟩ := I.at (b := S) (by simp)
    have e0 : s.heap.get? S = some oS := g0
    rw [hS] at e0; cases e0
    obtain ⟨oC, c0, c1, _, c3⟩ := I.at (b := C) (by simp)
    have hnC : s1.heap.Ns C mC := hns.at' fun o e => by
      have e2 : s.heap.get? C = some oC := c0
      rw [e] at e2; cases e2
      exact c1
    refine ⟨H, qs, acc, c, mC, hk _ _ g1, hv, by omega, ho.hx hx1, I.inv.os, fun j hj => ?_, I.inv.base.trans (Un.kept hk), I.inv.hok.kept hk, g3, c3, hx.trans hx1, hnC.keeps hk⟩
    exact co1 j (hot_set (h := s1.heap) (h' := h') (a := s1.gens) (g := g) (y := .finished) (d := s1.drawn) (d' := s1.drawn) (t := s1.toks) (t' := s1.toks) (o := s1.os) (o' := s1.os) rfl j hj)
  | succ m ih =>
    intro s Hq y qs acc c mC hm hS hv hl ho hx hg hy hli hns hgo
    have hgs : g < s.gens.size := (Array.getElem?_eq_some_iff.mp hy).1
    refine flowL_tree ?_
    show anyL _ A ((compTurn (.ListComp elt [⟨tgt, iter, ifs, 0⟩] scope pos) 0 (.ref a) (.ref S) cenv).onRaise (fun x => do noteFrame x cenv; theTreesLotGoes x)) _ s
    refine aL_onRaise ?_
    rw [compTurn_list]
    refine aL_bind (aL_stand ?_)
    show anyE _ A (pyNext (.ref a) >>= _) _ (fun _ _ => False) s
    unfold pyNext
    refine aE_bind (aE_bind (aE_attempt (aE_genNext (A := A) hh hli hd hg hy hgo (fun m' v s1 z hz en hY => ?_) fun r s1 hz hR => by
      have := hR.1
      omega)))
    have em : m' = m := by omega
    subst em
    obtain ⟨d, ip, σ, H, p, hml, hd1, I, rfl, hp, hx1, kap⟩ := hY
    obtain ⟨oS, g0, g1, _, g3⟩ := I.at (b := S) (by simp)
    have e0 : s.heap.get? S = some oS := g0
    rw [hS] at e0; cases e0
    obtain ⟨oa, a0, a1, a2, a3⟩ := I.at (b := a) (by simp)
    obtain ⟨oC, c0, c1, cc2, c3⟩ := I.at (b := C) (by simp)
    have hnC : s1.heap.Ns C mC := hns.at' fun o e => by
      have e2 : s.heap.get? C = some oC := c0
      rw [e] at e2; cases e2
      exact c1
    have hg1 : GenAt s1.heap a g := hg.keeps fun o e => by
      have e2 : s.heap.get? a = some oa := a0
      rw [e] at e2; cases e2
      exact a1
    refine aE_pure ?_
    have hC1 : H C = none := c3
    generalize hsz1 : s1.setGen g z = sz
    have szh : sz.heap = s1.heap := by rw [← hsz1]; rfl
    have szo : sz.os = s1.os := by rw [← hsz1]; rfl
    have hG : sz.gens = s1.gens.setIfInBounds g z := by rw [← hsz1]; rfl
    have tr := T.run (coolS sz) H p d mC g (hitems d (by
      have := Rem.head hml hd1
      exact List.mem_of_getElem? this)) hp (by rw [← hP, ← hw]; show HOk _ _ H sz.heap; rw [szh]; exact I.inv.hok) (by show sz.heap.Ns C mC; rw [szh]; exact hnC) (by show GenAt sz.heap a g; rw [szh]; exact hg1) c3
    have hd2 := Rem.head hml hd1
    have hdq : items[qs.length]? = some d := by
      rw [← hd2]; congr 1; omega
    have fin : ∀ (t : Shared) (acc' : Array Value) (c' : Nat) (m' : Str → Option Value), t.os = s1.os → t.gens.map cool = sz.gens.map cool → Cl sz t → (∀ b o, b ≠ C → b ≠ S → s1.heap.get? b = some o → t.heap.get? b = some o) → t.heap.Ns C m' → t.heap.get? S = some (lstObj acc' c') →
        Vals (sels sel items (qs ++ [.ref p])) acc'.toList → flowL (model P w) A (.compLoop (.ListComp elt [⟨tgt, iter, ifs, 0⟩] scope pos) 0 (.ref a) (.ref S) cenv) (fun fl s' => fl = .next ∧ DrainedC ok Xc S C sel items s') t := fun t acc' c' m' o4 eg cl k4 n4 S4 v4 => by
      have keepA : t.heap.get? a = some oa := k4 a oa haC haS a1
      have C4 : ∃ o, t.heap.get? C = some o ∧ ∀ v, o.data ≠ .cell v := by
        obtain ⟨o, e1, e2, e3, e4⟩ := n4
        exact ⟨o, e3, fun v q => by simp_all⟩
      obtain ⟨z2, hz2, ez2⟩ : ∃ z2, t.gens[g]? = some z2 ∧ cool z2 = cool z := by
        have q : (t.gens[g]?).map cool = some (cool z) := by
          rw [cool_get eg g, hG, Array.getElem?_setIfInBounds, if_pos rfl, if_pos (by omega)]; rfl
        cases e : t.gens[g]? with
        | none => rw [e] at q; cases q
        | some z2 => rw [e] at q; exact ⟨z2, rfl, Option.some.inj q⟩
      have tsz : t.gens.size = sz.gens.size := cool_size eg
      refine ih t H z2 (qs ++ [.ref p]) acc' c' m' (by omega) S4 v4 (by rw [List.length_append, List.length_singleton]; omega) ?_ (hx.trans hx1) (hg1.keeps fun o e => ?_) hz2 ?_ n4 ?_
      · intro i v e
        rcases Nat.lt_or_ge i qs.length with q | q
        · rw [List.getElem?_append_left q] at e
          obtain ⟨p', d', e1, e2, e3⟩ := ho i v e
          exact ⟨p', d', e1, e2, hx1 p' d' e3⟩
        · rw [List.getElem?_append_right q] at e
          have hi : i = qs.length := by
            rcases Nat.lt_or_ge (i - qs.length) 1 with q2 | q2
            · omega
            · rw [List.getElem?_eq_none (by simpa using q2)] at e; cases e
          subst hi
          simp at e
          exact ⟨p, d, e.symm, hdq, hp⟩
      · rw [a1] at e; cases e
        exact keepA
      · obtain ⟨mc, hnsl, hnn⟩ := I.inv.nolimit
        exact ⟨mc, hnsl.at' fun o e => k4 _ o (Ne.symm hCc) (Ne.symm hSc) e, hnn⟩
      · refine Goes.cool ez2.symm (kap _ ⟨o4, fun b o hb e => ?_, fun b hb => ?_, fun j hj => ?_, ?_, fun j hj => ?_⟩)
        · exact k4 b o (fun e => hb (by rw [e]; simp)) (fun e => hb (by rw [e]; simp)) e
        · rcases List.mem_cons.mp hb with rfl | hb
          · exact ⟨oa, keepA, a2⟩
          · rcases List.mem_cons.mp hb with rfl | hb
            · exact ⟨_, S4, fun v q => by cases q⟩
            · rw [List.mem_singleton.mp hb]
              exact C4
        · show ((t.gens.setIfInBounds g .running)[j]?).map cool = _
          rw [Array.getElem?_setIfInBounds, if_neg (by omega), cool_get eg j, hG, Array.getElem?_setIfInBounds, if_neg (by omega)]
        · show s1.gens.size ≤ (t.gens.setIfInBounds g .running).size
          rw [Array.size_setIfInBounds, tsz, hG, Array.size_setIfInBounds]; exact Nat.le_refl _
        · obtain ⟨w', hw', hq⟩ := hj
          have hw' : (t.gens.setIfInBounds g .running)[j]? = some w' := hw'
          rw [Array.getElem?_setIfInBounds] at hw'
          split at hw'
          · split at hw'
            · cases hw'; cases hq
            · cases hw'
          · rename_i hne
            obtain ⟨w2, hw2, hq2⟩ := cl j ⟨w', hw', hq⟩
            rw [hG, Array.getElem?_setIfInBounds, if_neg hne] at hw2
            exact ⟨w2, hw2, hq2⟩
    refine aE_bind (aE_imp (aE_calm tr (coolS_coolS sz).symm (Cl.refl sz)) (fun _ t2 ⟨s2, e2, k2, q2⟩ => ?_) fun _ _ ⟨_, _, _, f⟩ => f)
    refine aE_bind (aE_imp (aE_calm q2 e2 k2) (fun _ t3 ⟨s3, e3, k3, q3⟩ => ?_) fun _ _ ⟨_, _, _, f⟩ => f)
    refine aE_bind (aE_imp (aE_calm q3 e3 k3) (fun okb t4 ⟨s4, e4, k4, q4⟩ => ?_) fun _ _ ⟨_, _, _, f⟩ => f)
    have keepS : ∀ {s4 : Shared}, Stp C (coolS sz) s4 → s4.heap.get? S = some (lstObj acc c) := fun {s4} st => st.keep S _ hSC (by show sz.heap.get? S = _; rw [szh]; exact g1)
    have stk : ∀ {s4 : Shared}, Stp C (coolS sz) s4 → ∀ b o, b ≠ C → s1.heap.get? b = some o → s4.heap.get? b = some o := fun {s4} st b o hb e => st.keep b o hb (by show sz.heap.get? b = _; rw [szh]; exact e)
    have stg : ∀ {s4 t4 : Shared}, s4.gens = (coolS sz).gens → coolS t4 = coolS s4 → t4.gens.map cool = sz.gens.map cool := fun {s4 t4} st e => by
      have h1 : t4.gens.map cool = s4.gens.map cool := (cool_parts e).2.2.2.2
      have h2 : (sz.gens.map cool).map cool = sz.gens.map cool := congrArg Shared.gens (coolS_coolS sz)
      rw [h1, st]
      exact h2
    cases okb with
    | false =>
      simp only [Bool.false_eq_true, if_false] at q4 ⊢
      obtain ⟨en, st⟩ := q4
      obtain ⟨m', n4⟩ := st.ns
      have eh : t4.heap = s4.heap := (cool_parts e4).1
      refine aE_pure ⟨rfl, fin t4 acc c m' (by rw [(cool_parts e4).2.2.2.1, st.os]; exact szo) (stg st.gens e4) k4 (fun b o h1 _ e => by rw [eh]; exact stk st b o h1 e) (by rw [eh]; exact n4) (by rw [eh]; exact keepS st) ?_⟩
      rw [sels_snoc hdq, en]
      simpa using hv
    | true =>
      simp only [if_true] at q4 ⊢
      refine aE_bind (aE_bind (aE_imp (aE_calm q4 e4 k4) (fun u t5 ⟨s5, e5, k5, yv, ey, r5, st⟩ => ?_) fun _ _ ⟨_, _, _, f⟩ => f))
      obtain ⟨m', n5⟩ := st.ns
      have hS5 := keepS st
      have hacc : acc.size = (sels sel items qs).length := by
        have e1 := hv.length
        simpa using e1.symm
      have hlt : acc.size < sizeLine := by
        have := sels_len (sel := sel) (items := items) (qs := qs)
        omega
      have ap : wpAny (model P w) A (call (.builtin "list.append") [.ref S, u]) (fun v s' => ∃ h', s' = { s5 with heap := h' } ∧ Heap.SameBut S s5.heap h' ∧ h'.get? S = some (lstObj (acc.push u) (c + 1))) (fun _ _ => False) s5 :=
        PyProof.Rows.append_at hS5 (fun h' sb e => ⟨h', rfl, sb, e⟩) (Nat.le_of_lt hlt)
      refine aE_bind (aE_imp (aE_calm ap e5 k5) (fun v t6 ⟨s6, e6, k6, h', es6, sb, eS⟩ => ?_) fun _ _ ⟨_, _, _, f⟩ => f)
      subst es6
      have eh : t6.heap = h' := (cool_parts e6).1
      refine aE_pure (aE_pure ⟨rfl, fin t6 (acc.push u) (c + 1) m' (by rw [(cool_parts e6).2.2.2.1]; show s5.os = _; rw [st.os]; exact szo) (stg (s4 := { s5 with heap := h' }) st.gens e6) k6 (fun b o h1 h2 e => by rw [eh]; exact sb.extBut b o h2 (stk st b o h1 e)) (by rw [eh]; exact n5.sameBut sb hSC.symm) (by rw [eh]; exact eS) ?_⟩)
      rw [sels_snoc hdq, ey, Array.toList_push]
      exact hv.append (.cons r5 .nil)
end
end MR
end
section
set_option linter.all false
set_option maxRecDepth 100000
set_option maxHeartbeats 4000000
/-! MC2: a list comprehension straight over a generator, as an expression. -/
namespace MR
open PySem L2 PySem.Spec MG
def tLcG (okI : HO → Prop) (sel : HO → V → Option V) (tg : TGz) : TE := fun σ H Q => tg σ H fun items H1 => items.length ≤ sizeLine ∧ (∀ d ∈ items, okI d) ∧ ∀ H2 qs S, Hx H1 H2 → qs.length = items.length → Out H2 items qs → H2 S = none → Q (.ref S) (upd H2 S (.lst (sels sel items qs)))
theorem cloFrom_none {cells : List (Str × Addr)} : ∀ (names : List (Str × NameKind)) (acc : List (Str × Addr)), (∀ y ∈ names, y.2 = .local) → cloFrom cells names acc = acc
  | [], acc, _ => rfl
  | (n, k) :: r, acc, h => by
    have hk : k = .local := h (n, k) List.mem_cons_self
    subst hk
    unfold cloFrom
    rw [if_neg (by decide)]
    exact cloFrom_none r acc fun y hy => h y (List.mem_cons_of_mem _ hy)
section
variable {P : Program} {w : World} {A : Around} {s : Shared}
theorem pyIterG {a : Addr} {g : Nat} (hg : s.heap.IsGen a g) : anyL (model P w) A (pyIter (.ref a)) (fun v s' => v = .ref a ∧ coolS s' = coolS s ∧ Cl s s') s :=
  aL_imp (aL_calm (s0 := s) (E := fun _ _ => False) (wpAny_pyIter_gen (s := coolS s) (Q := fun v s' => v = .ref a ∧ s' = coolS s) hg ⟨rfl, rfl⟩) (fun _ _ q => q) (coolS_coolS s).symm (Cl.refl s)) fun v s3 ⟨s3c, e3, c3, ev, es⟩ => by
    subst es
    rw [coolS_coolS] at e3
    exact ⟨ev, e3, c3⟩
end
section
variable {X : Cx} {tgt elt e : Expr} {ifs : List Expr} {scope : Scope} {pos : Pos} {okI : HO → Prop} {sel : HO → V → Option V} {tg : TGz} {k : Nat}
theorem z_lcG (nx : NoX X) (h : PGn X k e tg) (hr : Room (k + 3) X.A) (hkind : scope.kind = .function) (hall : ∀ y ∈ scope.names, y.2 = .local)
    (hnames : ∀ x ∈ scope.names, x.2 = .local → scope.names.lookup x.1 = some .local)
    (hstep : ∀ C a, CTurn X.prog X.w X.A tgt elt ifs (compEnvC scope [] C X.env) C a okI sel) (hs : ∀ x, foldedSetIterable e X.env x = pure x := by intro _; rfl) :
    PEz X (.ListComp elt [⟨tgt, e, ifs, 0⟩] scope pos) (tLcG okI sel tg) := ⟨fun ok pins s σ H Q I q => by
  have hcell : ∀ y ∈ scope.names, y.2 ≠ .cell := fun y hy z => by rw [hall y hy] at z; cases z
  have hclos : closureFor scope X.env = pure [] := by
    rw [closure_ok (fun y hy z => by rw [hall y hy] at z; cases z), cloFrom_none _ _ hall]
  rw [eval_ListComp]
  unfold comprehension
  rw [hclos, show clausesOf (.ListComp elt [⟨tgt, e, ifs, 0⟩] scope pos) = [⟨tgt, e, ifs, 0⟩] from rfl]
  refine aL_bind (aL_imp (h.run ok pins s σ H _ I q) fun u s2 ⟨H1, sr, items, Ic, hz, co, hG, hsz, hokI, hQ⟩ => ?_)
  refine aL_bind (aL_stand (aL_bind ?_))
  show anyX X (foldedSetIterable e X.env u) _ _
  rw [hs u]
  refine aL_pure (aL_bind (aL_hold ?_))
  obtain ⟨a, g, c, rfl, ha1, ha2, hg, hgs, hlt, hos, hkp, wake⟩ := hG
  refine aL_imp (pyIterG hg) fun it s3 ⟨ev, e3, c3⟩ => ?_
  subst ev
  show anyE _ X.A (newList [] >>= _) _ (fun _ _ => False) s3
  have st1 : anyE (model X.prog X.w) X.A (newList []) (fun v s' => v = .ref s3.heap.objs.size ∧ s' = { s3 with heap := s3.heap.push { cls := .type "list", data := .seq #[] } }) (fun _ _ => False) s3 :=
    aE_exact (wpAny_newObj_type ⟨rfl, rfl, rfl⟩ (by show 0 ≤ sizeLine; decide))
  refine aE_bind (aE_imp st1 (fun v s4 ⟨ev, es4⟩ => ?_) fun _ _ f => f)
  subst ev
  refine aE_bind (aE_pure ?_)
  have st2 : anyE (model X.prog X.w) X.A (newFunctionEnv scope X.env.globals [] [] X.env.qual none .none (some X.env)) (fun cenv s' => cenv = newEnv scope s4.heap.objs.size X.env.globals [] X.env.qual none .none (some X.env) X.env.builtins ∧
      ∃ h1 tk, s' = { s4 with heap := h1, toks := tk } ∧ h1.Ns s4.heap.objs.size (fun _ => none) ∧ Heap.SameBut s4.heap.objs.size (s4.heap.push { cls := .type "dict", data := .dict #[] }) h1) (fun _ _ => False) s4 :=
    aE_exact (wpAny_newFunctionEnv hcell (by intro y hy; simp at hy) (fun h1 ns1 sb1 => ⟨rfl, rfl, h1, _, rfl, ns1, sb1⟩) hkind)
  refine aE_bind (aE_imp st2 (fun cenv s5 ⟨ec, h1, tk, es5, ns1, sb1⟩ => ?_) fun _ _ f => f)
  subst ec
  dsimp only
  show anyE (model X.prog X.w) X.A (holding [.ref s4.heap.objs.size] _) _ _ s5
  generalize hC : s4.heap.objs.size = C at ns1 sb1 ⊢
  have hSC : s3.heap.objs.size + 1 = C := by rw [← hC, es4]; exact (Heap.size_push ..).symm
  generalize hS : s3.heap.objs.size = S at hSC ⊢
  refine aE_hold (aE_bind (aE_attempt (aE_hold (aE_of (aL_imp (aL_run (c := .compStart (.ListComp elt [⟨tgt, e, ifs, 0⟩] scope pos) 0 (.ref a) (.ref S) (compEnvC scope [] C X.env)) (Q := fun fl s' => ∃ Xc, Xc.prog = X.prog ∧ Xc.w = X.w ∧ Xc.s_0 = coolS sr ∧ Xc.H_0 = H1 ∧ Xc.fs = frs X.stack ∧ (∀ b ∈ Xc.ex, b ∈ [a, S, C] ∧ b < (coolS sr).heap.objs.size) ∧ DrainedC ok Xc S C sel items s') ?_) fun fl s6 hD => ?_)))))
  · have hmk : X.A.mark none = X.A := by cases X.A; rfl
    rw [hmk]
    have h5h : s5.heap = h1 := by rw [es5]
    have loop : ∀ s' : Shared, coolS s' = coolS s5 → Cl s5 s' → flowL (model X.prog X.w) X.A (.compLoop (.ListComp elt [⟨tgt, e, ifs, 0⟩] scope pos) 0 (.ref a) (.ref S) (compEnvC scope [] C X.env))
        (fun fl s' => ∃ Xc, Xc.prog = X.prog ∧ Xc.w = X.w ∧ Xc.s_0 = coolS sr ∧ Xc.H_0 = H1 ∧ Xc.fs = frs X.stack ∧ (∀ b ∈ Xc.ex, b ∈ [a, S, C] ∧ b < (coolS sr).heap.objs.size) ∧ DrainedC ok Xc S C sel items s') s' := fun s' e' c' => by
      obtain ⟨f1, f2, f3, f4, f5⟩ := cool_parts e'
      have eh : s'.heap = h1 := by rw [f1, h5h]
      have eo : s'.os = (coolS sr).os := by
        rw [f4, es5, es4]
        exact ((cool_parts e3).2.2.2.1).trans hos
      have h32 : s3.heap = s2.heap := (cool_parts e3).1
      have hS2 : S = s2.heap.objs.size := by rw [← hS, h32]
      have k4 : ∀ b o, s2.heap.get? b = some o → s4.heap.get? b = some o := fun b o e => by rw [es4, ← h32] at *; exact Heap.get?_push_of_some _ e
      have ltC : ∀ b o, s4.heap.get? b = some o → b ≠ C := fun b o e => by rw [← hC]; exact Nat.ne_of_lt (Heap.lt_size e)
      have k5 : ∀ b o, s4.heap.get? b = some o → s'.heap.get? b = some o := fun b o e => by rw [eh]; exact sb1.extBut b o (ltC b o e) (Heap.get?_push_of_some _ e)
      have kk : ∀ b o, s2.heap.get? b = some o → s'.heap.get? b = some o := fun b o e => k5 b o (k4 b o e)
      have hS4 : s4.heap.get? S = some (lstObj #[] 0) := by rw [es4, ← hS]; exact Heap.get?_push_size _ rfl
      have hS' := k5 _ _ hS4
      have hnC : s'.heap.Ns C (fun _ => none) := by rw [eh]; exact ns1
      have hgs' : s'.gens[g]? = some (.fresh c) := by
        have q : (s'.gens[g]?).map cool = (s2.gens[g]?).map cool := cool_get (by rw [f5, es5, es4]; exact (cool_parts e3).2.2.2.2) g
        rw [hgs] at q
        cases q' : s'.gens[g]? with
        | none => rw [q'] at q; cases q
        | some z =>
          rw [q'] at q
          have q : cool z = cool (.fresh c) := Option.some.inj q
          cases z <;> simp only [cool] at q <;> first | (cases q; rfl) | cases q
      have co' : Cold ok s' := fun j hj => by
        have h5' : Hot s5 j := c' j hj
        have h3' : Hot s3 j := by
          obtain ⟨y, hy, hq⟩ := h5'
          rw [es5, es4] at hy
          exact ⟨y, hy, hq⟩
        exact co j (c3 j h3')
      have gsz : g < s'.gens.size := (Array.getElem?_eq_some_iff.mp hgs').1
      have hCcell : ∃ o, s'.heap.get? C = some o ∧ ∀ v, o.data ≠ .cell v := by
        obtain ⟨o, e1, e2, e3, e4⟩ := hnC
        exact ⟨o, e3, fun v q => by simp_all⟩
      obtain ⟨Xc, x1, x2, x3, x4, x5, x6, seg⟩ := wake ok X.A.in1 [a, S, C] (s'.setGen g .running) ⟨hr.hd, by have := hr.dp; show X.A.depth + 3 * k + 5 < _; omega, by have := hr.un; show X.A.units + 1 + 16 * k + 200 < _; omega⟩ I.inv.ok.frames
        (fun b hb => by
          rcases List.mem_cons.mp hb with rfl | hb
          · exact .inr (.inl rfl)
          · rcases List.mem_cons.mp hb with rfl | hb
            · exact .inr (.inr (Nat.le_of_eq hS2.symm))
            · rw [List.mem_singleton.mp hb]
              exact .inr (.inr (by rw [← hSC, hS2]; exact Nat.le_succ _))) kk (fun b hb => by
          rcases List.mem_cons.mp hb with rfl | hb
          · obtain ⟨o, nm, qn, ho, hc', hd, _⟩ := hg
            exact ⟨o, kk _ _ ho, fun v q => by rw [hd] at q; cases q⟩
          · rcases List.mem_cons.mp hb with rfl | hb
            · exact ⟨_, hS', fun v q => by cases q⟩
            · rw [List.mem_singleton.mp hb]
              exact hCcell) eo ⟨cold_set rfl (s := s') co', by show g < (s'.gens.setIfInBounds g .running).size; rw [Array.size_setIfInBounds]; exact gsz⟩
      have lim2 : s2.heap.NoLimit := Ic.nolimit.keeps hkp
      have hcl : cStatics < s2.heap.objs.size := let ⟨_, hn, _⟩ := lim2; hn.lt
      have naS : a ≠ S := by rw [hS2]; exact Nat.ne_of_lt ha2
      have naC : a ≠ C := by rw [← hSC, hS2]; exact Nat.ne_of_lt (Nat.lt_succ_of_lt ha2)
      have nSC : S ≠ C := by rw [← hSC]; exact Nat.ne_of_lt (Nat.lt_succ_self _)
      have nSc : S ≠ cStatics := by rw [hS2]; exact Nat.ne_of_gt hcl
      have nCc : C ≠ cStatics := by rw [← hSC, hS2]; exact Nat.ne_of_gt (Nat.lt_succ_of_lt hcl)
      refine flowL_imp (compG (Xc := Xc) (ok := ok) (items := items) (okI := okI) (sel := sel) x1 x2 rfl hr.hd (by have := hr.dp; omega) naS naC nSC nSc nCc hsz hokI (hstep C a)
        items.length s' H1 (.fresh c) [] #[] 0 _ (Nat.le_refl _) hS' (by simp [sels]; exact Paired.nil) (by simp) (fun i v e => by simp at e) (by rw [x4]; exact Hx.refl _) ?_ hgs' (lim2.keeps kk) hnC seg) fun fl s' ⟨_, D⟩ => ⟨Xc, x1, x2, x3, x4, x5, x6, D⟩
      obtain ⟨o, nm, qn, ho, hc', hd, hsl⟩ := hg
      exact ⟨o, nm, qn, kk _ _ ho, hc', hd, .inl hsl⟩
    refine flowL_tree ?_
    show anyL _ X.A ((compStart (.ListComp elt [⟨tgt, e, ifs, 0⟩] scope pos) 0 (.ref a) (.ref S) (compEnvC scope [] C X.env)).onRaise _) _ s5
    refine aL_onRaise ?_
    unfold compStart
    show anyE _ _ (ask >>= _) _ (fun _ _ => False) s5
    refine aE_bind (aE_exact (wpAny_askSetting ⟨rfl, ?_⟩))
    show anyE _ _ (if _ then _ else _) _ _ s5
    split
    · exact aE_pure ⟨rfl, loop s5 rfl (Cl.refl s5)⟩
    · refine aE_bind (aE_rule ?_)
      show anyL _ _ (standAt e.pos >>= _) _ s5
      refine aL_bind (aL_stand (aL_bind (aL_imp (pyIterG (g := g) ?_) fun it s6 ⟨ev, e6, c6⟩ => ?_)))
      · obtain ⟨o, nm, qn, ho, r⟩ := hg
        refine ⟨o, nm, qn, ?_, r⟩
        rw [h5h]
        have h32 : s3.heap = s2.heap := (cool_parts e3).1
        have l4 : s4.heap.get? a = some o := by rw [es4, h32]; exact Heap.get?_push_of_some _ ho
        exact sb1.extBut a o (by rw [← hC]; exact Nat.ne_of_lt (Heap.lt_size l4)) (Heap.get?_push_of_some _ l4)
      · subst ev
        exact aL_pure ⟨rfl, loop s6 e6 c6⟩
  · obtain ⟨Xc, x1, x2, x3, x4, x5, x6, H', qs, acc, cc, mC, d1, d2, d3, d4, d5, d6, d7, d8, d9, d9c, d10, nC⟩ := hD
    show anyE (model X.prog X.w) X.A (holding [Value.ref S] (comprehension.letGo (compEnvC scope [] C X.env) _ _) >>= fun _ => pure (Value.ref S)) _ _ s6
    refine aE_bind (aE_hold (aE_exact (wpAny_comp_letGo (cenv := compEnvC scope [] C X.env) hkind _ ({ s6 with gens := #[] } : Shared) mC ?_ nC (fun h' m' _ sb => ⟨rfl, aE_pure ?_⟩))))
    · intro x hx hl
      have hx := (List.mem_filter.mp (List.mem_reverse.mp hx)).1
      exact lookup_relabel_local (hnames x hx hl)
    · have hleS : (coolS sr).heap.objs.size ≤ S := by
        have h32 : s3.heap = s2.heap := (cool_parts e3).1
        rw [← hS, h32]
        exact Nat.le_trans ha1 (Nat.le_of_lt ha2)
      have hleC : (coolS sr).heap.objs.size ≤ C := by rw [← hSC]; exact Nat.le_succ_of_le hleS
      have hex0 : ∀ b, b ∉ Xc.ex := fun b hb => by
        obtain ⟨q1, q2⟩ := x6 b hb
        rcases List.mem_cons.mp q1 with z | z
        · rw [z] at q2; exact absurd q2 (Nat.not_lt.mpr ha1)
        · rcases List.mem_cons.mp z with z | z
          · rw [z] at q2; exact absurd q2 (Nat.not_lt.mpr hleS)
          · rw [List.mem_singleton.mp z] at q2; exact absurd q2 (Nat.not_lt.mpr hleC)
      rw [x3, x4, x5] at d7
      have un : Un (frs X.stack) [] H1 H' (coolS sr).heap s6.heap := d7.mono (fun _ h => h) fun b hb => absurd hb (hex0 b)
      have J := Ic.drained (s' := coolS s6) hleS (by have := sels_len (sel := sel) (items := items) (qs := qs); omega) d1 d2 ExOk.nil (by rw [← x3]; exact d5) (coolS_bare s6) un (by rw [← x1, ← x2]; exact d8) d9
      have nSC : S ≠ C := by rw [← hSC]; exact Nat.ne_of_lt (Nat.lt_succ_self _)
      obtain ⟨f0, f1, f2, f3, f4, f5⟩ := Ic.fpOk (H' := upd H' S (.lst (sels sel items qs))) hleC (by rw [upd_ne (Ne.symm nSC)]; exact d9c)
      refine ⟨.ref S, upd H' S (.lst (sels sel items qs)), ⟨J.turned (t' := s6.toks) (fun b o hb e => sb.extBut b o hb e) f0 f1 f3 f4 f5, fun j hj => d6 j hj⟩, rfl, hQ H' qs S (by rw [← x4]; exact d10) d3 d4 d9⟩⟩
end
end MR
end
section
set_option linter.all false
set_option maxRecDepth 100000
set_option maxHeartbeats 4000000
/-! MC3: turns of comprehensions over a generator: every item as it is. -/
namespace MR
open PySem L2 PySem.Spec MG
section
variable {P : Program} {w : World} {A : Around} {env : Env} {scope : Scope} {C a : Addr} {x : Str} {p1 p2 : Pos}
theorem ct_name (hx : scope.names.lookup x = some .local) (hkind : scope.kind = .function) (hd : (x == ("__debug__" : Str)) = false := by decide) :
    CTurn P w A (.Name x p2) (.Name x p1) [] (compEnvC scope [] C env) C a (fun _ => True) (fun _ v => some v) := ⟨fun s H p d m g _ hp hok hn hg hC => by
  have hl : (compEnvC scope [] C env).kindOf x = some .local := lookup_relabel_local hx
  have hk : (compEnvC scope [] C env).scope.kind = .function := hkind
  refine wpAny_pure ?_
  refine wpAny_assign_Name (wpAny_storeName_local hl hn (fun h' hn' hs' => ?_) (by simp [compEnvC, relabel, hkind]))
  refine wpAny_pure ?_
  rw [if_pos rfl]
  refine wpAny_Name (wpAny_loadName_local hk hl hn' (v := .ref p) (by simp) ⟨.ref p, rfl, rfl, ⟨_, hn'⟩, rfl, rfl, fun b o hbC e => hs'.extBut b o hbC e⟩) hd⟩
/-- a pair of a word and a number; the number, where the word is w -/
def selW (kw : Str) : HO → V → Option V := fun d _ => match d with
  | .tup [.str k, .int n] => if (k.cps.toList == kw.cps.toList) = true then some (.int n) else none
  | _ => none
def Word2 (d : HO) : Prop := ∃ k n, d = .tup [.str k, .int n]
theorem ct_pair {y kw : Str} {p3 p4 p5 p6 p7 : Pos} {x1 : Nat} {j} (hh : A.handled = none) (hx : scope.names.lookup x = some .local) (hy : scope.names.lookup y = some .local) (hxy : x ≠ y) (hkind : scope.kind = .function) (hd : (x == ("__debug__" : Str)) = false := by decide) (hdy : (y == ("__debug__" : Str)) = false := by decide) :
    CTurn P w A (.Tuple [.Name x p1, .Name y p2] x1 p3) (.Name y p4) [.Compare (.Name x p5) [.Eq] [.Constant (.str kw) j p6] p7] (compEnvC scope [] C env) C a Word2 (selW kw) := ⟨fun s H p d m g hw hp hok hn hg hC => by
  obtain ⟨k, n, rfl⟩ := hw
  have hl : (compEnvC scope [] C env).kindOf x = some .local := lookup_relabel_local hx
  have hly : (compEnvC scope [] C env).kindOf y = some .local := lookup_relabel_local hy
  have hk : (compEnvC scope [] C env).scope.kind = .function := hkind
  have hpc : ((compEnvC scope [] C env).scope.kind == .class || ((compEnvC scope [] C env).scope.kind == .module && (compEnvC scope [] C env).locals != (compEnvC scope [] C env).globals)) = false := by simp [compEnvC, relabel, hkind]
  obtain ⟨hz, its, rv, ht⟩ := hok p _ hp
  have hpC : p ≠ C := fun z => by rw [z, hC] at hp; cases hp
  obtain ⟨og, nm, qn, hog, hgc, hgd, _⟩ := hg
  have tp : s.heap.IsTuple p its.toArray := ht
  have hpc' : ("generator" : String) ∉ ["enumerate", "zip", "dict_itemiterator", "dict_reverseitemiterator", "odict_iterator", "itertools.zip_longest", "itertools.pairwise"] := by decide
  have l1 : wpAny (model P w) A (letOwnedTupleGo (.Tuple [.Name x p1, .Name y p2] x1 p3) (.ref a) (.ref p)) (fun _ s' => s' = s) (fun _ _ => False) s := by
    unfold letOwnedTupleGo
    show wpAny _ _ (load a >>= _) _ _ _
    refine wpAny_bind (wpAny_load hog ?_)
    rw [hgc, hgd]
    exact wpAny_pure rfl
  refine wpAny_mono l1 (fun _ s' e => ?_) fun _ _ f => f
  subst e
  cases rv with
  | cons r1 rv => cases rv with
    | cons r2 rv =>
      cases rv
      obtain ⟨t1, rfl⟩ := r1
      obtain ⟨t2, rfl⟩ := r2
      refine wpAny_assign_Tuple hh tp rfl rfl fun h1 hx1 => ?_
      have hnsz : s'.heap.objs.size ≠ C := Nat.ne_of_gt hn.lt
      have hn1 : h1.Ns C m := hn.at' fun o e => hx1 C o (Ne.symm hnsz) e
      show wpAny _ A (do holding [_] (assign (.Name x p1) (compEnvC scope [] C env) (.str k t1)); do holding [] (assign (.Name y p2) (compEnvC scope [] C env) (.int n t2)); pure ()) _ _ _
      refine wpAny_bind (wpAny_holding (wpAny_assign_Name (wpAny_storeName_local hl hn1 (fun h2 hn2 hs2 => ?_) hpc)))
      refine wpAny_bind (wpAny_holding (wpAny_assign_Name (wpAny_storeName_local hly hn2 (fun h3 hn3 hs3 => wpAny_pure ?_) hpc)))
      have keep : ∀ b o, b ≠ C → s'.heap.get? b = some o → h3.get? b = some o := fun b o hb e =>
        hs3.extBut b o hb (hs2.extBut b o hb (hx1 b o (Nat.ne_of_lt (Heap.lt_size e)) e))
      refine wpAny_tests_one (wpAny_isTrue_Compare1 ?_ (by with_unfolding_all rfl))
      refine wpAny_Name (wpAny_loadName_local hk hl hn3 (v := .str k t1) (by simp [hxy]) ?_) hd
      refine wpAny_Constant_str ?_
      refine PySem.P.eq_str ?_
      refine wpAny_truthy_bool ?_
      by_cases hkw : (k.cps.toList == kw.cps.toList) = true
      · rw [hkw, if_pos rfl]
        refine wpAny_Name (wpAny_loadName_local hk hly (s := { s' with heap := h3, toks := _ }) hn3 (v := .int n t2) (by simp) ⟨.int n, by simp only [selW]; rw [if_pos hkw], ⟨t2, rfl⟩, ⟨_, hn3⟩, rfl, rfl, keep⟩) hdy
      · rw [if_neg hkw]
        exact ⟨by simp only [selW]; rw [if_neg hkw], ⟨_, hn3⟩, rfl, rfl, keep⟩⟩
theorem sels_id : ∀ (items : List HO) (qs : List V), qs.length = items.length → sels (fun _ v => some v) items qs = qs
  | [], [], _ => rfl
  | i :: items, q :: qs, h => by
    have h : qs.length = items.length := by simpa using h
    have k := sels_id items qs h
    unfold sels at *
    rw [List.zip_cons_cons, List.filterMap_cons]
    show q :: _ = _
    rw [k]
  | [], _ :: _, h => by simp at h
  | _ :: _, [], h => by simp at h
theorem tLcG_id (tg : TGz) : tLcG (fun _ => True) (fun _ v => some v) tg = tListZ tg := by
  funext σ H Q
  unfold tLcG tListZ
  congr 1
  funext items H1
  refine propext ⟨fun ⟨a, _, b⟩ => ⟨a, fun H2 vs S h1 h2 h3 h4 => ?_⟩, fun ⟨a, b⟩ => ⟨a, fun _ _ => trivial, fun H2 qs S h1 h2 h3 h4 => ?_⟩⟩
  · have := b H2 vs S h1 h2 h3 h4
    rw [sels_id items vs h2] at this
    exact this
  · rw [sels_id items qs h2]
    exact b H2 qs S h1 h2 h3 h4
end
section
variable {X : Cx} {e : Expr} {scope : Scope} {pos p1 p2 : Pos} {tg : TGz} {k : Nat} {x : Str}
/-- [x for x in g(..)] is list(g(..)) -/
theorem z_lcGI (nx : NoX X) (h : PGn X k e tg) (hr : Room (k + 3) X.A) (hkind : scope.kind = .function) (hall : ∀ y ∈ scope.names, y.2 = .local) (hnames : ∀ x ∈ scope.names, x.2 = .local → scope.names.lookup x.1 = some .local)
    (hx : scope.names.lookup x = some .local) (hs : ∀ x, foldedSetIterable e X.env x = pure x := by intro _; rfl) (hd : (x == ("__debug__" : Str)) = false := by decide) :
    PEz X (.ListComp (.Name x p1) [⟨.Name x p2, e, [], 0⟩] scope pos) (tListZ tg) := ⟨fun ok pins s σ H Q I q => by
  refine (z_lcG nx h hr hkind hall hnames (fun C a => ct_name hx hkind hd) hs).run ok pins s σ H Q I ?_
  rw [tLcG_id]
  exact q⟩
end
end MR
end
section
set_option linter.all false
set_option maxRecDepth 100000
set_option maxHeartbeats 4000000
/-! MC4: [number for kind, number in parts(..) if kind == 'margin']. -/
namespace MR
open PySem L2 PySem.Spec MG
section
variable {X : Cx} {e : Expr} {scope : Scope} {pos p1 p2 p3 p4 p5 p6 p7 : Pos} {tg : TGz} {k : Nat} {x y kw : Str} {x1 : Nat} {j}
theorem z_lcGW (nx : NoX X) (h : PGn X k e tg) (hr : Room (k + 3) X.A) (hkind : scope.kind = .function) (hall : ∀ y ∈ scope.names, y.2 = .local) (hnames : ∀ x ∈ scope.names, x.2 = .local → scope.names.lookup x.1 = some .local)
    (hx : scope.names.lookup x = some .local) (hy : scope.names.lookup y = some .local) (hxy : x ≠ y) (hs : ∀ x, foldedSetIterable e X.env x = pure x := by intro _; rfl) (hd : (x == ("__debug__" : Str)) = false := by decide) (hdy : (y == ("__debug__" : Str)) = false := by decide) :
    PEz X (.ListComp (.Name y p4) [⟨.Tuple [.Name x p1, .Name y p2] x1 p3, e, [.Compare (.Name x p5) [.Eq] [.Constant (.str kw) j p6] p7], 0⟩] scope pos) (tLcG Word2 (selW kw) tg) :=
  z_lcG nx h hr hkind hall hnames (fun C a => ct_pair hr.hd hx hy hxy hkind hd hdy) hs
end
end MR
namespace MG
open PySem L2 MR
def marginsOf : List Pt → List Int
  | [] => []
  | .m n :: ps => n :: marginsOf ps
  | .s _ :: ps => marginsOf ps
theorem sels_margins : ∀ (ps : List Pt) (us : List L2.V), us.length = (ps.map Pt.ho).length → MR.sels (MR.selW "margin") (ps.map Pt.ho) us = (marginsOf ps).map .int
  | [], [], _ => rfl
  | [], _ :: _, h => by simp at h
  | _ :: _, [], h => by simp at h
  | p :: ps, u :: us, h => by
    have h : us.length = (ps.map Pt.ho).length := by simpa using h
    have k := sels_margins ps us h
    unfold MR.sels at *
    rw [List.map_cons, List.zip_cons_cons, List.filterMap_cons]
    cases p with
    | m n =>
      have e : MR.selW "margin" (Pt.m n).ho u = some (.int n) := by
        unfold Pt.ho MR.selW
        exact if_pos (by decide +kernel)
      dsimp only
      rw [e]
      dsimp only
      rw [k]; rfl
    | s n =>
      have e : MR.selW "margin" (Pt.s n).ho u = none := by
        unfold Pt.ho MR.selW
        exact if_neg (by decide +kernel)
      dsimp only
      rw [e]
      dsimp only
      rw [k]; rfl
theorem word2_ho (ps : List Pt) : ∀ d ∈ ps.map Pt.ho, MR.Word2 d := fun d hd => by
  obtain ⟨p, _, rfl⟩ := List.mem_map.mp hd
  cases p with
  | m n => exact ⟨_, n, rfl⟩
  | s n => exact ⟨_, n, rfl⟩
theorem rpl_margins {O : AS} {H : Hp} : ∀ ns : List Int, RpL O H (dInts ns) (ns.map .int)
  | [] => RpL.nil
  | n :: ns => RpL.cons rp_int (rpl_margins ns)
section
variable {V : Vol} {δ : List Slot}
theorem xe_margins {d : Nat} {ta : TA} {P : AV → Prop} (h : XA V ta δ fun as => ∃ a bs, as = [a] ∧ a.ok ∧ a.d = Bx.doc bs ∧ Bx.deps bs ≤ d ∧ (Bx.ptss bs).length ≤ sizeLine ∧ P (.new (dInts (marginsOf (Bx.ptss bs))))) :
    XE V (MR.tLcG MR.Word2 (MR.selW "margin") (tCallG (spParts d) ta)) δ P := fun O0 H0 O σ H m Q q =>
  h O0 H0 O σ H m _ fun as vs H1 g1 r1 ⟨a, bs, ea, ka, da, hd, hl, p⟩ => by
    subst ea
    obtain ⟨v, t, ev, h1, h2⟩ := r1
    have h2 : t = [] := h2
    subst h2 ev
    have m1 := m.mono g1
    have rv := m.repD h1 ka
    rw [da] at rv
    refine ⟨_, ⟨bs, v, rfl, hd, Rp.to (fun b xs e => e) (fun b xs _ e => ⟨fun z => z, e⟩) _ _ rv, rfl⟩, by rw [List.length_map]; exact hl, word2_ho _, fun H2 us S hx hlen ho hS => ?_⟩
    rw [sels_margins _ us hlen]
    have g2 : Go V H1 H2 := .same g1.2 hx
    have g3 : Go V H2 (upd H2 S (.lst ((marginsOf (Bx.ptss bs)).map .int))) := .new g2.2 hS
    refine q (.new (dInts (marginsOf (Bx.ptss bs)))) (.ref S) _ ((g1.trans g2).trans g3) ⟨S, _, rfl, (g1.trans g2).none m.ti hS, upd_same, ?_⟩ p
    exact (m1.mono g2).rplNew g3 hS (rpl_margins _)
end
end MG
end
section
set_option linter.all false
set_option maxRecDepth 100000
set_option maxHeartbeats 4000000
/-! law k02: its defs as they stand in the row, printed by mk.py -/
namespace MG
open PySem L2 MR
def topS (i : Nat) : Stmt := PySem.Challenge.pw_marginruns_k02_parts_in_order.main.body.getD i (.Pass ⟨0, 0, 0, 0⟩)
end MG
namespace MR
open PySem L2 MG
abbrev s_parts : Stmt := topS 1
abbrev N_parts : List Str := ["document", "kind", "top", "bottom", "size", "rest"]
theorem sc_parts : GScope N_parts ["document"] (defScope s_parts) := ⟨rfl, rfl, rfl, by decide +kernel, rfl, by decide +kernel, by decide +kernel⟩
theorem lay_block : (D.str "block").lay := by unfold D.lay; decide +kernel
theorem lay_group : (D.str "group").lay := by unfold D.lay; decide +kernel
section
variable {P : Program} {w : World} {K : PySem.W.Frag} {mg : Str → Option Value} {base : Heap}
def sl (kd : Str) (t b s : Int) (rest : List D) : List Slot := [.no, .dat (.str kd), .dat (.int t), .dat (.int b), .dat (.int s), .dat (.lst rest)]
theorem gs_parts {d : Nat} (IH : ∀ d', d = d' + 1 → HasG P w K mg base (2 * d' + 1) "parts" ["document"] (spParts d')) {f : Addr} {cdv : Value} (B : Around) (outer : List Env) (s : Shared) (H : Hp) (vs : List L2.V) (items : List HO) (ex Wl : List Addr) (ok : Nat → Prop) (g : Nat)
    (hr : Room (2 * d) (B.deeper (PyProof.Rows.envOfC "parts" (defScope s_parts) s.heap.objs.size f cdv))) (hsp : spParts d vs H items) (Wt : Watch (gz P w K mg base N_parts "parts" (defScope s_parts) f cdv B outer s H ex) Wl) :
    GS ok (gz P w K mg base N_parts "parts" (defScope s_parts) f cdv B outer s H ex) Wl g items (defBody s_parts) (fun n σ H' => n = items.length ∧ σ = L2.start N_parts vs ∧ H' = H) (fun n σ H' => n = 0) := by
  obtain ⟨bs, v, rfl, hdep, hv, hit⟩ := hsp
  unfold Bx.doc at hv
  unfold Rp at hv
  obtain ⟨a, xs, rfl, ha, hxs⟩ := hv
  have nd : N_parts.Nodup := sc_parts.nd
  have nx : NoX (gz P w K mg base N_parts "parts" (defScope s_parts) f cdv B outer s H ex) := fun _ _ h => h
  have hlen : xs.length = bs.length := by rw [hxs.len, Bx.ds_len]
  refine gs_cons (M' := fun n σ H' => n = 0) (g_for nx rfl (pi_tup (pv 0)) (pg_star rfl (.cons (pg_name (i := 1) nd rfl (Or.inl rfl)) (.cons (pg_name (i := 2) nd rfl (Or.inl rfl)) (.cons (pg_name (i := 3) nd rfl (Or.inl rfl)) (.cons (pg_name (i := 4) nd rfl (Or.inl rfl)) (.star (pg_name (i := 5) nd rfl (Or.inl rfl))) rfl) rfl) rfl) rfl)) bs.length
    (fun i n σ H' => i ≤ bs.length ∧ SA items H (List.replicate 6 .no) (Bx.ptss (bs.drop i)) n σ H')
    (fun i n σ H' => ∃ b, bs[i]? = some b ∧ SA items H (match b with | .blk t m s => sl "block" t m s [] | .grp t m p inner => sl "group" t m p [Bx.doc inner]) (b.pts ++ Bx.ptss (bs.drop (i + 1))) n σ H') ?_ ?_) (gs_nil fun n σ H h => h)
  · rintro n σ H' ⟨rfl, rfl, rfl⟩
    refine ⟨_, rfl, a, rfl, ⟨xs, SqT.of ha⟩, .refl _, ⟨Nat.zero_le _, Nat.le_refl _, by unfold Rem; rw [Nat.sub_self, List.drop_zero, List.drop_zero]; exact hit, .refl _, sh_no rfl⟩, fun i n σ H2 ⟨hi, h⟩ => ⟨hi, fun e => ?_, fun hl => ⟨?_, fun x H3 hy => ?_⟩⟩⟩
    · subst e
      refine ⟨⟨xs, SqT.of (h.hx _ _ ha), by omega⟩, ?_⟩
      have r := h.rem
      rw [List.drop_of_length_le (Nat.le_refl _)] at r
      unfold Bx.ptss Rem at r
      have r := congrArg List.length r
      have le := h.le
      rw [List.length_drop] at r
      simp at r
      omega
    · exact ⟨xs, xs[i]'(by omega), SqT.of (h.hx _ _ ha), List.getElem?_eq_getElem (by omega)⟩
    · obtain ⟨eH, hy⟩ := hy
      subst eH
      have ex := hy xs (SqT.of (h.hx _ _ ha))
      obtain ⟨dd, ed, rd⟩ := hxs.got ex
      rw [Bx.ds_get, List.getElem?_eq_getElem hl] at ed
      have ed : (bs[i]'hl).d = dd := Option.some.inj ed
      subst ed
      have rd := Hx.rp h.hx rd
      have eb : bs[i]? = some (bs[i]'hl) := List.getElem?_eq_getElem hl
      obtain ⟨le, rem, hx, H0, m⟩ := h
      rw [Bx.ptss_drop eb] at rem
      generalize bs[i]'hl = b at rd eb rem
      cases b with
      | blk t bo z =>
        unfold Bx.d at rd
        refine (xg_star (.inl rfl) (by show 4 ≤ 4; omega) (xgs_cons (xg_name (xgs_cons (xg_name (xgs_cons (xg_name (xgs_cons (xg_name (xgs_cons (xg_name (xgs_nil (K := fun δ => δ = sl "block" t bo z []) rfl))))))))))) : XG Vol.nil (gStar K 4 _) _ (List.replicate 6 .no) _) _ _ _ σ H3 x m rd _ fun δ' σ' H' g1 m1 e1 => ?_
        subst e1
        exact ⟨go_hx g1, _, eb, le, rem, hx.trans (go_hx g1), _, m1⟩
      | grp t bo z inner =>
        unfold Bx.d at rd
        refine (xg_star (.inl rfl) (by show 4 ≤ 5; omega) (xgs_cons (xg_name (xgs_cons (xg_name (xgs_cons (xg_name (xgs_cons (xg_name (xgs_cons (xg_name (xgs_nil (K := fun δ => δ = sl "group" t bo z [Bx.doc inner]) rfl))))))))))) : XG Vol.nil (gStar K 4 _) _ (List.replicate 6 .no) _) _ _ _ σ H3 x m rd _ fun δ' σ' H' g1 m1 e1 => ?_
        subst e1
        exact ⟨go_hx g1, _, eb, le, rem, hx.trans (go_hx g1), _, m1⟩
  · intro i hi
    have eb : bs[i]? = some (bs[i]'hi) := List.getElem?_eq_getElem hi
    have hd := Nat.le_trans (Bx.deps_get eb) hdep
    generalize bs[i]'hi = b at eb hd
    have fin : ∀ δ n σ H', δ.length = 6 → SA items H δ (Bx.ptss (bs.drop (i + 1))) n σ H' → i + 1 ≤ bs.length ∧ SA items H (List.replicate 6 .no) (Bx.ptss (bs.drop (i + 1))) n σ H' := fun δ n σ H' hl a =>
      ⟨hi, a.le, a.rem, a.hx, sh_no (by rw [a.sh.len, hl])⟩
    cases b with
    | blk t bo z =>
      refine ga_imp (P := SA items H (sl "block" t bo z []) ((Bx.blk t bo z).pts ++ Bx.ptss (bs.drop (i + 1)))) ?_ (fun n σ H' ⟨b, e, h⟩ => by rw [eb] at e; cases e; exact h)
      unfold Bx.pts
      refine gs_cons (ga_yield (kd := "margin") (j := 2) (p := .m t) nx Wt (pe_tup (pa_cons pe_str (pa_cons (pv 2) pa_nil))) rfl rfl rfl rfl) ?_
      refine gs_cons (ga_if (Q := SA items H (sl "block" t bo z []) (.m bo :: Bx.ptss (bs.drop (i + 1)))) (b0 := true) nx (pt_cmpR (op_eqD hr.units) (pv 1) pe_str (nomark _)) (xt_test (xe_eqD (xe_vard rfl (xe_c ⟨lay_block, lay_block, _, rfl, by decide +kernel⟩)))) (fun _ => ?_) (fun e => Bool.noConfusion e)) ?_
      · exact gs_cons (ga_yield (kd := "solid") (j := 4) (p := .s z) nx Wt (pe_tup (pa_cons pe_str (pa_cons (pv 4) pa_nil))) rfl rfl rfl rfl) (gs_nil fun n σ H h => h)
      · exact gs_cons (ga_yield (kd := "margin") (j := 3) (p := .m bo) nx Wt (pe_tup (pa_cons pe_str (pa_cons (pv 3) pa_nil))) rfl rfl rfl rfl) (gs_nil fun n σ H h => fin _ n σ H rfl h)
    | grp t bo z inner =>
      unfold Bx.dep at hd
      obtain ⟨d', ed⟩ : ∃ d', d = d' + 1 := ⟨d - 1, by omega⟩
      have F := IH d' ed
      refine ga_imp (P := SA items H (sl "group" t bo z [Bx.doc inner]) ((Bx.grp t bo z inner).pts ++ Bx.ptss (bs.drop (i + 1)))) ?_ (fun n σ H' ⟨b, e, h⟩ => by rw [eb] at e; cases e; exact h)
      have e1 : (Bx.grp t bo z inner).pts ++ Bx.ptss (bs.drop (i + 1)) = .m t :: ((if 0 < z then [.s z] else []) ++ (Bx.ptss inner ++ ((if 0 < z then [.s z] else []) ++ (.m bo :: Bx.ptss (bs.drop (i + 1)))))) := by
        rw [Bx.pts]; simp
      rw [e1]
      refine gs_cons (ga_yield (kd := "margin") (j := 2) (p := .m t) nx Wt (pe_tup (pa_cons pe_str (pa_cons (pv 2) pa_nil))) rfl rfl rfl rfl) ?_
      refine gs_cons (ga_if (Q := SA items H (sl "group" t bo z [Bx.doc inner]) (.m bo :: Bx.ptss (bs.drop (i + 1)))) (b0 := false) nx (pt_cmpR (op_eqD hr.units) (pv 1) pe_str (nomark _)) (xt_test (xe_eqD (xe_vard rfl (xe_c ⟨lay_group, lay_block, _, rfl, by decide +kernel⟩)))) (fun e => Bool.noConfusion e) (fun _ => ?_)) ?_
      · refine gs_cons (M' := SA items H (sl "group" t bo z [Bx.doc inner]) (Bx.ptss inner ++ ((if 0 < z then [Pt.s z] else []) ++ (.m bo :: Bx.ptss (bs.drop (i + 1)))))) (ga_if (b0 := decide (0 < z)) nx (pt_cmpR op_gt (pv 4) pe_int (nomark _)) (xt_test (xe_I0 (xe_vard rfl ⟨_, rfl, xe_c ⟨_, rfl, _, rfl, rfl⟩⟩))) (fun e => ?_) (fun e => ?_)) ?_
        · rw [if_pos (of_decide_eq_true e)]
          exact gs_cons (ga_yield (kd := "solid") (j := 4) (p := .s z) nx Wt (pe_tup (pa_cons pe_str (pa_cons (pv 4) pa_nil))) rfl rfl rfl rfl) (gs_nil fun n σ H h => h)
        · rw [if_neg (of_decide_eq_false e)]
          exact gs_nil fun n σ H h => h
        refine gs_cons (ga_yf (k := 2 * d' + 1) nx rfl Wt (pgn_call nx F hr (by omega) (by rfl) (az nx (pa_cons (pe_ix ix_seq (pv 5) pe_int (fun _ _ => rfl)) pa_nil))) (hr.mono (by omega)) rfl rfl rfl
          (xa_cons (xe_ix (xe_vard rfl (xe_c ⟨_, 0, _, .inr rfl, rfl, rfl, xa_nil ⟨_, rfl, trivial, rfl⟩⟩)))) (by omega)) ?_
        refine gs_cons (ga_if (b0 := decide (0 < z)) nx (pt_cmpR op_gt (pv 4) pe_int (nomark _)) (xt_test (xe_I0 (xe_vard rfl ⟨_, rfl, xe_c ⟨_, rfl, _, rfl, rfl⟩⟩))) (fun e => ?_) (fun e => ?_)) (gs_nil fun n σ H h => h)
        · rw [if_pos (of_decide_eq_true e)]
          exact gs_cons (ga_yield (kd := "solid") (j := 4) (p := .s z) nx Wt (pe_tup (pa_cons pe_str (pa_cons (pv 4) pa_nil))) rfl rfl rfl rfl) (gs_nil fun n σ H h => h)
        · rw [if_neg (of_decide_eq_false e)]
          exact gs_nil fun n σ H h => h
      · exact gs_cons (ga_yield (kd := "margin") (j := 3) (p := .m bo) nx Wt (pe_tup (pa_cons pe_str (pa_cons (pv 3) pa_nil))) rfl rfl rfl rfl) (gs_nil fun n σ H h => fin _ n σ H rfl h)
theorem hasG_parts {fa : Addr} {fd : FuncData} (F : Fun K "parts" "parts" s_parts fa fd) (hm : mg "parts" = some (.ref fa)) (d : Nat) : HasG P w K mg base (2 * d + 1) "parts" ["document"] (spParts d) := by
  have step : ∀ d, (∀ d', d = d' + 1 → HasG P w K mg base (2 * d' + 1) "parts" ["document"] (spParts d')) → HasG P w K mg base (2 * d + 1) "parts" ["document"] (spParts d) := fun d IH => by
    have bd : Binds K fd ["document"] [] := F.binds (fun _ _ _ _ _ _ us hl => match us, hl with | [_], _ => rfl)
    obtain ⟨oc, od, kV, doc, pm, an, cdv, ct, osl, rfl, lk, hcd⟩ := F.ex
    refine ⟨⟨fa, _, oc, od, osl, hm, lk, bd, fnG_of lk hcd sc_parts (fun vs H items ⟨bs, v, e, _⟩ => by rw [e]; rfl) fun B outer s H vs items ex Wl ok g hr hsp Wt => ?_⟩⟩
    exact gs_parts IH B outer s H vs items ex Wl ok g hr hsp Wt
  induction d with
  | zero => exact step 0 fun d' e => by omega
  | succ d ih =>
    refine step (d + 1) fun d' e => ?_
    have : d' = d := by omega
    subst this
    exact ih
end
end MR
namespace MG
open PySem L2 MR
structure BI (mg : Str → Option Value) : Prop where
  len : mg "len" = none
  tuple : mg "tuple" = none
  list : mg "list" = none
  isinstance : mg "isinstance" = none
  range : mg "range" = none
  bool : mg "bool" = none
abbrev s__law_draw : Stmt := topS 3
abbrev N__law_draw : List Str := ["tape", "many", "prime", "cell", "found"]
theorem sc__law_draw : FnScope N__law_draw ["tape", "many"] (defScope s__law_draw) := ⟨rfl, rfl, rfl, by decide +kernel, rfl, by decide +kernel, by decide +kernel⟩
theorem ps__law_draw {P : Program} {w : World} {K : PySem.W.Frag} {mg : Str → Option Value} {base : Heap} {j : Nat} (B : BI mg) {f : Addr} {cdv : Value} {A : Around} {outer : List Env} {s : Shared} {H : Hp} {E : XK} (hr : Room j (A.deeper (PyProof.Rows.envOfC "_law_draw" (defScope s__law_draw) s.heap.objs.size f cdv))) :
    PSs (cxOf CX0 P w K mg base N__law_draw "_law_draw" (defScope s__law_draw) f cdv A outer s H E).nox (defBody s__law_draw) (ts__law_draw K) := by
  have nd : N__law_draw.Nodup := sc__law_draw.nd
  exact (pss_cons (ps_set (i := 2) nd rfl (Or.inl rfl) pe_int)
    (pss_cons (ps_if (pt_cmpR op_lt (pe_ix ix_seq (pv 0) pe_int (fun _ _ => rfl)) (pv 1) (nomark _))
    (pss_cons (ps_set (i := 3) nd rfl (Or.inl rfl) pe_int)
    (pss_cons (ps_if (pt_cmpR op_gt (pe_callB cr_lenQ (by rfl) B.len (by decide +kernel) (pa_cons (pe_ix ix_seq (pv 0) pe_int (fun _ _ => rfl)) pa_nil)) pe_int (nomark _))
    (pss_one (ps_set (i := 3) nd rfl (Or.inl rfl) (pe_ix ix_seq (pe_ix ix_seq (pv 0) pe_int (fun _ _ => rfl)) (pe_op op_mod (pe_ix ix_seq (pv 0) pe_int (fun _ _ => rfl)) (pe_callB cr_lenQ (by rfl) B.len (by decide +kernel) (pa_cons (pe_ix ix_seq (pv 0) pe_int (fun _ _ => rfl)) pa_nil))) (fun _ _ => rfl))))
    pss_nil)
    (pss_cons (ps_if (PW.pt (pw_or (pt_cmpR op_ge (pe_ix ix_seq (pv 0) pe_int (fun _ _ => rfl)) (pe_callB cr_lenQ (by rfl) B.len (by decide +kernel) (pa_cons (pe_ix ix_seq (pv 0) pe_int (fun _ _ => rfl)) pa_nil)) (nomark _)) (pw_or1 (pt_cmpR op_lt (pv 3) (pe_op op_pow pe_int pe_int) (nomark _)))))
    (pss_cons (ps_set (i := 3) nd rfl (Or.inl rfl) (pe_op op_mod (pe_op op_add (pv 3) (pe_op op_mul pe_int (pe_ix ix_seq (pv 0) pe_int (fun _ _ => rfl)))) (pv 2)))
    (pss_cons (ps_set (i := 3) nd rfl (Or.inl rfl) (pe_op op_mod (pe_op op_add (pe_op op_add (pe_op op_mul (pv 3) (pv 3)) (pe_op op_mul pe_int (pv 3))) pe_int) (pv 2)))
    (pss_one (ps_set (i := 3) nd rfl (Or.inl rfl) (pe_op op_mod (pe_op op_add (pe_op op_mul (pv 3) (pv 3)) pe_int) (pv 2))))))
    pss_nil)
    (pss_cons (ps_asg (pe_op op_add (pe_ix ix_seq (pv 0) pe_int (fun _ _ => rfl)) pe_int) (pg_sub (pv 0) pe_int set_list))
    (pss_one (ps_asg (pv 3) (pg_sub (pv 0) pe_int set_list)))))))
    pss_nil)
    (pss_cons (ps_set (i := 4) nd rfl (Or.inl rfl) (pe_op op_mod (pe_ix ix_seq (pv 0) pe_int (fun _ _ => rfl)) (pv 1)))
    (pss_cons (ps_asg (pe_op op_fdivW (pe_ix ix_seq (pv 0) pe_int (fun _ _ => rfl)) (pv 1)) (pg_sub (pv 0) pe_int set_list))
    (pss_one (ps_ret (pv 4)))))))
theorem has__law_draw {P : Program} {w : World} {K : PySem.W.Frag} {mg : Str → Option Value} {base : Heap} {j : Nat} (B : BI mg) {fa : Addr} {fd : FuncData} (F : L2.Fun K "_law_draw" "_law_draw" s__law_draw fa fd) (hm : mg "_law_draw" = some (.ref fa)) {ι : Type} {tp : ι → Vol → Prop} {sp : ι → ASp} (len : ∀ i ds P, sp i ds P → ds.length + 1 = 2)
    (hx : ∀ i V, tp i V → ∀ ds P, sp i ds P → XS V (ts__law_draw K) (Slot.tape :: (ds.map Slot.dat ++ List.replicate 3 .no)) { nx := fun _ => P (.dat .non), rt := P }) : Has P w K mg base (j + 1) "_law_draw" ["tape", "many"] (LiftI tp sp) ∧ HasZ P w K mg base (j + 1) "_law_draw" ["tape", "many"] (LiftI tp sp) :=
  has_of F hm (F.binds (fun _ _ _ _ _ _ us hl => match us, hl with | [_, _], _ => rfl)) (liftI_of F sc__law_draw (by decide) len _ (fun cdv A outer s H E hr => ps__law_draw B hr) hx)
abbrev s__law_like : Stmt := topS 4
abbrev N__law_like : List Str := ["one", "two", "k"]
theorem sc__law_like : FnScope N__law_like ["one", "two"] (defScope s__law_like) := ⟨rfl, rfl, rfl, by decide +kernel, rfl, by decide +kernel, by decide +kernel⟩
theorem ps__law_like {P : Program} {w : World} {K : PySem.W.Frag} {mg : Str → Option Value} {base : Heap} {j : Nat} (B : BI mg) {k_law_like : Nat} {p_law_like : List Str} {c_law_like : Sp} (H_law_like : Has P w K mg base k_law_like "_law_like" p_law_like c_law_like) (h_law_like : k_law_like ≤ j) {f : Addr} {cdv : Value} {A : Around} {outer : List Env} {s : Shared} {H : Hp} {E : XK} (hr : Room j (A.deeper (PyProof.Rows.envOfC "_law_like" (defScope s__law_like) s.heap.objs.size f cdv))) :
    PSs (cxOf CX0 P w K mg base N__law_like "_law_like" (defScope s__law_like) f cdv A outer s H E).nox (defBody s__law_like) (ts__law_like K c_law_like) := by
  have nd : N__law_like.Nodup := sc__law_like.nd
  exact (pss_cons (ps_if (pt_val (pe_callB call_isiT (by rfl) B.isinstance (by decide +kernel) (pa_cons (pv 0) (pa_cons (pe_tup (pa_cons (pe_bltn (v := .ty "list") (by rfl) B.list (by decide +kernel) rfl) (pa_cons (pe_bltn (v := .ty "tuple") (by rfl) B.tuple (by decide +kernel) rfl) pa_nil))) pa_nil))))
    (pss_cons (ps_if (PW.pt (pw_or (pt_cmpR (op_neD hr.units) (pe_callB call_isi (by rfl) B.isinstance (by decide +kernel) (pa_cons (pv 0) (pa_cons (pe_bltn (v := .ty "list") (by rfl) B.list (by decide +kernel) rfl) pa_nil))) (pe_callB call_isi (by rfl) B.isinstance (by decide +kernel) (pa_cons (pv 1) (pa_cons (pe_bltn (v := .ty "list") (by rfl) B.list (by decide +kernel) rfl) pa_nil))) (nomark _)) (pw_or1 (pt_cmpR (op_neD hr.units) (pe_callB call_isi (by rfl) B.isinstance (by decide +kernel) (pa_cons (pv 0) (pa_cons (pe_bltn (v := .ty "tuple") (by rfl) B.tuple (by decide +kernel) rfl) pa_nil))) (pe_callB call_isi (by rfl) B.isinstance (by decide +kernel) (pa_cons (pv 1) (pa_cons (pe_bltn (v := .ty "tuple") (by rfl) B.tuple (by decide +kernel) rfl) pa_nil))) (nomark _)))))
    (pss_one (ps_ret pe_bl))
    pss_nil)
    (pss_cons (ps_if (pt_cmpR (op_neD hr.units) (pe_callB cr_lenQ (by rfl) B.len (by decide +kernel) (pa_cons (pv 0) pa_nil)) (pe_callB cr_lenQ (by rfl) B.len (by decide +kernel) (pa_cons (pv 1) pa_nil)) (nomark _))
    (pss_one (ps_ret pe_bl))
    pss_nil)
    (pss_one (ps_ret (pe_cmpR (op_eqD hr.units) (pe_lc (own := [("k", 2)]) (g := (gName 2)) (tt := (tNot (tB (tCall c_law_like [] E0 (tCons (tOp (rIx K) (tVar 0) (tVar 2)) (tCons (tOp (rIx K) (tVar 1) (tVar 2)) tNil)))))) rfl nd (pi_range1 (by rfl) B.range (pa_cons (pe_callB cr_lenQ (by rfl) B.len (by decide +kernel) (pa_cons (pv 0) pa_nil)) pa_nil)) (blkOk_by (own := [("k", 2)]) (N := N__law_like) (sc := defScope s__law_like) (by decide +kernel)) (fun _ _ _ _ _ => (pg_name (i := 2) nd rfl (Or.inl rfl))) (fun _ _ _ _ _ => (pts_one (pt_not (pt_val (pe_callH H_law_like hr h_law_like (by rfl) (pa_cons (pe_ix ix_seq (pv 0) (pv 2) (fun _ _ => rfl)) (pa_cons (pe_ix ix_seq (pv 1) (pv 2) (fun _ _ => rfl)) pa_nil))))))) (fun _ _ _ _ _ => (pv 2))) (pe_lst pa_nil) (nomark _))))))
    pss_nil)
    (pss_cons (ps_if (pt_val (pe_callB call_isiT (by rfl) B.isinstance (by decide +kernel) (pa_cons (pv 1) (pa_cons (pe_tup (pa_cons (pe_bltn (v := .ty "list") (by rfl) B.list (by decide +kernel) rfl) (pa_cons (pe_bltn (v := .ty "tuple") (by rfl) B.tuple (by decide +kernel) rfl) pa_nil))) pa_nil))))
    (pss_one (ps_ret pe_bl))
    pss_nil)
    (pss_one (ps_ret (pe_and (pe_cmpR (op_eqD hr.units) (pe_callB call_isi (by rfl) B.isinstance (by decide +kernel) (pa_cons (pv 0) (pa_cons (pe_bltn (v := .ty "bool") (by rfl) B.bool (by decide +kernel) rfl) pa_nil))) (pe_callB call_isi (by rfl) B.isinstance (by decide +kernel) (pa_cons (pv 1) (pa_cons (pe_bltn (v := .ty "bool") (by rfl) B.bool (by decide +kernel) rfl) pa_nil))) (nomark _)) (pe_one (pe_cmpR (op_eqD hr.units) (pv 0) (pv 1) (nomark _))))))))
theorem has__law_like {P : Program} {w : World} {K : PySem.W.Frag} {mg : Str → Option Value} {base : Heap} {j : Nat} (B : BI mg) {k_law_like : Nat} {p_law_like : List Str} {c_law_like : Sp} (H_law_like : Has P w K mg base k_law_like "_law_like" p_law_like c_law_like) (h_law_like : k_law_like ≤ j) {fa : Addr} {fd : FuncData} (F : L2.Fun K "_law_like" "_law_like" s__law_like fa fd) (hm : mg "_law_like" = some (.ref fa)) {sp : ASp} (len : ∀ ds P, sp ds P → ds.length = 2)
    (hx : ∀ ds P, sp ds P → XS Vol.nil (ts__law_like K c_law_like) (ds.map Slot.dat ++ List.replicate 1 .no) { nx := fun _ => P (.dat .non), rt := P }) : Has P w K mg base (j + 1) "_law_like" ["one", "two"] (Lift sp) ∧ HasZ P w K mg base (j + 1) "_law_like" ["one", "two"] (Lift sp) :=
  has_of F hm (F.binds (fun _ _ _ _ _ _ us hl => match us, hl with | [_, _], _ => rfl)) (lift_of F sc__law_like (by decide) len _ (fun cdv A outer s H E hr => ps__law_like B H_law_like h_law_like hr) hx)
abbrev s__law_margin : Stmt := topS 5
abbrev N__law_margin : List Str := ["tape", "wide", "size"]
theorem sc__law_margin : FnScope N__law_margin ["tape", "wide"] (defScope s__law_margin) := ⟨rfl, rfl, rfl, by decide +kernel, rfl, by decide +kernel, by decide +kernel⟩
theorem ps__law_margin {P : Program} {w : World} {K : PySem.W.Frag} {mg : Str → Option Value} {base : Heap} {j : Nat} (B : BI mg) {k_law_draw : Nat} {p_law_draw : List Str} {c_law_draw : Sp} (H_law_draw : Has P w K mg base k_law_draw "_law_draw" p_law_draw c_law_draw) (h_law_draw : k_law_draw ≤ j) {f : Addr} {cdv : Value} {A : Around} {outer : List Env} {s : Shared} {H : Hp} {E : XK} (hr : Room j (A.deeper (PyProof.Rows.envOfC "_law_margin" (defScope s__law_margin) s.heap.objs.size f cdv))) :
    PSs (cxOf CX0 P w K mg base N__law_margin "_law_margin" (defScope s__law_margin) f cdv A outer s H E).nox (defBody s__law_margin) (ts__law_margin K c_law_draw) := by
  have nd : N__law_margin.Nodup := sc__law_margin.nd
  exact (pss_cons (ps_set (i := 2) nd rfl (Or.inl rfl) (pe_callH H_law_draw hr h_law_draw (by rfl) (pa_cons (pv 0) (pa_cons (pe_op op_add (pv 1) pe_int) pa_nil))))
    (pss_one (ps_ret (pe_ix ix_seq (pe_lst (pa_cons pe_int (pa_cons (pv 2) (pa_cons (pv 2) (pa_cons (pe_un un_neg (pv 2)) pa_nil))))) (pe_callH H_law_draw hr h_law_draw (by rfl) (pa_cons (pv 0) (pa_cons pe_int pa_nil))) (fun _ _ => rfl)))))
theorem has__law_margin {P : Program} {w : World} {K : PySem.W.Frag} {mg : Str → Option Value} {base : Heap} {j : Nat} (B : BI mg) {k_law_draw : Nat} {p_law_draw : List Str} {c_law_draw : Sp} (H_law_draw : Has P w K mg base k_law_draw "_law_draw" p_law_draw c_law_draw) (h_law_draw : k_law_draw ≤ j) {fa : Addr} {fd : FuncData} (F : L2.Fun K "_law_margin" "_law_margin" s__law_margin fa fd) (hm : mg "_law_margin" = some (.ref fa)) {ι : Type} {tp : ι → Vol → Prop} {sp : ι → ASp} (len : ∀ i ds P, sp i ds P → ds.length + 1 = 2)
    (hx : ∀ i V, tp i V → ∀ ds P, sp i ds P → XS V (ts__law_margin K c_law_draw) (Slot.tape :: (ds.map Slot.dat ++ List.replicate 1 .no)) { nx := fun _ => P (.dat .non), rt := P }) : Has P w K mg base (j + 1) "_law_margin" ["tape", "wide"] (LiftI tp sp) ∧ HasZ P w K mg base (j + 1) "_law_margin" ["tape", "wide"] (LiftI tp sp) :=
  has_of F hm (F.binds (fun _ _ _ _ _ _ us hl => match us, hl with | [_, _], _ => rfl)) (liftI_of F sc__law_margin (by decide) len _ (fun cdv A outer s H E hr => ps__law_margin B H_law_draw h_law_draw hr) hx)
abbrev s__law_boxes : Stmt := topS 6
abbrev N__law_boxes : List Str := ["tape", "left", "depth", "wide", "found", "k", "top", "bottom", "padding", "inner"]
theorem sc__law_boxes : FnScope N__law_boxes ["tape", "left", "depth", "wide"] (defScope s__law_boxes) := ⟨rfl, rfl, rfl, by decide +kernel, rfl, by decide +kernel, by decide +kernel⟩
theorem ps__law_boxes {P : Program} {w : World} {K : PySem.W.Frag} {mg : Str → Option Value} {base : Heap} {j : Nat} (B : BI mg) {k_law_draw : Nat} {p_law_draw : List Str} {c_law_draw : Sp} (H_law_draw : Has P w K mg base k_law_draw "_law_draw" p_law_draw c_law_draw) (h_law_draw : k_law_draw ≤ j) {k_law_margin : Nat} {p_law_margin : List Str} {c_law_margin : Sp} (H_law_margin : Has P w K mg base k_law_margin "_law_margin" p_law_margin c_law_margin) (h_law_margin : k_law_margin ≤ j) {k_law_boxes : Nat} {p_law_boxes : List Str} {c_law_boxes : Sp} (H_law_boxes : Has P w K mg base k_law_boxes "_law_boxes" p_law_boxes c_law_boxes) (h_law_boxes : k_law_boxes ≤ j) {f : Addr} {cdv : Value} {A : Around} {outer : List Env} {s : Shared} {H : Hp} {E : XK} (hr : Room j (A.deeper (PyProof.Rows.envOfC "_law_boxes" (defScope s__law_boxes) s.heap.objs.size f cdv))) :
    PSs (cxOf CX0 P w K mg base N__law_boxes "_law_boxes" (defScope s__law_boxes) f cdv A outer s H E).nox (defBody s__law_boxes) (ts__law_boxes K c_law_draw c_law_margin c_law_boxes) := by
  have nd : N__law_boxes.Nodup := sc__law_boxes.nd
  exact (pss_cons (ps_set (i := 4) nd rfl (Or.inl rfl) (pe_tup pa_nil))
    (pss_cons (ps_for PassesOwn.never rfl (pi_range1 (by rfl) B.range (pa_cons (pe_callH H_law_draw hr h_law_draw (by rfl) (pa_cons (pv 0) (pa_cons pe_int pa_nil))) pa_nil)) (pg_name (i := 5) nd rfl (Or.inl rfl))
    (pss_one (ps_if (pt_cmpR op_gt (pe_ix ix_seq (pv 1) pe_int (fun _ _ => rfl)) pe_int (nomark _))
    (pss_cons (ps_asg (pe_op op_sub (pe_ix ix_seq (pv 1) pe_int (fun _ _ => rfl)) pe_int) (pg_sub (pv 1) pe_int set_list))
    (pss_cons (ps_par (i := 6) (j := 7) rfl nd rfl rfl (by decide) rfl rfl (pa_cons (pe_callH H_law_margin hr h_law_margin (by rfl) (pa_cons (pv 0) (pa_cons (pv 3) pa_nil))) (pa_cons (pe_callH H_law_margin hr h_law_margin (by rfl) (pa_cons (pv 0) (pa_cons (pv 3) pa_nil))) pa_nil)) (by rfl))
    (pss_one (ps_if (PW.pt (pw_or (pt_cmpR (op_eqD hr.units) (pv 2) pe_int (nomark _)) (pw_or1 (pt_cmpR (op_eqD hr.units) (pe_callH H_law_draw hr h_law_draw (by rfl) (pa_cons (pv 0) (pa_cons pe_int pa_nil))) pe_int (nomark _)))))
    (pss_one (ps_set (i := 4) nd rfl (Or.inl rfl) (pe_op op_catA (pv 4) (pe_tup (pa_cons (pe_tup (pa_cons pe_str (pa_cons (pv 6) (pa_cons (pv 7) (pa_cons (pe_op op_add pe_int (pe_callH H_law_draw hr h_law_draw (by rfl) (pa_cons (pv 0) (pa_cons pe_int pa_nil)))) pa_nil))))) pa_nil)))))
    (pss_cons (ps_set (i := 8) nd rfl (Or.inl rfl) (pe_ix ix_seq (pe_lst (pa_cons pe_int (pa_cons pe_int (pa_cons pe_int (pa_cons (pe_callH H_law_draw hr h_law_draw (by rfl) (pa_cons (pv 0) (pa_cons pe_int pa_nil))) pa_nil))))) (pe_callH H_law_draw hr h_law_draw (by rfl) (pa_cons (pv 0) (pa_cons pe_int pa_nil))) (fun _ _ => rfl)))
    (pss_cons (ps_set (i := 9) nd rfl (Or.inl rfl) (pe_callH H_law_boxes hr h_law_boxes (by rfl) (pa_cons (pv 0) (pa_cons (pv 1) (pa_cons (pe_op op_sub (pv 2) pe_int) (pa_cons (pv 3) pa_nil))))))
    (pss_one (ps_set (i := 4) nd rfl (Or.inl rfl) (pe_op op_catA (pv 4) (pe_tup (pa_cons (pe_tup (pa_cons pe_str (pa_cons (pv 6) (pa_cons (pv 7) (pa_cons (pv 8) (pa_cons (pv 9) pa_nil)))))) pa_nil)))))))))))
    pss_nil)))
    (pss_one (ps_ret (pv 4)))))
theorem has__law_boxes {P : Program} {w : World} {K : PySem.W.Frag} {mg : Str → Option Value} {base : Heap} {j : Nat} (B : BI mg) {k_law_draw : Nat} {p_law_draw : List Str} {c_law_draw : Sp} (H_law_draw : Has P w K mg base k_law_draw "_law_draw" p_law_draw c_law_draw) (h_law_draw : k_law_draw ≤ j) {k_law_margin : Nat} {p_law_margin : List Str} {c_law_margin : Sp} (H_law_margin : Has P w K mg base k_law_margin "_law_margin" p_law_margin c_law_margin) (h_law_margin : k_law_margin ≤ j) {k_law_boxes : Nat} {p_law_boxes : List Str} {c_law_boxes : Sp} (H_law_boxes : Has P w K mg base k_law_boxes "_law_boxes" p_law_boxes c_law_boxes) (h_law_boxes : k_law_boxes ≤ j) {fa : Addr} {fd : FuncData} (F : L2.Fun K "_law_boxes" "_law_boxes" s__law_boxes fa fd) (hm : mg "_law_boxes" = some (.ref fa)) {ι : Type} {tp : ι → Vol → Prop} {sp : ι → ASp} (len : ∀ i ds P, sp i ds P → ds.length + 1 = 4)
    (hx : ∀ i V, tp i V → ∀ ds P, sp i ds P → XS V (ts__law_boxes K c_law_draw c_law_margin c_law_boxes) (Slot.tape :: (ds.map Slot.dat ++ List.replicate 6 .no)) { nx := fun _ => P (.dat .non), rt := P }) : Has P w K mg base (j + 1) "_law_boxes" ["tape", "left", "depth", "wide"] (LiftI tp sp) ∧ HasZ P w K mg base (j + 1) "_law_boxes" ["tape", "left", "depth", "wide"] (LiftI tp sp) :=
  has_of F hm (F.binds (fun _ _ _ _ _ _ us hl => match us, hl with | [_, _, _, _], _ => rfl)) (liftI_of F sc__law_boxes (by decide) len _ (fun cdv A outer s H E hr => ps__law_boxes B H_law_draw h_law_draw H_law_margin h_law_margin H_law_boxes h_law_boxes hr) hx)
abbrev s__law_document : Stmt := topS 7
abbrev N__law_document : List Str := ["tape", "most", "wide"]
theorem sc__law_document : FnScope N__law_document ["tape", "most", "wide"] (defScope s__law_document) := ⟨rfl, rfl, rfl, by decide +kernel, rfl, by decide +kernel, by decide +kernel⟩
theorem ps__law_document {P : Program} {w : World} {K : PySem.W.Frag} {mg : Str → Option Value} {base : Heap} {j : Nat} (B : BI mg) {k_law_boxes : Nat} {p_law_boxes : List Str} {c_law_boxes : Sp} (H_law_boxes : Has P w K mg base k_law_boxes "_law_boxes" p_law_boxes c_law_boxes) (h_law_boxes : k_law_boxes ≤ j) {f : Addr} {cdv : Value} {A : Around} {outer : List Env} {s : Shared} {H : Hp} {E : XK} (hr : Room j (A.deeper (PyProof.Rows.envOfC "_law_document" (defScope s__law_document) s.heap.objs.size f cdv))) :
    PSs (cxOf CX0 P w K mg base N__law_document "_law_document" (defScope s__law_document) f cdv A outer s H E).nox (defBody s__law_document) (ts__law_document K c_law_boxes) := by
  have nd : N__law_document.Nodup := sc__law_document.nd
  exact (pss_one (ps_ret (pe_callH H_law_boxes hr h_law_boxes (by rfl) (pa_cons (pv 0) (pa_cons (pe_lst (pa_cons (pv 1) pa_nil)) (pa_cons pe_int (pa_cons (pv 2) pa_nil)))))))
theorem has__law_document {P : Program} {w : World} {K : PySem.W.Frag} {mg : Str → Option Value} {base : Heap} {j : Nat} (B : BI mg) {k_law_boxes : Nat} {p_law_boxes : List Str} {c_law_boxes : Sp} (H_law_boxes : Has P w K mg base k_law_boxes "_law_boxes" p_law_boxes c_law_boxes) (h_law_boxes : k_law_boxes ≤ j) {fa : Addr} {fd : FuncData} (F : L2.Fun K "_law_document" "_law_document" s__law_document fa fd) (hm : mg "_law_document" = some (.ref fa)) {ι : Type} {tp : ι → Vol → Prop} {sp : ι → ASp} (len : ∀ i ds P, sp i ds P → ds.length + 1 = 3)
    (hx : ∀ i V, tp i V → ∀ ds P, sp i ds P → XS V (ts__law_document K c_law_boxes) (Slot.tape :: (ds.map Slot.dat ++ List.replicate 0 .no)) { nx := fun _ => P (.dat .non), rt := P }) : Has P w K mg base (j + 1) "_law_document" ["tape", "most", "wide"] (LiftI tp sp) ∧ HasZ P w K mg base (j + 1) "_law_document" ["tape", "most", "wide"] (LiftI tp sp) :=
  has_of F hm (F.binds (fun _ _ _ _ _ _ us hl => match us, hl with | [_, _, _], _ => rfl)) (liftI_of F sc__law_document (by decide) len _ (fun cdv A outer s H E hr => ps__law_document B H_law_boxes h_law_boxes hr) hx)
abbrev s__law_parts : Stmt := topS 8
abbrev N__law_parts : List Str := ["document", "found", "box", "edge"]
theorem sc__law_parts : FnScope N__law_parts ["document"] (defScope s__law_parts) := ⟨rfl, rfl, rfl, by decide +kernel, rfl, by decide +kernel, by decide +kernel⟩
theorem ps__law_parts {P : Program} {w : World} {K : PySem.W.Frag} {mg : Str → Option Value} {base : Heap} {j : Nat} (B : BI mg) {k_law_parts : Nat} {p_law_parts : List Str} {c_law_parts : Sp} (H_law_parts : Has P w K mg base k_law_parts "_law_parts" p_law_parts c_law_parts) (h_law_parts : k_law_parts ≤ j) {f : Addr} {cdv : Value} {A : Around} {outer : List Env} {s : Shared} {H : Hp} {E : XK} (hr : Room j (A.deeper (PyProof.Rows.envOfC "_law_parts" (defScope s__law_parts) s.heap.objs.size f cdv))) :
    PSs (cxOf CX0 P w K mg base N__law_parts "_law_parts" (defScope s__law_parts) f cdv A outer s H E).nox (defBody s__law_parts) (ts__law_parts K c_law_parts) := by
  have nd : N__law_parts.Nodup := sc__law_parts.nd
  exact (pss_cons (ps_set (i := 1) nd rfl (Or.inl rfl) (pe_lst pa_nil))
    (pss_cons (ps_for PassesOwn.never rfl (pi_tup (pv 0)) (pg_name (i := 2) nd rfl (Or.inl rfl))
    (pss_cons (ps_expr (pe_bm PySem.F.plainAttrs_list PySem.F.slot_list_append PySem.F.type_list_append mt_append (pv 1) (pa_cons (pe_tup (pa_cons pe_str (pa_cons (pe_ix ix_seq (pv 2) pe_int (fun _ _ => rfl)) pa_nil))) pa_nil)))
    (pss_cons (ps_if (pt_cmpR (op_eqD hr.units) (pe_ix ix_seq (pv 2) pe_int (fun _ _ => rfl)) pe_str (nomark _))
    (pss_one (ps_expr (pe_bm PySem.F.plainAttrs_list PySem.F.slot_list_append PySem.F.type_list_append mt_append (pv 1) (pa_cons (pe_tup (pa_cons pe_str (pa_cons (pe_ix ix_seq (pv 2) pe_int (fun _ _ => rfl)) pa_nil))) pa_nil))))
    (pss_cons (ps_set (i := 3) nd rfl (Or.inl rfl) (pe_ifExp (pt_cmpR op_gt (pe_ix ix_seq (pv 2) pe_int (fun _ _ => rfl)) pe_int (nomark _)) (pe_lst (pa_cons (pe_tup (pa_cons pe_str (pa_cons (pe_ix ix_seq (pv 2) pe_int (fun _ _ => rfl)) pa_nil))) pa_nil)) (pe_lst pa_nil)))
    (pss_one (ps_set (i := 1) nd rfl (Or.inl rfl) (pe_op op_cat (pe_op op_cat (pe_op op_cat (pv 1) (pv 3)) (pe_callH H_law_parts hr h_law_parts (by rfl) (pa_cons (pe_ix ix_seq (pv 2) pe_int (fun _ _ => rfl)) pa_nil))) (pv 3))))))
    (pss_one (ps_expr (pe_bm PySem.F.plainAttrs_list PySem.F.slot_list_append PySem.F.type_list_append mt_append (pv 1) (pa_cons (pe_tup (pa_cons pe_str (pa_cons (pe_ix ix_seq (pv 2) pe_int (fun _ _ => rfl)) pa_nil))) pa_nil)))))))
    (pss_one (ps_ret (pv 1)))))
theorem has__law_parts {P : Program} {w : World} {K : PySem.W.Frag} {mg : Str → Option Value} {base : Heap} {j : Nat} (B : BI mg) {k_law_parts : Nat} {p_law_parts : List Str} {c_law_parts : Sp} (H_law_parts : Has P w K mg base k_law_parts "_law_parts" p_law_parts c_law_parts) (h_law_parts : k_law_parts ≤ j) {fa : Addr} {fd : FuncData} (F : L2.Fun K "_law_parts" "_law_parts" s__law_parts fa fd) (hm : mg "_law_parts" = some (.ref fa)) {sp : ASp} (len : ∀ ds P, sp ds P → ds.length = 1)
    (hx : ∀ ds P, sp ds P → XS Vol.nil (ts__law_parts K c_law_parts) (ds.map Slot.dat ++ List.replicate 3 .no) { nx := fun _ => P (.dat .non), rt := P }) : Has P w K mg base (j + 1) "_law_parts" ["document"] (Lift sp) ∧ HasZ P w K mg base (j + 1) "_law_parts" ["document"] (Lift sp) :=
  has_of F hm (F.binds (fun _ _ _ _ _ _ us hl => match us, hl with | [_], _ => rfl)) (lift_of F sc__law_parts (by decide) len _ (fun cdv A outer s H E hr => ps__law_parts B H_law_parts h_law_parts hr) hx)
abbrev s_law : Stmt := topS 9
abbrev N_law : List Str := ["script", "tape", "turn", "page", "other", "due", "item"]
theorem sc_law : FnScope N_law ["script"] (defScope s_law) := ⟨rfl, rfl, rfl, by decide +kernel, rfl, by decide +kernel, by decide +kernel⟩
theorem ps_law {P : Program} {w : World} {K : PySem.W.Frag} {mg : Str → Option Value} {base : Heap} {j : Nat} (B : BI mg) {dparts : Nat} (Hparts : HasG P w K mg base (2 * dparts + 1) "parts" ["document"] (spParts dparts)) (hparts : 2 * dparts + 4 ≤ j) {k_law_document : Nat} {p_law_document : List Str} {c_law_document : Sp} (H_law_document : Has P w K mg base k_law_document "_law_document" p_law_document c_law_document) (h_law_document : k_law_document ≤ j) {k_law_parts : Nat} {p_law_parts : List Str} {c_law_parts : Sp} (H_law_parts : Has P w K mg base k_law_parts "_law_parts" p_law_parts c_law_parts) (h_law_parts : k_law_parts ≤ j) {k_law_like : Nat} {p_law_like : List Str} {c_law_like : Sp} (Z_law_like : HasZ P w K mg base k_law_like "_law_like" p_law_like c_law_like) (h_law_like : k_law_like ≤ j) {f : Addr} {cdv : Value} {A : Around} {outer : List Env} {s : Shared} {H : Hp} {E : XK} (hr : Room j (A.deeper (PyProof.Rows.envOfC "law" (defScope s_law) s.heap.objs.size f cdv))) :
    PSsz (cxOf CX0 P w K mg base N_law "law" (defScope s_law) f cdv A outer s H E).nox (defBody s_law) (ts_law02 K dparts c_law_document c_law_parts c_law_like) := by
  have nd : N_law.Nodup := sc_law.nd
  exact (sz_cons (sz (fun _ _ h => h) (ps_set (i := 1) nd rfl (Or.inl rfl) (pe_lst (pa_cons (pe_callTy cr_listQ (by rfl) B.list (by decide +kernel) (pa_cons (pv 0) pa_nil)) (pa_cons pe_int (pa_cons pe_int pa_nil))))))
    (sz_cons (z_for (fun _ _ h => h) rfl (iz (fun _ _ h => h) (pi_range1 (by rfl) B.range (pa_cons pe_int pa_nil))) (pg_name (i := 2) nd rfl (Or.inl rfl))
    (sz_cons (sz (fun _ _ h => h) (ps_par (i := 3) (j := 4) rfl nd rfl rfl (by decide) rfl rfl (pa_cons (pe_callH H_law_document hr h_law_document (by rfl) (pa_cons (pv 1) (pa_cons pe_int (pa_cons pe_int pa_nil)))) (pa_cons (pe_callH H_law_document hr h_law_document (by rfl) (pa_cons (pv 1) (pa_cons pe_int (pa_cons pe_int pa_nil)))) pa_nil)) (by rfl)))
    (sz_cons (sz (fun _ _ h => h) (ps_set (i := 5) nd rfl (Or.inl rfl) (pe_callH H_law_parts hr h_law_parts (by rfl) (pa_cons (pv 3) pa_nil))))
    (sz_cons (sz_if (PWz.pt (wz_or (z_notT (z_val (z_call (fun _ _ h => h) Z_law_like hr h_law_like (by rfl) (z_cons (z_lcGI (fun _ _ h => h) (pgn_call (fun _ _ h => h) Hparts hr (by omega) (by rfl) (az (fun _ _ h => h) (pa_cons (pv 3) pa_nil))) (hr.mono (by omega)) (by rfl) (by decide +kernel) (by decide +kernel) (by rfl)) (az (fun _ _ h => h) (pa_cons (pv 5) pa_nil)))))) (wz_or1 (z_cmpT (fun _ _ h => h) (op_neD hr.units) (z_listG (fun _ _ h => h) (pgn_call (fun _ _ h => h) Hparts hr (by omega) (by rfl) (az (fun _ _ h => h) (pa_cons (pv 3) pa_nil))) (hr.mono (by omega)) (by rfl) B.list (by decide +kernel)) (ez (fun _ _ h => h) (pv 5)) (nomark _)))))
    (ssz (fun _ _ h => h) (pss_one (ps_ret pe_bl)))
    (ssz (fun _ _ h => h) pss_nil))
    (sz_one (sz_if (PWz.pt (wz_and (tz (fun _ _ h => h) (pt_cmpR op_le (pe_callB cr_lenQ (by rfl) B.len (by decide +kernel) (pa_cons (pe_op op_catA (pv 3) (pv 4)) pa_nil)) pe_int (nomark _))) (wz_and1 (z_cmpT (fun _ _ h => h) (op_neD hr.units) (z_listG (fun _ _ h => h) (pgn_call (fun _ _ h => h) Hparts hr (by omega) (by rfl) (az (fun _ _ h => h) (pa_cons (pe_op op_catA (pv 3) (pv 4)) pa_nil))) (hr.mono (by omega)) (by rfl) B.list (by decide +kernel)) (ez (fun _ _ h => h) (pe_op op_cat (pv 5) (pe_callH H_law_parts hr h_law_parts (by rfl) (pa_cons (pv 4) pa_nil)))) (nomark _)))))
    (ssz (fun _ _ h => h) (pss_one (ps_ret pe_bl)))
    (ssz (fun _ _ h => h) pss_nil)))))))
    (sz_one (sz_ret (z_cmp (fun _ _ h => h) (op_eqD hr.units) (z_listG (fun _ _ h => h) (pgn_call (fun _ _ h => h) Hparts hr (by omega) (by rfl) (az (fun _ _ h => h) (pa_cons (pe_tup (pa_cons (pe_tup (pa_cons pe_str (pa_cons pe_int (pa_cons pe_int (pa_cons pe_int (pa_cons (pe_tup pa_nil) pa_nil)))))) pa_nil)) pa_nil))) (hr.mono (by omega)) (by rfl) B.list (by decide +kernel)) (ez (fun _ _ h => h) (pe_lst (pa_cons (pe_tup (pa_cons pe_str (pa_cons pe_int pa_nil))) (pa_cons (pe_tup (pa_cons pe_str (pa_cons pe_int pa_nil))) (pa_cons (pe_tup (pa_cons pe_str (pa_cons pe_int pa_nil))) (pa_cons (pe_tup (pa_cons pe_str (pa_cons pe_int pa_nil))) pa_nil)))))) (nomark _))))))
theorem fnz_law {P : Program} {w : World} {K : PySem.W.Frag} {mg : Str → Option Value} {base : Heap} {j : Nat} (B : BI mg) {dparts : Nat} (Hparts : HasG P w K mg base (2 * dparts + 1) "parts" ["document"] (spParts dparts)) (hparts : 2 * dparts + 4 ≤ j) {k_law_document : Nat} {p_law_document : List Str} {c_law_document : Sp} (H_law_document : Has P w K mg base k_law_document "_law_document" p_law_document c_law_document) (h_law_document : k_law_document ≤ j) {k_law_parts : Nat} {p_law_parts : List Str} {c_law_parts : Sp} (H_law_parts : Has P w K mg base k_law_parts "_law_parts" p_law_parts c_law_parts) (h_law_parts : k_law_parts ≤ j) {k_law_like : Nat} {p_law_like : List Str} {c_law_like : Sp} (Z_law_like : HasZ P w K mg base k_law_like "_law_like" p_law_like c_law_like) (h_law_like : k_law_like ≤ j) {fa : Addr} {fd : FuncData} (F : L2.Fun K "law" "law" s_law fa fd)
    (hx : ∀ (H : Hp) (a : Addr) (ns : List Int) (Dn : Ends), SqL K H a (ns.map L2.V.int) → (∀ H', Dn.rt (.bl true) H') → (ts_law02 K dparts c_law_document c_law_parts c_law_like) Dn (L2.start N_law [.ref a]) H) : FnZ P w K mg base (j + 1) fa fd ["script"] (spLaw K) :=
  fnz_start F sc_law (fun cdv A outer s H E hr => ps_law B Hparts hparts H_law_document h_law_document H_law_parts h_law_parts Z_law_like h_law_like hr) hx
theorem law_fnz {P : Program} {w : World} {K : PySem.W.Frag} {mg : Str → Option Value} {base : Heap} (B : BI mg) (A__law_draw : At K mg "_law_draw" s__law_draw) (A__law_like : At K mg "_law_like" s__law_like) (A__law_margin : At K mg "_law_margin" s__law_margin) (A__law_boxes : At K mg "_law_boxes" s__law_boxes) (A__law_document : At K mg "_law_document" s__law_document) (A__law_parts : At K mg "_law_parts" s__law_parts) (A_parts : At K mg "parts" s_parts) {fa : Addr} {fd : FuncData} (F : L2.Fun K "law" "law" s_law fa fd) : FnZ P w K mg base 11 fa fd ["script"] (spLaw K) := by
  obtain ⟨fa__law_draw, kV__law_draw, dc__law_draw, pm__law_draw, cd__law_draw, ct__law_draw, an__law_draw, m__law_draw, F__law_draw⟩ := A__law_draw.ex
  obtain ⟨fa__law_like, kV__law_like, dc__law_like, pm__law_like, cd__law_like, ct__law_like, an__law_like, m__law_like, F__law_like⟩ := A__law_like.ex
  obtain ⟨fa__law_margin, kV__law_margin, dc__law_margin, pm__law_margin, cd__law_margin, ct__law_margin, an__law_margin, m__law_margin, F__law_margin⟩ := A__law_margin.ex
  obtain ⟨fa__law_boxes, kV__law_boxes, dc__law_boxes, pm__law_boxes, cd__law_boxes, ct__law_boxes, an__law_boxes, m__law_boxes, F__law_boxes⟩ := A__law_boxes.ex
  obtain ⟨fa__law_document, kV__law_document, dc__law_document, pm__law_document, cd__law_document, ct__law_document, an__law_document, m__law_document, F__law_document⟩ := A__law_document.ex
  obtain ⟨fa__law_parts, kV__law_parts, dc__law_parts, pm__law_parts, cd__law_parts, ct__law_parts, an__law_parts, m__law_parts, F__law_parts⟩ := A__law_parts.ex
  obtain ⟨fa_parts, kV_parts, dc_parts, pm_parts, cd_parts, ct_parts, an_parts, m_parts, F_parts⟩ := A_parts.ex
  have Hparts : HasG P w K mg base 7 "parts" ["document"] (spParts 3) := hasG_parts F_parts m_parts 3
  have W__law_draw := has__law_draw (P := P) (w := w) (base := base) (j := 0) B F__law_draw m__law_draw (tp := tpT) (sp := fun _ => spDraw) (by intro i ds P h; first | (obtain ⟨_, rfl, _⟩ := h; rfl) | (obtain ⟨_, _, rfl, _⟩ := h; rfl) | (obtain ⟨_, _, _, rfl, _⟩ := h; rfl) | (obtain ⟨rfl, _⟩ := h; rfl)) (fun _ V ⟨l, xs, T⟩ ds P ⟨n, e, h0, h1, hP⟩ => by subst e; exact xs_draw T h0 h1 hP)
  have H_law_draw := W__law_draw.1
  have Z_law_draw := W__law_draw.2
  have R__law_like : ∀ n, Has P w K mg base (0 + n) "_law_like" ["one", "two"] (sLike n) ∧ HasZ P w K mg base (0 + n) "_law_like" ["one", "two"] (sLike n) := by
    intro n
    induction n with
    | zero => exact has_empty F__law_like m__law_like (F__law_like.binds (fun _ _ _ _ _ _ us hl => match us, hl with | [_, _], _ => rfl))
    | succ n ih =>
      have H_law_like := ih.1
      exact has__law_like (P := P) (w := w) (base := base) (j := 0 + n) B H_law_like (Nat.le_refl _) F__law_like m__law_like (sp := cLike n) (by intro ds P h; first | (obtain ⟨_, rfl, _⟩ := h; rfl) | (obtain ⟨_, _, rfl, _⟩ := h; rfl) | (obtain ⟨_, _, _, rfl, _⟩ := h; rfl) | (obtain ⟨_, _, _, _, rfl, _⟩ := h; rfl) | (obtain ⟨rfl, _⟩ := h; rfl)) (fun ds P h => xs_like ds P h)
  have W__law_like : Has P w K mg base 9 "_law_like" ["one", "two"] (sLike 9) ∧ HasZ P w K mg base 9 "_law_like" ["one", "two"] (sLike 9) := R__law_like 9
  have H_law_like := W__law_like.1
  have Z_law_like := W__law_like.2
  have W__law_margin := has__law_margin (P := P) (w := w) (base := base) (j := 1) B H_law_draw (by decide) F__law_margin m__law_margin (tp := tpT) (sp := fun _ => spMargin) (by intro i ds P h; first | (obtain ⟨_, rfl, _⟩ := h; rfl) | (obtain ⟨_, _, rfl, _⟩ := h; rfl) | (obtain ⟨_, _, _, rfl, _⟩ := h; rfl) | (obtain ⟨rfl, _⟩ := h; rfl)) (fun _ V ⟨l, xs, T⟩ ds P ⟨n, e, h0, h1, hP⟩ => by subst e; exact xs_margin T h0 h1 hP)
  have H_law_margin := W__law_margin.1
  have Z_law_margin := W__law_margin.2
  have R__law_boxes : ∀ n, Has P w K mg base (2 + n) "_law_boxes" ["tape", "left", "depth", "wide"] (cBoxes n) ∧ HasZ P w K mg base (2 + n) "_law_boxes" ["tape", "left", "depth", "wide"] (cBoxes n) := by
    intro n
    induction n with
    | zero => exact has_empty F__law_boxes m__law_boxes (F__law_boxes.binds (fun _ _ _ _ _ _ us hl => match us, hl with | [_, _, _, _], _ => rfl))
    | succ n ih =>
      have H_law_boxes := ih.1
      exact has__law_boxes (P := P) (w := w) (base := base) (j := 2 + n) B H_law_draw (by omega) H_law_margin (by omega) H_law_boxes (Nat.le_refl _) F__law_boxes m__law_boxes (tp := tpB) (sp := spBoxesD n) (by intro i ds P h; first | (obtain ⟨_, rfl, _⟩ := h; rfl) | (obtain ⟨_, _, rfl, _⟩ := h; rfl) | (obtain ⟨_, _, _, rfl, _⟩ := h; rfl) | (obtain ⟨rfl, _⟩ := h; rfl)) (fun p V ⟨U, l, xs, e, T, h1, h2, h3⟩ ds P ⟨d, w, hd, e2, h4, h5, h6, hP⟩ => by subst e; subst e2; exact xs_boxes T h1 h2 h3 hd h4 h5 h6 hP)
  have W__law_boxes : Has P w K mg base 6 "_law_boxes" ["tape", "left", "depth", "wide"] (LiftI tpB (spBoxesD 3)) ∧ HasZ P w K mg base 6 "_law_boxes" ["tape", "left", "depth", "wide"] (LiftI tpB (spBoxesD 3)) := R__law_boxes 4
  have H_law_boxes := W__law_boxes.1
  have Z_law_boxes := W__law_boxes.2
  have W__law_document := has__law_document (P := P) (w := w) (base := base) (j := 6) B H_law_boxes (by decide) F__law_document m__law_document (tp := tpT) (sp := fun _ => spDoc) (by intro i ds P h; first | (obtain ⟨_, rfl, _⟩ := h; rfl) | (obtain ⟨_, _, rfl, _⟩ := h; rfl) | (obtain ⟨_, _, _, rfl, _⟩ := h; rfl) | (obtain ⟨rfl, _⟩ := h; rfl)) (fun _ V ⟨l, xs, T⟩ ds P ⟨n, w, e, h0, h1, hP⟩ => by subst e; exact xs_doc T h0 h1 hP)
  have H_law_document := W__law_document.1
  have Z_law_document := W__law_document.2
  have R__law_parts : ∀ n, Has P w K mg base (0 + n) "_law_parts" ["document"] (sLParts n) ∧ HasZ P w K mg base (0 + n) "_law_parts" ["document"] (sLParts n) := by
    intro n
    induction n with
    | zero => exact has_empty F__law_parts m__law_parts (F__law_parts.binds (fun _ _ _ _ _ _ us hl => match us, hl with | [_], _ => rfl))
    | succ n ih =>
      have H_law_parts := ih.1
      exact has__law_parts (P := P) (w := w) (base := base) (j := 0 + n) B H_law_parts (Nat.le_refl _) F__law_parts m__law_parts (sp := cLParts n) (by intro ds P h; first | (obtain ⟨_, rfl, _⟩ := h; rfl) | (obtain ⟨_, _, rfl, _⟩ := h; rfl) | (obtain ⟨_, _, _, rfl, _⟩ := h; rfl) | (obtain ⟨_, _, _, _, rfl, _⟩ := h; rfl) | (obtain ⟨rfl, _⟩ := h; rfl)) (fun ds P h => xs_lparts ds P h)
  have W__law_parts : Has P w K mg base 4 "_law_parts" ["document"] (Lift (cLParts 3)) ∧ HasZ P w K mg base 4 "_law_parts" ["document"] (Lift (cLParts 3)) := R__law_parts 4
  have H_law_parts := W__law_parts.1
  have Z_law_parts := W__law_parts.2
  exact fnz_law (j := 10) B (dparts := 3) Hparts (by decide) H_law_document (by decide) H_law_parts (by decide) Z_law_like (by decide) F (fun H a ns Dn hS q => xs_law02 H a ns Dn hS q rfl)
theorem all_mk {w : World} {K : PySem.W.Frag} {h : Heap} {mg : Str → Option Value} {fa : Addr} (X : K.In h) (G : h.Ns mainGlobals mg) (hfa : mg "law" = some (.ref fa))
    (S__law_draw : Stands K "_law_draw" s__law_draw) (S__law_like : Stands K "_law_like" s__law_like) (S__law_margin : Stands K "_law_margin" s__law_margin) (S__law_boxes : Stands K "_law_boxes" s__law_boxes) (S__law_document : Stands K "_law_document" s__law_document) (S__law_parts : Stands K "_law_parts" s__law_parts) (S_law : Stands K "law" s_law) (S_parts : Stands K "parts" s_parts) (z_len : PySem.W.nsIn K mainGlobals "len" = some none) (z_tuple : PySem.W.nsIn K mainGlobals "tuple" = some none) (z_list : PySem.W.nsIn K mainGlobals "list" = some none) (z_isinstance : PySem.W.nsIn K mainGlobals "isinstance" = some none) (z_range : PySem.W.nsIn K mainGlobals "range" = some none) (z_bool : PySem.W.nsIn K mainGlobals "bool" = some none) :
    ∃ fd : FuncData, (∀ (s : Shared) (v : Value), BindsTo s fd ⟨[v], []⟩ [("script", v)]) ∧ ∀ base : Heap, K.In base → base.Ns mainGlobals mg → FnZ PySem.Challenge.rw_marginruns_k02_parts_in_order.prog w K mg base 11 fa fd ["script"] (spLaw K) := by
  obtain ⟨fa2, kV, dc, pm, cd, ct, an, m, F⟩ := (S_law.at X G).ex
  have e := hfa.symm.trans m
  cases e
  refine ⟨_, fun s v => ?_, fun base _ _ => law_fnz ⟨PySem.W.mg_none_of X G z_len, PySem.W.mg_none_of X G z_tuple, PySem.W.mg_none_of X G z_list, PySem.W.mg_none_of X G z_isinstance, PySem.W.mg_none_of X G z_range, PySem.W.mg_none_of X G z_bool⟩ (S__law_draw.at X G) (S__law_like.at X G) (S__law_margin.at X G) (S__law_boxes.at X G) (S__law_document.at X G) (S__law_parts.at X G) (S_parts.at X G) F⟩
  exact .of_eq rfl
end MG
namespace Zh
open PySem PySem.W PyProof.Rows
set_option maxHeartbeats 0 in
theorem law_holds : PySem.Challenge.rw_marginruns_k02_parts_in_order.Holds := by
  w_on; o_law; k_head; (case hw => w_witness2)
  k_fill
  refine walkZ (l := PySem.Challenge.rw_marginruns_k02_parts_in_order) (n := 63) (k := 11) (x := "script") (sp := fun w => MG.spLaw _) rfl (by decide) rfl ⟨rfl, by decide, by decide⟩ (fun w h Y => PySem.W.kIn_of Y) ?F (fun _ H a ns hl _ hS => ⟨a, ns, rfl, hS, fun _ => rfl⟩)
  case F =>
    intro w mg fa h KX G hmg
    refine' MG.all_mk KX G hmg ?S0 ?S1 ?S2 ?S3 ?S4 ?S5 ?S6 ?S7 ?z0 ?z1 ?z2 ?z3 ?z4 ?z5
    (case S0 => (refine' MG.stands ?a ?l ?c ?k; (case a => k_is); (case l => k_is); (case c => k_is); (case k => k_is))); (case S1 => (refine' MG.stands ?a ?l ?c ?k; (case a => k_is); (case l => k_is); (case c => k_is); (case k => k_is))); (case S2 => (refine' MG.stands ?a ?l ?c ?k; (case a => k_is); (case l => k_is); (case c => k_is); (case k => k_is))); (case S3 => (refine' MG.stands ?a ?l ?c ?k; (case a => k_is); (case l => k_is); (case c => k_is); (case k => k_is))); (case S4 => (refine' MG.stands ?a ?l ?c ?k; (case a => k_is); (case l => k_is); (case c => k_is); (case k => k_is))); (case S5 => (refine' MG.stands ?a ?l ?c ?k; (case a => k_is); (case l => k_is); (case c => k_is); (case k => k_is))); (case S6 => (refine' MG.stands ?a ?l ?c ?k; (case a => k_is); (case l => k_is); (case c => k_is); (case k => k_is))); (case S7 => (refine' MG.stands ?a ?l ?c ?k; (case a => k_is); (case l => k_is); (case c => k_is); (case k => k_is)))
    (case z0 => k_is); (case z1 => k_is); (case z2 => k_is); (case z3 => k_is); (case z4 => k_is); (case z5 => k_is)
end Zh
end
theorem PySem.Challenge.cw_marginruns_k02_parts_in_order_holds : PySem.Challenge.rw_marginruns_k02_parts_in_order.Holds :=
  Zh.law_holds
