import PyProof.Rows.All
import Wide.All
import OpenK.AllK
import Wide.FinOn
import HandS.Base
import HandS.Call
import HandS.Codes
import HandS.Conv
import HandS.Deep
import HandS.Defaults
import HandS.DictComp
import HandS.Ends
import HandS.Evl
import HandS.Flow
import HandS.ForMost
import HandS.GenCall
import HandS.GenList
import HandS.GenYield
import HandS.Head0
import HandS.Head1
import HandS.Head2
import HandS.HeadEnd
import HandS.HeadHook1
import HandS.HeadHook2
import HandS.HeadNt
import HandS.HeadWalk
import HandS.IsInst
import HandS.More
import HandS.Records
import HandS.SetFor
import HandS.Star
import HandS.Style
import HandS.TupAny
import HandS.TupLe
import HandS.TupLen
import HandS.TupMul
import HandS.Walk
import HandS.Wide
import HandS.Words
import HandS.WordsExc
import HandS.Zip
import KE.GoesEnum
import KE.KDictKeyed
import KE.KStateDown
import KE.SortData
import Lean
import PyProof.GenQ
import PyProof.GenRules
import PySem.Challenge.RW_callsthrough_k52_whole_keeper_never_bars
set_option Elab.async false
set_option linter.all false
set_option maxRecDepth 100000
set_option maxHeartbeats 2000000
/-! # A machine-level logic that lets a loud yield through where nothing shows -/
namespace GW
open PySem PyProof.Rows
/-- a delegator over a generator -/
def overGen (h : Heap) : Code → Bool
  | .builtin "proto.yield_from" ⟨.ref a :: _, _⟩ => (h.get? a).any fun o => o.genNumber?.isSome
  | _ => false
/-- a yield at which the collector sees nothing -/
def soft (s : Shared) (t : Thread) : Bool := match t.cur, splitAtGen t.stack with
  | .yield _ _ _ _, some (fs, _, _) => !fs.any Frame.guarded && overGen s.heap t.code
  | _, _ => false
theorem shows_of {s : Shared} {fs : List Frame} {c : Code} (g : Bool) (hr : s.heap.life.registered = []) (h1 : fs.any Frame.guarded = false) (h2 : overGen s.heap c = true) : closingShows s fs c g = false := by
  unfold overGen at h2
  split at h2
  · rename_i a r q
    obtain ⟨o, ho, hn⟩ : ∃ o, s.heap.get? a = some o ∧ o.genNumber?.isSome = true := by
      cases q : s.heap.get? a with
      | none => rw [q] at h2; cases h2
      | some o => rw [q] at h2; exact ⟨o, rfl, h2⟩
    obtain ⟨m, hm⟩ := Option.isSome_iff_exists.mp hn
    unfold closingShows
    rw [h1, Bool.false_or]
    show (g && delegateShows s (.ref a)) = false
    unfold delegateShows
    simp only [ho, hm, hr]
    simp
  · cases h2
section
variable (P : Program) (w : World)
def stepJ (s : Shared) (t : Thread) : Step := if t.loud && !soft s t then .halt (.stuck "own:loud") s else stepK (denote table) P w s t
def runJ : Nat → Shared → Thread → Run
  | 0, s, t => .running s t
  | n + 1, s, t => match stepJ P w s t with
    | .go s' t' => runJ n s' t'
    | .halt o s' => .halted o s'
end
/-! ### the real run -/
theorem loud_forget (t : Thread) : t.forget.loud = t.loud := by
  obtain ⟨cur, code, pos, stack⟩ := t
  simp only [Thread.loud, Thread.atCollectorCode, Thread.atExit, Thread.yieldsInsideHandler, Thread.forget]
  cases cur with
  | yield v g l k => simp only [splitAtGen_forgetAll]; cases splitAtGen stack <;> simp
  | _ => rfl
theorem refused_forget (t : Thread) : t.forget.refused = t.refused := by cases t with | mk cur code pos stack => cases cur <;> rfl
theorem soft_forget (s : Shared) (t : Thread) : soft s.forget t.forget = soft s t := by
  obtain ⟨cur, code, pos, stack⟩ := t
  cases cur with
  | yield v g l k =>
    simp only [soft, Thread.forget, splitAtGen_forgetAll]
    cases splitAtGen stack with
    | none => rfl
    | some x =>
      obtain ⟨fs, y, r⟩ := x
      simp only [Option.map_some, any_guarded_forgetAll]
      rfl
  | _ => rfl
theorem soft_same {s1 s2 : Shared} {t1 t2 : Thread} (hs : s1.forget = s2.forget) (ht : t1.forget = t2.forget) : soft s1 t1 = soft s2 t2 := by
  rw [← soft_forget s1 t1, ← soft_forget s2 t2, hs, ht]
theorem loud_same {t1 t2 : Thread} (ht : t1.forget = t2.forget) : t1.loud = t2.loud := by rw [← loud_forget t1, ← loud_forget t2, ht]
section
variable (den : Code → Sem Fin) (P : Program) (w : World)
theorem sstep_soft {s : Shared} {t : Thread} (h : soft s t = true) (hz : s.asleep) : sstep den P w (.single s t) = (step den P w s t).lift := by
  obtain ⟨cur, code, pos, stack⟩ := t
  cases cur with
  | yield v g l k =>
    cases hsp : splitAtGen stack with
    | none => simp [soft, hsp] at h
    | some x =>
      obtain ⟨fs, y, r⟩ := x
      simp only [soft, hsp, Bool.and_eq_true, Bool.not_eq_true'] at h
      have h := shows_of g hz.1 h.1 h.2
      have h1 : (Config.single s ⟨.yield v g l k, code, pos, stack⟩).collect? w.params = none := by
        simp [Config.collect?, Config.single, (nothing_to_collect _ _ _ s _ hz.1).1]
      have h2 : (Config.single s ⟨.yield v g l k, code, pos, stack⟩).collectable = [] := by
        simp [Config.collectable, Config.single, (nothing_to_collect w.params _ _ s _ hz.1).2]
      have h3 : (Config.single s ⟨.yield v g l k, code, pos, stack⟩).moves w.params.profile = [.run 0] := by
        simp [Config.moves, Config.single, movesFrom, Thread.moves]
      have h4 : (Config.single s ⟨.yield v g l k, code, pos, stack⟩).pick w = .ok (.run 0, .single s ⟨.yield v g l k, code, pos, stack⟩) := by
        simp only [Config.pick, h1, h2, Config.pickThread, h3]
        cases w.params.lifetimes <;> simp
      have h5 : ∀ others, lifeStep den P w others s ⟨.yield v g l k, code, pos, stack⟩ = step den P w s ⟨.yield v g l k, code, pos, stack⟩ := fun others => by
        simp only [lifeStep]
        split
        · simp [collectorTurn?, hsp, h, stepCounting, hz.2, Thread.atItsEnd]
        · simp [stepCounting, hz.2]
      have h6 : (Config.single s ⟨.yield v g l k, code, pos, stack⟩).run den P w 0 = (step den P w s ⟨.yield v g l k, code, pos, stack⟩).lift := by
        simp only [Config.run, Config.single]
        simp [h5, others_single, frozenBadly, ThreadState.insideWrite, Thread.finalizes, Config.others]
        cases step den P w s ⟨.yield v g l k, code, pos, stack⟩ <;> simp [Step.lift, Config.single]
      simp only [sstep, h4, Config.move]
      exact h6
  | _ => simp [soft] at h

theorem stepJ_go {s s' : Shared} {t t' : Thread} (h : stepI (denote table) P w s t = .go s' t') : stepJ P w s t = .go s' t' := by
  unfold stepI at h
  unfold stepJ
  cases hl : t.loud with
  | true => rw [hl] at h; cases h
  | false => rw [hl] at h; simpa using h
/-- a run that ends is a run of the scheduler -/
theorem runJ_full : ∀ {n : Nat} {s s' sR : Shared} {t tR : Thread} {o : Outcome}, runJ P w n s t = .halted o s' → o.ends = true → sR.forget = s.forget → tR.forget = t.forget → sR.asleep →
    ∃ s'', schedN (denote table) P w n (.single sR tR) = .halted o s'' ∧ s''.forget = s'.forget ∧ s''.heap.life = sR.heap.life
  | 0, _, _, _, _, _, _, h, _, _, _, _ => by cases h
  | n + 1, s, s', sR, t, tR, o, h, ho, hs, ht, hz => by
    simp only [runJ] at h
    have key : stepJ P w s t = stepK (denote table) P w s t ∧ (sstep (denote table) P w (.single sR tR) = (step (denote table) P w sR tR).lift ∨ step (denote table) P w sR tR = .halt (.unsupported "lifetime:generator-with-cleanup-left-suspended") sR) := by
      cases hl : t.loud with
      | true =>
        cases hf : soft s t with
        | false =>
          have e : stepJ P w s t = .halt (.stuck "own:loud") s := by unfold stepJ; rw [hl, hf]; rfl
          rw [e] at h
          injection h with h1 _
          subst h1
          exact absurd ho (by simp [Outcome.ends])
        | true => exact ⟨by unfold stepJ; rw [hl, hf]; rfl, .inl (sstep_soft _ P w ((soft_same hs ht).trans hf) hz)⟩
      | false =>
        have e : stepJ P w s t = stepK (denote table) P w s t := by unfold stepJ; rw [hl]; rfl
        refine ⟨e, ?_⟩
        have hlR : tR.loud = false := (loud_same ht).trans hl
        cases hr : t.refused with
        | true =>
          obtain ⟨what, e2⟩ := stepK_refused (denote table) P w (s := s) hr
          rw [e, e2] at h
          injection h with h1 _
          subst h1
          exact absurd ho (by simp [Outcome.ends])
        | false =>
          have hrR : tR.refused = false := by rw [← refused_forget tR, ht, refused_forget t, hr]
          exact sstep_single (denote table) P w sR tR (by rw [Thread.calm_eq, hlR, hrR]; rfl) hz
    obtain ⟨e1, e2⟩ := key
    rw [e1] at h
    have same := (stepK_forget (denote table) P w s t).trans (step_same (denote table) P w hs ht).symm
    cases hk : stepK (denote table) P w s t with
    | go s₂ t₂ =>
      rw [hk] at h same
      cases hst : step (denote table) P w sR tR with
      | halt o₂ sR₂ => rw [hst] at same; cases same
      | go sR₂ tR₂ =>
        rw [hst] at same e2
        simp only [Step.forget] at same
        injection same with q1 q2
        have hlife := step_life (denote table) P w sR sR₂ tR tR₂ hst
        obtain ⟨s'', a1, a2, a3⟩ := runJ_full h ho q1.symm q2.symm (Shared.asleep_of_life hlife hz)
        refine ⟨s'', ?_, a2, a3.trans hlife⟩
        rcases e2 with e2 | e2
        · simp only [schedN, e2, Step.lift]
          exact a1
        · cases e2
    | halt o₂ s₂ =>
      rw [hk] at h same
      injection h with h1 h2
      subst h1 h2
      cases hst : step (denote table) P w sR tR with
      | go sR₂ tR₂ => rw [hst] at same; cases same
      | halt o₃ sR₂ =>
        rw [hst] at same e2
        simp only [Step.forget] at same
        injection same with q1 q2
        subst q1
        refine ⟨sR₂, ?_, q2.symm, by rw [step_halt_same (denote table) P w sR sR₂ tR _ hst]⟩
        rcases e2 with e2 | e2
        · simp only [schedN, e2, Step.lift]
        · injection e2 with e3 _
          rw [e3] at ho
          cases ho
end
end GW
/-! # Runs that end well; weakest preconditions by continuations -/
namespace GW
open PySem PyProof.Rows
open Sem (wp)
abbrev Tgt : Type := Outcome → Shared → Prop
def Good (P : Program) (w : World) (T : Tgt) (s : Shared) (t : Thread) : Prop := ∃ n o s', runJ P w n s t = .halted o s' ∧ T o s'
section
variable {P : Program} {w : World} {T : Tgt}
theorem good_step {s s' : Shared} {t t' : Thread} (h : stepJ P w s t = .go s' t') (g : Good P w T s' t') : Good P w T s t := by
  obtain ⟨n, o, s2, a, b⟩ := g
  exact ⟨n + 1, o, s2, by simp only [runJ, h]; exact a, b⟩
theorem good_m {s s' : Shared} {t t' : Thread} (h : (model P w).step s t = .go s' t') (g : Good P w T s' t') : Good P w T s t := good_step (stepJ_go P w h) g
theorem good_reach {base : List Frame} {s s' : Shared} {t : Sem PySem.Fin} {c : Code} {p : Pos} {pre : List Frame} {e : End} (h : Reach (model P w) base s t c p pre s' e) (k : ∀ t' c' p' pre', Exits e t' c' p' pre' → Good P w T s' ⟨t', c', p', pre' ++ base⟩) :
    Good P w T s ⟨t, c, p, pre ++ base⟩ := by
  induction h with
  | exit hx => exact k _ _ _ _ hx
  | step hs _ ih => exact good_m hs (ih k)
/-- a call that returns in the library's sense -/
theorem good_returns {Γ : Ctx} {p : Pos} {s s' : Shared} {r : Result} {base : List Frame} (hr : Returns (model P w) Γ p s r s') (f : Γ.Fits base) (k : ∀ c' p', Good P w T s' ⟨leafOf r, c', p', base⟩) :
    Good P w T s ⟨(model P w).den Γ.code, Γ.code, p, base⟩ := by
  refine good_reach (pre := []) (runs_reach hr base f) ?_
  rintro t' c' p' pre' ⟨rfl, rfl⟩
  exact k c' p'
theorem good_wp {α : Type} {Γ : Ctx} {base : List Frame} (f : Γ.Fits base) (K : α → Sem PySem.Fin) (J : Value → Sem PySem.Fin) (gd : Bool → Bool) (lv : List Value → List Value) (m : Sem α) :
    ∀ {Q : α → Pos → Shared → Prop} {E : Value → Pos → Shared → Prop} {p : Pos} {s : Shared}, wp (model P w) Γ m Q E p s →
      (∀ a p' s', Q a p' s' → Good P w T s' ⟨K a, Γ.code, p', base⟩) → (∀ x p' s', E x p' s' → Good P w T s' ⟨J x, Γ.code, p', base⟩) → Good P w T s ⟨m.wrap K J gd lv, Γ.code, p, base⟩ := by
  induction m with
  | pure a => intro Q E p s h hQ _; exact hQ a p s h
  | raise x => intro Q E p s h _ hE; exact hE x p s h
  | unsupported _ => intro Q E p s h; exact h.elim
  | finish _ => intro Q E p s h; exact h.elim
  | register _ _ => intro Q E p s h; exact h.elim
  | yield _ _ _ _ => intro Q E p s h; exact h.elim
  | fork _ _ => intro Q E p s h; exact h.elim
  | await _ _ _ _ _ => intro Q E p s h; exact h.elim
  | rule tag k ih => intro Q E p s h hQ hE; exact good_m (step_rule ..) (ih () h hQ hE)
  | «at» p' k ih => intro Q E p s h hQ hE; exact good_m (step_at ..) (ih () h hQ hE)
  | load a part k ih => intro Q E p s h hQ hE; obtain ⟨o, ho, h⟩ := h; exact good_m (step_load (model P w) s Γ.code p base part _ ho) (ih o h hQ hE)
  | update a part g k ih => intro Q E p s h hQ hE; exact good_m (step_update (model P w) s Γ.code p base part g _ h.1) (ih () h.2 hQ hE)
  | alloc o k ih => intro Q E p s h hQ hE; exact good_m (step_alloc ..) (ih _ h hQ hE)
  | loadIfAlive a k ih => intro Q E p s h hQ hE; exact good_m (step_loadIfAlive ..) (ih _ h hQ hE)
  | point l k ih => intro Q E p s h hQ hE; exact good_m (step_point ..) (ih () h hQ hE)
  | fresh k ih => intro Q E p s h hQ hE; exact good_m (step_fresh ..) (ih _ h hQ hE)
  | ask k ih => intro Q E p s h hQ hE; exact good_m (step_ask ..) (ih _ h hQ hE)
  | choose src n k ih => intro Q E p s h hQ hE; exact good_m (step_choose (model P w) s Γ.code p base src _ h.1) (ih _ h.2 hQ hE)
  | os q l k ih => intro Q E p s h hQ hE; exact good_m (step_os ..) (ih _ h hQ hE)
  | call c hd g l k ih =>
    intro Q E p s h hQ hE
    obtain ⟨r, s₁, hret, h⟩ := h
    refine good_m (step_call ..) (good_returns hret (f.enter c _ hd _ _ p []) fun c' p' => good_m (step_leaf_ret ..) (ih r h hQ hE))
  | handled own k ih =>
    intro Q E p s h hQ hE
    refine good_m (step_handled ..) ?_
    have e : topHandled (if own = true then ownFrames base else base) = if own = true then Γ.own else Γ.handled := by
      cases own
      · exact f.handled.symm
      · exact f.own.symm
    rw [e]
    exact ih _ h hQ hE
  | newGen c k ih => intro Q E p s h hQ hE; exact good_m (step_newGen ..) (ih _ h hQ hE)
  | genState g k ih => intro Q E p s h hQ hE; obtain ⟨st, hg, h⟩ := h; exact good_m (step_genState (model P w) s Γ.code p base _ hg) (ih _ h hQ hE)
  | resume g r l k ih =>
    intro Q E p s h hQ hE
    obtain ⟨res, s₁, hwk, h⟩ := h
    unfold Wakes at hwk
    cases hg : s.gens[g]? with
    | none => rw [hg] at hwk; exact hwk.elim
    | some gs =>
      rw [hg] at hwk
      cases gs with
      | fresh c =>
        cases r with
        | send v =>
          by_cases hv : v = .none
          · subst hv
            obtain ⟨e₁, s₂, h₁, hq, rfl, rfl⟩ := hwk
            refine good_m (step_resume_fresh (model P w) s Γ.code p base _ _ hg) (good_reach (base := .gen g _ _ Γ.code p :: base) (pre := []) (runs_reach h₁ _ (f.wake c g _ _ p)) fun t' c' p' pre' hx => ?_)
            exact good_m (step_exit_gen _ _ _ _ _ _ _ hx hq) (ih _ h hQ hE)
          · have e : res = .justStarted ∧ s₁ = s := by cases v <;> first | exact absurd rfl hv | exact hwk
            obtain ⟨rfl, rfl⟩ := e
            exact good_m (step_resume_justStarted (model P w) s₁ Γ.code p base _ _ hg hv) (ih _ h hQ hE)
        | throw x => obtain ⟨rfl, rfl⟩ := hwk; exact good_m (step_resume_throwFresh (model P w) s Γ.code p base _ _ _ hg) (ih _ h hQ hE)
      | suspended k₀ l₀ c₀ p₀ fs cl =>
        obtain ⟨e₁, s₂, h₁, hq, rfl, rfl⟩ := hwk
        refine good_m (step_resume_suspended (model P w) s Γ.code p base _ _ _ hg) (good_reach (base := .gen g _ _ Γ.code p :: base) (runs_reach h₁ _ (f.wake c₀ g _ _ p)) fun t' c' p' pre' hx => ?_)
        exact good_m (step_exit_gen _ _ _ _ _ _ _ hx hq) (ih _ h hQ hE)
      | running => obtain ⟨rfl, rfl⟩ := hwk; exact good_m (step_resume_running (model P w) s₁ Γ.code p base _ _ _ hg) (ih _ h hQ hE)
      | finished => obtain ⟨rfl, rfl⟩ := hwk; exact good_m (step_resume_finished (model P w) s₁ Γ.code p base _ _ _ hg) (ih _ h hQ hE)
  | stack k ih =>
    intro Q E p s h hQ hE
    refine good_m (step_stack ..) ?_
    rw [← f.below]
    exact ih _ h hQ hE
  | thread k ih => intro Q E p s h hQ hE; exact good_m (step_thread ..) (ih _ h hQ hE)
end
/-! ### W -/
def W (P : Program) (w : World) {α : Type} (A : Around) (t : Sem α) (Q : α → Shared → Prop) (E : Value → Shared → Prop) (s : Shared) : Prop :=
  ∀ (T : Tgt) (K : α → Sem PySem.Fin) (J : Value → Sem PySem.Fin) (gd : Bool → Bool) (lv : List Value → List Value) (Γ : Ctx) (p : Pos) (base : List Frame), Γ.In A → Γ.Fits base →
    (∀ a p' s', Q a s' → Good P w T s' ⟨K a, Γ.code, p', base⟩) → (∀ e p' s', E e s' → Good P w T s' ⟨J e, Γ.code, p', base⟩) → Good P w T s ⟨t.wrap K J gd lv, Γ.code, p, base⟩
def codeW (P : Program) (w : World) (A : Around) (c : Code) (R : Result → Shared → Prop) (s : Shared) : Prop :=
  ∀ (T : Tgt) (Γ : Ctx) (p : Pos) (base : List Frame), Γ.code = c → Γ.Below A → Γ.Fits base → (∀ r s' c' p', R r s' → Good P w T s' ⟨leafOf r, c', p', base⟩) → Good P w T s ⟨(model P w).den c, c, p, base⟩
section
variable {P : Program} {w : World} {α β : Type} {A : Around} {E : Value → Shared → Prop} {s : Shared}
theorem w_of {t : Sem α} {Q : α → Shared → Prop} (h : wpAny (model P w) A t Q E s) : W P w A t Q E s := fun T K J gd lv Γ p base hI f hQ hE =>
  good_wp f K J gd lv t (h Γ p hI) hQ hE
theorem cw_of {c : Code} {R : Result → Shared → Prop} (h : codeAny (model P w) A c R s) : codeW P w A c R s := fun T Γ p base hc hB f hR => by
  obtain ⟨r, s', hr, q⟩ := h Γ p hc hB
  subst hc
  exact good_returns hr f fun c' p' => hR r s' c' p' q
theorem w_pure {a : α} {Q : α → Shared → Prop} (h : Q a s) : W P w A (pure a) Q E s := w_of (wpAny_pure h)
theorem w_mono {t : Sem α} {Q Q' : α → Shared → Prop} {E' : Value → Shared → Prop} (h : W P w A t Q E s) (hQ : ∀ a s, Q a s → Q' a s) (hE : ∀ e s, E e s → E' e s) : W P w A t Q' E' s :=
  fun T K J gd lv Γ p base hI f kQ kE => h T K J gd lv Γ p base hI f (fun a p' s' q => kQ a p' s' (hQ a s' q)) fun e p' s' q => kE e p' s' (hE e s' q)
theorem w_thn {t : Sem α} {Q Q' : α → Shared → Prop} (h : W P w A t Q E s) (hQ : ∀ a s, Q a s → Q' a s) : W P w A t Q' E s := w_mono h hQ fun _ _ x => x
theorem w_bind {m : Sem α} {f : α → Sem β} {Q : β → Shared → Prop} (h : W P w A m (fun a s' => W P w A (f a) Q E s') E s) : W P w A (m >>= f) Q E s := fun T K J gd lv Γ p base hI ft kQ kE => by
  rw [Sem.bind_eq_wrap', Sem.wrap_wrap]
  exact h T _ _ _ _ Γ p base hI ft (fun a p' s' q => q T K J gd lv Γ p' base hI ft kQ kE) kE
theorem w_onRaise {m : Sem α} {k : Value → Sem Unit} {Q : α → Shared → Prop} (h : W P w A m Q (fun e s' => W P w A (k e) (fun _ s'' => E e s'') E s') s) : W P w A (m.onRaise k) Q E s := fun T K J gd lv Γ p base hI ft kQ kE => by
  rw [Sem.onRaise_eq_wrap, Sem.wrap_wrap]
  refine h T _ _ _ _ Γ p base hI ft kQ fun e p' s' q => ?_
  show Good P w T s' ⟨((k e).bind fun _ => (Sem.raise e : Sem α)).wrap K J gd lv, Γ.code, p', base⟩
  rw [Sem.bind_eq_wrap, Sem.wrap_wrap]
  exact q T _ _ _ _ Γ p' base hI ft (fun _ p2 s2 z => kE e p2 s2 z) kE
theorem w_holding {vs : List Value} {m : Sem α} {Q : α → Shared → Prop} (h : W P w A m Q E s) : W P w A (holding vs m) Q E s := fun T K J gd lv Γ p base hI ft kQ kE => by
  rw [holding_eq_keep, Sem.keep_eq_wrap, Sem.wrap_wrap]
  exact h T _ _ _ _ Γ p base hI ft kQ kE
theorem w_standAt {p0 : Pos} {Q : Unit → Shared → Prop} (h : Q () s) : W P w A (standAt p0) Q E s := w_of (wpAny_standAt h)
theorem cw_mono {c : Code} {R R' : Result → Shared → Prop} (h : codeW P w A c R s) (hR : ∀ r s, R r s → R' r s) : codeW P w A c R' s :=
  fun T Γ p base hc hB f k => h T Γ p base hc hB f fun r s' c' p' q => k r s' c' p' (hR r s' q)
theorem wrap_self (t : Sem PySem.Fin) : t.wrap .pure .raise id id = t := by
  induction t <;> simp only [Sem.wrap, id, *]
/-- a code's tree -/
theorem cw_tree {c : Code} {R : Result → Shared → Prop}
    (h : W P w (A.under c) ((model P w).den c) (fun fin s' => match fin with | .done f => R (.ok f) s' | .again c' => c'.quiet = true ∧ codeW P w A c' R s') (fun e s' => R (.error e) s') s) : codeW P w A c R s := fun T Γ p base hc hB f k => by
  subst hc
  have := h T .pure .raise id id Γ p base hB.in f (fun fin p' s' q => ?_) (fun e p' s' q => ?_)
  · rw [wrap_self] at this; exact this
  · cases fin with
    | done fl => exact k (.ok fl) s' Γ.code p' q
    | again c' => exact good_m (step_again _ _ _ _ _ _ q.1) (q.2 T (Γ.goto c') p' base rfl (hB.goto c') (f.goto c') k)
  · exact k (.error e) s' Γ.code p' q
end
end GW
/-! # W: calls, statements -/
namespace GW
open PySem PySem.Spec PyProof.Rows L2
section
variable {P : Program} {w : World} {A : Around} {E : Value → Shared → Prop} {s : Shared} {env : Env}
/-! ### the tree of a call -/
theorem w_node {c : Code} {h : Option Value} {g : Bool} {l : List Value} {Q : Result → Shared → Prop} (hc : codeW P w (A.mark h) c Q s) (hnb : h ≠ some byPass := by intro x; cases x) :
    W P w A (Sem.call c h g l Sem.pure) Q E s := fun T K J gd lv Γ p base hI f hQ hE => by
  refine good_m (step_call ..) ?_
  refine hc T (Γ.enter c h p) p _ rfl (hI.enter c h p hnb) (f.enter c _ h _ _ p []) fun r s' c' p' q => ?_
  exact good_m (step_leaf_ret ..) (hQ r p s' q)
theorem w_run {c : Code} {h : Option Value} {Q : Flow → Shared → Prop} (hc : codeW P w (A.mark h) c (fun r s' => match r with | .ok f => Q f s' | .error e => E e s') s) (hnb : h ≠ some byPass := by intro x; cases x) : W P w A (run c h) Q E s := by
  refine w_bind (m := Sem.call c h false [] Sem.pure) (f := fun r => match r with | .ok fl => pure fl | .error e => throw e) (w_thn (w_node hc hnb) fun r s' q => ?_)
  cases r with
  | ok fl => exact w_pure q
  | error e => exact w_of (wpAny_throw q)
theorem w_runValue {c : Code} {Q : Value → Shared → Prop} (hc : codeW P w A c (fun r s' => match r with | .ok (.ret v) => Q v s' | .ok _ => False | .error e => E e s') s) : W P w A (runValue c) Q E s := by
  unfold runValue
  refine w_bind (w_run (cw_mono (R := fun r s' => match r with | .ok (.ret v) => Q v s' | .ok _ => False | .error e => E e s') ?_ fun r s' q => ?_))
  · have e : A.mark none = A := by first | rfl | (cases A; rfl)
    rw [e]; exact hc
  · cases r with
    | error e => exact q
    | ok fl =>
      cases fl with
      | ret v => exact w_pure q
      | next => exact q.elim
      | brk => exact q.elim
      | cont => exact q.elim
theorem w_call {f : Value} {us : List Value} {kw : List (Str × Value)} {Q : Value → Shared → Prop} (hc : codeW P w A (.call f ⟨us, kw⟩) (fun r s' => match r with | .ok (.ret v) => Q v s' | .ok _ => False | .error e => E e s') s) : W P w A (call f us kw) Q E s := w_runValue hc
theorem w_keep {vs : List Value} {α : Type} {m : Sem α} {Q : α → Shared → Prop} (h : W P w A m Q E s) : W P w A (m.keep vs) Q E s := fun T K J gd lv Γ p base hI ft kQ kE => by
  rw [Sem.keep_eq_wrap, Sem.wrap_wrap]
  exact h T _ _ _ _ Γ p base hI ft kQ kE
theorem w_tree {α : Type} {t u : Sem α} {Q : α → Shared → Prop} (e : t = u) (h : W P w A u Q E s) : W P w A t Q E s := e ▸ h
/-- the written arguments, then the call -/
theorem w_callWith {pos : Pos} {f : Value} {K : PySem.W.Frag} {first : List Value} {x : Sem Value} {rest : List (Bool × Sem Value)} {Q : Value → Shared → Prop} (hk : PySem.W.keepIn K f = true) (hplain : rest.any (·.1) = false)
    (h : wpAny (model P w) A (spliced ((false, x) :: rest)) (fun vs s₁ => K.In s₁.heap ∧ W P w A (call f (first ++ vs)) Q E s₁) E s) : W P w A (callWith pos f first ((false, x) :: rest) []) Q E s := by
  unfold callWith
  refine w_bind (w_of (wpAny_holding (wpAny_mono (Calls.evalArgs_plain (Q := fun a s₁ => K.In s₁.heap ∧ W P w A (call f (first ++ a.pos) a.kw) Q E s₁) h) (fun a s₁ h₁ => ?_) fun _ _ z => z)))
  refine w_bind (w_standAt ?_)
  obtain ⟨k, hk', L⟩ := PySem.W.keeps_K (M := model P w) hk _ h₁.1
  have hp : (((false, x) :: rest).any (·.1) || ([] : List (Option Str × Sem Value)).any (·.1.isNone)) = false := by simp [hplain]
  simp only [hp]
  refine w_bind (w_of (L.here ?_))
  have tail : ∀ {t : Sem Value}, W P w A t Q E s₁ → W P w A (t >>= fun r => holding [r] point >>= fun _ => pure r) Q E s₁ :=
    fun ht => w_bind (w_mono ht (fun r s₂ hr => w_of (wpAny_bind (wpAny_holding (wpAny_point (wpAny_pure hr))))) fun _ _ x => x)
  have marked (mk : Value) : W P w A (callMarked mk f (first ++ a.pos) a.kw) Q E s₁ := by unfold callMarked; exact w_keep h₁.2
  rcases hk' with rfl | rfl | rfl <;> dsimp only <;> first | exact tail h₁.2 | (split <;> first | exact tail h₁.2 | exact tail (marked _))
/-- a def's call -/
theorem cw_function {a : Addr} {args : Args} {o : Obj} {fd : FuncData} {body : List Stmt} {R : Result → Shared → Prop} (hroom : A.depth < recursionLimit)
    (ho : s.heap.get? a = some o) (hd' : o.data = .func fd) (hco : fd.scope.isCoroutine = false) (hgen : fd.scope.isGenerator = false) (hbody : fd.body = .stmts body) (hcd : s.heap.CodeRec fd.code fd.qualname)
    (h : wpAny (model P w) A.in1 (bindArgs fd args) (fun binds s₁ =>
      wpAny (model P w) A.in1 (newFunctionEnv fd.scope fd.globals fd.closure binds (fd.qualname ++ ".<locals>.") (some a) fd.code none fd.builtins)
        (fun env s₂ => s₂.heap.NoLimit ∧ codeW P w A (.func body env) R s₂) (fun e s' => R (.error e) s') s₁) (fun e s' => R (.error e) s') s) :
    codeW P w A (.call (.ref a) args) R s := by
  refine cw_tree ?_
  show W P w A.in1 (callAny (.ref a) args) _ _ s
  simp only [callAny]
  refine w_of (wpAny_bind (wpAny_load ho ?_))
  obtain ⟨c, oc, vs, tq, hc, hoc, hdc, hq⟩ := hcd
  simp only [hd', callFunction, hco, hgen, hbody, hc]
  rw [hc] at h
  refine wpAny_bind (m := field (.ref c) 1) (wpAny_field hoc hdc hq (wpAny_bind (wpAny_pure ?_)))
  exact wpAny_bind (wpAny_mono h (fun binds s₁ h₁ => wpAny_bind (wpAny_mono h₁ (fun env s₂ h₂ => wpAny_bind (wpAny_enterFrame h₂.1 hroom
    (wpAny_pure (And.intro rfl h₂.2)))) fun _ _ h' => h')) fun _ _ h' => h')
theorem cw_func {body : List Stmt} {R : Result → Shared → Prop}
    (h : W P w (A.deeper env) (execs body env) (fun f s' => R (.ok (.ret (match f with | .ret v => v | _ => .none))) s') (fun _ _ => False) s) : codeW P w A (.func body env) R s := by
  refine cw_tree ?_
  show W P w (A.deeper env) (do point; match ← (execs body env).onRaise (leaving env) with | .ret v => ret v | _ => ret .none) _ _ s
  refine w_bind (w_of (wpAny_point (w_bind (w_onRaise (w_mono h (fun f s' h' => ?_) fun _ _ h' => h'.elim)))))
  cases f <;> exact w_pure h'
end
/-! ### statements -/
structure WE (X : Cx) (e : Expr) (t : TE) : Prop where
  run : ∀ (pins : List (Addr × Obj)) (s : Shared) (σ : L2.St) (H : Hp) (Q : VK), Inv X pins σ H s → t σ H Q → W X.prog X.w X.A (eval e X.env) (EP X pins σ Q) X.xe s
structure WS (X : Cx) (st : Stmt) (t : TS) : Prop where
  run : ∀ (pins : List (Addr × Obj)) (s : Shared) (σ : L2.St) (H : Hp) (D : Ends), Inv X pins σ H s → t D σ H → W X.prog X.w X.A (exec st X.env) (SP X pins D) X.xe s
structure WSs (X : Cx) (st : List Stmt) (t : TS) : Prop where
  run : ∀ (pins : List (Addr × Obj)) (s : Shared) (σ : L2.St) (H : Hp) (D : Ends), Inv X pins σ H s → t D σ H → W X.prog X.w X.A (execs st X.env) (SP X pins D) X.xe s
section
variable {X : Cx} {st : Stmt} {rest : List Stmt} {t u : TS} {e : Expr} {te : TE} {pos : Pos}
theorem ws_of (h : PS X st t) : WS X st t := ⟨fun pins s σ H D I q => w_of (h.run pins s σ H D I q)⟩
theorem wss_of (h : PSs X rest t) : WSs X rest t := ⟨fun pins s σ H D I q => w_of (h.run pins s σ H D I q)⟩
theorem we_of (h : PE X e te) : WE X e te := ⟨fun pins s σ H Q I q => w_of (h.run pins s σ H Q I q)⟩
theorem wss_cons (h1 : WS X st t) (h2 : WSs X rest u) : WSs X (st :: rest) (tSeq t u) := by
  refine ⟨fun pins s σ H D I h => ?_⟩
  rw [execs_cons]
  refine w_bind (w_thn (h1.run pins s σ H { D with nx := u D } I h) fun f s1 q => ?_)
  cases f with
  | next =>
    obtain ⟨σ', H', I', q⟩ := q
    exact h2.run pins s1 σ' H' D I' q
  | ret v => exact w_pure q
  | brk => exact w_pure q
  | cont => exact w_pure q
theorem wss_one (h1 : WS X st t) : WSs X [st] t := by
  refine ⟨fun pins s σ H D I h => ?_⟩
  rw [execs_cons]
  refine w_bind (w_thn (h1.run pins s σ H D I h) fun f s1 q => ?_)
  cases f with
  | next => exact w_of (wpAny_execs_nil q)
  | ret v => exact w_pure q
  | brk => exact w_pure q
  | cont => exact w_pure q
theorem ws_ret (he : WE X e te) : WS X (.Return (some e) pos) (tRet te) := by
  refine ⟨fun pins s σ H D I h => ?_⟩
  rw [exec_Return_some]
  exact w_bind (w_standAt (w_bind (w_thn (he.run pins s σ H _ I h) fun v s1 ⟨x, H1, I1, r1, q1⟩ => w_pure ⟨x, σ, H1, I1, r1, q1⟩)))
theorem ws_asg {tg : Expr} {g : TG} (he : WE X e te) (hg : PG X tg g) (hs : swapsWithSole [tg] e pos.line X.env = pure false := by rfl) (hw : swappedStores [tg] e X.env = pure none := by rfl)
    (h1 : (assignEach [tg] X.env).map (·.2) = [assign tg X.env] := by rfl) : WS X (.Assign [tg] e pos) (tAsg te g) := by
  refine ⟨fun pins s σ H D I h => ?_⟩
  rw [exec_Assign_arm]
  refine w_bind (w_standAt ?_)
  rw [hs]
  refine w_bind (w_pure ?_)
  rw [if_neg (by decide)]
  refine w_bind (w_thn (he.run pins s σ H _ I h) fun v s1 ⟨x, H1, I1, r1, q1⟩ => ?_)
  rw [hw]
  refine w_bind (w_pure ?_)
  rw [h1]
  refine w_of ?_
  show wpAny _ _ (do assignAll v [assign tg X.env]; pure Flow.next) _ _ s1
  exact (wpAny_bind (thn (hg.run pins s1 σ H1 x v _ I1 r1 q1) fun _ s2 q => wpAny_pure q))
theorem ws_set {i : Nat} {x : Str} {pos' : Pos} (hN : X.N.Nodup) (hi : X.N[i]? = some x) (hx : Loc X.env.scope x) (he : WE X e te) (hs : swapsWith e (some (.Name x pos')) pos.line X.env = pure false := by rfl) (hf : X.fn x = true ∨ X.env.scope.names.lookup x = some .local := by first | exact .inl rfl | exact .inr rfl | assumption) :
    WS X (.Assign [.Name x pos'] e pos) (tAsg te (gName i)) := by
  refine ⟨fun pins s σ H D I h => ?_⟩
  rw [exec_Assign_Name X.env x pos' e pos hs]
  refine w_bind (w_standAt (w_bind (w_thn (he.run pins s σ H _ I h) fun v s1 ⟨y, H1, I1, r1, q1⟩ => ?_)))
  refine w_of (wpAny_bind (wpAny_standAt (wpAny_bind (wpAny_bindName (store_ok I1 hN hi hx r1 (fun s2 I2 => wpAny_pure ⟨_, H1, I2, q1⟩) hf)))))
theorem ws_fld {o : Expr} {f : Str} {pos' : Pos} {ta : TE} (ha : PE X o ta) (hv : WE X e te) (hs : swapsWith e (some (.Attribute o f pos')) pos.line X.env = pure false) : WS X (.Assign [.Attribute o f pos'] e pos) (sFld X.K ta te f) := by
  refine ⟨fun pins s σ H D I h => ?_⟩
  rw [plainObj_exec_Assign_Attribute o f pos' e pos hs]
  refine w_bind (w_standAt (w_bind (w_thn (hv.run pins s σ H _ I h) fun u s1 ⟨y, H1, I1, ry, q⟩ => ?_)))
  rw [assign_Attribute]
  refine w_of (wpAny_bind (wpAny_bind (wpAny_holding (thn (ha.run pins s1 σ H1 _ I1 q) fun ov s2 ⟨x, H2, I2, rx, a, C, dx, fs, ex, ea, c, n, l, q2⟩ => ?_))))
  subst ex
  obtain rfl : ov = Value.ref a := rx
  refine wpAny_bind (wpAny_standAt (wpAny_bind (wpAny_holding (setattr_ok I2 ea c n l ry fun s3 I3 => wpAny_release (wpAny_pure ⟨σ, _, I3, q2⟩)))))
theorem ws_if {c : Expr} {a b : List Stmt} {tc : TT} (hc : PT X c tc) (ha : WSs X a t) (hb : WSs X b u) : WS X (.If c a b pos) (tIfS tc t u) := by
  refine ⟨fun pins s σ H D I h => ?_⟩
  rw [exec_If]
  refine w_bind (w_standAt (w_bind (w_of (thn (hc.run pins s σ H _ I h) fun d s1 ⟨H1, I1, q1⟩ => ?_))))
  cases d with
  | true => exact ha.run pins s1 σ H1 D I1 q1
  | false => exact hb.run pins s1 σ H1 D I1 q1
end
end GW
set_option maxHeartbeats 4000000
/-! # W: the end of the thread, the claim -/
namespace GW
open PySem PySem.W PySem.Calls PyProof.Rows
theorem ends_W {prog : Program} {w : World} {t : Sem PySem.Fin} {s : Shared} {R : Result → Shared → Prop} (hreg : s.asleep)
    (h : W prog w callerA t (fun fin s' => ∃ f, fin = .done f ∧ (R (.ok f) s' ∧ leftWithCleanup s'.gens = false)) (fun e s' => R (.error e) s' ∧ leftWithCleanup s'.gens = false) s) :
    ∃ n r s' s'', schedN (denote table) prog w n (.single s ⟨t, .builtin "claim.caller" {}, default, []⟩) = .halted (outcomeOf r) s' ∧ s'.forget = s''.forget ∧ s'.heap.life = s.heap.life ∧ R r s'' := by
  have fin : ∀ (r : Result) (s' : Shared) (p' : Pos), R r s' → leftWithCleanup s'.gens = false → Good prog w (fun o s2 => ∃ r, o = outcomeOf r ∧ R r s2) s' ⟨leafOf r, .builtin "claim.caller" {}, p', []⟩ := fun r s' p' hr hl => by
    refine ⟨1, outcomeOf r, s', ?_, r, rfl, hr⟩
    have e : stepJ prog w s' ⟨leafOf r, .builtin "claim.caller" {}, p', []⟩ = .halt (outcomeOf r) s' := by
      cases r with
      | error e =>
        show (if _ then _ else finish (.uncaught e) s') = _
        unfold finish
        rw [hl]
        rfl
      | ok f =>
        show (if _ then _ else finish (.done f) s') = _
        unfold finish
        rw [hl]
        rfl
    simp only [runJ, e]
  have g := h (fun o s2 => ∃ r, o = outcomeOf r ∧ R r s2) .pure .raise id id ⟨.builtin "claim.caller" {}, none, none, [], none⟩ default [] caller_in ⟨rfl, rfl, rfl, rfl⟩ (fun fin' p' s' q => by
    obtain ⟨f, rfl, q1, q2⟩ := q
    exact fin (.ok f) s' p' q1 q2) fun e p' s' q => fin (.error e) s' p' q.1 q.2
  rw [wrap_self] at g
  obtain ⟨n, o, s', hn, r, rfl, hR⟩ := g
  obtain ⟨s'', hs, hf, hl⟩ := runJ_full prog w hn (outcomeOf_ends r) rfl rfl hreg
  exact ⟨n, r, s'', s', hs, hf, hl, hR⟩
theorem callFrom_W {c : ClaimW} {tree : List Value → Sem PySem.Fin} {w : World} {s : Shared} {free : Addr → Prop} {gens : Prop} {kept : Heap → Prop} (hz : s.asleep) (hgens : s.gens = #[])
    (hspec : ∀ args, c.pre args = true → WData.layableAll args = true → ∀ ord : List DictEntry → List DictEntry, (∀ l, (ord l).Perm l) →
      ∃ vs s₁, layAllW c.records (classAt s.heap) w.params ord args s = some (vs, s₁) ∧
        W c.prog w callerA (tree vs) (fun fin s' => ∃ f, fin = .done f ∧ (c.Ends s args vs s₁ (.ok f) s' ∧ s'.os = s.os ∧ AllBare s'.gens ∧ kept s'.heap)) (fun _ _ => False) s₁) :
    c.CallFrom (fun vs => ⟨tree vs, .builtin "claim.caller" {}, default, []⟩) w free gens kept s := by
  intro args hpre hlay ord hord
  obtain ⟨vs, s₁, hlaid, hcode⟩ := hspec args hpre hlay ord hord
  have hal := layAllW_rest _ _ _ hlaid
  obtain ⟨k, r, s', s'', hsched, hfo, hlf, hcase, hos, hkp⟩ := ends_W (prog := c.prog) (w := w) (t := tree vs) (s := s₁) (R := fun r s' => c.Ends s args vs s₁ r s' ∧ s'.os = s.os ∧ kept s'.heap)
    (Shared.asleep_of_life hal.2.2.2 hz) (w_mono hcode (fun fin s' ⟨f, e, h1, h2, h3, h4⟩ => ⟨f, e, ⟨h1, h2, h4⟩, leftWithCleanup_false_of_bare h3⟩) fun _ _ z => z.elim)
  obtain ⟨eh, _, _, eo, _⟩ := Shared.forget_eq hfo
  have hcase := hcase.congr eh
  have hkp : kept s'.heap := by first | exact eh ▸ hkp | (rw [eh] at hkp; exact hkp) | (rw [← eh] at hkp; exact hkp)
  rw [← eo] at hos
  refine ⟨vs, s₁, hlaid, k, _, s', hsched, ?_, (fun _ i x hx => by rw [hgens] at hx; simp at hx), hkp, by rw [hlf.trans hal.2.2.2], Shared.rest_eq hos⟩
  rcases hcase with ⟨v, rfl, d1, d2, d3, d4, d5⟩ | ⟨e, ob, cls, rfl, d1, d2, d3, d4, d5⟩
  · exact .inl ⟨v, rfl, d1, d2, d3, fun b o y _ => d4 b o y, d5⟩
  · exact .inr ⟨e, ob, cls, rfl, d1, d2, d3, d4, fun b o y _ => d5 b o y⟩
/-- what is asked of the law's walk -/
def WalkW (q : Program) (loose : List Str) (XP : (Str → Option Value) → Heap → Prop) (YP : World → Heap → Prop) (l : OpenLaw) (d : DefRec) : Prop :=
  ∀ (w : World) (s₀ s₁ : Shared) (mg mb : Str → Option Value) (fa : Addr) (a : Addr) (vs : List Value) (ns : List Int), Ground q loose l.row.toRowW.records XP w s₀ mg mb s₁.heap → YP w s₁.heap → mg d.name = some (.ref fa) →
    s₁.heap.get? a = some { cls := .type "list", data := .seq vs.toArray } → IntsAre vs ns → (∃ n, l.most = some n ∧ ns.length ≤ n) → s₁.gens = #[] →
    codeW l.prog w callerA (.call (.ref fa) ⟨[.ref a], []⟩) (fun r s' => r = .ok (.ret (.bool true)) ∧ OldK s₁.heap s'.heap ∧ s'.os = s₁.os ∧ AllBare s'.gens) s₁
theorem holds_W {l : OpenLaw} {q : Program} {n : Nat} {loose : List Str} {Xt : Shared → Bool} {XP : (Str → Option Value) → Heap → Prop} {α : Type} {Yf : Shared → α} {Ya : World → α} {YP : World → Heap → Prop} {d : DefRec} {kwd : List (Str × Expr)} {N : Nat}
    (hn : l.most = some n) (left : LeftO l.row.prog q loose Xt Yf Ya N) (hY : ∀ w s, Yf s = Ya w → YP w s.heap) (hYk : ∀ w h h', YP w h → (∀ b o, h.get? b = some o → h'.get? b = some o) → YP w h')
    (hX : ∀ s, Xt s = true → XP (s.heap.nsMap mainGlobals) s.heap) (hXk : ∀ mg h h', XP mg h → (∀ b o, h.get? b = some o → h'.get? b = some o) → XP mg h')
    (hdef : defOf q l.row.name = some (d, kwd)) (hp : l.row.prog.theDef l.row.name = some (d.params, d.body, d.scope)) (hk : kwWritten? d.params.kwonlyargs d.params.kw_defaults = some kwd) (hRf : ∀ s, Xt s = true → RecFacts l.row.records s.heap) (hwr : (!l.row.writes || l.row.records.isEmpty) = true)
    (k1 : l.row.wellSaid = true) (ok : (chainsOk q && opensWell l.row.prog && (frees l.row.toRowW && l.row.within.isEmpty)) = true) (hb : l.row.prog.bare) (hw : l.row.toRowW.promised)
    (call : WalkW q loose XP YP l d) : l.row.Holds := by
  refine ⟨k1, hw, ?_⟩
  obtain ⟨ok, k5⟩ := Bool.and_eq_true_iff.mp ok
  obtain ⟨hch, o1⟩ := Bool.and_eq_true_iff.mp ok
  obtain ⟨k5, k6⟩ := Bool.and_eq_true_iff.mp k5
  obtain ⟨hsame, hu, ha, hap, hm⟩ := frees_parts k5
  refine ⟨⟨hb, o1, by simp [RowW.claim, hm]⟩, hw.witness, fun w => ⟨(left.behind hX hch w).1, fun s' hs' => ?_⟩⟩
  obtain ⟨s₀, hf, hg0, s, hT, hz, hgens, hg, G00, y⟩ := (left.behind (XP := fun mg h => XP mg h ∧ RecFacts l.row.toRowW.records h) (fun s hs => ⟨hX s hs, hRf s hs⟩) hch w).2 s' hs'
  have G0 : Ground q loose [] XP w s (s.heap.nsMap mainGlobals) (s.heap.nsMap builtinsNs) s.heap := ⟨G00.T, G00.B, G00.D, G00.TE, G00.TD, G00.W, G00.X.1, G00.cls, G00.has, G00.apart, G00.once, G00.K⟩
  have RF := G00.X.2
  have hgens : s.gens = #[] := Array.eq_empty_of_size_eq_zero (beq_iff_eq.mp hgens)
  have G : Ground q loose l.row.toRowW.records XP w s _ _ s.heap := RF.ground G0
  refine ⟨s₀, hf, hg0, s, hT, fun nm hnm => ?_, RF.1, RF.2.1, callFrom_W (c := l.row.toRowW.claim) hz hgens fun args hpre hlay ord hord => ?_⟩
  · obtain rfl : nm = l.row.name := by split at hnm <;> simp_all
    exact pinned_of_view hg G0 hdef hp hk
  obtain ⟨⟨vs, s₁⟩, hlaid⟩ := Option.isSome_iff_exists.mp (layAllW_isSome (P := w.params) (ord := ord) G.has args l.row.toRowW.args s (pre_splitW hpre).1)
  have keeps := layAllW_keeps _ _ _ hlaid
  have hal := layAllW_rest _ _ _ hlaid
  obtain ⟨as, hrd, hin, hold⟩ := reads_layAllW hord _ _ _ hlaid hlay s₁.heap (fun _ _ e => e)
  have L : Laid l.row.toRowW.records w s s₁ args vs as := ⟨⟨ord, hord, hlaid⟩, hrd, hin, hold, keeps, hal.1.trans hgens, hal.2.2.1⟩
  have G₁ := G.keeps hXk keeps
  obtain ⟨a, o, pm, cd, doc, dV, kV, h1, h2, h3, h4, h5⟩ := G₁.fn hdef
  obtain ⟨a2, vs2, ns, rfl, rfl, hobj, hints, hlen⟩ := Att.script_of hn hpre L.well
  have hmg : s.heap.nsMap mainGlobals d.name = some (.ref a) := defOf_name hdef ▸ h1
  have hi := ident_freeW hu ha hap
  have hwi : l.row.toRowW.claim.within = [] := List.isEmpty_iff.mp k6
  refine ⟨[.ref a2], s₁, hlaid, ?_⟩
  have hf2 : s.heap.nsMap mainGlobals l.row.name = some (.ref a) := h1
  refine w_bind (w_of (wpAny_nsGet G₁.T.g ?_))
  rw [hf2]
  refine w_bind (w_call (cw_mono (call w s s₁ _ _ a a2 vs2 ns G₁ (hYk _ _ _ (hY w s y) keeps) hmg hobj hints ⟨n, hn, hlen⟩ L.gens) fun r s' hq => ?_))
  obtain ⟨rfl, q2, q3, q4⟩ := hq
  have g : GoodWG l.row.toRowW.claim (classAt s.heap) (ExcName.means s.heap) [WData.list (ns.map WData.int)] s₁ (.ok (.ret (.bool true))) s' := ⟨.inl ⟨.bool true, .bool true, [], rfl, fun _ => rfl, .bool true, Att.post_true l _, fun _ => ⟨List.Pairwise.nil, fun _ hm => (nomatch hm)⟩⟩, q2, q3, q4⟩
  have z := g.laid (c := l.row.toRowW.claim) hsame hwi hi L
  exact w_pure ⟨_, rfl, z.1, z.2.1, z.2.2, fun q => ⟨namesKept_of hT hg _ keeps g.2.1.old, noTable hwr q⟩⟩
end GW
set_option maxHeartbeats 0
namespace Ct
open PySem PySem.Spec PyProof.Rows L2
def top (i : Nat) : Stmt := PySem.Challenge.pw_callsthrough_k52_whole_keeper_never_bars.main.body.getD i (.Pass ⟨0, 0, 0, 0⟩)
abbrev s_is_integer : Stmt := top 10
abbrev s_within : Stmt := top 11
abbrev s_is_pair : Stmt := top 14
abbrev s_is_load : Stmt := top 15
abbrev s_load_calls : Stmt := top 16
abbrev s_doors_left : Stmt := top 17
abbrev s_is_standing : Stmt := top 18
abbrev s_need_standing : Stmt := top 19
abbrev s_need_pair : Stmt := top 20
abbrev s_need_doors : Stmt := top 21
abbrev s_empty : Stmt := top 22
abbrev s_fits : Stmt := top 23
abbrev s_put : Stmt := top 24
abbrev s_taken : Stmt := top 25
abbrev s_replaced : Stmt := top 26
abbrev s_fitting : Stmt := top 27
abbrev s_open_pairs : Stmt := top 28
abbrev s_as_shape : Stmt := top 29
abbrev s_is_shape : Stmt := top 30
abbrev s_all_loads : Stmt := top 31
abbrev s_has_doors : Stmt := top 32
abbrev s_without_doors : Stmt := top 33
abbrev s_shapes_from : Stmt := top 34
abbrev s_shapes_within : Stmt := top 35
abbrev s_all_shapes : Stmt := top 36
abbrev s_next_shapes : Stmt := top 37
abbrev s_ends_of : Stmt := top 38
abbrev s_checked_table : Stmt := top 40
abbrev s_falling_move : Stmt := top 44
abbrev s_calls_from : Stmt := top 45
abbrev s_fallen : Stmt := top 46
abbrev s_keeper : Stmt := top 47
abbrev s_are_doors : Stmt := top 52
abbrev s_same : Stmt := top 55
abbrev s_after_load : Stmt := top 56
abbrev s_fault_of_shape : Stmt := top 57
abbrev s_keep_fault : Stmt := top 58
abbrev s__law_flow : Stmt := top 60
abbrev s__law_pick : Stmt := top 61
abbrev s__law_same : Stmt := top 62
abbrev s__law_sides : Stmt := top 63
abbrev s__law_fits : Stmt := top 64
abbrev s__law_loads : Stmt := top 65
abbrev s__law_less : Stmt := top 66
abbrev s__law_shapes : Stmt := top 67
abbrev s__law_calls : Stmt := top 68
abbrev s__law_open : Stmt := top 69
abbrev s__law_swap : Stmt := top 70
abbrev s__law_nexts : Stmt := top 71
abbrev s__law_ends : Stmt := top 72
abbrev s__law_lost : Stmt := top 73
abbrev s__law_game : Stmt := top 74
abbrev s__law_whole : Stmt := top 75
abbrev s__law_places : Stmt := top 76
abbrev s__law_with : Stmt := top 77
abbrev s__law_without : Stmt := top 78
abbrev s__law_right_table : Stmt := top 79
abbrev s__law_deed : Stmt := top 80
abbrev s_law : Stmt := top 81
abbrev s_Rule_init : Stmt := inClass (top 42) 1
abbrev s_Rule_call : Stmt := inClass (top 42) 2
abbrev s_Rule_picked : Stmt := inClass (top 42) 3
abbrev s_Exchange_init : Stmt := inClass (top 53) 0
abbrev s_Exchange_pairs : Stmt := inClass (top 53) 5
end Ct
namespace CtHead
open PySem PySem.Spec PyProof.Rows L2 Ct
def d_is_integer : He5.DefA := ⟨fun K => He.fAd K ("is_integer", none), "is_integer", "is_integer", defArgs s_is_integer, defBody s_is_integer, defScope s_is_integer, [], []⟩
def d_within : He5.DefA := ⟨fun K => He.fAd K ("within", none), "within", "within", defArgs s_within, defBody s_within, defScope s_within, [], []⟩
def d_is_pair : He5.DefA := ⟨fun K => He.fAd K ("is_pair", none), "is_pair", "is_pair", defArgs s_is_pair, defBody s_is_pair, defScope s_is_pair, [], []⟩
def d_is_load : He5.DefA := ⟨fun K => He.fAd K ("is_load", none), "is_load", "is_load", defArgs s_is_load, defBody s_is_load, defScope s_is_load, [], []⟩
def d_load_calls : He5.DefA := ⟨fun K => He.fAd K ("load_calls", none), "load_calls", "load_calls", defArgs s_load_calls, defBody s_load_calls, defScope s_load_calls, [], []⟩
def d_doors_left : He5.DefA := ⟨fun K => He.fAd K ("doors_left", none), "doors_left", "doors_left", defArgs s_doors_left, defBody s_doors_left, defScope s_doors_left, [], []⟩
def d_is_standing : He5.DefA := ⟨fun K => He.fAd K ("is_standing", none), "is_standing", "is_standing", defArgs s_is_standing, defBody s_is_standing, defScope s_is_standing, [], []⟩
def d_need_standing : He5.DefA := ⟨fun K => He.fAd K ("need_standing", none), "need_standing", "need_standing", defArgs s_need_standing, defBody s_need_standing, defScope s_need_standing, [], []⟩
def d_need_pair : He5.DefA := ⟨fun K => He.fAd K ("need_pair", none), "need_pair", "need_pair", defArgs s_need_pair, defBody s_need_pair, defScope s_need_pair, [], []⟩
def d_need_doors : He5.DefA := ⟨fun K => He.fAd K ("need_doors", none), "need_doors", "need_doors", defArgs s_need_doors, defBody s_need_doors, defScope s_need_doors, [], []⟩
def d_empty : He5.DefA := ⟨fun K => He.fAd K ("empty", none), "empty", "empty", defArgs s_empty, defBody s_empty, defScope s_empty, [], []⟩
def d_fits : He5.DefA := ⟨fun K => He.fAd K ("fits", none), "fits", "fits", defArgs s_fits, defBody s_fits, defScope s_fits, [], []⟩
def d_put : He5.DefA := ⟨fun K => He.fAd K ("put", none), "put", "put", defArgs s_put, defBody s_put, defScope s_put, [], []⟩
def d_taken : He5.DefA := ⟨fun K => He.fAd K ("taken", none), "taken", "taken", defArgs s_taken, defBody s_taken, defScope s_taken, [], []⟩
def d_replaced : He5.DefA := ⟨fun K => He.fAd K ("replaced", none), "replaced", "replaced", defArgs s_replaced, defBody s_replaced, defScope s_replaced, [], []⟩
def d_fitting : He5.DefA := ⟨fun K => He.fAd K ("fitting", none), "fitting", "fitting", defArgs s_fitting, defBody s_fitting, defScope s_fitting, [], []⟩
def d_open_pairs : He5.DefA := ⟨fun K => He.fAd K ("open_pairs", none), "open_pairs", "open_pairs", defArgs s_open_pairs, defBody s_open_pairs, defScope s_open_pairs, [], []⟩
def d_as_shape : He5.DefA := ⟨fun K => He.fAd K ("as_shape", none), "as_shape", "as_shape", defArgs s_as_shape, defBody s_as_shape, defScope s_as_shape, [], []⟩
def d_is_shape : He5.DefA := ⟨fun K => He.fAd K ("is_shape", none), "is_shape", "is_shape", defArgs s_is_shape, defBody s_is_shape, defScope s_is_shape, [], []⟩
def d_all_loads : He5.DefA := ⟨fun K => He.fAd K ("all_loads", none), "all_loads", "all_loads", defArgs s_all_loads, defBody s_all_loads, defScope s_all_loads, [], []⟩
def d_has_doors : He5.DefA := ⟨fun K => He.fAd K ("has_doors", none), "has_doors", "has_doors", defArgs s_has_doors, defBody s_has_doors, defScope s_has_doors, [], []⟩
def d_without_doors : He5.DefA := ⟨fun K => He.fAd K ("without_doors", none), "without_doors", "without_doors", defArgs s_without_doors, defBody s_without_doors, defScope s_without_doors, [], []⟩
def d_shapes_from : He5.DefA := ⟨fun K => He.fAd K ("shapes_from", none), "shapes_from", "shapes_from", defArgs s_shapes_from, defBody s_shapes_from, defScope s_shapes_from, [], []⟩
def d_shapes_within : He5.DefA := ⟨fun K => He.fAd K ("shapes_within", none), "shapes_within", "shapes_within", defArgs s_shapes_within, defBody s_shapes_within, defScope s_shapes_within, [], []⟩
def d_all_shapes : He5.DefA := ⟨fun K => He.fAd K ("all_shapes", none), "all_shapes", "all_shapes", defArgs s_all_shapes, defBody s_all_shapes, defScope s_all_shapes, [], []⟩
def d_next_shapes : He5.DefA := ⟨fun K => He.fAd K ("next_shapes", none), "next_shapes", "next_shapes", defArgs s_next_shapes, defBody s_next_shapes, defScope s_next_shapes, [], []⟩
def d_ends_of : He5.DefA := ⟨fun K => He.fAd K ("ends_of", none), "ends_of", "ends_of", defArgs s_ends_of, defBody s_ends_of, defScope s_ends_of, [], []⟩
def d_checked_table : He5.DefA := ⟨fun K => He.fAd K ("checked_table", none), "checked_table", "checked_table", defArgs s_checked_table, defBody s_checked_table, defScope s_checked_table, [], []⟩
def d_falling_move : He5.DefA := ⟨fun K => He.fAd K ("falling_move", none), "falling_move", "falling_move", defArgs s_falling_move, defBody s_falling_move, defScope s_falling_move, [], []⟩
def d_calls_from : He5.DefA := ⟨fun K => He.fAd K ("calls_from", none), "calls_from", "calls_from", defArgs s_calls_from, defBody s_calls_from, defScope s_calls_from, [], []⟩
def d_fallen : He5.DefA := ⟨fun K => He.fAd K ("fallen", none), "fallen", "fallen", defArgs s_fallen, defBody s_fallen, defScope s_fallen, [], []⟩
def d_keeper : He5.DefA := ⟨fun K => He.fAd K ("keeper", none), "keeper", "keeper", defArgs s_keeper, defBody s_keeper, defScope s_keeper, [], []⟩
def d_are_doors : He5.DefA := ⟨fun K => He.fAd K ("are_doors", none), "are_doors", "are_doors", defArgs s_are_doors, defBody s_are_doors, defScope s_are_doors, [], []⟩
def d_same : He5.DefA := ⟨fun K => He.fAd K ("same", none), "same", "same", defArgs s_same, defBody s_same, defScope s_same, [], []⟩
def d_after_load : He5.DefA := ⟨fun K => He.fAd K ("after_load", none), "after_load", "after_load", defArgs s_after_load, defBody s_after_load, defScope s_after_load, [], []⟩
def d_fault_of_shape : He5.DefA := ⟨fun K => He.fAd K ("fault_of_shape", none), "fault_of_shape", "fault_of_shape", defArgs s_fault_of_shape, defBody s_fault_of_shape, defScope s_fault_of_shape, [], []⟩
def d_keep_fault : He5.DefA := ⟨fun K => He.fAd K ("keep_fault", none), "keep_fault", "keep_fault", defArgs s_keep_fault, defBody s_keep_fault, defScope s_keep_fault, [], []⟩
def d__law_flow : He5.DefA := ⟨fun K => He.fAd K ("_law_flow", none), "_law_flow", "_law_flow", defArgs s__law_flow, defBody s__law_flow, defScope s__law_flow, [], []⟩
def d__law_pick : He5.DefA := ⟨fun K => He.fAd K ("_law_pick", none), "_law_pick", "_law_pick", defArgs s__law_pick, defBody s__law_pick, defScope s__law_pick, [], []⟩
def d__law_same : He5.DefA := ⟨fun K => He.fAd K ("_law_same", none), "_law_same", "_law_same", defArgs s__law_same, defBody s__law_same, defScope s__law_same, [], []⟩
def d__law_sides : He5.DefA := ⟨fun K => He.fAd K ("_law_sides", none), "_law_sides", "_law_sides", defArgs s__law_sides, defBody s__law_sides, defScope s__law_sides, [], []⟩
def d__law_fits : He5.DefA := ⟨fun K => He.fAd K ("_law_fits", none), "_law_fits", "_law_fits", defArgs s__law_fits, defBody s__law_fits, defScope s__law_fits, [], []⟩
def d__law_loads : He5.DefA := ⟨fun K => He.fAd K ("_law_loads", none), "_law_loads", "_law_loads", defArgs s__law_loads, defBody s__law_loads, defScope s__law_loads, [], []⟩
def d__law_less : He5.DefA := ⟨fun K => He.fAd K ("_law_less", none), "_law_less", "_law_less", defArgs s__law_less, defBody s__law_less, defScope s__law_less, [], []⟩
def d__law_shapes : He5.DefA := ⟨fun K => He.fAd K ("_law_shapes", none), "_law_shapes", "_law_shapes", defArgs s__law_shapes, defBody s__law_shapes, defScope s__law_shapes, [], []⟩
def d__law_calls : He5.DefA := ⟨fun K => He.fAd K ("_law_calls", none), "_law_calls", "_law_calls", defArgs s__law_calls, defBody s__law_calls, defScope s__law_calls, [], []⟩
def d__law_open : He5.DefA := ⟨fun K => He.fAd K ("_law_open", none), "_law_open", "_law_open", defArgs s__law_open, defBody s__law_open, defScope s__law_open, [], []⟩
def d__law_swap : He5.DefA := ⟨fun K => He.fAd K ("_law_swap", none), "_law_swap", "_law_swap", defArgs s__law_swap, defBody s__law_swap, defScope s__law_swap, [], []⟩
def d__law_nexts : He5.DefA := ⟨fun K => He.fAd K ("_law_nexts", none), "_law_nexts", "_law_nexts", defArgs s__law_nexts, defBody s__law_nexts, defScope s__law_nexts, [], []⟩
def d__law_ends : He5.DefA := ⟨fun K => He.fAd K ("_law_ends", none), "_law_ends", "_law_ends", defArgs s__law_ends, defBody s__law_ends, defScope s__law_ends, [], []⟩
def d__law_lost : He5.DefA := ⟨fun K => He.fAd K ("_law_lost", none), "_law_lost", "_law_lost", defArgs s__law_lost, defBody s__law_lost, defScope s__law_lost, [], []⟩
def d__law_game : He5.DefA := ⟨fun K => He.fAd K ("_law_game", none), "_law_game", "_law_game", defArgs s__law_game, defBody s__law_game, defScope s__law_game, [], []⟩
def d__law_whole : He5.DefA := ⟨fun K => He.fAd K ("_law_whole", none), "_law_whole", "_law_whole", defArgs s__law_whole, defBody s__law_whole, defScope s__law_whole, [], []⟩
def d__law_places : He5.DefA := ⟨fun K => He.fAd K ("_law_places", none), "_law_places", "_law_places", defArgs s__law_places, defBody s__law_places, defScope s__law_places, [], []⟩
def d__law_with : He5.DefA := ⟨fun K => He.fAd K ("_law_with", none), "_law_with", "_law_with", defArgs s__law_with, defBody s__law_with, defScope s__law_with, [], []⟩
def d__law_without : He5.DefA := ⟨fun K => He.fAd K ("_law_without", none), "_law_without", "_law_without", defArgs s__law_without, defBody s__law_without, defScope s__law_without, [], []⟩
def d__law_right_table : He5.DefA := ⟨fun K => He.fAd K ("_law_right_table", none), "_law_right_table", "_law_right_table", defArgs s__law_right_table, defBody s__law_right_table, defScope s__law_right_table, [], []⟩
def d__law_deed : He5.DefA := ⟨fun K => He.fAd K ("_law_deed", none), "_law_deed", "_law_deed", defArgs s__law_deed, defBody s__law_deed, defScope s__law_deed, [], []⟩
def d_law : He5.DefA := ⟨fun K => He.fAd K ("law", none), "law", "law", defArgs s_law, defBody s_law, defScope s_law, [], []⟩
def d_Rule_init : He5.DefA := ⟨fun K => He.fAd K ("Rule", some "__init__"), "__init__", "Rule.__init__", defArgs s_Rule_init, defBody s_Rule_init, defScope s_Rule_init, [], []⟩
def d_Rule_call : He5.DefA := ⟨fun K => He.fAd K ("Rule", some "__call__"), "__call__", "Rule.__call__", defArgs s_Rule_call, defBody s_Rule_call, defScope s_Rule_call, [], []⟩
def d_Rule_picked : He5.DefA := ⟨fun K => He.fAd K ("Rule", some "picked"), "picked", "Rule.picked", defArgs s_Rule_picked, defBody s_Rule_picked, defScope s_Rule_picked, [], []⟩
def d_Exchange_init : He5.DefA := ⟨fun K => He.fAd K ("Exchange", some "__init__"), "__init__", "Exchange.__init__", defArgs s_Exchange_init, defBody s_Exchange_init, defScope s_Exchange_init, [], []⟩
def d_Exchange_pairs : He5.DefA := ⟨fun K => He.fAd K ("Exchange", some "pairs"), "pairs", "Exchange.pairs", defArgs s_Exchange_pairs, defBody s_Exchange_pairs, defScope s_Exchange_pairs, [], []⟩
def fn1 : List He5.DefA := [d_is_integer, d_within, d_is_pair, d_is_load, d_load_calls, d_doors_left, d_is_standing, d_need_standing, d_need_pair, d_need_doors, d_empty, d_fits, d_put, d_taken, d_replaced, d_fitting, d_open_pairs, d_as_shape, d_is_shape, d_all_loads, d_has_doors, d_without_doors, d_shapes_from, d_shapes_within, d_all_shapes, d_next_shapes, d_ends_of, d_checked_table, d_falling_move, d_calls_from]
def fn2 : List He5.DefA := [d_fallen, d_keeper, d_are_doors, d_same, d_after_load, d_fault_of_shape, d_keep_fault, d__law_flow, d__law_pick, d__law_same, d__law_sides, d__law_fits, d__law_loads, d__law_less, d__law_shapes, d__law_calls, d__law_open, d__law_swap, d__law_nexts, d__law_ends, d__law_lost, d__law_game, d__law_whole, d__law_places, d__law_with, d__law_without, d__law_right_table, d__law_deed, d_law, d_Rule_init, d_Rule_call, d_Rule_picked, d_Exchange_init, d_Exchange_pairs]
def fn : List He5.DefA := fn1 ++ fn2
def fa1 : List He.Fa := [.free "isinstance", .free "int", .free "bool", .free "tuple", .free "len", .free "all", .free "range", .free "set", .free "sorted", .free "list", .free "min", .free "max", .free "abs", .free "enumerate", .free "zip", .free "dict", .free "str"]
def fa2 : List He.Fa := [.glo "is_integer", .glo "within", .glo "is_pair", .glo "is_load", .glo "load_calls", .glo "doors_left", .glo "is_standing", .glo "need_standing", .glo "need_pair", .glo "need_doors", .glo "empty", .glo "fits", .glo "put", .glo "taken", .glo "replaced", .glo "fitting", .glo "open_pairs", .glo "as_shape", .glo "is_shape", .glo "all_loads", .glo "has_doors", .glo "without_doors", .glo "shapes_from", .glo "shapes_within", .glo "all_shapes", .glo "next_shapes", .glo "ends_of", .glo "checked_table", .glo "falling_move", .glo "calls_from"]
def fa3 : List He.Fa := [.glo "fallen", .glo "keeper", .glo "are_doors", .glo "same", .glo "after_load", .glo "fault_of_shape", .glo "keep_fault", .glo "_law_flow", .glo "_law_pick", .glo "_law_same", .glo "_law_sides", .glo "_law_fits", .glo "_law_loads", .glo "_law_less", .glo "_law_shapes", .glo "_law_calls", .glo "_law_open", .glo "_law_swap", .glo "_law_nexts", .glo "_law_ends", .glo "_law_lost", .glo "_law_game", .glo "_law_whole", .glo "_law_places", .glo "_law_with", .glo "_law_without", .glo "_law_right_table", .glo "_law_deed", .glo "law"]
def fa4 : List He.Fa := [.glo "Exchange", .glo "Rule", .int "MOST_SHAPES" 1000, .int "MOST_SWITCHES" 4, .int "MOST_DOORS" 4, .int "MOST_MIDDLES" 7, .cls "Exchange", .cls "Rule", .mkr "Exchange", .mkr "Rule", .noat "Exchange" "ins", .noat "Exchange" "outs", .noat "Exchange" "middles", .noat "Rule" "exchange", .noat "Rule" "word", .noat "Rule" "table", .meth "Exchange" "pairs", .meth "Rule" "picked", .meth "Rule" "__call__"]
def fa : List He.Fa := fa1 ++ (fa2 ++ (fa3 ++ fa4))
def nm1 : List PySem.Str := ["_wall", "CallError", "BadExchange", "NoStanding", "NoPair", "NoDoor", "BadRule", "TooMany", "is_integer", "within", "MOST_SHAPES", "is_pair", "is_load", "load_calls", "doors_left", "is_standing", "need_standing", "need_pair", "need_doors", "empty", "fits", "put", "taken", "replaced", "fitting", "open_pairs", "as_shape", "is_shape", "all_loads", "has_doors"]
def nm2 : List PySem.Str := ["without_doors", "shapes_from", "shapes_within", "all_shapes", "next_shapes", "ends_of", "checked_table", "pick_by_word", "Rule", "falling_move", "calls_from", "fallen", "keeper", "MOST_SWITCHES", "MOST_DOORS", "MOST_MIDDLES", "are_doors", "Exchange", "same", "after_load", "fault_of_shape", "keep_fault", "_law_flow", "_law_pick", "_law_same", "_law_sides", "_law_fits", "_law_loads", "_law_less", "_law_shapes"]
def nm3 : List PySem.Str := ["_law_calls", "_law_open", "_law_swap", "_law_nexts", "_law_ends", "_law_lost", "_law_game", "_law_whole", "_law_places", "_law_with", "_law_without", "_law_right_table", "_law_deed"]
def names : List PySem.Str := nm1 ++ (nm2 ++ nm3)
abbrev R : PySem.W.OpenRow := PySem.W.OpenLaw.row PySem.Challenge.rw_callsthrough_k52_whole_keeper_never_bars
abbrev hk : PySem.W.Hook := He5.hookA 5 fa fn
def ob (s : PySem.W.SharedT) : He.AlD := He5.obsAG 5 fa fn (HandSHeadRun.getT s)
theorem ob_eq (s : PySem.W.SharedT) : ob s = hk.obs s.abs := He5.obsAG_eq (HandSHeadRun.getT_eq s)
theorem run (w : World) : HandSHeadRun.RunEq R (PySem.W.view R.prog [81]) hk ob 6000 names w := by
  intro os
  kernel_rfl
end CtHead
set_option maxHeartbeats 2000000
/-! # Typed readings: what an expression evaluates to, told as plain data (pairs, loads, shapes), the heap only growing. -/
namespace Ct
open PySem PySem.Spec PyProof.Rows L2 Evl

/-! ### what a value stands for -/
abbrev Rp (α : Type) := Hp → V → α → Prop
class Mon {α : Type} (R : Rp α) : Prop where
  mon : ∀ {H H' : Hp} {v : V} {x : α}, Ex H H' → R H v x → R H' v x
theorem up {α : Type} {R : Rp α} [m : Mon R] {H H' : Hp} {v : V} {x : α} (e : Ex H H') (h : R H v x) : R H' v x := m.mon e h
theorem pup {α : Type} {R : Rp α} [m : Mon R] {H H' : Hp} (e : Ex H H') : ∀ {xs : List V} {l : List α}, Paired (R H) xs l → Paired (R H') xs l
  | _, _, .nil => .nil
  | _, _, .cons a t => .cons (up e a) (pup e t)
def Ri : Rp Int := fun _ v i => v = .int i
def Rb : Rp Bool := fun _ v b => v = .bl b
def Rnon : Rp Unit := fun _ v _ => v = .non
def Rv : Rp V := fun _ v x => v = x
instance : Mon Ri := ⟨fun _ h => h⟩
instance : Mon Rb := ⟨fun _ h => h⟩
instance : Mon Rnon := ⟨fun _ h => h⟩
instance : Mon Rv := ⟨fun _ h => h⟩
def Rtup {α : Type} (R : Rp α) : Rp (List α) := fun H v l => ∃ a xs, v = .ref a ∧ H a = some (.tup xs) ∧ Paired (R H) xs l
def Rlst {α : Type} (R : Rp α) : Rp (List α) := fun H v l => ∃ a xs, v = .ref a ∧ H a = some (.lst xs) ∧ Paired (R H) xs l
def Rpr {α β : Type} (R : Rp α) (S : Rp β) : Rp (α × β) := fun H v p => ∃ a u w, v = .ref a ∧ H a = some (.tup [u, w]) ∧ R H u p.1 ∧ S H w p.2
def Rtr {α β γ : Type} (R : Rp α) (S : Rp β) (T : Rp γ) : Rp (α × β × γ) := fun H v p => ∃ a u w z, v = .ref a ∧ H a = some (.tup [u, w, z]) ∧ R H u p.1 ∧ S H w p.2.1 ∧ T H z p.2.2
section
variable {α β γ : Type} {R : Rp α} {S : Rp β} {T : Rp γ}
instance [Mon R] : Mon (Rtup R) := ⟨fun e ⟨a, xs, h1, h2, h3⟩ => ⟨a, xs, h1, e _ _ h2, pup e h3⟩⟩
instance [Mon R] : Mon (Rlst R) := ⟨fun e ⟨a, xs, h1, h2, h3⟩ => ⟨a, xs, h1, e _ _ h2, pup e h3⟩⟩
instance [Mon R] [Mon S] : Mon (Rpr R S) := ⟨fun e ⟨a, u, w, h1, h2, h3, h4⟩ => ⟨a, u, w, h1, e _ _ h2, up e h3, up e h4⟩⟩
instance [Mon R] [Mon S] [Mon T] : Mon (Rtr R S T) := ⟨fun e ⟨a, u, w, z, h1, h2, h3, h4, h5⟩ => ⟨a, u, w, z, h1, e _ _ h2, up e h3, up e h4, up e h5⟩⟩
end
/-- pairs, loads, shapes -/
abbrev P : Type := Int × Int
abbrev Ld : Type := List P
abbrev Sh : Type := List Ld
abbrev Rp2 : Rp P := Rpr Ri Ri
abbrev Rld : Rp Ld := Rtup Rp2
abbrev Rsh : Rp Sh := Rtup Rld

/-! ### Paired -/
theorem pr_len {α β : Type} {F : α → β → Prop} {xs : List α} {l : List β} (h : Paired F xs l) : xs.length = l.length := Paired.length h
theorem pr_get {α β : Type} {F : α → β → Prop} : ∀ {xs : List α} {l : List β} {i : Nat} {x : α}, Paired F xs l → xs[i]? = some x → ∃ y, l[i]? = some y ∧ F x y
  | _, _, _, _, .nil, e => by simp at e
  | _, _, 0, _, .cons r _, e => by simp at e; subst e; exact ⟨_, rfl, r⟩
  | _, _, i + 1, x, .cons _ t, e => by
    obtain ⟨u, h1, h2⟩ := pr_get (i := i) (x := x) t (by simpa using e)
    exact ⟨u, by simpa using h1, h2⟩
theorem pr_get' {α β : Type} {F : α → β → Prop} : ∀ {xs : List α} {l : List β} {i : Nat} {y : β}, Paired F xs l → l[i]? = some y → ∃ x, xs[i]? = some x ∧ F x y
  | _, _, _, _, .nil, e => by simp at e
  | _, _, 0, _, .cons r _, e => by simp at e; subst e; exact ⟨_, rfl, r⟩
  | _, _, i + 1, x, .cons _ t, e => by
    obtain ⟨u, h1, h2⟩ := pr_get' (i := i) t (by simpa using e)
    exact ⟨u, by simpa using h1, h2⟩
theorem pr_imp {α β : Type} {F G : α → β → Prop} : ∀ {xs : List α} {l : List β}, Paired F xs l → (∀ x y, F x y → G x y) → Paired G xs l
  | _, _, .nil, _ => .nil
  | _, _, .cons r t, f => .cons (f _ _ r) (pr_imp t f)
theorem pr_app {α β : Type} {F : α → β → Prop} : ∀ {xs ys : List α} {l m : List β}, Paired F xs l → Paired F ys m → Paired F (xs ++ ys) (l ++ m)
  | _, _, _, _, .nil, s => s
  | _, _, _, _, .cons r t, s => .cons r (pr_app t s)
theorem pr_take {α β : Type} {F : α → β → Prop} : ∀ (n : Nat) {xs : List α} {l : List β}, Paired F xs l → Paired F (xs.take n) (l.take n)
  | 0, _, _, _ => by rw [List.take_zero, List.take_zero]; exact .nil
  | _ + 1, _, _, .nil => .nil
  | n + 1, _, _, .cons r t => .cons r (pr_take n t)
theorem pr_drop {α β : Type} {F : α → β → Prop} : ∀ (n : Nat) {xs : List α} {l : List β}, Paired F xs l → Paired F (xs.drop n) (l.drop n)
  | 0, _, _, r => r
  | _ + 1, _, _, .nil => .nil
  | n + 1, _, _, .cons _ t => pr_drop n t
theorem pr_rev {α β : Type} {F : α → β → Prop} : ∀ {xs : List α} {l : List β}, Paired F xs l → Paired F xs.reverse l.reverse
  | _, _, .nil => .nil
  | _, _, .cons r t => by rw [List.reverse_cons, List.reverse_cons]; exact pr_app (pr_rev t) (.cons r .nil)
theorem pr_one {α β : Type} {F : α → β → Prop} {x : α} {y : β} (h : F x y) : Paired F [x] [y] := .cons h .nil
theorem pr_snoc {α β : Type} {F : α → β → Prop} {xs : List α} {l : List β} {x : α} {y : β} (h : Paired F xs l) (r : F x y) : Paired F (xs ++ [x]) (l ++ [y]) := pr_app h (pr_one r)
theorem pr_set {α β : Type} {F : α → β → Prop} {x : α} {y : β} (r : F x y) : ∀ {xs : List α} {l : List β} (i : Nat), Paired F xs l → Paired F (xs.set i x) (l.set i y)
  | _, _, _, .nil => .nil
  | _, _, 0, .cons _ t => .cons r t
  | _, _, i + 1, .cons q t => .cons q (pr_set r i t)
theorem pr_map {α β γ : Type} {F : α → γ → Prop} (f : β → γ) : ∀ {xs : List α} {l : List β}, Paired (fun x y => F x (f y)) xs l → Paired F xs (l.map f)
  | _, _, .nil => .nil
  | _, _, .cons r t => .cons r (pr_map f t)
theorem pr_ints : ∀ {xs : List V} {l : List Int} {H : Hp}, Paired (Ri H) xs l → xs = l.map V.int
  | _, _, _, .nil => rfl
  | _, _, _, .cons r t => by
    cases r
    rw [List.map_cons, pr_ints t]
theorem ints_pr (H : Hp) : ∀ (l : List Int), Paired (Ri H) (l.map V.int) l
  | [] => .nil
  | _ :: l => .cons rfl (ints_pr H l)

/-! ### evaluates to -/
section
variable {α β γ δ : Type}
def ET (te : TE) (σ : L2.St) (H : Hp) (R : Rp α) (x : α) : Prop := ∀ H1, Ex H H1 → ∀ Q : VK, (∀ v H2, Ex H1 H2 → R H2 v x → Q v H2) → te σ H1 Q
/-- a new list -/
def EL (te : TE) (σ : L2.St) (H : Hp) (R : Rp α) (l : List α) : Prop := ∀ H1, Ex H H1 → ∀ Q : VK, (∀ p xs H2, H1 p = none → Ex H1 H2 → H2 p = some (.lst xs) → Paired (R H2) xs l → Q (.ref p) H2) → te σ H1 Q
/-- a new tuple -/
def EU (te : TE) (σ : L2.St) (H : Hp) (R : Rp α) (l : List α) : Prop := ∀ H1, Ex H H1 → ∀ Q : VK, (∀ p xs H2, H1 p = none → Ex H1 H2 → H2 p = some (.tup xs) → Paired (R H2) xs l → Q (.ref p) H2) → te σ H1 Q
/-- arguments -/
def EA (ta : TA) (σ : L2.St) (H : Hp) (A : Hp → List V → Prop) : Prop := ∀ H1, Ex H H1 → ∀ Q : List V → Hp → Prop, (∀ vs H2, Ex H1 H2 → A H2 vs → Q vs H2) → ta σ H1 Q
variable {te ta tb tc : TE} {tr : TA} {tt tu : TT} {σ : L2.St} {H H' : Hp} {R : Rp α} {S : Rp β} {T : Rp γ} {U : Rp δ} {x : α} {y : β} {z : γ} {v : V} {l : List α}
theorem ET.mono (e : Ex H H') (h : ET te σ H R x) : ET te σ H' R x := fun H1 a Q q => h H1 (e.trans a) Q q
theorem EL.mono (e : Ex H H') (h : EL te σ H R l) : EL te σ H' R l := fun H1 a Q q => h H1 (e.trans a) Q q
theorem EL.et (h : EL te σ H R l) : ET te σ H (Rlst R) l := fun H1 a Q q => h H1 a Q fun p xs H2 _ e h1 h2 => q _ H2 e ⟨p, xs, rfl, h1, h2⟩
theorem EU.et (h : EU te σ H R l) : ET te σ H (Rtup R) l := fun H1 a Q q => h H1 a Q fun p xs H2 _ e h1 h2 => q _ H2 e ⟨p, xs, rfl, h1, h2⟩
theorem ET.imp {R' : Rp β} {x' : β} (h : ET te σ H R x) (f : ∀ H2 v, R H2 v x → R' H2 v x') : ET te σ H R' x' := fun H1 a Q q => h H1 a Q fun v H2 e r => q v H2 e (f H2 v r)
theorem ET.is {x' : α} (h : ET te σ H R x) (e : x = x') : ET te σ H R x' := e ▸ h
theorem EL.is {l' : List α} (h : EL te σ H R l) (e : l = l') : EL te σ H R l' := e ▸ h
theorem et_var {i : Nat} [Mon R] (h : σ[i]? = some (some v)) (r : R H v x) : ET (tVar i) σ H R x := fun H1 e _ q => ⟨v, h, q v H1 (Ex.refl H1) (up e r)⟩
theorem et_c (r : ∀ H1, Ex H H1 → R H1 v x) : ET (tC v) σ H R x := fun H1 e _ q => q v H1 (Ex.refl H1) (r H1 e)
theorem et_int {i : Int} : ET (tC (.int i)) σ H Ri i := et_c fun _ _ => rfl
theorem et_bl {b : Bool} : ET (tC (.bl b)) σ H Rb b := et_c fun _ _ => rfl
theorem et_non : ET (tC .non) σ H Rnon () := et_c fun _ _ => rfl
theorem et_ev [Mon R] (h : Ev te σ H v) (r : R H v x) : ET te σ H R x := fun H1 e Q q => h H1 e Q fun H2 e2 => q v H2 e2 (up (e.trans e2) r)
theorem ev_i {i : Int} (h : ET te σ H Ri i) : Ev te σ H (.int i) := fun H1 e Q q => h H1 e Q fun v H2 e2 r => by cases r; exact q H2 e2
theorem ev_b {i : Bool} (h : ET te σ H Rb i) : Ev te σ H (.bl i) := fun H1 e Q q => h H1 e Q fun v H2 e2 r => by cases r; exact q H2 e2
theorem et_i {i : Int} (h : Ev te σ H (.int i)) : ET te σ H Ri i := et_ev h rfl
theorem et_b {i : Bool} (h : Ev te σ H (.bl i)) : ET te σ H Rb i := et_ev h rfl
theorem evi {i : Nat} {n : Int} (h : σ[i]? = some (some (.int n))) : Ev (tVar i) σ H (.int n) := ev_var h
/-! two places -/
theorem et_op {r : R2} [Mon R] (ha : ET ta σ H R x) (hb : ET tb σ H S y) (hr : ∀ H1 v w, Ex H H1 → R H1 v x → S H1 w y → ∀ Q : VK, (∀ u H2, Ex H1 H2 → T H2 u z → Q u H2) → r v w H1 Q) : ET (tOp r ta tb) σ H T z := fun H1 e Q q =>
  ha H1 e _ fun v H2 e2 rv => hb H2 (e.trans e2) _ fun w H3 e3 rw => hr H3 v w ((e.trans e2).trans e3) (up e3 rv) rw Q fun u H4 e4 ru => q u H4 ((e2.trans e3).trans e4) ru
/-- .. a new list -/
theorem el_op {r : R2} {L : List γ} [Mon R] (ha : ET ta σ H R x) (hb : ET tb σ H S y) (hr : ∀ H1 v w, Ex H H1 → R H1 v x → S H1 w y → ∀ Q : VK, (∀ p xs H2, H1 p = none → Ex H1 H2 → H2 p = some (.lst xs) → Paired (T H2) xs L → Q (.ref p) H2) → r v w H1 Q) : EL (tOp r ta tb) σ H T L := fun H1 e Q q =>
  ha H1 e _ fun v H2 e2 rv => hb H2 (e.trans e2) _ fun w H3 e3 rw => hr H3 v w ((e.trans e2).trans e3) (up e3 rv) rw Q fun p xs H4 hp e4 h4 ru => q p xs H4 (fresh_back (e2.trans e3) hp) ((e2.trans e3).trans e4) h4 ru
theorem et_if {b : Bool} (h : EvT tt σ H b) (h1 : b = true → ET ta σ H R x) (h2 : b = false → ET tb σ H R x) : ET (tIf tt ta tb) σ H R x := fun H1 e Q q => h H1 e _ fun H2 e2 => by
  cases b with
  | true => exact h1 rfl H2 (e.trans e2) Q fun v H3 e3 => q v H3 (e2.trans e3)
  | false => exact h2 rfl H2 (e.trans e2) Q fun v H3 e3 => q v H3 (e2.trans e3)
/-! arguments -/
theorem ea0 : EA tNil σ H (fun _ vs => vs = []) := fun H1 _ _ q => q [] H1 (Ex.refl H1) rfl
theorem ea1 (ha : ET ta σ H R x) : EA (tCons ta tNil) σ H (fun H2 vs => ∃ v, vs = [v] ∧ R H2 v x) := fun H1 e _ q => ha H1 e _ fun v H2 e2 r => q [v] H2 e2 ⟨v, rfl, r⟩
theorem eaC {A : Hp → List V → Prop} [Mon R] (ha : ET ta σ H R x) (hr : EA tr σ H A) : EA (tCons ta tr) σ H (fun H2 vs => ∃ v ws, vs = v :: ws ∧ R H2 v x ∧ A H2 ws) := fun H1 e _ q =>
  ha H1 e _ fun v H2 e2 r => hr H2 (e.trans e2) _ fun ws H3 e3 a => q (v :: ws) H3 (e2.trans e3) ⟨v, ws, rfl, up e3 r, a⟩
/-! displays -/
theorem eu_nil : EU (tTup tNil) σ H R [] := fun H1 _ _ q => ⟨Nat.zero_le _, fun p hp => q p [] _ hp (Ex.new hp) upd_same .nil⟩
theorem eu1 [Mon R] (ha : ET ta σ H R x) : EU (tTup (tCons ta tNil)) σ H R [x] := fun H1 e _ q =>
  ha H1 e _ fun v H2 e2 r => ⟨(by show 1 ≤ sizeLine; decide), fun p hp => q p [v] _ (fresh_back e2 hp) (e2.trans (Ex.new hp)) upd_same (.cons (up (Ex.new hp) r) .nil)⟩
theorem et_pr [Mon R] [Mon S] (ha : ET ta σ H R x) (hb : ET tb σ H S y) : ET (tTup (tCons ta (tCons tb tNil))) σ H (Rpr R S) (x, y) := fun H1 e _ q =>
  ha H1 e _ fun v H2 e2 r => hb H2 (e.trans e2) _ fun w H3 e3 s => ⟨(by show 2 ≤ sizeLine; decide), fun p hp => q _ _ ((e2.trans e3).trans (Ex.new hp)) ⟨p, v, w, rfl, upd_same, up (e3.trans (Ex.new hp)) r, up (Ex.new hp) s⟩⟩
theorem et_tr [Mon R] [Mon S] [Mon T] (ha : ET ta σ H R x) (hb : ET tb σ H S y) (hc : ET tc σ H T z) : ET (tTup (tCons ta (tCons tb (tCons tc tNil)))) σ H (Rtr R S T) (x, y, z) := fun H1 e _ q =>
  ha H1 e _ fun v H2 e2 r => hb H2 (e.trans e2) _ fun w H3 e3 s => hc H3 ((e.trans e2).trans e3) _ fun u H4 e4 t => ⟨(by show 3 ≤ sizeLine; decide), fun p hp => q _ _ (((e2.trans e3).trans e4).trans (Ex.new hp)) ⟨p, v, w, u, rfl, upd_same, up ((e3.trans e4).trans (Ex.new hp)) r, up (e4.trans (Ex.new hp)) s, up (Ex.new hp) t⟩⟩
theorem el_nil : EL (tLst tNil) σ H R [] := fun H1 _ _ q => ⟨Nat.zero_le _, fun p hp => q p [] _ hp (Ex.new hp) upd_same .nil⟩
theorem el1 [Mon R] (ha : ET ta σ H R x) : EL (tLst (tCons ta tNil)) σ H R [x] := fun H1 e _ q =>
  ha H1 e _ fun v H2 e2 r => ⟨(by show 1 ≤ sizeLine; decide), fun p hp => q p [v] _ (fresh_back e2 hp) (e2.trans (Ex.new hp)) upd_same (.cons (up (Ex.new hp) r) .nil)⟩
theorem el3 {x1 x2 x3 : α} [Mon R] (ha : ET ta σ H R x1) (hb : ET tb σ H R x2) (hc : ET tc σ H R x3) : EL (tLst (tCons ta (tCons tb (tCons tc tNil)))) σ H R [x1, x2, x3] := fun H1 e _ q =>
  ha H1 e _ fun v H2 e2 r => hb H2 (e.trans e2) _ fun w H3 e3 s => hc H3 ((e.trans e2).trans e3) _ fun u H4 e4 t => ⟨(by show 3 ≤ sizeLine; decide), fun p hp => q p [v, w, u] _ (fresh_back ((e2.trans e3).trans e4) hp) (((e2.trans e3).trans e4).trans (Ex.new hp)) upd_same
    (.cons (up ((e3.trans e4).trans (Ex.new hp)) r) (.cons (up (e4.trans (Ex.new hp)) s) (.cons (up (Ex.new hp) t) .nil)))⟩
/-! tests of ints -/
theorem etI {r : Int → Int → V} {i j : Int} (ha : ET ta σ H Ri i) (hb : ET tb σ H Ri j) : Ev (tOp (rI0 r) ta tb) σ H (r i j) := ev_op (ev_i ha) (ev_i hb) rv_I0
theorem evI {r : Int → Int → V} {i j : Int} (ha : Ev ta σ H (.int i)) (hb : Ev tb σ H (.int j)) : Ev (tOp (rI0 r) ta tb) σ H (r i j) := ev_op ha hb rv_I0

/-! ### promises -/
def Sp1 (R : Rp α) (U : Rp δ) (pre : α → Prop) (f : α → δ) : Sp := fun vs H Q _ => ∃ v1 x1, vs = [v1] ∧ R H v1 x1 ∧ pre x1 ∧ ∀ u H', Ex H H' → U H' u (f x1) → Q u H'
def Sp2 (R : Rp α) (S : Rp β) (U : Rp δ) (pre : α → β → Prop) (f : α → β → δ) : Sp := fun vs H Q _ => ∃ v1 v2 x1 x2, vs = [v1, v2] ∧ R H v1 x1 ∧ S H v2 x2 ∧ pre x1 x2 ∧ ∀ u H', Ex H H' → U H' u (f x1 x2) → Q u H'
def Sp3 (R : Rp α) (S : Rp β) (T : Rp γ) (U : Rp δ) (pre : α → β → γ → Prop) (f : α → β → γ → δ) : Sp := fun vs H Q _ => ∃ v1 v2 v3 x1 x2 x3, vs = [v1, v2, v3] ∧ R H v1 x1 ∧ S H v2 x2 ∧ T H v3 x3 ∧ pre x1 x2 x3 ∧ ∀ u H', Ex H H' → U H' u (f x1 x2 x3) → Q u H'
/-- .. handing back a new list -/
def Sp1L (R : Rp α) (U : Rp δ) (pre : α → Prop) (f : α → List δ) : Sp := fun vs H Q _ => ∃ v1 x1, vs = [v1] ∧ R H v1 x1 ∧ pre x1 ∧ ∀ p xs H', H p = none → Ex H H' → H' p = some (.lst xs) → Paired (U H') xs (f x1) → Q (.ref p) H'
def Sp2L (R : Rp α) (S : Rp β) (U : Rp δ) (pre : α → β → Prop) (f : α → β → List δ) : Sp := fun vs H Q _ => ∃ v1 v2 x1 x2, vs = [v1, v2] ∧ R H v1 x1 ∧ S H v2 x2 ∧ pre x1 x2 ∧ ∀ p xs H', H p = none → Ex H H' → H' p = some (.lst xs) → Paired (U H') xs (f x1 x2) → Q (.ref p) H'
def Sp3L (R : Rp α) (S : Rp β) (T : Rp γ) (U : Rp δ) (pre : α → β → γ → Prop) (f : α → β → γ → List δ) : Sp := fun vs H Q _ => ∃ v1 v2 v3 x1 x2 x3, vs = [v1, v2, v3] ∧ R H v1 x1 ∧ S H v2 x2 ∧ T H v3 x3 ∧ pre x1 x2 x3 ∧ ∀ p xs H', H p = none → Ex H H' → H' p = some (.lst xs) → Paired (U H') xs (f x1 x2 x3) → Q (.ref p) H'
theorem Sp1.len {R : Rp α} {U : Rp δ} {pre : α → Prop} {f : α → δ} : ∀ vs H Q E, Sp1 R U pre f vs H Q E → vs.length = 1 := fun _ _ _ _ ⟨_, _, h, _⟩ => by rw [h]; rfl
theorem Sp2.len {pre : α → β → Prop} {f : α → β → δ} : ∀ vs H Q E, Sp2 R S U pre f vs H Q E → vs.length = 2 := fun _ _ _ _ ⟨_, _, _, _, h, _⟩ => by rw [h]; rfl
theorem Sp3.len {pre : α → β → γ → Prop} {f : α → β → γ → δ} : ∀ vs H Q E, Sp3 R S T U pre f vs H Q E → vs.length = 3 := fun _ _ _ _ ⟨_, _, _, _, _, _, h, _⟩ => by rw [h]; rfl
theorem Sp1L.len {pre : α → Prop} {f : α → List δ} : ∀ vs H Q E, Sp1L R U pre f vs H Q E → vs.length = 1 := fun _ _ _ _ ⟨_, _, h, _⟩ => by rw [h]; rfl
theorem Sp2L.len {pre : α → β → Prop} {f : α → β → List δ} : ∀ vs H Q E, Sp2L R S U pre f vs H Q E → vs.length = 2 := fun _ _ _ _ ⟨_, _, _, _, h, _⟩ => by rw [h]; rfl
theorem Sp3L.len {pre : α → β → γ → Prop} {f : α → β → γ → List δ} : ∀ vs H Q E, Sp3L R S T U pre f vs H Q E → vs.length = 3 := fun _ _ _ _ ⟨_, _, _, _, _, _, h, _⟩ => by rw [h]; rfl
theorem et_call1 {E : XK} {pre : α → Prop} {f : α → δ} (ha : ET ta σ H R x) (hp : pre x) : ET (tCall (Sp1 R U pre f) [] E (tCons ta tNil)) σ H U (f x) := fun H1 e Q q =>
  ha H1 e _ fun v H2 e2 r => ⟨v, x, rfl, r, hp, fun u H' e3 => q u H' (e2.trans e3)⟩
theorem et_call2 {E : XK} {pre : α → β → Prop} {f : α → β → δ} [Mon R] (ha : ET ta σ H R x) (hb : ET tb σ H S y) (hp : pre x y) : ET (tCall (Sp2 R S U pre f) [] E (tCons ta (tCons tb tNil))) σ H U (f x y) := fun H1 e Q q =>
  ha H1 e _ fun v H2 e2 r => hb H2 (e.trans e2) _ fun w H3 e3 s => ⟨v, w, x, y, rfl, up e3 r, s, hp, fun u H' e4 => q u H' ((e2.trans e3).trans e4)⟩
theorem et_call3 {E : XK} {pre : α → β → γ → Prop} {f : α → β → γ → δ} [Mon R] [Mon S] (ha : ET ta σ H R x) (hb : ET tb σ H S y) (hc : ET tc σ H T z) (hp : pre x y z) : ET (tCall (Sp3 R S T U pre f) [] E (tCons ta (tCons tb (tCons tc tNil)))) σ H U (f x y z) := fun H1 e Q q =>
  ha H1 e _ fun v H2 e2 r => hb H2 (e.trans e2) _ fun w H3 e3 s => hc H3 ((e.trans e2).trans e3) _ fun t H4 e4 ht => ⟨v, w, t, x, y, z, rfl, up (e3.trans e4) r, up e4 s, ht, hp, fun u H' e5 => q u H' (((e2.trans e3).trans e4).trans e5)⟩
theorem el_call1 {E : XK} {pre : α → Prop} {f : α → List δ} (ha : ET ta σ H R x) (hp : pre x) : EL (tCall (Sp1L R U pre f) [] E (tCons ta tNil)) σ H U (f x) := fun H1 e Q q =>
  ha H1 e _ fun v H2 e2 r => ⟨v, x, rfl, r, hp, fun p xs H' h1 e3 => q p xs H' (fresh_back e2 h1) (e2.trans e3)⟩
theorem el_call2 {E : XK} {pre : α → β → Prop} {f : α → β → List δ} [Mon R] (ha : ET ta σ H R x) (hb : ET tb σ H S y) (hp : pre x y) : EL (tCall (Sp2L R S U pre f) [] E (tCons ta (tCons tb tNil))) σ H U (f x y) := fun H1 e Q q =>
  ha H1 e _ fun v H2 e2 r => hb H2 (e.trans e2) _ fun w H3 e3 s => ⟨v, w, x, y, rfl, up e3 r, s, hp, fun p xs H' h1 e4 => q p xs H' (fresh_back (e2.trans e3) h1) ((e2.trans e3).trans e4)⟩
theorem el_call3 {E : XK} {pre : α → β → γ → Prop} {f : α → β → γ → List δ} [Mon R] [Mon S] (ha : ET ta σ H R x) (hb : ET tb σ H S y) (hc : ET tc σ H T z) (hp : pre x y z) : EL (tCall (Sp3L R S T U pre f) [] E (tCons ta (tCons tb (tCons tc tNil)))) σ H U (f x y z) := fun H1 e Q q =>
  ha H1 e _ fun v H2 e2 r => hb H2 (e.trans e2) _ fun w H3 e3 s => hc H3 ((e.trans e2).trans e3) _ fun t H4 e4 ht => ⟨v, w, t, x, y, z, rfl, up (e3.trans e4) r, up e4 s, ht, hp, fun p xs H' h1 e5 => q p xs H' (fresh_back ((e2.trans e3).trans e4) h1) (((e2.trans e3).trans e4).trans e5)⟩

/-! ### statements -/
variable {D : Ends} {tz t1 t2 : TS}
theorem k_set {i : Nat} (h : ET te σ H R x) (k : ∀ v H1, Ex H H1 → R H1 v x → tz D (σ.set i (some v)) H1) : tSeq (tAsg te (gName i)) tz D σ H := h H (Ex.refl H) _ k
theorem k_setL {i : Nat} (h : EL te σ H R l) (k : ∀ p xs H1, H p = none → Ex H H1 → H1 p = some (.lst xs) → Paired (R H1) xs l → tz D (σ.set i (some (.ref p))) H1) : tSeq (tAsg te (gName i)) tz D σ H := h H (Ex.refl H) _ k
theorem j_set {i : Nat} (h : ET te σ H R x) (k : ∀ v H1, Ex H H1 → R H1 v x → D.nx (σ.set i (some v)) H1) : tAsg te (gName i) D σ H := h H (Ex.refl H) _ k
theorem j_setL {i : Nat} (h : EL te σ H R l) (k : ∀ p xs H1, H p = none → Ex H H1 → H1 p = some (.lst xs) → Paired (R H1) xs l → D.nx (σ.set i (some (.ref p))) H1) : tAsg te (gName i) D σ H := h H (Ex.refl H) _ k
theorem j_ret (h : ET te σ H R x) (k : ∀ v H1, Ex H H1 → R H1 v x → D.rt v H1) : tRet te D σ H := h H (Ex.refl H) _ k
theorem j_retL (h : EL te σ H R l) (k : ∀ p xs H1, H p = none → Ex H H1 → H1 p = some (.lst xs) → Paired (R H1) xs l → D.rt (.ref p) H1) : tRet te D σ H := h H (Ex.refl H) _ k
theorem j_drop (h : ET te σ H R x) (k : ∀ v H1, Ex H H1 → R H1 v x → D.nx σ H1) : tDrop te D σ H := h H (Ex.refl H) _ k
theorem k_drop (h : ET te σ H R x) (k : ∀ v H1, Ex H H1 → R H1 v x → tz D σ H1) : tSeq (tDrop te) tz D σ H := h H (Ex.refl H) _ k
/-- a, b = .. a pair -/
theorem k_par {K : PySem.W.Frag} {i j : Nat} (h : ET te σ H (Rpr R S) (x, y)) (k : ∀ v w H1, Ex H H1 → R H1 v x → S H1 w y → tz D ((σ.set i (some v)).set j (some w)) H1) : tSeq (tAsg te (gTup K 2 (gCons (gName i) (gCons (gName j) gNil)))) tz D σ H :=
  h H (Ex.refl H) _ fun v H1 e ⟨a, u, w, h1, h2, h3, h4⟩ => ⟨a, [u, w], h1, st_of h2, rfl, u, [w], rfl, w, [], rfl, rfl, k u w H1 e h3 h4⟩
theorem k_if {b : Bool} (h : EvT tt σ H b) (h1 : b = true → ∀ H1, Ex H H1 → t1 { D with nx := tz D } σ H1) (h2 : b = false → ∀ H1, Ex H H1 → t2 { D with nx := tz D } σ H1) : tSeq (tIfS tt t1 t2) tz D σ H := Evl.q_if h h1 h2
theorem k_when {b : Bool} (h : EvT tt σ H b) (h1 : b = true → ∀ H1, Ex H H1 → t1 { D with nx := tz D } σ H1) (h2 : b = false → ∀ H1, Ex H H1 → tz D σ H1) : tSeq (tIfS tt t1 tNext) tz D σ H := Evl.q_when h h1 h2
theorem j_if {b : Bool} (h : EvT tt σ H b) (h1 : b = true → ∀ H1, Ex H H1 → t1 D σ H1) (h2 : b = false → ∀ H1, Ex H H1 → t2 D σ H1) : tIfS tt t1 t2 D σ H := Evl.s_if h h1 h2
theorem j_when {b : Bool} (h : EvT tt σ H b) (h1 : b = true → ∀ H1, Ex H H1 → t1 D σ H1) (h2 : b = false → ∀ H1, Ex H H1 → D.nx σ H1) : tIfS tt t1 tNext D σ H := Evl.s_when h h1 h2
end

/-! ### comprehensions over anything that is walked -/
section
variable {α β : Type} {R : Rp α} {S : Rp β}
/-- the iterable gives the items l; what it is over is left alone by growing -/
def EI (wi : TI) (σ : L2.St) (H : Hp) (R : Rp α) (l : List α) : Prop := ∀ H1, Ex H H1 → ∀ Rq : It → Hp → Prop,
  (∀ J G Y H2, Ex H1 H2 → Walk J l.length G Y → (∀ H3, Ex H2 H3 → G H3) → (∀ i H3 v H4, i < l.length → Ex H2 H3 → Y i H3 v H4 → ∃ x, l[i]? = some x ∧ Ex H3 H4 ∧ R H4 v x) → Rq J H2) → wi σ H1 Rq
theorem EI.mono {wi : TI} {σ : L2.St} {H H' : Hp} {l : List α} (e : Ex H H') (h : EI wi σ H R l) : EI wi σ H' R l := fun H1 a Q q => h H1 (e.trans a) Q q
theorem ei_list {K : PySem.W.Frag} {te : TE} {σ : L2.St} {H : Hp} {l : List α} [Mon R] (h : ET te σ H (Rlst R) l) : EI (iList K te) σ H R l := fun H1 e Rq q =>
  h H1 e _ fun v H2 e2 ⟨a, xs, hv, ha, hx⟩ => ⟨a, hv, ⟨xs, sq_of ha⟩, q (Itl K a) (fun H => H a = some (.lst xs)) (YAt xs) H2 e2
    (by have w := (walk_list (K := K) (a := a) (xs := xs)).mono (G' := fun H => H a = some (.lst xs)) (Y' := YAt xs) (fun H h => sq_of h) (fun _ _ _ _ _ _ y => y); rw [pr_len hx] at w; exact w) (fun _ e => e _ _ ha)
    fun i H3 w H4 _ e3 ⟨h1, h2⟩ => by
      obtain ⟨x, h3, h4⟩ := pr_get hx h2
      subst h1
      exact ⟨x, h3, Ex.refl _, up e3 h4⟩⟩
theorem ei_tup {K : PySem.W.Frag} {te : TE} {σ : L2.St} {H : Hp} {l : List α} [Mon R] (h : ET te σ H (Rtup R) l) : EI (iTup K te) σ H R l := fun H1 e Rq q =>
  h H1 e _ fun v H2 e2 ⟨a, xs, hv, ha, hx⟩ => ⟨a, hv, ⟨xs, st_of ha⟩, q (Itt K a) (fun H => H a = some (.tup xs)) (YAt xs) H2 e2
    (by have w := (walk_tup (K := K) (a := a) (xs := xs)).mono (G' := fun H => H a = some (.tup xs)) (Y' := YAt xs) (fun H h => st_of h) (fun _ _ _ _ _ _ y => y); rw [pr_len hx] at w; exact w) (fun _ e => e _ _ ha)
    fun i H3 w H4 _ e3 ⟨h1, h2⟩ => by
      obtain ⟨x, h3, h4⟩ := pr_get hx h2
      subst h1
      exact ⟨x, h3, Ex.refl _, up e3 h4⟩⟩
/-- the list made so far -/
def Made (H0 : Hp) (S : Rp β) (D : Addr) (m : List β) (H : Hp) : Prop := H0 D = none ∧ Ex H0 H ∧ ∃ ys, H D = some (.lst ys) ∧ Paired (S H) ys m
theorem filt_snoc {f : α → Bool} {g : α → β} {l : List α} {i : Nat} {x : α} (h : l[i]? = some x) : ((l.take (i + 1)).filter f).map g = ((l.take i).filter f).map g ++ (if f x = true then [g x] else []) := by
  rw [List.take_add_one, h, List.filter_append, List.map_append]
  cases e : f x <;> simp [e]
theorem tl_lst [Mon S] {H : Hp} {D : Addr} {ys zs : List V} (hS : ∀ {H H' : Hp} {v : V} {x : β}, (∀ b o, b ≠ D → H b = some o → H' b = some o) → S H v x → S H' v x) {m : List β} (h : Paired (S H) ys m) : Paired (S (upd H D (.lst zs))) ys m :=
  pr_imp h fun v x r => hS (fun b o hb e => by rw [upd_ne hb]; exact e) r
/-- a representation that leans on no list -/
class Imm (R : Rp α) : Prop where
  imm : ∀ {H H' : Hp} {v : V} {x : α}, (∀ b xs, H b = some (.tup xs) → H' b = some (.tup xs)) → R H v x → R H' v x
instance : Imm Ri := ⟨fun _ h => h⟩
instance : Imm Rb := ⟨fun _ h => h⟩
instance : Imm Rnon := ⟨fun _ h => h⟩
instance : Imm Rv := ⟨fun _ h => h⟩
theorem pimm [m : Imm R] {H H' : Hp} (e : ∀ b xs, H b = some (.tup xs) → H' b = some (.tup xs)) {xs : List V} {l : List α} (h : Paired (R H) xs l) : Paired (R H') xs l := pr_imp h fun _ _ r => m.imm e r
instance [Imm R] : Imm (Rtup R) := ⟨fun e ⟨a, xs, h1, h2, h3⟩ => ⟨a, xs, h1, e _ _ h2, pimm e h3⟩⟩
instance [Imm R] [Imm S] : Imm (Rpr R S) := ⟨fun e ⟨a, u, w, h1, h2, h3, h4⟩ => ⟨a, u, w, h1, e _ _ h2, Imm.imm e h3, Imm.imm e h4⟩⟩
instance {γ : Type} {T : Rp γ} [Imm R] [Imm S] [Imm T] : Imm (Rtr R S T) := ⟨fun e ⟨a, u, w, z, h1, h2, h3, h4, h5⟩ => ⟨a, u, w, z, h1, e _ _ h2, Imm.imm e h3, Imm.imm e h4, Imm.imm e h5⟩⟩
theorem tups_new {H : Hp} {p : Addr} {o : HO} (h : H p = none) : ∀ b xs, H b = some (.tup xs) → upd H p o b = some (.tup xs) := fun b xs e => Ex.new h b _ e
theorem tups_mut {H : Hp} {p : Addr} {o u : HO} (h : H p = some u) (hu : ∀ xs, u ≠ .tup xs) : ∀ b xs, H b = some (.tup xs) → upd H p o b = some (.tup xs) := fun b xs e => by
  rw [upd_ne (fun q => by rw [q, h] at e; exact hu xs (Option.some.inj e))]; exact e
theorem tups_lst {H : Hp} {p : Addr} {o : HO} {zs : List V} (h : H p = some (.lst zs)) : ∀ b xs, H b = some (.tup xs) → upd H p o b = some (.tup xs) := tups_mut h fun _ q => by cases q
theorem tups_ex {H H' : Hp} (e : Ex H H') : ∀ b xs, H b = some (.tup xs) → H' b = some (.tup xs) := fun b xs h => e b _ h

/-- D is left out -/
def hide (D : Addr) (H : Hp) : Hp := fun b => if b = D then none else H b
theorem hide_ne {D b : Addr} {H : Hp} (h : b ≠ D) : hide D H b = H b := if_neg h
theorem hide_ex {D : Addr} {H H' : Hp} (h : ∀ b o, b ≠ D → H b = some o → H' b = some o) : Ex (hide D H) (hide D H') := fun b o e => by
  by_cases hb : b = D
  · unfold hide at e; rw [if_pos hb] at e; cases e
  · rw [hide_ne hb] at e ⊢; exact h b o hb e
theorem hide_sub {D : Addr} {H : Hp} : Ex (hide D H) H := fun b o e => by
  by_cases hb : b = D
  · unfold hide at e; rw [if_pos hb] at e; cases e
  · rw [hide_ne hb] at e; exact e
theorem hide_tup {D : Addr} {H : Hp} {zs : List V} (h : H D = some (.lst zs)) : ∀ b xs, H b = some (.tup xs) → hide D H b = some (.tup xs) := fun b xs e => by
  rw [hide_ne (fun q => by rw [q, h] at e; cases e)]; exact e
/-- R, whatever stands at D -/
def Off (D : Addr) (R : Rp α) : Rp α := fun H => R (hide D H)
theorem Off.on {D : Addr} {R : Rp α} [Mon R] {H : Hp} {v : V} {x : α} (h : Off D R H v x) : R H v x := up (R := R) hide_sub h
theorem Off.stay {D : Addr} {R : Rp α} [Mon R] {H H' : Hp} {v : V} {x : α} (h : Off D R H v x) (e : ∀ b o, b ≠ D → H b = some o → H' b = some o) : Off D R H' v x := up (R := R) (H := hide D H) (H' := hide D H') (hide_ex e) h
instance {D : Addr} [Mon R] : Mon (Off D R) := ⟨fun {H H'} _ _ e h => up (R := R) (H := hide D H) (H' := hide D H') (hide_ex fun b o _ => e b o) h⟩
theorem off_imm {D : Addr} [m : Imm R] {H : Hp} {v : V} {x : α} {zs : List V} (h : H D = some (.lst zs)) (r : R H v x) : Off D R H v x := m.imm (hide_tup h) r
/-- a new list of items that lean on no list -/
theorem EL.off {te : TE} {σ : L2.St} {H : Hp} {D : Addr} {l : List α} {zs : List V} [Imm R] (h : EL te σ H R l) (hD : H D = some (.lst zs)) : ET te σ H (Off D (Rlst R)) l := fun H1 e Q q =>
  h H1 e Q fun p xs H2 hp e2 h1 h2 => by
    have d2 : H2 D = some (.lst zs) := e2 _ _ (e _ _ hD)
    have np : p ≠ D := fun z => by rw [z, e _ _ hD] at hp; cases hp
    exact q _ H2 e2 ⟨p, xs, rfl, by rw [hide_ne np]; exact h1, pimm (hide_tup d2) h2⟩

/-- [elt for target in iter if test]: kept where f holds, g of it; a new list, at D; S D: what the items stand for, whatever stands at D -/
theorem el_lcD {wi : TI} {tg : TG} {tt : TT} {te : TE} {vs : List Nat} {σ : L2.St} {H : Hp} {l : List α} (f : α → Bool) (g : α → β) (h : EI wi σ H R l) (hz : l.length ≤ 1000000) [Mon S]
    (turn : ∀ v x H1, x ∈ l → Ex H H1 → R H1 v x → ∃ σ2, (∀ Q : L2.St → Hp → Prop, Q σ2 H1 → tg v (wipe σ vs) H1 Q) ∧ wipe σ2 vs = wipe σ vs ∧ EvT tt σ2 H1 (f x) ∧ (f x = true → ∀ D zs H2, Ex H1 H2 → H2 D = some (.lst zs) → ET te σ2 H2 (Off D S) (g x))) :
    EL (tLc wi tg tt te vs) σ H S ((l.filter f).map g) := by
  intro H1 e1 Q q
  refine h H1 e1 _ fun J G Y H2 e2 w gs ys D hD => ?_
  refine lc_it w (fun i H3 => H2 D = none ∧ Ex H2 H3 ∧ ∃ zs, H3 D = some (.lst zs) ∧ Paired (Off D S H3) zs (((l.take i).filter f).map g)) ⟨hD, Ex.new hD, [], upd_same, .nil⟩ (fun i H3 _ p => gs H3 p.2.1) ?_ ?_
  · rintro i v H3 H4 hi ⟨hDn, eD, zs, hDl, hzs⟩ y
    obtain ⟨x, hx, e4, rx⟩ := ys i H3 v H4 hi eD y
    have hmem : x ∈ l := List.mem_of_getElem? hx
    have eH4 : Ex H2 H4 := eD.trans e4
    obtain ⟨σ2, ht, hw, htt, hte⟩ := turn v x H4 hmem ((e1.trans e2).trans eH4) rx
    refine ht _ ⟨hw, htt H4 (Ex.refl H4) _ fun H5 e5 => ?_⟩
    have zlen : zs.length < sizeLine := by
      have a1 := pr_len hzs
      have a2 : (((l.take i).filter f).map g).length ≤ l.length := by
        rw [List.length_map]
        exact Nat.le_trans (List.length_filter_le _ _) (by rw [List.length_take]; exact Nat.min_le_right _ _)
      exact Nat.lt_of_le_of_lt (by omega : zs.length ≤ 1000000) (by decide)
    have e35 : Ex H3 H5 := e4.trans e5
    cases hf : f x with
    | true =>
      refine hte hf D zs H5 e5 (e35 _ _ hDl) H5 (Ex.refl H5) _ fun u H6 e6 ru => ⟨zs, e6 _ _ (e35 _ _ hDl), zlen, ?_⟩
      refine ⟨hDn, Ex.mut ((eD.trans e35).trans e6) hDn, _, upd_same, ?_⟩
      rw [filt_snoc hx, hf, if_pos rfl]
      refine pr_snoc (pr_imp (pup (e35.trans e6) hzs) fun v x r => ?_) ?_
      · exact Off.stay r fun b o hb eb => by rw [upd_ne hb]; exact eb
      · exact Off.stay ru fun b o hb eb => by rw [upd_ne hb]; exact eb
    | false =>
      refine ⟨hDn, eD.trans e35, zs, e35 _ _ hDl, ?_⟩
      rw [filt_snoc hx, hf, if_neg Bool.false_ne_true, List.append_nil]
      exact pup e35 hzs
  · rintro H3 ⟨hDn, eD, zs, hDl, hzs⟩
    rw [List.take_length] at hzs
    exact q D zs H3 (fresh_back e2 hDn) (e2.trans eD) hDl (pr_imp hzs fun _ _ r => Off.on r)
theorem el_lc {wi : TI} {tg : TG} {tt : TT} {te : TE} {vs : List Nat} {σ : L2.St} {H : Hp} {l : List α} (f : α → Bool) (g : α → β) (h : EI wi σ H R l) (hz : l.length ≤ 1000000) [Mon S] [Imm S]
    (turn : ∀ v x H1, x ∈ l → Ex H H1 → R H1 v x → ∃ σ2, (∀ Q : L2.St → Hp → Prop, Q σ2 H1 → tg v (wipe σ vs) H1 Q) ∧ wipe σ2 vs = wipe σ vs ∧ EvT tt σ2 H1 (f x) ∧ (f x = true → ET te σ2 H1 S (g x))) :
    EL (tLc wi tg tt te vs) σ H S ((l.filter f).map g) :=
  el_lcD f g h hz fun v x H1 hm e r => by
    obtain ⟨σ2, h1, h2, h3, h4⟩ := turn v x H1 hm e r
    exact ⟨σ2, h1, h2, h3, fun hf D zs H2 e2 hD => fun H3 e3 Q q => h4 hf H3 (e2.trans e3) Q fun u H4 e4 ru => q u H4 e4 (off_imm (e4 _ _ (e3 _ _ hD)) ru)⟩
/-- without a test -/
theorem el_map {wi : TI} {tg : TG} {te : TE} {vs : List Nat} {σ : L2.St} {H : Hp} {l : List α} (g : α → β) (h : EI wi σ H R l) (hz : l.length ≤ 1000000) [Mon S] [Imm S]
    (turn : ∀ v x H1, x ∈ l → Ex H H1 → R H1 v x → ∃ σ2, (∀ Q : L2.St → Hp → Prop, Q σ2 H1 → tg v (wipe σ vs) H1 Q) ∧ wipe σ2 vs = wipe σ vs ∧ ET te σ2 H1 S (g x)) :
    EL (tLc wi tg tYes te vs) σ H S (l.map g) :=
  (el_lc (fun _ => true) g h hz fun v x H1 hm e r => by
    obtain ⟨σ2, h1, h2, h3⟩ := turn v x H1 hm e r
    exact ⟨σ2, h1, h2, fun _ _ _ q => q _ (Ex.refl _), fun _ => h3⟩).is (by rw [List.filter_eq_self.mpr (by simp)])
end
end Ct
/-! # sorted of a list or a tuple whose items are tuples, the empty one among them -/
namespace PySem.SeqAt
open PySem PyProof.Rows PySem.W
theorem call_tuple_lt {A : Around} {s : Shared} {prog : Program} {w : World} {E : Value → Shared → Prop} {Q : Value → Shared → Prop} {l b : Addr} {items items2 : Array Value} {e r : Nat → Bool} (hl : s.heap.IsTuple l items) (hb : s.heap.IsTuple b items2)
    (he : ∀ j (h1 : j < items.size) (h2 : j < items2.size), EqAt A.in1 s items[j] items2[j] (e j)) (hr : ∀ j (h1 : j < items.size) (h2 : j < items2.size), e j = false → RcLt A.in1 s items[j] items2[j] (r j))
    (h : Q (.bool (firstLt e r (decide (items.size < items2.size)) (List.range (min items.size items2.size)))) s) : wpAny (model prog w) A (call (.builtin "tuple.__lt__") [.ref l, .ref b]) Q E s := by
  obtain ⟨⟨cls, dd, data, sl⟩, ho, hc, n, hd⟩ := id hl
  obtain ⟨⟨cls2, dd2, data2, sl2⟩, ho2, hc2, n2, hd2⟩ := id hb
  simp only at hc hd hc2 hd2
  subst hc hd hc2 hd2
  exact call_meets F.slot_tuple_lt ⟨_, ho, rfl⟩ F.entry_tuple_lt (F.args_tuple_lt_2 _ _) (tuple_ltAt l b items items2 n n2 dd dd2 sl sl2 e r) ⟨ho, ho2, he, hr, h⟩
end PySem.SeqAt
namespace PySem.W
open PySem PySem.Calls PyProof.Rows PySem.SeqAt
/-- not the empty tuple -/
def neT : PyData → Bool
  | .tuple (_ :: _) => true
  | _ => false
section
variable {M : Model} {A : Around} {E : Value → Shared → Prop} {s : Shared}
theorem first_tup {v : Value} {xs : List PyData} {as : List Addr} {Q : Option Value → Shared → Prop} (r : Reads s.heap v (.tuple xs) as) (h : ∀ o : Option Value, o.isSome = neT (.tuple xs) → Q o s) : wpAny M A (firstOfTuple' v) Q E s := by
  cases r with
  | @tuple a o vs n _ _ h1 h2 h3 h4 =>
    rw [kas_first_eq]
    refine wpAny_bind (wpAny_typeOf (T := "tuple") ⟨o, h1, h2⟩ ?_)
    rw [if_neg (by simp)]
    refine wpAny_bind (listItems_at h1 h3 ?_)
    refine wpAny_pure (h _ ?_)
    have e := SeqAt.ReadsAll.length _ _ _ h4
    cases xs with
    | nil =>
      have z : vs.size = 0 := by simpa using e
      rw [Array.getElem?_eq_none (by omega)]; rfl
    | cons x xs =>
      have z : 0 < vs.size := by simp at e; omega
      rw [Array.getElem?_eq_getElem z]; rfl
theorem firsts_run : ∀ {vs : List Value} {ds : List PyData} {Q : List (Option Value) → Shared → Prop}, EachIs (fun v d => ∃ as, Reads s.heap v d as) vs ds → (∀ d ∈ ds, ∃ xs, d = .tuple xs) →
    (∀ fs : List (Option Value), fs.map (·.isSome) = ds.map neT → Q fs s) → wpAny M A (vs.mapM firstOfTuple') Q E s
  | _, _, Q, .nil, _, h => by rw [List.mapM_nil]; exact wpAny_pure (h [] rfl)
  | _, _, Q, .cons (b := d) ⟨as, r⟩ t, ht, h => by
    obtain ⟨xs, rfl⟩ := ht _ (List.mem_cons_self ..)
    rw [List.mapM_cons]
    refine wpAny_bind (first_tup r fun o ho => wpAny_bind (firsts_run t (fun d hd => ht d (List.mem_cons_of_mem _ hd)) fun fs hfs => wpAny_pure (h _ ?_)))
    rw [List.map_cons, List.map_cons, ho, hfs]
end
section
variable {prog : Program} {w : World} {A : Around} {E : Value → Shared → Prop} {s : Shared}
/-- two tuples by tuple's own __lt__ -/
theorem oneLt_tup {f : Bool} {xs ys : List PyData} {a b : Value} {as bs : List Addr} {Q : Bool → Shared → Prop} (ra : Reads s.heap a (.tuple xs) as) (rb : Reads s.heap b (.tuple ys) bs) (h : alike (.tuple xs) (.tuple ys) = true)
    (hu : A.units + min (PyData.tuple xs).depth (PyData.tuple ys).depth < cLine) (hq : Q (dataLt (.tuple xs) (.tuple ys)) s) : wpAny (model prog w) A (oneLt' f a b) Q E s := by
  cases f with
  | false =>
    rw [oneLt'_eq]
    simp only [Bool.false_eq_true, if_false]
    exact wpAny_bind (rcLt_alike _ _ A s a b as bs ra rb h (by intro q; cases q) hu prog w E _ (wpAny_truthy_bool hq))
  | true =>
    have hal : alikeAll xs ys = true := by simpa [alike] using h
    cases ra with
    | @tuple l o vs n _ as₁ h1 h2 h3 h4 =>
      cases rb with
      | @tuple l' o' vs' n' _ bs₁ k1 k2 k3 k4 =>
        have n1 : vs.size = xs.length := by simpa using ReadsAll.length _ _ _ h4
        have n2 : vs'.size = ys.length := by simpa using ReadsAll.length _ _ _ k4
        rw [dataLt_tuple, ← firstLt_toks xs ys hal, ← n1, ← n2] at hq
        rw [oneLt'_eq]
        simp only [if_true]
        refine wpAny_bind (wpAny_cRoomFor (room_here hu) ?_)
        refine wpAny_bind (wpAny_callSpecialIfBound?_slot (T := "tuple") ⟨_, h1, h2⟩ F.slot_tuple_lt (call_tuple_lt (e := pairEq xs ys) (r := fun j => dataLt (xs.getD j .none) (ys.getD j .none)) ⟨_, h1, h2, _, h3⟩ ⟨_, k1, k2, _, k3⟩ (fun j j1 j2 => ?_) (fun j j1 j2 hj => ?_) ?_))
        · have := eqAt_alikeAll xs ys A.in1 s vs.toList vs'.toList _ _ h4 k4 hal (room_in hu) j (by simpa using j1) (by simpa using j2)
          simpa using this
        · have := rcLt_alikeAll xs ys A.in1 s vs.toList vs'.toList _ _ h4 k4 hal (room_in hu) j (by simpa using j1) (by simpa using j2) hj
          simpa using this
        · exact wpAny_truthy_bool hq
theorem kindLt {kd : SortKind} {f : Bool} (hkd : ∀ x y, keyLt' kd x y = oneLt' f x y) {ds : List PyData} (hal : AllAlike ds) (ht : ∀ d ∈ ds, ∃ xs, d = .tuple xs) (hu : ∀ d, d ∈ ds → A.units + d.depth < cLine) : H.LtAt prog w A s (dataKind s.heap ds) kd := by
  intro E x y a b Q ha hb hq
  obtain ⟨d, as, hd, ra, rfl⟩ := dataKind_inv ha
  obtain ⟨d', as', hd', rb, rfl⟩ := dataKind_inv hb
  obtain ⟨xs, rfl⟩ := ht d hd
  obtain ⟨ys, rfl⟩ := ht d' hd'
  rw [hkd]
  exact oneLt_tup ra rb (hal _ hd _ hd') (Nat.lt_of_le_of_lt (Nat.add_le_add_left (Nat.min_le_left _ _) _) (hu _ hd)) hq
/-- tuples, the empty one among them -/
theorem SortsAt.tups {vs : List Value} {ds : List PyData} (e : EachIs (fun v d => ∃ as, Reads s.heap v d as) vs ds) (hal : AllAlike ds) (ht : ∀ d ∈ ds, ∃ xs, d = .tuple xs) (hu : ∀ d, d ∈ ds → A.units + d.depth < cLine) : SortsAt prog w A s (dataKind s.heap ds) vs := by
  by_cases hne : ∀ d ∈ ds, neT d = true
  · refine SortsAt.data e hal (.inl fun d hd => ?_) hu
    obtain ⟨xs, rfl⟩ := ht d hd
    cases xs with
    | nil => exact absurd (hne _ hd) (by simp [neT])
    | cons x xs => exact ⟨x, xs, rfl⟩
  · refine ⟨fun v hv => ?_, ?_⟩
    · obtain ⟨d, hd, as, r⟩ := e.left v hv
      exact ⟨_, dataKind_some hal hd r⟩
    · have hbad : ∀ fs : List (Option Value), fs.map (·.isSome) = ds.map neT → ¬ ((fs.toArray.all fun x => x.isSome) = true) := fun fs hfs hall => by
        refine hne fun d hd => ?_
        have h1 : neT d ∈ fs.map (·.isSome) := by rw [hfs]; exact List.mem_map.mpr ⟨d, hd, rfl⟩
        obtain ⟨o, ho, eo⟩ := List.mem_map.mp h1
        rw [← eo]
        simp only [List.all_toArray, List.all_eq_true] at hall
        exact hall o ho
      cases hd0 : ds with
      | nil => exact absurd (fun d hd => by rw [hd0] at hd; cases hd) hne
      | cons d₀ ds₀ =>
        rw [← hd0]
        cases hb : neT d₀ with
        | true =>
          refine ⟨general', kindLt (f := false) (fun _ _ => rfl) hal ht hu, fun h2 E Q hq => ?_⟩
          rw [keyKind'_eq, List.mapM_toArray, map_eq_pure_bind]
          refine wpAny_bind (wpAny_bind (firsts_run e ht fun fs hfs => wpAny_pure ?_))
          rw [if_neg (hbad fs hfs)]
          have h0 : (fs.toArray[0]?.bind id).isSome = true := by
            rw [hd0, List.map_cons, hb] at hfs
            cases fs with
            | nil => cases hfs
            | cons f fr =>
              have := (List.cons.inj hfs).1
              simpa using this
          rw [if_pos h0]
          exact wpAny_pure hq
        | false =>
          refine ⟨oneType', kindLt (f := true) (fun _ _ => rfl) hal ht hu, fun h2 E Q hq => ?_⟩
          rw [keyKind'_eq, List.mapM_toArray, map_eq_pure_bind]
          refine wpAny_bind (wpAny_bind (firsts_run e ht fun fs hfs => wpAny_pure ?_))
          rw [if_neg (hbad fs hfs)]
          have h0 : ¬ ((fs.toArray[0]?.bind id).isSome = true) := by
            rw [hd0, List.map_cons, hb] at hfs
            cases fs with
            | nil => cases hfs
            | cons f fr =>
              have := (List.cons.inj hfs).1
              simpa using this
          rw [if_neg h0]
          obtain ⟨v₁, v₂, rest, rfl⟩ : ∃ v₁ v₂ rest, vs = v₁ :: v₂ :: rest := by
            match vs, h2 with
            | [], h2 => simp at h2
            | [_], h2 => simp at h2
            | v₁ :: v₂ :: rest, _ => exact ⟨v₁, v₂, rest, rfl⟩
          rw [oneTypeOnly'_eq, List.mapM_toArray, map_eq_pure_bind]
          refine wpAny_bind (wpAny_bind (wpAny_bind (kas_mapM (r := Value.type "tuple") _ (fun v hv Q' hq => ?_) (wpAny_pure ?_))))
          · obtain ⟨d, hd, as, r⟩ := e.left v hv
            obtain ⟨xs, rfl⟩ := ht d hd
            exact (looks_reads r).here hq
          · have hall : ((List.map (fun _ => Value.type "tuple") (v₁ :: v₂ :: rest)).toArray.all fun x => x == Value.type "tuple") = true := by
              simp only [List.all_toArray, List.all_map, List.all_eq_true]
              intro _ _
              rfl
            have h0 : (List.map (fun _ => Value.type "tuple") (v₁ :: v₂ :: rest)).toArray[0]? = some (Value.type "tuple") := by simp
            rw [h0]
            simp only [hall, if_true]
            exact wpAny_pure (wpAny_pure hq)
/-- collect of a tuple -/
theorem collect_tup {l : Addr} {vs : List Value} {Q : List Value → Shared → Prop} (hl : s.heap.IsTuple l vs.toArray)
    (h : Q vs { s with heap := (s.heap.push (seqObj "list" #[] 0)).update s.heap.objs.size (Obj.mapSeq (· ++ vs.toArray)) }) (hsz : vs.length ≤ sizeLine) :
    wpAny (model prog w) A (collect (.ref l)) Q E s := by
  obtain ⟨o, ho, hc, n, hd⟩ := id hl
  unfold collect
  refine wpAny_bind (wpAny_runValue (codeAny_builtin entry_proto_collect' ?_))
  show wpAny _ _ (do again (.builtin "list.__iadd__" ⟨[← newList [], .ref l], []⟩)) _ _ s
  refine wpAny_bind (wpAny_newList (wpAny_pure ⟨Code.quiet_builtin _ (by decide +kernel), codeAny_builtin entry_list_iadd' ?_⟩))
  show wpAny _ _ (Builtin.List.listExtendWith (.ref s.heap.objs.size) (.ref l) (.ref s.heap.objs.size)) _ _ { s with heap := s.heap.push (seqObj "list" #[] 0) }
  unfold Builtin.List.listExtendWith
  have ho' : (s.heap.push (seqObj "list" #[] 0)).get? l = some o := Heap.get?_push_of_some _ ho
  refine wpAny_bind (wpAny_typeOf (T := "tuple") ⟨o, ho', hc⟩ ?_)
  have ht : (Value.type "tuple" == Value.type "tuple") = true := by rfl
  rw [if_pos (by rw [ht]; simp)]
  refine wpAny_bind (listItems_at ho' hd ?_)
  refine wpAny_bind (listItems_at (xs := #[]) (n := 0) (Heap.get?_push_size _ rfl) rfl ?_)
  rw [if_neg (by simp)]
  refine wpAny_bind (listUpdate_at (xs := #[]) (n := 0) (Heap.get?_push_size _ rfl) rfl ?_ (Nat.zero_le _) (by show (#[] ++ vs.toArray).size ≤ sizeLine + 1; simp only [Array.size_append, List.size_toArray, List.length_nil]; omega))
  refine wpAny_pure ?_
  show wpAny (model prog w) A (load s.heap.objs.size >>= _) Q E _
  refine wpAny_bind (wpAny_load (get?_update_seq (Heap.get?_push_size _ rfl) _) ?_)
  show wpAny _ _ (pure ((#[] : Array Value) ++ vs.toArray).toList) Q E _
  refine wpAny_pure ?_
  simpa using h
end
end PySem.W
namespace PySem.W
open PySem PySem.Calls PyProof.Rows
section
variable {prog : Program} {w : World} {A : Around} {E : Value → Shared → Prop} {s : Shared} {κ : PyProof.Rows.KeyKind}
/-- sorted of a list or a tuple -/
theorem sorted_anyseq {l : Addr} {vs : List Value} {Q : Value → Shared → Prop} (hl : s.heap.IsList l vs.toArray ∨ s.heap.IsTuple l vs.toArray) (hL : vs.length ≤ sizeLine)
    (S : SortsAt prog w A.in1.in1 { s with heap := sortingHeap (copyHeap s.heap vs) (s.heap.objs.size + 1) vs } κ vs)
    (h : Q (.ref (s.heap.objs.size + 1)) { s with heap := sortedAll s.heap vs (sortVals κ false vs vs).toArray }) : wpAny (model prog w) A (call (.builtin "sorted") [.ref l]) Q E s := by
  rcases hl with hl | hl
  · exact sorted_vals hl S hL h
  · refine call_function_entry_kw kind_sorted plain_sorted entry_sorted (args_sorted1 _) ?_
    unfold Builtin.«sorted»
    refine wpAny_bind (m := checkCount "sorted" 1 1 _) (wpAny_pure ?_)
    refine wpAny_bind (collect_tup hl ?_ hL)
    refine wpAny_bind (wpAny_newList ?_ hL)
    have hsz : ((s.heap.push (seqObj "list" #[] 0)).update s.heap.objs.size (Obj.mapSeq (· ++ vs.toArray))).objs.size = s.heap.objs.size + 1 := by
      rw [Heap.size_update, size_push']
    show wpAny _ _ _ _ _ { s with heap := copyHeap s.heap vs }
    rw [hsz]
    refine wpAny_bind (wpAny_holding (wpAny_call_entry_kw slot_list_sort ⟨_, copyHeap_at s.heap vs, rfl⟩ entry_list_sort ?body (args_list_sort _)))
    case body =>
      show wpAny (model prog w) A.in1.in1 (Builtin.«list.sort» ⟨[.ref (s.heap.objs.size + 1)], []⟩) _ _ _
      refine wpAny_mono (list_sort_vals (s := { s with heap := copyHeap s.heap vs }) (P := fun f s' => f = .done (.ret .none) ∧ Q (.ref (s.heap.objs.size + 1)) s') (copyHeap_at s.heap vs) S hL ⟨rfl, h⟩) (fun f s' hf => ?_) fun _ _ e => e
      obtain ⟨rfl, hq⟩ := hf
      exact ⟨_, rfl, wpAny_pure ⟨_, rfl, hq⟩⟩
end
end PySem.W
namespace Ct
open PySem PySem.Spec PyProof.Rows L2 Evl
/-! ### a value as data -/
class Enc {α : Type} (R : Rp α) where
  enc : α → PyData
  dp : ∀ {K : PySem.W.Frag} {H : Hp} {v : V} {x : α}, R H v x → Dp K H v (enc x)
instance : Enc Ri := ⟨.int, fun h => by cases h; exact .int _⟩
instance : Enc Rb := ⟨.bool, fun h => by cases h; exact .bl _⟩
theorem dpAll_of {α : Type} {R : Rp α} (i : Enc R) {K : PySem.W.Frag} {H : Hp} : ∀ {xs : List V} {l : List α}, Paired (R H) xs l → DpAll K H xs (l.map i.enc)
  | _, _, .nil => .nil
  | _, _, .cons r t => .cons (i.dp r) (dpAll_of i t)
instance {α : Type} {R : Rp α} [i : Enc R] : Enc (Rtup R) := ⟨fun l => .tuple (l.map i.enc), fun ⟨a, xs, h1, h2, h3⟩ => by rw [h1]; exact .tup (st_of h2) (dpAll_of i h3)⟩
instance {α : Type} {R : Rp α} [i : Enc R] : Enc (Rlst R) := ⟨fun l => .list (l.map i.enc), fun ⟨a, xs, h1, h2, h3⟩ => by rw [h1]; exact .lst (sq_of h2) (dpAll_of i h3)⟩
instance {α β : Type} {R : Rp α} {S : Rp β} [i : Enc R] [j : Enc S] : Enc (Rpr R S) := ⟨fun p => .tuple [i.enc p.1, j.enc p.2], fun ⟨a, u, w, h1, h2, h3, h4⟩ => by rw [h1]; exact .tup (st_of h2) (.cons (i.dp h3) (.cons (j.dp h4) .nil))⟩
instance {α β γ : Type} {R : Rp α} {S : Rp β} {T : Rp γ} [i : Enc R] [j : Enc S] [k : Enc T] : Enc (Rtr R S T) := ⟨fun p => .tuple [i.enc p.1, j.enc p.2.1, k.enc p.2.2], fun ⟨a, u, w, z, h1, h2, h3, h4, h5⟩ => by rw [h1]; exact .tup (st_of h2) (.cons (i.dp h3) (.cons (j.dp h4) (.cons (k.dp h5) .nil)))⟩
/-- Python's order -/
def srt {α : Type} (R : Rp α) [i : Enc R] (l : List α) : List α := l.mergeSort (PySem.W.dataLe false i.enc)
theorem vals_each {R : Value → V → Prop} : ∀ {xs : List V} {us : List Value}, Vals xs us → PySem.W.EachIs (fun u v => RelV v u) us xs
  | _, _, .nil => .nil
  | _, _, .cons r t => .cons r (vals_each (R := R) t)
theorem each_prs {β : Type} {F : V → β → Prop} : ∀ {xs : List V} {us : List Value} {bs : List β}, Vals xs us → Paired F xs bs → PySem.W.EachIs (fun u b => ∃ v, RelV v u ∧ F v b) us bs
  | _, _, _, .nil, .nil => .nil
  | _, _, _, .cons r t, .cons f q => .cons ⟨_, r, f⟩ (each_prs t q)
theorem prs_each {β : Type} {F : V → β → Prop} : ∀ {us : List Value} {bs : List β}, PySem.W.EachIs (fun u b => ∃ v, RelV v u ∧ F v b) us bs → ∃ ys, Vals ys us ∧ Paired F ys bs
  | _, _, .nil => ⟨[], .nil, .nil⟩
  | _, _, .cons ⟨v, r, f⟩ t => by
    obtain ⟨ys, h1, h2⟩ := prs_each t
    exact ⟨v :: ys, .cons r h1, .cons f h2⟩
section
variable {X : Cx}
/-- sorted(xs), xs a list or a tuple of tuples -/
def rSortU {β : Type} (K : PySem.W.Frag) (R : Rp β) (enc : β → PyData) : List V → Hp → VK → Prop := fun vs H Q => ∃ (a : Addr) (xs : List V) (bs : List β), vs = [.ref a] ∧ (H a = some (.lst xs) ∨ H a = some (.tup xs)) ∧ Paired (R H) xs bs ∧
  (∀ v b, R H v b → Dp K H v (enc b)) ∧ PySem.W.AllAlike (bs.map enc) ∧ (∀ b ∈ bs, ∃ t, enc b = .tuple t) ∧ (∀ b ∈ bs, (enc b).depth ≤ 40) ∧
  ∀ ys p, H p = none → Paired (R H) ys (bs.mergeSort (PySem.W.dataLe false enc)) → Q (.ref p) (upd H p (.lst ys))
theorem cr_sortU {β : Type} {R : Rp β} {enc : β → PyData} (hu : X.A.units + 64 < cLine) : CallR X (.builtin "sorted") (rSortU X.K R enc) := by
  intro pins s σ H vs us Q I r h
  obtain ⟨a, xs, bs, rfl, ha, hx, hdp, hal, htp, hde, q⟩ := h
  rw [Vals.ref1 r]
  have hobj : ∃ its : List Value, Vals xs its ∧ xs.length ≤ sizeLine ∧ (s.heap.IsList a its.toArray ∨ s.heap.IsTuple a its.toArray) := by
    rcases ha with ha | ha
    · obtain ⟨its, rv, hl, hz⟩ := I.list (SqL.of ha)
      exact ⟨its, rv, hz, .inl hl.isList⟩
    · obtain ⟨its, rv, hl, hz⟩ := I.tuple (SqT.of ha)
      exact ⟨its, rv, hz, .inr hl⟩
  obtain ⟨its, rv, hz, hl⟩ := hobj
  have e0 : PySem.W.EachIs (fun u b => ∃ v, RelV v u ∧ R H v b) its bs := each_prs rv hx
  have er : PySem.W.EachIs (fun v b => ∃ as, Reads s.heap v (enc b) as) its bs := e0.mono fun u b ⟨v, h1, h2⟩ => Dp.reads I (enc b) v u (hdp v b h2) h1
  have er' : PySem.W.EachIs (fun v b => ∃ as, Reads (PySem.W.sortingHeap (PySem.W.copyHeap s.heap its) (s.heap.objs.size + 1) its) v (enc b) as) its bs := er.mono fun _ _ ⟨as, r⟩ => ⟨as, PyProof.Rows.Reads.keeps (fun _ _ => PySem.W.sorting_copy_old) r⟩
  have hlen : its.length = bs.length := e0.length
  refine PySem.W.sorted_anyseq (κ := PySem.W.dataKind (PySem.W.sortingHeap (PySem.W.copyHeap s.heap its) (s.heap.objs.size + 1) its) (bs.map enc)) hl (by rw [← rv.length]; exact hz)
    (PySem.W.SortsAt.tups (s := { s with heap := PySem.W.sortingHeap (PySem.W.copyHeap s.heap its) (s.heap.objs.size + 1) its }) (PySem.W.each_map (R := fun v d => ∃ as, Reads (PySem.W.sortingHeap (PySem.W.copyHeap s.heap its) (s.heap.objs.size + 1) its) v d as) enc er') hal (fun d hd => ?_) fun d hd => ?_) ?_
  · obtain ⟨b, hb, rfl⟩ := List.mem_map.mp hd
    exact htp b hb
  · obtain ⟨b, hb, rfl⟩ := List.mem_map.mp hd
    have := hde b hb
    show X.A.units + 1 + 1 + _ < cLine
    omega
  · have eo := PySem.W.sortVals_data (R := fun u b => ∃ v, RelV v u ∧ R H v b) false e0 er' hal
    obtain ⟨ys, h1, h2⟩ := prs_each eo
    obtain ⟨ep, he'⟩ := PyProof.Rows.sortedAll_at s.heap its (PySem.W.sortVals (PySem.W.dataKind (PySem.W.sortingHeap (PySem.W.copyHeap s.heap its) (s.heap.objs.size + 1) its) (bs.map enc)) false its its).toArray
    have hylen : ys.length ≤ sizeLine := by
      rw [pr_len h2, List.length_mergeSort, ← pr_len hx]
      exact hz
    exact ⟨.ref _, upd H (s.heap.objs.size + 1) (.lst ys), I.laid (t' := s.toks) (fun _ _ => PyProof.Rows.sortedAll_old) (Nat.le_succ _) ⟨hylen, _, ep, h1, he'⟩, rfl, q _ _ (I.hok.fresh (Nat.le_succ _)) h2⟩
end
/-- the two facts about the data, by the kind of the items -/
class Sorts {α : Type} (R : Rp α) [i : Enc R] : Prop where
  alike : ∀ x y : α, PySem.W.alike (i.enc x) (i.enc y) = true
  tup : ∀ x : α, ∃ t, i.enc x = .tuple t
  depth : ∀ x : α, (i.enc x).depth ≤ 40
section
variable {α : Type} {R : Rp α} [Mon R] [i : Enc R] [s : Sorts R] {K : PySem.W.Frag} {ta : TE} {σ : L2.St} {H : Hp} {l : List α}
theorem sortU_ok {H : Hp} {v : V} (h : Rlst R H v l ∨ Rtup R H v l) {Q : VK} (q : ∀ p xs H2, H p = none → Ex H H2 → H2 p = some (.lst xs) → Paired (R H2) xs (srt R l) → Q (.ref p) H2) : rSortU K R i.enc [v] H Q := by
  have fin : ∀ (a : Addr) (xs : List V), v = .ref a → (H a = some (.lst xs) ∨ H a = some (.tup xs)) → Paired (R H) xs l → rSortU K R i.enc [v] H Q := fun a xs hv ha hx =>
    ⟨a, xs, l, by rw [hv], ha, hx, fun v b r => i.dp r, fun d hd d' hd' => by
      obtain ⟨b, _, rfl⟩ := List.mem_map.mp hd
      obtain ⟨b', _, rfl⟩ := List.mem_map.mp hd'
      exact s.alike b b', fun b _ => s.tup b, fun b _ => s.depth b, fun ys p hp h2 => q p ys _ hp (Ex.new hp) upd_same (pup (Ex.new hp) h2)⟩
  rcases h with ⟨a, xs, hv, ha, hx⟩ | ⟨a, xs, hv, ha, hx⟩
  · exact fin a xs hv (.inl ha) hx
  · exact fin a xs hv (.inr ha) hx
theorem el_sortL (h : ET ta σ H (Rlst R) l) : EL (tCB (rSortU K R i.enc) (tCons ta tNil)) σ H R (srt R l) := fun H1 e Q q =>
  h H1 e _ fun v H2 e2 r => sortU_ok (.inl r) fun p xs H3 hp e3 => q p xs H3 (fresh_back e2 hp) (e2.trans e3)
theorem el_sortT (h : ET ta σ H (Rtup R) l) : EL (tCB (rSortU K R i.enc) (tCons ta tNil)) σ H R (srt R l) := fun H1 e Q q =>
  h H1 e _ fun v H2 e2 r => sortU_ok (.inr r) fun p xs H3 hp e3 => q p xs H3 (fresh_back e2 hp) (e2.trans e3)
end
/-! the kinds that are sorted here -/
theorem alike_pr (p q : P) : PySem.W.alike (.tuple [.int p.1, .int p.2]) (.tuple [.int q.1, .int q.2]) = true := by simp [PySem.W.alike, PySem.W.alikeAll]
theorem alikeAll_map {α : Type} {f : α → PyData} (h : ∀ x y, PySem.W.alike (f x) (f y) = true) : ∀ l m : List α, PySem.W.alikeAll (l.map f) (m.map f) = true
  | [], _ => by simp [PySem.W.alikeAll]
  | _ :: _, [] => by simp [PySem.W.alikeAll]
  | x :: l, y :: m => by
    rw [List.map_cons, List.map_cons, PySem.W.alikeAll, h x y, alikeAll_map h l m]; rfl
theorem depthAll_map {α : Type} {f : α → PyData} {n : Nat} (h : ∀ x, (f x).depth ≤ n) : ∀ l : List α, PyData.depthAll (l.map f) ≤ n
  | [] => by simp [PyData.depthAll]
  | x :: l => by
    rw [List.map_cons, PyData.depthAll]
    exact Nat.max_le.mpr ⟨h x, depthAll_map h l⟩
theorem depth_pr (p : P) : (PyData.tuple [.int p.1, .int p.2]).depth ≤ 1 := by simp [PyData.depth, PyData.depthAll]
instance : Sorts Rp2 := ⟨alike_pr, fun _ => ⟨_, rfl⟩, fun p => Nat.le_trans (depth_pr p) (by decide)⟩
theorem alike_ld (l m : Ld) : PySem.W.alike (Enc.enc (R := Rld) l) (Enc.enc (R := Rld) m) = true := alikeAll_map (fun x y => alike_pr x y) l m
theorem depth_ld (l : Ld) : (Enc.enc (R := Rld) l).depth ≤ 2 := by
  show (PyData.tuple (l.map _)).depth ≤ 2
  rw [PyData.depth]
  have := depthAll_map (f := Enc.enc (R := Rp2)) depth_pr l
  omega
instance : Sorts Rld := ⟨alike_ld, fun _ => ⟨_, rfl⟩, fun l => Nat.le_trans (depth_ld l) (by decide)⟩
theorem alike_sh (l m : Sh) : PySem.W.alike (Enc.enc (R := Rsh) l) (Enc.enc (R := Rsh) m) = true := alikeAll_map (fun x y => alike_ld x y) l m
theorem depth_sh (l : Sh) : (Enc.enc (R := Rsh) l).depth ≤ 3 := by
  show (PyData.tuple (l.map _)).depth ≤ 3
  rw [PyData.depth]
  have := depthAll_map (f := Enc.enc (R := Rld)) depth_ld l
  omega
instance : Sorts Rsh := ⟨alike_sh, fun _ => ⟨_, rfl⟩, fun l => Nat.le_trans (depth_sh l) (by decide)⟩
abbrev Rend : Rp (P × Ld × Sh) := Rtr Rp2 Rld Rsh
instance : Sorts Rend := ⟨fun x y => by
    show PySem.W.alikeAll _ _ = true
    rw [PySem.W.alikeAll, PySem.W.alikeAll, PySem.W.alikeAll, PySem.W.alikeAll]
    rw [show PySem.W.alike (Enc.enc (R := Rp2) x.1) (Enc.enc (R := Rp2) y.1) = true from alike_pr _ _, alike_ld, alike_sh]; rfl, fun _ => ⟨_, rfl⟩, fun x => by
    show (PyData.tuple [_, _, _]).depth ≤ 40
    rw [PyData.depth, PyData.depthAll, PyData.depthAll, PyData.depthAll, PyData.depthAll]
    have a : (Enc.enc (R := Rp2) x.1).depth ≤ 1 := depth_pr x.1
    have b := depth_ld x.2.1
    have c := depth_sh x.2.2
    omega⟩
abbrev Rpk : Rp (P × Int) := Rpr Rp2 Ri
instance : Sorts Rpk := ⟨fun x y => by
    show PySem.W.alikeAll _ _ = true
    rw [PySem.W.alikeAll, PySem.W.alikeAll, PySem.W.alikeAll]
    rw [show PySem.W.alike (Enc.enc (R := Rp2) x.1) (Enc.enc (R := Rp2) y.1) = true from alike_pr _ _]
    rfl, fun _ => ⟨_, rfl⟩, fun x => by
    show (PyData.tuple [_, _]).depth ≤ 40
    rw [PyData.depth, PyData.depthAll, PyData.depthAll, PyData.depthAll]
    have a : (Enc.enc (R := Rp2) x.1).depth ≤ 1 := depth_pr x.1
    have b : (Enc.enc (R := Ri) x.2).depth = 0 := by show (PyData.int _).depth = 0; rw [PyData.depth]
    omega⟩
end Ct
/-! # Dicts whose keys are nested tuples -/
namespace Ct
open PySem PySem.Spec PyProof.Rows L2 Evl

/-! ### a value as a key -/
inductive NKi (H : Hp) : V → NestedKey → Prop where
  | int (i : Int) : NKi H (.int i) (.num i)
  | tup {a : Addr} {xs : List V} {ks : List NestedKey} (h : H a = some (.tup xs)) (r : Paired (NKi H) xs ks) : NKi H (.ref a) (.tup ks)
mutual
theorem nk_is {P : Program} {w : World} {H : Hp} {h : Heap} (ok : HOk P w H h) : ∀ (k : NestedKey) (v : V) (u : Value), NKi H v k → RelV v u → NestedIs h k u
  | .num i, _, _, .int _, r => by obtain ⟨t, rfl⟩ := r; exact .int _ _
  | .tup ks, _, _, .tup (a := a) (xs := xs) e p, r => by
    obtain rfl := r
    obtain ⟨_, its, rv, o, h1, h2, n, h3⟩ := ok a _ e
    exact .tup h1 h2 h3 (by simpa using nk_all ok ks _ _ p rv)
theorem nk_all {P : Program} {w : World} {H : Hp} {h : Heap} (ok : HOk P w H h) : ∀ (ks : List NestedKey) (vs : List V) (us : List Value), Paired (NKi H) vs ks → Vals vs us → NestedAll h ks us
  | [], _, _, .nil, .nil => .nil
  | k :: ks, _, _, .cons a b, .cons c d => .cons (nk_is ok k _ _ a c) (nk_all ok ks _ _ b d)
end
/-- what stands for a key -/
class Key1 {α : Type} (R : Rp α) where
  key : α → NestedKey
  nk : ∀ {H : Hp} {v : V} {x : α}, R H v x → NKi H v (key x)
  inj : ∀ {x y : α}, key x = key y → x = y
  dep : ∀ x : α, (key x).depth ≤ 7
instance : Key1 Ri := ⟨.num, fun h => by cases h; exact .int _, fun h => by injection h, fun _ => by simp [NestedKey.depth]⟩
theorem map_inj {α β : Type} {f : α → β} (h : ∀ x y, f x = f y → x = y) : ∀ {l m : List α}, l.map f = m.map f → l = m
  | [], [], _ => rfl
  | [], _ :: _, e => by cases e
  | _ :: _, [], e => by cases e
  | x :: l, y :: m, e => by
    rw [List.map_cons, List.map_cons] at e
    injection e with e1 e2
    rw [h _ _ e1, map_inj h e2]
theorem nk_map {α : Type} {R : Rp α} {f : α → NestedKey} {H : Hp} (h : ∀ v x, R H v x → NKi H v (f x)) : ∀ {xs : List V} {l : List α}, Paired (R H) xs l → Paired (NKi H) xs (l.map f)
  | _, _, .nil => .nil
  | _, _, .cons r t => .cons (h _ _ r) (nk_map h t)
theorem ndepth_map {α : Type} {f : α → NestedKey} {n : Nat} (h : ∀ x, (f x).depth ≤ n) : ∀ l : List α, NestedKey.depthAll (l.map f) ≤ n
  | [] => by simp [NestedKey.depthAll]
  | x :: l => by
    rw [List.map_cons, NestedKey.depthAll]
    exact Nat.max_le.mpr ⟨h x, ndepth_map h l⟩
def kP (p : P) : NestedKey := .tup [.num p.1, .num p.2]
def kL (l : Ld) : NestedKey := .tup (l.map kP)
def kS (s : Sh) : NestedKey := .tup (s.map kL)
theorem kP_inj (p q : P) (h : kP p = kP q) : p = q := by
  injection h with h
  injection h with h1 h2
  injection h2 with h2 _
  injection h1 with h1
  injection h2 with h2
  exact Prod.ext h1 h2
theorem kL_inj (p q : Ld) (h : kL p = kL q) : p = q := by injection h with h; exact map_inj kP_inj h
theorem kS_inj (p q : Sh) (h : kS p = kS q) : p = q := by injection h with h; exact map_inj kL_inj h
theorem kP_dep (p : P) : (kP p).depth ≤ 1 := by simp [kP, NestedKey.depth, NestedKey.depthAll]
theorem kL_dep (l : Ld) : (kL l).depth ≤ 2 := by
  unfold kL
  rw [NestedKey.depth]
  have := ndepth_map kP_dep l
  omega
theorem kS_dep (l : Sh) : (kS l).depth ≤ 3 := by
  unfold kS
  rw [NestedKey.depth]
  have := ndepth_map kL_dep l
  omega
theorem nk_P {H : Hp} {v : V} {p : P} (h : Rp2 H v p) : NKi H v (kP p) := by
  obtain ⟨a, u, w, rfl, h1, h2, h3⟩ := h
  cases h2
  cases h3
  exact .tup h1 (.cons (.int _) (.cons (.int _) .nil))
theorem nk_L {H : Hp} {v : V} {l : Ld} (h : Rld H v l) : NKi H v (kL l) := by
  obtain ⟨a, xs, rfl, h1, h2⟩ := h
  exact .tup h1 (nk_map (R := Rp2) (fun _ _ r => nk_P r) h2)
theorem nk_S {H : Hp} {v : V} {s : Sh} (h : Rsh H v s) : NKi H v (kS s) := by
  obtain ⟨a, xs, rfl, h1, h2⟩ := h
  exact .tup h1 (nk_map (R := Rld) (fun _ _ r => nk_L r) h2)
instance : Key1 Rsh := ⟨kS, nk_S, fun {x y} h => kS_inj x y h, fun s => Nat.le_trans (kS_dep s) (by decide)⟩
/-- a shape and a pair -/
abbrev Rsp : Rp (Sh × P) := Rpr Rsh Rp2
def kSP (x : Sh × P) : NestedKey := .tup [kS x.1, kP x.2]
instance : Key1 Rsp := ⟨kSP, fun {H v x} h => by
    obtain ⟨a, u, w, rfl, h1, h2, h3⟩ := h
    exact .tup h1 (.cons (nk_S h2) (.cons (nk_P h3) .nil)), fun {x y} h => by
    injection h with h
    injection h with h1 h2
    injection h2 with h2 _
    exact Prod.ext (kS_inj _ _ h1) (kP_inj _ _ h2), fun x => by
    show (NestedKey.tup [_, _]).depth ≤ 7
    rw [NestedKey.depth, NestedKey.depthAll, NestedKey.depthAll, NestedKey.depthAll]
    have a := kS_dep x.1
    have b := kP_dep x.2
    omega⟩
/-- its address -/
class Ref1 {α : Type} (R : Rp α) : Prop where
  ref : ∀ {H : Hp} {v : V} {x : α}, R H v x → ∃ a, v = .ref a
instance {α : Type} {R : Rp α} : Ref1 (Rtup R) := ⟨fun ⟨a, _, h, _⟩ => ⟨a, h⟩⟩
instance {α β : Type} {R : Rp α} {S : Rp β} : Ref1 (Rpr R S) := ⟨fun ⟨a, _, _, h, _⟩ => ⟨a, h⟩⟩

/-! ### the dict's object -/
abbrev Ent : Type := NestedKey × Addr × V
abbrev KRel : List Ent → List (NestedKey × Addr × Value) → Prop := Paired fun p q => p.1 = q.1 ∧ p.2.1 = q.2.1 ∧ RelV p.2.2 q.2.2
def kAt (xs : List Ent) (k : NestedKey) : Option V := (xs.find? fun x => decide (x.1 = k)).map (·.2.2)
def kPut (xs : List Ent) (k : NestedKey) (a : Addr) (v : V) : List Ent := if (kAt xs k).isSome then xs.map (fun x => if x.1 = k then (x.1, x.2.1, v) else x) else xs ++ [(k, a, v)]
theorem krel_at (k : NestedKey) : ∀ {xs : List Ent} {vs : List (NestedKey × Addr × Value)}, KRel xs vs → RelO (kAt xs k) ((atKey vs k).map (·.2))
  | _, _, .nil => True.intro
  | _, _, .cons (a := p) (b := q) r t => by
    by_cases h : p.1 = k
    · have hq : q.1 = k := by rw [← r.1]; exact h
      simp [kAt, atKey, h, hq, RelO, r.2.2]
    · have hq : ¬ q.1 = k := by rw [← r.1]; exact h
      have ih := krel_at k t
      simpa [kAt, atKey, List.find?_cons, h, hq] using ih
theorem krel_some {xs : List Ent} {vs : List (NestedKey × Addr × Value)} (r : KRel xs vs) (k : NestedKey) : (atKey vs k).isSome = (kAt xs k).isSome := by
  have h := krel_at k r
  cases e1 : kAt xs k <;> cases e2 : atKey vs k <;> simp_all [RelO]
theorem krel_map (k : NestedKey) {v : V} {u : Value} (rv : RelV v u) : ∀ {xs : List Ent} {vs : List (NestedKey × Addr × Value)}, KRel xs vs → KRel (xs.map (fun x => if x.1 = k then (x.1, x.2.1, v) else x)) (vs.map (putAt k u))
  | _, _, .nil => .nil
  | _, _, .cons (a := p) (b := q) r t => by
    refine .cons ?_ (krel_map k rv t)
    unfold putAt
    dsimp only
    by_cases h : p.1 = k
    · rw [if_pos h, if_pos (by rw [← r.1]; exact h)]
      exact ⟨r.1, r.2.1, rv⟩
    · rw [if_neg h, if_neg (by rw [← r.1]; exact h)]
      exact r
theorem krel_put {xs : List Ent} {vs : List (NestedKey × Addr × Value)} (r : KRel xs vs) (k : NestedKey) (a : Addr) {v : V} {u : Value} (rv : RelV v u) : KRel (kPut xs k a v) (storedH vs k a u) := by
  unfold kPut storedH
  rw [krel_some r k]
  split
  · exact krel_map k rv r
  · exact pr_app r (.cons ⟨rfl, rfl, rv⟩ .nil)
theorem kPut_len (xs : List Ent) (k : NestedKey) (a : Addr) (v : V) : (kPut xs k a v).length ≤ xs.length + 1 := by
  unfold kPut
  split <;> simp
def dOb (P : Program) (w : World) (a : Addr) (xs : List Ent) : HO := .ext fun h => xs.length ≤ sizeLine ∧ (a == sysModules) = false ∧ ∃ vs, KRel xs vs ∧ ∃ o es ep, h.get? a = some o ∧ o.ExactDict ∧ o.data = .dict es ep ∧ es.toList = vs.map (entryOfKey (nestedKind P w)) ∧ (vs.map (·.1)).Nodup
theorem dOb_ok {P : Program} {w : World} {H : Hp} {h : Heap} {a : Addr} {xs : List Ent} {vs : List (NestedKey × Addr × Value)} (z : xs.length ≤ sizeLine) (hd : (a == sysModules) = false) (r : KRel xs vs) (d : h.DictOfH (nestedKind P w) a vs) : ObjOk P w H h a (dOb P w a xs) := by
  obtain ⟨o, es, ep, h1, h2, h3, h4, _, h5⟩ := d
  exact ⟨⟨z, hd, vs, r, o, es, ep, h1, h2, h3, h4, h5⟩, ⟨o, h1⟩, fun g1 g2 ⟨z, hd, vs, r, o, es, ep, k1, k2⟩ q => ⟨z, hd, vs, r, o, es, ep, q _ k1, k2⟩⟩
/-- every key of it is one -/
def KeysOk (H : Hp) (xs : List Ent) : Prop := ∀ e ∈ xs, NKi H (.ref e.2.1) e.1 ∧ e.1.depth ≤ 8
section
variable {X : Cx} {pins : List (Addr × Obj)} {σ : L2.St} {H : Hp} {s : Shared} {a b : Addr} {xs : List Ent} {k : NestedKey}
theorem keys_at {vs : List (NestedKey × Addr × Value)} {P : Program} {w : World} {h : Heap} (ok : HOk P w H h) : ∀ {xs : List Ent} {vs : List (NestedKey × Addr × Value)}, KRel xs vs → KeysOk H xs → ∀ x ∈ vs, (nestedKind P w).is h x.1 x.2.1
  | _, _, .nil, _, _, hx => by cases hx
  | _, _, .cons (a := p) (b := q) r t, hk, x, hx => by
    rcases List.mem_cons.mp hx with rfl | hx
    · have h1 := hk p (List.mem_cons_self ..)
      refine ⟨?_, by rw [← r.1]; exact h1.2⟩
      rw [← r.1, ← r.2.1]
      exact nk_is ok _ _ _ h1.1 rfl
    · exact keys_at (vs := vs) ok t (fun e he => hk e (List.mem_cons_of_mem _ he)) x hx
theorem dOb_rd (I : Inv X pins σ H s) (e : Rd H a (dOb X.prog X.w a xs)) (hk : KeysOk H xs) : xs.length ≤ sizeLine ∧ (a == sysModules) = false ∧ ∃ vs, KRel xs vs ∧ s.heap.DictOfH (nestedKind X.prog X.w) a vs := by
  obtain ⟨⟨z, hd, vs, r, o, es, ep, h1, h2, h3, h4, h5⟩, _⟩ := e.ok I.hok
  exact ⟨z, hd, vs, r, o, es, ep, h1, h2, h3, h4, keys_at (vs := vs) I.hok r hk, h5⟩
theorem key_here (I : Inv X pins σ H s) (h : NKi H (.ref b) k) (hd : k.depth ≤ 8) : (nestedKind X.prog X.w).is s.heap k b := ⟨nk_is I.hok _ _ _ h rfl, hd⟩
theorem room_nk {A : Around} (hu : A.units + 64 < cLine) : (nestedKind X.prog X.w).room A.in1 := by
  show A.units + 1 + 8 < cLine
  omega
/-- the heap behind d[k] = v -/
theorem dOb_write {v : V} {u : Value} {vs : List (NestedKey × Addr × Value)} {h' : Heap} {t' : Nat} (I : Inv X pins σ H s) (e : H a = some (dOb X.prog X.w a xs)) (hl : xs.length < sizeLine) (hd : (a == sysModules) = false) (r : KRel xs vs) (rv : RelV v u)
    (d : h'.DictOfH (nestedKind X.prog X.w) a (storedH vs k b u)) (hs : Heap.SameBut a s.heap h') : Inv X pins σ (upd H a (dOb X.prog X.w a (kPut xs k b v))) { s with heap := h', toks := t' } := by
  have he : ∃ q, h'.get? a = some q := let ⟨q, _, _, hq, _⟩ := d; ⟨q, hq⟩
  exact I.write (x := a) (e := a) (by rw [e]; exact True.intro) (.inl rfl) (fun c q hc z => (hs.2 c hc).trans z) he (dOb_ok (Nat.le_trans (kPut_len ..) hl) hd (krel_put r k b rv) d)

/-! ### in, [], .. by values -/
/-- what is asked of a look-up: the dict at a, the key at b -/
structure KAsk (P : Program) (w : World) (H : Hp) (x y : V) (xs : List Ent) (k : NestedKey) (a b : Addr) : Prop where
  ex : x = .ref b
  ey : y = .ref a
  at_ : Rd H a (dOb P w a xs)
  keys : KeysOk H xs
  nk : NKi H (.ref b) k
  dep : k.depth ≤ 8
def rInX (P : Program) (w : World) (neg : Bool) : R2 := fun x y H Q => ∃ xs k a b, KAsk P w H x y xs k a b ∧ Q (.bl (if neg then !(kAt xs k).isSome else (kAt xs k).isSome)) H
theorem op_inX (hu : X.A.units + 64 < cLine) : OpR X (compareOp .In) (rInX X.prog X.w false) := by
  intro pins s σ H x y v u Q I rx ry h
  obtain ⟨xs, k, a, b, ⟨rfl, rfl, e, hk, hn, hd⟩, q⟩ := h
  cases rx
  cases ry
  obtain ⟨z, hs, vs, r, d⟩ := dOb_rd I e hk
  refine wpAny_in_heap (room_nk hu) (key_here I hn hd) hs d ?_
  rw [krel_some r k]
  exact ⟨.bl _, H, I.tok _, rfl, q⟩
theorem op_ninX (hu : X.A.units + 64 < cLine) : OpR X (compareOp .NotIn) (rInX X.prog X.w true) := by
  intro pins s σ H x y v u Q I rx ry h
  obtain ⟨xs, k, a, b, ⟨rfl, rfl, e, hk, hn, hd⟩, q⟩ := h
  cases rx
  cases ry
  obtain ⟨z, hs, vs, r, d⟩ := dOb_rd I e hk
  refine wpAny_notIn_heap (room_nk hu) (key_here I hn hd) hs d ?_
  rw [krel_some r k]
  exact ⟨.bl _, H, I.tok _, rfl, q⟩
/-- d[k], there -/
def rGetX (P : Program) (w : World) : R2 := fun y x H Q => ∃ xs k a b v, KAsk P w H x y xs k a b ∧ kAt xs k = some v ∧ Q v H
theorem ix_dictX (hu : X.A.units + 64 < cLine) : IxR X (rGetX X.prog X.w) := by
  intro value slice pins s σ H y x u v Q I ry rx h hs
  obtain ⟨xs, k, a, b, z, ⟨rfl, rfl, e, hk, hn, hd⟩, hz, q⟩ := h
  cases rx
  cases ry
  obtain ⟨zz, hm, vs, r, d⟩ := dOb_rd I e hk
  have h1 := krel_at k r
  rw [hz] at h1
  obtain ⟨p, hp, rp⟩ : ∃ p, atKey vs k = some p ∧ RelV z p.2 := by
    cases e2 : atKey vs k with
    | none => rw [e2] at h1; exact h1.elim
    | some p => rw [e2] at h1; exact ⟨p, rfl, h1⟩
  exact subscriptTail_builtinR (x := p.2) d.typeIs F.slot_dict_getitem.lookup
    (wpAny_getItem_heap (Q := fun r s' => r = p.2 ∧ EP X pins σ Q r s') (room_nk hu) (key_here I hn hd) d hp ⟨rfl, z, H, I.tok _, rp, q⟩) hs
/-- d[k] = v -/
def rSetX (P : Program) (w : World) : TSet := fun y x v H Q => ∃ xs k a b, KAsk P w H x y xs k a b ∧ H a = some (dOb P w a xs) ∧ xs.length < sizeLine ∧ Q (upd H a (dOb P w a (kPut xs k b v)))
theorem set_dictX (hu : X.A.units + 64 < cLine) : PSet X (rSetX X.prog X.w) := by
  intro pins s σ H y x v ov iv u Q I ry rx rv h
  obtain ⟨xs, k, a, b, ⟨rfl, rfl, e, hk, hn, hd⟩, ea, hl, q⟩ := h
  cases rx
  cases ry
  obtain ⟨zz, hm, vs, r, d⟩ := dOb_rd I e hk
  refine wpAny_setItem_heap (hsz := by rw [← Paired.length r]; exact zz) (room_nk hu) (key_here I hn hd) d fun h' d' hs => ⟨_, dOb_write I ea hl hm r rv d' hs, q⟩
/-- len(d), if d -/
def rLenX (P : Program) (w : World) : List V → Hp → VK → Prop := fun vs H Q => ∃ xs a, vs = [.ref a] ∧ Rd H a (dOb P w a xs) ∧ KeysOk H xs ∧ Q (.int ((xs.length : Nat) : Int)) H
theorem call_lenX : CallR X (.builtin "len") (rLenX X.prog X.w) := by
  intro pins s σ H ws us Q I r h
  obtain ⟨xs, a, rfl, e, hk, q⟩ := h
  rw [Vals.ref1 r]
  obtain ⟨zz, hm, vs, r, d⟩ := dOb_rd I e hk
  have hl : xs.length = vs.length := Paired.length r
  refine call_len_dictH hm d (by rw [← hl]; rw [sizeLine_eq] at zz; omega) ?_
  rw [← hl]
  exact ⟨.int _, H, I.tok _, ⟨_, rfl⟩, q⟩
end
end Ct
namespace PySem
open Sem (wp)
section
variable {prog : Program} {w : World} {K : Type} [DecidableEq K] {knd : HeapKind prog w K} {A : Around} {E : Value → Shared → Prop} {s : Shared}
theorem truth_dictH {d : Addr} {xs : List (K × Addr × Value)} {Q : Bool → Shared → Prop} (hd : (d == sysModules) = false) (hm : s.heap.DictOfH knd d xs) (hfit : (xs.length : Int) < 2 ^ 63) (h : ∀ tk, Q (!xs.isEmpty) { s with toks := tk }) :
    wpAny (model prog w) A (truthy (.ref d)) Q E s := by
  have ne : ((xs.length : Int) != 0) = !xs.isEmpty := by cases xs <;> simp <;> omega
  have run : wpAny (model prog w) A (runValue (.builtin "len" ⟨[.ref d], []⟩)) (fun r s' => (∃ tk, r = .int xs.length tk) ∧ Q (!xs.isEmpty) s') E s := by
    refine wpAny_runValue (codeAny_builtin entry_len ?_)
    rw [Around.under_plainId plain_len _]
    exact wpAny_mono (wpAny_len_body_dictH (knd := knd) (Q := fun r s' => (∃ tk, r = .int xs.length tk) ∧ Q (!xs.isEmpty) s') hd hm hfit ⟨⟨_, rfl⟩, h _⟩) (fun fin s' z => by obtain ⟨r, rfl, hq⟩ := z; exact hq) fun _ _ e => e
  unfold truthy
  first
    | refine wpAny_bind (wpAny_callSpecial?_none (name := Str.ofString "__bool__") hm.typeIs noBool_dict ?_)
    | refine wpAny_bind (wpAny_pure (wpAny_bind (wpAny_callSpecial?_none (name := Str.ofString "__bool__") hm.typeIs noBool_dict ?_)))
  first
    | refine wpAny_bind (wpAny_specialOf (name := Str.ofString "__len__") hm.typeIs F.slot_dict_len.lookup ?_)
    | refine wpAny_bind (wpAny_pure (wpAny_bind (wpAny_specialOf (name := Str.ofString "__len__") hm.typeIs F.slot_dict_len.lookup ?_)))
  first
    | exact wpAny_bind (wpAny_mono run (fun r s' z => by obtain ⟨⟨tk, rfl⟩, hq⟩ := z; exact wpAny_pure (ne ▸ hq)) fun _ _ e => e)
    | exact wpAny_bind (wpAny_pure (wpAny_bind (wpAny_mono run (fun r s' z => by obtain ⟨⟨tk, rfl⟩, hq⟩ := z; exact wpAny_pure (ne ▸ hq)) fun _ _ e => e)))
end
end PySem
namespace Ct
open PySem PySem.Spec PyProof.Rows L2 Evl
section
variable {X : Cx}
def rTruX (P : Program) (w : World) : V → Hp → (Bool → Hp → Prop) → Prop := fun x H Q => ∃ xs a, x = .ref a ∧ Rd H a (dOb P w a xs) ∧ KeysOk H xs ∧ Q (!xs.isEmpty) H
theorem tru_dictX : TruR X (rTruX X.prog X.w) := by
  intro pins s σ H x v Q I rx h
  obtain ⟨xs, a, rfl, e, hk, q⟩ := h
  cases rx
  obtain ⟨zz, hm, vs, r, d⟩ := dOb_rd I e hk
  have hl : xs.length = vs.length := Paired.length r
  refine truth_dictH hm d (by rw [← hl]; rw [sizeLine_eq] at zz; omega) fun tk => ?_
  have ee : xs.isEmpty = vs.isEmpty := by cases r <;> rfl
  rw [← ee]
  exact ⟨H, I.tok _, q⟩
/-- isinstance(d, dict) -/
def rIsiX (K : PySem.W.Frag) (P : Program) (w : World) : List V → Hp → VK → Prop := fun vs H Q => ∃ xs a b T, vs = [.ref a, .ty T] ∧ Rd H a (dOb P w a xs) ∧ KeysOk H xs ∧ PySem.W.kitOne K (.type "dict") (.type T) = some b ∧ Q (.bl b) H
theorem call_isiX : CallR X (.builtin "isinstance") (rIsiX X.K X.prog X.w) := by
  intro pins s σ H ws us Q I r h
  obtain ⟨xs, a, b, T, rfl, e, hk, hb, q⟩ := h
  obtain ⟨u1, u2, rfl, r1, r2⟩ := vals2 r
  cases (show u1 = Value.ref a from r1)
  cases (show u2 = Value.type T from r2)
  obtain ⟨zz, hm, vs, r, d⟩ := dOb_rd I e hk
  obtain ⟨o, es, ep, h1, h2, _⟩ := d
  exact PySem.W.kia_one PySem.W.kitx_dict I.kIn (⟨o, h1, h2.1⟩ : PySem.W.KitAt a "dict" s.heap) hb (fun z => nomatch z) fun tk => ⟨.bl b, H, I.tok tk, rfl, q⟩
/-! {} -/
def tDNewX (P : Program) (w : World) : TE := fun _ H Q => ∀ p, H p = none → Q (.ref p) (upd H p (dOb P w p []))
theorem pe_dnewX {pos : Pos} : PE X (.Dict [] [] pos) (tDNewX X.prog X.w) := ⟨fun pins s σ H Q I h => by
  refine wpAny_Dict_empty ⟨.ref s.heap.objs.size, _, I.laid (a := s.heap.objs.size) (o := dOb X.prog X.w s.heap.objs.size []) (t' := s.toks) (fun _ _ q => Heap.get?_push_of_some _ q) (Nat.le_refl _) ?_, rfl, h _ (I.hok.fresh (Nat.le_refl _))⟩
  exact dOb_ok (vs := []) (Nat.zero_le _) (beq_eq_false_iff_ne.mpr (Ne.symm (Nat.ne_of_lt I.big))) .nil (Heap.DictOfH.new s.heap)⟩
/-! methods -/
section
variable {o e : Expr} {es : List Expr} {to : TE} {t : TA} {name : Str} {apos cpos : Pos} {id : String} {r : V → List V → Hp → VK → Prop}
/-- the receiver is such a dict -/
def IsX (P : Program) (w : World) (x : V) (H : Hp) : Prop := ∃ xs a, x = .ref a ∧ Rd H a (dOb P w a xs) ∧ KeysOk H xs
theorem isX_ty {pins : List (Addr × Obj)} {σ : L2.St} {H : Hp} {s : Shared} {x : V} {v : Value} (I : Inv X pins σ H s) (rx : RelV x v) (h : IsX X.prog X.w x H) : s.TypeIs v "dict" ∧ ∀ a, v = .ref a → ∃ ob, s.heap.get? a = some ob ∧ ob.dict = none := by
  obtain ⟨xs, a, rfl, e, hk⟩ := h
  cases rx
  obtain ⟨zz, hm, vs, r, d⟩ := dOb_rd I e hk
  obtain ⟨o, es, ep, h1, h2, _⟩ := d
  refine ⟨⟨o, h1, h2.1⟩, fun b z => ?_⟩
  cases z
  exact ⟨o, h1, h2.2.1⟩
def tBMX (P : Program) (w : World) (r : V → List V → Hp → VK → Prop) (to : TE) (t : TA) : TE := fun σ H Q => to σ H fun x H1 => IsX P w x H1 ∧ t σ H1 fun xs H2 => r x xs H2 Q
def tBMX0 (P : Program) (w : World) (r : V → List V → Hp → VK → Prop) (to : TE) : TE := fun σ H Q => to σ H fun x H1 => IsX P w x H1 ∧ r x [] H1 Q
theorem pe_bmX0 (slot : Slot "dict" name id) (hty : typeOf (.builtin id) = pure (.type "method_descriptor")) (hm : MtR X id r) (ho : PE X o to)
    (hbase : attributeBase o name X.env (eval o X.env) = eval o X.env := by rfl) (hline : (apos.endLine == cpos.line) = true := by rfl) : PE X (.Call (.Attribute o name apos) [] [] cpos) (tBMX0 X.prog X.w r to) := by
  refine ⟨fun pins s σ H Q I h => ?_⟩
  refine wpAny_Call_method0_late hbase hline (thn (ho.run pins s σ H _ I h) fun v s1 ⟨x, H1, I1, r1, ty, q1⟩ => ?_)
  obtain ⟨h1, h2⟩ := isX_ty I1 r1 ty
  exact ⟨"dict", id, PySem.F.plainAttrs_dict, slot, hty, h1, h2, Calls.callWith_builtin rfl (PySem.evalArgs_none (hm pins s1 σ H1 x [] v [] Q I1 r1 .nil q1))⟩
theorem pe_bmX (slot : Slot "dict" name id) (hty : typeOf (.builtin id) = pure (.type "method_descriptor")) (hm : MtR X id r) (ho : PE X o to) (ha : PA X (e :: es) t)
    (hbase : attributeBase o name X.env (eval o X.env) = eval o X.env := by rfl)
    (hfew : ((backTo cpos (starEach (e :: es) X.env)).all (fun x => !x.1) && (backToKw cpos (keywordEach [] X.env)).all (fun x => x.1.isSome)
      && decide ((e :: es).length + ([] : List Keyword).length + (if ([] : List Keyword).isEmpty then 0 else 1) < 30)) = true := by rfl)
    (hline : (apos.endLine == cpos.line) = true := by rfl) (hs : starEach (e :: es) X.env = (false, eval e X.env) :: starEach es X.env := by rfl) (hplain : (backTo cpos (starEach es X.env)).any (·.1) = false := by rfl) :
    PE X (.Call (.Attribute o name apos) (e :: es) [] cpos) (tBMX X.prog X.w r to t) := by
  refine ⟨fun pins s σ H Q I h => ?_⟩
  refine wpAny_Call_method_late hbase hfew hline rfl (thn (ho.run pins s σ H _ I h) fun v s1 ⟨x, H1, I1, r1, ty, q1⟩ => ?_)
  obtain ⟨h1, h2⟩ := isX_ty I1 r1 ty
  refine ⟨"dict", id, PySem.F.plainAttrs_dict, slot, hty, h1, h2, ?_⟩
  have hA := ha.run cpos pins s1 σ H1 _ I1 q1
  rw [hs] at hA ⊢
  refine Calls.callWith_builtin (by show (false || (backTo cpos (starEach es X.env)).any (·.1)) = false; rw [hplain] <;> rfl) (Calls.evalArgs_plain ?_)
  exact thn hA fun us s2 ⟨vs, H2, I2, r2, q2⟩ => hm pins s2 σ H2 x vs v us Q I2 r1 r2 q2
end
/-- d.get(k) -/
def rGet1X (P : Program) (w : World) : V → List V → Hp → VK → Prop := fun y ws H Q => ∃ x xs k a b, ws = [x] ∧ KAsk P w H x y xs k a b ∧ Q ((kAt xs k).getD .non) H
theorem mt_getX (hu : X.A.units + 64 < cLine) : MtR X "dict.get" (rGet1X X.prog X.w) := by
  intro pins s σ H y ws v us Q I ry rws h
  obtain ⟨x, xs, k, a, b, rfl, ⟨rfl, rfl, e, hk, hn, hd⟩, q⟩ := h
  rw [Vals.ref1 rws]
  cases ry
  obtain ⟨zz, hm, vs, r, d⟩ := dOb_rd I e hk
  refine call_meetsIn PySem.F.slot_dict_get d.typeIs PySem.F.entry_dict_get (PySem.F.args_dict_get_2 _ _) (meetsH_dict_get (nestedKind X.prog X.w) a b hm) ⟨room_nk hu, k, vs, key_here I hn hd, d, ?_⟩
  exact ⟨(kAt xs k).getD .non, H, I.tok _, RelO.getD (d := V.non) (d' := Value.none) (krel_at k r) (show RelV V.non Value.none from rfl), q⟩
/-- d.setdefault(k, v) -/
def rSdfX (P : Program) (w : World) : V → List V → Hp → VK → Prop := fun y ws H Q => ∃ x d xs k a b, ws = [x, d] ∧ KAsk P w H x y xs k a b ∧ H a = some (dOb P w a xs) ∧ xs.length < sizeLine ∧
  (∀ v, kAt xs k = some v → Q v H) ∧ (kAt xs k = none → Q d (upd H a (dOb P w a (kPut xs k b d))))
theorem mt_sdfX (hu : X.A.units + 64 < cLine) : MtR X "dict.setdefault" (rSdfX X.prog X.w) := by
  intro pins s σ H y ws v us Q I ry rws h
  obtain ⟨x, dv, xs, k, a, b, rfl, ⟨rfl, rfl, e, hk, hn, hd⟩, ea, hl, q1, q2⟩ := h
  obtain ⟨u1, u2, rfl, r1, r2⟩ := vals2 rws
  cases (show u1 = Value.ref b from r1)
  cases ry
  obtain ⟨zz, hm, vs, r, d⟩ := dOb_rd I e hk
  have hz : vs.length ≤ sizeLine := by rw [← Paired.length r]; exact zz
  have h1 := krel_at k r
  refine call_setdefault_heap (hsz := hz) (room_nk hu) (key_here I hn hd) hm d (fun p hp => ?_) fun hn2 h' d' hs => ?_
  · rw [hp] at h1
    cases e3 : kAt xs k with
    | none => rw [e3] at h1; exact h1.elim
    | some z => rw [e3] at h1; exact ⟨z, H, I.tok _, h1, q1 z e3⟩
  · rw [hn2] at h1
    cases e3 : kAt xs k with
    | none => exact ⟨dv, _, dOb_write I ea hl hm r r2 d' hs, r2, q2 e3⟩
    | some z => rw [e3] at h1; exact h1.elim
/-- d.clear() -/
def rClrX (P : Program) (w : World) : V → List V → Hp → VK → Prop := fun y ws H Q => ∃ xs a, ws = [] ∧ y = .ref a ∧ H a = some (dOb P w a xs) ∧ KeysOk H xs ∧ Q .non (upd H a (dOb P w a []))
theorem mt_clrX : MtR X "dict.clear" (rClrX X.prog X.w) := by
  intro pins s σ H y ws v us Q I ry rws h
  obtain ⟨xs, a, rfl, rfl, ea, hk, q⟩ := h
  cases rws
  cases ry
  obtain ⟨zz, hm, vs, r, d⟩ := dOb_rd I (.inl ea) hk
  refine clear_keyed (knd := nestedKind X.prog X.w) (kvs := pairsH vs) ⟨vs, d, rfl⟩ (fun h' d' hs => ?_) (by rw [pairsH_length, ← Paired.length r]; exact zz)
  obtain ⟨ys, d2, ey⟩ := d'
  have : ys = [] := by
    have := congrArg List.length ey
    rw [pairsH_length] at this
    exact List.length_eq_zero_iff.mp this
  subst this
  have he : ∃ q, h'.get? a = some q := let ⟨q, _, _, hq, _⟩ := d2; ⟨q, hq⟩
  exact ⟨.non, _, I.write (t' := s.toks) (x := a) (e := a) (by rw [ea]; exact True.intro) (.inl rfl) (fun c z hc y => (hs.2 c hc).trans y) he (dOb_ok (Nat.zero_le _) hm .nil d2), rfl, q⟩
end
end Ct
/-! # enumerate over a tuple; a dict keyed by nested tuples gone through; a dict comprehension that makes one -/
namespace PySem
section
variable {prog : Program} {w : World} {A : Around} {E : Value → Shared → Prop} {s : Shared}
set_option maxHeartbeats 1000000 in
theorem meets_enumerate_newT (l : Addr) (items : Array Value) : Meets (Builtin.«enumerate.__new__» ⟨[.type "enumerate", .ref l], []⟩) (fun _ R s => s.heap.IsTuple l items ∧
      R (.ok (.ret (.ref (s.heap.push { cls := .type "tuple_iterator", data := .fields #[.ref l, .int 0 0] }).objs.size))) { s with heap := (s.heap.push { cls := .type "tuple_iterator", data := .fields #[.ref l, .int 0 0] }).push { cls := .type "enumerate", data := .fields #[.none, .bool false, .ref s.heap.objs.size, rawInt 0, .none, .none] } }) :=
  .of_wp fun prog w A R s h => by
    obtain ⟨hp, g, d, tk, os⟩ := s; obtain ⟨h1, h⟩ := h
    have hsub := sub_enumerate
    have q1 : ∀ {A' : Around} {E : Value → Shared → Prop} {Q : Value → Shared → Prop}, Q (.ref hp.objs.size) ⟨hp.push { cls := .type "tuple_iterator", data := .fields #[.ref l, .int 0 0] }, g, d, tk, os⟩ → wpAny (model prog w) A' (pyIter (.ref l)) Q E ⟨hp, g, d, tk, os⟩ :=
      fun q => wpAny_pyIter_tuple h1 q
    wp_walk using q1
    refine wpAny_stack_any fun st => wpAny_pure ?_
    split
    · rename_i c _ _ _ _ _
      cases (c == Value.type "enumerate")
      · wp_walk using q1
        exact ⟨_, rfl, h⟩
      · wp_walk using q1
        exact ⟨_, rfl, h⟩
    · wp_walk using q1
      exact ⟨_, rfl, h⟩
theorem call_enumerate_tuple {l : Addr} {items : Array Value} {Q : Value → Shared → Prop} (hL : s.heap.IsTuple l items)
    (h : ∀ h', IsEnum h' (s.heap.objs.size + 1) s.heap.objs.size 0 .none → h'.IsTupleIter s.heap.objs.size l 0 → (∀ b o, s.heap.get? b = some o → h'.get? b = some o) → Q (.ref (s.heap.objs.size + 1)) { s with heap := h' }) :
    wpAny (model prog w) A (call (.type "enumerate") [.ref l]) Q E s := by
  refine callType_new F.called_enumerate (by decide) (F.typeCall_enumerate_1 _) (F.newCall_enumerate_1 _) (fun obj => F.args_object_init_2 obj _) F.entry_enumerate_new
    (meets_enumerate_newT l items) ⟨hL, ?_⟩
  have hz : (s.heap.push { cls := .type "tuple_iterator", data := .fields #[.ref l, .int 0 0] }).objs.size = s.heap.objs.size + 1 := Heap.size_push ..
  show _ ∧ _
  rw [hz]
  have he : IsEnum ((s.heap.push { cls := .type "tuple_iterator", data := .fields #[.ref l, .int 0 0] }).push
      { cls := .type "enumerate", data := .fields #[.none, .bool false, .ref s.heap.objs.size, rawInt 0, .none, .none] }) (s.heap.objs.size + 1) s.heap.objs.size 0 .none := by
    have := Heap.get?_push_size (s.heap.push { cls := .type "tuple_iterator", data := .fields #[.ref l, .int 0 0] })
      (o := { cls := .type "enumerate", data := .fields #[.none, .bool false, .ref s.heap.objs.size, rawInt 0, .none, .none] }) rfl
    rw [hz] at this; exact this
  exact ⟨⟨_, he, rfl⟩, h _ he ⟨_, Heap.get?_push_of_some _ (Heap.get?_push_size _ rfl), rfl, rfl⟩ fun b o x => Heap.get?_push_of_some _ (Heap.get?_push_of_some _ x)⟩
end
end PySem
namespace Ct
open PySem PySem.Spec PyProof.Rows L2 Evl
/-! ### enumerate(tuple) -/
def IteT (K : PySem.W.Frag) (a : Addr) : It :=
  ⟨fun i H => ∃ (xs : List V) (x : V), SqT K H a xs ∧ xs[i]? = some x, fun i H v H' => ∃ T x, v = .ref T ∧ H T = none ∧ H' = upd H T (.tup [.int (i : Nat), x]) ∧ ∀ xs, SqT K H a xs → xs[i]? = some x, fun i H => ∃ xs : List V, SqT K H a xs ∧ xs.length ≤ i⟩
theorem walk_enumT {K : PySem.W.Frag} {a : Addr} {xs : List V} : Walk (IteT K a) xs.length (fun H => SqT K H a xs) (YPair (fun i => some (.int (i : Nat))) (fun i => xs[i]?)) := by
  refine ⟨fun i _ hi q => ⟨xs, xs[i], q, by simp [hi]⟩, fun _ q => ⟨xs, q, Nat.le_refl _⟩, fun i H v H' _ q y => ?_⟩
  obtain ⟨T, x, h1, h2, h3, h4⟩ := y
  exact ⟨T, .int (i : Nat), x, h1, h2, h3, rfl, h4 xs q⟩
theorem turn_enumT {P : Program} {w : World} {K : PySem.W.Frag} {elts : List Expr} {kk : Nat} {tpos : Pos} (a e it : Addr) :
    Turn P w K (.Tuple elts kk tpos) (IteT K a) [e, it] e (fun i h => (∃ old, IsEnum h e it ((i : Nat) : Int) old) ∧ h.IsTupleIter it a i ∧ e ≠ it) where
  mem := by simp
  obj := fun i h st b hb => by
    obtain ⟨⟨old, he⟩, ⟨o, ho, hc, hd⟩, _⟩ := st
    have e' : b = e ∨ b = it := by simpa using hb
    rcases e' with z | z
    · rw [z]; exact ⟨_, he, fun v q => nomatch q⟩
    · rw [z]; exact ⟨o, ho, fun v q => by rw [hd] at q; cases q⟩
  keep := fun i h h' st k => let ⟨⟨old, he⟩, hi, hne⟩ := st; ⟨⟨old, k e (by simp) _ he⟩, hi.at fun o q => k it (by simp) o q, hne⟩
  item := by
    intro X hP hw hK hc i pins s σ H E I hf st hg
    subst hP hw hK
    obtain ⟨⟨old, he⟩, hit, hne⟩ := st
    obtain ⟨xs, x, hq, hx⟩ := hg
    obtain ⟨its, rv, p, hz⟩ := I.tuple hq
    obtain ⟨u, hu, ru⟩ := rv.get hx
    have hel : e < s.heap.objs.size := Heap.lt_size he
    have hil : it < s.heap.objs.size := by obtain ⟨_, q, _⟩ := hit; exact Heap.lt_size q
    have pt : s.heap.IsTuple a its.toArray := p
    have nie : a ≠ it := fun z => by
      subst z
      obtain ⟨o1, e1, c1, _⟩ := id pt
      obtain ⟨oo, eo, co, _⟩ := id hit
      rw [eo] at e1; cases e1
      rw [c1] at co
      simp at co
    refine wpAny_pyNext_enum_itemD (Draws.tuple (A := X.A.in1) (I.ok.hd hc) it a nie its.toArray) he (show s.heap.IsTupleIter it a i ∧ s.heap.IsTuple a its.toArray from ⟨hit, pt⟩) (by obtain ⟨hu', _⟩ := List.getElem?_eq_some_iff.mp hu; simpa using hu') hne ?_ fun x' h' tk hx' ho hst' hT hsz hk => ?_
    · intro hm
      rcases List.mem_cons.mp hm with z | z
      · exact hne z
      · have z := List.mem_singleton.mp z
        subst z
        obtain ⟨o1, e1, c1, _⟩ := id pt
        rw [show s.heap.get? e = _ from he] at e1; cases e1
        simp at c1
    have ex : x' = u := by
      have h1 : its.toArray[i]? = some x' := hx'
      rw [show its.toArray[i]? = some u by simpa using hu] at h1
      exact (Option.some.inj h1).symm
    subst ex
    refine ⟨_, rfl, wpAny_letOwnedTupleGo_enum (s := { s with heap := h', toks := tk + 1 }) ho fun h'' he' sb => ?_⟩
    have hT2 : h''.get? s.heap.objs.size = some { cls := .type "tuple", data := .seq #[.int i tk, x'] } := (sb.2 _ (Nat.ne_of_gt hel)).trans hT
    have new : ObjOk X.prog X.w (upd H s.heap.objs.size (.tup [.int (i : Nat), x])) h'' s.heap.objs.size (.tup [.int (i : Nat), x]) :=
      ⟨by show 2 ≤ sizeLine; decide, [.int i tk, x'], .cons ⟨_, rfl⟩ (.cons ru .nil), ⟨_, hT2, rfl, _, rfl⟩⟩
    have I1 : Inv X pins σ (upd H s.heap.objs.size (.tup [.int (i : Nat), x])) { s with heap := h'', toks := tk + 1 } :=
      I.turnedNew (ch := [e, it]) (fun b ob hb q => (sb.2 b (fun z => hb (by simp [z]))).trans (hk b ob (fun z => hb (by simp [z])) (fun z => hb (by simp [z])) q)) hf (Nat.le_refl _) new
    refine ⟨.ref s.heap.objs.size, _, I1, rfl, ⟨_, x, rfl, I.hok.fresh (Nat.le_refl _), rfl, fun ys hy => by rw [I.tuple_inj hy hq]; exact hx⟩, ⟨⟨x', ?_⟩, hst'.1.at fun o q => (sb.2 it (Ne.symm hne)).trans q, hne⟩, fun b hb => ?_⟩
    · have e1 : ((i + 1 : Nat) : Int) = (i : Int) + 1 := by omega
      rw [e1]; exact he'
    · have hb' : b < s.heap.objs.size := by
        have e' : b = e ∨ b = it := by simpa using hb
        rcases e' with z | z
        · rw [z]; exact hel
        · rw [z]; exact hil
      rw [upd_ne (Nat.ne_of_lt hb')]
      exact (hf b hb).1
  done := by
    intro X hP hw hK hc i pins s σ H E I hf st hg
    subst hP hw hK
    obtain ⟨⟨old, he⟩, hit, hne⟩ := st
    obtain ⟨xs, hq, hx⟩ := hg
    obtain ⟨its, rv, p, hz⟩ := I.tuple hq
    have pt : s.heap.IsTuple a its.toArray := p
    have nie : a ≠ it := fun z => by
      subst z
      obtain ⟨o1, e1, c1, _⟩ := id pt
      obtain ⟨oo, eo, co, _⟩ := id hit
      rw [eo] at e1; cases e1
      rw [c1] at co
      simp at co
    have hge : its.toArray[i]? = none := by
      have := rv.length
      simp; omega
    obtain ⟨f0, f1, f2, f3, f4, f5⟩ := hf it (by simp)
    have hT : s.TypeIs (.ref e) "enumerate" := ⟨_, he, rfl⟩
    unfold pyNext
    refine wpAny_bind (wpAny_attempt (wpAny_callSpecial?_slot (name := Str.ofString "__next__") hT F.slot_enumerate_next
      (wpAny_call_entry F.slot_enumerate_next hT F.entry_enumerate_next ?_ (F.args_enumerate_next_1 _))))
    show wpAny _ _ (field (.ref e) 2 >>= _) _ _ _
    refine wpAny_bind (wpAny_field he rfl (x := .ref it) rfl ?_)
    refine wpAny_bind (wpAny_nextOf_tuple_end (A := X.A.in1) (I.ok.hd hc) hit pt hge fun h' x he' hx' => ?_)
    obtain ⟨o, ho, hc'⟩ := hx'
    refine wpAny_bind (wpAny_isInstance (T := "StopIteration") (b := true) ⟨o, ho, hc'⟩ isSubtype_stop ?_)
    exact wpAny_pure ⟨rfl, I.turned (t' := s.toks) (fun b o hb q => he' b o hb q) f0 f1 f3 f4 f5⟩
  self := fun A i s Q E st h => let ⟨⟨_, he⟩, _⟩ := st; wpAny_pyIter_enum he h
def iEnumT (K : PySem.W.Frag) (ta : TA) : TI := fun σ H R => ta σ H fun vs H1 => ∃ a xs, vs = [.ref a] ∧ SqT K H1 a xs ∧ R (IteT K a) H1
theorem pi_enumT {X : Cx} {e : Expr} {ta : TA} {p pos tpos : Pos} {elts : List Expr} {kk : Nat} (hg : Gl X "enumerate") (hm : X.mg "enumerate" = none) (ha : PA X [e] ta) (hs : starEach [e] X.env = [(false, eval e X.env)] := by rfl) :
    PI X (.Tuple elts kk tpos) (.Call (.Name "enumerate" p) [e] [] pos) (iEnumT X.K ta) := by
  refine ⟨fun pins s σ H R I h => ?_⟩
  refine Call_ (ld_blt I hg hm boot_enumerate (PyProof.Rows.callWith_type1 (thn (ha.run pos pins s σ H _ I h) fun us s1 ⟨vs, H1, I1, r1, q1⟩ => ?_) hs rfl))
  obtain ⟨a, xs, ex, hq, q⟩ := q1
  subst ex
  cases r1 with
  | cons r rr =>
    cases rr
    cases r
    obtain ⟨its, rv, p', hz⟩ := I1.tuple hq
    refine call_enumerate_tuple (show s1.heap.IsTuple a its.toArray from p') fun h' he hit hk => wpAny_pyIter_enum he ?_
    have I2 : Inv X pins σ H1 { s1 with heap := h' } := I1.kept (t' := s1.toks) hk
    refine ⟨s1.heap.objs.size + 1, [s1.heap.objs.size + 1, s1.heap.objs.size], _, _, H1, rfl, I2, turn_enumT a (s1.heap.objs.size + 1) s1.heap.objs.size, ⟨⟨.none, he⟩, hit, Nat.succ_ne_self _⟩, fun b hb => ?_, q⟩
    have e' : b = s1.heap.objs.size + 1 ∨ b = s1.heap.objs.size := by simpa using hb
    have hle : s1.heap.objs.size ≤ b := by
      rcases e' with z | z
      · rw [z]; exact Nat.le_add_right _ _
      · rw [z]; exact Nat.le_refl _
    exact I1.fpOk hle (I1.hok.fresh hle)

/-! ### for k in d -/
def ItX (P : Program) (w : World) (d : Addr) (o : Obj) (xs : List Ent) : It :=
  ⟨fun i H => H d = some (.frz o (dOb P w d xs)) ∧ i < xs.length, fun i H x H' => H' = H ∧ ∃ e, xs[i]? = some e ∧ x = .ref e.2.1, fun i H => H d = some (.frz o (dOb P w d xs)) ∧ xs.length ≤ i⟩
theorem walk_keysX {P : Program} {w : World} {d : Addr} {o : Obj} {xs : List Ent} : Walk (ItX P w d o xs) xs.length (fun H => H d = some (.frz o (dOb P w d xs))) (YAt (xs.map fun e => .ref e.2.1)) :=
  ⟨fun _ _ hi q => ⟨q, hi⟩, fun _ q => ⟨q, Nat.le_refl _⟩, fun _ _ _ _ _ _ y => ⟨y.1, by obtain ⟨e, h1, h2⟩ := y.2; rw [List.getElem?_map, h1, h2]; rfl⟩⟩
theorem frzX {X : Cx} {pins : List (Addr × Obj)} {σ : L2.St} {H : Hp} {s : Shared} {d : Addr} {o : Obj} {xs : List Ent} {P : Program} {w : World} (hP : X.prog = P) (hw : X.w = w) (I : Inv X pins σ H s) (h : H d = some (.frz o (dOb P w d xs))) :
    (d == sysModules) = false ∧ s.heap.get? d = some o ∧ o.ExactDict ∧ ∃ (es : Array DictEntry) (ep : Nat), o.data = .dict es ep ∧ es.size = xs.length ∧ ∀ (i : Nat) (e : Ent), xs[i]? = some e → ∃ en : DictEntry, es[i]? = some en ∧ en.key = .ref e.2.1 := by
  subst hP hw
  obtain ⟨hd, ⟨z, hs, vs, r, o', es, ep, ho, hx, hdt, he, _⟩, _⟩ := I.hok d _ h
  rw [hd] at ho
  cases ho
  refine ⟨hs, hd, hx, es, ep, hdt, ?_, fun i e hi => ?_⟩
  · have l1 := size_of_entries he
    have l2 := Paired.length r
    omega
  · obtain ⟨b, hb, e1, e2, _⟩ := paired_get r hi
    have q := entry_at he i
    rw [hb] at q
    exact ⟨_, q, by show Value.ref b.2.1 = _; rw [e2]⟩
theorem turn_keysX {P : Program} {w : World} {K : PySem.W.Frag} {tg : Expr} {d : Addr} {o : Obj} {es : Array DictEntry} {ep : Nat} {xs : List Ent} (it : Addr) (hod : o.data = .dict es ep) : Turn P w K tg (ItX P w d o xs) [it] it (fun i h => h.IsKeyIter it d i xs.length ep) where
  mem := by simp
  obj := fun i h st b hb => by
    have e : b = it := by simpa using hb
    subst e
    obtain ⟨oi, e, c, dd⟩ := st
    exact ⟨oi, e, fun v z => by rw [dd] at z; cases z⟩
  keep := fun i h h' st k => st.at fun oi e => k it (by simp) oi e
  item := by
    intro X hP hw hK hc i pins s σ H E I hf st hg
    subst hP hw hK
    obtain ⟨hd, hi⟩ := hg
    obtain ⟨f0, f1, f2, f3, f4, f5⟩ := hf it (by simp)
    obtain ⟨hs, hgd, hx, es', ep', hdt, hsz, ent⟩ := frzX rfl rfl I hd
    obtain ⟨rfl, rfl⟩ := dict_ep hod hdt
    obtain ⟨e, he⟩ : ∃ p, xs[i]? = some p := ⟨xs[i], List.getElem?_eq_getElem hi⟩
    obtain ⟨en, hen, hkey⟩ := ent i e he
    refine next_key_item st hgd hdt hsz hen fun h' st' sb => ?_
    have I1 : Inv X pins σ H { s with heap := h' } := I.turned (t' := s.toks) (fun b ob hb e => (sb.2 b hb).trans e) f0 f1 f3 f4 f5
    obtain ⟨oi, eo, c, dd⟩ := id st'
    exact ⟨en.key, rfl, go_of (s := { s with heap := h' }) eo c dd (by decide) ⟨.ref e.2.1, H, I1, hkey, ⟨rfl, e, he, rfl⟩, st', fun b hb => (hf b hb).1⟩⟩
  done := by
    intro X hP hw hK hc i pins s σ H E I hf st hg
    subst hP hw hK
    obtain ⟨hd, hi⟩ := hg
    obtain ⟨f0, f1, f2, f3, f4, f5⟩ := hf it (by simp)
    obtain ⟨hs, hgd, hx, es', ep', hdt, hsz, ent⟩ := frzX rfl rfl I hd
    obtain ⟨rfl, rfl⟩ := dict_ep hod hdt
    exact next_key_end (I.ok.hd hc) st hgd hdt hsz hi fun h' eb => ⟨rfl, I.turned (t' := s.toks) (fun b ob hb e => eb b ob hb e) f0 f1 f3 f4 f5⟩
  self := fun A i s Q E st h => by
    refine wpAny_pyIter_slot st.typeIs F.slot_dict_keyiterator_iter (wpAny_call_entry F.slot_dict_keyiterator_iter st.typeIs F.entry_dict_keyiterator_iter ?_ (F.args_dict_keyiterator_iter_1 _))
    show wpAny _ _ (ret (.ref it)) _ _ s
    exact wpAny_pure ⟨_, rfl, "dict_keyiterator", _, st.typeIs, F.slot_dict_keyiterator_next.lookup, h⟩
def iKeysX (P : Program) (w : World) (td : TE) : TI := fun σ H R => td σ H fun x H1 => ∃ d o xs, x = .ref d ∧ H1 d = some (.frz o (dOb P w d xs)) ∧ R (ItX P w d o xs) H1
theorem pi_keysX {X : Cx} {tg e : Expr} {td : TE} (he : PE X e td) : PI X tg e (iKeysX X.prog X.w td) := by
  refine ⟨fun pins s σ H R I h => ?_⟩
  refine thn (he.run pins s σ H _ I h) fun u s1 ⟨x, H1, I1, rx, d, o, xs, ex, hd, q⟩ => ?_
  subst ex
  obtain rfl : u = Value.ref d := rx
  obtain ⟨hs, hgd, hx, es, ep, hdt, hsz, ent⟩ := frzX rfl rfl I1 hd
  refine iter_keys hs hgd hx hdt (pi_one (tk := s1.toks) I1 _ (turn_keysX _ hdt) ⟨_, Heap.get?_push_size _ rfl, rfl, ?_⟩ q)
  rw [hsz] <;> rfl

/-! ### {k: v for target in iter} -/
/-- the store of such a comprehension's turn -/
theorem x_dictSet {X : Cx} {pins : List (Addr × Obj)} {σ : L2.St} {H : Hp} {s : Shared} {E : Value → Shared → Prop} {D b : Addr} {xs : List Ent} {k : NestedKey} {v : V} {u r : Value} {Q : Unit → Shared → Prop} (hu : X.A.units + 64 < cLine) (I : Inv X pins σ H s) (hD : H D = some (dOb X.prog X.w D xs)) (hk : KeysOk H xs) (hz : xs.length < sizeLine)
    (ry : RelV (.ref b) u) (hn : NKi H (.ref b) k) (hd : k.depth ≤ 8) (rv : RelV v r) (h : ∀ s', Inv X pins σ (upd H D (dOb X.prog X.w D (kPut xs k b v))) s' → Q () s') : wpAny (model X.prog X.w) X.A (dictSet D u r) Q E s := by
  cases ry
  obtain ⟨zz, hm, vs, rel, dd⟩ := dOb_rd I (.inl hD) hk
  refine wpAny_dictSet_heap (hsz := by rw [← Paired.length rel]; exact zz) (by show X.A.units + 8 < cLine; omega) (key_here I hn hd) dd fun h' dd' hs => h _ (dOb_write I hD hz hm rel rv dd' hs)

section
variable {X : Cx}
/-- D the new dict; its keys nested tuples -/
def tXc (P : Program) (w : World) (wi : TI) (g : TG) (tt : TT) (tk tv : TE) (vs : List Nat) : TE := fun σ H Q => wi σ H fun J H1 => ∀ D, H1 D = none → ∃ W : Nat → Nat → Hp → Prop, (∃ m, W 0 m (upd H1 D (dOb P w D []))) ∧ ∀ i m H, W i m H →
  (J.stop i H ∧ Q (.ref D) H) ∨ (J.go i H ∧ ∃ Nx : Hp → Prop, (∀ H', Nx H' → ∃ m', m' < m ∧ W (i + 1) m' H') ∧ ∀ x H', J.yld i H x H' → g x (wipe σ vs) H' fun σ2 H2 => wipe σ2 vs = wipe σ vs ∧ tt σ2 H2 fun b H3 =>
    if b = true then tk σ2 H3 fun y H4 => tv σ2 H4 fun z H5 => ∃ xs k b, y = .ref b ∧ H5 D = some (dOb P w D xs) ∧ KeysOk H5 xs ∧ xs.length < sizeLine ∧ NKi H5 (.ref b) k ∧ k.depth ≤ 8 ∧ Nx (upd H5 D (dOb P w D (kPut xs k b z))) else Nx H3)
abbrev Blk (X : Cx) (scope : Scope) (F : Cx → Prop) : Prop := ∀ (s : Shared) (H : Hp) (C : Addr) (cl : List (Str × Addr)) (fp : List Addr), F (X.blk s H scope (compEnvC scope cl C X.env) fp)
theorem xc_core {pins : List (Addr × Obj)} {s : Shared} {σ : L2.St} {H : Hp} {Q : VK} {kx vx tg iter : Expr} {ifs : List Expr} {scope : Scope} {own : List (Str × Nat)} {pos pos' : Pos} {wi : TI} {g : TG} {tt : TT} {tk tv : TE} {use : Option (Value → Sem Unit)} {Qf : Value → Shared → Prop}
    (hu : X.A.units + 64 < cLine) (hc : X.calm = true) (hN : X.N.Nodup) (I : Inv X pins σ H s) (hi : PI X tg iter wi) (ok : BlkOk X.N X.env.scope scope own)
    (hg : Blk X scope fun Y => PG Y tg g) (ht : Blk X scope fun Y => PTs Y ifs tt) (hk : Blk X scope fun Y => PE Y kx tk) (he : Blk X scope fun Y => PE Y vx tv) (hs : ∀ x, foldedSetIterable iter X.env x = pure x)
    (h : tXc X.prog X.w wi g tt tk tv (own.map (·.2)) σ H Q)
    (done : ∀ D C s' m H', Inv X pins σ H' s' → Q (.ref D) H' → s'.heap.Ns C m → FpOk X pins H' C → compPost (model X.prog X.w) X.A X.xe use Qf (.ref D) C (.ok .next) s') :
    wpAny (model X.prog X.w) X.A (comprehension (.DictComp kx vx [⟨tg, iter, ifs, 0⟩] scope pos) scope X.env pos' newDict false (eval iter X.env) use) Qf X.xe s := by
  have hfree : ∀ y ∈ scope.names, y.2 = .free → ∃ c, X.env.cells.lookup y.1 = some c := fun y hy e => (ok.free y hy e).elim (fun k => I.ok.has _ (.inl k)) fun k => I.ok.has _ (.inr k)
  refine wpAny_comprehension_free (use := use) rfl hs (closure_ok hfree) ok.kind (fun y hy e => by rw [ok.uniq y hy, e]) (thn (hi.run pins s σ H _ I h) fun xv s1 hx => thn hx fun itv s2 h2 => ?_)
  obtain ⟨it, fp, tn, J, H2, rfl, I2, T, st2, f2, q⟩ := h2
  refine wpAny_newObj_type (newEnv_comp ?_)
  generalize hD : s2.heap.objs.size = D
  have hDn : H2 D = none := I2.hok.fresh (Nat.le_of_eq hD)
  obtain ⟨W, ⟨m0, w0⟩, turn⟩ := q D hDn
  -- the dict, new
  generalize hs3 : ({ s2 with heap := s2.heap.push { cls := .type "dict", data := .dict #[] } } : Shared) = s3
  have I3 : Inv X pins σ (upd H2 D (dOb X.prog X.w D [])) s3 := by
    rw [← hs3]
    refine I2.laid (t' := s2.toks) (fun b o e => Heap.get?_push_of_some _ e) (Nat.le_of_eq hD) ?_
    rw [← hD]
    exact dOb_ok (vs := []) (Nat.zero_le _) (beq_eq_false_iff_ne.mpr (Ne.symm (Nat.ne_of_lt I2.big))) .nil (Heap.DictOfH.new s2.heap)
  have h3 : s3.heap = s2.heap.push { cls := .type "dict", data := .dict #[] } := by rw [← hs3]
  have sz : ∀ b ∈ fp, b < s2.heap.objs.size := fun b hb => let ⟨o, e, _⟩ := T.obj _ _ st2 b hb; Heap.lt_size e
  have f3 : ∀ b ∈ fp, FpOk X pins (upd H2 D (dOb X.prog X.w D [])) b ∧ b < s3.heap.objs.size := fun b hb => by
    have hlt := sz b hb
    refine ⟨⟨?_, (f2 b hb).2⟩, by rw [h3, Heap.size_push]; exact Nat.lt_succ_of_lt hlt⟩
    rw [upd_ne (by rw [← hD]; exact Nat.ne_of_lt hlt)]
    exact (f2 b hb).1
  have st3 : tn 0 s3.heap := T.keep _ _ _ st2 fun b _ o e => by rw [h3]; exact Heap.get?_push_of_some _ e
  have I4 := block_start I3 ok hN f3
  generalize hcl : cellsFrom (s3.heap.objs.size + 1) scope.names (cloFrom X.env.cells scope.names []) = cl at I4
  generalize hH3 : upd H2 D (dOb X.prog X.w D []) = H3 at I3 I4 w0 f3
  have pg := hg s3 H3 s3.heap.objs.size cl fp
  have pt := ht s3 H3 s3.heap.objs.size cl fp
  have pk := hk s3 H3 s3.heap.objs.size cl fp
  have pe := he s3 H3 s3.heap.objs.size cl fp
  show codeAny _ _ (.compStart (.DictComp kx vx [⟨tg, iter, ifs, 0⟩] scope pos) 0 (.ref it) (.ref D) (compEnvC scope cl s3.heap.objs.size X.env)) (compPost (model X.prog X.w) X.A X.xe use Qf (.ref D) s3.heap.objs.size) { s3 with heap := pushCells (s3.heap.push { cls := .type "dict", data := .dict #[] }) scope.names }
  have nfp : ∀ b ∈ fp, H3 b = none := fun b hb => (f3 b hb).1.1
  generalize hce : compEnvC scope cl s3.heap.objs.size X.env = ce at I4 pg pt pk pe ⊢
  have cL : ce.locals = s3.heap.objs.size := by subst hce; rfl
  generalize hs4 : ({ s3 with heap := pushCells (s3.heap.push { cls := .type "dict", data := .dict #[] }) scope.names } : Shared) = s4 at I4 ⊢
  have st4 : tn 0 s4.heap := T.keep _ _ _ st3 fun b _ o e => by rw [← hs4]; exact pushCells_keeps _ _ _ _ (Heap.get?_push_of_some _ e)
  have stat : ∀ {σ' : L2.St} {H' : Hp} {s' : Shared}, Inv (X.blk s3 H3 scope ce fp) [] σ' H' s' → (∀ b ∈ fp, H' b = none) → ∀ b ∈ fp, FpOk (X.blk s3 H3 scope ce fp) [] H' b := fun {σ' H' s'} I' hn b hb =>
    ⟨hn b hb, (I'.ok.exf b hb).1, I'.ok.exfs b hb, .inl hb, fun x c e => (I'.ok.exf b hb).2 x c e, fun p hp => absurd (show p ∈ ([] : List (Addr × Obj)) ++ [] from hp) (by simp)⟩
  have loop : codeAny (model X.prog X.w) X.A (.compLoop (.DictComp kx vx [⟨tg, iter, ifs, 0⟩] scope pos) 0 (.ref it) (.ref D) ce) (compPost (model X.prog X.w) X.A X.xe use Qf (.ref D) s3.heap.objs.size) s4 := by
    refine compLoop_anyD (fun n s' => ∃ i H', Inv (X.blk s3 H3 scope ce fp) [] (wipe σ (own.map (·.2))) H' s' ∧ tn i s'.heap ∧ (∀ b ∈ fp, H' b = none) ∧ W i n H') ?_ m0 ⟨0, H3, I4, st4, nfp, w0⟩
    rintro n s5 ⟨i, H5, I5, st5, n5, w5⟩
    rcases turn i n H5 w5 with ⟨stop, qq⟩ | ⟨go, Nx, hNx, step⟩
    · refine thnF (T.done (X.blk s3 H3 scope ce fp) rfl rfl rfl hc i [] s5 _ H5 (fun _ _ => False) I5 (stat I5 n5) st5 stop) fun r s6 ⟨hr, I6⟩ => ?_
      subst hr
      have I7 : Inv X pins σ H5 s6 := I3.call' (ch := fp) I6.os I6.base I6.hok I6.bare fun b hb => ⟨(f3 b hb).1.2.2.2.1, (f3 b hb).1.2.1, (f3 b hb).1.2.2.2.2.1, (f3 b hb).1.2.2.2.2.2⟩
      have nC : H5 s3.heap.objs.size = none := by
        have z : H5 ce.locals = none := I6.free
        rw [cL] at z
        exact z
      obtain ⟨m, hn, _⟩ := I6.loc
      have hn : s6.heap.Ns ce.locals m := hn
      rw [cL] at hn
      exact done D s3.heap.objs.size s6 m H5 I7 qq hn (I3.fpOk (Nat.le_refl _) nC)
    · refine thnF (T.item (X.blk s3 H3 scope ce fp) rfl rfl rfl hc i [] s5 _ H5 (fun _ _ => False) I5 (stat I5 n5) st5 go) fun r s6 ⟨u, hr, h6⟩ => ?_
      subst hr
      refine thnF h6 fun _ s7 ⟨x, H7, I7, r7, y7, st7, n7⟩ => ?_
      refine thnF (pg.run _ s7 _ H7 x u _ (I7.pinned (stat I7 n7) (T.obj _ _ st7)) r7 (step x H7 y7)) fun _ s8 ⟨σ8, H8, I8, hw8, q8⟩ => ?_
      refine thnF (pt.run _ s8 σ8 H8 _ I8 q8) fun b s9 ⟨H9, I9, q9⟩ => ?_
      have fin : ∀ {s' : Shared} {H' : Hp}, Inv (X.blk s3 H3 scope ce fp) ([] ++ pinsAt fp s7.heap) σ8 H' s' → Nx H' → ∃ m, m < n ∧ ∃ i H', Inv (X.blk s3 H3 scope ce fp) [] (wipe σ (own.map (·.2))) H' s' ∧ tn i s'.heap ∧ (∀ b ∈ fp, H' b = none) ∧ W i m H' := fun {s' H'} I' nx => by
        obtain ⟨m', hm, w'⟩ := hNx H' nx
        have pin' : ∀ b ∈ fp, ∀ o, s7.heap.get? b = some o → s'.heap.get? b = some o ∧ H' b = none := fun b hb o e =>
          let z := I'.pin (b, o) (List.mem_append_right _ (List.mem_append_right _ (mem_pinsAt hb e)))
          ⟨z.1, z.2.1⟩
        refine ⟨m', hm, i + 1, H', (I'.unpinned (pins := [])).weak (by rw [← hw8, wipe_length]) (fun j v e => ?_), T.keep _ _ _ st7 fun b hb o e => (pin' b hb o e).1, fun b hb => ?_, w'⟩
        · rw [← hw8] at e
          exact (wipe_some e).1
        · obtain ⟨o, e, _⟩ := T.obj _ _ st7 b hb
          exact (pin' b hb o e).2
      cases b with
      | false =>
        simp only [Bool.false_eq_true, if_false] at q9 ⊢
        exact fin I9 q9
      | true =>
        simp only [if_true] at q9 ⊢
        refine thnF (pk.run _ s9 σ8 H9 _ I9 q9) fun z s10 ⟨yk, H10, I10, r10, q10⟩ => ?_
        refine thnF (pe.run _ s10 σ8 H10 _ I10 q10) fun z2 s11 ⟨yv, H11, I11, r11, xs, k, b, ek, hD11, hk11, hz11, hn11, hd11, nx⟩ => ?_
        subst ek
        exact x_dictSet (X := X.blk s3 H3 scope ce fp) hu I11 hD11 hk11 hz11 r10 hn11 hd11 r11 fun s12 I12 => fin I12 nx
  exact codeAny_compStart_dict loop (T.self X.A 0 _ _ _ st4 loop)
theorem pe_xc {kx vx tg iter : Expr} {ifs : List Expr} {scope : Scope} {own : List (Str × Nat)} {pos : Pos} {wi : TI} {g : TG} {tt : TT} {tk tv : TE} (hu : X.A.units + 64 < cLine) (hc : X.calm = true) (hN : X.N.Nodup) (hi : PI X tg iter wi) (ok : BlkOk X.N X.env.scope scope own)
    (hg : Blk X scope fun Y => PG Y tg g) (ht : Blk X scope fun Y => PTs Y ifs tt) (hk : Blk X scope fun Y => PE Y kx tk) (he : Blk X scope fun Y => PE Y vx tv) (hs : ∀ x, foldedSetIterable iter X.env x = pure x := by intro _; rfl) :
    PE X (.DictComp kx vx [⟨tg, iter, ifs, 0⟩] scope pos) (tXc X.prog X.w wi g tt tk tv (own.map (·.2))) := by
  refine ⟨fun pins s σ H Q I h => ?_⟩
  rw [arm_eval_DictComp]
  refine xc_core hu hc hN I hi ok hg ht hk he hs h fun D C s' m H' I' q hn f => ⟨m, hn, fun h'' sb => ?_⟩
  obtain ⟨f0, f1, f2, f3, f4, f5⟩ := f
  exact ⟨.ref D, H', I'.turned (t' := s'.toks) (fun b o hb e => (sb.2 b hb).trans e) f0 f1 f3 f4 f5, rfl, q⟩
end
end Ct
/-! # list.remove of nested data; <= of loads; tuple * int from 1; a list's item read by values -/
namespace PySem.SeqAt
open PySem.MeetsSeq
open PySem.AutoSeq1 (wpAny_loadPart')
theorem remove_loopAt (l : Addr) (items : Array Value) (n : Nat) (x : Value) (e : Value → Bool) (j : Nat) (hj : j < items.size) (hit : e items[j] = true) (k : Nat) (hs1 : items.size ≤ sizeLine) :
    ∀ i : Nat, j - i = k → i ≤ j → (∀ m (hm : m < items.size), i ≤ m → m < j → e items[m] = false) → Meets (Builtin.«list.remove.loop» ⟨[.ref l, x, rawInt i], []⟩)
      (fun A R s => s.heap.get? l = some { cls := .type "list", dict := none, data := .seq items n, slots := #[] } ∧ (∀ y, y ∈ items → EqAt A.in1 s y x (e y)) ∧ R (.ok (.ret .none)) { s with heap := s.heap.update l (Obj.mapSeq fun xs => xs.eraseIdxIfInBounds j) }) := by
  induction k with
  | zero =>
    intro i hk hij hno prog w A R s h
    obtain ⟨hp, g, d, tk, os⟩ := s; obtain ⟨hl, he, h⟩ := h
    have hij' : i = j := by omega
    subst hij'
    wp_walk using wpAny_loadPart' hl
    have hi : items[((i : Nat) : Int).toNat]? = some items[i] := by simp [hj]
    rw [hi]
    refine wpAny_bind (he _ (Array.getElem_mem hj) prog w _ _ ?_)
    rw [hit]
    have hz' : (items.eraseIdxIfInBounds i).size ≤ sizeLine + 1 := Nat.le_trans (size_erased items _) (Nat.le_succ_of_le hs1)
    wp_walk using (wpAny_updateSeq hl rfl (hz := hs1) (_hz' := hz')), wpAny_loadPart' hl
    simpa using h
  | succ k ih =>
    intro i hk hij hno prog w A R s h
    obtain ⟨hp, g, d, tk, os⟩ := s; obtain ⟨hl, he, h⟩ := h
    have hlt : i < items.size := by omega
    wp_walk using wpAny_loadPart' hl
    have hi : items[((i : Nat) : Int).toNat]? = some items[i] := by simp [hlt]
    have hc : ((i : Int) + 1) = ((i + 1 : Nat) : Int) := by push_cast; rfl
    rw [hi]
    refine wpAny_bind (he _ (Array.getElem_mem hlt) prog w _ _ ?_)
    rw [hno i hlt (Nat.le_refl _) (by omega)]
    wp_walk
    rw [hc]
    exact ⟨plainId_quiet plain_remove_loop _, codeAny_builtin entry_remove_loop (by
      rw [Around.under_plainId plain_remove_loop _]
      exact ih (i + 1) (by omega) (by omega) (fun m hm h1 h2 => hno m hm (by omega) h2) prog w A R _ ⟨hl, he, h⟩)⟩
theorem list_removeAt (l : Addr) (items : Array Value) (n : Nat) (x : Value) (e : Value → Bool) (j : Nat) (hj : j < items.size)
    (hit : e items[j] = true) (hno : ∀ m (hm : m < items.size), m < j → e items[m] = false) (hs1 : items.size ≤ sizeLine) :
    Meets (Builtin.«list.remove» ⟨[.ref l, x], []⟩)
      (fun A R s => s.heap.get? l = some { cls := .type "list", dict := none, data := .seq items n, slots := #[] } ∧ (∀ y, y ∈ items → EqAt A.in1 s y x (e y)) ∧ R (.ok (.ret .none)) { s with heap := s.heap.update l (Obj.mapSeq fun xs => xs.eraseIdxIfInBounds j) }) := by
  intro prog w A R s h
  obtain ⟨hp, g, d, tk, os⟩ := s; obtain ⟨hl, he, h⟩ := h
  wp_walk using wpAny_loadPart' hl
  exact ⟨plainId_quiet plain_remove_loop _, codeAny_builtin entry_remove_loop (by
    rw [Around.under_plainId plain_remove_loop _]
    exact remove_loopAt l items n x e j hj hit _ hs1 0 rfl (Nat.zero_le _) (fun m hm _ h2 => hno m hm h2) prog w A R _ ⟨hl, he, h⟩)⟩
end PySem.SeqAt
namespace Ct
open PySem PySem.Spec PyProof.Rows L2 Evl
section
variable {X : Cx}
/-! ### xs.remove(x), x there -/
def rRemD (K : PySem.W.Frag) : V → List V → Hp → VK → Prop := fun x vs H Q => ∃ (a : Addr) (xs : List V) (y : V) (d : PyData) (ds : List PyData) (j : Nat) (z : PyData), x = V.ref a ∧ vs = [y] ∧ H a = some (.lst xs) ∧ DpAll K H xs ds ∧ Dp K H y d ∧
  SeqAt.shaped (.list ds) = true ∧ SeqAt.shaped d = true ∧ ds[j]? = some z ∧ PyData.eqv z d = true ∧ (∀ (m : Nat) (z' : PyData), m < j → ds[m]? = some z' → PyData.eqv z' d = false) ∧ Q .non (upd H a (.lst (xs.eraseIdx j)))
theorem mt_remD (hu : X.A.units + 65 < cLine) : MtR X "list.remove" (rRemD X.K) := by
  intro pins s σ H x vs v us Q I rx rxs h
  obtain ⟨a, xs, y, d, ds, j, z, rfl, rfl, ha, hl, hy, sl, sd, hz, hzj, hno, q⟩ := h
  cases rx
  obtain ⟨u, rfl, ru⟩ := rxs.one
  obtain ⟨bs, r1⟩ := Dp.reads I d y u hy ru
  have hxs : PyData.canLayAll0 ds = true := SeqAt.canLay_of_shaped sl
  have hroom : X.A.units + 1 + min (PyData.depthAll ds) d.depth < cLine := room_in_shaped sd hu
  obtain ⟨zz, its, n, rv, hlen, ho⟩ := I.lstM ha
  obtain ⟨as, h4⟩ := Dp.readsAll I ds _ its hl rv
  have hn : its.length = ds.length := SeqAt.ReadsAll.length ds its as h4
  have hmap : its.map (SeqAt.readOf s.heap) = ds := SeqAt.readsAll_map ds its as hxs h4
  obtain ⟨hjd, _⟩ := List.getElem?_eq_some_iff.mp hz
  have hjl : j < its.length := by omega
  have hj : j < its.toArray.size := by simpa using hjl
  have at_ : ∀ (m : Nat) (hm : m < its.toArray.size) (z' : PyData), ds[m]? = some z' → SeqAt.readOf s.heap its.toArray[m] = z' := by
    intro m hm z' hz'
    have hml : m < its.length := by simpa using hm
    rw [← hmap, List.getElem?_map, List.getElem?_eq_getElem hml] at hz'
    have e1 : SeqAt.readOf s.heap its[m] = z' := Option.some.inj (show some (SeqAt.readOf s.heap its[m]) = some z' from hz')
    simpa using e1
  have hsz : its.toArray.size ≤ sizeLine := by rw [List.size_toArray, ← hlen]; exact zz
  refine call_meets PySem.F.slot_list_remove ⟨_, ho, rfl⟩ PySem.F.entry_list_remove (PySem.F.args_list_remove_2 _ _)
    (SeqAt.list_removeAt a its.toArray n u (fun u => PyData.eqv (SeqAt.readOf s.heap u) d) j hj ?_ ?_ hsz) ⟨ho, SeqAt.items_eqAt (vs := its.toArray) (show ReadsAll s.heap its.toArray.toList ds as from h4) r1 hxs (SeqAt.canLay_of_shaped sd) hroom, ?_⟩
  · show PyData.eqv (SeqAt.readOf s.heap its.toArray[j]) d = true
    rw [at_ j hj z hz]; exact hzj
  · intro m hm hmj
    have hmd : m < ds.length := by have : m < its.length := by simpa using hm
                                   omega
    show PyData.eqv (SeqAt.readOf s.heap its.toArray[m]) d = false
    rw [at_ m hm ds[m] (List.getElem?_eq_getElem hmd)]
    exact hno m _ hmj (List.getElem?_eq_getElem hmd)
  · have rr := rv.eraseIdx j
    refine ⟨.non, _, I.lset (its' := its.eraseIdx j) (t' := s.toks) ha ho ?_ rr ?_, rfl, q⟩
    · show its.toArray.eraseIdxIfInBounds j = (its.eraseIdx j).toArray
      rw [List.eraseIdxIfInBounds_toArray]
    · have := List.length_eraseIdx_le xs j
      omega
/-! ### xs[i], by values -/
theorem get_list : PGet X (rIxL X.K) := by
  intro pins s σ H x y v u Q I rx ry h
  obtain ⟨p, xs, i, z, rfl, rfl, hq, he, q⟩ := h
  cases rx
  obtain ⟨t, rfl⟩ := ry
  obtain ⟨its, r, pl, hz⟩ := I.list hq
  obtain ⟨j, h1, h2, h3, h4, h5⟩ := atI_get he
  obtain ⟨w, ew, rw'⟩ := r.get h2
  have hl := r.length
  have hn := line63
  have fin : EP X pins σ Q w s := ⟨z, H, I, rw', q⟩
  by_cases h0 : 0 ≤ i
  · have hj : i.toNat = j := by
      rw [seqIndex_of h0 h5] at h1
      exact Option.some.inj h1
    exact wpAny_getItem_list pl.isList h0 (by omega) (by rw [hj]; simpa using ew) fin
  · have hj : (i + (its.toArray.size : Int)).toNat = j := by
      rw [seqIndex_neg (by omega) h4] at h1
      rw [List.size_toArray, ← hl]
      exact Option.some.inj h1
    exact wpAny_getItem_list_neg pl.isList (by omega) (by rw [List.size_toArray] <;> omega) (by omega) (by rw [hj]; simpa using ew) fin

/-! ### t * 1 -/
theorem tuple_mul1 (l : Addr) (items : Array Value) (n : Nat) (dd : Option Addr) (sl : Array (Option Value)) (u : Tok) :
    Meets (Builtin.«tuple.__mul__» ⟨[.ref l, .int 1 u], []⟩) (fun _ R s => s.heap.get? l = some { cls := .type "tuple", dict := dd, data := .seq items n, slots := sl } ∧ R (.ok (.ret (Value.ref l))) s) :=
  .of_wp fun prog w A R s h => by
    obtain ⟨hp, g, d, tk, os⟩ := s
    obtain ⟨hl, h⟩ := h
    have f1 := AutoSeq1.idx_int
    wp_walk using AutoSeq1.wpAny_loadPart' hl
    exact ⟨_, rfl, h⟩
/-- t * n, n from 1 to 1000 -/
def rRepA (K : PySem.W.Frag) : R2 := fun x y H Q => ∃ l k xs, x = .ref l ∧ y = .int k ∧ H l = some (.tup xs) ∧ xs ≠ [] ∧ 1 ≤ k ∧ k ≤ 1000 ∧ xs.length ≤ 1000 ∧ (k = 1 → Q (.ref l) H) ∧ (k ≠ 1 → ∀ p, H p = none → Q (.ref p) (upd H p (.tup (List.replicate k.toNat xs).flatten)))
theorem op_repA : OpR X (binaryOp .Mult) (rRepA X.K) := by
  intro pins s σ H x y v u Q I rx ry h
  obtain ⟨l, k, xs, rfl, rfl, hT, hne, h1, h2, hz, q1, q2⟩ := h
  by_cases hk : k = 1
  · subst hk
    cases rx
    obtain ⟨t, rfl⟩ := ry
    obtain ⟨its, r, ⟨⟨cls, dd, data, sl⟩, ho, hc, n, hd⟩, hs⟩ := I.tuple (SqT.of hT)
    simp only at hc hd
    subst hc hd
    exact wpAny_binaryOp_repeat_ref (T := "tuple") (U := "int") (by decide) ⟨_, ho, rfl⟩ (fun s' => typeIs_int s' 1 t) noFill_tuple_mul F.fills_int_mul F.slot_int_rmul repeat_tuple F.slot_int_index.lookup
      (call_meets F.slot_int_rmul (typeIs_int s 1 t) F.entry_int_rmul (F.args_int_rmul_2 _ _) (int_rmul_tuple 1 t l its.toArray n dd sl)
        ⟨ho, rfl, ⟨_, ho, rfl⟩, call_meets F.slot_tuple_mul ⟨_, ho, rfl⟩ F.entry_tuple_mul (F.args_tuple_mul_2 _ _) (tuple_mul1 l its.toArray n dd sl t) ⟨ho, ⟨.ref l, H, I, rfl, q1 rfl⟩⟩⟩)
  · exact op_repT pins s σ H _ _ v u Q I rx ry ⟨l, k, xs, rfl, rfl, SqT.of hT, hne, by omega, h2, hz, q2 hk⟩
end
/-! ### <= of loads -/
def leP (p q : P) : Bool := decide (p.1 < q.1 ∨ (p.1 = q.1 ∧ p.2 ≤ q.2))
def lexLe {α : Type} [DecidableEq α] (le : α → α → Bool) : List α → List α → Bool
  | [], _ => true
  | _ :: _, [] => false
  | x :: xs, y :: ys => if x = y then lexLe le xs ys else le x y
abbrev leLd : Ld → Ld → Bool := lexLe leP
abbrev leSh : Sh → Sh → Bool := lexLe leLd
theorem lexAt_shift (e r : Nat → Bool) (z : Bool) : ∀ k i, Ob.lexAt e r z (i + 1) k = Ob.lexAt (fun j => e (j + 1)) (fun j => r (j + 1)) z i k
  | 0, _ => rfl
  | k + 1, i => by
    rw [Ob.lexAt_succ, Ob.lexAt_succ, lexAt_shift e r z k (i + 1)]
theorem lexAt_lexLe {α : Type} [DecidableEq α] (le : α → α → Bool) (d : α) : ∀ xs ys : List α,
    Ob.lexAt (fun j => decide (xs.getD j d = ys.getD j d)) (fun j => le (xs.getD j d) (ys.getD j d)) (decide (xs.length ≤ ys.length)) 0 (min xs.length ys.length) = lexLe le xs ys
  | [], _ => by simp [Ob.lexAt, lexLe]
  | _ :: _, [] => by simp [Ob.lexAt, lexLe]
  | x :: xs, y :: ys => by
    have e : min (x :: xs).length (y :: ys).length = min xs.length ys.length + 1 := by simp only [List.length_cons]; omega
    rw [e, Ob.lexAt_succ, lexAt_shift]
    have ih := lexAt_lexLe le d xs ys
    simp only [List.getD_cons_succ, List.getD_cons_zero, List.length_cons, Nat.add_le_add_iff_right] at ih ⊢
    rw [ih, lexLe]
    by_cases h : x = y <;> simp [h]
theorem eqv_P (p q : P) : PyData.eqv (Enc.enc (R := Rp2) p) (Enc.enc (R := Rp2) q) = decide (p = q) := by
  show PyData.eqv (.tuple [.int p.1, .int p.2]) (.tuple [.int q.1, .int q.2]) = _
  obtain ⟨a, b⟩ := p
  obtain ⟨c, d⟩ := q
  by_cases h1 : a = c <;> by_cases h2 : b = d <;> simp [PyData.eqv, PyData.eqvAll, h1, h2]
section
variable {A : Around} {s : Shared}
theorem reads_P {v : Value} {p : P} {as : List Addr} (r : Reads s.heap v (Enc.enc (R := Rp2) p) as) : ∃ a t1 t2, v = .ref a ∧ s.heap.IsTuple a #[.int p.1 t1, .int p.2 t2] := by
  cases r with
  | @tuple a o vs n _ _ h1 h2 h3 h4 =>
    obtain ⟨vl⟩ := vs
    cases h4 with
    | cons r1 t1 =>
      cases t1 with
      | cons r2 t2 =>
        cases t2
        cases r1
        cases r2
        exact ⟨a, _, _, rfl, o, h1, h2, n, h3⟩
theorem rcLe_P {v u : Value} {p q : P} {as bs : List Addr} (hu : A.units < cLine) (r1 : Reads s.heap v (Enc.enc (R := Rp2) p) as) (r2 : Reads s.heap u (Enc.enc (R := Rp2) q) bs) : Ob.RcOp .LtE A s v u (leP p q) := by
  obtain ⟨a, t1, t2, rfl, h1⟩ := reads_P r1
  obtain ⟨b, t3, t4, rfl, h2⟩ := reads_P r2
  have R := Ob.RcOp.tuples_le (A := A) (s := s) (e := fun j => decide ([p.1, p.2].getD j 0 = [q.1, q.2].getD j 0)) (r := fun j => decide ([p.1, p.2].getD j 0 ≤ [q.1, q.2].getD j 0)) h1 h2 hu
    (fun j j1 j2 => by
      have z : ∀ m n : Int, (m == n) = decide (m = n) := fun m n => by by_cases q : m = n <;> simp [q]
      match j, j1, j2 with
      | 0, _, _ => show SeqAt.EqAt _ _ (.int _ _) (.int _ _) (decide (p.1 = q.1)); rw [← z]; exact SeqAt.EqAt.int_int _ _ _ _
      | 1, _, _ => show SeqAt.EqAt _ _ (.int _ _) (.int _ _) (decide (p.2 = q.2)); rw [← z]; exact SeqAt.EqAt.int_int _ _ _ _
      | j + 2, j1, _ => simp at j1; omega)
    (fun j j1 j2 _ => by
      match j, j1, j2 with
      | 0, _, _ => exact Ob.RcOp.le_int _ _ _ _
      | 1, _, _ => exact Ob.RcOp.le_int _ _ _ _
      | j + 2, j1, _ => simp at j1; omega)
  have e := lexAt_lexLe (fun a b : Int => decide (a ≤ b)) 0 [p.1, p.2] [q.1, q.2]
  have e2 : lexLe (fun a b : Int => decide (a ≤ b)) [p.1, p.2] [q.1, q.2] = leP p q := by
    unfold leP
    simp only [lexLe]
    by_cases c1 : p.1 = q.1
    · by_cases c2 : p.2 = q.2
      · simp [c1, c2]
      · simp [c1, c2]
    · simp [c1]; omega
  rw [e2] at e
  have R' : Ob.RcOp .LtE A s (.ref a) (.ref b) (Ob.lexAt (fun j => decide ([p.1, p.2].getD j 0 = [q.1, q.2].getD j 0)) (fun j => decide ([p.1, p.2].getD j 0 ≤ [q.1, q.2].getD j 0)) (decide ([p.1, p.2].length ≤ [q.1, q.2].length)) 0 (min [p.1, p.2].length [q.1, q.2].length)) := R
  rw [e] at R'
  exact R'
theorem reads_at {α : Type} {R : Rp α} {i : Enc R} : ∀ {vs : List Value} {l : List α} {as : List Addr}, ReadsAll s.heap vs (l.map i.enc) as → ∀ j (h1 : j < vs.length) (h2 : j < l.length), ∃ bs, Reads s.heap vs[j] (i.enc l[j]) bs
  | _, [], _, .nil, j, h1, _ => absurd h1 (Nat.not_lt_zero _)
  | _, x :: l, _, .cons r t, 0, _, _ => ⟨_, r⟩
  | _, x :: l, _, .cons r t, j + 1, h1, h2 => by
    simp only [List.length_cons, Nat.add_lt_add_iff_right] at h1 h2
    exact reads_at t j h1 h2
theorem rcLe_Ld {v u : Value} {x y : Ld} {as bs : List Addr} (hu : A.units + 64 < cLine) (r1 : Reads s.heap v (Enc.enc (R := Rld) x) as) (r2 : Reads s.heap u (Enc.enc (R := Rld) y) bs) : Ob.RcOp .LtE A s v u (leLd x y) := by
  cases r1 with
  | @tuple a o vs n _ _ h1 h2 h3 h4 =>
    cases r2 with
    | @tuple b o' ws n' _ _ k1 k2 k3 k4 =>
      have n1 : vs.size = x.length := by have := SeqAt.ReadsAll.length _ _ _ h4; simpa using this
      have n2 : ws.size = y.length := by have := SeqAt.ReadsAll.length _ _ _ k4; simpa using this
      have R := Ob.RcOp.tuples_le (A := A) (s := s) (e := fun j => decide (x.getD j (0, 0) = y.getD j (0, 0))) (r := fun j => leP (x.getD j (0, 0)) (y.getD j (0, 0))) ⟨o, h1, h2, n, h3⟩ ⟨o', k1, k2, n', k3⟩ (by omega)
        (fun j j1 j2 => by
          have jx : j < x.length := by omega
          have jy : j < y.length := by omega
          obtain ⟨as', ra⟩ := reads_at (R := Rp2) (i := inferInstance) (s := s) h4 j (by rw [Array.length_toList]; exact j1) jx
          obtain ⟨bs', rb⟩ := reads_at (R := Rp2) (i := inferInstance) (s := s) k4 j (by rw [Array.length_toList]; exact j2) jy
          have := SeqAt.eqAt_reads _ _ A.in1 s _ _ _ _ ra rb (by show PyData.canLay0 (.tuple [.int _, .int _]) = true; simp [PyData.canLay0, PyData.canLayAll0]) (by show PyData.canLay0 (.tuple [.int _, .int _]) = true; simp [PyData.canLay0, PyData.canLayAll0])
            (by have := depth_pr x[j]; show A.units + 1 + min (PyData.depth (.tuple [.int _, .int _])) _ < cLine; omega)
          rw [eqv_P] at this
          rw [List.getD_eq_getElem?_getD, List.getElem?_eq_getElem jx, List.getD_eq_getElem?_getD, List.getElem?_eq_getElem jy]
          simpa using this)
        (fun j j1 j2 _ => by
          have jx : j < x.length := by omega
          have jy : j < y.length := by omega
          obtain ⟨as', ra⟩ := reads_at (R := Rp2) (i := inferInstance) (s := s) h4 j (by rw [Array.length_toList]; exact j1) jx
          obtain ⟨bs', rb⟩ := reads_at (R := Rp2) (i := inferInstance) (s := s) k4 j (by rw [Array.length_toList]; exact j2) jy
          have := rcLe_P (A := A.in1) (by show A.units + 1 < cLine; omega) ra rb
          rw [List.getD_eq_getElem?_getD, List.getElem?_eq_getElem jx, List.getD_eq_getElem?_getD, List.getElem?_eq_getElem jy]
          simpa using this)
      rw [n1, n2, lexAt_lexLe] at R
      exact R
end
section
variable {X : Cx}
def rLeLd : R2 := fun a b H Q => ∃ x y : Ld, Rld H a x ∧ Rld H b y ∧ Q (.bl (leLd x y)) H
theorem op_leLd (hu : X.A.units + 64 < cLine) : OpR X (compareOp .LtE) rLeLd := by
  intro pins s σ H x y v u Q I rx ry h
  obtain ⟨l, m, h1, h2, q⟩ := h
  obtain ⟨as, r1⟩ := Dp.reads I _ x v (Enc.dp (R := Rld) h1) rx
  obtain ⟨bs, r2⟩ := Dp.reads I _ y u (Enc.dp (R := Rld) h2) ry
  exact rcLe_Ld hu r1 r2 X.prog X.w X.xe (EP X pins σ Q) ⟨.bl _, H, I, rfl, q⟩
end
end Ct
/-! # The text's facts by name (printed by gentext.py) -/
namespace Ct
open PySem PySem.Spec PyProof.Rows L2 Evl
/-- a def of the module stands under its name -/
structure Dk (K : PySem.W.Frag) (mg : Str → Option Value) (x : Str) (st : Stmt) : Prop where
  ex : ∃ (f : Addr) (fd : FuncData), L2.Fun K x x st f fd ∧ mg x = some (.ref f)
/-- a def in a class -/
structure Mk' (K : PySem.W.Frag) (f : Addr) (x q : Str) (st : Stmt) : Prop where
  ex : ∃ (fd : FuncData), L2.Fun K x q st f fd
structure Txt (K : PySem.W.Frag) (mg : Str → Option Value) : Prop where
  n_isinstance : mg "isinstance" = none
  n_int : mg "int" = none
  n_bool : mg "bool" = none
  n_tuple : mg "tuple" = none
  n_len : mg "len" = none
  n_all : mg "all" = none
  n_range : mg "range" = none
  n_set : mg "set" = none
  n_sorted : mg "sorted" = none
  n_list : mg "list" = none
  n_min : mg "min" = none
  n_max : mg "max" = none
  n_abs : mg "abs" = none
  n_enumerate : mg "enumerate" = none
  n_zip : mg "zip" = none
  n_dict : mg "dict" = none
  n_str : mg "str" = none
  d_is_integer : Dk K mg "is_integer" s_is_integer
  d_within : Dk K mg "within" s_within
  d_is_pair : Dk K mg "is_pair" s_is_pair
  d_is_load : Dk K mg "is_load" s_is_load
  d_load_calls : Dk K mg "load_calls" s_load_calls
  d_doors_left : Dk K mg "doors_left" s_doors_left
  d_is_standing : Dk K mg "is_standing" s_is_standing
  d_need_standing : Dk K mg "need_standing" s_need_standing
  d_need_pair : Dk K mg "need_pair" s_need_pair
  d_need_doors : Dk K mg "need_doors" s_need_doors
  d_empty : Dk K mg "empty" s_empty
  d_fits : Dk K mg "fits" s_fits
  d_put : Dk K mg "put" s_put
  d_taken : Dk K mg "taken" s_taken
  d_replaced : Dk K mg "replaced" s_replaced
  d_fitting : Dk K mg "fitting" s_fitting
  d_open_pairs : Dk K mg "open_pairs" s_open_pairs
  d_as_shape : Dk K mg "as_shape" s_as_shape
  d_is_shape : Dk K mg "is_shape" s_is_shape
  d_all_loads : Dk K mg "all_loads" s_all_loads
  d_has_doors : Dk K mg "has_doors" s_has_doors
  d_without_doors : Dk K mg "without_doors" s_without_doors
  d_shapes_from : Dk K mg "shapes_from" s_shapes_from
  d_shapes_within : Dk K mg "shapes_within" s_shapes_within
  d_all_shapes : Dk K mg "all_shapes" s_all_shapes
  d_next_shapes : Dk K mg "next_shapes" s_next_shapes
  d_ends_of : Dk K mg "ends_of" s_ends_of
  d_checked_table : Dk K mg "checked_table" s_checked_table
  d_falling_move : Dk K mg "falling_move" s_falling_move
  d_calls_from : Dk K mg "calls_from" s_calls_from
  d_fallen : Dk K mg "fallen" s_fallen
  d_keeper : Dk K mg "keeper" s_keeper
  d_are_doors : Dk K mg "are_doors" s_are_doors
  d_same : Dk K mg "same" s_same
  d_after_load : Dk K mg "after_load" s_after_load
  d_fault_of_shape : Dk K mg "fault_of_shape" s_fault_of_shape
  d_keep_fault : Dk K mg "keep_fault" s_keep_fault
  d__law_flow : Dk K mg "_law_flow" s__law_flow
  d__law_pick : Dk K mg "_law_pick" s__law_pick
  d__law_same : Dk K mg "_law_same" s__law_same
  d__law_sides : Dk K mg "_law_sides" s__law_sides
  d__law_fits : Dk K mg "_law_fits" s__law_fits
  d__law_loads : Dk K mg "_law_loads" s__law_loads
  d__law_less : Dk K mg "_law_less" s__law_less
  d__law_shapes : Dk K mg "_law_shapes" s__law_shapes
  d__law_calls : Dk K mg "_law_calls" s__law_calls
  d__law_open : Dk K mg "_law_open" s__law_open
  d__law_swap : Dk K mg "_law_swap" s__law_swap
  d__law_nexts : Dk K mg "_law_nexts" s__law_nexts
  d__law_ends : Dk K mg "_law_ends" s__law_ends
  d__law_lost : Dk K mg "_law_lost" s__law_lost
  d__law_game : Dk K mg "_law_game" s__law_game
  d__law_whole : Dk K mg "_law_whole" s__law_whole
  d__law_places : Dk K mg "_law_places" s__law_places
  d__law_with : Dk K mg "_law_with" s__law_with
  d__law_without : Dk K mg "_law_without" s__law_without
  d__law_right_table : Dk K mg "_law_right_table" s__law_right_table
  d__law_deed : Dk K mg "_law_deed" s__law_deed
  d_law : Dk K mg "law" s_law
  i_MOST_SHAPES : ∃ t, mg "MOST_SHAPES" = some (.int 1000 t)
  i_MOST_SWITCHES : ∃ t, mg "MOST_SWITCHES" = some (.int 4 t)
  i_MOST_DOORS : ∃ t, mg "MOST_DOORS" = some (.int 4 t)
  i_MOST_MIDDLES : ∃ t, mg "MOST_MIDDLES" = some (.int 7 t)
  g_Exchange : mg "Exchange" = some (.ref (He.ga K "Exchange"))
  c_Exchange : Cls K (He.ga K "Exchange")
  k_Exchange : Mk K (He.ga K "Exchange") (He.ma K (He.ga K "Exchange") "__init__")
  g_Rule : mg "Rule" = some (.ref (He.ga K "Rule"))
  c_Rule : Cls K (He.ga K "Rule")
  k_Rule : Mk K (He.ga K "Rule") (He.ma K (He.ga K "Rule") "__init__")
  a_Exchange_ins : NoAttr K (He.ga K "Exchange") "ins"
  a_Exchange_outs : NoAttr K (He.ga K "Exchange") "outs"
  a_Exchange_middles : NoAttr K (He.ga K "Exchange") "middles"
  a_Rule_exchange : NoAttr K (He.ga K "Rule") "exchange"
  a_Rule_word : NoAttr K (He.ga K "Rule") "word"
  a_Rule_table : NoAttr K (He.ga K "Rule") "table"
  m_Rule_init : Mk' K (He.ma K (He.ga K "Rule") "__init__") "__init__" "Rule.__init__" s_Rule_init
  q_Rule_call : Meth K (He.ga K "Rule") "__call__" (He.ma K (He.ga K "Rule") "__call__")
  m_Rule_call : Mk' K (He.ma K (He.ga K "Rule") "__call__") "__call__" "Rule.__call__" s_Rule_call
  q_Rule_picked : Meth K (He.ga K "Rule") "picked" (He.ma K (He.ga K "Rule") "picked")
  m_Rule_picked : Mk' K (He.ma K (He.ga K "Rule") "picked") "picked" "Rule.picked" s_Rule_picked
  m_Exchange_init : Mk' K (He.ma K (He.ga K "Exchange") "__init__") "__init__" "Exchange.__init__" s_Exchange_init
  q_Exchange_pairs : Meth K (He.ga K "Exchange") "pairs" (He.ma K (He.ga K "Exchange") "pairs")
  m_Exchange_pairs : Mk' K (He.ma K (He.ga K "Exchange") "pairs") "pairs" "Exchange.pairs" s_Exchange_pairs
section
open CtHead
variable {K : PySem.W.Frag} {h : Heap} {mg : Str → Option Value}
theorem tx_fa (c : He5.SaysA fa fn K) : ∀ f ∈ fa, f.ok K = true := by
  have c1 := (He.ba (show ((fa.all fun f => f.ok K) && fn.all fun d => d.ok K) = true from congrArg (fun z : He.AlD => z.1) c)).1
  exact List.all_eq_true.mp c1
theorem tx_fn (c : He5.SaysA fa fn K) (i : Nat) {d : He5.DefA} (h : fn[i]? = some d := by rfl) : ∃ fd, L2.FunD K d.name d.qual d.params d.body d.scope (d.dvs K) (d.kws K) (d.at_ K) fd := by
  have c2 := (He.ba (show ((fa.all fun f => f.ok K) && fn.all fun d => d.ok K) = true from congrArg (fun z : He.AlD => z.1) c)).2
  have e : fn.map (fun d => He5.fnA K (d.at_ K)) = fn.map He5.DefA.val := congrArg (fun z : He.AlD => z.2) c
  have e2 : (fn.map fun d => He5.fnA K (d.at_ K))[i]? = (fn.map He5.DefA.val)[i]? := by rw [e]
  rw [List.getElem?_map, List.getElem?_map, h] at e2
  exact He5.DefA.funD (Option.some.inj e2) (List.all_eq_true.mp c2 d (List.mem_of_getElem? h))
theorem tx_dk (X : K.In h) (G : h.Ns mainGlobals mg) {x : Str} {st : Stmt} (c : (He.Fa.glo x).ok K = true) (e : ∃ fd, L2.FunD K x x (defArgs st) (defBody st) (defScope st) [] [] (He.ga K x) fd) : Dk K mg x st := by
  obtain ⟨fd, F⟩ := e
  exact ⟨_, fd, He5.fun_of F, He.glo_ok X G c⟩
theorem txt_of (X : K.In h) (G : h.Ns mainGlobals mg) (c : He5.SaysA fa fn K) : Txt K mg := by
  have c1 := tx_fa c
  have at_ : ∀ (i : Nat) {f : He.Fa}, fa[i]? = some f → f.ok K = true := fun i f hi => c1 f (List.mem_of_getElem? hi)
  exact {
    n_isinstance := He.free_ok X G (at_ 0 rfl),
    n_int := He.free_ok X G (at_ 1 rfl),
    n_bool := He.free_ok X G (at_ 2 rfl),
    n_tuple := He.free_ok X G (at_ 3 rfl),
    n_len := He.free_ok X G (at_ 4 rfl),
    n_all := He.free_ok X G (at_ 5 rfl),
    n_range := He.free_ok X G (at_ 6 rfl),
    n_set := He.free_ok X G (at_ 7 rfl),
    n_sorted := He.free_ok X G (at_ 8 rfl),
    n_list := He.free_ok X G (at_ 9 rfl),
    n_min := He.free_ok X G (at_ 10 rfl),
    n_max := He.free_ok X G (at_ 11 rfl),
    n_abs := He.free_ok X G (at_ 12 rfl),
    n_enumerate := He.free_ok X G (at_ 13 rfl),
    n_zip := He.free_ok X G (at_ 14 rfl),
    n_dict := He.free_ok X G (at_ 15 rfl),
    n_str := He.free_ok X G (at_ 16 rfl),
    d_is_integer := tx_dk X G (at_ 17 rfl) (tx_fn c 0),
    d_within := tx_dk X G (at_ 18 rfl) (tx_fn c 1),
    d_is_pair := tx_dk X G (at_ 19 rfl) (tx_fn c 2),
    d_is_load := tx_dk X G (at_ 20 rfl) (tx_fn c 3),
    d_load_calls := tx_dk X G (at_ 21 rfl) (tx_fn c 4),
    d_doors_left := tx_dk X G (at_ 22 rfl) (tx_fn c 5),
    d_is_standing := tx_dk X G (at_ 23 rfl) (tx_fn c 6),
    d_need_standing := tx_dk X G (at_ 24 rfl) (tx_fn c 7),
    d_need_pair := tx_dk X G (at_ 25 rfl) (tx_fn c 8),
    d_need_doors := tx_dk X G (at_ 26 rfl) (tx_fn c 9),
    d_empty := tx_dk X G (at_ 27 rfl) (tx_fn c 10),
    d_fits := tx_dk X G (at_ 28 rfl) (tx_fn c 11),
    d_put := tx_dk X G (at_ 29 rfl) (tx_fn c 12),
    d_taken := tx_dk X G (at_ 30 rfl) (tx_fn c 13),
    d_replaced := tx_dk X G (at_ 31 rfl) (tx_fn c 14),
    d_fitting := tx_dk X G (at_ 32 rfl) (tx_fn c 15),
    d_open_pairs := tx_dk X G (at_ 33 rfl) (tx_fn c 16),
    d_as_shape := tx_dk X G (at_ 34 rfl) (tx_fn c 17),
    d_is_shape := tx_dk X G (at_ 35 rfl) (tx_fn c 18),
    d_all_loads := tx_dk X G (at_ 36 rfl) (tx_fn c 19),
    d_has_doors := tx_dk X G (at_ 37 rfl) (tx_fn c 20),
    d_without_doors := tx_dk X G (at_ 38 rfl) (tx_fn c 21),
    d_shapes_from := tx_dk X G (at_ 39 rfl) (tx_fn c 22),
    d_shapes_within := tx_dk X G (at_ 40 rfl) (tx_fn c 23),
    d_all_shapes := tx_dk X G (at_ 41 rfl) (tx_fn c 24),
    d_next_shapes := tx_dk X G (at_ 42 rfl) (tx_fn c 25),
    d_ends_of := tx_dk X G (at_ 43 rfl) (tx_fn c 26),
    d_checked_table := tx_dk X G (at_ 44 rfl) (tx_fn c 27),
    d_falling_move := tx_dk X G (at_ 45 rfl) (tx_fn c 28),
    d_calls_from := tx_dk X G (at_ 46 rfl) (tx_fn c 29),
    d_fallen := tx_dk X G (at_ 47 rfl) (tx_fn c 30),
    d_keeper := tx_dk X G (at_ 48 rfl) (tx_fn c 31),
    d_are_doors := tx_dk X G (at_ 49 rfl) (tx_fn c 32),
    d_same := tx_dk X G (at_ 50 rfl) (tx_fn c 33),
    d_after_load := tx_dk X G (at_ 51 rfl) (tx_fn c 34),
    d_fault_of_shape := tx_dk X G (at_ 52 rfl) (tx_fn c 35),
    d_keep_fault := tx_dk X G (at_ 53 rfl) (tx_fn c 36),
    d__law_flow := tx_dk X G (at_ 54 rfl) (tx_fn c 37),
    d__law_pick := tx_dk X G (at_ 55 rfl) (tx_fn c 38),
    d__law_same := tx_dk X G (at_ 56 rfl) (tx_fn c 39),
    d__law_sides := tx_dk X G (at_ 57 rfl) (tx_fn c 40),
    d__law_fits := tx_dk X G (at_ 58 rfl) (tx_fn c 41),
    d__law_loads := tx_dk X G (at_ 59 rfl) (tx_fn c 42),
    d__law_less := tx_dk X G (at_ 60 rfl) (tx_fn c 43),
    d__law_shapes := tx_dk X G (at_ 61 rfl) (tx_fn c 44),
    d__law_calls := tx_dk X G (at_ 62 rfl) (tx_fn c 45),
    d__law_open := tx_dk X G (at_ 63 rfl) (tx_fn c 46),
    d__law_swap := tx_dk X G (at_ 64 rfl) (tx_fn c 47),
    d__law_nexts := tx_dk X G (at_ 65 rfl) (tx_fn c 48),
    d__law_ends := tx_dk X G (at_ 66 rfl) (tx_fn c 49),
    d__law_lost := tx_dk X G (at_ 67 rfl) (tx_fn c 50),
    d__law_game := tx_dk X G (at_ 68 rfl) (tx_fn c 51),
    d__law_whole := tx_dk X G (at_ 69 rfl) (tx_fn c 52),
    d__law_places := tx_dk X G (at_ 70 rfl) (tx_fn c 53),
    d__law_with := tx_dk X G (at_ 71 rfl) (tx_fn c 54),
    d__law_without := tx_dk X G (at_ 72 rfl) (tx_fn c 55),
    d__law_right_table := tx_dk X G (at_ 73 rfl) (tx_fn c 56),
    d__law_deed := tx_dk X G (at_ 74 rfl) (tx_fn c 57),
    d_law := tx_dk X G (at_ 75 rfl) (tx_fn c 58),
    i_MOST_SHAPES := He.int_ok X G (at_ 78 rfl),
    i_MOST_SWITCHES := He.int_ok X G (at_ 79 rfl),
    i_MOST_DOORS := He.int_ok X G (at_ 80 rfl),
    i_MOST_MIDDLES := He.int_ok X G (at_ 81 rfl),
    g_Exchange := He.glo_ok X G (at_ 76 rfl),
    c_Exchange := He.cls_ok (at_ 82 rfl),
    k_Exchange := He.mkr_ok (at_ 84 rfl),
    g_Rule := He.glo_ok X G (at_ 77 rfl),
    c_Rule := He.cls_ok (at_ 83 rfl),
    k_Rule := He.mkr_ok (at_ 85 rfl),
    a_Exchange_ins := He.noat_ok (at_ 86 rfl),
    a_Exchange_outs := He.noat_ok (at_ 87 rfl),
    a_Exchange_middles := He.noat_ok (at_ 88 rfl),
    a_Rule_exchange := He.noat_ok (at_ 89 rfl),
    a_Rule_word := He.noat_ok (at_ 90 rfl),
    a_Rule_table := He.noat_ok (at_ 91 rfl),
    m_Rule_init := ⟨(tx_fn c 59).imp fun fd F => He5.fun_of F⟩,
    q_Rule_call := He.meth_ok (at_ 94 rfl),
    m_Rule_call := ⟨(tx_fn c 60).imp fun fd F => He5.fun_of F⟩,
    q_Rule_picked := He.meth_ok (at_ 93 rfl),
    m_Rule_picked := ⟨(tx_fn c 61).imp fun fd F => He5.fun_of F⟩,
    m_Exchange_init := ⟨(tx_fn c 62).imp fun fd F => He5.fun_of F⟩,
    q_Exchange_pairs := He.meth_ok (at_ 92 rfl),
    m_Exchange_pairs := ⟨(tx_fn c 63).imp fun fd F => He5.fun_of F⟩ }
end
end Ct
/-! # A def's promise from its body -/
namespace Ct
open PySem PySem.Spec PyProof.Rows L2 Evl
section
variable {P : Program} {w : World} {K : PySem.W.Frag} {mg : Str → Option Value} {base : Heap}
/-- the promises' form here -/
abbrev Cal (P : Program) (w : World) (K : PySem.W.Frag) (mg : Str → Option Value) (base : Heap) (k : Nat) (x : Str) (sp : Sp) : Prop := C8.Cal P w K mg base k x sp []
theorem cal_of {x : Str} {st : Stmt} {N ps : List Str} {k : Nat} {sp : Sp} (d : Dk K mg x st)
    (hb : ∀ (kV doc pm : Value) (an : Option Addr) (cdv ct : Value) (us : List Value), us.length = ps.length → bindArgs (PySem.W.fnOf x x (defArgs st) (defBody st) (defScope st) .none kV doc pm an cdv ct) ⟨us, []⟩ = pure (ps.zip us))
    (S : FnScope N ps (defScope st)) (len : ∀ vs H Q E, sp vs H Q E → vs.length = ps.length)
    (hbody : ∀ (cdv : Value) (f : Addr) (A : Around) (outer : List Env) (s : Shared) (H : Hp) (vs : List V) (Q : VK) (E : XK), Room k (A.deeper (envOfC x (defScope st) s.heap.objs.size f cdv)) → sp vs H Q E →
      ∃ t, PSs (cxOf CX0 P w K mg base N x (defScope st) f cdv A outer s H E).nox (defBody st) t ∧ t { nx := fun _ H' => Q .non H', rt := Q } (start N vs) H) : Cal P w K mg base (k + 1) x sp := by
  obtain ⟨f, fd, F, hm⟩ := d.ex
  exact ⟨f, fd, ps, [], F.ok S len (fun cdv => hbody cdv f), hm, F.kp, F.binds hb, .nil⟩
theorem met_of {x q : Str} {st : Stmt} {C f0 : Addr} {N ps : List Str} {k : Nat} {sp : Sp} (c : Cls K C) (me : Meth K C x f0) (d : Mk' K f0 x q st)
    (hb : ∀ (kV doc pm : Value) (an : Option Addr) (cdv ct : Value) (us : List Value), us.length = ps.length → bindArgs (PySem.W.fnOf x q (defArgs st) (defBody st) (defScope st) .none kV doc pm an cdv ct) ⟨us, []⟩ = pure (ps.zip us))
    (S : FnScope N ps (defScope st)) (len : ∀ vs H Q E, sp vs H Q E → vs.length = ps.length)
    (hbody : ∀ (cdv : Value) (f : Addr) (A : Around) (outer : List Env) (s : Shared) (H : Hp) (vs : List V) (Q : VK) (E : XK), Room k (A.deeper (envOfC q (defScope st) s.heap.objs.size f cdv)) → sp vs H Q E →
      ∃ t, PSs (cxOf CX0 P w K mg base N q (defScope st) f cdv A outer s H E).nox (defBody st) t ∧ t { nx := fun _ H' => Q .non H', rt := Q } (start N vs) H) : C8.Met P w K mg base (k + 1) C x sp [] := by
  obtain ⟨fd, F⟩ := d.ex
  exact ⟨f0, fd, ps, [], c, me, F.ok S len (fun cdv => hbody cdv f0), F.binds hb, .nil⟩
theorem mak_of {x q : Str} {st : Stmt} {C f0 : Addr} {N ps : List Str} {k : Nat} {sp : Sp} (M : Mk K C f0) (hm : mg x = some (.ref C)) (d : Mk' K f0 "__init__" q st)
    (hb : ∀ (kV doc pm : Value) (an : Option Addr) (cdv ct : Value) (us : List Value), us.length = ps.length → bindArgs (PySem.W.fnOf "__init__" q (defArgs st) (defBody st) (defScope st) .none kV doc pm an cdv ct) ⟨us, []⟩ = pure (ps.zip us))
    (S : FnScope N ps (defScope st)) (len : ∀ vs H Q E, sp vs H Q E → vs.length = ps.length)
    (hbody : ∀ (cdv : Value) (f : Addr) (A : Around) (outer : List Env) (s : Shared) (H : Hp) (vs : List V) (Q : VK) (E : XK), Room k (A.deeper (envOfC q (defScope st) s.heap.objs.size f cdv)) → sp vs H Q E →
      ∃ t, PSs (cxOf CX0 P w K mg base N q (defScope st) f cdv A outer s H E).nox (defBody st) t ∧ t { nx := fun _ H' => Q .non H', rt := Q } (start N vs) H) : C8.Mak P w K mg base (k + 1) x C sp [] := by
  obtain ⟨fd, F⟩ := d.ex
  exact ⟨f0, fd, ps, [], M, F.ok S len (fun cdv => hbody cdv f0), hm, F.binds hb, .nil⟩
end
theorem Sp1.len' {α δ : Type} {R : Rp α} {U : Rp δ} {pre : α → Prop} {f : α → δ} {n : Nat} (hn : n = 1) : ∀ vs H Q E, Sp1 R U pre f vs H Q E → vs.length = n := fun _ _ _ _ ⟨_, _, h, _⟩ => by rw [h, hn]; rfl
end Ct
/-! # What each form of expression evaluates to, told as data -/
namespace Ct
open PySem PySem.Spec PyProof.Rows L2 Evl
section
variable {α β γ δ : Type} {K : PySem.W.Frag} {te ta tb tc : TE} {tr : TA} {tt : TT} {σ : L2.St} {H H' : Hp} {R : Rp α} {S : Rp β} {T : Rp γ} {x : α} {y : β} {z : γ} {v : V} {l m : List α}
/-! ### isinstance -/
class TyR (R : Rp α) (t : outParam String) : Prop where
  ty : ∀ {K : PySem.W.Frag} {H : Hp} {v : V} {x : α}, R H v x → TyX K H v (.type t)
instance : TyR Ri "int" := ⟨fun h => by cases h; exact .base (.int _)⟩
instance : TyR Rb "bool" := ⟨fun h => by cases h; exact .base (.bl _)⟩
instance : TyR Rnon "NoneType" := ⟨fun h => by cases h; exact .base .non⟩
instance : TyR (Rtup R) "tuple" := ⟨fun ⟨a, xs, h, e, _⟩ => by rw [h]; exact .base (.tup e)⟩
instance : TyR (Rlst R) "list" := ⟨fun ⟨a, xs, h, e, _⟩ => by rw [h]; exact .base (.lst e)⟩
instance : TyR (Rpr R S) "tuple" := ⟨fun ⟨a, u, w, h, e, _⟩ => by rw [h]; exact .base (.tup e)⟩
instance : TyR (Rtr R S T) "tuple" := ⟨fun ⟨a, u, w, z, h, e, _⟩ => by rw [h]; exact .base (.tup e)⟩
theorem et_isi {t u : String} {b : Bool} [i : TyR R t] (h : ET ta σ H R x) (hb : PySem.W.kitOne K (.type t) (.type u) = some b) : ET (tCB (rIsi K) (tCons ta (tCons (tC (.ty u)) tNil))) σ H Rb b := fun H1 e Q q =>
  h H1 e _ fun v H2 e2 r => ⟨v, .ty u, .type t, .type u, b, rfl, .ty u, i.ty r, hb, q _ H2 e2 rfl⟩
/-! ### len -/
theorem et_len (h : ET ta σ H (Rtup R) l) : ET (tCB (rLenS K) (tCons ta tNil)) σ H Ri (l.length : Int) := fun H1 e Q q =>
  h H1 e _ fun v H2 e2 ⟨a, xs, hv, ha, hx⟩ => ⟨a, xs, by rw [hv], .inr (st_of ha), q _ H2 e2 (by rw [pr_len hx]; rfl)⟩
theorem et_lenL (h : ET ta σ H (Rlst R) l) : ET (tCB (rLenS K) (tCons ta tNil)) σ H Ri (l.length : Int) := fun H1 e Q q =>
  h H1 e _ fun v H2 e2 ⟨a, xs, hv, ha, hx⟩ => ⟨a, xs, by rw [hv], .inl (sq_of ha), q _ H2 e2 (by rw [pr_len hx]; rfl)⟩
theorem et_len2 {p : α × β} (h : ET ta σ H (Rpr R S) p) : ET (tCB (rLenS K) (tCons ta tNil)) σ H Ri 2 := fun H1 e Q q =>
  h H1 e _ fun v H2 e2 ⟨a, u, w, hv, ha, _⟩ => ⟨a, [u, w], by rw [hv], .inr (st_of ha), q _ H2 e2 rfl⟩
/-! ### items -/
theorem atI_pr {F : V → α → Prop} {xs : List V} {l : List α} {i : Int} {x : α} (h : Paired F xs l) (e : atI l i = some x) : ∃ v, atI xs i = some v ∧ F v x := by
  unfold atI at e ⊢
  rw [pr_len h]
  cases hj : ixN l.length i with
  | none => rw [hj] at e; cases e
  | some j =>
    rw [hj] at e
    exact pr_get' h e
theorem atI_of {i : Nat} (h : l[i]? = some x) : atI l (i : Int) = some x := by
  have hi : i < l.length := (List.getElem?_eq_some_iff.mp h).1
  unfold atI
  rw [ixN_nat hi]
  exact h
theorem atI_last (h : l.getLast? = some x) : atI l (-1) = some x := by
  cases l with
  | nil => cases h
  | cons a r =>
    rw [List.getLast?_eq_getElem?] at h
    unfold atI ixN
    rw [if_neg (by omega), if_pos (by simp only [List.length_cons]; omega)]
    simp only [Option.bind_some]
    have e : ((-1 : Int) + ((a :: r).length : Int)).toNat = (a :: r).length - 1 := by simp only [List.length_cons]; omega
    rw [e]
    exact h

theorem et_ixT {i : Int} [Mon R] (ha : ET ta σ H (Rtup R) l) (hb : ET tb σ H Ri i) (h : atI l i = some x) : ET (tOp (rIxT K) ta tb) σ H R x := fun H1 e Q q =>
  ha H1 e _ fun v H2 e2 ⟨a, xs, hv, ha, hx⟩ => hb H2 (e.trans e2) _ fun w H3 e3 hw => by
    cases hw
    obtain ⟨u, hu, ru⟩ := atI_pr hx h
    exact ⟨a, xs, i, u, hv, rfl, st_of (e3 _ _ ha), hu, q u H3 (e2.trans e3) (up e3 ru)⟩
theorem et_ixL {i : Int} [Mon R] (ha : ET ta σ H (Rlst R) l) (hb : ET tb σ H Ri i) (h : atI l i = some x) : ET (tOp (rIxL K) ta tb) σ H R x := fun H1 e Q q =>
  ha H1 e _ fun v H2 e2 ⟨a, xs, hv, ha, hx⟩ => hb H2 (e.trans e2) _ fun w H3 e3 hw => by
    cases hw
    obtain ⟨u, hu, ru⟩ := atI_pr hx h
    exact ⟨a, xs, i, u, hv, rfl, sq_of (e3 _ _ ha), hu, q u H3 (e2.trans e3) (up e3 ru)⟩
theorem et_p0 {p : α × β} (ha : ET ta σ H (Rpr R S) p) : ET (tOp (rIxT K) ta (tC (.int 0))) σ H R p.1 := fun H1 e Q q =>
  ha H1 e _ fun v H2 e2 ⟨a, u, w, hv, ha, h1, h2⟩ => ⟨a, [u, w], 0, u, hv, rfl, st_of ha, rfl, q u H2 e2 h1⟩
theorem et_p1 {p : α × β} (ha : ET ta σ H (Rpr R S) p) : ET (tOp (rIxT K) ta (tC (.int 1))) σ H S p.2 := fun H1 e Q q =>
  ha H1 e _ fun v H2 e2 ⟨a, u, w, hv, ha, h1, h2⟩ => ⟨a, [u, w], 1, w, hv, rfl, st_of ha, rfl, q w H2 e2 h2⟩
theorem et_t0 {p : α × β × γ} (ha : ET ta σ H (Rtr R S T) p) : ET (tOp (rIxT K) ta (tC (.int 0))) σ H R p.1 := fun H1 e Q q =>
  ha H1 e _ fun v H2 e2 ⟨a, u, w, z, hv, ha, h1, h2, h3⟩ => ⟨a, [u, w, z], 0, u, hv, rfl, st_of ha, rfl, q u H2 e2 h1⟩
theorem et_t1 {p : α × β × γ} (ha : ET ta σ H (Rtr R S T) p) : ET (tOp (rIxT K) ta (tC (.int 1))) σ H S p.2.1 := fun H1 e Q q =>
  ha H1 e _ fun v H2 e2 ⟨a, u, w, z, hv, ha, h1, h2, h3⟩ => ⟨a, [u, w, z], 1, w, hv, rfl, st_of ha, rfl, q w H2 e2 h2⟩
theorem et_t2 {p : α × β × γ} (ha : ET ta σ H (Rtr R S T) p) : ET (tOp (rIxT K) ta (tC (.int 2))) σ H T p.2.2 := fun H1 e Q q =>
  ha H1 e _ fun v H2 e2 ⟨a, u, w, z, hv, ha, h1, h2, h3⟩ => ⟨a, [u, w, z], 2, z, hv, rfl, st_of ha, rfl, q z H2 e2 h3⟩
/-! ### slices -/
def cutA {α : Type} (xs : List α) (lo hi : Option Int) : List α := (xs.drop (HT.sIx xs.length 0 lo)).take (HT.sIx xs.length xs.length hi - HT.sIx xs.length 0 lo)
theorem cutA_pr {F : V → α → Prop} {xs : List V} {l : List α} {lo hi : Option Int} (h : Paired F xs l) : Paired F (cutV xs lo hi) (cutA l lo hi) := by
  unfold cutV cutA
  rw [pr_len h]
  exact pr_take _ (pr_drop _ h)
theorem cutA_to (k : Nat) : cutA l none (some (k : Int)) = l.take k := by
  unfold cutA
  rw [HT.sIx_none, HT.sIx_nat, List.drop_zero, Nat.sub_zero, Nat.min_def]
  split
  · rfl
  · rename_i h
    rw [List.take_of_length_le (Nat.le_refl _), List.take_of_length_le (by omega)]
theorem cutA_from (k : Nat) : cutA l (some (k : Int)) none = l.drop k := by
  unfold cutA
  rw [HT.sIx_none, HT.sIx_nat]
  by_cases h : k ≤ l.length
  · rw [Nat.min_eq_left h, List.take_of_length_le (by rw [List.length_drop]; omega)]
  · rw [Nat.min_eq_right (by omega), List.drop_eq_nil_of_le (Nat.le_refl _), List.drop_eq_nil_of_le (by omega), List.take_nil]
def EO (to : TO) (σ : L2.St) (H : Hp) (o : Option Int) : Prop := EvO to σ H o
theorem eo_to {k : Int} (h : ET te σ H Ri k) : EvO (tPart te) σ H (some k) := eo_some (ev_i h)
theorem et_slT {lo hi : Option Int} {tl th : TO} [Mon R] (ha : ET ta σ H (Rtup R) l) (hl : EvO tl σ H lo) (hh : EvO th σ H hi) : ET (tSl (rSlA K) ta tl th) σ H (Rtup R) (cutA l lo hi) := fun H1 e Q q =>
  ha H1 e _ fun v H2 e2 ⟨a, xs, hv, ha, hx⟩ => hl H2 (e.trans e2) _ fun H3 e3 => hh H3 ((e.trans e2).trans e3) _ fun H4 e4 => by
    have e24 := e3.trans e4
    refine ⟨a, xs, hv, st_of (e24 _ _ ha), fun hw => q _ H4 (e2.trans e24) ?_, fun _ p hp => q _ _ ((e2.trans e24).trans (Ex.new hp)) ⟨p, _, rfl, upd_same, cutA_pr (pup (e24.trans (Ex.new hp)) hx)⟩⟩
    refine ⟨a, xs, rfl, e24 _ _ ha, ?_⟩
    have := cutA_pr (lo := lo) (hi := hi) (pup e24 hx)
    unfold cutV at this
    rw [hw.1, hw.2, List.drop_zero, Nat.sub_zero, List.take_length] at this
    exact this
theorem el_slL {lo hi : Option Int} {tl th : TO} [Mon R] (ha : ET ta σ H (Rlst R) l) (hl : EvO tl σ H lo) (hh : EvO th σ H hi) : EL (tSl (rSlL K) ta tl th) σ H R (cutA l lo hi) := fun H1 e Q q =>
  ha H1 e _ fun v H2 e2 ⟨a, xs, hv, ha, hx⟩ => hl H2 (e.trans e2) _ fun H3 e3 => hh H3 ((e.trans e2).trans e3) _ fun H4 e4 =>
    ⟨a, xs, hv, sq_of ((e3.trans e4) _ _ ha), fun p hp => q p _ _ (fresh_back (e2.trans (e3.trans e4)) hp) ((e2.trans (e3.trans e4)).trans (Ex.new hp)) upd_same (cutA_pr (pup ((e3.trans e4).trans (Ex.new hp)) hx))⟩
theorem el_revL [Mon R] (ha : ET ta σ H (Rlst R) l) : EL (tRevL K ta) σ H R l.reverse := fun H1 e Q q =>
  ha H1 e _ fun v H2 e2 ⟨a, xs, hv, ha, hx⟩ => ⟨a, xs, hv, sq_of ha, fun p hp => q p _ _ (fresh_back e2 hp) (e2.trans (Ex.new hp)) upd_same (pr_rev (pup (Ex.new hp) hx))⟩
/-! ### + -/
theorem et_catT [Mon R] (ha : ET ta σ H (Rtup R) l) (hb : ET tb σ H (Rtup R) m) (hz : l.length + m.length ≤ 1000000) : ET (tOp (rCatA K) ta tb) σ H (Rtup R) (l ++ m) := fun H1 e Q q =>
  ha H1 e _ fun v H2 e2 ⟨a, xs, hv, ha, hx⟩ => hb H2 (e.trans e2) _ fun w H3 e3 ⟨b, ys, hw, hb, hy⟩ => by
    have n1 := pr_len hx
    have n2 := pr_len hy
    refine ⟨a, b, xs, ys, hv, hw, st_of (e3 _ _ ha), st_of hb, Nat.le_trans (by omega : xs.length + ys.length ≤ 1000000) (by decide), fun z => ?_, fun _ z => ?_, fun _ _ p hp => ?_⟩
    · subst z; cases hx
      exact q _ H3 (e2.trans e3) ⟨b, ys, rfl, hb, hy⟩
    · subst z; cases hy
      rw [List.append_nil] at q
      exact q _ H3 (e2.trans e3) ⟨a, xs, rfl, e3 _ _ ha, pup e3 hx⟩
    · exact q _ _ ((e2.trans e3).trans (Ex.new hp)) ⟨p, _, rfl, upd_same, pr_app (pup (e3.trans (Ex.new hp)) hx) (pup (Ex.new hp) hy)⟩
theorem el_catL [Mon R] (ha : ET ta σ H (Rlst R) l) (hb : ET tb σ H (Rlst R) m) (hz : l.length + m.length ≤ 1000000) : EL (tOp rCat ta tb) σ H R (l ++ m) := fun H1 e Q q =>
  ha H1 e _ fun v H2 e2 ⟨a, xs, hv, ha, hx⟩ => hb H2 (e.trans e2) _ fun w H3 e3 ⟨b, ys, hw, hb, hy⟩ => by
    have n1 := pr_len hx
    have n2 := pr_len hy
    exact ⟨a, b, xs, ys, hv, hw, e3 _ _ ha, hb, Nat.le_trans (by omega : xs.length + ys.length ≤ 1000000) (by decide), fun p hp => q p _ _ (fresh_back (e2.trans e3) hp) ((e2.trans e3).trans (Ex.new hp)) upd_same (pr_app (pup (e3.trans (Ex.new hp)) hx) (pup (Ex.new hp) hy))⟩
/-! ### list(..), tuple(..) -/
def rTupS (K : PySem.W.Frag) : List V → Hp → VK → Prop := fun xs H Q => ∃ p ys, xs = [.ref p] ∧ ((SqL K H p ys ∧ ∀ l, H l = none → Q (.ref l) (upd H l (.tup ys))) ∨ (SqT K H p ys ∧ Q (.ref p) H))
theorem el_listT [Mon R] (ha : ET ta σ H (Rtup R) l) : EL (tCB (rListS K) (tCons ta tNil)) σ H R l := fun H1 e Q q =>
  ha H1 e _ fun v H2 e2 ⟨a, xs, hv, ha, hx⟩ => ⟨a, xs, by rw [hv], .inr (st_of ha), fun p hp => q p _ _ (fresh_back e2 hp) (e2.trans (Ex.new hp)) upd_same (pup (Ex.new hp) hx)⟩
theorem el_listL [Mon R] (ha : ET ta σ H (Rlst R) l) : EL (tCB (rListS K) (tCons ta tNil)) σ H R l := fun H1 e Q q =>
  ha H1 e _ fun v H2 e2 ⟨a, xs, hv, ha, hx⟩ => ⟨a, xs, by rw [hv], .inl (sq_of ha), fun p hp => q p _ _ (fresh_back e2 hp) (e2.trans (Ex.new hp)) upd_same (pup (Ex.new hp) hx)⟩
theorem eu_tupL [Mon R] (ha : ET ta σ H (Rlst R) l) : EU (tCB (rTupS K) (tCons ta tNil)) σ H R l := fun H1 e Q q =>
  ha H1 e _ fun v H2 e2 ⟨a, xs, hv, ha, hx⟩ => ⟨a, xs, by rw [hv], .inl ⟨sq_of ha, fun p hp => q p _ _ (fresh_back e2 hp) (e2.trans (Ex.new hp)) upd_same (pup (Ex.new hp) hx)⟩⟩
theorem et_tupL [Mon R] (ha : ET ta σ H (Rlst R) l) : ET (tCB (rTupS K) (tCons ta tNil)) σ H (Rtup R) l := (eu_tupL ha).et
/-! ### min, all -/
def minI : List Int → Int
  | [] => 0
  | [x] => x
  | x :: y :: r => if x ≤ minI (y :: r) then x else minI (y :: r)
theorem minI_mem : ∀ {l : List Int}, l ≠ [] → minI l ∈ l
  | [], h => absurd rfl h
  | [x], _ => by simp [minI]
  | x :: y :: r, _ => by
    rw [minI]
    split
    · exact List.mem_cons_self ..
    · exact List.mem_cons_of_mem _ (minI_mem (List.cons_ne_nil _ _))
theorem minI_le : ∀ {l : List Int} {z : Int}, z ∈ l → minI l ≤ z
  | [], _, h => by cases h
  | [x], z, h => by rw [List.mem_singleton.mp h]; exact Int.le_refl _
  | x :: y :: r, z, h => by
    rw [minI]
    rcases List.mem_cons.mp h with rfl | h
    · split
      · exact Int.le_refl _
      · omega
    · have := minI_le h
      split <;> omega
theorem et_min {ns : List Int} (ha : ET ta σ H (Rlst Ri) ns) (hne : ns ≠ []) : ET (tCB (rMin K) (tCons ta tNil)) σ H Ri (minI ns) := fun H1 e Q q =>
  ha H1 e _ fun v H2 e2 ⟨a, xs, hv, ha, hx⟩ => ⟨a, ns, by rw [hv], by rw [← pr_ints hx]; exact sq_of ha, List.length_pos_iff.mpr hne, fun m hm hle => q _ H2 e2 (by
    have h1 := minI_le hm
    have h2 := hle _ (minI_mem hne)
    show V.int m = V.int (minI ns)
    rw [show m = minI ns by omega])⟩
theorem pr_bools : ∀ {xs : List V} {l : List Bool} {H : Hp}, Paired (Rb H) xs l → xs = l.map V.bl
  | _, _, _, .nil => rfl
  | _, _, _, .cons r t => by
    cases r
    rw [List.map_cons, pr_bools t]
theorem et_all {bs : List Bool} (ha : ET ta σ H (Rlst Rb) bs) : ET (tCB (rAll K) (tCons ta tNil)) σ H Rb (bs.all id) := fun H1 e Q q =>
  ha H1 e _ fun v H2 e2 ⟨a, xs, hv, ha, hx⟩ => ⟨a, bs, by rw [hv], by rw [← pr_bools hx]; exact sq_of ha, q _ H2 e2 rfl⟩
/-! ### ==, in: of data -/
class EncI (R : Rp α) [Enc R] [DecidableEq α] : Prop where
  eqv : ∀ x y : α, PyData.eqv (Enc.enc (R := R) x) (Enc.enc (R := R) y) = decide (x = y)
  lay : ∀ x : α, (Enc.enc (R := R) x).canLay0 = true
  dep : ∀ x : α, (Enc.enc (R := R) x).depth ≤ 40
theorem EncI.shaped [i : Enc R] [d : DecidableEq α] [n : EncI R] (x : α) : SeqAt.shaped (Enc.enc (R := R) x) = true := by
  unfold SeqAt.shaped
  rw [n.lay, Bool.true_and]
  exact decide_eq_true (Nat.le_trans (n.dep x) (by decide))
section
variable [i : Enc R] [d : DecidableEq α] [n : EncI R] {w : α}
theorem et_eqD [Mon R] (ha : ET ta σ H R x) (hb : ET tb σ H R w) : ET (tOp (rEqD K) ta tb) σ H Rb (decide (x = w)) := et_op ha hb fun H1 v u e r1 r2 Q q => ⟨_, _, i.dp r1, i.dp r2, n.shaped _, n.shaped _, by rw [n.eqv]; exact q _ _ (Ex.refl _) rfl⟩
theorem et_neD [Mon R] (ha : ET ta σ H R x) (hb : ET tb σ H R w) : ET (tOp (rNeD K) ta tb) σ H Rb (!decide (x = w)) := et_op ha hb fun H1 v u e r1 r2 Q q => ⟨_, _, i.dp r1, i.dp r2, n.shaped _, n.shaped _, by rw [n.eqv]; exact q _ _ (Ex.refl _) rfl⟩
theorem any_eqv (l : List α) (x : α) : ((l.map (Enc.enc (R := R))).any fun z => PyData.eqv z (Enc.enc (R := R) x)) = decide (x ∈ l) := by
  induction l with
  | nil => simp
  | cons a r ih =>
    rw [List.map_cons, List.any_cons, ih, n.eqv]
    by_cases h : a = x
    · simp [h]
    · have h' : ¬ x = a := fun e => h e.symm
      simp [h, h']

theorem layAll_map : ∀ l : List α, PyData.canLayAll0 (l.map (Enc.enc (R := R))) = true
  | [] => rfl
  | a :: r => by
    rw [List.map_cons, PyData.canLayAll0, n.lay, layAll_map r]; rfl
theorem depAll_map : ∀ l : List α, PyData.depthAll (l.map (Enc.enc (R := R))) ≤ 40
  | [] => by simp [PyData.depthAll]
  | a :: r => by
    rw [List.map_cons, PyData.depthAll]
    exact Nat.max_le.mpr ⟨n.dep a, depAll_map r⟩
theorem shaped_list (l : List α) : SeqAt.shaped (.list (l.map (Enc.enc (R := R)))) = true := by
  unfold SeqAt.shaped
  rw [PyData.canLay0, layAll_map l, Bool.true_and, PyData.depth]
  have := depAll_map (R := R) l
  exact decide_eq_true (by omega)
theorem et_inD [Mon R] (ha : ET ta σ H R x) (hb : ET tb σ H (Rlst R) l) : ET (tOp (rInD K) ta tb) σ H Rb (decide (x ∈ l)) := et_op ha hb fun H1 v u e r1 ⟨a, xs, hv, ha, hx⟩ Q q =>
  ⟨_, l.map i.enc, i.dp r1, by rw [hv]; exact .lst (sq_of ha) (dpAll_of i hx), n.shaped _, shaped_list l, by rw [any_eqv]; exact q _ _ (Ex.refl _) rfl⟩
theorem et_ninD [Mon R] (ha : ET ta σ H R x) (hb : ET tb σ H (Rlst R) l) : ET (tOp (rNotInD K) ta tb) σ H Rb (!decide (x ∈ l)) := et_op ha hb fun H1 v u e r1 ⟨a, xs, hv, ha, hx⟩ Q q =>
  ⟨_, l.map i.enc, i.dp r1, by rw [hv]; exact .lst (sq_of ha) (dpAll_of i hx), n.shaped _, shaped_list l, by rw [any_eqv]; exact q _ _ (Ex.refl _) rfl⟩
end
end
/-! the kinds compared here -/
section
variable {α β : Type} {R : Rp α} {S : Rp β}
theorem eqvAll_map [i : Enc R] [d : DecidableEq α] [n : EncI R] : ∀ l m : List α, PyData.eqvAll (l.map (Enc.enc (R := R))) (m.map (Enc.enc (R := R))) = decide (l = m)
  | [], [] => by simp [PyData.eqvAll]
  | [], _ :: _ => by simp [PyData.eqvAll]
  | _ :: _, [] => by simp [PyData.eqvAll]
  | x :: l, y :: m => by
    rw [List.map_cons, List.map_cons, PyData.eqvAll, n.eqv, eqvAll_map l m]
    by_cases h1 : x = y <;> by_cases h2 : l = m <;> simp [h1, h2]
instance : EncI Ri := ⟨fun x y => by show PyData.eqv (.int x) (.int y) = _; by_cases h : x = y <;> simp [PyData.eqv, h], fun x => rfl, fun x => by show (PyData.int x).depth ≤ 40; simp [PyData.depth]⟩

theorem layAll_of {f : α → PyData} (h : ∀ x, (f x).canLay0 = true) : ∀ l : List α, PyData.canLayAll0 (l.map f) = true
  | [] => rfl
  | a :: r => by
    rw [List.map_cons, PyData.canLayAll0, h, layAll_of h r]; rfl
instance : EncI Rp2 := ⟨eqv_P, fun x => by show (PyData.tuple [.int _, .int _]).canLay0 = true; simp [PyData.canLay0, PyData.canLayAll0], fun x => Nat.le_trans (depth_pr x) (by decide)⟩
instance : EncI Rld := ⟨fun l m => by
    show PyData.eqv (.tuple (l.map _)) (.tuple (m.map _)) = _
    rw [PyData.eqv]
    exact eqvAll_map (R := Rp2) l m, fun l => by
    show (PyData.tuple (l.map _)).canLay0 = true
    rw [PyData.canLay0]
    exact layAll_map (R := Rp2) l, fun l => Nat.le_trans (depth_ld l) (by decide)⟩
instance : EncI Rsh := ⟨fun l m => by
    show PyData.eqv (.tuple (l.map _)) (.tuple (m.map _)) = _
    rw [PyData.eqv]
    exact eqvAll_map (R := Rld) l m, fun l => by
    show (PyData.tuple (l.map _)).canLay0 = true
    rw [PyData.canLay0]
    exact layAll_map (R := Rld) l, fun l => Nat.le_trans (depth_sh l) (by decide)⟩
end
/-! ### orders: srt is mergeSort by plain orders -/
theorem dataLe_P : PySem.W.dataLe false (Enc.enc (R := Rp2)) = leP := by
  show PySem.W.dataLe false (fun p : P => PyData.tuple [.int p.1, .int p.2]) = leP
  rw [PySem.W.dataLe_ii (fun p : P => p.1) (fun p : P => p.2)]
  rfl
theorem not_lt_P (x y : P) : (!PySem.W.dataLt (Enc.enc (R := Rp2) y) (Enc.enc (R := Rp2) x)) = leP x y := congrFun (congrFun dataLe_P x) y
theorem row_le {α : Type} {R : Rp α} [i : Enc R] [d : DecidableEq α] [n : EncI R] (le : α → α → Bool) (hal : ∀ x y : α, PySem.W.alike (i.enc x) (i.enc y) = true) (hle : ∀ x y, (!PySem.W.dataLt (i.enc y) (i.enc x)) = le x y) :
    ∀ l m : List α, (!PyProof.Rows.lexLt PyProof.Rows.itemOrd (PySem.W.keyToksAll (m.map i.enc)) (PySem.W.keyToksAll (l.map i.enc))) = lexLe le l m
  | [], [] => by rw [lexLe]; rfl
  | [], _ :: _ => by
    rw [lexLe, List.map_cons, List.map_nil, PySem.W.keyToksAll, PySem.W.keyToksAll, PyProof.Rows.lex_cons]
    rfl
  | _ :: _, [] => by
    rw [lexLe, List.map_cons, List.map_nil, PySem.W.keyToksAll, PySem.W.keyToksAll, PyProof.Rows.lex_cons]
    rfl
  | x :: l, y :: m => by
    rw [List.map_cons, List.map_cons, PySem.W.dataLt_cons (hal y x), n.eqv, lexLe]
    have ih := row_le le hal hle l m
    by_cases h : x = y
    · subst h
      rw [if_pos (by simp), if_pos rfl]
      exact ih
    · rw [if_neg (by simpa using fun e => h e.symm), if_neg h]
      exact hle x y
end Ct
/-! # Loops, appends, fields, typed -/
namespace Ct
open PySem PySem.Spec PyProof.Rows L2 Evl
section
variable {α β γ δ : Type} {K : PySem.W.Frag} {te ta tb tc : TE} {tr : TA} {tt : TT} {σ : L2.St} {H H' : Hp} {R : Rp α} {S : Rp β} {T : Rp γ} {x : α} {y : β} {z : γ} {v : V} {l m : List α} {D : Ends} {tu tz : TS} {g : TG}
/-! ### targets -/
theorem g_pair {i j : Nat} {Q : L2.St → Hp → Prop} (h : Rpr R S H v (x, y)) (q : ∀ u w, R H u x → S H w y → Q ((σ.set i (some u)).set j (some w)) H) : gTup K 2 (gCons (gName i) (gCons (gName j) gNil)) v σ H Q := by
  obtain ⟨a, u, w, hv, ha, h1, h2⟩ := h
  exact ⟨a, [u, w], hv, st_of ha, rfl, u, [w], rfl, w, [], rfl, rfl, q u w h1 h2⟩
theorem g_tri {i j k : Nat} {Q : L2.St → Hp → Prop} (h : Rtr R S T H v (x, y, z)) (q : ∀ u w t, R H u x → S H w y → T H t z → Q (((σ.set i (some u)).set j (some w)).set k (some t)) H) : gTup K 3 (gCons (gName i) (gCons (gName j) (gCons (gName k) gNil))) v σ H Q := by
  obtain ⟨a, u, w, t, hv, ha, h1, h2, h3⟩ := h
  exact ⟨a, [u, w, t], hv, st_of ha, rfl, u, [w, t], rfl, w, [t], rfl, t, [], rfl, rfl, q u w t h1 h2 h3⟩
/-! ### for -/
theorem j_forL (h : ET te σ H (Rlst R) l) (hyp : ∀ p xs H1, Ex H H1 → H1 p = some (.lst xs) → Paired (R H1) xs l → ∃ Pv : Nat → L2.St → Hp → Prop, Pv 0 σ H1 ∧ (∀ i σ' H', i ≤ l.length → Pv i σ' H' → H' p = some (.lst xs) ∧ Paired (R H') xs l) ∧
    (∀ i x v σ' H', l[i]? = some x → Pv i σ' H' → R H' v x → g v σ' H' fun σ2 H2 => tu { D with nx := Pv (i + 1), ct := Pv (i + 1), bk := D.nx } σ2 H2) ∧ ∀ σ' H', Pv l.length σ' H' → D.nx σ' H') : tFor (iList K te) g tu D σ H :=
  h H (Ex.refl H) _ fun v H1 e1 ⟨p, xs, hv, hp, hx⟩ => by
    obtain ⟨Pv, h0, hl, hs, hd⟩ := hyp p xs H1 e1 hp hx
    have n := pr_len hx
    refine ⟨p, hv, ⟨xs, sq_of hp⟩, for_it (walk_list (K := K) (a := p) (xs := xs)) Pv h0 (fun i σ' H' hi q => sq_of (hl i σ' H' (by omega) q).1) (fun i v σ' H' H2 hi q hy => ?_) (fun σ' H' q => hd σ' H' (by rw [← n]; exact q))⟩
    obtain ⟨rfl, hxi⟩ := hy
    obtain ⟨x, h1, h2⟩ := pr_get (hl i σ' _ (by omega) q).2 hxi
    exact hs i x v σ' _ h1 q h2
/-- over a new list -/
theorem j_forN (h : EL te σ H R l) (hyp : ∀ p xs H1, H p = none → Ex H H1 → H1 p = some (.lst xs) → Paired (R H1) xs l → ∃ Pv : Nat → L2.St → Hp → Prop, Pv 0 σ H1 ∧ (∀ i σ' H', i ≤ l.length → Pv i σ' H' → H' p = some (.lst xs) ∧ Paired (R H') xs l) ∧
    (∀ i x v σ' H', l[i]? = some x → Pv i σ' H' → R H' v x → g v σ' H' fun σ2 H2 => tu { D with nx := Pv (i + 1), ct := Pv (i + 1), bk := D.nx } σ2 H2) ∧ ∀ σ' H', Pv l.length σ' H' → D.nx σ' H') : tFor (iList K te) g tu D σ H :=
  h H (Ex.refl H) _ fun p xs H1 hn e1 hp hx => by
    obtain ⟨Pv, h0, hl, hs, hd⟩ := hyp p xs H1 hn e1 hp hx
    have n := pr_len hx
    refine ⟨p, rfl, ⟨xs, sq_of hp⟩, for_it (walk_list (K := K) (a := p) (xs := xs)) Pv h0 (fun i σ' H' hi q => sq_of (hl i σ' H' (by omega) q).1) (fun i v σ' H' H2 hi q hy => ?_) (fun σ' H' q => hd σ' H' (by rw [← n]; exact q))⟩
    obtain ⟨rfl, hxi⟩ := hy
    obtain ⟨x, h1, h2⟩ := pr_get (hl i σ' _ (by omega) q).2 hxi
    exact hs i x v σ' _ h1 q h2
theorem j_forT (h : ET te σ H (Rtup R) l) (hyp : ∀ p xs H1, Ex H H1 → H1 p = some (.tup xs) → Paired (R H1) xs l → ∃ Pv : Nat → L2.St → Hp → Prop, Pv 0 σ H1 ∧ (∀ i σ' H', i ≤ l.length → Pv i σ' H' → H' p = some (.tup xs) ∧ Paired (R H') xs l) ∧
    (∀ i x v σ' H', l[i]? = some x → Pv i σ' H' → R H' v x → g v σ' H' fun σ2 H2 => tu { D with nx := Pv (i + 1), ct := Pv (i + 1), bk := D.nx } σ2 H2) ∧ ∀ σ' H', Pv l.length σ' H' → D.nx σ' H') : tFor (iTup K te) g tu D σ H :=
  h H (Ex.refl H) _ fun v H1 e1 ⟨p, xs, hv, hp, hx⟩ => by
    obtain ⟨Pv, h0, hl, hs, hd⟩ := hyp p xs H1 e1 hp hx
    have n := pr_len hx
    refine ⟨p, hv, ⟨xs, st_of hp⟩, for_it (walk_tup (K := K) (a := p) (xs := xs)) Pv h0 (fun i σ' H' hi q => st_of (hl i σ' H' (by omega) q).1) (fun i v σ' H' H2 hi q hy => ?_) (fun σ' H' q => hd σ' H' (by rw [← n]; exact q))⟩
    obtain ⟨rfl, hxi⟩ := hy
    obtain ⟨x, h1, h2⟩ := pr_get (hl i σ' _ (by omega) q).2 hxi
    exact hs i x v σ' _ h1 q h2
theorem j_forR {n : Nat} (h : ET ta σ H Ri (n : Int)) (hn : n ≤ 1000000) (hyp : ∀ H1, Ex H H1 → ∃ Pv : Nat → L2.St → Hp → Prop, Pv 0 σ H1 ∧
    (∀ i σ' H', i < n → Pv i σ' H' → g (.int (i : Int)) σ' H' fun σ2 H2 => tu { D with nx := Pv (i + 1), ct := Pv (i + 1), bk := D.nx } σ2 H2) ∧ ∀ σ' H', Pv n σ' H' → D.nx σ' H') : tFor (iRng1 (tCons ta tNil)) g tu D σ H :=
  h H (Ex.refl H) _ fun v H1 e1 hv => by
    cases hv
    obtain ⟨Pv, h0, hs, hd⟩ := hyp H1 e1
    refine ⟨(n : Int), rfl, by omega, by omega, for_it (walk_range (lo := 0) (n := n)) Pv h0 (fun _ _ _ _ _ => trivial) (fun i v σ' H' H2 hi q hy => ?_) (fun σ' H' q => hd σ' H' q)⟩
    obtain ⟨rfl, rfl⟩ := hy
    have e0 : (0 : Int) + (i : Int) = (i : Int) := Int.zero_add _
    dsimp only
    rw [e0]
    exact hs i σ' _ hi q
theorem j_forR2 {a : Int} {b : Int} (ha : ET ta σ H Ri a) (hb : ET tb σ H Ri b) (h1 : -1000000 ≤ a ∧ a ≤ 1000000) (h2 : -1000000 ≤ b ∧ b ≤ 1000000) (hyp : ∀ H1, Ex H H1 → ∃ Pv : Nat → L2.St → Hp → Prop, Pv 0 σ H1 ∧
    (∀ (i : Nat) σ' H', a + (i : Int) < b → Pv i σ' H' → g (.int (a + (i : Int))) σ' H' fun σ2 H2 => tu { D with nx := Pv (i + 1), ct := Pv (i + 1), bk := D.nx } σ2 H2) ∧ ∀ σ' H', Pv (b - a).toNat σ' H' → D.nx σ' H') : tFor (iRng2 (tCons ta (tCons tb tNil))) g tu D σ H :=
  ha H (Ex.refl H) _ fun v H1 e1 hv => hb H1 e1 _ fun w H2 e2 hw => by
    cases hv
    cases hw
    obtain ⟨Pv, h0, hs, hd⟩ := hyp H2 (e1.trans e2)
    refine ⟨a, b, rfl, ⟨by omega, by omega, by omega, by omega⟩, for_it (walk_range (lo := a) (n := (b - a).toNat)) Pv h0 (fun _ _ _ _ _ => trivial) (fun i v σ' H' H2 hi q hy => ?_) (fun σ' H' q => hd σ' H' q)⟩
    obtain ⟨rfl, rfl⟩ := hy
    exact hs i σ' _ (by omega) q
/-- for k, x in enumerate(t): the pair is a new tuple -/
theorem j_forE {i j : Nat} (h : ET te σ H (Rtup R) l) (hyp : ∀ p xs H1, Ex H H1 → H1 p = some (.tup xs) → Paired (R H1) xs l → ∃ Pv : Nat → L2.St → Hp → Prop, Pv 0 σ H1 ∧ (∀ n σ' H', n ≤ l.length → Pv n σ' H' → H' p = some (.tup xs) ∧ Paired (R H') xs l) ∧
    (∀ n x v σ' H' H2, l[n]? = some x → Pv n σ' H' → Ex H' H2 → R H' v x → tu { D with nx := Pv (n + 1), ct := Pv (n + 1), bk := D.nx } ((σ'.set i (some (.int (n : Int)))).set j (some v)) H2) ∧ ∀ σ' H', Pv l.length σ' H' → D.nx σ' H') : tFor (iEnumT K (tCons te tNil)) (gTup K 2 (gCons (gName i) (gCons (gName j) gNil))) tu D σ H :=
  h H (Ex.refl H) _ fun v H1 e1 ⟨p, xs, hv, hp, hx⟩ => by
    obtain ⟨Pv, h0, hl, hs, hd⟩ := hyp p xs H1 e1 hp hx
    have n := pr_len hx
    refine ⟨p, xs, by rw [hv], st_of hp, for_it (walk_enumT (K := K) (a := p) (xs := xs)) Pv h0 (fun i σ' H' hi q => st_of (hl i σ' H' (by omega) q).1) (fun m v σ' H' H2 hi q hy => ?_) (fun σ' H' q => hd σ' H' (by rw [← n]; exact q))⟩
    obtain ⟨T, u, w, rfl, hT, rfl, hu, hw⟩ := hy
    cases hu
    obtain ⟨x, h1, h2⟩ := pr_get (hl m σ' _ (by omega) q).2 hw
    exact ⟨T, [.int (m : Int), w], rfl, st_of upd_same, rfl, _, [w], rfl, w, [], rfl, rfl, hs m x w σ' _ _ h1 q (Ex.new hT) h2⟩
/-- .. of a list -/
theorem j_forEL {i j : Nat} (h : ET te σ H (Rlst R) l) (hyp : ∀ p xs H1, Ex H H1 → H1 p = some (.lst xs) → Paired (R H1) xs l → ∃ Pv : Nat → L2.St → Hp → Prop, Pv 0 σ H1 ∧ (∀ n σ' H', n ≤ l.length → Pv n σ' H' → H' p = some (.lst xs) ∧ Paired (R H') xs l) ∧
    (∀ n x v σ' H' H2, l[n]? = some x → Pv n σ' H' → Ex H' H2 → R H' v x → tu { D with nx := Pv (n + 1), ct := Pv (n + 1), bk := D.nx } ((σ'.set i (some (.int (n : Int)))).set j (some v)) H2) ∧ ∀ σ' H', Pv l.length σ' H' → D.nx σ' H') : tFor (iEnum K (tCons te tNil)) (gTup K 2 (gCons (gName i) (gCons (gName j) gNil))) tu D σ H :=
  h H (Ex.refl H) _ fun v H1 e1 ⟨p, xs, hv, hp, hx⟩ => by
    obtain ⟨Pv, h0, hl, hs, hd⟩ := hyp p xs H1 e1 hp hx
    have n := pr_len hx
    refine ⟨p, xs, by rw [hv], sq_of hp, for_it (walk_enum (K := K) (a := p) (xs := xs)) Pv h0 (fun i σ' H' hi q => sq_of (hl i σ' H' (by omega) q).1) (fun m v σ' H' H2 hi q hy => ?_) (fun σ' H' q => hd σ' H' (by rw [← n]; exact q))⟩
    obtain ⟨T, u, w, rfl, hT, rfl, hu, hw⟩ := hy
    cases hu
    obtain ⟨x, h1, h2⟩ := pr_get (hl m σ' _ (by omega) q).2 hw
    exact ⟨T, [.int (m : Int), w], rfl, st_of upd_same, rfl, _, [w], rfl, w, [], rfl, rfl, hs m x w σ' _ _ h1 q (Ex.new hT) h2⟩
/-! ### what comprehensions go through -/
def enumL {α : Type} (l : List α) : List (Int × α) := l.mapIdx fun i x => ((i : Int), x)
theorem enumL_len (l : List α) : (enumL l).length = l.length := List.length_mapIdx
theorem enumL_get {i : Nat} (h : l[i]? = some x) : (enumL l)[i]? = some ((i : Int), x) := by unfold enumL; rw [List.getElem?_mapIdx, h]; rfl
theorem ei_rng {n : Nat} (h : ET ta σ H Ri (n : Int)) (hn : n ≤ 1000000) : EI (iRng1 (tCons ta tNil)) σ H Ri ((List.range n).map fun (i : Nat) => (i : Int)) := fun H1 e Rq q =>
  h H1 e _ fun v H2 e2 hv => by
    cases hv
    refine ⟨(n : Int), rfl, by omega, by omega, q _ _ _ H2 e2 (by rw [List.length_map, List.length_range]; exact walk_range (lo := 0) (n := n)) (fun _ _ => trivial) fun i H3 v H4 hi e3 y => ?_⟩
    obtain ⟨rfl, rfl⟩ := y
    rw [List.length_map, List.length_range] at hi
    exact ⟨(i : Int), by simp [hi], Ex.refl _, by show V.int (0 + (i : Int)) = .int (i : Int); rw [Int.zero_add]⟩
theorem ei_enum [Mon R] (h : ET te σ H (Rtup R) l) : EI (iEnumT K (tCons te tNil)) σ H (Rpr Ri R) (enumL l) := fun H1 e Rq q =>
  h H1 e _ fun v H2 e2 ⟨a, xs, hv, ha, hx⟩ => ⟨a, xs, by rw [hv], st_of ha, q (IteT K a) (fun H => H a = some (.tup xs)) (YPair (fun i => some (.int (i : Nat))) (fun i => xs[i]?)) H2 e2
    (by have w := (walk_enumT (K := K) (a := a) (xs := xs)).mono (G' := fun H => H a = some (.tup xs)) (fun H h => st_of h) (fun _ _ _ _ _ _ y => y); rw [pr_len hx, ← enumL_len] at w; exact w) (fun _ e => e _ _ ha)
    fun i H3 w H4 _ e3 ⟨T, u, z, hw, hT, hH, hu, hz⟩ => by
      obtain ⟨x, h3, h4⟩ := pr_get hx hz
      cases hu
      subst hH
      exact ⟨_, enumL_get h3, Ex.new hT, T, _, z, hw, upd_same, rfl, up (e3.trans (Ex.new hT)) h4⟩⟩
theorem ei_zip [Mon R] [Mon S] {n : List β} (h : ET ta σ H (Rtup R) l) (h2 : ET tb σ H (Rtup S) n) (hn : l.length = n.length) : EI (RZ.iZipA K (tCons ta (tCons tb tNil))) σ H (Rpr R S) (l.zip n) := fun H1 e Rq q =>
  h H1 e _ fun v H2 e2 ⟨a, xs, hv, ha, hx⟩ => h2 H2 (e.trans e2) _ fun w H3 e3 ⟨b, ys, hw, hb, hy⟩ => by
    have n1 := pr_len hx
    have n2 := pr_len hy
    refine ⟨a, b, xs, ys, by rw [hv, hw], .inr ⟨st_of (e3 _ _ ha), st_of hb, q (RZ.ItzT K a b) (fun H => H a = some (.tup xs) ∧ H b = some (.tup ys)) (YPair (fun i => xs[i]?) (fun i => ys[i]?)) H3 (e2.trans e3) ?_ (fun _ e => ⟨e _ _ (e3 _ _ ha), e _ _ hb⟩) ?_⟩⟩
    · rw [List.length_zip]
      refine ⟨fun i H hi q => ⟨xs, ys, xs[i]'(by omega), ys[i]'(by omega), st_of q.1, st_of q.2, by simp, by simp⟩, fun H q => ⟨xs, ys, st_of q.1, st_of q.2, by omega⟩, fun i H v H' hi q y => ?_⟩
      obtain ⟨T, x, z, h1, h2, h3, h4, h5⟩ := y
      exact ⟨T, x, z, h1, h2, h3, h4 xs (st_of q.1), h5 ys (st_of q.2)⟩
    · rintro i H4 w H5 hi e4 ⟨T, x, z, hw, hT, rfl, hxi, hyi⟩
      obtain ⟨u, h3, h4⟩ := pr_get hx hxi
      obtain ⟨t, h5, h6⟩ := pr_get hy hyi
      exact ⟨(u, t), by rw [List.getElem?_zip_eq_some]; exact ⟨h3, h5⟩, Ex.new hT, T, x, z, hw, upd_same, up ((e3.trans e4).trans (Ex.new hT)) h4, up (e4.trans (Ex.new hT)) h6⟩
/-! ### append, xs[i] -= 1 -/
theorem j_app {i : Nat} {D0 : Addr} {ys : List V} (hv : σ[i]? = some (some (.ref D0))) (hD : H D0 = some (.lst ys)) (hz : ys.length < 1000000) (he : ET te σ H R x) (k : ∀ v H1, Ex H H1 → R H1 v x → D.nx σ (upd H1 D0 (.lst (ys ++ [v])))) :
    tDrop (tBM K "list" rAppend (tVar i) (tCons te tNil)) D σ H :=
  ⟨.ref D0, hv, .inl ⟨rfl, ys, sq_of hD⟩, he H (Ex.refl H) _ fun v H1 e1 r => ⟨D0, ys, v, rfl, rfl, e1 _ _ hD, Nat.lt_of_lt_of_le hz (by decide), k v H1 e1 r⟩⟩
theorem k_app {i : Nat} {D0 : Addr} {ys : List V} (hv : σ[i]? = some (some (.ref D0))) (hD : H D0 = some (.lst ys)) (hz : ys.length < 1000000) (he : ET te σ H R x) (k : ∀ v H1, Ex H H1 → R H1 v x → tz D σ (upd H1 D0 (.lst (ys ++ [v])))) :
    tSeq (tDrop (tBM K "list" rAppend (tVar i) (tCons te tNil))) tz D σ H := j_app (D := { D with nx := tz D }) hv hD hz he k
/-- xs[i] -= 1: xs a list of ints, whole -/
theorem j_dec {to ti : TE} {D0 : Addr} {ns : List Int} {j : Nat} {n : Int} (ho : Ev to σ H (.ref D0)) (hD : H D0 = some (.lst (ns.map V.int))) (hi : ET ti σ H Ri (j : Int)) (hj : ns[j]? = some n) (k : ∀ H1, Ex H H1 → D.nx σ (upd H1 D0 (.lst ((ns.set j (n - 1)).map V.int)))) :
    tAugS to ti (tC (.int 1)) (rIxL K) (ipI fun i j => i - j) rSetL D σ H :=
  ho H (Ex.refl H) _ fun H1 e1 => hi H1 e1 _ fun v H2 e2 hv => by
    cases hv
    have hjn : j < ns.length := (List.getElem?_eq_some_iff.mp hj).1
    have d2 : H2 D0 = some (.lst (ns.map V.int)) := e2 _ _ (e1 _ _ hD)
    refine ⟨D0, ns.map V.int, (j : Int), .int n, rfl, rfl, sq_of d2, atI_of (by rw [List.getElem?_map, hj]; rfl), ?_⟩
    refine ⟨n, 1, rfl, rfl, D0, ns.map V.int, (j : Int), j, rfl, rfl, d2, ixN_nat (by rw [List.length_map]; exact hjn), ?_⟩
    have := k H2 (e1.trans e2)
    rw [List.map_set] at this
    exact this
end
end Ct
namespace Ct
open PySem PySem.Spec PyProof.Rows L2 Evl
theorem units5 {k : Nat} {A : Around} (r : Room k A) : A.units + 65 < cLine := by have := r.un; omega
end Ct
/-! # The rules with the module's part, program and world said (so that a comprehension's reading does not lean on its block) -/
namespace Ct
open PySem PySem.Spec PyProof.Rows L2 Evl
section
variable {X : Cx}
theorem k_ixT (K : PySem.W.Frag) (e : X.K = K := by rfl) : IxR X (rIxT K) := by subst e; exact ix_tup
theorem k_ixL (K : PySem.W.Frag) (e : X.K = K := by rfl) : IxR X (rIxL K) := by subst e; exact ix_list
theorem k_eqD (K : PySem.W.Frag) (hu : X.A.units + 64 < cLine) (e : X.K = K := by rfl) : OpR X (compareOp .Eq) (rEqD K) := by subst e; exact op_eqD hu
theorem k_neD (K : PySem.W.Frag) (hu : X.A.units + 64 < cLine) (e : X.K = K := by rfl) : OpR X (compareOp .NotEq) (rNeD K) := by subst e; exact op_neD hu
theorem k_inD (K : PySem.W.Frag) (hu : X.A.units + 65 < cLine) (e : X.K = K := by rfl) : OpR X (compareOp .In) (rInD K) := by subst e; exact op_inD hu
theorem k_ninD (K : PySem.W.Frag) (hu : X.A.units + 65 < cLine) (e : X.K = K := by rfl) : OpR X (compareOp .NotIn) (rNotInD K) := by subst e; exact op_notInD hu
theorem k_inX (P : Program) (w : World) (hu : X.A.units + 64 < cLine) (e1 : X.prog = P := by rfl) (e2 : X.w = w := by rfl) : OpR X (compareOp .In) (rInX P w false) := by subst e1 e2; exact op_inX hu
theorem k_ninX (P : Program) (w : World) (hu : X.A.units + 64 < cLine) (e1 : X.prog = P := by rfl) (e2 : X.w = w := by rfl) : OpR X (compareOp .NotIn) (rInX P w true) := by subst e1 e2; exact op_ninX hu
theorem k_ixX (P : Program) (w : World) (hu : X.A.units + 64 < cLine) (e1 : X.prog = P := by rfl) (e2 : X.w = w := by rfl) : IxR X (rGetX P w) := by subst e1 e2; exact ix_dictX hu
theorem k_setX (P : Program) (w : World) (hu : X.A.units + 64 < cLine) (e1 : X.prog = P := by rfl) (e2 : X.w = w := by rfl) : PSet X (rSetX P w) := by subst e1 e2; exact set_dictX hu
theorem k_len (K : PySem.W.Frag) (e : X.K = K := by rfl) : CallR X (.builtin "len") (rLenS K) := by subst e; exact call_len_seq
theorem k_lenX (P : Program) (w : World) (e1 : X.prog = P := by rfl) (e2 : X.w = w := by rfl) : CallR X (.builtin "len") (rLenX P w) := by subst e1 e2; exact call_lenX
theorem k_isi (K : PySem.W.Frag) (e : X.K = K := by rfl) : CallR X (.builtin "isinstance") (rIsi K) := by subst e; exact call_isi
theorem k_isiX (K : PySem.W.Frag) (P : Program) (w : World) (e : X.K = K := by rfl) (e1 : X.prog = P := by rfl) (e2 : X.w = w := by rfl) : CallR X (.builtin "isinstance") (rIsiX K P w) := by subst e e1 e2; exact call_isiX
theorem k_all (K : PySem.W.Frag) (hc : X.calm = true := by rfl) (e : X.K = K := by rfl) : CallR X (.builtin "all") (rAll K) := by subst e; exact cr_all hc
theorem k_min (K : PySem.W.Frag) (hc : X.calm = true := by rfl) (e : X.K = K := by rfl) : CallR X (.builtin "min") (rMin K) := by subst e; exact cr_min hc
theorem k_list (K : PySem.W.Frag) (e : X.K = K := by rfl) : CallR X (.type "list") (rListS K) := by subst e; exact call_list_of
theorem k_tuple (K : PySem.W.Frag) (e : X.K = K := by rfl) : CallR X (.type "tuple") (rTupS K) := by subst e; exact call_tuple_of
theorem k_slT (K : PySem.W.Frag) (e : X.K = K := by rfl) : SlR X (rSlA K) := by subst e; exact sl_tupA
theorem k_slL (K : PySem.W.Frag) (e : X.K = K := by rfl) : SlR X (rSlL K) := by subst e; exact sl_list
theorem k_catT (K : PySem.W.Frag) (e : X.K = K := by rfl) : OpR X (binaryOp .Add) (rCatA K) := by subst e; exact op_catA
theorem k_rep (K : PySem.W.Frag) (e : X.K = K := by rfl) : OpR X (binaryOp .Mult) (rRepA K) := by subst e; exact op_repA
theorem k_sort (K : PySem.W.Frag) {β : Type} (R : Rp β) (enc : β → PyData) (hu : X.A.units + 64 < cLine) (e : X.K = K := by rfl) : CallR X (.builtin "sorted") (rSortU K R enc) := by subst e; exact cr_sortU hu
theorem k_rem (K : PySem.W.Frag) (hu : X.A.units + 65 < cLine) (e : X.K = K := by rfl) : MtR X "list.remove" (rRemD K) := by subst e; exact mt_remD hu
theorem k_get (K : PySem.W.Frag) (e : X.K = K := by rfl) : PGet X (rIxL K) := by subst e; exact get_list
theorem k_getX (P : Program) (w : World) (hu : X.A.units + 64 < cLine) (e1 : X.prog = P := by rfl) (e2 : X.w = w := by rfl) : MtR X "dict.get" (rGet1X P w) := by subst e1 e2; exact mt_getX hu
theorem k_sdfX (P : Program) (w : World) (hu : X.A.units + 64 < cLine) (e1 : X.prog = P := by rfl) (e2 : X.w = w := by rfl) : MtR X "dict.setdefault" (rSdfX P w) := by subst e1 e2; exact mt_sdfX hu
theorem k_clrX (P : Program) (w : World) (e1 : X.prog = P := by rfl) (e2 : X.w = w := by rfl) : MtR X "dict.clear" (rClrX P w) := by subst e1 e2; exact mt_clrX
theorem k_truX (P : Program) (w : World) (e1 : X.prog = P := by rfl) (e2 : X.w = w := by rfl) : TruR X (rTruX P w) := by subst e1 e2; exact tru_dictX
theorem k_fld (K : PySem.W.Frag) {e : Expr} {ta : TE} {f : Str} {pos : Pos} (he : PE X e ta) (hb : attributeBase e f X.env (eval e X.env) = eval e X.env) (e1 : X.K = K := by rfl) : PE X (.Attribute e f pos) (tFld K ta f) := by subst e1; exact pe_fld he hb
theorem k_piT (K : PySem.W.Frag) {tg l : Expr} {tl : TE} (hl : PE X l tl) (e : X.K = K := by rfl) : PI X tg l (iTup K tl) := by subst e; exact pi_tup hl
theorem k_piL (K : PySem.W.Frag) {tg l : Expr} {tl : TE} (hl : PE X l tl) (e : X.K = K := by rfl) : PI X tg l (iList K tl) := by subst e; exact pi_list hl
theorem k_piX (P : Program) (w : World) {tg l : Expr} {tl : TE} (hl : PE X l tl) (e1 : X.prog = P := by rfl) (e2 : X.w = w := by rfl) : PI X tg l (iKeysX P w tl) := by subst e1 e2; exact pi_keysX hl
def tBV (K : PySem.W.Frag) (te : TE) : TT := fun σ H Q => te σ H fun x H' => ∃ k, TruV K x H' k ∧ Q k H'
theorem k_truth (K : PySem.W.Frag) {a : Expr} {ta : TE} (ha : PE X a ta) (he : ∀ whole, isTrue a X.env whole = (do let v ← whole; standAt a.pos; holding [v] (truthy v))) (e : X.K = K := by rfl) : PT X a (tBV K ta) := by subst e; exact pt_truth ha he
theorem k_revL (K : PySem.W.Frag) {e : Expr} {te : TE} {k : Nat} {p1 p2 p3 pos : Pos} (he : PE X e te) (e1 : X.K = K := by rfl) : PE X (.Subscript e (.Slice none none (some (.UnaryOp .USub (.Constant (.int 1) k p1) p2)) p3) pos) (tRevL K te) := by subst e1; exact pe_revL he
theorem k_dnew (P : Program) (w : World) {pos : Pos} (e1 : X.prog = P := by rfl) (e2 : X.w = w := by rfl) : PE X (.Dict [] [] pos) (tDNewX P w) := by subst e1 e2; exact pe_dnewX

/-! ### x = {k: v for ..} -/
theorem ps_setXc {i : Nat} {y : Str} {py : Pos} {kx vx tg iter : Expr} {ifs : List Expr} {scope : Scope} {own : List (Str × Nat)} {pos spos : Pos} {wi : TI} {g : TG} {tt : TT} {tk tv : TE} (hu : X.A.units + 64 < cLine) (hc : X.calm = true) (hN : X.N.Nodup) (hy : X.N[i]? = some y) (hyl : X.env.scope.names.lookup y = some .local)
    (hsw : swapsWith (.DictComp kx vx [⟨tg, iter, ifs, 0⟩] scope pos) (some (.Name y py)) spos.line X.env = pure true) (hi : PI X tg iter wi) (ok : BlkOk X.N X.env.scope scope own)
    (hg : Blk X scope fun Y => PG Y tg g) (ht : Blk X scope fun Y => PTs Y ifs tt) (hk : Blk X scope fun Y => PE Y kx tk) (he : Blk X scope fun Y => PE Y vx tv) (hs : ∀ x, foldedSetIterable iter X.env x = pure x := by intro _; rfl) :
    PS X (.Assign [.Name y py] (.DictComp kx vx [⟨tg, iter, ifs, 0⟩] scope pos) spos) (tAsg (tXc X.prog X.w wi g tt tk tv (own.map (·.2))) (gName i)) := by
  refine ⟨fun pins s σ H D I h => ?_⟩
  rw [exec_Assign_Name_used _ _ _ _ hsw]
  refine wpAny_bind (wpAny_standAt (wpAny_bind ?_))
  show wpAny _ X.A (do let _ ← comprehension (.DictComp kx vx [⟨tg, iter, ifs, 0⟩] scope pos) scope X.env (firstIterPos [⟨tg, iter, ifs, 0⟩] pos) newDict false (eval iter X.env) (some (assign (.Name y py) X.env))) _ _ s
  have h : tXc X.prog X.w wi g tt tk tv (own.map (·.2)) σ H (fun x H1 => gName i x σ H1 D.nx) := h
  refine wpAny_bind (thn (xc_core (Qf := fun _ s' => SP X pins D .next s') hu hc hN I hi ok hg ht hk he hs h fun L C s' m H' I' q hn f => ?_) fun _ s' hq => wpAny_pure (wpAny_pure hq))
  show wpAny _ _ (assign (.Name y py) X.env (.ref L)) _ _ _
  refine wpAny_assign_Name (store_ok2 (v := V.ref L) I' hN hy (.inl hyl) rfl (fun s2 I2 ⟨a, sb, ha⟩ => ?_) (.inr hyl))
  obtain ⟨f0, f1, f2, f3, f4, f5⟩ := f
  have haC : C ≠ a := by
    rcases ha with z | z
    · rw [z]; exact f1
    · exact fun e => f4 y a z e.symm
  refine ⟨m, hn.sameBut sb haC, fun h3 sb3 => ?_⟩
  exact ⟨_, H', I2.turned (t' := s2.toks) (fun b o hb e => (sb3.2 b hb).trans e) f0 f1 f3 f4 f5, q⟩
theorem swX_true {kx vx : Expr} {gs : List Comprehension} {scope : Scope} {pos py : Pos} {y : Str} {l : Nat} {env : Env} (hk : env.scope.kind = .function) (hy : env.scope.names.lookup y = some .local) (hl : (py.line == pos.line) = true)
    (ha : (scope.names.any fun (n, k) => n == y && (k == .local || k == .cell)) = false) : swapsWith (.DictComp kx vx gs scope pos) (some (.Name y py)) l env = pure true := by
  have ky : env.kindOf y = some .local := hy
  have hb : env.blockKind = .function := by unfold Env.blockKind; rw [hk]; rfl
  unfold swapsWith
  simp only [hb, ky, ha, Expr.pos, hl]
  rfl
/-! ### t[::-1] -/
def tRevT (K : PySem.W.Frag) (te : TE) : TE := fun σ H Q => te σ H fun x H1 => ∃ a xs, x = .ref a ∧ SqT K H1 a xs ∧ ∀ p, H1 p = none → Q (.ref p) (upd H1 p (.tup xs.reverse))
end
section
open HT
variable {prog : Program} {w : World} {A : Around} {E : Value → Shared → Prop} {s : Shared}
theorem pick_back (xs : Array Value) : ((List.range xs.size).filterMap fun (m : Nat) => xs[(((xs.size : Int) - 1) + (m : Int) * (-1)).toNat]?).toArray = xs.toList.reverse.toArray := by
  have e : ((List.range xs.size).filterMap fun (m : Nat) => xs[(((xs.size : Int) - 1) + (m : Int) * (-1)).toNat]?) = ((List.range xs.size).map (fun k => xs.size - 1 - k)).filterMap (xs[·]?) := by
    rw [List.filterMap_map]
    congr 1
    funext m
    have e1 : (((xs.size : Int) - 1) + (m : Int) * (-1)).toNat = xs.size - 1 - m := by omega
    rw [e1]
    rfl
  rw [e, PySem.W.krv_range, List.filterMap_reverse, PySem.W.krv_all]
theorem sliceApplied_back {sl : Addr} {t : Tok} {n : Nat} {Q : Int × Int × Nat → Shared → Prop} (hs : s.heap.IsSliceOf sl .none .none (.int (-1) t)) (h : Q ((n : Int) - 1, -1, n) s) : wpAny (model prog w) A (Builtin.Slice.sliceApplied (.ref sl) (pure (n : Int))) Q E s := by
  obtain ⟨os, hos, hcs, hds⟩ := id hs
  unfold Builtin.Slice.sliceApplied Builtin.Slice.sliceFields
  refine wpAny_bind (wpAny_bind (wpAny_field hos hds (x := .none) rfl (wpAny_bind (wpAny_field hos hds (x := .none) rfl (wpAny_bind (wpAny_field hos hds (x := .int (-1) t) rfl (wpAny_pure ?_)))))))
  refine wpAny_bind (PyProof.Rows.slicePart_int ?_)
  show wpAny _ _ (if ((-1 : Int) == 0) = true then _ else _) _ _ s
  rw [if_neg (by decide)]
  refine wpAny_bind (PyProof.Rows.slicePart_none (wpAny_bind (PyProof.Rows.slicePart_none (wpAny_bind (wpAny_pure ?_)))))
  show wpAny _ _ (match Builtin.Slice.sliceAdjust none none (-1) (n : Int) with | (lo, hi) => pure (lo, (-1 : Int), Builtin.Slice.slicePlaces lo hi (-1))) _ _ s
  have e1 : Builtin.Slice.sliceAdjust none none (-1) (n : Int) = ((n : Int) - 1, -1) := by
    unfold Builtin.Slice.sliceAdjust
    simp
  rw [e1]
  show wpAny _ _ (pure ((n : Int) - 1, (-1 : Int), Builtin.Slice.slicePlaces ((n : Int) - 1) (-1) (-1))) _ _ s
  have e2 : Builtin.Slice.slicePlaces ((n : Int) - 1) (-1) (-1) = n := by
    unfold Builtin.Slice.slicePlaces
    simp
    split <;> omega
  rw [e2]
  exact wpAny_pure h
theorem getItem_tuple_back {t sl : Addr} {items : Array Value} {tk : Tok} {Q : Value → Shared → Prop} (ht : IsTup s.heap t items) (hs : s.heap.IsSliceOf sl .none .none (.int (-1) tk))
    (h : Q (.ref s.heap.objs.size) { s with heap := s.heap.push { cls := .type "tuple", data := .seq items.toList.reverse.toArray } }) (hsz : items.size ≤ sizeLine) : wpAny (model prog w) A (getItem (.ref t) (.ref sl)) Q E s := by
  have htake : sizeOk (.seq items.toList.reverse.toArray) := by
    show items.toList.reverse.toArray.size ≤ sizeLine
    simpa using hsz
  obtain ⟨os, hos, hcs, hds⟩ := id hs
  have hTs : s.TypeIs (.ref sl) "slice" := ⟨os, hos, hcs⟩
  unfold getItem
  try with_reducible refine wpAny_holding ?_
  first | refine wpAny_bind (wpAny_pure ?_) | skip
  refine wpAny_bind (wpAny_sequenceKey ht.typeIs (by decide) ?_)
  refine wpAny_bind (wpAny_callSpecial?_slot (name := Str.ofString "__getitem__") ht.typeIs PyProof.Rows.slot_tuple_getitem
    (wpAny_call_entry PyProof.Rows.slot_tuple_getitem ht.typeIs entry_tuple_getitem ?_ (args_tuple_getitem _ _)))
  show wpAny _ _ (Builtin.Tuple.tupleItemsOf (.ref t) >>= _) _ _ s
  refine wpAny_bind (tupleItemsOf_ ht ?_)
  refine wpAny_bind (wpAny_typeOf hTs ?_)
  rw [if_pos (by decide)]
  refine wpAny_bind (sliceApplied_back hs ?_)
  have hno : ¬ ((((items.size : Int) - 1) == 0 && (-1 : Int) == 1 && items.size == items.size) = true) := by
    intro q
    rw [Bool.and_eq_true, Bool.and_eq_true] at q
    exact absurd q.1.2 (by decide)
  show wpAny _ _ (if (((items.size : Int) - 1) == 0 && (-1 : Int) == 1 && items.size == items.size) = true then _ else _) _ _ s
  rw [if_neg hno, pick_back]
  first
    | exact wpAny_bind (m := Builtin.Tuple.tupleExact _) (wpAny_newObj_type (wpAny_pure ⟨_, rfl, wpAny_pure h⟩) htake)
    | exact wpAny_bind (m := Builtin.Tuple.tupleExact _) (wpAny_newObj_type (wpAny_bind (wpAny_pure (wpAny_pure ⟨_, rfl, wpAny_pure h⟩))) htake)
    | exact wpAny_bind (wpAny_bind (m := Builtin.Tuple.tupleExact _) (wpAny_newObj_type (wpAny_pure (wpAny_pure ⟨_, rfl, wpAny_pure h⟩)) htake))
    | exact wpAny_bind (wpAny_bind (m := Builtin.Tuple.tupleExact _) (wpAny_newObj_type (wpAny_pure ⟨_, rfl, wpAny_pure h⟩) htake))
end
section
variable {X : Cx}
theorem k_revT (K : PySem.W.Frag) {e : Expr} {te : TE} {k : Nat} {p1 p2 p3 pos : Pos} (he : PE X e te) (eK : X.K = K := by rfl) : PE X (.Subscript e (.Slice none none (some (.UnaryOp .USub (.Constant (.int 1) k p1) p2)) p3) pos) (tRevT K te) := by
  subst eK
  refine ⟨fun pins s σ H Q I h => ?_⟩
  refine Subscript_ (thn (he.run pins s σ H _ I h) fun v s1 ⟨x, H1, I1, r1, q1⟩ => ?_)
  obtain ⟨a, xs, ex, hx, q⟩ := q1
  subst ex
  cases r1
  have hst : PO X (some (.UnaryOp .USub (.Constant (.int 1) k p1) p2)) (tPart (tUn (rU fun i => .int (-i)) (tC (.int 1)))) := po_some (pe_un un_neg pe_int)
  refine wpAny_Slice (thn (po_none.run pins s1 σ H1 (fun o H2 => o = none ∧ H2 = H1) I1 ⟨rfl, rfl⟩) fun vl s2 ⟨l, H2, I2, pl, el, e2⟩ => ?_)
  subst el e2
  refine thn (po_none.run pins s2 σ H2 (fun o H3 => o = none ∧ H3 = H2) I2 ⟨rfl, rfl⟩) fun vu s3 ⟨u, H3, I3, pu, eu, e3⟩ => ?_
  subst eu e3
  refine thn (hst.run pins s3 σ H3 (fun o H4 => o = some (-1) ∧ H4 = H3) I3 ⟨1, rfl, -1, rfl, rfl, rfl⟩) fun vs s4 ⟨o, H4, I4, ps, eo, e4⟩ => ?_
  subst eo e4
  have I5 : Inv X pins σ H4 { s4 with heap := s4.heap.push { cls := .type "slice", data := .fields #[vl, vu, vs] } } := I4.kept (t' := s4.toks) fun b ob q => Heap.get?_push_of_some _ q
  obtain ⟨its, r, ht, hz⟩ := I5.tuple hx
  have hlen := r.length
  cases pl
  cases pu
  cases ps with
  | int i t =>
    show wpAny (model X.prog X.w) X.A (subscriptTail e (.Slice none none (some (.UnaryOp .USub (.Constant (.int 1) k p1) p2)) p3) (.ref a) (.ref s4.heap.objs.size)) (EP X pins σ Q) X.xe { s4 with heap := s4.heap.push { cls := .type "slice", data := .fields #[.none, .none, .int (-1) t] } }
    refine tail_any (ops := [.ref a, .ref s4.heap.objs.size]) ht.typeIs PyProof.Rows.slot_tuple_getitem.lookup ?_ (by with_unfolding_all rfl)
    refine getItem_tuple_back ht (Heap.IsSliceOf.new _ .none .none (.int (-1) t)) ?_ (by rw [List.size_toArray]; omega)
    refine ⟨.ref _, _, I5.laid (t' := s4.toks) (o := .tup xs.reverse) (fun b ob q => Heap.get?_push_of_some _ q) (Nat.le_refl _) ?_, rfl, q _ (I5.hok.fresh (Nat.le_refl _))⟩
    exact ⟨by rw [List.length_reverse]; exact hz, its.reverse, r.reverse, ⟨_, Heap.get?_push_size _ rfl, rfl, 0, rfl⟩⟩
theorem et_revT {α : Type} {R : Rp α} [Mon R] {K : PySem.W.Frag} {ta : TE} {σ : L2.St} {H : Hp} {l : List α} (ha : ET ta σ H (Rtup R) l) : ET (tRevT K ta) σ H (Rtup R) l.reverse := fun H1 e Q q =>
  ha H1 e _ fun v H2 e2 ⟨a, xs, hv, ha, hx⟩ => ⟨a, xs, hv, st_of ha, fun p hp => q _ _ (e2.trans (Ex.new hp)) ⟨p, _, rfl, upd_same, pr_rev (pup (Ex.new hp) hx)⟩⟩
end
end Ct
/-! # The mirror: what each def computes, in plain Lean -/
namespace Ct
/-- an exchange -/
structure EX where
  ins : List Int
  outs : List Int
  mid : Int
abbrev LR : Type := List Int × List Int
abbrev NX : Type := Ld × Sh
abbrev EN : Type := P × Ld × Sh
def fits (l : Ld) (p : P) : Bool := l.all fun q => !decide (q.1 = p.1) && !decide (q.2 = p.2)
def put (l : Ld) (p : P) : Ld := srt Rp2 (l ++ [p])
def taken (l : Ld) (p : P) : Ld := l.filter fun q => !decide (q = p)
def replaced (s : Sh) (k : Int) (l : Ld) : Sh := s.take k.toNat ++ [l] ++ s.drop (k + 1).toNat
def fitting (s : Sh) (p : P) : List Int := ((enumL' s).filter fun x => fits x.2 p).map (·.1)
where enumL' (s : Sh) : List (Int × Ld) := s.mapIdx fun i x => ((i : Int), x)
def dec1 (l : List Int) (i : Int) : List Int := l.set i.toNat (l.getD i.toNat 0 - 1)
def lessLR (x : LR) (ps : List P) : LR := (ps.foldl (fun l p => dec1 l p.1) x.1, ps.foldl (fun l p => dec1 l p.2) x.2)
def calls (s : Sh) : List P := srt Rp2 s.flatten
def leftOf (e : EX) (s : Sh) : LR := lessLR (e.ins, e.outs) (calls s)
def pr (i o : Nat) : P := (((i : Nat) : Int), ((o : Nat) : Int))
def pairsOf (nI nO : Nat) : List P := ((List.range nI).map fun i => (List.range nO).map fun o => pr i o).flatten
def EX.pairs (e : EX) : List P := pairsOf e.ins.length e.outs.length
def openOf (x : LR) (ps : List P) : List P := ps.filter fun p => decide (x.1.getD p.1.toNat 0 > 0) && decide (x.2.getD p.2.toNat 0 > 0)
def openPairs (e : EX) (s : Sh) : List P := openOf (leftOf e s) e.pairs
def asShape (s : Sh) : Sh := srt Rld s
/-- one more switch -/
def longer (nO : Nat) (loads : List Ld) (i : Nat) : List Ld := (loads.map fun l => ((List.range nO).filter fun o => fits l (pr i o)).map fun o => l ++ [pr i o]).flatten
def loadsTo (nO : Nat) : Nat → List Ld
  | 0 => [[]]
  | i + 1 => loadsTo nO i ++ longer nO (loadsTo nO i) i
def allLoadsN (nI nO : Nat) : List Ld := srt Rld (loadsTo nO nI)
def allLoads (e : EX) : List Ld := allLoadsN e.ins.length e.outs.length
def hasDoors (x : LR) (l : Ld) : Bool := l.all fun p => decide (x.1.getD p.1.toNat 0 > 0) && decide (x.2.getD p.2.toNat 0 > 0)
/-- the program's search -/
def shapesFrom : Nat → List Ld → Sh → LR → List Sh
  | 0, _, chosen, _ => [chosen]
  | room + 1, loads, chosen, left => ((List.range loads.length).map fun at_ => match loads[at_]? with
    | some l => if hasDoors left l then shapesFrom room (loads.take (at_ + 1)) (l :: chosen) (lessLR left l) else []
    | none => []).flatten
def allShapes (e : EX) : List Sh := srt Rsh (shapesFrom e.mid.toNat (allLoads e) [] (e.ins, e.outs))
/-- at place k the load differs from the one before -/
def newAt (s : Sh) (k : Nat) (l : Ld) : Bool := decide (k = 0) || !decide (some l = s[k - 1]?)
def nextShapes (s : Sh) (p : P) : List NX := ((s.zipIdx).filter fun x => newAt s x.2 x.1 && fits x.1 p).map fun x => (x.1, asShape (replaced s (x.2 : Int) (put x.1 p)))
def endsRaw (s : Sh) : List EN := (((s.zipIdx).filter fun x => newAt s x.2 x.1).map fun x => x.1.map fun p => (p, x.1, asShape (replaced s (x.2 : Int) (taken x.1 p)))).flatten
def endsOf (s : Sh) : List EN := srt Rend (endsRaw s)
def callsFrom (e : EX) (s : Sh) : List (P × List NX) := (openPairs e s).map fun p => (p, nextShapes s p)
/-- the shape falls -/
def falls (cs : List (P × List NX)) (es : List EN) (ranks : List Sh) : Bool := (cs.any fun c => c.2.all fun n => decide (n.2 ∈ ranks)) || es.any fun x => decide (x.2.2 ∈ ranks)
def fallsOf (e : EX) (ranks : List Sh) (s : Sh) : Bool := falls (callsFrom e s) (endsOf s) ranks
/-- the rounds: n at most; what is left, what fell -/
def rounds (e : EX) : Nat → List Sh → List Sh → List Sh
  | 0, _, ranks => ranks
  | n + 1, left, ranks => if left.filter (fallsOf e ranks) = [] then ranks else rounds e n (left.filter fun s => !decide (s ∈ left.filter (fallsOf e ranks))) (ranks ++ left.filter (fallsOf e ranks))
def fallen (e : EX) : List Sh := rounds e ((allShapes e).length + 1) (allShapes e) []
def emptyOf (e : EX) : Sh := List.replicate e.mid.toNat []
/-- the keeper's choice -/
def goodLoads (ranks : List Sh) (ns : List NX) : List Ld := (ns.filter fun n => !decide (n.2 ∈ ranks)).map (·.1)
abbrev Tab : Type := List ((Sh × P) × Ld)
def tabOf (e : EX) (ranks : List Sh) (shapes : List Sh) : Tab := (shapes.map fun s => (callsFrom e s).filterMap fun c => (goodLoads ranks c.2 ++ c.2.map (·.1)).head?.map fun l => ((s, c.1), l)).flatten
/-! ### the law's own -/
def lawFits (l : Ld) (p : P) : Bool := l.all fun q => !(decide (q.1 = p.1) || decide (q.2 = p.2))
def lawRow (loads : List Ld) (r : Sh × LR) : List (Sh × LR) := (loads.filter fun l => (decide (r.1 = []) || (match r.1.getLast? with | some m => leLd l m | none => true)) && decide (minI ((lessLR r.2 l).1 ++ (lessLR r.2 l).2) ≥ 0)).map fun l => (r.1 ++ [l], lessLR r.2 l)
def lawRows (loads : List Ld) (most : Int) : Nat → List (Sh × LR) → List (Sh × LR)
  | 0, rows => rows
  | n + 1, rows => if ((rows.map (lawRow loads)).flatten.length : Int) > most then [] else lawRows loads most n (rows.map (lawRow loads)).flatten
def lawShapes (ins outs : List Int) (mid most : Int) : List Sh := srt Rsh ((lawRows (allLoadsN ins.length outs.length) most mid.toNat [([], (ins, outs))]).map fun r => r.1.reverse)
def er {α : Type} [DecidableEq α] (l : List α) (x : α) : List α := l.erase x
def swap (s : Sh) (l m : Ld) : Sh := srt Rld (er s l ++ [m])
/-- a load that did not come before -/
def newIn (s : Sh) (k : Nat) (l : Ld) : Bool := !decide (l ∈ s.take k)
def lawNexts (s : Sh) (p : P) : List NX := ((s.zipIdx).filter fun x => newIn s x.2 x.1 && lawFits x.1 p).map fun x => (x.1, swap s x.1 (srt Rp2 (x.1 ++ [p])))
def lawEnds (s : Sh) : List EN := srt Rend ((((s.zipIdx).filter fun x => newIn s x.2 x.1).map fun x => x.1.map fun p => (p, x.1, swap s x.1 (x.1.filter fun q => !decide (q = p)))).flatten)
def lawFalls (e : EX) (lost : List Sh) (s : Sh) : Bool := decide (((lawEnds s).map (·.2.2)).filter (fun a => decide (a ∈ lost)) ≠ []) || (openPairs e s).any fun p => decide (((lawNexts s p).map (·.2)).filter (fun a => !decide (a ∈ lost)) = [])
def lawRounds (e : EX) (shapes : List Sh) : Nat → List Sh → List Sh
  | 0, lost => lost
  | n + 1, lost => if shapes.filter (fun s => lawFalls e lost s && !decide (s ∈ lost)) = [] then lost else lawRounds e shapes n (lost ++ shapes.filter (fun s => lawFalls e lost s && !decide (s ∈ lost)))
def lawLost (e : EX) (shapes : List Sh) : List Sh := lawRounds e shapes (shapes.length + 1) []
def places (s : Sh) : List (P × Int) := srt Rpk (((s.zipIdx).map fun x => x.1.map fun p => (p, (x.2 : Int))).flatten)
def withCall (s : Sh) (k : Int) (p : P) : Sh := s.take k.toNat ++ [srt Rp2 ((s.getD k.toNat []) ++ [p])] ++ s.drop (k + 1).toNat
def without (s : Sh) (k : Int) (p : P) : Sh := s.take k.toNat ++ [(s.getD k.toNat []).filter fun q => !decide (q = p)] ++ s.drop (k + 1).toNat
/-! ### the law's numbers -/
def flowOf (script : List Int) (k : Int) : List Int :=
  let cell := if k < (script.length : Int) then script.getD k.toNat 0 else 0
  let number := 2 * (if cell < 0 then -cell else cell) + (if cell < 0 then 1 else 0)
  if number ≥ 10 ^ 18 then [number, 0, number.fmod 2147483629] else [0, 0, (number + 40013 * k + 7).fmod 2147483629]
/-- what a pick gives, and the flow behind -/
def pickOf (f : List Int) (size : Int) : Int × List Int :=
  if f.getD 0 0 ≥ size ∧ f.getD 0 0 > 1 then ((f.getD 0 0).fmod size, f.set 0 ((f.getD 0 0).fdiv size))
  else
    let f1 := f.set 1 (f.getD 1 0 + 1)
    let n1 := ((f.getD 2 0 + 7919 * (f.getD 1 0 + 1) + 1) * 48271).fmod 2147483647
    let n2 := (n1 * (n1.fdiv 1009 + 69621)).fmod 2147483647
    let n3 := (n2 * (n2.fdiv 2003 + 40692)).fmod 2147483399
    (((n3.fdiv 16)).fmod size, f1)
/-! ### what is asked -/
def InP (nI nO : Nat) (p : P) : Prop := (0 ≤ p.1 ∧ p.1 < (nI : Int)) ∧ 0 ≤ p.2 ∧ p.2 < (nO : Int)
structure LdOk (nI nO : Nat) (l : Ld) : Prop where
  inp : ∀ p ∈ l, InP nI nO p
  inc : (l.map (·.1)).Pairwise (· < ·)
  nd : (l.map (·.2)).Nodup
structure EOk (e : EX) : Prop where
  ins : 1 ≤ e.ins.length ∧ e.ins.length ≤ 4
  outs : 1 ≤ e.outs.length ∧ e.outs.length ≤ 4
  mid : 1 ≤ e.mid ∧ e.mid ≤ 7
  di : ∀ d ∈ e.ins, 1 ≤ d ∧ d ≤ 4
  do_ : ∀ d ∈ e.outs, 1 ≤ d ∧ d ≤ 4
structure ShOk (e : EX) (s : Sh) : Prop where
  len : (s.length : Int) = e.mid
  ld : ∀ l ∈ s, LdOk e.ins.length e.outs.length l
  li : ∀ x ∈ (leftOf e s).1, 0 ≤ x
  lo : ∀ x ∈ (leftOf e s).2, 0 ≤ x
theorem inc_len {l : List Int} {n : Nat} (h : l.Pairwise (· < ·)) (hb : ∀ x ∈ l, 0 ≤ x ∧ x < (n : Int)) : l.length ≤ n := by
  have nd : (l.map Int.toNat).Nodup := by
    refine List.Pairwise.map _ (fun a b hab => ?_) (List.Pairwise.imp_of_mem (S := fun a b => a < b ∧ 0 ≤ a) (fun {a b} ha hb' hab => ⟨hab, (hb a ha).1⟩) h)
    omega
  have hs : (l.map Int.toNat) ⊆ List.range n := fun x hx => by
    obtain ⟨y, hy, rfl⟩ := List.mem_map.mp hx
    have := hb y hy
    exact List.mem_range.mpr (by omega)
  have := List.Nodup.length_le_of_subset nd hs
  simpa using this
theorem LdOk.len {nI nO : Nat} {l : Ld} (h : LdOk nI nO l) : l.length ≤ nI := by
  have := inc_len h.inc (n := nI) (fun x hx => by obtain ⟨p, hp, rfl⟩ := List.mem_map.mp hx; exact (h.inp p hp).1)
  simpa using this
theorem dec1_len (l : List Int) (i : Int) : (dec1 l i).length = l.length := by unfold dec1; rw [List.length_set]
theorem less_len1 (x : LR) (ps : List P) : (lessLR x ps).1.length = x.1.length := by
  obtain ⟨a, b⟩ := x
  unfold lessLR
  show (ps.foldl (fun l p => dec1 l p.1) a).length = a.length
  induction ps generalizing a with
  | nil => rfl
  | cons p ps ih => rw [List.foldl_cons, ih]; exact dec1_len _ _
theorem less_len2 (x : LR) (ps : List P) : (lessLR x ps).2.length = x.2.length := by
  obtain ⟨a, b⟩ := x
  unfold lessLR
  show (ps.foldl (fun l p => dec1 l p.2) b).length = b.length
  induction ps generalizing b with
  | nil => rfl
  | cons p ps ih => rw [List.foldl_cons, ih]; exact dec1_len _ _
theorem less_snoc (x : LR) (ps : List P) (p : P) : lessLR x (ps ++ [p]) = (dec1 (lessLR x ps).1 p.1, dec1 (lessLR x ps).2 p.2) := by
  unfold lessLR
  rw [List.foldl_append, List.foldl_append]; rfl
theorem calls_mem {s : Sh} {p : P} (h : p ∈ calls s) : ∃ l ∈ s, p ∈ l := by
  unfold calls srt at h
  rw [List.mem_mergeSort] at h
  exact List.mem_flatten.mp h
theorem getD_set {l : List Int} {i : Nat} (h : i < l.length) : l[i]? = some (l.getD i 0) := by
  rw [List.getD_eq_getElem?_getD, List.getElem?_eq_getElem h]; rfl
end Ct
/-! # Comprehensions of two clauses -/
namespace Ct
open PySem PySem.Spec PyProof.Rows L2 Evl
/-- tuples stay -/
def Tu (H H' : Hp) : Prop := ∀ b xs, H b = some (.tup xs) → H' b = some (.tup xs)
theorem Tu.refl (H : Hp) : Tu H H := fun _ _ e => e
theorem Tu.trans {H H1 H2 : Hp} (a : Tu H H1) (b : Tu H1 H2) : Tu H H2 := fun c xs e => b c xs (a c xs e)
theorem Tu.ex {H H' : Hp} (e : Ex H H') : Tu H H' := fun b _ h => e b _ h
theorem Tu.lst {H : Hp} {D : Addr} {zs ws : List V} (h : H D = some (.lst zs)) : Tu H (upd H D (.lst ws)) := tups_lst h
section
variable {α β γ : Type} {R : Rp α} {S : Rp β} {U : Rp γ} {σ : L2.St} {H : Hp} {l : List α}
theorem imm [i : Imm R] {H H' : Hp} {v : V} {x : α} (t : Tu H H') (h : R H v x) : R H' v x := i.imm t h
def EIt (wi : TI) (σ : L2.St) (H : Hp) (R : Rp α) (l : List α) : Prop := ∀ H1, Ex H H1 → ∀ Rq : It → Hp → Prop,
  (∀ J G Y H2, Ex H1 H2 → Walk J l.length G Y → (∀ H3, Tu H2 H3 → G H3) → (∀ i H3 v H4, i < l.length → Tu H2 H3 → Y i H3 v H4 → ∃ x, l[i]? = some x ∧ Ex H3 H4 ∧ R H4 v x) → Rq J H2) → wi σ H1 Rq
theorem eit_tup {K : PySem.W.Frag} {te : TE} [Imm R] (h : ET te σ H (Rtup R) l) : EIt (iTup K te) σ H R l := fun H1 e Rq q =>
  h H1 e _ fun v H2 e2 ⟨a, xs, hv, ha, hx⟩ => ⟨a, hv, ⟨xs, st_of ha⟩, q (Itt K a) (fun H => H a = some (.tup xs)) (YAt xs) H2 e2
    (by have w := (walk_tup (K := K) (a := a) (xs := xs)).mono (G' := fun H => H a = some (.tup xs)) (Y' := YAt xs) (fun H h => st_of h) (fun _ _ _ _ _ _ y => y); rw [pr_len hx] at w; exact w) (fun _ e => e _ _ ha)
    fun i H3 w H4 _ e3 ⟨h1, h2⟩ => by
      obtain ⟨x, h3, h4⟩ := pr_get hx h2
      subst h1
      exact ⟨x, h3, Ex.refl _, imm e3 h4⟩⟩
theorem eit_rng {ta : TE} {n : Nat} (h : ET ta σ H Ri (n : Int)) (hn : n ≤ 1000000) : EIt (iRng1 (tCons ta tNil)) σ H Ri ((List.range n).map fun (i : Nat) => (i : Int)) := fun H1 e Rq q =>
  h H1 e _ fun v H2 e2 hv => by
    cases hv
    refine ⟨(n : Int), rfl, by omega, by omega, q _ _ _ H2 e2 (by rw [List.length_map, List.length_range]; exact walk_range (lo := 0) (n := n)) (fun _ _ => trivial) fun i H3 v H4 hi e3 y => ?_⟩
    obtain ⟨rfl, rfl⟩ := y
    rw [List.length_map, List.length_range] at hi
    exact ⟨(i : Int), by simp [hi], Ex.refl _, by show V.int (0 + (i : Int)) = .int (i : Int); rw [Int.zero_add]⟩
theorem take_flat {f : α → List γ} {i : Nat} {x : α} (h : l[i]? = some x) : ((l.take (i + 1)).map f).flatten = ((l.take i).map f).flatten ++ f x := by
  rw [List.take_add_one, h, List.map_append, List.flatten_append]
  simp
theorem flat_len {f : α → List γ} {n : Nat} : ∀ l : List α, (∀ x ∈ l, (f x).length ≤ n) → (l.map f).flatten.length ≤ l.length * n
  | [], _ => by simp
  | x :: l, h => by
    rw [List.map_cons, List.flatten_cons, List.length_append, List.length_cons, Nat.succ_mul]
    have := h x (List.mem_cons_self ..)
    have := flat_len l fun y hy => h y (List.mem_cons_of_mem _ hy)
    omega
theorem el_lc2 {wi wi1 : TI} {a b : Nat} {tt1 : TT} {te : TE} {vs vs1 : List Nat} (m : α → List β) (f : α → β → Bool) (g : α → β → γ) [Imm R] [Imm S] [Mon U] [Imm U] (h : EI wi σ H R l) (hz : l.length ≤ 1000) (hz1 : ∀ x ∈ l, (m x).length ≤ 1000)
    (hw : ∀ v, wipe ((wipe σ vs).set a (some v)) vs = wipe σ vs) (hw1 : ∀ v u, wipe ((wipe ((wipe σ vs).set a (some v)) vs1).set b (some u)) vs1 = wipe ((wipe σ vs).set a (some v)) vs1)
    (inner : ∀ v x Hx, x ∈ l → Ex H Hx → R Hx v x → EIt wi1 ((wipe σ vs).set a (some v)) Hx S (m x))
    (body : ∀ v x u y Hy, x ∈ l → y ∈ m x → Ex H Hy → R Hy v x → S Hy u y → EvT tt1 ((wipe ((wipe σ vs).set a (some v)) vs1).set b (some u)) Hy (f x y) ∧ (f x y = true → ET te ((wipe ((wipe σ vs).set a (some v)) vs1).set b (some u)) Hy U (g x y))) :
    EL (tLc2 wi (gName a) tYes wi1 (gName b) tt1 te vs vs1) σ H U ((l.map fun x => ((m x).filter (f x)).map (g x)).flatten) := by
  intro H1 e1 Q q
  refine h H1 e1 _ fun J G Y H2 e2 w gs ys D hD => ?_
  let row : α → List γ := fun x => ((m x).filter (f x)).map (g x)
  have hrow : ∀ x ∈ l, (row x).length ≤ 1000 := fun x hx => by
    show (((m x).filter (f x)).map (g x)).length ≤ 1000
    rw [List.length_map]
    exact Nat.le_trans (List.length_filter_le _ _) (hz1 x hx)
  let Pv : Nat → Hp → Prop := fun i H3 => Ex H2 H3 ∧ ∃ zs, H3 D = some (.lst zs) ∧ Paired (U H3) zs (((l.take i).map row).flatten)
  refine ⟨fun i n H3 => n = l.length - i ∧ i ≤ l.length ∧ Pv i H3, ⟨l.length, by simp, Nat.zero_le _, Ex.new hD, [], upd_same, .nil⟩, ?_⟩
  rintro i n H3 ⟨rfl, hi, eD, zs, hDl, hzs⟩
  by_cases hlt : i < l.length
  · refine .inr ⟨w.goes i H3 hlt (gs H3 eD), Pv (i + 1), fun H' p' => ⟨l.length - (i + 1), by omega, rfl, hlt, p'⟩, fun v H4 y => ?_⟩
    obtain ⟨x, hx, e4, rx⟩ := ys i H3 v H4 hlt eD (w.yields i H3 v H4 hlt (gs H3 eD) y)
    have hmem : x ∈ l := List.mem_of_getElem? hx
    have eH4 : Ex H2 H4 := eD.trans e4
    refine ⟨hw v, ?_⟩
    show wi1 ((wipe σ vs).set a (some v)) H4 _
    refine inner v x H4 hmem ((e1.trans e2).trans eH4) rx H4 (Ex.refl H4) _ fun J1 G1 Y1 H5 e5 w1 gs1 ys1 => ?_
    have e25 : Ex H2 H5 := eH4.trans e5
    let Pv1 : Nat → Hp → Prop := fun j H6 => Ex H2 H6 ∧ Tu H5 H6 ∧ ∃ zs, H6 D = some (.lst zs) ∧ Paired (U H6) zs (((l.take i).map row).flatten ++ (((m x).take j).filter (f x)).map (g x))
    refine ⟨fun j k H6 => k = (m x).length - j ∧ j ≤ (m x).length ∧ Pv1 j H6, ⟨(m x).length, by simp, Nat.zero_le _, e25, Tu.refl _, zs, e5 _ _ (e4 _ _ hDl), by
      rw [List.take_zero, List.filter_nil, List.map_nil, List.append_nil]
      exact pup (e4.trans e5) hzs⟩, ?_⟩
    rintro j k H6 ⟨rfl, hj, e6, t6, zs6, hD6, hz6⟩
    by_cases hjt : j < (m x).length
    · refine .inr ⟨w1.goes j H6 hjt (gs1 H6 t6), Pv1 (j + 1), fun H' p' => ⟨(m x).length - (j + 1), by omega, rfl, hjt, p'⟩, fun u H7 y1 => ?_⟩
      obtain ⟨y, hy, e7, ry⟩ := ys1 j H6 u H7 hjt t6 (w1.yields j H6 u H7 hjt (gs1 H6 t6) y1)
      have hmy : y ∈ m x := List.mem_of_getElem? hy
      have e27 : Ex H2 H7 := e6.trans e7
      have t57 : Tu H5 H7 := t6.trans (Tu.ex e7)
      have rx7 : R H7 v x := imm ((Tu.ex e5).trans t57) rx
      obtain ⟨hb1, hb2⟩ := body v x u y H7 hmem hmy ((e1.trans e2).trans e27) rx7 ry
      refine ⟨hw1 v u, hb1 H7 (Ex.refl H7) _ fun H8 e8 => ?_⟩
      have hD8 : H8 D = some (.lst zs6) := e8 _ _ (e7 _ _ hD6)
      have zlen : zs6.length < sizeLine := by
        have a1 := pr_len hz6
        rw [List.length_append, List.length_map] at a1
        have a2 := flat_len (f := row) (n := 1000) (l.take i) fun x hx => hrow x (List.mem_of_mem_take hx)
        have a3 : (((m x).take j).filter (f x)).length ≤ 1000 := Nat.le_trans (List.length_filter_le _ _) (by rw [List.length_take]; have := hz1 x hmem; omega)
        have a4 : (l.take i).length * 1000 ≤ 1000 * 1000 := Nat.mul_le_mul_right _ (by rw [List.length_take]; omega)
        exact Nat.lt_of_le_of_lt (by omega : zs6.length ≤ 1001000) (by decide)
      have fs : (((m x).take (j + 1)).filter (f x)).map (g x) = (((m x).take j).filter (f x)).map (g x) ++ (if f x y = true then [g x y] else []) := filt_snoc hy
      cases hf : f x y with
      | true =>
        show te _ H8 _
        refine hb2 hf H8 e8 _ fun z H9 e9 rz => ⟨zs6, e9 _ _ hD8, zlen, Ex.mut ((e27.trans e8).trans e9) hD, (t57.trans (Tu.ex (e8.trans e9))).trans (Tu.lst (e9 _ _ hD8)), _, upd_same, ?_⟩
        rw [fs, hf, if_pos rfl, ← List.append_assoc]
        exact pr_snoc (pr_imp (pup ((e7.trans e8).trans e9) hz6) fun _ _ r => imm (Tu.lst (e9 _ _ hD8)) r) (imm (Tu.lst (e9 _ _ hD8)) rz)
      | false =>
        show Pv1 (j + 1) H8
        refine ⟨e27.trans e8, t57.trans (Tu.ex e8), zs6, hD8, ?_⟩
        rw [fs, hf, if_neg Bool.false_ne_true, List.append_nil]
        exact pup (e7.trans e8) hz6
    · have e : j = (m x).length := by omega
      subst e
      refine .inl ⟨w1.stops H6 (gs1 H6 t6), e6, zs6, hD6, ?_⟩
      rw [List.take_length] at hz6
      rw [take_flat hx]
      exact hz6
  · have e : i = l.length := by omega
    subst e
    rw [List.take_length] at hzs
    exact .inl ⟨w.stops H3 (gs H3 eD), q D zs H3 (fresh_back e2 hD) (e2.trans eD) hDl hzs⟩

/-! ### the target a name, a pair of names -/
section
variable {wi : TI} {a b : Nat} {tt : TT} {te : TE} {vs : List Nat} {K : PySem.W.Frag}
theorem el_lcN (f : α → Bool) (g : α → β) (h : EI wi σ H R l) (hz : l.length ≤ 1000000) [Mon S] [Imm S] (hw : ∀ v, wipe ((wipe σ vs).set a (some v)) vs = wipe σ vs)
    (turn : ∀ v x H1, x ∈ l → Ex H H1 → R H1 v x → EvT tt ((wipe σ vs).set a (some v)) H1 (f x) ∧ (f x = true → ET te ((wipe σ vs).set a (some v)) H1 S (g x))) : EL (tLc wi (gName a) tt te vs) σ H S ((l.filter f).map g) :=
  el_lc f g h hz fun v x H1 hm e r => ⟨(wipe σ vs).set a (some v), fun _ q => q, hw v, turn v x H1 hm e r⟩
theorem el_mapN (g : α → β) (h : EI wi σ H R l) (hz : l.length ≤ 1000000) [Mon S] [Imm S] (hw : ∀ v, wipe ((wipe σ vs).set a (some v)) vs = wipe σ vs)
    (turn : ∀ v x H1, x ∈ l → Ex H H1 → R H1 v x → ET te ((wipe σ vs).set a (some v)) H1 S (g x)) : EL (tLc wi (gName a) tYes te vs) σ H S (l.map g) :=
  el_map g h hz fun v x H1 hm e r => ⟨(wipe σ vs).set a (some v), fun _ q => q, hw v, turn v x H1 hm e r⟩
/-- items that may lean on lists, D the list being made -/
theorem el_lcND (f : α → Bool) (g : α → β) (h : EI wi σ H R l) (hz : l.length ≤ 1000000) [Mon S] (hw : ∀ v, wipe ((wipe σ vs).set a (some v)) vs = wipe σ vs)
    (turn : ∀ v x H1, x ∈ l → Ex H H1 → R H1 v x → EvT tt ((wipe σ vs).set a (some v)) H1 (f x) ∧ (f x = true → ∀ D zs H2, Ex H1 H2 → H2 D = some (.lst zs) → ET te ((wipe σ vs).set a (some v)) H2 (Off D S) (g x))) : EL (tLc wi (gName a) tt te vs) σ H S ((l.filter f).map g) :=
  el_lcD f g h hz fun v x H1 hm e r => ⟨(wipe σ vs).set a (some v), fun _ q => q, hw v, turn v x H1 hm e r⟩
theorem el_mapND (g : α → β) (h : EI wi σ H R l) (hz : l.length ≤ 1000000) [Mon S] (hw : ∀ v, wipe ((wipe σ vs).set a (some v)) vs = wipe σ vs)
    (turn : ∀ v x H1, x ∈ l → Ex H H1 → R H1 v x → ∀ D zs H2, Ex H1 H2 → H2 D = some (.lst zs) → ET te ((wipe σ vs).set a (some v)) H2 (Off D S) (g x)) : EL (tLc wi (gName a) tYes te vs) σ H S (l.map g) :=
  (el_lcND (fun _ => true) g h hz hw fun v x H1 hm e r => ⟨fun _ _ _ q => q _ (Ex.refl _), fun _ => turn v x H1 hm e r⟩).is (by rw [List.filter_eq_self.mpr (by simp)])
theorem el_lcP {R1 : Rp α} {R2 : Rp β} {l : List (α × β)} (f : α × β → Bool) (g : α × β → γ) (h : EI wi σ H (Rpr R1 R2) l) (hz : l.length ≤ 1000000) [Mon U] [Imm U] (hw : ∀ u v, wipe (((wipe σ vs).set a (some u)).set b (some v)) vs = wipe σ vs)
    (turn : ∀ u v x H1, x ∈ l → Ex H H1 → R1 H1 u x.1 → R2 H1 v x.2 → EvT tt (((wipe σ vs).set a (some u)).set b (some v)) H1 (f x) ∧ (f x = true → ET te (((wipe σ vs).set a (some u)).set b (some v)) H1 U (g x))) : EL (tLc wi (gTup K 2 (gCons (gName a) (gCons (gName b) gNil))) tt te vs) σ H U ((l.filter f).map g) :=
  el_lc f g h hz fun v x H1 hm e ⟨p, u, w, hv, hp, h1, h2⟩ => ⟨((wipe σ vs).set a (some u)).set b (some w), fun _ q => ⟨p, [u, w], hv, st_of hp, rfl, u, [w], rfl, w, [], rfl, rfl, q⟩, hw u w, turn u w x H1 hm e h1 h2⟩
theorem el_mapP {R1 : Rp α} {R2 : Rp β} {l : List (α × β)} (g : α × β → γ) (h : EI wi σ H (Rpr R1 R2) l) (hz : l.length ≤ 1000000) [Mon U] [Imm U] (hw : ∀ u v, wipe (((wipe σ vs).set a (some u)).set b (some v)) vs = wipe σ vs)
    (turn : ∀ u v x H1, x ∈ l → Ex H H1 → R1 H1 u x.1 → R2 H1 v x.2 → ET te (((wipe σ vs).set a (some u)).set b (some v)) H1 U (g x)) : EL (tLc wi (gTup K 2 (gCons (gName a) (gCons (gName b) gNil))) tYes te vs) σ H U (l.map g) :=
  (el_lcP (fun _ => true) g h hz hw fun u v x H1 hm e r1 r2 => ⟨fun _ _ _ q => q _ (Ex.refl _), fun _ => turn u v x H1 hm e r1 r2⟩).is (by rw [List.filter_eq_self.mpr (by simp)])
end
end
end Ct
/-! # The walks: values, standings (1) -/
namespace Ct
open PySem PySem.Spec PyProof.Rows L2 Evl
section
variable {α β γ δ : Type} {R : Rp α} {S : Rp β} {T : Rp γ} {U : Rp δ} {pr1 : α → Prop} {pr2 : α → β → Prop} {pr3 : α → β → γ → Prop}
theorem l2' {f : α → β → δ} {n : Nat} (hn : n = 2) : ∀ vs H Q E, Sp2 R S U pr2 f vs H Q E → vs.length = n := fun _ _ _ _ ⟨_, _, _, _, h, _⟩ => by rw [h, hn]; rfl
theorem l3' {f : α → β → γ → δ} {n : Nat} (hn : n = 3) : ∀ vs H Q E, Sp3 R S T U pr3 f vs H Q E → vs.length = n := fun _ _ _ _ ⟨_, _, _, _, _, _, h, _⟩ => by rw [h, hn]; rfl
theorem l1L' {f : α → List δ} {n : Nat} (hn : n = 1) : ∀ vs H Q E, Sp1L R U pr1 f vs H Q E → vs.length = n := fun _ _ _ _ ⟨_, _, h, _⟩ => by rw [h, hn]; rfl
theorem l2L' {f : α → β → List δ} {n : Nat} (hn : n = 2) : ∀ vs H Q E, Sp2L R S U pr2 f vs H Q E → vs.length = n := fun _ _ _ _ ⟨_, _, _, _, h, _⟩ => by rw [h, hn]; rfl
theorem l3L' {f : α → β → γ → List δ} {n : Nat} (hn : n = 3) : ∀ vs H Q E, Sp3L R S T U pr3 f vs H Q E → vs.length = n := fun _ _ _ _ ⟨_, _, _, _, _, _, h, _⟩ => by rw [h, hn]; rfl
end
/-! ### the exchange -/
def RX (K : PySem.W.Frag) : Rp EX := fun H v e => ∃ p dx fs u1 u2, v = .ref p ∧ H p = some (.ins (He.ga K "Exchange") dx fs) ∧ fs.lookup ("ins" : Str) = some u1 ∧ fs.lookup ("outs" : Str) = some u2 ∧ fs.lookup ("middles" : Str) = some (.int e.mid) ∧ fs.lookup ("pairs" : Str) = none ∧ Rtup Ri H u1 e.ins ∧ Rtup Ri H u2 e.outs
instance {K : PySem.W.Frag} : Mon (RX K) := ⟨fun e ⟨p, dx, fs, u1, u2, h1, h2, h3, h4, h5, h6, h7, h8⟩ => ⟨p, dx, fs, u1, u2, h1, e _ _ h2, h3, h4, h5, h6, up e h7, up e h8⟩⟩
section
variable {P : Program} {w : World} {K : PySem.W.Frag} {mg : Str → Option Value} {base : Heap} {σ : L2.St} {H : Hp} {ta : TE} {e : EX}
theorem et_ins (T : Txt K mg) (h : ET ta σ H (RX K) e) : ET (tFld K ta "ins") σ H (Rtup Ri) e.ins := fun H1 e1 Q q => h H1 e1 _ fun v H2 e2 ⟨p, dx, fs, u1, u2, h1, h2, h3, h4, h5, h6, h7, h8⟩ => ⟨p, _, dx, fs, u1, h1, h2, T.c_Exchange, T.a_Exchange_ins, h3, q _ H2 e2 h7⟩
theorem et_outs (T : Txt K mg) (h : ET ta σ H (RX K) e) : ET (tFld K ta "outs") σ H (Rtup Ri) e.outs := fun H1 e1 Q q => h H1 e1 _ fun v H2 e2 ⟨p, dx, fs, u1, u2, h1, h2, h3, h4, h5, h6, h7, h8⟩ => ⟨p, _, dx, fs, u2, h1, h2, T.c_Exchange, T.a_Exchange_outs, h4, q _ H2 e2 h8⟩
theorem et_mid (T : Txt K mg) (h : ET ta σ H (RX K) e) : ET (tFld K ta "middles") σ H Ri e.mid := fun H1 e1 Q q => h H1 e1 _ fun v H2 e2 ⟨p, dx, fs, u1, u2, h1, h2, h3, h4, h5, h6, h7, h8⟩ => ⟨p, _, dx, fs, _, h1, h2, T.c_Exchange, T.a_Exchange_middles, h5, q _ H2 e2 rfl⟩
/-! ### ints -/
theorem et_add {ta tb : TE} {i j : Int} (h1 : ET ta σ H Ri i) (h2 : ET tb σ H Ri j) : ET (tOp (rI0 fun i j => .int (i + j)) ta tb) σ H Ri (i + j) := et_i (etI h1 h2)
theorem et_sub {ta tb : TE} {i j : Int} (h1 : ET ta σ H Ri i) (h2 : ET tb σ H Ri j) : ET (tOp (rI0 fun i j => .int (i - j)) ta tb) σ H Ri (i - j) := et_i (etI h1 h2)
theorem et_cmp {ta tb : TE} {i j : Int} {r : Int → Int → Bool} (h1 : ET ta σ H Ri i) (h2 : ET tb σ H Ri j) : ET (tOp (rI0 fun i j => .bl (r i j)) ta tb) σ H Rb (r i j) := et_b (etI h1 h2)
theorem et_eqI {ta tb : TE} {i j : Int} (h1 : ET ta σ H Ri i) (h2 : ET tb σ H Ri j) : ET (tOp rEq ta tb) σ H Rb (decide (i = j)) := (et_b (ev_op (ev_i h1) (ev_i h2) (rv_eq rfl))).is (by by_cases h : i = j <;> simp [h])
theorem et_neI {ta tb : TE} {i j : Int} (h1 : ET ta σ H Ri i) (h2 : ET tb σ H Ri j) : ET (tOp rNe ta tb) σ H Rb (!decide (i = j)) := (et_b (ev_op (ev_i h1) (ev_i h2) (rv_ne rfl))).is (by by_cases h : i = j <;> simp [h])
theorem et_neB {ta tb : TE} {i j : Bool} (h1 : ET ta σ H Rb i) (h2 : ET tb σ H Rb j) : ET (tOp rNe ta tb) σ H Rb (!decide (i = j)) := (et_b (ev_op (ev_b h1) (ev_b h2) (rv_ne rfl))).is (by cases i <;> cases j <;> rfl)
theorem et_andV {ta tb : TE} {a b : Bool} (h1 : ET ta σ H Rb a) (h2 : a = true → ET tb σ H Rb b) : ET (tAndV ta tb) σ H Rb (a && b) := et_b (ev_andV (ev_b h1) fun h => ev_b (h2 h))
theorem et_orV {ta tb : TE} {a b : Bool} (h1 : ET ta σ H Rb a) (h2 : a = false → ET tb σ H Rb b) : ET (tOrV ta tb) σ H Rb (a || b) := et_b (ev_orV (ev_b h1) fun h => ev_b (h2 h))
theorem et_notV {ta : TE} {a : Bool} (h1 : ET ta σ H Rb a) : ET (tNotV ta) σ H Rb (!a) := et_b (ev_notV (ev_b h1))
theorem eT {ta : TE} {a : Bool} (h : ET ta σ H Rb a) : EvT (tTest ta) σ H a := et_test (ev_b h)
theorem eB {ta : TE} {a : Bool} (h : ET ta σ H Rb a) : EvT (tB ta) σ H a := et_B (ev_b h)
theorem et_chain {ta tb tc : TE} {i j k : Int} {r r' : Int → Int → Bool} (h1 : ET ta σ H Ri i) (h2 : ET tb σ H Ri j) (h3 : ET tc σ H Ri k) : ET (tChain (rI0 fun i j => .bl (r i j)) (rI0 fun i j => .bl (r' i j)) ta tb tc) σ H Rb (r i j && r' j k) := by
  intro H1 e1 Q q
  refine h1 H1 e1 _ fun v H2 e2 hv => h2 H2 (e1.trans e2) _ fun u H3 e3 hu => ?_
  cases hv
  cases hu
  refine ⟨i, j, rfl, rfl, r i j, rfl, ?_⟩
  cases hr : r i j with
  | false => exact q _ H3 (e2.trans e3) (by rw [hr]; rfl)
  | true =>
    refine h3 H3 ((e1.trans e2).trans e3) _ fun t H4 e4 ht => ?_
    cases ht
    exact ⟨j, k, rfl, rfl, q _ H4 ((e2.trans e3).trans e4) (by rw [hr, Bool.true_and]; rfl)⟩
/-! ### is_integer, within -/
theorem sc_is_integer : FnScope ["thing"] ["thing"] (defScope s_is_integer) := ⟨rfl, rfl, rfl, by decide +kernel, rfl, by decide +kernel, by decide +kernel⟩
theorem ok_is_integer (T : Txt K mg) : Cal P w K mg base 1 "is_integer" (Sp1 Ri Rb (fun _ => True) fun _ => true) := by
  refine cal_of T.d_is_integer (fun _ _ _ _ _ _ us hl => match us, hl with | [_], _ => rfl) sc_is_integer (Sp1.len' rfl) (fun cdv f A outer s H vs Q E hr h => ?_)
  obtain ⟨v, x, rfl, rx, _, q⟩ := h
  refine ⟨_, (pss_one (ps_ret (pe_and (pe_callB (k_isi K) (by rfl) T.n_isinstance (by decide +kernel) (pa_cons (pv 0) (pa_cons (pe_bltn (v := .ty "int") (by rfl) T.n_int (by decide +kernel) rfl) pa_nil))) (pe_one (pe_not (pe_callB (k_isi K) (by rfl) T.n_isinstance (by decide +kernel) (pa_cons (pv 0) (pa_cons (pe_bltn (v := .ty "bool") (by rfl) T.n_bool (by decide +kernel) rfl) pa_nil)))))))), ?_⟩
  exact j_ret (et_andV (et_isi (et_var rfl rx) (kit_ty (b := "int") (r := true) (by decide +kernel))) fun _ => et_notV (et_isi (et_var rfl rx) (kit_ty (b := "bool") (r := false) (by decide +kernel)))) fun v H1 e r => q v H1 e r
theorem sc_within : FnScope ["thing", "low", "high"] ["thing", "low", "high"] (defScope s_within) := ⟨rfl, rfl, rfl, by decide +kernel, rfl, by decide +kernel, by decide +kernel⟩
theorem ok_within (T : Txt K mg) : Cal P w K mg base 2 "within" (Sp3 Ri Ri Ri Rb (fun _ _ _ => True) fun x lo hi => decide (lo ≤ x) && decide (x ≤ hi)) := by
  refine cal_of T.d_within (fun _ _ _ _ _ _ us hl => match us, hl with | [_, _, _], _ => rfl) sc_within (l3' rfl) (fun cdv f A outer s H vs Q E hr h => ?_)
  have c_is_integer := ok_is_integer (P := P) (w := w) (base := base) T
  obtain ⟨v1, v2, v3, x, lo, hi, rfl, r1, r2, r3, _, q⟩ := h
  refine ⟨_, (pss_one (ps_ret (pe_and (C8.pe_c c_is_integer hr (by decide) (by rfl) (pa_cons (pv 0) pa_nil)) (pe_one (pe_chain op_le op_le (pv 1) (pv 0) (pv 2)))))), ?_⟩
  exact j_ret ((et_andV (et_call1 (et_var rfl r1) trivial) fun _ => et_chain (et_var rfl r2) (et_var rfl r1) (et_var rfl r3)).is (by rw [Bool.true_and])) fun v H1 e r => q v H1 e r
end
end Ct
set_option maxHeartbeats 4000000
/-! # The walks: standings (2) -/
namespace Ct
open PySem PySem.Spec PyProof.Rows L2 Evl
section
variable {α β γ δ : Type} {K : PySem.W.Frag} {te ta tb tc : TE} {tr : TA} {tt : TT} {σ : L2.St} {H H' : Hp} {R : Rp α} {S : Rp β} {T : Rp γ} {x : α} {y : β} {z : γ} {v : V} {l m : List α} {D : Ends} {t1 t2 tz : TS} {g : TG}
theorem k_no (h : EvT tt σ H false) (k : ∀ H1, Ex H H1 → tz D σ H1) : tSeq (tIfS tt t1 tNext) tz D σ H := k_when h (fun q => by cases q) fun _ => k
theorem j_no (h : EvT tt σ H false) (k : ∀ H1, Ex H H1 → D.nx σ H1) : tIfS tt t1 tNext D σ H := j_when h (fun q => by cases q) fun _ => k
theorem et_lenset {ns : List Int} (h : ET ta σ H (Rlst Ri) ns) (hn : ns.Nodup) (hz : ns.length ≤ 4000) : ET (RZ.tLenSetI K ta) σ H Ri (ns.length : Int) := fun H1 e Q q =>
  h H1 e _ fun v H2 e2 ⟨a, xs, hv, ha, hx⟩ => ⟨a, ns, hv, by rw [← pr_ints hx]; exact sq_of ha, hn, hz, q _ H2 e2 rfl⟩
theorem et_rep {k : Int} [Mon R] (ha : ET ta σ H (Rtup R) l) (hb : ET tb σ H Ri k) (hne : l ≠ []) (h1 : 1 ≤ k ∧ k ≤ 1000) (hz : l.length ≤ 1000) : ET (tOp (rRepA K) ta tb) σ H (Rtup R) (List.replicate k.toNat l).flatten := fun H1 e Q q =>
  ha H1 e _ fun v H2 e2 ⟨a, xs, hv, ha, hx⟩ => hb H2 (e.trans e2) _ fun w H3 e3 hw => by
    cases hw
    have n1 := pr_len hx
    have hx3 := pup e3 hx
    refine ⟨a, k, xs, hv, rfl, e3 _ _ ha, fun z => hne (by subst z; cases hx; rfl), h1.1, h1.2, by omega, fun z => ?_, fun z p hp => ?_⟩
    · subst z
      refine q _ H3 (e2.trans e3) ⟨a, xs, rfl, e3 _ _ ha, ?_⟩
      show Paired (R H3) xs (List.replicate 1 l).flatten
      simpa using hx3
    · refine q _ _ ((e2.trans e3).trans (Ex.new hp)) ⟨p, _, rfl, upd_same, ?_⟩
      have : ∀ n : Nat, Paired (R (upd H3 p (.tup (List.replicate k.toNat xs).flatten))) (List.replicate n xs).flatten (List.replicate n l).flatten := fun n => by
        induction n with
        | zero => exact .nil
        | succ n ih =>
          rw [List.replicate_succ, List.flatten_cons, List.replicate_succ, List.flatten_cons]
          exact pr_app (pup (Ex.new hp) hx3) ih
      exact this _
theorem el_star1 [Mon R] (ha : ET ta σ H (Rtup R) l) (hb : ET tb σ H R x) (hz : l.length ≤ 1000000) : EL (tLst (StX.tStar K ta (tCons tb tNil))) σ H R (l ++ [x]) := fun H1 e Q q =>
  ha H1 e _ fun v H2 e2 ⟨a, xs, hv, ha, hx⟩ => ⟨a, xs, hv, .inl (st_of ha), hb H2 (e.trans e2) _ fun w H3 e3 hw => by
    have n1 := pr_len hx
    refine ⟨Nat.le_trans (by simp only [List.length_append, List.length_singleton]; omega : (xs ++ [w]).length ≤ 1000001) (by decide), fun p hp => q p _ _ (fresh_back (e2.trans e3) hp) ((e2.trans e3).trans (Ex.new hp)) upd_same (pr_snoc (pup (e3.trans (Ex.new hp)) hx) (up (Ex.new hp) hw))⟩⟩
end
section
variable {P : Program} {w : World} {K : PySem.W.Frag} {mg : Str → Option Value} {base : Heap}
/-! ### is_pair -/
theorem sc_is_pair : FnScope ["exchange", "thing"] ["exchange", "thing"] (defScope s_is_pair) := ⟨rfl, rfl, rfl, by decide +kernel, rfl, by decide +kernel, by decide +kernel⟩
theorem ok_is_pair (T : Txt K mg) : Cal P w K mg base 3 "is_pair" (Sp2 (RX K) Rp2 Rb (fun e p => InP e.ins.length e.outs.length p) fun _ _ => true) := by
  refine cal_of T.d_is_pair (fun _ _ _ _ _ _ us hl => match us, hl with | [_, _], _ => rfl) sc_is_pair (l2' rfl) (fun cdv f A outer s H vs Q E hr h => ?_)
  have c_within := ok_within (P := P) (w := w) (base := base) T
  obtain ⟨v1, v2, e, p, rfl, r1, r2, hp, q⟩ := h
  obtain ⟨⟨a1, a2⟩, a3, a4⟩ := hp
  refine ⟨_, (pss_cons (ps_if (PW.pt (pw_or (pt_not (pt_val (pe_callB (k_isi K) (by rfl) T.n_isinstance (by decide +kernel) (pa_cons (pv 1) (pa_cons (pe_bltn (v := .ty "tuple") (by rfl) T.n_tuple (by decide +kernel) rfl) pa_nil))))) (pw_or1 (pt_cmpR op_ne (pe_callB (k_len K) (by rfl) T.n_len (by decide +kernel) (pa_cons (pv 1) pa_nil)) pe_int (nomark _)))))
      (pss_one (ps_ret pe_bl)) pss_nil)
    (pss_one (ps_ret (pe_and (C8.pe_c c_within hr (by decide) (by rfl) (pa_cons (pe_ix (k_ixT K) (pv 1) pe_int (fun _ _ => rfl)) (pa_cons pe_int (pa_cons (pe_op op_sub (pe_callB (k_len K) (by rfl) T.n_len (by decide +kernel) (pa_cons (k_fld K (pv 0) rfl) pa_nil)) pe_int) pa_nil)))) (pe_one (C8.pe_c c_within hr (by decide) (by rfl) (pa_cons (pe_ix (k_ixT K) (pv 1) pe_int (fun _ _ => rfl)) (pa_cons pe_int (pa_cons (pe_op op_sub (pe_callB (k_len K) (by rfl) T.n_len (by decide +kernel) (pa_cons (k_fld K (pv 0) rfl) pa_nil)) pe_int) pa_nil))))))))), ?_⟩
  refine k_no (et_is (et_or (et_not (eB (et_isi (et_var rfl r2) (kit_ty (b := "tuple") (r := true) (by decide +kernel))))) fun _ => eT (et_neI (et_len2 (et_var rfl r2)) et_int)) (by decide)) fun H1 e1 => ?_
  have r1 := up e1 r1
  have r2 := up e1 r2
  refine j_ret ((et_andV (et_call3 (et_p0 (et_var rfl r2)) et_int (et_sub (et_len (et_ins T (et_var rfl r1))) et_int) trivial) fun _ => et_call3 (et_p1 (et_var rfl r2)) et_int (et_sub (et_len (et_outs T (et_var rfl r1))) et_int) trivial).is ?_) fun v H2 e2 r => q v H2 (e1.trans e2) r
  simp only [Bool.and_eq_true, decide_eq_true_eq]
  exact ⟨⟨a1, by omega⟩, a3, by omega⟩
/-! ### is_load -/
theorem sc_is_load : FnScope ["exchange", "thing", "k", "pair"] ["exchange", "thing"] (defScope s_is_load) := ⟨rfl, rfl, rfl, by decide +kernel, rfl, by decide +kernel, by decide +kernel⟩
theorem ok_is_load (T : Txt K mg) : Cal P w K mg base 4 "is_load" (Sp2 (RX K) Rld Rb (fun e l => LdOk e.ins.length e.outs.length l ∧ e.ins.length ≤ 1000) fun _ _ => true) := by
  refine cal_of T.d_is_load (fun _ _ _ _ _ _ us hl => match us, hl with | [_, _], _ => rfl) sc_is_load (l2' rfl) (fun cdv f A outer s H vs Q E hr h => ?_)
  have c_is_pair := ok_is_pair (P := P) (w := w) (base := base) T
  obtain ⟨v1, v2, e, l, rfl, r1, r2, ⟨hl, hn⟩, q⟩ := h
  have hlen : l.length ≤ 1000 := Nat.le_trans hl.len hn
  refine ⟨_, (pss_cons (ps_if (pt_not (pt_val (pe_callB (k_isi K) (by rfl) T.n_isinstance (by decide +kernel) (pa_cons (pv 1) (pa_cons (pe_bltn (v := .ty "tuple") (by rfl) T.n_tuple (by decide +kernel) rfl) pa_nil)))))
      (pss_one (ps_ret pe_bl)) pss_nil)
    (pss_cons (ps_if (pt_not (pt_val (pe_callB (k_all K) (by rfl) T.n_all (by decide +kernel) (pa_cons (pe_lc (own := [("pair", 3)]) (g := (gName 3)) (tt := tYes) rfl sc_is_load.nd (k_piT K (pv 1)) (blkOk_by (own := [("pair", 3)]) (N := ["exchange", "thing", "k", "pair"]) (sc := defScope s_is_load) (by decide +kernel)) (fun _ _ _ _ _ => (pg_name (i := 3) sc_is_load.nd rfl (Or.inl rfl))) (fun _ _ _ _ _ => pts_nil) (fun _ _ _ _ _ => (C8.pe_c c_is_pair hr (by decide) (by rfl) (pa_cons (pv 0) (pa_cons (pv 3) pa_nil))))) pa_nil))))
      (pss_one (ps_ret pe_bl)) pss_nil)
    (pss_cons (ps_for PassesOwn.never rfl (pi_range2 (by rfl) T.n_range (pa_cons pe_int (pa_cons (pe_callB (k_len K) (by rfl) T.n_len (by decide +kernel) (pa_cons (pv 1) pa_nil)) pa_nil))) (pg_name (i := 2) sc_is_load.nd rfl (Or.inl rfl))
      (pss_one (ps_if (pt_cmpR op_ge (pe_ix (k_ixT K) (pe_ix (k_ixT K) (pv 1) (pe_op op_sub (pv 2) pe_int) (fun _ _ => rfl)) pe_int (fun _ _ => rfl)) (pe_ix (k_ixT K) (pe_ix (k_ixT K) (pv 1) (pv 2) (fun _ _ => rfl)) pe_int (fun _ _ => rfl)) (nomark _))
        (pss_one (ps_ret pe_bl)) pss_nil)))
    (pss_one (ps_ret (pe_cmpR op_eq (RZ.pe_lenSetI (by rfl) T.n_len (by rfl) T.n_set (pe_lc (own := [("pair", 3)]) (g := (gName 3)) (tt := tYes) rfl sc_is_load.nd (k_piT K (pv 1)) (blkOk_by (own := [("pair", 3)]) (N := ["exchange", "thing", "k", "pair"]) (sc := defScope s_is_load) (by decide +kernel)) (fun _ _ _ _ _ => (pg_name (i := 3) sc_is_load.nd rfl (Or.inl rfl))) (fun _ _ _ _ _ => pts_nil) (fun _ _ _ _ _ => (pe_ix (k_ixT K) (pv 3) pe_int (fun _ _ => rfl))))) (pe_callB (k_len K) (by rfl) T.n_len (by decide +kernel) (pa_cons (pv 1) pa_nil)) (nomark _))))))), ?_⟩
  refine k_no (et_is (et_not (eB (et_isi (et_var rfl r2) (kit_ty (b := "tuple") (r := true) (by decide +kernel))))) rfl) fun H1 e1 => ?_
  have r1 := up e1 r1
  have r2 := up e1 r2
  refine k_no (et_is (et_not (eB (et_all (el_mapN (fun _ => true) (ei_tup (et_var rfl r2)) (by omega) (fun _ => rfl) fun v x H2 hx e2 rx => et_call2 (et_var rfl (up e2 r1)) (et_var rfl rx) (hl.inp x hx)).et))) (by simp)) fun H2 e2 => ?_
  have r1 := up e2 r1
  have r2 := up e2 r2
  refine j_forR2 et_int (et_len (et_var rfl r2)) (by omega) (by omega) fun H3 e3 => ⟨fun i σ' H' => ∃ a b, σ' = [some v1, some v2, a, b] ∧ Ex H3 H', ⟨none, none, rfl, Ex.refl _⟩, ?_, ?_⟩
  · rintro i σ' H' hi ⟨a, b, rfl, e4⟩
    have r2 := up (e3.trans e4) r2
    have h1 : i + 1 < l.length := by omega
    have h0 : i < l.length := by omega
    have k1 : (some (V.int (1 + (i : Int)))) = some (V.int ((i + 1 : Nat) : Int)) := by rw [show ((i + 1 : Nat) : Int) = 1 + (i : Int) by omega]
    have g1 : ((1 : Int) + (i : Int)) = ((i + 1 : Nat) : Int) := by omega
    have g0 : ((1 : Int) + (i : Int)) - 1 = ((i : Nat) : Int) := by omega
    refine j_no (et_is (eT (et_cmp (et_p0 (et_ixT (et_var rfl r2) (et_sub (et_var rfl rfl) et_int) (by rw [g0]; exact atI_of (List.getElem?_eq_getElem h0)))) (et_p0 (et_ixT (et_var rfl r2) (et_var rfl rfl) (by rw [g1]; exact atI_of (List.getElem?_eq_getElem h1)))))) ?_) fun H5 e5 => ⟨_, _, rfl, e4.trans e5⟩
    have := (List.pairwise_iff_getElem.mp hl.inc) i (i + 1) (by simpa using h0) (by simpa using h1) (by omega)
    simp only [List.getElem_map] at this
    simp only [decide_eq_false_iff_not]
    omega
  · rintro σ' H' ⟨a, b, rfl, e4⟩
    have r2 := up (e3.trans e4) r2
    refine j_ret ((et_eqI (et_lenset (el_mapN (fun p : Ct.P => p.2) (ei_tup (et_var rfl r2)) (by omega) (fun _ => rfl) fun v x H2 hx e2 rx => et_p1 (et_var rfl rx)).et hl.nd (by simpa using (by omega : l.length ≤ 4000))) (et_len (et_var rfl r2))).is (by simp)) fun v H5 e5 r => q v H5 ((((e1.trans e2).trans e3).trans e4).trans e5) r
/-! ### load_calls -/
theorem sc_load_calls : FnScope ["standing", "load", "pair"] ["standing"] (defScope s_load_calls) := ⟨rfl, rfl, rfl, by decide +kernel, rfl, by decide +kernel, by decide +kernel⟩
theorem ok_load_calls (T : Txt K mg) : Cal P w K mg base 1 "load_calls" (Sp1L Rsh Rp2 (fun s => s.length ≤ 1000 ∧ ∀ l ∈ s, l.length ≤ 1000) calls) := by
  refine cal_of T.d_load_calls (fun _ _ _ _ _ _ us hl => match us, hl with | [_], _ => rfl) sc_load_calls (l1L' rfl) (fun cdv f A outer s H vs Q E hr h => ?_)
  have hu := hr.units
  obtain ⟨v1, s0, rfl, r1, ⟨h1, h2⟩, q⟩ := h
  refine ⟨_, (pss_one (ps_ret (pe_callB (k_sort K Rp2 (Enc.enc (R := Rp2)) hu) (by rfl) T.n_sorted (by decide +kernel) (pa_cons (pe_lc2 (own := [("load", 1), ("pair", 2)]) (vs1 := [2]) (g := (gName 1)) (g1 := (gName 2)) (tt := tYes) (tt1 := tYes) rfl sc_load_calls.nd (k_piT K (pv 0)) (blkOk_by (own := [("load", 1), ("pair", 2)]) (N := ["standing", "load", "pair"]) (sc := defScope s_load_calls) (by decide +kernel)) (by decide) (fun _ _ _ _ _ => (pg_name (i := 1) sc_load_calls.nd rfl (Or.inl rfl))) (fun _ _ _ _ _ => pts_nil) (fun _ _ _ _ _ => (k_piT K (pv 1))) (fun _ _ _ _ _ => (pg_name (i := 2) sc_load_calls.nd rfl (Or.inl rfl))) (fun _ _ _ _ _ => pts_nil) (fun _ _ _ _ _ => (pv 2))) pa_nil)))), ?_⟩
  refine j_retL ((el_sortL ((el_lc2 (R := Rld) (S := Rp2) (U := Rp2) (fun x : Ld => x) (fun _ _ => true) (fun _ y => y) (ei_tup (et_var rfl r1)) h1 h2 (fun _ => rfl) (fun _ _ => rfl) (fun v x Hx hx ex rx => eit_tup (et_var rfl rx)) (fun v x u y Hy _ _ _ rx ry => ⟨fun _ _ _ q => q _ (Ex.refl _), fun _ => et_var rfl ry⟩)).et)).is ?_) fun p xs H2 hp e2 h3 h4 => q p xs H2 hp e2 h3 h4
  unfold calls
  congr 2
  simp [List.filter_eq_self.mpr]
end
end Ct
/-! # The walks: standings (3) -/
namespace Ct
open PySem PySem.Spec PyProof.Rows L2 Evl
abbrev Rlr : Rp LR := Rpr (Rlst Ri) (Rlst Ri)
/-- a list of ints stands at D0, its items told -/
theorem lst_ints {H : Hp} {D0 : Addr} {xs : List V} {ns : List Int} (h : H D0 = some (.lst xs)) (hx : Paired (Ri H) xs ns) : H D0 = some (.lst (ns.map V.int)) := by rw [h, pr_ints hx]
theorem ints_lst {H : Hp} {D0 : Addr} {ns : List Int} (h : H D0 = some (.lst (ns.map V.int))) : Rlst Ri H (.ref D0) ns := ⟨D0, _, rfl, h, ints_pr H ns⟩
theorem set_dec {l : List Int} {i : Int} (h : i.toNat < l.length) : ∃ n, l[i.toNat]? = some n ∧ l.set i.toNat (n - 1) = dec1 l i := ⟨l.getD i.toNat 0, getD_set h, rfl⟩
theorem less_take {x : LR} {ps : List P} {i : Nat} {p : P} (h : ps[i]? = some p) : lessLR x (ps.take (i + 1)) = (dec1 (lessLR x (ps.take i)).1 p.1, dec1 (lessLR x (ps.take i)).2 p.2) := by
  rw [List.take_add_one, h]
  exact less_snoc x _ p
section
variable {P : Program} {w : World} {K : PySem.W.Frag} {mg : Str → Option Value} {base : Heap}
/-! ### doors_left -/
theorem sc_doors_left : FnScope ["exchange", "pairs", "ins", "outs", "i", "o"] ["exchange", "pairs"] (defScope s_doors_left) := ⟨rfl, rfl, rfl, by decide +kernel, rfl, by decide +kernel, by decide +kernel⟩
theorem ok_doors_left (T : Txt K mg) : Cal P w K mg base 1 "doors_left" (Sp2 (RX K) (Rlst Rp2) Rlr (fun e ps => ps.length ≤ 1000000 ∧ ∀ p ∈ ps, InP e.ins.length e.outs.length p) fun e ps => lessLR (e.ins, e.outs) ps) := by
  refine cal_of T.d_doors_left (fun _ _ _ _ _ _ us hl => match us, hl with | [_, _], _ => rfl) sc_doors_left (l2' rfl) (fun cdv f A outer s H vs Q E hr h => ?_)
  obtain ⟨v1, v2, e, ps, rfl, r1, r2, ⟨hz, hp⟩, q⟩ := h
  refine ⟨_, (pss_cons (ps_set (i := 2) sc_doors_left.nd rfl (Or.inl rfl) (pe_callTy (k_list K) (by rfl) T.n_list (by decide +kernel) (pa_cons (k_fld K (pv 0) rfl) pa_nil)))
    (pss_cons (ps_set (i := 3) sc_doors_left.nd rfl (Or.inl rfl) (pe_callTy (k_list K) (by rfl) T.n_list (by decide +kernel) (pa_cons (k_fld K (pv 0) rfl) pa_nil)))
    (pss_cons (ps_for PassesOwn.never rfl (k_piL K (pv 1)) (pg_tup rfl (pgs_cons (pg_name (i := 4) sc_doors_left.nd rfl (Or.inl rfl)) (pgs_cons (pg_name (i := 5) sc_doors_left.nd rfl (Or.inl rfl)) pgs_nil)))
      (pss_cons (ps_augS (pv 2) (pv 4) (k_get K) pe_int ip_sub set_list)
      (pss_one (ps_augS (pv 3) (pv 5) (k_get K) pe_int ip_sub set_list))))
    (pss_one (ps_ret (pe_tup (pa_cons (pv 2) (pa_cons (pv 3) pa_nil)))))))), ?_⟩
  refine k_setL (el_listT (et_ins T (et_var rfl r1))) fun p1 xs1 H1 hn1 e1 h1 hx1 => ?_
  refine k_setL (el_listT (et_outs T (et_var rfl (up e1 r1)))) fun p2 xs2 H2 hn2 e2 h2 hx2 => ?_
  have n12 : p1 ≠ p2 := fun z => by rw [← z, h1] at hn2; cases hn2
  have e02 : Ex H H2 := e1.trans e2
  refine j_forL (et_var rfl (up e02 r2)) fun p xs H3 e3 hp3 hx3 => ?_
  have e23 : Ex H H3 := e02.trans e3
  obtain ⟨pa, pxs, rfl, hpa, hpx⟩ := r2
  refine ⟨fun i σ' H' => ∃ a b, σ' = [some v1, some (.ref pa), some (.ref p1), some (.ref p2), a, b] ∧ Ex H H' ∧ H' p = some (.lst xs) ∧ Paired (Rp2 H') xs ps ∧ H' p1 = some (.lst ((lessLR (e.ins, e.outs) (ps.take i)).1.map V.int)) ∧ H' p2 = some (.lst ((lessLR (e.ins, e.outs) (ps.take i)).2.map V.int)), ?_, ?_, ?_, ?_⟩
  · exact ⟨none, none, rfl, e23, hp3, hx3, e3 _ _ (e2 _ _ (lst_ints h1 hx1)), e3 _ _ (lst_ints h2 hx2)⟩
  · rintro i σ' H' hi ⟨a, b, rfl, e4, h3, h4, h5, h6⟩
    exact ⟨h3, h4⟩
  · rintro i x v σ' H' hx ⟨a, b, rfl, e4, h3, h4, h5, h6⟩ rx
    have hin := hp x (List.mem_of_getElem? hx)
    obtain ⟨⟨a1, a2⟩, a3, a4⟩ := hin
    have np1 : p ≠ p1 := fun z => by
      have h9 := pr_len h4
      have hh := hp3
      rw [z, e3 _ _ (e2 _ _ (lst_ints h1 hx1))] at hh
      have hxx : xs = e.ins.map V.int := by injection hh with hh; injection hh with hh; exact hh.symm
      obtain ⟨u, hu, ru⟩ := pr_get' h4 hx
      rw [hxx, List.getElem?_map] at hu
      obtain ⟨aa, uu, ww, hv, _⟩ := ru
      cases hg : e.ins[i]? with
      | none => rw [hg] at hu; cases hu
      | some n => rw [hg] at hu; cases hu; cases hv
    have np2 : p ≠ p2 := fun z => by
      have hh := hp3
      rw [z, e3 _ _ (lst_ints h2 hx2)] at hh
      have hxx : xs = e.outs.map V.int := by injection hh with hh; injection hh with hh; exact hh.symm
      obtain ⟨u, hu, ru⟩ := pr_get' h4 hx
      rw [hxx, List.getElem?_map] at hu
      obtain ⟨aa, uu, ww, hv, _⟩ := ru
      cases hg : e.outs[i]? with
      | none => rw [hg] at hu; cases hu
      | some n => rw [hg] at hu; cases hu; cases hv
    have l1 : x.1.toNat < (lessLR (e.ins, e.outs) (ps.take i)).1.length := by rw [less_len1]; show x.1.toNat < e.ins.length; omega
    have l2 : x.2.toNat < (lessLR (e.ins, e.outs) (ps.take i)).2.length := by rw [less_len2]; show x.2.toNat < e.outs.length; omega
    obtain ⟨n1, g1, s1⟩ := set_dec l1
    obtain ⟨n2, g2, s2⟩ := set_dec l2
    refine g_pair rx fun u w hu hw => ?_
    cases hu
    cases hw
    have c1 : x.1 = ((x.1.toNat : Nat) : Int) := by omega
    have c2 : x.2 = ((x.2.toNat : Nat) : Int) := by omega
    have hn1' : H p1 = none := hn1
    have hn2' : H p2 = none := fresh_back e1 hn2
    refine j_dec (D := { nx := _, rt := _, bk := _, ct := _ }) (ev_var rfl) h5 (et_var (x := ((x.1.toNat : Nat) : Int)) rfl (congrArg V.int c1)) g1 fun H5 e5 => ?_
    rw [s1]
    have hp2' : (upd H5 p1 (.lst ((dec1 (lessLR (e.ins, e.outs) (ps.take i)).1 x.1).map V.int))) p2 = some (.lst ((lessLR (e.ins, e.outs) (ps.take i)).2.map V.int)) := by
      rw [upd_ne n12.symm]; exact e5 _ _ h6
    refine j_dec (ev_var rfl) hp2' (et_var (x := ((x.2.toNat : Nat) : Int)) rfl (congrArg V.int c2)) g2 fun H6 e6 => ?_
    rw [s2]
    have t56 : Tu H' (upd H6 p2 (.lst ((dec1 (lessLR (e.ins, e.outs) (ps.take i)).2 x.2).map V.int))) := ((Tu.ex e5).trans (Tu.lst (e5 _ _ h5))).trans ((Tu.ex e6).trans (Tu.lst (e6 _ _ hp2')))
    refine ⟨_, _, rfl, Ex.mut ((Ex.mut (e4.trans e5) hn1').trans e6) hn2', ?_, pr_imp h4 fun _ _ r => imm t56 r, ?_, ?_⟩
    · rw [upd_ne np2]; exact e6 _ _ (by rw [upd_ne np1]; exact e5 _ _ h3)
    · rw [upd_ne n12, less_take hx]; exact e6 _ _ upd_same
    · rw [upd_same, less_take hx]
  · rintro σ' H' ⟨a, b, rfl, e4, h3, h4, h5, h6⟩
    rw [List.take_length] at h5 h6
    exact j_ret (et_pr (et_var rfl (ints_lst h5)) (et_var rfl (ints_lst h6))) fun v H7 e7 r => q v H7 (e4.trans e7) r
/-! ### is_standing -/
theorem sc_is_standing : FnScope ["exchange", "thing", "ins", "outs", "load"] ["exchange", "thing"] (defScope s_is_standing) := ⟨rfl, rfl, rfl, by decide +kernel, rfl, by decide +kernel, by decide +kernel⟩
theorem ok_is_standing (T : Txt K mg) : Cal P w K mg base 5 "is_standing" (Sp2 (RX K) Rsh Rb (fun e s => EOk e ∧ ShOk e s) fun _ _ => true) := by
  refine cal_of T.d_is_standing (fun _ _ _ _ _ _ us hl => match us, hl with | [_, _], _ => rfl) sc_is_standing (l2' rfl) (fun cdv f A outer s H vs Q E hr h => ?_)
  have c_doors_left := ok_doors_left (P := P) (w := w) (base := base) T
  have c_load_calls := ok_load_calls (P := P) (w := w) (base := base) T
  have c_is_load := ok_is_load (P := P) (w := w) (base := base) T
  obtain ⟨v1, v2, e, s0, rfl, r1, r2, ⟨he, hs⟩, q⟩ := h
  have hsl : s0.length ≤ 7 := by have := hs.len; have := he.mid; omega
  refine ⟨_, (pss_cons (ps_if (PW.pt (pw_or (pt_not (pt_val (pe_callB (k_isi K) (by rfl) T.n_isinstance (by decide +kernel) (pa_cons (pv 1) (pa_cons (pe_bltn (v := .ty "tuple") (by rfl) T.n_tuple (by decide +kernel) rfl) pa_nil))))) (pw_or1 (pt_cmpR op_ne (pe_callB (k_len K) (by rfl) T.n_len (by decide +kernel) (pa_cons (pv 1) pa_nil)) (k_fld K (pv 0) rfl) (nomark _)))))
      (pss_one (ps_ret pe_bl)) pss_nil)
    (pss_cons (ps_if (pt_not (pt_val (pe_callB (k_all K) (by rfl) T.n_all (by decide +kernel) (pa_cons (pe_lc (own := [("load", 4)]) (g := (gName 4)) (tt := tYes) rfl sc_is_standing.nd (k_piT K (pv 1)) (blkOk_by (own := [("load", 4)]) (N := ["exchange", "thing", "ins", "outs", "load"]) (sc := defScope s_is_standing) (by decide +kernel)) (fun _ _ _ _ _ => (pg_name (i := 4) sc_is_standing.nd rfl (Or.inl rfl))) (fun _ _ _ _ _ => pts_nil) (fun _ _ _ _ _ => (C8.pe_c c_is_load hr (by decide) (by rfl) (pa_cons (pv 0) (pa_cons (pv 4) pa_nil))))) pa_nil))))
      (pss_one (ps_ret pe_bl)) pss_nil)
    (pss_cons (ps_asg (C8.pe_c c_doors_left hr (by decide) (by rfl) (pa_cons (pv 0) (pa_cons (C8.pe_c c_load_calls hr (by decide) (by rfl) (pa_cons (pv 1) pa_nil)) pa_nil))) (pg_tup rfl (pgs_cons (pg_name (i := 2) sc_is_standing.nd rfl (Or.inl rfl)) (pgs_cons (pg_name (i := 3) sc_is_standing.nd rfl (Or.inl rfl)) pgs_nil))))
    (pss_one (ps_ret (pe_and (pe_cmpR op_ge (pe_callB (k_min K) (by rfl) T.n_min (by decide +kernel) (pa_cons (pv 2) pa_nil)) pe_int (nomark _)) (pe_one (pe_cmpR op_ge (pe_callB (k_min K) (by rfl) T.n_min (by decide +kernel) (pa_cons (pv 3) pa_nil)) pe_int (nomark _))))))))), ?_⟩
  refine k_no (et_is (et_or (et_not (eB (et_isi (et_var rfl r2) (kit_ty (b := "tuple") (r := true) (by decide +kernel))))) fun _ => eT (et_neI (et_len (et_var rfl r2)) (et_mid T (et_var rfl r1)))) (by simp [hs.len])) fun H1 e1 => ?_
  have r1 := up e1 r1
  have r2 := up e1 r2
  refine k_no (et_is (et_not (eB (et_all (el_mapN (fun _ => true) (ei_tup (et_var rfl r2)) (by omega) (fun _ => rfl) fun v x H2 hx e2 rx => et_call2 (et_var rfl (up e2 r1)) (et_var rfl rx) ⟨hs.ld x hx, by have := he.ins; omega⟩).et))) (by simp)) fun H2 e2 => ?_
  have r1 := up e2 r1
  have r2 := up e2 r2
  have hll : ∀ l ∈ s0, l.length ≤ 4 := fun l hl => Nat.le_trans (hs.ld l hl).len he.ins.2
  refine k_par (x := (leftOf e s0).1) (y := (leftOf e s0).2) (et_call2 (et_var rfl r1) (el_call1 (et_var rfl r2) ⟨by omega, fun l hl => by have := hll l hl; omega⟩).et ⟨?_, fun p hp => ?_⟩) fun u1 u2 H3 e3 hu1 hu2 => ?_
  · show (calls s0).length ≤ 1000000
    unfold calls srt
    rw [List.length_mergeSort]
    have := flat_len (f := fun l : Ld => l) (n := 4) s0 hll
    rw [List.map_id'] at this
    omega
  · obtain ⟨l, hl, hpl⟩ := calls_mem hp
    exact (hs.ld l hl).inp p hpl
  · have ne1 : (leftOf e s0).1 ≠ [] := fun z => by have := less_len1 (e.ins, e.outs) (calls s0); have h2 := he.ins; rw [show lessLR (e.ins, e.outs) (calls s0) = leftOf e s0 from rfl, z] at this; simp at this; omega
    have ne2 : (leftOf e s0).2 ≠ [] := fun z => by have := less_len2 (e.ins, e.outs) (calls s0); have h2 := he.outs; rw [show lessLR (e.ins, e.outs) (calls s0) = leftOf e s0 from rfl, z] at this; simp at this; omega
    have g1 := hs.li _ (minI_mem ne1)
    have g2 := hs.lo _ (minI_mem ne2)
    exact j_ret ((et_andV (et_cmp (et_min (et_var rfl hu1) ne1) et_int) fun _ => et_cmp (et_min (et_var rfl hu2) ne2) et_int).is (by simp; omega)) fun v H4 e4 r => q v H4 (((e1.trans e2).trans e3).trans e4) r
end
end Ct
/-! # The walks: standings (4) -/
namespace Ct
open PySem PySem.Spec PyProof.Rows L2 Evl
section
variable {P : Program} {w : World} {K : PySem.W.Frag} {mg : Str → Option Value} {base : Heap} {σ : L2.St} {H : Hp} {ta : TE} {e : EX}
/-! ### need_standing, need_pair, need_doors -/
theorem sc_need_standing : FnScope ["exchange", "standing"] ["exchange", "standing"] (defScope s_need_standing) := ⟨rfl, rfl, rfl, by decide +kernel, rfl, by decide +kernel, by decide +kernel⟩
theorem ok_need_standing (T : Txt K mg) : Cal P w K mg base 6 "need_standing" (Sp2 (RX K) Rsh Rnon (fun e s => EOk e ∧ ShOk e s) fun _ _ => ()) := by
  refine cal_of T.d_need_standing (fun _ _ _ _ _ _ us hl => match us, hl with | [_, _], _ => rfl) sc_need_standing (l2' rfl) (fun cdv f A outer s H vs Q E hr h => ?_)
  have c_is_standing := ok_is_standing (P := P) (w := w) (base := base) T
  obtain ⟨v1, v2, e, s0, rfl, r1, r2, hp, q⟩ := h
  refine ⟨_, (pss_one (ps_if (pt_not (pt_val (C8.pe_c c_is_standing hr (by decide) (by rfl) (pa_cons (pv 0) (pa_cons (pv 1) pa_nil)))))
      (pss_one ps_never) pss_nil)), ?_⟩
  exact j_no (et_is (et_not (eB (et_call2 (et_var rfl r1) (et_var rfl r2) hp))) rfl) fun H1 e1 => q _ H1 e1 rfl
theorem sc_need_pair : FnScope ["exchange", "pair"] ["exchange", "pair"] (defScope s_need_pair) := ⟨rfl, rfl, rfl, by decide +kernel, rfl, by decide +kernel, by decide +kernel⟩
theorem ok_need_pair (T : Txt K mg) : Cal P w K mg base 4 "need_pair" (Sp2 (RX K) Rp2 Rnon (fun e p => InP e.ins.length e.outs.length p) fun _ _ => ()) := by
  refine cal_of T.d_need_pair (fun _ _ _ _ _ _ us hl => match us, hl with | [_, _], _ => rfl) sc_need_pair (l2' rfl) (fun cdv f A outer s H vs Q E hr h => ?_)
  have c_is_pair := ok_is_pair (P := P) (w := w) (base := base) T
  obtain ⟨v1, v2, e, s0, rfl, r1, r2, hp, q⟩ := h
  refine ⟨_, (pss_one (ps_if (pt_not (pt_val (C8.pe_c c_is_pair hr (by decide) (by rfl) (pa_cons (pv 0) (pa_cons (pv 1) pa_nil)))))
      (pss_one ps_never) pss_nil)), ?_⟩
  exact j_no (et_is (et_not (eB (et_call2 (et_var rfl r1) (et_var rfl r2) hp))) rfl) fun H1 e1 => q _ H1 e1 rfl
/-- what calls of a standing meet -/
theorem calls_ok {e : EX} {s : Sh} (he : EOk e) (hs : ShOk e s) : (s.length ≤ 1000 ∧ ∀ l ∈ s, l.length ≤ 1000) ∧ (calls s).length ≤ 1000000 ∧ ∀ p ∈ calls s, InP e.ins.length e.outs.length p := by
  have hsl : s.length ≤ 7 := by have := hs.len; have := he.mid; omega
  have hll : ∀ l ∈ s, l.length ≤ 4 := fun l hl => Nat.le_trans (hs.ld l hl).len he.ins.2
  refine ⟨⟨by omega, fun l hl => by have := hll l hl; omega⟩, ?_, fun p hp => ?_⟩
  · unfold calls srt
    rw [List.length_mergeSort]
    have := flat_len (f := fun l : Ld => l) (n := 4) s hll
    rw [List.map_id'] at this
    omega
  · obtain ⟨l, hl, hpl⟩ := calls_mem hp
    exact (hs.ld l hl).inp p hpl
theorem left_len1 (e : EX) (s : Sh) : (leftOf e s).1.length = e.ins.length := less_len1 _ _
theorem left_len2 (e : EX) (s : Sh) : (leftOf e s).2.length = e.outs.length := less_len2 _ _
theorem atI_D {l : List Int} {i : Int} (h : 0 ≤ i) (h2 : i < (l.length : Int)) : atI l i = some (l.getD i.toNat 0) := by
  obtain ⟨n, rfl⟩ := Int.eq_ofNat_of_zero_le h
  have h3 : n < l.length := by omega
  exact atI_of (l := l) (i := n) (getD_set h3)
theorem sc_need_doors : FnScope ["exchange", "standing", "pair", "ins", "outs"] ["exchange", "standing", "pair"] (defScope s_need_doors) := ⟨rfl, rfl, rfl, by decide +kernel, rfl, by decide +kernel, by decide +kernel⟩
theorem ok_need_doors (T : Txt K mg) : Cal P w K mg base 2 "need_doors" (Sp3 (RX K) Rsh Rp2 Rnon (fun e s p => EOk e ∧ ShOk e s ∧ InP e.ins.length e.outs.length p ∧ (leftOf e s).1.getD p.1.toNat 0 > 0 ∧ (leftOf e s).2.getD p.2.toNat 0 > 0) fun _ _ _ => ()) := by
  refine cal_of T.d_need_doors (fun _ _ _ _ _ _ us hl => match us, hl with | [_, _, _], _ => rfl) sc_need_doors (l3' rfl) (fun cdv f A outer s H vs Q E hr h => ?_)
  have c_doors_left := ok_doors_left (P := P) (w := w) (base := base) T
  have c_load_calls := ok_load_calls (P := P) (w := w) (base := base) T
  obtain ⟨v1, v2, v3, e, s0, p, rfl, r1, r2, r3, ⟨he, hs, ⟨⟨a1, a2⟩, a3, a4⟩, g1, g2⟩, q⟩ := h
  obtain ⟨c1, c2⟩ := calls_ok he hs
  refine ⟨_, (pss_cons (ps_asg (C8.pe_c c_doors_left hr (by decide) (by rfl) (pa_cons (pv 0) (pa_cons (C8.pe_c c_load_calls hr (by decide) (by rfl) (pa_cons (pv 1) pa_nil)) pa_nil))) (pg_tup rfl (pgs_cons (pg_name (i := 3) sc_need_doors.nd rfl (Or.inl rfl)) (pgs_cons (pg_name (i := 4) sc_need_doors.nd rfl (Or.inl rfl)) pgs_nil))))
    (pss_cons (ps_if (pt_cmpR op_eq (pe_ix (k_ixL K) (pv 3) (pe_ix (k_ixT K) (pv 2) pe_int (fun _ _ => rfl)) (fun _ _ => rfl)) pe_int (nomark _))
      (pss_one ps_never) pss_nil)
    (pss_one (ps_if (pt_cmpR op_eq (pe_ix (k_ixL K) (pv 4) (pe_ix (k_ixT K) (pv 2) pe_int (fun _ _ => rfl)) (fun _ _ => rfl)) pe_int (nomark _))
      (pss_one ps_never) pss_nil)))), ?_⟩
  refine k_par (x := (leftOf e s0).1) (y := (leftOf e s0).2) (et_call2 (et_var rfl r1) (el_call1 (et_var rfl r2) c1).et c2) fun u1 u2 H3 e3 hu1 hu2 => ?_
  have r3 := up e3 r3
  refine k_no (et_is (eT (et_eqI (et_ixL (et_var rfl hu1) (et_p0 (et_var rfl r3)) (atI_D a1 (by rw [left_len1]; exact a2))) et_int)) (by simp only [decide_eq_false_iff_not]; omega)) fun H4 e4 => ?_
  exact j_no (et_is (eT (et_eqI (et_ixL (et_var rfl (up e4 hu2)) (et_p1 (et_var rfl (up e4 r3))) (atI_D a3 (by rw [left_len2]; exact a4))) et_int)) (by simp only [decide_eq_false_iff_not]; omega)) fun H5 e5 => q _ H5 ((e3.trans e4).trans e5) rfl
/-! ### empty, fits, put, taken, replaced, as_shape -/
theorem sc_empty : FnScope ["exchange"] ["exchange"] (defScope s_empty) := ⟨rfl, rfl, rfl, by decide +kernel, rfl, by decide +kernel, by decide +kernel⟩
theorem ok_empty (T : Txt K mg) : Cal P w K mg base 1 "empty" (Sp1 (RX K) Rsh EOk emptyOf) := by
  refine cal_of T.d_empty (fun _ _ _ _ _ _ us hl => match us, hl with | [_], _ => rfl) sc_empty (Sp1.len' rfl) (fun cdv f A outer s H vs Q E hr h => ?_)
  obtain ⟨v1, e, rfl, r1, he, q⟩ := h
  refine ⟨_, (pss_one (ps_ret (pe_op (k_rep K) (pe_tup (pa_cons (pe_tup pa_nil) pa_nil)) (k_fld K (pv 0) rfl)))), ?_⟩
  have h1 : EU (tTup (tCons (tTup tNil) tNil)) (L2.start ["exchange"] [v1]) H Rld [([] : Ld)] := eu1 eu_nil.et
  refine j_ret ((et_rep h1.et (et_mid T (et_var rfl r1)) (by simp) (by have := he.mid; omega) (by simp)).is ?_) fun v H1 e1 r => q v H1 e1 r
  show (List.replicate e.mid.toNat [([] : Ld)]).flatten = List.replicate e.mid.toNat []
  generalize e.mid.toNat = n
  induction n with
  | zero => rfl
  | succ n ih => rw [List.replicate_succ, List.flatten_cons, ih]; rfl
theorem sc_fits : FnScope ["load", "pair", "one"] ["load", "pair"] (defScope s_fits) := ⟨rfl, rfl, rfl, by decide +kernel, rfl, by decide +kernel, by decide +kernel⟩
theorem ok_fits (T : Txt K mg) : Cal P w K mg base 1 "fits" (Sp2 Rld Rp2 Rb (fun l _ => l.length ≤ 1000000) fits) := by
  refine cal_of T.d_fits (fun _ _ _ _ _ _ us hl => match us, hl with | [_, _], _ => rfl) sc_fits (l2' rfl) (fun cdv f A outer s H vs Q E hr h => ?_)
  obtain ⟨v1, v2, l, p, rfl, r1, r2, hz, q⟩ := h
  refine ⟨_, (pss_one (ps_ret (pe_callB (k_all K) (by rfl) T.n_all (by decide +kernel) (pa_cons (pe_lc (own := [("one", 2)]) (g := (gName 2)) (tt := tYes) rfl sc_fits.nd (k_piT K (pv 0)) (blkOk_by (own := [("one", 2)]) (N := ["load", "pair", "one"]) (sc := defScope s_fits) (by decide +kernel)) (fun _ _ _ _ _ => (pg_name (i := 2) sc_fits.nd rfl (Or.inl rfl))) (fun _ _ _ _ _ => pts_nil) (fun _ _ _ _ _ => (pe_and (pe_cmpR op_ne (pe_ix (k_ixT K) (pv 2) pe_int (fun _ _ => rfl)) (pe_ix (k_ixT K) (pv 1) pe_int (fun _ _ => rfl)) (nomark _)) (pe_one (pe_cmpR op_ne (pe_ix (k_ixT K) (pv 2) pe_int (fun _ _ => rfl)) (pe_ix (k_ixT K) (pv 1) pe_int (fun _ _ => rfl)) (nomark _)))))) pa_nil)))), ?_⟩
  refine j_ret ((et_all (el_mapN (S := Rb) (fun x : Ct.P => !decide (x.1 = p.1) && !decide (x.2 = p.2)) (ei_tup (et_var rfl r1)) hz (fun _ => rfl) fun v x H2 hx e2 rx => et_andV (et_neI (et_p0 (et_var rfl rx)) (et_p0 (et_var rfl (up e2 r2)))) fun _ => et_neI (et_p1 (et_var rfl rx)) (et_p1 (et_var rfl (up e2 r2)))).et).is ?_) fun v H1 e1 r => q v H1 e1 r
  unfold fits
  rw [List.all_map]; rfl
theorem sc_put : FnScope ["load", "pair"] ["load", "pair"] (defScope s_put) := ⟨rfl, rfl, rfl, by decide +kernel, rfl, by decide +kernel, by decide +kernel⟩
theorem ok_put (T : Txt K mg) : Cal P w K mg base 1 "put" (Sp2 Rld Rp2 Rld (fun l _ => l.length ≤ 1000000) put) := by
  refine cal_of T.d_put (fun _ _ _ _ _ _ us hl => match us, hl with | [_, _], _ => rfl) sc_put (l2' rfl) (fun cdv f A outer s H vs Q E hr h => ?_)
  have hu := hr.units
  obtain ⟨v1, v2, l, p, rfl, r1, r2, hz, q⟩ := h
  refine ⟨_, (pss_one (ps_ret (pe_callTy (k_tuple K) (by rfl) T.n_tuple (by decide +kernel) (pa_cons (pe_callB (k_sort K Rp2 (Enc.enc (R := Rp2)) hu) (by rfl) T.n_sorted (by decide +kernel) (pa_cons (pe_lst (StX.pa_star (pv 0) (pa_cons (pv 1) pa_nil))) pa_nil)) pa_nil)))), ?_⟩
  exact j_ret (et_tupL (el_sortL (el_star1 (et_var rfl r1) (et_var rfl r2) hz).et).et) fun v H1 e1 r => q v H1 e1 r
theorem sc_taken : FnScope ["load", "pair", "one"] ["load", "pair"] (defScope s_taken) := ⟨rfl, rfl, rfl, by decide +kernel, rfl, by decide +kernel, by decide +kernel⟩
theorem ok_taken (T : Txt K mg) : Cal P w K mg base 1 "taken" (Sp2 Rld Rp2 Rld (fun l _ => l.length ≤ 1000000) taken) := by
  refine cal_of T.d_taken (fun _ _ _ _ _ _ us hl => match us, hl with | [_, _], _ => rfl) sc_taken (l2' rfl) (fun cdv f A outer s H vs Q E hr h => ?_)
  have hu := hr.units
  obtain ⟨v1, v2, l, p, rfl, r1, r2, hz, q⟩ := h
  refine ⟨_, (pss_one (ps_ret (pe_callTy (k_tuple K) (by rfl) T.n_tuple (by decide +kernel) (pa_cons (pe_lc (own := [("one", 2)]) (g := (gName 2)) rfl sc_taken.nd (k_piT K (pv 0)) (blkOk_by (own := [("one", 2)]) (N := ["load", "pair", "one"]) (sc := defScope s_taken) (by decide +kernel)) (fun _ _ _ _ _ => (pg_name (i := 2) sc_taken.nd rfl (Or.inl rfl))) (fun _ _ _ _ _ => (pts_one (pt_cmpR (k_neD K hu) (pv 2) (pv 1) (nomark _)))) (fun _ _ _ _ _ => (pv 2))) pa_nil)))), ?_⟩
  exact j_ret ((et_tupL (el_lcN (S := Rp2) (fun x : Ct.P => !decide (x = p)) (fun x => x) (ei_tup (et_var rfl r1)) hz (fun _ => rfl) fun v x H2 hx e2 rx => ⟨eT (et_neD (et_var rfl rx) (et_var rfl (up e2 r2))), fun _ => et_var rfl rx⟩).et).is (by unfold taken; simp)) fun v H1 e1 r => q v H1 e1 r
theorem sc_replaced : FnScope ["standing", "k", "load"] ["standing", "k", "load"] (defScope s_replaced) := ⟨rfl, rfl, rfl, by decide +kernel, rfl, by decide +kernel, by decide +kernel⟩
theorem ok_replaced (T : Txt K mg) : Cal P w K mg base 1 "replaced" (Sp3 Rsh Ri Rld Rsh (fun s k _ => 0 ≤ k ∧ s.length ≤ 100000) replaced) := by
  refine cal_of T.d_replaced (fun _ _ _ _ _ _ us hl => match us, hl with | [_, _, _], _ => rfl) sc_replaced (l3' rfl) (fun cdv f A outer s H vs Q E hr h => ?_)
  obtain ⟨v1, v2, v3, s0, k, l, rfl, r1, r2, r3, ⟨hk, hz⟩, q⟩ := h
  refine ⟨_, (pss_one (ps_ret (pe_op (k_catT K) (pe_op (k_catT K) (pe_slice (k_slT K) (pv 0) po_none (po_some (pv 1))) (pe_tup (pa_cons (pv 2) pa_nil))) (pe_slice (k_slT K) (pv 0) (po_some (pe_op op_add (pv 1) pe_int)) po_none)))), ?_⟩
  have a1 : cutA s0 none (some k) = s0.take k.toNat := by
    obtain ⟨n, rfl⟩ := Int.eq_ofNat_of_zero_le hk
    exact cutA_to n
  have a2 : cutA s0 (some (k + 1)) none = s0.drop (k + 1).toNat := by
    obtain ⟨n, hn⟩ := Int.eq_ofNat_of_zero_le (by omega : 0 ≤ k + 1)
    rw [hn]
    exact cutA_from n
  have b1 : (s0.take k.toNat).length ≤ s0.length := by rw [List.length_take]; omega
  have b2 : (s0.drop (k + 1).toNat).length ≤ s0.length := by rw [List.length_drop]; omega
  refine j_ret (et_catT (et_catT ((et_slT (et_var rfl r1) eo_none (eo_to (et_var rfl r2))).is a1) (eu1 (et_var rfl r3)).et (by simp only [List.length_singleton]; omega)) ((et_slT (et_var rfl r1) (eo_to (et_add (et_var rfl r2) et_int)) eo_none).is a2) (by simp only [List.length_append, List.length_singleton]; omega)) fun v H1 e1 r => q v H1 e1 r
theorem sc_as_shape : FnScope ["standing"] ["standing"] (defScope s_as_shape) := ⟨rfl, rfl, rfl, by decide +kernel, rfl, by decide +kernel, by decide +kernel⟩
theorem ok_as_shape (T : Txt K mg) : Cal P w K mg base 1 "as_shape" (Sp1 Rsh Rsh (fun _ => True) asShape) := by
  refine cal_of T.d_as_shape (fun _ _ _ _ _ _ us hl => match us, hl with | [_], _ => rfl) sc_as_shape (Sp1.len' rfl) (fun cdv f A outer s H vs Q E hr h => ?_)
  have hu := hr.units
  obtain ⟨v1, s0, rfl, r1, _, q⟩ := h
  refine ⟨_, (pss_one (ps_ret (pe_callTy (k_tuple K) (by rfl) T.n_tuple (by decide +kernel) (pa_cons (pe_callB (k_sort K Rld (Enc.enc (R := Rld)) hu) (by rfl) T.n_sorted (by decide +kernel) (pa_cons (pv 0) pa_nil)) pa_nil)))), ?_⟩
  exact j_ret (et_tupL (el_sortT (et_var rfl r1)).et) fun v H1 e1 r => q v H1 e1 r
theorem sc_is_shape : FnScope ["exchange", "thing"] ["exchange", "thing"] (defScope s_is_shape) := ⟨rfl, rfl, rfl, by decide +kernel, rfl, by decide +kernel, by decide +kernel⟩
theorem ok_is_shape (T : Txt K mg) : Cal P w K mg base 6 "is_shape" (Sp2 (RX K) Rsh Rb (fun e s => EOk e ∧ ShOk e s) fun _ s => decide (asShape s = s)) := by
  refine cal_of T.d_is_shape (fun _ _ _ _ _ _ us hl => match us, hl with | [_, _], _ => rfl) sc_is_shape (l2' rfl) (fun cdv f A outer s H vs Q E hr h => ?_)
  have hu := hr.units
  have c_is_standing := ok_is_standing (P := P) (w := w) (base := base) T
  have c_as_shape := ok_as_shape (P := P) (w := w) (base := base) T
  obtain ⟨v1, v2, e, s0, rfl, r1, r2, hp, q⟩ := h
  refine ⟨_, (pss_one (ps_ret (pe_and (C8.pe_c c_is_standing hr (by decide) (by rfl) (pa_cons (pv 0) (pa_cons (pv 1) pa_nil))) (pe_one (pe_cmpR (k_eqD K hu) (C8.pe_c c_as_shape hr (by decide) (by rfl) (pa_cons (pv 1) pa_nil)) (pv 1) (nomark _)))))), ?_⟩
  exact j_ret ((et_andV (et_call2 (et_var rfl r1) (et_var rfl r2) hp) fun _ => et_eqD (et_call1 (et_var rfl r2) trivial) (et_var rfl r2)).is (by rw [Bool.true_and])) fun v H1 e1 r => q v H1 e1 r
/-! ### fitting -/
theorem sc_fitting : FnScope ["standing", "pair", "k", "load"] ["standing", "pair"] (defScope s_fitting) := ⟨rfl, rfl, rfl, by decide +kernel, rfl, by decide +kernel, by decide +kernel⟩
theorem ok_fitting (T : Txt K mg) : Cal P w K mg base 2 "fitting" (Sp2L Rsh Rp2 Ri (fun s _ => s.length ≤ 1000 ∧ ∀ l ∈ s, l.length ≤ 1000) fitting) := by
  refine cal_of T.d_fitting (fun _ _ _ _ _ _ us hl => match us, hl with | [_, _], _ => rfl) sc_fitting (l2L' rfl) (fun cdv f A outer s H vs Q E hr h => ?_)
  have c_fits := ok_fits (P := P) (w := w) (base := base) T
  obtain ⟨v1, v2, s0, p, rfl, r1, r2, ⟨hz, hl⟩, q⟩ := h
  refine ⟨_, (pss_one (ps_ret (pe_lc (own := [("k", 2), ("load", 3)]) (g := (gTup K 2 (gCons (gName 2) (gCons (gName 3) gNil)))) rfl sc_fitting.nd (pi_enumT (by rfl) T.n_enumerate (pa_cons (pv 0) pa_nil)) (blkOk_by (own := [("k", 2), ("load", 3)]) (N := ["standing", "pair", "k", "load"]) (sc := defScope s_fitting) (by decide +kernel)) (fun _ _ _ _ _ => (pg_tup rfl (pgs_cons (pg_name (i := 2) sc_fitting.nd rfl (Or.inl rfl)) (pgs_cons (pg_name (i := 3) sc_fitting.nd rfl (Or.inl rfl)) pgs_nil)))) (fun _ _ _ _ _ => (pts_one (pt_val (C8.pe_c c_fits hr (by decide) (by rfl) (pa_cons (pv 3) (pa_cons (pv 1) pa_nil)))))) (fun _ _ _ _ _ => (pv 2))))), ?_⟩
  refine j_retL (el_lcP (U := Ri) (fun x : Int × Ld => fits x.2 p) (fun x => x.1) (ei_enum (et_var rfl r1)) (by rw [enumL_len]; omega) (fun _ _ => rfl) fun u v x H2 hx e2 ru rv => ⟨eB (et_call2 (et_var rfl rv) (et_var rfl (up e2 r2)) ?_), fun _ => et_var rfl ru⟩) fun p xs H2 hp e2 h3 h4 => q p xs H2 hp e2 h3 h4
  obtain ⟨i, hi⟩ := List.mem_iff_getElem?.mp hx
  unfold enumL at hi
  rw [List.getElem?_mapIdx] at hi
  cases hg : s0[i]? with
  | none => rw [hg] at hi; cases hi
  | some y =>
    rw [hg] at hi
    cases hi
    have := hl y (List.mem_of_getElem? hg)
    show y.length ≤ 1000000
    omega
/-! ### pairs, open_pairs -/
theorem el_pairs {mm : Str} {pre : EX → Prop} {f : EX → List Ct.P} {E : XK} (hm : ∀ fs : List (Str × V), fs.lookup ("pairs" : Str) = none → fs.lookup mm = none) (h : ET ta σ H (RX K) e) (hp : pre e) : EL (tMeth (He.ga K "Exchange") mm (Sp1L (RX K) Rp2 pre f) [] E ta tNil) σ H Rp2 (f e) := fun H1 e1 Q q =>
  h H1 e1 _ fun v H2 e2 hv => by
    obtain ⟨p, dx, fs, u1, u2, h1, h2, h3, h4, h5, h6, h7, h8⟩ := id hv
    exact ⟨p, dx, fs, h1, h2, hm fs h6, v, e, rfl, hv, hp, fun p xs H' hn e3 h9 h10 => q p xs H' (fresh_back e2 hn) (e2.trans e3) h9 h10⟩
theorem sc_Exchange_pairs : FnScope ["self", "i", "o"] ["self"] (defScope s_Exchange_pairs) := ⟨rfl, rfl, rfl, by decide +kernel, rfl, by decide +kernel, by decide +kernel⟩
theorem ok_Exchange_pairs (T : Txt K mg) : C8.Met P w K mg base 1 (He.ga K "Exchange") "pairs" (Sp1L (RX K) Rp2 EOk EX.pairs) [] := by
  refine met_of T.c_Exchange T.q_Exchange_pairs T.m_Exchange_pairs (fun _ _ _ _ _ _ us hl => match us, hl with | [_], _ => rfl) sc_Exchange_pairs (l1L' rfl) (fun cdv f A outer s H vs Q E hr h => ?_)
  obtain ⟨v1, e, rfl, r1, he, q⟩ := h
  have h1 := he.ins
  have h2 := he.outs
  refine ⟨_, (pss_one (ps_ret (pe_lc2 (own := [("i", 1), ("o", 2)]) (vs1 := [2]) (g := (gName 1)) (g1 := (gName 2)) (tt := tYes) (tt1 := tYes) rfl sc_Exchange_pairs.nd (pi_range1 (by rfl) T.n_range (pa_cons (pe_callB (k_len K) (by rfl) T.n_len (by decide +kernel) (pa_cons (k_fld K (pv 0) rfl) pa_nil)) pa_nil)) (blkOk_by (own := [("i", 1), ("o", 2)]) (N := ["self", "i", "o"]) (sc := defScope s_Exchange_pairs) (by decide +kernel)) (by decide) (fun _ _ _ _ _ => (pg_name (i := 1) sc_Exchange_pairs.nd rfl (Or.inl rfl))) (fun _ _ _ _ _ => pts_nil) (fun _ _ _ _ _ => (pi_range1 (by rfl) T.n_range (pa_cons (pe_callB (k_len K) (by rfl) T.n_len (by decide +kernel) (pa_cons (k_fld K (pv 0) rfl) pa_nil)) pa_nil))) (fun _ _ _ _ _ => (pg_name (i := 2) sc_Exchange_pairs.nd rfl (Or.inl rfl))) (fun _ _ _ _ _ => pts_nil) (fun _ _ _ _ _ => (pe_tup (pa_cons (pv 1) (pa_cons (pv 2) pa_nil))))))), ?_⟩
  refine j_retL ((el_lc2 (R := Ri) (S := Ri) (U := Rp2) (fun _ => (List.range e.outs.length).map fun (i : Nat) => (i : Int)) (fun _ _ => true) (fun x y => (x, y)) (ei_rng (et_len (et_ins T (et_var rfl r1))) (by omega)) (by simp; omega) (by simp; omega) (fun _ => rfl) (fun _ _ => rfl) (fun v x Hx hx ex rx => eit_rng (et_len (et_outs T (et_var rfl (up ex r1)))) (by omega)) (fun v x u y Hy _ _ _ rx ry => ⟨fun _ _ _ q => q _ (Ex.refl _), fun _ => et_pr (et_var rfl rx) (et_var rfl ry)⟩)).is ?_) fun p xs H2 hp e2 h3 h4 => q p xs H2 hp e2 h3 h4
  unfold EX.pairs pairsOf pr
  rw [List.map_map]
  congr 1
  refine List.map_congr_left fun i _ => ?_
  simp [List.filter_eq_self.mpr]
theorem sc_open_pairs : FnScope ["exchange", "standing", "ins", "outs", "i", "o"] ["exchange", "standing"] (defScope s_open_pairs) := ⟨rfl, rfl, rfl, by decide +kernel, rfl, by decide +kernel, by decide +kernel⟩
theorem ok_open_pairs (T : Txt K mg) : Cal P w K mg base 2 "open_pairs" (Sp2L (RX K) Rsh Rp2 (fun e s => EOk e ∧ ShOk e s) openPairs) := by
  refine cal_of T.d_open_pairs (fun _ _ _ _ _ _ us hl => match us, hl with | [_, _], _ => rfl) sc_open_pairs (l2L' rfl) (fun cdv f A outer s H vs Q E hr h => ?_)
  have c_doors_left := ok_doors_left (P := P) (w := w) (base := base) T
  have c_load_calls := ok_load_calls (P := P) (w := w) (base := base) T
  have c_Exchange_pairs := ok_Exchange_pairs (P := P) (w := w) (base := base) T
  obtain ⟨v1, v2, e, s0, rfl, r1, r2, ⟨he, hs⟩, q⟩ := h
  obtain ⟨c1, c2⟩ := calls_ok he hs
  have hi := he.ins
  have ho := he.outs
  refine ⟨_, (pss_cons (ps_asg (C8.pe_c c_doors_left hr (by decide) (by rfl) (pa_cons (pv 0) (pa_cons (C8.pe_c c_load_calls hr (by decide) (by rfl) (pa_cons (pv 1) pa_nil)) pa_nil))) (pg_tup rfl (pgs_cons (pg_name (i := 2) sc_open_pairs.nd rfl (Or.inr rfl)) (pgs_cons (pg_name (i := 3) sc_open_pairs.nd rfl (Or.inr rfl)) pgs_nil))))
    (pss_one (ps_ret (pe_lc (own := [("i", 4), ("o", 5)]) (g := (gTup K 2 (gCons (gName 4) (gCons (gName 5) gNil)))) rfl sc_open_pairs.nd (k_piL K (C8.pe_mt0 c_Exchange_pairs hr (by decide) (pv 0))) (blkOk_by (own := [("i", 4), ("o", 5)]) (N := ["exchange", "standing", "ins", "outs", "i", "o"]) (sc := defScope s_open_pairs) (by decide +kernel)) (fun _ _ _ _ _ => (pg_tup rfl (pgs_cons (pg_name (i := 4) sc_open_pairs.nd rfl (Or.inl rfl)) (pgs_cons (pg_name (i := 5) sc_open_pairs.nd rfl (Or.inl rfl)) pgs_nil)))) (fun _ _ _ _ _ => (pts_one (PW.pt (pw_and (pt_cmpR op_gt (pe_ix (k_ixL K) (pv 2) (pv 4) (fun _ _ => rfl)) pe_int (nomark _)) (pw_and1 (pt_cmpR op_gt (pe_ix (k_ixL K) (pv 3) (pv 5) (fun _ _ => rfl)) pe_int (nomark _))))))) (fun _ _ _ _ _ => (pe_tup (pa_cons (pv 4) (pa_cons (pv 5) pa_nil)))))))), ?_⟩
  refine k_par (x := (leftOf e s0).1) (y := (leftOf e s0).2) (et_call2 (et_var rfl r1) (el_call1 (et_var rfl r2) c1).et c2) fun u1 u2 H3 e3 hu1 hu2 => ?_
  have r1 := up e3 r1
  refine j_retL ((el_lcP (U := Rp2) (fun p : Ct.P => decide ((leftOf e s0).1.getD p.1.toNat 0 > 0) && decide ((leftOf e s0).2.getD p.2.toNat 0 > 0)) (fun p => (p.1, p.2)) (ei_list (el_pairs (fun _ h => h) (et_var rfl r1) he).et) ?_ (fun _ _ => rfl) fun u v x H4 hx e4 ru rv => ?_).is ?_) fun p xs H2 hp e2 h3 h4 => q p xs H2 (fresh_back e3 hp) (e3.trans e2) h3 h4
  · unfold EX.pairs pairsOf
    have := flat_len (f := fun i : Nat => (List.range e.outs.length).map fun o => pr i o) (n := 4) (List.range e.ins.length) (fun x _ => by simp; omega)
    simp only [List.length_range] at this
    omega
  · obtain ⟨i, hi', o, ho', rfl⟩ : ∃ i, i < e.ins.length ∧ ∃ o, o < e.outs.length ∧ x = pr i o := by
      unfold EX.pairs pairsOf at hx
      obtain ⟨l, hl, hx⟩ := List.mem_flatten.mp hx
      obtain ⟨i, hi, rfl⟩ := List.mem_map.mp hl
      obtain ⟨o, ho, rfl⟩ := List.mem_map.mp hx
      exact ⟨i, List.mem_range.mp hi, o, List.mem_range.mp ho, rfl⟩
    refine ⟨et_and (eT (et_cmp (et_ixL (et_var rfl (up e4 hu1)) (et_var rfl ru) (atI_D (by show (0 : Int) ≤ ((i : Nat) : Int); omega) (by rw [left_len1]; show ((i : Nat) : Int) < _; omega))) et_int)) fun _ => eT (et_cmp (et_ixL (et_var rfl (up e4 hu2)) (et_var rfl rv) (atI_D (by show (0 : Int) ≤ ((o : Nat) : Int); omega) (by rw [left_len2]; show ((o : Nat) : Int) < _; omega))) et_int), fun _ => et_pr (et_var rfl ru) (et_var rfl rv)⟩
  · unfold openPairs openOf
    simp
end
end Ct
/-! # The walks: standings (5) -/
namespace Ct
open PySem PySem.Spec PyProof.Rows L2 Evl
abbrev Rnx : Rp NX := Rpr Rld Rsh
/-- a list in the making at D, the heap else as from H -/
def Mk2 {β : Type} (H : Hp) (S : Rp β) (D : Addr) (m : List β) (H' : Hp) : Prop := Ex H H' ∧ ∃ ys, H' D = some (.lst ys) ∧ Paired (S H') ys m
section
variable {β : Type} {S : Rp β} {H H' H'' : Hp} {D : Addr} {m : List β}
theorem Mk2.ex [Mon S] (h : Mk2 H S D m H') (e : Ex H' H'') : Mk2 H S D m H'' := let ⟨e0, ys, h1, h2⟩ := h; ⟨e0.trans e, ys, e _ _ h1, pup e h2⟩
theorem Mk2.app [Imm S] {v : V} {x : β} {ys : List V} (hn : H D = none) (e0 : Ex H H') (h1 : H' D = some (.lst ys)) (h2 : Paired (S H') ys m) (r : S H' v x) : Mk2 H S D (m ++ [x]) (upd H' D (.lst (ys ++ [v]))) :=
  ⟨Ex.mut e0 hn, _, upd_same, pr_snoc (pr_imp h2 fun _ _ r => imm (Tu.lst h1) r) (imm (Tu.lst h1) r)⟩
/-- xs.append(e) -/
theorem Mk2.push [Mon S] [Imm S] {K : PySem.W.Frag} {i : Nat} {σ : L2.St} {te : TE} {D0 : Ends} {x : β} (h : Mk2 H S D m H') (hn : H D = none) (hv : σ[i]? = some (some (.ref D))) (hz : m.length < 1000000) (he : ET te σ H' S x) (k : ∀ H2, Mk2 H S D (m ++ [x]) H2 → Tu H' H2 → D0.nx σ H2) : tDrop (tBM K "list" rAppend (tVar i) (tCons te tNil)) D0 σ H' := by
  obtain ⟨e0, ys, h1, h2⟩ := h
  exact j_app hv h1 (by rw [pr_len h2]; exact hz) he fun v H1 e1 r => k _ (Mk2.app hn (e0.trans e1) (e1 _ _ h1) (pup e1 h2) r) ((Tu.ex e1).trans (Tu.lst (e1 _ _ h1)))
end
theorem zip_get {α : Type} {l : List α} {n : Nat} {x : α} (h : l[n]? = some x) : l.zipIdx[n]? = some (x, n) := by rw [List.getElem?_zipIdx, h]; simp
theorem take_map_filt {α β : Type} {l : List α} {f : α → Bool} {g : α → β} {n : Nat} {x : α} (h : l[n]? = some x) : ((l.take (n + 1)).filter f).map g = ((l.take n).filter f).map g ++ (if f x = true then [g x] else []) := filt_snoc h
section
variable {P : Program} {w : World} {K : PySem.W.Frag} {mg : Str → Option Value} {base : Heap} {σ : L2.St} {H : Hp} {ta : TE} {e : EX}
theorem put_len (l : Ld) (p : Ct.P) : (put l p).length = l.length + 1 := by unfold put srt; rw [List.length_mergeSort]; simp
/-! ### next_shapes -/
theorem sc_next_shapes : FnScope ["standing", "pair", "rows", "k", "load"] ["standing", "pair"] (defScope s_next_shapes) := ⟨rfl, rfl, rfl, by decide +kernel, rfl, by decide +kernel, by decide +kernel⟩
theorem ok_next_shapes (T : Txt K mg) : Cal P w K mg base 2 "next_shapes" (Sp2L Rsh Rp2 Rnx (fun s _ => s.length ≤ 1000 ∧ ∀ l ∈ s, l.length ≤ 1000) nextShapes) := by
  refine cal_of T.d_next_shapes (fun _ _ _ _ _ _ us hl => match us, hl with | [_, _], _ => rfl) sc_next_shapes (l2L' rfl) (fun cdv f A outer s H vs Q E hr h => ?_)
  have hu := hr.units
  have c_fits := ok_fits (P := P) (w := w) (base := base) T
  have c_as_shape := ok_as_shape (P := P) (w := w) (base := base) T
  have c_replaced := ok_replaced (P := P) (w := w) (base := base) T
  have c_put := ok_put (P := P) (w := w) (base := base) T
  obtain ⟨v1, v2, s0, p, rfl, r1, r2, ⟨hz, hl⟩, q⟩ := h
  refine ⟨_, (pss_cons (ps_set (i := 2) sc_next_shapes.nd rfl (Or.inl rfl) (pe_lst pa_nil))
    (pss_cons (ps_for PassesOwn.never rfl (pi_enumT (by rfl) T.n_enumerate (pa_cons (pv 0) pa_nil)) (pg_tup rfl (pgs_cons (pg_name (i := 3) sc_next_shapes.nd rfl (Or.inl rfl)) (pgs_cons (pg_name (i := 4) sc_next_shapes.nd rfl (Or.inl rfl)) pgs_nil)))
      (pss_one (ps_if (PW.pt (pw_and (PW.pt (pw_or (pt_cmpR op_eq (pv 3) pe_int (nomark _)) (pw_or1 (pt_cmpR (k_neD K hu) (pv 4) (pe_ix (k_ixT K) (pv 0) (pe_op op_sub (pv 3) pe_int) (fun _ _ => rfl)) (nomark _))))) (pw_and1 (pt_val (C8.pe_c c_fits hr (by decide) (by rfl) (pa_cons (pv 4) (pa_cons (pv 1) pa_nil)))))))
        (pss_one (ps_expr (pe_bm PySem.F.plainAttrs_list PySem.F.slot_list_append PySem.F.type_list_append mt_append (pv 2) (pa_cons (pe_tup (pa_cons (pv 4) (pa_cons (C8.pe_c c_as_shape hr (by decide) (by rfl) (pa_cons (C8.pe_c c_replaced hr (by decide) (by rfl) (pa_cons (pv 0) (pa_cons (pv 3) (pa_cons (C8.pe_c c_put hr (by decide) (by rfl) (pa_cons (pv 4) (pa_cons (pv 1) pa_nil))) pa_nil)))) pa_nil)) pa_nil))) pa_nil)))) pss_nil)))
    (pss_one (ps_ret (pv 2))))), ?_⟩
  refine k_setL (R := Rnx) el_nil fun D xs0 H1 hn e1 hD hx0 => ?_
  have m1 : Mk2 H Rnx D [] H1 := ⟨e1, xs0, hD, hx0⟩
  refine j_forE (R := Rld) (et_var rfl (up e1 r1)) fun a xs H2 e2 ha hx => ?_
  obtain ⟨a0, xs1, rfl, ha0, hx1⟩ := r1
  let f : Ld × Nat → Bool := fun x => newAt s0 x.2 x.1 && fits x.1 p
  let g : Ld × Nat → NX := fun x => (x.1, asShape (replaced s0 (x.2 : Int) (put x.1 p)))
  refine ⟨fun n σ' H' => ∃ b c, σ' = [some (.ref a0), some v2, some (.ref D), b, c] ∧ Mk2 H Rnx D (((s0.zipIdx.take n).filter f).map g) H' ∧ H' a = some (.tup xs) ∧ Paired (Rld H') xs s0, ⟨none, none, rfl, m1.ex e2, ha, hx⟩, ?_, ?_, ?_⟩
  · rintro n σ' H' hn' ⟨b, c, rfl, h1, h2, h3⟩
    exact ⟨h2, h3⟩
  · rintro n x v σ' H' H3 hx' ⟨b, c, rfl, h1, h2, h3⟩ e3 rx
    have hmem : x ∈ s0 := List.mem_of_getElem? hx'
    have hlx := hl x hmem
    have m3 := h1.ex e3
    have rs : Rsh H3 (.ref a0) s0 := ⟨a0, xs1, rfl, m3.1 _ _ ha0, pup m3.1 hx1⟩
    have rp : Rp2 H3 v2 p := up m3.1 r2
    have rx3 : Rld H3 v x := up e3 rx
    have hnl : n < s0.length := (List.getElem?_eq_some_iff.mp hx').1
    have step : ∀ H4, Mk2 H Rnx D (((s0.zipIdx.take (n + 1)).filter f).map g) H4 → Tu H' H4 → ∃ b c, ([some (.ref a0), some v2, some (.ref D), some (.int (n : Int)), some v] : L2.St) = [some (.ref a0), some v2, some (.ref D), b, c] ∧ Mk2 H Rnx D (((s0.zipIdx.take (n + 1)).filter f).map g) H4 ∧ H4 a = some (.tup xs) ∧ Paired (Rld H4) xs s0 :=
      fun H4 h4 t4 => ⟨_, _, rfl, h4, t4 _ _ h2, pr_imp h3 fun _ _ r => imm t4 r⟩
    have tk := take_map_filt (f := f) (g := g) (zip_get hx')
    have hf : f (x, n) = (newAt s0 n x && fits x p) := rfl
    refine j_when (b := newAt s0 n x && fits x p) (et_and (et_is (et_or (eT (et_eqI (et_var rfl rfl) et_int)) (b := !decide (some x = s0[n - 1]?)) fun hk => ?_) ?_) fun _ => eB (et_call2 (et_var rfl rx3) (et_var rfl rp) (by omega))) (fun hb H4 e4 => ?_) (fun hb H4 e4 => ?_)
    · have hk' : n ≠ 0 := fun z => by subst z; simp at hk
      have h0 : n - 1 < s0.length := by omega
      have g0 : ((n : Int)) - 1 = ((n - 1 : Nat) : Int) := by omega
      refine et_is (eT (et_neD (et_var rfl rx3) (et_ixT (et_var rfl rs) (et_sub (et_var rfl rfl) et_int) (by rw [g0]; exact atI_of (List.getElem?_eq_getElem h0))))) ?_
      rw [List.getElem?_eq_getElem h0]
      simp
    · unfold newAt
      by_cases hz0 : n = 0 <;> simp [hz0]
    · refine Mk2.push (m3.ex e4) hn rfl ?_ (et_pr (et_var rfl (up e4 rx3)) (et_call1 (et_call3 (et_var rfl (up e4 rs)) (et_var (x := (n : Int)) rfl rfl) (et_call2 (et_var rfl (up e4 rx3)) (et_var rfl (up e4 rp)) (by omega)) ⟨by omega, by omega⟩) trivial)) fun H5 h5 t5 => ?_
      · have := List.length_filter_le f (s0.zipIdx.take n)
        rw [List.length_map]
        rw [List.length_take, List.length_zipIdx] at this
        omega
      · rw [hf, hb, if_pos rfl] at tk
        rw [← tk] at h5
        exact step H5 h5 ((Tu.ex (e3.trans e4)).trans t5)
    · rw [hf, hb, if_neg Bool.false_ne_true, List.append_nil] at tk
      have h5 := m3.ex e4
      rw [← tk] at h5
      exact step H4 h5 (Tu.ex (e3.trans e4))
  · rintro σ' H' ⟨b, c, rfl, ⟨e4, ys, h1, h2⟩, _, _⟩
    have : s0.zipIdx.take s0.length = s0.zipIdx := by rw [List.take_of_length_le]; simp
    rw [this] at h2
    exact ⟨_, rfl, q D ys H' hn e4 h1 h2⟩
end
end Ct
/-! # The walks: standings (6) -/
namespace Ct
open PySem PySem.Spec PyProof.Rows L2 Evl
section
variable {P : Program} {w : World} {K : PySem.W.Frag} {mg : Str → Option Value} {base : Heap} {σ : L2.St} {H : Hp} {ta : TE} {e : EX}
/-! ### ends_of -/
theorem sc_ends_of : FnScope ["standing", "rows", "k", "load", "pair"] ["standing"] (defScope s_ends_of) := ⟨rfl, rfl, rfl, by decide +kernel, rfl, by decide +kernel, by decide +kernel⟩
theorem ok_ends_of (T : Txt K mg) : Cal P w K mg base 2 "ends_of" (Sp1L Rsh Rend (fun s => s.length ≤ 100 ∧ ∀ l ∈ s, l.length ≤ 100) endsOf) := by
  refine cal_of T.d_ends_of (fun _ _ _ _ _ _ us hl => match us, hl with | [_], _ => rfl) sc_ends_of (l1L' rfl) (fun cdv f A outer s H vs Q E hr h => ?_)
  have hu := hr.units
  have c_as_shape := ok_as_shape (P := P) (w := w) (base := base) T
  have c_replaced := ok_replaced (P := P) (w := w) (base := base) T
  have c_taken := ok_taken (P := P) (w := w) (base := base) T
  obtain ⟨v1, s0, rfl, r1, ⟨hz, hl⟩, q⟩ := h
  refine ⟨_, (pss_cons (ps_set (i := 1) sc_ends_of.nd rfl (Or.inl rfl) (pe_lst pa_nil))
    (pss_cons (ps_for PassesOwn.never rfl (pi_enumT (by rfl) T.n_enumerate (pa_cons (pv 0) pa_nil)) (pg_tup rfl (pgs_cons (pg_name (i := 2) sc_ends_of.nd rfl (Or.inl rfl)) (pgs_cons (pg_name (i := 3) sc_ends_of.nd rfl (Or.inl rfl)) pgs_nil)))
      (pss_one (ps_if (PW.pt (pw_or (pt_cmpR op_eq (pv 2) pe_int (nomark _)) (pw_or1 (pt_cmpR (k_neD K hu) (pv 3) (pe_ix (k_ixT K) (pv 0) (pe_op op_sub (pv 2) pe_int) (fun _ _ => rfl)) (nomark _)))))
        (pss_one (ps_for PassesOwn.never rfl (k_piT K (pv 3)) (pg_name (i := 4) sc_ends_of.nd rfl (Or.inl rfl))
          (pss_one (ps_expr (pe_bm PySem.F.plainAttrs_list PySem.F.slot_list_append PySem.F.type_list_append mt_append (pv 1) (pa_cons (pe_tup (pa_cons (pv 4) (pa_cons (pv 3) (pa_cons (C8.pe_c c_as_shape hr (by decide) (by rfl) (pa_cons (C8.pe_c c_replaced hr (by decide) (by rfl) (pa_cons (pv 0) (pa_cons (pv 2) (pa_cons (C8.pe_c c_taken hr (by decide) (by rfl) (pa_cons (pv 3) (pa_cons (pv 4) pa_nil))) pa_nil)))) pa_nil)) pa_nil)))) pa_nil)))))) pss_nil)))
    (pss_one (ps_ret (pe_callB (k_sort K Rend (Enc.enc (R := Rend)) hu) (by rfl) T.n_sorted (by decide +kernel) (pa_cons (pv 1) pa_nil)))))), ?_⟩
  refine k_setL (R := Rend) el_nil fun D xs0 H1 hn e1 hD hx0 => ?_
  have m1 : Mk2 H Rend D [] H1 := ⟨e1, xs0, hD, hx0⟩
  refine j_forE (R := Rld) (et_var rfl (up e1 r1)) fun a xs H2 e2 ha hx => ?_
  obtain ⟨a0, xs1, rfl, ha0, hx1⟩ := r1
  let f : Ld × Nat → Bool := fun x => newAt s0 x.2 x.1
  let row : Ld × Nat → List EN := fun x => x.1.map fun p => (p, x.1, asShape (replaced s0 (x.2 : Int) (taken x.1 p)))
  have rowlen : ∀ n, ((((s0.zipIdx.take n).filter f).map row).flatten).length ≤ 100 * 100 := fun n => by
    have h1 := flat_len (f := row) (n := 100) ((s0.zipIdx.take n).filter f) (fun x hx => by
      show (x.1.map _).length ≤ 100
      rw [List.length_map]
      have hx2 := List.mem_of_mem_take (List.mem_filter.mp hx).1
      obtain ⟨i, hi⟩ := List.mem_iff_getElem?.mp hx2
      rw [List.getElem?_zipIdx] at hi
      cases hg : s0[i]? with
      | none => rw [hg] at hi; cases hi
      | some y => rw [hg] at hi; cases hi; exact hl y (List.mem_of_getElem? hg))
    have h2 := List.length_filter_le f (s0.zipIdx.take n)
    have h3 : (s0.zipIdx.take n).length ≤ 100 := by rw [List.length_take, List.length_zipIdx]; omega
    exact Nat.le_trans h1 (Nat.mul_le_mul_right _ (by omega))
  refine ⟨fun n σ' H' => ∃ b c d, σ' = [some (.ref a0), some (.ref D), b, c, d] ∧ Mk2 H Rend D ((((s0.zipIdx.take n).filter f).map row).flatten) H' ∧ H' a = some (.tup xs) ∧ Paired (Rld H') xs s0, ⟨none, none, none, rfl, m1.ex e2, ha, hx⟩, ?_, ?_, ?_⟩
  · rintro n σ' H' hn' ⟨b, c, d, rfl, h1, h2, h3⟩
    exact ⟨h2, h3⟩
  · rintro n x v σ' H' H3 hx' ⟨b, c, d, rfl, h1, h2, h3⟩ e3 rx
    have hmem : x ∈ s0 := List.mem_of_getElem? hx'
    have hlx := hl x hmem
    have m3 := h1.ex e3
    have rs : Rsh H3 (.ref a0) s0 := ⟨a0, xs1, rfl, m3.1 _ _ ha0, pup m3.1 hx1⟩
    have rx3 : Rld H3 v x := up e3 rx
    have hnl : n < s0.length := (List.getElem?_eq_some_iff.mp hx').1
    have tk : (((s0.zipIdx.take (n + 1)).filter f).map row).flatten = (((s0.zipIdx.take n).filter f).map row).flatten ++ (if f (x, n) = true then row (x, n) else []) := by
      rw [take_map_filt (f := f) (g := row) (zip_get hx'), List.flatten_append]
      cases f (x, n) <;> simp
    refine j_when (b := newAt s0 n x) (et_is (et_or (eT (et_eqI (et_var rfl rfl) et_int)) (b := !decide (some x = s0[n - 1]?)) fun hk => ?_) ?_) (fun hb H4 e4 => ?_) (fun hb H4 e4 => ?_)
    · have hk' : n ≠ 0 := fun z => by subst z; simp at hk
      have h0 : n - 1 < s0.length := by omega
      have g0 : ((n : Int)) - 1 = ((n - 1 : Nat) : Int) := by omega
      refine et_is (eT (et_neD (et_var rfl rx3) (et_ixT (et_var rfl rs) (et_sub (et_var rfl rfl) et_int) (by rw [g0]; exact atI_of (List.getElem?_eq_getElem h0))))) ?_
      rw [List.getElem?_eq_getElem h0]
      simp
    · unfold newAt
      by_cases hz0 : n = 0 <;> simp [hz0]
    · have m4 := m3.ex e4
      obtain ⟨av, ax, hav, hax, hap⟩ := id (up e4 rx3)
      subst hav
      refine j_forT (R := Rp2) (et_var rfl (up e4 rx3)) fun a5 xs5 H5 e5 ha5 hx5 => ?_
      refine ⟨fun j σ' H' => ∃ d, σ' = [some (.ref a0), some (.ref D), some (.int (n : Int)), some (.ref av), d] ∧ Mk2 H Rend D ((((s0.zipIdx.take n).filter f).map row).flatten ++ (x.take j).map fun p => (p, x, asShape (replaced s0 (n : Int) (taken x p)))) H' ∧ Tu H5 H', ⟨d, rfl, by rw [List.take_zero, List.map_nil, List.append_nil]; exact m4.ex e5, Tu.refl _⟩, ?_, ?_, ?_⟩
      · rintro j σ' H' hj ⟨d, rfl, h6, t6⟩
        exact ⟨t6 _ _ ha5, pr_imp hx5 fun _ _ r => imm t6 r⟩
      · rintro j p vp σ' H' hp ⟨d, rfl, h6, t6⟩ rp
        have hpm : p ∈ x := List.mem_of_getElem? hp
        have rs6 : Rsh H' (.ref a0) s0 := ⟨a0, xs1, rfl, h6.1 _ _ ha0, pup h6.1 hx1⟩
        have t36 : Tu H3 H' := (Tu.ex (e4.trans e5)).trans t6
        have rx6 : Rld H' (.ref av) x := imm t36 rx3
        refine Mk2.push h6 hn rfl ?_ (et_tr (et_var rfl rp) (et_var rfl rx6) (et_call1 (et_call3 (et_var rfl rs6) (et_var (x := (n : Int)) rfl rfl) (et_call2 (et_var rfl rx6) (et_var rfl rp) (by omega)) ⟨by omega, by omega⟩) trivial)) fun H7 h7 t7 => ⟨_, rfl, ?_, t6.trans t7⟩
        · rw [List.length_append, List.length_map, List.length_take]
          have := rowlen n
          omega
        · rw [List.take_add_one, hp, List.map_append, ← List.append_assoc]
          exact h7
      · rintro σ' H' ⟨d, rfl, h6, t6⟩
        rw [List.take_length] at h6
        have t06 : Tu H' H' := Tu.refl _
        have tf : Tu H3 H' := (Tu.ex (e4.trans e5)).trans t6
        rw [show f (x, n) = true from hb, if_pos rfl] at tk
        refine ⟨_, _, _, rfl, ?_, tf _ _ (e3 _ _ h2), pr_imp (pup e3 h3) fun _ _ r => imm tf r⟩
        rw [tk]
        exact h6
    · rw [show f (x, n) = false from hb, if_neg Bool.false_ne_true, List.append_nil] at tk
      exact ⟨_, _, _, rfl, by rw [tk]; exact m3.ex e4, (e3.trans e4) _ _ h2, pup (e3.trans e4) h3⟩
  · rintro σ' H' ⟨b, c, d, rfl, ⟨e4, ys, h1, h2⟩, _, _⟩
    have e9 : s0.zipIdx.take s0.length = s0.zipIdx := by rw [List.take_of_length_le]; simp
    rw [e9] at h2
    exact j_retL (el_sortL (et_var rfl ⟨D, ys, rfl, h1, h2⟩)) fun p xs H5 hp e5 h5 h6 => q p xs H5 (fresh_back e4 hp) (e4.trans e5) h5 h6
/-! ### has_doors -/
theorem getD_pos {l : List Int} {i : Int} (h : 0 ≤ i) (h2 : i < (l.length : Int)) : atI l i = some (l.getD i.toNat 0) := atI_D h h2
theorem sc_has_doors : FnScope ["left", "load", "i", "o"] ["left", "load"] (defScope s_has_doors) := ⟨rfl, rfl, rfl, by decide +kernel, rfl, by decide +kernel, by decide +kernel⟩
theorem ok_has_doors (T : Txt K mg) : Cal P w K mg base 1 "has_doors" (Sp2 Rlr Rld Rb (fun x l => l.length ≤ 1000 ∧ ∀ p ∈ l, InP x.1.length x.2.length p) hasDoors) := by
  refine cal_of T.d_has_doors (fun _ _ _ _ _ _ us hl => match us, hl with | [_, _], _ => rfl) sc_has_doors (l2' rfl) (fun cdv f A outer s H vs Q E hr h => ?_)
  obtain ⟨v1, v2, x, l, rfl, r1, r2, ⟨hz, hp⟩, q⟩ := h
  refine ⟨_, (pss_one (ps_ret (pe_callB (k_all K) (by rfl) T.n_all (by decide +kernel) (pa_cons (pe_lc (own := [("i", 2), ("o", 3)]) (g := (gTup K 2 (gCons (gName 2) (gCons (gName 3) gNil)))) (tt := tYes) rfl sc_has_doors.nd (k_piT K (pv 1)) (blkOk_by (own := [("i", 2), ("o", 3)]) (N := ["left", "load", "i", "o"]) (sc := defScope s_has_doors) (by decide +kernel)) (fun _ _ _ _ _ => (pg_tup rfl (pgs_cons (pg_name (i := 2) sc_has_doors.nd rfl (Or.inl rfl)) (pgs_cons (pg_name (i := 3) sc_has_doors.nd rfl (Or.inl rfl)) pgs_nil)))) (fun _ _ _ _ _ => pts_nil) (fun _ _ _ _ _ => (pe_and (pe_cmpR op_gt (pe_ix (k_ixL K) (pe_ix (k_ixT K) (pv 0) pe_int (fun _ _ => rfl)) (pv 2) (fun _ _ => rfl)) pe_int (nomark _)) (pe_one (pe_cmpR op_gt (pe_ix (k_ixL K) (pe_ix (k_ixT K) (pv 0) pe_int (fun _ _ => rfl)) (pv 3) (fun _ _ => rfl)) pe_int (nomark _)))))) pa_nil)))), ?_⟩
  refine j_ret ((et_all (el_mapP (U := Rb) (fun p : Ct.P => decide (x.1.getD p.1.toNat 0 > 0) && decide (x.2.getD p.2.toNat 0 > 0)) (ei_tup (et_var rfl r2)) (by omega) (fun _ _ => rfl) fun u v p H4 hx e4 ru rv => ?_).et).is ?_) fun v H1 e1 r => q v H1 e1 r
  · obtain ⟨⟨a1, a2⟩, a3, a4⟩ := hp p hx
    exact et_andV (et_cmp (et_ixL (et_p0 (et_var rfl (up e4 r1))) (et_var rfl ru) (atI_D a1 a2)) et_int) fun _ => et_cmp (et_ixL (et_p1 (et_var rfl (up e4 r1))) (et_var rfl rv) (atI_D a3 a4)) et_int
  · unfold hasDoors
    rw [List.all_map]; rfl
/-! ### without_doors -/
theorem sc_without_doors : FnScope ["left", "load", "ins", "outs", "i", "o"] ["left", "load"] (defScope s_without_doors) := ⟨rfl, rfl, rfl, by decide +kernel, rfl, by decide +kernel, by decide +kernel⟩
theorem ok_without_doors (T : Txt K mg) : Cal P w K mg base 1 "without_doors" (Sp2 Rlr Rld Rlr (fun x l => ∀ p ∈ l, InP x.1.length x.2.length p) lessLR) := by
  refine cal_of T.d_without_doors (fun _ _ _ _ _ _ us hl => match us, hl with | [_, _], _ => rfl) sc_without_doors (l2' rfl) (fun cdv f A outer s H vs Q E hr h => ?_)
  obtain ⟨v1, v2, x, l, rfl, r1, r2, hp, q⟩ := h
  refine ⟨_, (pss_cons (ps_set (i := 2) sc_without_doors.nd rfl (Or.inl rfl) (pe_callTy (k_list K) (by rfl) T.n_list (by decide +kernel) (pa_cons (pe_ix (k_ixT K) (pv 0) pe_int (fun _ _ => rfl)) pa_nil)))
    (pss_cons (ps_set (i := 3) sc_without_doors.nd rfl (Or.inl rfl) (pe_callTy (k_list K) (by rfl) T.n_list (by decide +kernel) (pa_cons (pe_ix (k_ixT K) (pv 0) pe_int (fun _ _ => rfl)) pa_nil)))
    (pss_cons (ps_for PassesOwn.never rfl (k_piT K (pv 1)) (pg_tup rfl (pgs_cons (pg_name (i := 4) sc_without_doors.nd rfl (Or.inl rfl)) (pgs_cons (pg_name (i := 5) sc_without_doors.nd rfl (Or.inl rfl)) pgs_nil)))
      (pss_cons (ps_augS (pv 2) (pv 4) (k_get K) pe_int ip_sub set_list)
      (pss_one (ps_augS (pv 3) (pv 5) (k_get K) pe_int ip_sub set_list))))
    (pss_one (ps_ret (pe_tup (pa_cons (pv 2) (pa_cons (pv 3) pa_nil)))))))), ?_⟩
  refine k_setL (el_listL (et_p0 (et_var rfl r1))) fun p1 xs1 H1 hn1 e1 h1 hx1 => ?_
  refine k_setL (el_listL (et_p1 (et_var rfl (up e1 r1)))) fun p2 xs2 H2 hn2 e2 h2 hx2 => ?_
  have n12 : p1 ≠ p2 := fun z => by rw [← z, h1] at hn2; cases hn2
  have e02 : Ex H H2 := e1.trans e2
  have hn2' : H p2 = none := fresh_back e1 hn2
  refine j_forT (et_var rfl (up e02 r2)) fun p xs H3 e3 hp3 hx3 => ?_
  have e23 : Ex H H3 := e02.trans e3
  refine ⟨fun i σ' H' => ∃ a b, σ' = [some v1, some v2, some (.ref p1), some (.ref p2), a, b] ∧ Ex H H' ∧ Tu H3 H' ∧ H' p1 = some (.lst ((lessLR x (l.take i)).1.map V.int)) ∧ H' p2 = some (.lst ((lessLR x (l.take i)).2.map V.int)), ?_, ?_, ?_, ?_⟩
  · exact ⟨none, none, rfl, e23, Tu.refl _, e3 _ _ (e2 _ _ (lst_ints h1 hx1)), e3 _ _ (lst_ints h2 hx2)⟩
  · rintro i σ' H' hi ⟨a, b, rfl, e4, t4, h5, h6⟩
    exact ⟨t4 _ _ hp3, pr_imp hx3 fun _ _ r => imm t4 r⟩
  · rintro i y v σ' H' hx ⟨a, b, rfl, e4, t4, h5, h6⟩ rx
    obtain ⟨⟨a1, a2⟩, a3, a4⟩ := hp y (List.mem_of_getElem? hx)
    have l1 : y.1.toNat < (lessLR x (l.take i)).1.length := by rw [less_len1]; omega
    have l2 : y.2.toNat < (lessLR x (l.take i)).2.length := by rw [less_len2]; omega
    obtain ⟨n1, g1, s1⟩ := set_dec l1
    obtain ⟨n2, g2, s2⟩ := set_dec l2
    refine g_pair rx fun u w hu hw => ?_
    cases hu
    cases hw
    have c1 : y.1 = ((y.1.toNat : Nat) : Int) := by omega
    have c2 : y.2 = ((y.2.toNat : Nat) : Int) := by omega
    refine j_dec (D := { nx := _, rt := _, bk := _, ct := _ }) (ev_var rfl) h5 (et_var (x := ((y.1.toNat : Nat) : Int)) rfl (congrArg V.int c1)) g1 fun H5 e5 => ?_
    rw [s1]
    have hp2' : (upd H5 p1 (.lst ((dec1 (lessLR x (l.take i)).1 y.1).map V.int))) p2 = some (.lst ((lessLR x (l.take i)).2.map V.int)) := by
      rw [upd_ne n12.symm]; exact e5 _ _ h6
    refine j_dec (ev_var rfl) hp2' (et_var (x := ((y.2.toNat : Nat) : Int)) rfl (congrArg V.int c2)) g2 fun H6 e6 => ?_
    rw [s2]
    refine ⟨_, _, rfl, Ex.mut ((Ex.mut (e4.trans e5) hn1).trans e6) hn2', t4.trans (((Tu.ex e5).trans (Tu.lst (e5 _ _ h5))).trans ((Tu.ex e6).trans (Tu.lst (e6 _ _ hp2')))), ?_, ?_⟩
    · rw [upd_ne n12, less_take hx]; exact e6 _ _ upd_same
    · rw [upd_same, less_take hx]
  · rintro σ' H' ⟨a, b, rfl, e4, t4, h5, h6⟩
    rw [List.take_length] at h5 h6
    exact j_ret (et_pr (et_var rfl (ints_lst h5)) (et_var rfl (ints_lst h6))) fun v H7 e7 r => q v H7 (e4.trans e7) r
/-! ### are_doors, Exchange(..) -/
theorem sc_are_doors : FnScope ["thing", "doors"] ["thing"] (defScope s_are_doors) := ⟨rfl, rfl, rfl, by decide +kernel, rfl, by decide +kernel, by decide +kernel⟩
theorem ok_are_doors (T : Txt K mg) : Cal P w K mg base 3 "are_doors" (Sp1 (Rtup Ri) Rb (fun l => (1 ≤ l.length ∧ l.length ≤ 4) ∧ ∀ d ∈ l, 1 ≤ d ∧ d ≤ 4) fun _ => true) := by
  refine cal_of T.d_are_doors (fun _ _ _ _ _ _ us hl => match us, hl with | [_], _ => rfl) sc_are_doors (Sp1.len' rfl) (fun cdv f A outer s H vs Q E hr h => ?_)
  have c_within := ok_within (P := P) (w := w) (base := base) T
  obtain ⟨v1, l, rfl, r1, ⟨hz, hd⟩, q⟩ := h
  refine ⟨_, (pss_cons (ps_if (PW.pt (pw_or (pt_not (pt_val (pe_callB (k_isi K) (by rfl) T.n_isinstance (by decide +kernel) (pa_cons (pv 0) (pa_cons (pe_bltn (v := .ty "tuple") (by rfl) T.n_tuple (by decide +kernel) rfl) pa_nil))))) (pw_or1 (pt_not (pt_chain op_le op_le pe_int (pe_callB (k_len K) (by rfl) T.n_len (by decide +kernel) (pa_cons (pv 0) pa_nil)) (pe_glob (v := .int 4) (by rfl) T.i_MOST_SWITCHES.choose_spec ⟨_, rfl⟩))))))
      (pss_one (ps_ret pe_bl)) pss_nil)
    (pss_one (ps_ret (pe_callB (k_all K) (by rfl) T.n_all (by decide +kernel) (pa_cons (pe_lc (own := [("doors", 1)]) (g := (gName 1)) (tt := tYes) rfl sc_are_doors.nd (k_piT K (pv 0)) (blkOk_by (own := [("doors", 1)]) (N := ["thing", "doors"]) (sc := defScope s_are_doors) (by decide +kernel)) (fun _ _ _ _ _ => (pg_name (i := 1) sc_are_doors.nd rfl (Or.inl rfl))) (fun _ _ _ _ _ => pts_nil) (fun _ _ _ _ _ => (C8.pe_c c_within hr (by decide) (by rfl) (pa_cons (pv 1) (pa_cons pe_int (pa_cons (pe_glob (v := .int 4) (by rfl) T.i_MOST_DOORS.choose_spec ⟨_, rfl⟩) pa_nil)))))) pa_nil))))), ?_⟩
  refine k_no (et_is (et_or (et_not (eB (et_isi (et_var rfl r1) (kit_ty (b := "tuple") (r := true) (by decide +kernel))))) fun _ => et_not (eT (et_chain et_int (et_len (et_var rfl r1)) et_int))) (by simp; omega)) fun H1 e1 => ?_
  have r1 := up e1 r1
  refine j_ret ((et_all (el_mapN (S := Rb) (fun x : Int => decide ((1 : Int) ≤ x) && decide (x ≤ 4)) (ei_tup (et_var rfl r1)) (by omega) (fun _ => rfl) fun v x H2 hx e2 rx => et_call3 (f := fun x lo hi : Int => decide (lo ≤ x) && decide (x ≤ hi)) (et_var rfl rx) et_int et_int trivial).et).is ?_) fun v H3 e3 r => q v H3 (e1.trans e3) r
  rw [List.all_map, List.all_eq_true]
  intro x hx
  have := hd x hx
  simp; omega
/-- Exchange.__init__ -/
def spExInit (K : PySem.W.Frag) : Sp := fun vs H Q _ => ∃ (x dx : Addr) (v1 v2 : V) (e : EX), vs = [.ref x, v1, v2, .int e.mid] ∧ H x = some (.ins (He.ga K "Exchange") dx []) ∧ Rtup Ri H v1 e.ins ∧ Rtup Ri H v2 e.outs ∧ EOk e ∧
  ∀ H', (∀ b o, b ≠ x → H b = some o → H' b = some o) → RX K H' (.ref x) e → Q .non H'
theorem k_fldset {te ta : TE} {σ : L2.St} {H : Hp} {D : Ends} {f : Str} {a C dx : Addr} {fs : List (Str × V)} {v : V} (c : Cls K C) (n : NoAttr K C f) (he : Ev te σ H v) (ho : Ev ta σ H (.ref a)) (ha : H a = some (.ins C dx fs)) (hz : fs.length < 1000) (k : ∀ H1, Ex H H1 → D.nx σ (upd H1 a (.ins C dx (putF f v fs)))) : sFld K ta te f D σ H :=
  he H (Ex.refl H) _ fun H1 e1 => ho H1 e1 _ fun H2 e2 => ⟨a, C, dx, fs, rfl, e2 _ _ (e1 _ _ ha), c, n, hz, k H2 (e1.trans e2)⟩
theorem sc_Exchange_init : FnScope ["self", "ins", "outs", "middles"] ["self", "ins", "outs", "middles"] (defScope s_Exchange_init) := ⟨rfl, rfl, rfl, by decide +kernel, rfl, by decide +kernel, by decide +kernel⟩
theorem lenExInit {K : PySem.W.Frag} {n : Nat} (hn : n = 4) : ∀ vs H Q E, spExInit K vs H Q E → vs.length = n := fun _ _ _ _ ⟨_, _, _, _, _, h, _⟩ => by rw [h, hn]; rfl
theorem ok_Exchange_init (T : Txt K mg) : C8.Mak P w K mg base 4 "Exchange" (He.ga K "Exchange") (spExInit K) [] := by
  refine mak_of T.k_Exchange T.g_Exchange T.m_Exchange_init (fun _ _ _ _ _ _ us hl => match us, hl with | [_, _, _, _], _ => rfl) sc_Exchange_init (lenExInit rfl) (fun cdv f A outer s H vs Q E hr h => ?_)
  have c_are_doors := ok_are_doors (P := P) (w := w) (base := base) T
  have c_within := ok_within (P := P) (w := w) (base := base) T
  obtain ⟨x, dx, v1, v2, e, rfl, hx, r1, r2, he, q⟩ := h
  refine ⟨_, (pss_cons (ps_if (pt_not (pt_val (C8.pe_c c_are_doors hr (by decide) (by rfl) (pa_cons (pv 1) pa_nil))))
      (pss_one ps_never) pss_nil)
    (pss_cons (ps_if (pt_not (pt_val (C8.pe_c c_are_doors hr (by decide) (by rfl) (pa_cons (pv 2) pa_nil))))
      (pss_one ps_never) pss_nil)
    (pss_cons (ps_if (pt_not (pt_val (C8.pe_c c_within hr (by decide) (by rfl) (pa_cons (pv 3) (pa_cons pe_int (pa_cons (pe_glob (v := .int 7) (by rfl) T.i_MOST_MIDDLES.choose_spec ⟨_, rfl⟩) pa_nil))))))
      (pss_one ps_never) pss_nil)
    (pss_cons (ps_fld (pv 0) (pv 1) rfl)
    (pss_cons (ps_fld (pv 0) (pv 2) rfl)
    (pss_one (ps_fld (pv 0) (pv 3) rfl))))))), ?_⟩
  refine k_no (et_is (et_not (eB (et_call1 (et_var rfl r1) ⟨he.ins, he.di⟩))) rfl) fun H1 e1 => ?_
  refine k_no (et_is (et_not (eB (et_call1 (et_var rfl (up e1 r2)) ⟨he.outs, he.do_⟩))) rfl) fun H2 e2 => ?_
  refine k_no (et_is (et_not (eB (et_call3 (et_var (x := e.mid) rfl rfl) et_int et_int trivial))) (by have := he.mid; simp; omega)) fun H3 e3 => ?_
  have e03 : Ex H H3 := (e1.trans e2).trans e3
  have h3 := e03 _ _ hx
  obtain ⟨a1, xs1, rfl, ha1, hp1⟩ := r1
  obtain ⟨a2, xs2, rfl, ha2, hp2⟩ := r2
  refine k_fldset (D := { nx := _, rt := _, bk := _, ct := _ }) T.c_Exchange T.a_Exchange_ins (ev_var rfl) (ev_var rfl) h3 (by decide) fun H4 e4 => ?_
  refine k_fldset (D := { nx := _, rt := _, bk := _, ct := _ }) T.c_Exchange T.a_Exchange_outs (ev_var rfl) (ev_var rfl) upd_same (by show 1 < 1000; decide) fun H5 e5 => ?_
  refine k_fldset T.c_Exchange T.a_Exchange_middles (ev_var rfl) (ev_var rfl) upd_same (by show 2 < 1000; decide) fun H6 e6 => ?_
  have keep : ∀ b o, b ≠ x → H b = some o → (upd H6 x (.ins (He.ga K "Exchange") dx (putF "middles" (.int e.mid) (putF "outs" (.ref a2) (putF "ins" (.ref a1) []))))) b = some o := fun b o hb h0 => by
    rw [upd_ne hb]
    refine e6 _ _ ?_
    rw [upd_ne hb]
    refine e5 _ _ ?_
    rw [upd_ne hb]
    exact e4 _ _ (e03 _ _ h0)
  have na1 : a1 ≠ x := fun z => by rw [z, hx] at ha1; cases ha1
  have na2 : a2 ≠ x := fun z => by rw [z, hx] at ha2; cases ha2
  have t1 : Tu H (upd H6 x (.ins (He.ga K "Exchange") dx (putF "middles" (.int e.mid) (putF "outs" (.ref a2) (putF "ins" (.ref a1) []))))) := fun b ys hb => keep b _ (fun z => by rw [z, hx] at hb; cases hb) hb
  refine q _ keep ⟨x, dx, _, .ref a1, .ref a2, rfl, upd_same, by rfl, by rfl, by rfl, by rfl, ⟨a1, xs1, rfl, keep _ _ na1 ha1, pr_imp hp1 fun _ _ r => r⟩, ⟨a2, xs2, rfl, keep _ _ na2 ha2, pr_imp hp2 fun _ _ r => r⟩⟩
end
end Ct
/-! # The walks: standings (7) -/
namespace Ct
open PySem PySem.Spec PyProof.Rows L2 Evl
theorem longer_len (nO : Nat) (loads : List Ld) (i : Nat) : (longer nO loads i).length ≤ loads.length * nO := by
  unfold longer
  refine flat_len loads fun l _ => ?_
  rw [List.length_map]
  exact Nat.le_trans (List.length_filter_le _ _) (by rw [List.length_range]; exact Nat.le_refl _)
theorem loadsTo_len (nO : Nat) : ∀ i, (loadsTo nO i).length ≤ (nO + 1) ^ i
  | 0 => by simp [loadsTo]
  | i + 1 => by
    rw [loadsTo, List.length_append, Nat.pow_succ, Nat.mul_succ, Nat.add_comm]
    have h1 := longer_len nO (loadsTo nO i) i
    have h2 := loadsTo_len nO i
    have h3 := Nat.mul_le_mul_right nO h2
    omega
theorem loadsTo_small {nO i : Nat} (h1 : nO ≤ 4) (h2 : i ≤ 4) : (loadsTo nO i).length ≤ 625 := by
  have h := loadsTo_len nO i
  have a : (nO + 1) ^ i ≤ 5 ^ i := Nat.pow_le_pow_left (by omega) i
  have b : 5 ^ i ≤ 5 ^ 4 := Nat.pow_le_pow_right (by decide) h2
  have : (5 : Nat) ^ 4 = 625 := by decide
  omega
theorem loadsTo_each (nO : Nat) : ∀ i, ∀ l ∈ loadsTo nO i, l.length ≤ i
  | 0, l, h => by simp [loadsTo] at h; subst h; simp
  | i + 1, l, h => by
    rw [loadsTo] at h
    rcases List.mem_append.mp h with h | h
    · have := loadsTo_each nO i l h
      omega
    · unfold longer at h
      obtain ⟨m, hm, h⟩ := List.mem_flatten.mp h
      obtain ⟨l0, h0, rfl⟩ := List.mem_map.mp hm
      obtain ⟨o, _, rfl⟩ := List.mem_map.mp h
      have := loadsTo_each nO i l0 h0
      simp; omega
section
variable {P : Program} {w : World} {K : PySem.W.Frag} {mg : Str → Option Value} {base : Heap} {σ : L2.St} {H : Hp} {ta : TE} {e : EX}
/-! ### all_loads -/
theorem sc_all_loads : FnScope ["exchange", "loads", "i", "longer", "load", "o"] ["exchange"] (defScope s_all_loads) := ⟨rfl, rfl, rfl, by decide +kernel, rfl, by decide +kernel, by decide +kernel⟩
theorem ok_all_loads (T : Txt K mg) : Cal P w K mg base 2 "all_loads" (Sp1L (RX K) Rld EOk allLoads) := by
  refine cal_of T.d_all_loads (fun _ _ _ _ _ _ us hl => match us, hl with | [_], _ => rfl) sc_all_loads (l1L' rfl) (fun cdv f A outer s H vs Q E hr h => ?_)
  have hu := hr.units
  have c_fits := ok_fits (P := P) (w := w) (base := base) T
  obtain ⟨v1, e, rfl, r1, he, q⟩ := h
  have hi := he.ins
  have ho := he.outs
  refine ⟨_, (pss_cons (ps_set (i := 1) sc_all_loads.nd rfl (Or.inl rfl) (pe_lst (pa_cons (pe_tup pa_nil) pa_nil)))
    (pss_cons (ps_for PassesOwn.never rfl (pi_range1 (by rfl) T.n_range (pa_cons (pe_callB (k_len K) (by rfl) T.n_len (by decide +kernel) (pa_cons (k_fld K (pv 0) rfl) pa_nil)) pa_nil)) (pg_name (i := 2) sc_all_loads.nd rfl (Or.inr rfl))
      (pss_cons (ps_setLc2 (i := 3) (own := [("load", 4), ("o", 5)]) (vs1 := [5]) (g := (gName 4)) (g1 := (gName 5)) (tt := tYes) rfl sc_all_loads.nd rfl rfl (sw_true rfl rfl rfl (by decide +kernel)) (k_piL K (pv 1)) (blkOk_by (own := [("load", 4), ("o", 5)]) (N := ["exchange", "loads", "i", "longer", "load", "o"]) (sc := defScope s_all_loads) (by decide +kernel)) (by decide) (fun _ _ _ _ _ => (pg_name (i := 4) sc_all_loads.nd rfl (Or.inl rfl))) (fun _ _ _ _ _ => pts_nil) (fun _ _ _ _ _ => (pi_range1 (by rfl) T.n_range (pa_cons (pe_callB (k_len K) (by rfl) T.n_len (by decide +kernel) (pa_cons (k_fld K (pv 0) rfl) pa_nil)) pa_nil))) (fun _ _ _ _ _ => (pg_name (i := 5) sc_all_loads.nd rfl (Or.inl rfl))) (fun _ _ _ _ _ => (pts_one (pt_val (C8.pe_c c_fits hr (by decide) (by rfl) (pa_cons (pv 4) (pa_cons (pe_tup (pa_cons (pv 2) (pa_cons (pv 5) pa_nil))) pa_nil)))))) (fun _ _ _ _ _ => (pe_op (k_catT K) (pv 4) (pe_tup (pa_cons (pe_tup (pa_cons (pv 2) (pa_cons (pv 5) pa_nil))) pa_nil)))))
      (pss_one (ps_set (i := 1) sc_all_loads.nd rfl (Or.inl rfl) (pe_op op_cat (pv 1) (pv 3))))))
    (pss_one (ps_ret (pe_callB (k_sort K Rld (Enc.enc (R := Rld)) hu) (by rfl) T.n_sorted (by decide +kernel) (pa_cons (pv 1) pa_nil)))))), ?_⟩
  refine k_setL (R := Rld) (el1 eu_nil.et) fun p0 xs0 H1 hn e1 hp0 hx0 => ?_
  refine j_forR (et_len (et_ins T (et_var rfl (up e1 r1)))) (by omega) fun H2 e2 => ⟨fun i σ' H' => ∃ vl a b c d, σ' = [some v1, some vl, a, b, c, d] ∧ Ex H H' ∧ Rlst Rld H' vl (loadsTo e.outs.length i), ⟨.ref p0, none, none, none, none, rfl, e1.trans e2, p0, xs0, rfl, e2 _ _ hp0, pup e2 hx0⟩, ?_, ?_⟩
  · rintro i σ' H' hil ⟨vl, a, b, c, d, rfl, e3, rl⟩
    have r1 := up e3 r1
    have hsm := loadsTo_small (i := i) ho.2 (by omega)
    refine k_setL (R := Rld) (l := longer e.outs.length (loadsTo e.outs.length i) i) ((el_lc2 (R := Rld) (S := Ri) (U := Rld) (fun _ => (List.range e.outs.length).map fun (i : Nat) => (i : Int)) (fun x y => fits x ((i : Int), y)) (fun x y => x ++ [((i : Int), y)]) (ei_list (et_var rfl rl)) (by omega) (by simp; omega) (fun _ => rfl) (fun _ _ => rfl) (fun v x Hx hx ex rx => eit_rng (et_len (et_outs T (et_var rfl (up ex r1)))) (by omega)) (fun v x u y Hy hx _ _ rx ry => ?_)).is ?_) fun p3 xs3 H3 hn3 e4 hp3 hx3 => ?_
    · have hlx := loadsTo_each _ _ x hx
      have eI : ET (tVar 2) (([some v1, some vl, some (V.int (i : Int)), b, none, none] : L2.St).set 4 (some v) |>.set 5 (some u)) Hy Ri (i : Int) := et_var rfl rfl
      refine ⟨eB (et_call2 (et_var rfl rx) (et_pr (R := Ri) (S := Ri) (x := (i : Int)) (et_var rfl rfl) (et_var rfl ry)) (by omega)), fun _ => et_catT (et_var rfl rx) (eu1 (et_pr (R := Ri) (S := Ri) (x := (i : Int)) (et_var rfl rfl) (et_var rfl ry))).et (by simp; omega)⟩
    · unfold longer
      congr 1
      refine List.map_congr_left fun x _ => ?_
      rw [List.filter_map, List.map_map]
      rfl
    · refine j_setL (el_catL (et_var rfl (up e4 rl)) (et_var (x := longer e.outs.length (loadsTo e.outs.length i) i) rfl ⟨p3, xs3, rfl, hp3, hx3⟩) ?_) fun p5 xs5 H5 hn5 e5 hp5 hx5 => ⟨_, _, _, _, _, rfl, (e3.trans e4).trans e5, p5, xs5, rfl, hp5, hx5⟩
      have := longer_len e.outs.length (loadsTo e.outs.length i) i
      have := Nat.mul_le_mul_left (loadsTo e.outs.length i).length ho.2
      omega
  · rintro σ' H' ⟨vl, a, b, c, d, rfl, e3, rl⟩
    exact j_retL (el_sortL (et_var rfl rl)) fun p xs H5 hp e5 h5 h6 => q p xs H5 (fresh_back e3 hp) (e3.trans e5) h5 h6
/-! ### calls_from -/
abbrev Rcf : Rp (Ct.P × List NX) := Rpr Rp2 (Rlst Rnx)
theorem et_prOff {α β : Type} {R : Rp α} {S : Rp β} {ta tb : TE} {σ : L2.St} {H : Hp} {x : α} {l : List β} {D : Addr} {o : HO} [Mon R] [Imm R] [Mon S] [Imm S] (ho : ∀ xs, o ≠ .tup xs) (ha : ET ta σ H R x) (hb : EL tb σ H S l) (hD : H D = some o) : ET (tTup (tCons ta (tCons tb tNil))) σ H (Off D (Rpr R (Rlst S))) (x, l) := fun H1 e Q q =>
  ha H1 e _ fun v H2 e2 r => hb H2 (e.trans e2) _ fun p xs H3 hp e3 h3 hx => by
    refine ⟨(by show 2 ≤ sizeLine; decide), fun t ht => q _ _ ((e2.trans e3).trans (Ex.new ht)) ?_⟩
    have d3 : H3 D = some o := e3 _ _ (e2 _ _ (e _ _ hD))
    have np : p ≠ D := fun z => by rw [z, e2 _ _ (e _ _ hD)] at hp; cases hp
    have nt : t ≠ D := fun z => by rw [z, d3] at ht; cases ht
    have tu : ∀ b ys, (upd H3 t (.tup [v, .ref p])) b = some (.tup ys) → hide D (upd H3 t (.tup [v, .ref p])) b = some (.tup ys) := fun b ys hb => by
      by_cases hbd : b = D
      · rw [hbd, upd_ne nt.symm, d3] at hb
        exact absurd (Option.some.inj hb) (ho ys)
      · rw [hide_ne hbd]; exact hb
    refine ⟨t, v, .ref p, rfl, by rw [hide_ne nt, upd_same], Imm.imm tu (up (e3.trans (Ex.new ht)) r), p, xs, rfl, by rw [hide_ne np, upd_ne (ne_of_none h3 ht)]; exact h3, pimm tu (pup (Ex.new ht) hx)⟩
theorem sc_calls_from : FnScope ["exchange", "one", "pair"] ["exchange", "one"] (defScope s_calls_from) := ⟨rfl, rfl, rfl, by decide +kernel, rfl, by decide +kernel, by decide +kernel⟩
theorem ok_calls_from (T : Txt K mg) : Cal P w K mg base 3 "calls_from" (Sp2L (RX K) Rsh Rcf (fun e s => EOk e ∧ ShOk e s) callsFrom) := by
  refine cal_of T.d_calls_from (fun _ _ _ _ _ _ us hl => match us, hl with | [_, _], _ => rfl) sc_calls_from (l2L' rfl) (fun cdv f A outer s H vs Q E hr h => ?_)
  have c_next_shapes := ok_next_shapes (P := P) (w := w) (base := base) T
  have c_open_pairs := ok_open_pairs (P := P) (w := w) (base := base) T
  obtain ⟨v1, v2, e, s0, rfl, r1, r2, ⟨he, hs⟩, q⟩ := h
  have c0 := (calls_ok he hs).1
  have hi := he.ins
  have ho := he.outs
  refine ⟨_, (pss_one (ps_ret (pe_lc (own := [("pair", 2)]) (g := (gName 2)) (tt := tYes) rfl sc_calls_from.nd (k_piL K (C8.pe_c c_open_pairs hr (by decide) (by rfl) (pa_cons (pv 0) (pa_cons (pv 1) pa_nil)))) (blkOk_by (own := [("pair", 2)]) (N := ["exchange", "one", "pair"]) (sc := defScope s_calls_from) (by decide +kernel)) (fun _ _ _ _ _ => (pg_name (i := 2) sc_calls_from.nd rfl (Or.inl rfl))) (fun _ _ _ _ _ => pts_nil) (fun _ _ _ _ _ => (pe_tup (pa_cons (pv 2) (pa_cons (C8.pe_c c_next_shapes hr (by decide) (by rfl) (pa_cons (pv 1) (pa_cons (pv 2) pa_nil))) pa_nil))))))), ?_⟩
  refine j_retL (el_mapND (S := Rcf) (fun p : Ct.P => (p, nextShapes s0 p)) (ei_list (el_call2 (et_var rfl r1) (et_var rfl r2) ⟨he, hs⟩).et) ?_ (fun _ => rfl) fun v x H1 hx e1 rx D zs H2 e2 hD => et_prOff (fun _ z => by cases z) (et_var rfl (up e2 rx)) (el_call2 (et_var rfl (up (e1.trans e2) r2)) (et_var rfl (up e2 rx)) c0) hD) fun p xs H5 hp e5 h5 h6 => q p xs H5 hp e5 h5 h6
  refine Nat.le_trans (List.length_filter_le _ _) ?_
  unfold EX.pairs pairsOf
  have := flat_len (f := fun i : Nat => (List.range e.outs.length).map fun o => pr i o) (n := 4) (List.range e.ins.length) (fun x _ => by simp; omega)
  simp only [List.length_range] at this
  omega
end
end Ct
/-! # The walks: the law's own (1) -/
namespace Ct
open PySem PySem.Spec PyProof.Rows L2 Evl
abbrev Dq (Q : VK) : Ends := { nx := fun _ H' => Q .non H', rt := Q }
/-! ### a list or a tuple gone through -/
def iSeq (K : PySem.W.Frag) (te : TE) : TI := fun σ H R => te σ H fun x H1 => ∃ a, x = .ref a ∧ (((∃ xs, SqT K H1 a xs) ∧ R (Itt K a) H1) ∨ ((∃ xs, SqL K H1 a xs) ∧ R (Itl K a) H1))
theorem k_piS {X : Cx} (K : PySem.W.Frag) {tg l : Expr} {tl : TE} (hl : PE X l tl) (e : X.K = K := by rfl) : PI X tg l (iSeq K tl) := by
  subst e
  refine ⟨fun pins s σ H R I h => ?_⟩
  refine thn (hl.run pins s σ H _ I h) fun v s1 ⟨x, H1, I1, r1, q1⟩ => ?_
  obtain ⟨a, e, ⟨⟨xs, hq⟩, q⟩ | ⟨⟨xs, hq⟩, q⟩⟩ := q1
  · subst e
    cases r1
    obtain ⟨its, rv, p, hz⟩ := I1.tuple hq
    exact wpAny_pyIter_tuple (show s1.heap.IsTuple a its.toArray from p) (pi_one (tk := s1.toks) I1 _ (turn_tuple a _) ⟨_, Heap.get?_push_size _ rfl, rfl, rfl⟩ q)
  · subst e
    cases r1
    obtain ⟨its, rv, p, hz⟩ := I1.list hq
    exact wpAny_pyIter_list p.isList (pi_one (tk := s1.toks) I1 _ (turn_list a _) ⟨_, Heap.get?_push_size _ rfl, rfl, rfl⟩ q)
def Rseq {α : Type} (R : Rp α) : Rp (List α) := fun H v l => Rtup R H v l ∨ Rlst R H v l
instance {α : Type} {R : Rp α} [Mon R] : Mon (Rseq R) := ⟨fun e h => h.imp (up e) (up e)⟩
theorem et_seqT {α : Type} {R : Rp α} {te : TE} {σ : L2.St} {H : Hp} {l : List α} (h : ET te σ H (Rtup R) l) : ET te σ H (Rseq R) l := h.imp fun _ _ r => .inl r
theorem et_seqL {α : Type} {R : Rp α} {te : TE} {σ : L2.St} {H : Hp} {l : List α} (h : ET te σ H (Rlst R) l) : ET te σ H (Rseq R) l := h.imp fun _ _ r => .inr r
theorem j_forS {α : Type} {R : Rp α} {K : PySem.W.Frag} {te : TE} {σ : L2.St} {H : Hp} {l : List α} {g : TG} {tu : TS} {D : Ends} (h : ET te σ H (Rseq R) l) (hyp : ∀ p xs H1, Ex H H1 → (H1 p = some (.tup xs) ∨ H1 p = some (.lst xs)) → Paired (R H1) xs l → ∃ Pv : Nat → L2.St → Hp → Prop, Pv 0 σ H1 ∧ (∀ i σ' H', i ≤ l.length → Pv i σ' H' → H' p = H1 p ∧ Paired (R H') xs l) ∧
    (∀ i x v σ' H', l[i]? = some x → Pv i σ' H' → R H' v x → g v σ' H' fun σ2 H2 => tu { D with nx := Pv (i + 1), ct := Pv (i + 1), bk := D.nx } σ2 H2) ∧ ∀ σ' H', Pv l.length σ' H' → D.nx σ' H') : tFor (iSeq K te) g tu D σ H :=
  h H (Ex.refl H) _ fun v H1 e1 hv => by
    rcases hv with ⟨p, xs, hv, hp, hx⟩ | ⟨p, xs, hv, hp, hx⟩
    · obtain ⟨Pv, h0, hl, hs, hd⟩ := hyp p xs H1 e1 (.inl hp) hx
      have n := pr_len hx
      refine ⟨p, hv, .inl ⟨⟨xs, st_of hp⟩, for_it (walk_tup (K := K) (a := p) (xs := xs)) Pv h0 (fun i σ' H' hi q => st_of ((hl i σ' H' (by omega) q).1.trans hp)) (fun i v σ' H' H2 hi q hy => ?_) (fun σ' H' q => hd σ' H' (by rw [← n]; exact q))⟩⟩
      obtain ⟨rfl, hxi⟩ := hy
      obtain ⟨x, h1, h2⟩ := pr_get (hl i σ' _ (by omega) q).2 hxi
      exact hs i x v σ' _ h1 q h2
    · obtain ⟨Pv, h0, hl, hs, hd⟩ := hyp p xs H1 e1 (.inr hp) hx
      have n := pr_len hx
      refine ⟨p, hv, .inr ⟨⟨xs, sq_of hp⟩, for_it (walk_list (K := K) (a := p) (xs := xs)) Pv h0 (fun i σ' H' hi q => sq_of ((hl i σ' H' (by omega) q).1.trans hp)) (fun i v σ' H' H2 hi q hy => ?_) (fun σ' H' q => hd σ' H' (by rw [← n]; exact q))⟩⟩
      obtain ⟨rfl, hxi⟩ := hy
      obtain ⟨x, h1, h2⟩ := pr_get (hl i σ' _ (by omega) q).2 hxi
      exact hs i x v σ' _ h1 q h2
/-- all but D stays -/
def Xb (D : Addr) (H H' : Hp) : Prop := ∀ b o, b ≠ D → H b = some o → H' b = some o
section
variable {β : Type} {S : Rp β} {H H' H'' : Hp} {D : Addr} {m : List β}
theorem Mk2.pushX [Mon S] [Imm S] {K : PySem.W.Frag} {i : Nat} {σ : L2.St} {te : TE} {D0 : Ends} {x : β} (h : Mk2 H S D m H') (hn : H D = none) (hv : σ[i]? = some (some (.ref D))) (hz : m.length < 1000000) (he : ET te σ H' S x) (k : ∀ H2, Mk2 H S D (m ++ [x]) H2 → Tu H' H2 → Xb D H' H2 → D0.nx σ H2) : tDrop (tBM K "list" rAppend (tVar i) (tCons te tNil)) D0 σ H' := by
  obtain ⟨e0, ys, h1, h2⟩ := h
  exact j_app hv h1 (by rw [pr_len h2]; exact hz) he fun v H1 e1 r => k _ (Mk2.app hn (e0.trans e1) (e1 _ _ h1) (pup e1 h2) r) ((Tu.ex e1).trans (Tu.lst (e1 _ _ h1))) fun b o hb h => by rw [upd_ne hb]; exact e1 _ _ h
end
section
variable {P : Program} {w : World} {K : PySem.W.Frag} {mg : Str → Option Value} {base : Heap} {σ : L2.St} {H : Hp} {ta : TE} {e : EX}
theorem lawFits_eq (l : Ld) (p : Ct.P) : lawFits l p = fits l p := by
  unfold lawFits fits
  congr 1
  funext q
  cases decide (q.1 = p.1) <;> cases decide (q.2 = p.2) <;> rfl
theorem sc__law_fits : FnScope ["_law_load", "_law_pair", "_law_one"] ["_law_load", "_law_pair"] (defScope s__law_fits) := ⟨rfl, rfl, rfl, by decide +kernel, rfl, by decide +kernel, by decide +kernel⟩
theorem ok__law_fits (T : Txt K mg) : Cal P w K mg base 1 "_law_fits" (Sp2 Rld Rp2 Rb (fun _ _ => True) fits) := by
  refine cal_of T.d__law_fits (fun _ _ _ _ _ _ us hl => match us, hl with | [_, _], _ => rfl) sc__law_fits (l2' rfl) (fun cdv f A outer s H vs Q E hr h => ?_)
  obtain ⟨v1, v2, l, p, rfl, r1, r2, _, q⟩ := h
  refine ⟨_, (pss_cons (ps_for PassesOwn.never rfl (k_piT K (pv 0)) (pg_name (i := 2) sc__law_fits.nd rfl (Or.inl rfl))
      (pss_one (ps_if (PW.pt (pw_or (pt_cmpR op_eq (pe_ix (k_ixT K) (pv 2) pe_int (fun _ _ => rfl)) (pe_ix (k_ixT K) (pv 1) pe_int (fun _ _ => rfl)) (nomark _)) (pw_or1 (pt_cmpR op_eq (pe_ix (k_ixT K) (pv 2) pe_int (fun _ _ => rfl)) (pe_ix (k_ixT K) (pv 1) pe_int (fun _ _ => rfl)) (nomark _)))))
        (pss_one (ps_ret pe_bl)) pss_nil)))
    (pss_one (ps_ret pe_bl))), ?_⟩
  refine j_forT (et_var rfl r1) fun a xs H1 e1 ha hx => ⟨fun i σ' H' => ∃ b, σ' = [some v1, some v2, b] ∧ Ex H1 H' ∧ ∀ y ∈ l.take i, y.1 ≠ p.1 ∧ y.2 ≠ p.2, ⟨none, rfl, Ex.refl _, by simp⟩, ?_, ?_, ?_⟩
  · rintro i σ' H' hi ⟨b, rfl, e2, hy⟩
    exact ⟨e2 _ _ ha, pup e2 hx⟩
  · rintro i x v σ' H' hxi ⟨b, rfl, e2, hy⟩ rx
    have r2 := up (e1.trans e2) r2
    refine j_when (et_or (eT (et_eqI (et_p0 (et_var rfl rx)) (et_p0 (et_var rfl r2)))) fun _ => eT (et_eqI (et_p1 (et_var rfl rx)) (et_p1 (et_var rfl r2)))) (fun hb H4 e4 => ?_) (fun hb H4 e4 => ⟨_, rfl, e2.trans e4, ?_⟩)
    · refine j_ret (et_bl (b := false)) fun v H5 e5 r => q v H5 (((e1.trans e2).trans e4).trans e5) ?_
      cases r
      show V.bl false = V.bl (fits l p)
      congr 1
      symm
      unfold fits
      rw [List.all_eq_false]
      refine ⟨x, List.mem_of_getElem? hxi, ?_⟩
      simp only [Bool.or_eq_true, decide_eq_true_eq] at hb
      rcases hb with hb | hb <;> simp [hb]
    · rw [List.take_add_one, hxi]
      intro y hy2
      rcases List.mem_append.mp hy2 with h | h
      · exact hy y h
      · simp at h
        subst h
        simp only [Bool.or_eq_false_iff, decide_eq_false_iff_not] at hb
        exact hb
  · rintro σ' H' ⟨b, rfl, e2, hy⟩
    rw [List.take_length] at hy
    have hf : fits l p = true := by
      unfold fits
      rw [List.all_eq_true]
      intro y hy2
      have := hy y hy2
      simp [this]
    exact q _ H' (e1.trans e2) (by rw [hf]; rfl)
theorem sc__law_less : FnScope ["_law_left", "_law_load", "_law_ins", "_law_outs", "_law_pair"] ["_law_left", "_law_load"] (defScope s__law_less) := ⟨rfl, rfl, rfl, by decide +kernel, rfl, by decide +kernel, by decide +kernel⟩
theorem ok__law_less (T : Txt K mg) : Cal P w K mg base 1 "_law_less" (Sp2 Rlr (Rseq Rp2) Rlr (fun x l => ∀ p ∈ l, InP x.1.length x.2.length p) lessLR) := by
  refine cal_of T.d__law_less (fun _ _ _ _ _ _ us hl => match us, hl with | [_, _], _ => rfl) sc__law_less (l2' rfl) (fun cdv f A outer s H vs Q E hr h => ?_)
  obtain ⟨v1, v2, x, l, rfl, r1, r2, hp, q⟩ := h
  refine ⟨_, (pss_cons (ps_set (i := 2) sc__law_less.nd rfl (Or.inl rfl) (pe_callTy (k_list K) (by rfl) T.n_list (by decide +kernel) (pa_cons (pe_ix (k_ixT K) (pv 0) pe_int (fun _ _ => rfl)) pa_nil)))
    (pss_cons (ps_set (i := 3) sc__law_less.nd rfl (Or.inl rfl) (pe_callTy (k_list K) (by rfl) T.n_list (by decide +kernel) (pa_cons (pe_ix (k_ixT K) (pv 0) pe_int (fun _ _ => rfl)) pa_nil)))
    (pss_cons (ps_for PassesOwn.never rfl (k_piS K (pv 1)) (pg_name (i := 4) sc__law_less.nd rfl (Or.inl rfl))
      (pss_cons (ps_augS (pv 2) (pe_ix (k_ixT K) (pv 4) pe_int (fun _ _ => rfl)) (k_get K) pe_int ip_sub set_list)
      (pss_one (ps_augS (pv 3) (pe_ix (k_ixT K) (pv 4) pe_int (fun _ _ => rfl)) (k_get K) pe_int ip_sub set_list))))
    (pss_one (ps_ret (pe_tup (pa_cons (pv 2) (pa_cons (pv 3) pa_nil)))))))), ?_⟩
  refine k_setL (el_listL (et_p0 (et_var rfl r1))) fun p1 xs1 H1 hn1 e1 h1 hx1 => ?_
  refine k_setL (el_listL (et_p1 (et_var rfl (up e1 r1)))) fun p2 xs2 H2 hn2 e2 h2 hx2 => ?_
  have n12 : p1 ≠ p2 := fun z => by rw [← z, h1] at hn2; cases hn2
  have e02 : Ex H H2 := e1.trans e2
  have hn2' : H p2 = none := fresh_back e1 hn2
  refine j_forS (et_var rfl (up e02 r2)) fun p xs H3 e3 hp3 hx3 => ?_
  have e23 : Ex H H3 := e02.trans e3
  have i1 : H3 p1 = some (.lst (x.1.map V.int)) := e3 _ _ (e2 _ _ (lst_ints h1 hx1))
  have i2 : H3 p2 = some (.lst (x.2.map V.int)) := e3 _ _ (lst_ints h2 hx2)
  have np : ∀ (i : Nat) (y : Ct.P) (pp : Addr) (ns : List Int), l[i]? = some y → H3 pp = some (.lst (ns.map V.int)) → p ≠ pp := fun i y pp ns hy hpp z => by
    subst z
    rcases hp3 with hh | hh
    · rw [hh] at hpp; cases hpp
    · rw [hh] at hpp
      have hxx : xs = ns.map V.int := by injection hpp with hpp; injection hpp
      obtain ⟨u, hu, ru⟩ := pr_get' hx3 hy
      rw [hxx, List.getElem?_map] at hu
      obtain ⟨aa, uu, ww, hv, _⟩ := ru
      cases hg : ns[i]? with
      | none => rw [hg] at hu; cases hu
      | some n => rw [hg] at hu; cases hu; cases hv
  refine ⟨fun i σ' H' => ∃ a, σ' = [some v1, some v2, some (.ref p1), some (.ref p2), a] ∧ Ex H H' ∧ Tu H3 H' ∧ H' p = H3 p ∧ H' p1 = some (.lst ((lessLR x (l.take i)).1.map V.int)) ∧ H' p2 = some (.lst ((lessLR x (l.take i)).2.map V.int)), ?_, ?_, ?_, ?_⟩
  · exact ⟨none, rfl, e23, Tu.refl _, rfl, i1, i2⟩
  · rintro i σ' H' hi ⟨a, rfl, e4, t4, h4, h5, h6⟩
    exact ⟨h4, pr_imp hx3 fun _ _ r => imm t4 r⟩
  · rintro i y v σ' H' hx ⟨a, rfl, e4, t4, h4, h5, h6⟩ rx
    obtain ⟨⟨a1, a2⟩, a3, a4⟩ := hp y (List.mem_of_getElem? hx)
    have l1 : y.1.toNat < (lessLR x (l.take i)).1.length := by rw [less_len1]; omega
    have l2 : y.2.toNat < (lessLR x (l.take i)).2.length := by rw [less_len2]; omega
    obtain ⟨n1, g1, s1⟩ := set_dec l1
    obtain ⟨n2, g2, s2⟩ := set_dec l2
    have c1 : y.1 = ((y.1.toNat : Nat) : Int) := by omega
    have c2 : y.2 = ((y.2.toNat : Nat) : Int) := by omega
    refine j_dec (D := { nx := _, rt := _, bk := _, ct := _ }) (ev_var rfl) h5 ((et_p0 (et_var rfl rx)).is c1) g1 fun H5 e5 => ?_
    rw [s1]
    have hp2' : (upd H5 p1 (.lst ((dec1 (lessLR x (l.take i)).1 y.1).map V.int))) p2 = some (.lst ((lessLR x (l.take i)).2.map V.int)) := by
      rw [upd_ne n12.symm]; exact e5 _ _ h6
    have t5 : Tu H' (upd H5 p1 (.lst ((dec1 (lessLR x (l.take i)).1 y.1).map V.int))) := (Tu.ex e5).trans (Tu.lst (e5 _ _ h5))
    refine j_dec (ev_var rfl) hp2' ((et_p1 (et_var rfl (imm t5 rx))).is c2) g2 fun H6 e6 => ?_
    rw [s2]
    refine ⟨_, rfl, Ex.mut ((Ex.mut (e4.trans e5) hn1).trans e6) hn2', t4.trans (t5.trans ((Tu.ex e6).trans (Tu.lst (e6 _ _ hp2')))), ?_, ?_, ?_⟩
    · rw [upd_ne (np i y p2 _ hx i2), ← h4]
      rcases hp3 with hh | hh
      · rw [h4, hh]; exact e6 _ _ (by rw [upd_ne (np i y p1 _ hx i1)]; exact e5 _ _ (h4.trans hh))
      · rw [h4, hh]; exact e6 _ _ (by rw [upd_ne (np i y p1 _ hx i1)]; exact e5 _ _ (h4.trans hh))
    · rw [upd_ne n12, less_take hx]; exact e6 _ _ upd_same
    · rw [upd_same, less_take hx]
  · rintro σ' H' ⟨a, rfl, e4, t4, h4, h5, h6⟩
    rw [List.take_length] at h5 h6
    exact j_ret (et_pr (et_var rfl (ints_lst h5)) (et_var rfl (ints_lst h6))) fun v H7 e7 r => q v H7 (e4.trans e7) r
theorem sc__law_calls : FnScope ["_law_standing", "_law_pairs", "_law_load"] ["_law_standing"] (defScope s__law_calls) := ⟨rfl, rfl, rfl, by decide +kernel, rfl, by decide +kernel, by decide +kernel⟩
theorem ok__law_calls (T : Txt K mg) : Cal P w K mg base 1 "_law_calls" (Sp1L Rsh Rp2 (fun s => s.length ≤ 100 ∧ ∀ l ∈ s, l.length ≤ 100) calls) := by
  refine cal_of T.d__law_calls (fun _ _ _ _ _ _ us hl => match us, hl with | [_], _ => rfl) sc__law_calls (l1L' rfl) (fun cdv f A outer s H vs Q E hr h => ?_)
  have hu := hr.units
  obtain ⟨v1, s0, rfl, r1, ⟨hz, hl⟩, q⟩ := h
  refine ⟨_, (pss_cons (ps_set (i := 1) sc__law_calls.nd rfl (Or.inl rfl) (pe_lst pa_nil))
    (pss_cons (ps_for PassesOwn.never rfl (k_piT K (pv 0)) (pg_name (i := 2) sc__law_calls.nd rfl (Or.inl rfl))
      (pss_one (ps_set (i := 1) sc__law_calls.nd rfl (Or.inl rfl) (pe_op op_cat (pv 1) (pe_callTy (k_list K) (by rfl) T.n_list (by decide +kernel) (pa_cons (pv 2) pa_nil))))))
    (pss_one (ps_ret (pe_callB (k_sort K Rp2 (Enc.enc (R := Rp2)) hu) (by rfl) T.n_sorted (by decide +kernel) (pa_cons (pv 1) pa_nil)))))), ?_⟩
  refine k_setL (R := Rp2) el_nil fun p0 xs0 H1 hn e1 hp0 hx0 => ?_
  refine j_forT (et_var rfl (up e1 r1)) fun a xs H2 e2 ha hx => ⟨fun i σ' H' => ∃ vl b, σ' = [some v1, some vl, b] ∧ Ex H2 H' ∧ Rlst Rp2 H' vl (s0.take i).flatten, ⟨.ref p0, none, rfl, Ex.refl _, p0, xs0, rfl, e2 _ _ hp0, by simpa using pup e2 hx0⟩, ?_, ?_, ?_⟩
  · rintro i σ' H' hi ⟨vl, b, rfl, e3, rl⟩
    exact ⟨e3 _ _ ha, pup e3 hx⟩
  · rintro i x v σ' H' hxi ⟨vl, b, rfl, e3, rl⟩ rx
    refine j_setL (el_catL (et_var rfl rl) (el_listT (et_var rfl rx)).et ?_) fun p5 xs5 H5 hn5 e5 hp5 hx5 => ⟨_, _, rfl, e3.trans e5, p5, xs5, rfl, hp5, ?_⟩
    · have h1 := flat_len (f := fun l : Ld => l) (n := 100) (s0.take i) fun l h => hl l (List.mem_of_mem_take h)
      rw [List.map_id', List.length_take] at h1
      have h2 := hl x (List.mem_of_getElem? hxi)
      have h3 : min i s0.length * 100 ≤ 100 * 100 := Nat.mul_le_mul_right _ (by omega)
      omega
    · rw [List.take_add_one, hxi, List.flatten_append]
      simpa using hx5
  · rintro σ' H' ⟨vl, b, rfl, e3, rl⟩
    rw [List.take_length] at rl
    exact j_retL (el_sortL (et_var rfl rl)) fun p xs H5 hp e5 h5 h6 => q p xs H5 (fresh_back ((e1.trans e2).trans e3) hp) (((e1.trans e2).trans e3).trans e5) h5 h6

/-! ### _law_open -/
theorem range_flat {α : Type} {f : Nat → List α} (n : Nat) : ((List.range (n + 1)).map f).flatten = ((List.range n).map f).flatten ++ f n := by
  rw [List.range_succ, List.map_append, List.flatten_append]; simp
theorem range_filt {α : Type} {f : Nat → Bool} {g : Nat → α} (n : Nat) : ((List.range (n + 1)).filter f).map g = ((List.range n).filter f).map g ++ (if f n = true then [g n] else []) := by
  rw [List.range_succ, List.filter_append, List.map_append]
  cases h : f n <;> simp [h]
theorem openOf_pairs (x : LR) (nI nO : Nat) : openOf x (pairsOf nI nO) = ((List.range nI).map fun i => ((List.range nO).filter fun o => decide (x.1.getD i 0 > 0) && decide (x.2.getD o 0 > 0)).map fun o => pr i o).flatten := by
  unfold openOf pairsOf
  rw [List.filter_flatten, List.map_map]
  congr 1
  refine List.map_congr_left fun i _ => ?_
  show ((List.range nO).map fun o => pr i o).filter _ = _
  rw [List.filter_map]
  rfl
theorem sc__law_open : FnScope ["_law_ins", "_law_outs", "_law_standing", "_law_left", "_law_pairs", "_law_i", "_law_o"] ["_law_ins", "_law_outs", "_law_standing"] (defScope s__law_open) := ⟨rfl, rfl, rfl, by decide +kernel, rfl, by decide +kernel, by decide +kernel⟩
theorem ok__law_open (T : Txt K mg) : Cal P w K mg base 2 "_law_open" (Sp3L (Rtup Ri) (Rtup Ri) Rsh Rp2 (fun ins outs s => EOk ⟨ins, outs, s.length⟩ ∧ ShOk ⟨ins, outs, s.length⟩ s) fun ins outs s => openPairs ⟨ins, outs, s.length⟩ s) := by
  refine cal_of T.d__law_open (fun _ _ _ _ _ _ us hl => match us, hl with | [_, _, _], _ => rfl) sc__law_open (l3L' rfl) (fun cdv f A outer s H vs Q E hr h => ?_)
  have c__law_less := ok__law_less (P := P) (w := w) (base := base) T
  have c__law_calls := ok__law_calls (P := P) (w := w) (base := base) T
  obtain ⟨v1, v2, v3, ins, outs, s0, rfl, r1, r2, r3, ⟨he, hs⟩, q⟩ := h
  obtain ⟨c1, c2, c3⟩ := calls_ok he hs
  have hi : 1 ≤ ins.length ∧ ins.length ≤ 4 := he.ins
  have ho : 1 ≤ outs.length ∧ outs.length ≤ 4 := he.outs
  have hm : 1 ≤ (s0.length : Int) ∧ (s0.length : Int) ≤ 7 := he.mid
  have hll : ∀ l ∈ s0, l.length ≤ 4 := fun l hl => Nat.le_trans (hs.ld l hl).len he.ins.2
  refine ⟨_, (pss_cons (ps_set (i := 3) sc__law_open.nd rfl (Or.inl rfl) (C8.pe_c c__law_less hr (by decide) (by rfl) (pa_cons (pe_tup (pa_cons (pe_callTy (k_list K) (by rfl) T.n_list (by decide +kernel) (pa_cons (pv 0) pa_nil)) (pa_cons (pe_callTy (k_list K) (by rfl) T.n_list (by decide +kernel) (pa_cons (pv 1) pa_nil)) pa_nil))) (pa_cons (C8.pe_c c__law_calls hr (by decide) (by rfl) (pa_cons (pv 2) pa_nil)) pa_nil))))
    (pss_cons (ps_set (i := 4) sc__law_open.nd rfl (Or.inl rfl) (pe_lst pa_nil))
    (pss_cons (ps_for PassesOwn.never rfl (pi_range1 (by rfl) T.n_range (pa_cons (pe_callB (k_len K) (by rfl) T.n_len (by decide +kernel) (pa_cons (pv 0) pa_nil)) pa_nil)) (pg_name (i := 5) sc__law_open.nd rfl (Or.inl rfl))
      (pss_one (ps_for PassesOwn.never rfl (pi_range1 (by rfl) T.n_range (pa_cons (pe_callB (k_len K) (by rfl) T.n_len (by decide +kernel) (pa_cons (pv 1) pa_nil)) pa_nil)) (pg_name (i := 6) sc__law_open.nd rfl (Or.inl rfl))
        (pss_one (ps_if (PW.pt (pw_and (pt_cmpR op_gt (pe_ix (k_ixL K) (pe_ix (k_ixT K) (pv 3) pe_int (fun _ _ => rfl)) (pv 5) (fun _ _ => rfl)) pe_int (nomark _)) (pw_and1 (pt_cmpR op_gt (pe_ix (k_ixL K) (pe_ix (k_ixT K) (pv 3) pe_int (fun _ _ => rfl)) (pv 6) (fun _ _ => rfl)) pe_int (nomark _)))))
          (pss_one (ps_expr (pe_bm PySem.F.plainAttrs_list PySem.F.slot_list_append PySem.F.type_list_append mt_append (pv 4) (pa_cons (pe_tup (pa_cons (pv 5) (pa_cons (pv 6) pa_nil))) pa_nil)))) pss_nil)))))
    (pss_one (ps_ret (pv 4)))))), ?_⟩
  refine k_set (R := Rlr) (x := leftOf ⟨ins, outs, s0.length⟩ s0) (et_call2 (x := (ins, outs)) (et_pr (el_listT (et_var rfl r1)).et (el_listT (et_var rfl r2)).et) (et_seqL (el_call1 (et_var rfl r3) ⟨by omega, fun l hl => by have := hll l hl; omega⟩).et) c3) fun vl H1 e1 rl => ?_
  have rl : Rlr H1 vl (leftOf ⟨ins, outs, s0.length⟩ s0) := rl
  refine k_setL (R := Rp2) el_nil fun D xs0 H2 hn e2 hD hx0 => ?_
  have hn0 : H1 D = none := hn
  have m2 : Mk2 H1 Rp2 D [] H2 := ⟨e2, xs0, hD, hx0⟩
  generalize hL : leftOf ⟨ins, outs, s0.length⟩ s0 = L at rl
  have ll1 : L.1.length = ins.length := by rw [← hL]; exact left_len1 _ _
  have ll2 : L.2.length = outs.length := by rw [← hL]; exact left_len2 _ _
  let row : Nat → List Ct.P := fun i => ((List.range outs.length).filter fun o => decide (L.1.getD i 0 > 0) && decide (L.2.getD o 0 > 0)).map fun o => pr i o
  have rowlen : ∀ i, (row i).length ≤ 4 := fun i => by
    show (((List.range outs.length).filter _).map _).length ≤ 4
    rw [List.length_map]
    exact Nat.le_trans (List.length_filter_le _ _) (by rw [List.length_range]; omega)
  have preflen : ∀ n, (((List.range n).map row).flatten).length ≤ n * 4 := fun n => by
    have := flat_len (f := row) (n := 4) (List.range n) fun x _ => rowlen x
    rw [List.length_range] at this
    exact this
  refine j_forR (et_len (et_var rfl (up (e1.trans e2) r1))) (by omega) fun H3 e3 => ⟨fun i σ' H' => ∃ a b, σ' = [some v1, some v2, some v3, some vl, some (.ref D), a, b] ∧ Mk2 H1 Rp2 D (((List.range i).map row).flatten) H', ⟨none, none, rfl, m2.ex e3⟩, ?_, ?_⟩
  · rintro i σ' H' hil ⟨a, b, rfl, m4⟩
    refine j_forR (et_len (et_var rfl (up (e1.trans m4.1) r2))) (by omega) fun H5 e5 => ⟨fun o σ' H' => ∃ b, σ' = [some v1, some v2, some v3, some vl, some (.ref D), some (.int (i : Int)), b] ∧ Mk2 H1 Rp2 D (((List.range i).map row).flatten ++ ((List.range o).filter fun o => decide (L.1.getD i 0 > 0) && decide (L.2.getD o 0 > 0)).map fun o => pr i o) H', ⟨b, rfl, by simpa using m4.ex e5⟩, ?_, ?_⟩
    · rintro o σ' H' hol ⟨b, rfl, m6⟩
      have rl6 := up m6.1 rl
      have tk := range_filt (f := fun o => decide (L.1.getD i 0 > 0) && decide (L.2.getD o 0 > 0)) (g := fun o => pr i o) o
      refine j_when (et_and (eT (et_cmp (et_ixL (et_p0 (et_var rfl rl6)) (et_var (x := (i : Int)) rfl rfl) (atI_D (by omega) (by omega))) et_int)) fun _ => eT (et_cmp (et_ixL (et_p1 (et_var rfl rl6)) (et_var (x := (o : Int)) rfl rfl) (atI_D (by omega) (by omega))) et_int)) (fun hb H7 e7 => ?_) (fun hb H7 e7 => ?_)
      · refine Mk2.push (m6.ex e7) hn0 rfl ?_ (et_pr (R := Ri) (S := Ri) (x := (i : Int)) (y := (o : Int)) (et_var rfl rfl) (et_var rfl rfl)) fun H8 h8 t8 => ⟨_, rfl, ?_⟩
        · rw [List.length_append, List.length_map]
          have h1 := preflen i
          have h2 := List.length_filter_le (fun o => decide (L.1.getD i 0 > 0) && decide (L.2.getD o 0 > 0)) (List.range o)
          rw [List.length_range] at h2
          omega
        · simp only [Int.toNat_natCast] at hb
          rw [if_pos hb] at tk
          rw [tk, ← List.append_assoc]
          exact h8
      · simp only [Int.toNat_natCast] at hb
        rw [if_neg (by rw [hb]; exact Bool.false_ne_true), List.append_nil] at tk
        refine ⟨_, rfl, ?_⟩
        rw [tk]
        exact m6.ex e7
    · rintro σ' H' ⟨b, rfl, m6⟩
      refine ⟨_, _, rfl, ?_⟩
      rw [range_flat]
      exact m6
  · rintro σ' H' ⟨a, b, rfl, e4, ys, h1, h2⟩
    refine ⟨_, rfl, q D ys H' (fresh_back e1 hn) (e1.trans e4) h1 ?_⟩
    have : openPairs ⟨ins, outs, s0.length⟩ s0 = ((List.range ins.length).map row).flatten := by
      show openOf (leftOf ⟨ins, outs, s0.length⟩ s0) (pairsOf ins.length outs.length) = _
      rw [hL, openOf_pairs]
    show Paired (Rp2 H') ys (openPairs ⟨ins, outs, s0.length⟩ s0)
    rw [this]
    exact h2
end
end Ct
/-! # The walks: the law's own (2) -/
namespace Ct
open PySem PySem.Spec PyProof.Rows L2 Evl
theorem erase_pr {α : Type} [DecidableEq α] {F : V → α → Prop} {x : α} : ∀ {xs : List V} {l : List α}, Paired F xs l → ∃ j, (x ∈ l → l[j]? = some x ∧ (∀ m, m < j → l[m]? ≠ some x)) ∧ (x ∈ l → l.eraseIdx j = l.erase x)
  | _, [], _ => ⟨0, by simp, by simp⟩
  | _, a :: l, .cons r t => by
    by_cases h : a = x
    · subst h
      exact ⟨0, fun _ => ⟨rfl, fun m hm => by omega⟩, fun _ => by simp⟩
    · obtain ⟨j, h1, h2⟩ := erase_pr (x := x) t
      refine ⟨j + 1, fun hx => ?_, fun hx => ?_⟩
      · have hx' : x ∈ l := by
          rcases List.mem_cons.mp hx with e | e
          · exact absurd e.symm h
          · exact e
        obtain ⟨g1, g2⟩ := h1 hx'
        refine ⟨by simpa using g1, fun m hm => ?_⟩
        cases m with
        | zero => simp [h]
        | succ m => simpa using g2 m (by omega)
      · have hx' : x ∈ l := by
          rcases List.mem_cons.mp hx with e | e
          · exact absurd e.symm h
          · exact e
        rw [List.eraseIdx_cons_succ, h2 hx', List.erase_cons_tail (by simpa using h)]
theorem er_len {α : Type} [DecidableEq α] (l : List α) (x : α) : (er l x).length ≤ l.length := by
  unfold er
  exact List.length_erase_le
theorem pr_eraseIdx {α : Type} {F : V → α → Prop} : ∀ {xs : List V} {l : List α} (j : Nat), Paired F xs l → Paired F (xs.eraseIdx j) (l.eraseIdx j)
  | _, _, _, .nil => .nil
  | _, _, 0, .cons r t => t
  | _, _, j + 1, .cons r t => .cons r (pr_eraseIdx j t)
section
variable {P : Program} {w : World} {K : PySem.W.Frag} {mg : Str → Option Value} {base : Heap} {σ : L2.St} {H : Hp} {ta : TE} {e : EX}
/-- xs.remove(x), x there -/
theorem k_remove {α : Type} {R : Rp α} [Mon R] [Imm R] [i : Enc R] [d : DecidableEq α] [n : EncI R] {to te : TE} {D0 : Addr} {ys : List V} {l : List α} {x : α} {D : Ends} {tz : TS} (hv : Ev to σ H (.ref D0)) (hD : H D0 = some (.lst ys)) (hy : Paired (R H) ys l) (he : ET te σ H R x) (hx : x ∈ l)
    (k : ∀ zs H1, Ex H H1 → Paired (R (upd H1 D0 (.lst zs))) zs (er l x) → tz D σ (upd H1 D0 (.lst zs))) : tSeq (tDrop (tBM K "list" (rRemD K) to (tCons te tNil))) tz D σ H :=
  hv H (Ex.refl H) _ fun H1 e1 => ⟨.inl ⟨rfl, ys, sq_of (e1 _ _ hD)⟩, he H1 e1 _ fun v H2 e2 r => by
    have e02 := e1.trans e2
    have hy2 := pup e02 hy
    obtain ⟨j, h1, h2⟩ := erase_pr (x := x) hy2
    obtain ⟨g1, g2⟩ := h1 hx
    have hD2 := e02 _ _ hD
    refine ⟨D0, ys, v, i.enc x, l.map i.enc, j, i.enc x, rfl, rfl, hD2, dpAll_of i hy2, i.dp r, shaped_list l, n.shaped _, by rw [List.getElem?_map, g1]; rfl, by rw [n.eqv]; simp, fun m z' hm hz => ?_, ?_⟩
    · rw [List.getElem?_map] at hz
      cases hg : l[m]? with
      | none => rw [hg] at hz; cases hz
      | some a =>
        rw [hg] at hz
        cases hz
        rw [n.eqv]
        have : a ≠ x := fun q => g2 m hm (by rw [hg, q])
        simp [this]
    · refine k (ys.eraseIdx j) H2 e02 ?_
      unfold er
      rw [← h2 hx]
      exact pr_eraseIdx j (pr_imp hy2 fun _ _ r => imm (Tu.lst hD2) r)⟩
theorem sc__law_swap : FnScope ["_law_one", "_law_load", "_law_another", "_law_rest"] ["_law_one", "_law_load", "_law_another"] (defScope s__law_swap) := ⟨rfl, rfl, rfl, by decide +kernel, rfl, by decide +kernel, by decide +kernel⟩
theorem ok__law_swap (T : Txt K mg) : Cal P w K mg base 1 "_law_swap" (Sp3 Rsh Rld Rld Rsh (fun s l _ => l ∈ s ∧ s.length ≤ 1000) swap) := by
  refine cal_of T.d__law_swap (fun _ _ _ _ _ _ us hl => match us, hl with | [_, _, _], _ => rfl) sc__law_swap (l3' rfl) (fun cdv f A outer s H vs Q E hr h => ?_)
  have hu := hr.units
  have hu5 := units5 hr
  obtain ⟨v1, v2, v3, s0, l, m, rfl, r1, r2, r3, ⟨hm, hz⟩, q⟩ := h
  refine ⟨_, (pss_cons (ps_set (i := 3) sc__law_swap.nd rfl (Or.inl rfl) (pe_callTy (k_list K) (by rfl) T.n_list (by decide +kernel) (pa_cons (pv 0) pa_nil)))
    (pss_cons (ps_expr (pe_bm PySem.F.plainAttrs_list PySem.F.slot_list_remove PySem.F.type_list_remove (k_rem K hu5) (pv 3) (pa_cons (pv 1) pa_nil)))
    (pss_one (ps_ret (pe_callTy (k_tuple K) (by rfl) T.n_tuple (by decide +kernel) (pa_cons (pe_callB (k_sort K Rld (Enc.enc (R := Rld)) hu) (by rfl) T.n_sorted (by decide +kernel) (pa_cons (pe_op op_cat (pv 3) (pe_lst (pa_cons (pv 2) pa_nil))) pa_nil)) pa_nil)))))), ?_⟩
  refine k_setL (el_listT (et_var rfl r1)) fun D ys H1 hn e1 hD hy => ?_
  refine k_remove (R := Rld) (ev_var rfl) hD hy (et_var rfl (up e1 r2)) hm fun zs H2 e2 hz2 => ?_
  have e3 : Ex H (upd H2 D (.lst zs)) := Ex.mut (e1.trans e2) hn
  refine j_ret (et_tupL (el_sortL (el_catL (et_var (x := er s0 l) rfl ⟨D, zs, rfl, upd_same, hz2⟩) (el1 (et_var rfl (up e3 r3))).et ?_).et).et) fun v H4 e4 r => q v H4 (e3.trans e4) r
  have := er_len s0 l
  simp only [List.length_singleton]
  omega
theorem sc__law_nexts : FnScope ["_law_one", "_law_pair", "_law_rows", "_law_seen", "_law_load"] ["_law_one", "_law_pair"] (defScope s__law_nexts) := ⟨rfl, rfl, rfl, by decide +kernel, rfl, by decide +kernel, by decide +kernel⟩
theorem ok__law_nexts (T : Txt K mg) : Cal P w K mg base 2 "_law_nexts" (Sp2L Rsh Rp2 Rnx (fun s _ => s.length ≤ 1000 ∧ ∀ l ∈ s, l.length ≤ 1000) fun s p => ((s.zipIdx).filter fun x => newIn s x.2 x.1 && fits x.1 p).map fun x => (x.1, swap s x.1 (srt Rp2 (x.1 ++ [p])))) := by
  refine cal_of T.d__law_nexts (fun _ _ _ _ _ _ us hl => match us, hl with | [_, _], _ => rfl) sc__law_nexts (l2L' rfl) (fun cdv f A outer s H vs Q E hr h => ?_)
  have hu := hr.units
  have hu5 := units5 hr
  have c__law_fits := ok__law_fits (P := P) (w := w) (base := base) T
  have c__law_swap := ok__law_swap (P := P) (w := w) (base := base) T
  obtain ⟨v1, v2, s0, p, rfl, r1, r2, ⟨hz, hl⟩, q⟩ := h
  refine ⟨_, (pss_cons (ps_set (i := 2) sc__law_nexts.nd rfl (Or.inl rfl) (pe_lst pa_nil))
    (pss_cons (ps_set (i := 3) sc__law_nexts.nd rfl (Or.inl rfl) (pe_lst pa_nil))
    (pss_cons (ps_for PassesOwn.never rfl (k_piT K (pv 0)) (pg_name (i := 4) sc__law_nexts.nd rfl (Or.inl rfl))
      (pss_cons (ps_if (PW.pt (pw_and (pt_cmpR (k_ninD K hu5) (pv 4) (pv 3) rfl) (pw_and1 (pt_val (C8.pe_c c__law_fits hr (by decide) (by rfl) (pa_cons (pv 4) (pa_cons (pv 1) pa_nil)))))))
        (pss_one (ps_expr (pe_bm PySem.F.plainAttrs_list PySem.F.slot_list_append PySem.F.type_list_append mt_append (pv 2) (pa_cons (pe_tup (pa_cons (pv 4) (pa_cons (C8.pe_c c__law_swap hr (by decide) (by rfl) (pa_cons (pv 0) (pa_cons (pv 4) (pa_cons (pe_callTy (k_tuple K) (by rfl) T.n_tuple (by decide +kernel) (pa_cons (pe_callB (k_sort K Rp2 (Enc.enc (R := Rp2)) hu) (by rfl) T.n_sorted (by decide +kernel) (pa_cons (pe_op (k_catT K) (pv 4) (pe_tup (pa_cons (pv 1) pa_nil))) pa_nil)) pa_nil)) pa_nil)))) pa_nil))) pa_nil)))) pss_nil)
      (pss_one (ps_expr (pe_bm PySem.F.plainAttrs_list PySem.F.slot_list_append PySem.F.type_list_append mt_append (pv 3) (pa_cons (pv 4) pa_nil))))))
    (pss_one (ps_ret (pv 2)))))), ?_⟩
  refine k_setL (R := Rnx) el_nil fun D xs0 H1 hn e1 hD hx0 => ?_
  refine k_setL (R := Rld) el_nil fun E2 zs0 H2 hn2 e2 hE hz0 => ?_
  have nDE : D ≠ E2 := fun z => by rw [← z, hD] at hn2; cases hn2
  have hnE : H E2 = none := fresh_back e1 hn2
  refine j_forT (R := Rld) (et_var rfl (up (e1.trans e2) r1)) fun a xs H3 e3 ha hx => ?_
  let f : Ld × Nat → Bool := fun x => newIn s0 x.2 x.1 && fits x.1 p
  let g : Ld × Nat → NX := fun x => (x.1, swap s0 x.1 (srt Rp2 (x.1 ++ [p])))
  refine ⟨fun n σ' H' => ∃ b, σ' = [some v1, some v2, some (.ref D), some (.ref E2), b] ∧ Mk2 H Rnx D (((s0.zipIdx.take n).filter f).map g) H' ∧ Mk2 H Rld E2 (s0.take n) H' ∧ Tu H3 H', ⟨none, rfl, ⟨(e1.trans e2).trans e3, xs0, e3 _ _ (e2 _ _ hD), pup (e2.trans e3) hx0⟩, ⟨(e1.trans e2).trans e3, zs0, e3 _ _ hE, pup e3 hz0⟩, Tu.refl _⟩, ?_, ?_, ?_⟩
  · rintro n σ' H' hn' ⟨b, rfl, m1, m2, t3⟩
    exact ⟨t3 _ _ ha, pr_imp hx fun _ _ r => imm t3 r⟩
  · rintro n x v σ' H' hx' ⟨b, rfl, m1, m2, t3⟩ rx
    have hmem : x ∈ s0 := List.mem_of_getElem? hx'
    have hlx := hl x hmem
    have hnl : n < s0.length := (List.getElem?_eq_some_iff.mp hx').1
    have tk := take_map_filt (f := f) (g := g) (zip_get hx')
    -- the last statement of a turn
    have last : ∀ H4, Mk2 H Rnx D (((s0.zipIdx.take (n + 1)).filter f).map g) H4 → Mk2 H Rld E2 (s0.take n) H4 → Tu H' H4 → ∀ D0 : Ends, (D0.nx = fun σ' H' => ∃ b, σ' = [some v1, some v2, some (.ref D), some (.ref E2), b] ∧ Mk2 H Rnx D (((s0.zipIdx.take (n + 1)).filter f).map g) H' ∧ Mk2 H Rld E2 (s0.take (n + 1)) H' ∧ Tu H3 H') →
        tDrop (tBM K "list" rAppend (tVar 3) (tCons (tVar 4) tNil)) D0 ([some v1, some v2, some (.ref D), some (.ref E2), some v] : L2.St) H4 := fun H4 m4 m5 t4 D0 hD0 =>
      Mk2.pushX m5 hnE rfl (by rw [List.length_take]; omega) (et_var rfl (imm t4 rx)) fun H5 m6 t5 x5 => by
        rw [hD0]
        refine ⟨_, rfl, ?_, ?_, t3.trans (t4.trans t5)⟩
        · obtain ⟨e6, ys, h6, h7⟩ := m4
          exact ⟨m6.1, ys, x5 _ _ nDE h6, pr_imp h7 fun _ _ r => imm t5 r⟩
        · rw [List.take_add_one, hx']; exact m6
    obtain ⟨e6, zs6, hE6, hz6⟩ := id m2
    refine k_if (b := f (x, n)) (et_and (et_is (eT (et_ninD (et_var rfl rx) (et_var (x := s0.take n) rfl ⟨E2, zs6, rfl, hE6, hz6⟩))) (b := newIn s0 n x) (by unfold newIn; simp)) fun _ => eB (et_call2 (et_var rfl rx) (et_var rfl (up m1.1 r2)) trivial)) (fun hb H4 e4 => ?_) (fun hb H4 e4 => ?_)
    · have rs : Rsh H4 v1 s0 := up (m1.1.trans e4) r1
      refine Mk2.pushX (m1.ex e4) hn rfl ?_ (et_pr (et_var rfl (up e4 rx)) (et_call3 (et_var rfl rs) (et_var rfl (up e4 rx)) (et_tupL (el_sortT (et_catT (et_var rfl (up e4 rx)) (eu1 (et_var rfl (up (m1.1.trans e4) r2))).et (by simp only [List.length_singleton]; omega))).et) ⟨hmem, hz⟩)) fun H5 m5 t5 x5 => ?_
      · have := List.length_filter_le f (s0.zipIdx.take n)
        rw [List.length_map]
        rw [List.length_take, List.length_zipIdx] at this
        omega
      · rw [hb, if_pos rfl] at tk
        rw [← tk] at m5
        exact last H5 m5 ⟨m5.1, zs6, x5 _ _ nDE.symm (e4 _ _ hE6), pr_imp (pup e4 hz6) fun _ _ r => imm t5 r⟩ ((Tu.ex e4).trans t5) _ rfl
    · rw [hb, if_neg Bool.false_ne_true, List.append_nil] at tk
      have m5 := m1.ex e4
      rw [← tk] at m5
      exact last H4 m5 (m2.ex e4) (Tu.ex e4) _ rfl
  · rintro σ' H' ⟨b, rfl, ⟨e4, ys, h1, h2⟩, _, _⟩
    have e9 : s0.zipIdx.take s0.length = s0.zipIdx := by rw [List.take_of_length_le]; simp
    rw [e9] at h2
    exact ⟨_, rfl, q D ys H' hn e4 h1 h2⟩
end
end Ct
/-! # The walks: the law's own (3) -/
namespace Ct
open PySem PySem.Spec PyProof.Rows L2 Evl
section
variable {P : Program} {w : World} {K : PySem.W.Frag} {mg : Str → Option Value} {base : Heap} {σ : L2.St} {H : Hp} {ta : TE} {e : EX}
theorem Mk2.weakX {β : Type} {S : Rp β} [Imm S] {H H' H'' : Hp} {D E : Addr} {m : List β} (h : Mk2 H S D m H') (hne : D ≠ E) (x : Xb E H' H'') (t : Tu H' H'') (e : Ex H H'') : Mk2 H S D m H'' :=
  let ⟨_, ys, h6, h7⟩ := h
  ⟨e, ys, x _ _ hne h6, pr_imp h7 fun _ _ r => imm t r⟩
theorem sc__law_ends : FnScope ["_law_one", "_law_rows", "_law_seen", "_law_load", "_law_pair", "_law_other"] ["_law_one"] (defScope s__law_ends) := ⟨rfl, rfl, rfl, by decide +kernel, rfl, by decide +kernel, by decide +kernel⟩
theorem ok__law_ends (T : Txt K mg) : Cal P w K mg base 2 "_law_ends" (Sp1L Rsh Rend (fun s => s.length ≤ 100 ∧ ∀ l ∈ s, l.length ≤ 100) lawEnds) := by
  refine cal_of T.d__law_ends (fun _ _ _ _ _ _ us hl => match us, hl with | [_], _ => rfl) sc__law_ends (l1L' rfl) (fun cdv f A outer s H vs Q E hr h => ?_)
  have hu := hr.units
  have hu5 := units5 hr
  have c__law_swap := ok__law_swap (P := P) (w := w) (base := base) T
  obtain ⟨v1, s0, rfl, r1, ⟨hz, hl⟩, q⟩ := h
  refine ⟨_, (pss_cons (ps_set (i := 1) sc__law_ends.nd rfl (Or.inl rfl) (pe_lst pa_nil))
    (pss_cons (ps_set (i := 2) sc__law_ends.nd rfl (Or.inl rfl) (pe_lst pa_nil))
    (pss_cons (ps_for PassesOwn.never rfl (k_piT K (pv 0)) (pg_name (i := 3) sc__law_ends.nd rfl (Or.inl rfl))
      (pss_cons (ps_if (pt_cmpR (k_ninD K hu5) (pv 3) (pv 2) rfl)
        (pss_one (ps_for PassesOwn.never rfl (k_piT K (pv 3)) (pg_name (i := 4) sc__law_ends.nd rfl (Or.inr rfl))
          (pss_one (ps_expr (pe_bm PySem.F.plainAttrs_list PySem.F.slot_list_append PySem.F.type_list_append mt_append (pv 1) (pa_cons (pe_tup (pa_cons (pv 4) (pa_cons (pv 3) (pa_cons (C8.pe_c c__law_swap hr (by decide) (by rfl) (pa_cons (pv 0) (pa_cons (pv 3) (pa_cons (pe_callTy (k_tuple K) (by rfl) T.n_tuple (by decide +kernel) (pa_cons (pe_lc (own := [("_law_other", 5)]) (g := (gName 5)) rfl sc__law_ends.nd (k_piT K (pv 3)) (blkOk_by (own := [("_law_other", 5)]) (N := ["_law_one", "_law_rows", "_law_seen", "_law_load", "_law_pair", "_law_other"]) (sc := defScope s__law_ends) (by decide +kernel)) (fun _ _ _ _ _ => (pg_name (i := 5) sc__law_ends.nd rfl (Or.inl rfl))) (fun _ _ _ _ _ => (pts_one (pt_cmpR (k_neD K hu) (pv 5) (pv 4) (nomark _)))) (fun _ _ _ _ _ => (pv 5))) pa_nil)) pa_nil)))) pa_nil)))) pa_nil)))))) pss_nil)
      (pss_one (ps_expr (pe_bm PySem.F.plainAttrs_list PySem.F.slot_list_append PySem.F.type_list_append mt_append (pv 2) (pa_cons (pv 3) pa_nil))))))
    (pss_one (ps_ret (pe_callB (k_sort K Rend (Enc.enc (R := Rend)) hu) (by rfl) T.n_sorted (by decide +kernel) (pa_cons (pv 1) pa_nil))))))), ?_⟩
  refine k_setL (R := Rend) el_nil fun D xs0 H1 hn e1 hD hx0 => ?_
  refine k_setL (R := Rld) el_nil fun E2 zs0 H2 hn2 e2 hE hz0 => ?_
  have nDE : D ≠ E2 := fun z => by rw [← z, hD] at hn2; cases hn2
  have hnE : H E2 = none := fresh_back e1 hn2
  refine j_forT (R := Rld) (et_var rfl (up (e1.trans e2) r1)) fun a xs H3 e3 ha hx => ?_
  let f : Ld × Nat → Bool := fun x => newIn s0 x.2 x.1
  let row : Ld × Nat → List EN := fun x => x.1.map fun p => (p, x.1, swap s0 x.1 (x.1.filter fun q => !decide (q = p)))
  have rowlen : ∀ n, ((((s0.zipIdx.take n).filter f).map row).flatten).length ≤ 100 * 100 := fun n => by
    have h1 := flat_len (f := row) (n := 100) ((s0.zipIdx.take n).filter f) (fun x hx => by
      show (x.1.map _).length ≤ 100
      rw [List.length_map]
      have hx2 := List.mem_of_mem_take (List.mem_filter.mp hx).1
      obtain ⟨i, hi⟩ := List.mem_iff_getElem?.mp hx2
      rw [List.getElem?_zipIdx] at hi
      cases hg : s0[i]? with
      | none => rw [hg] at hi; cases hi
      | some y => rw [hg] at hi; cases hi; exact hl y (List.mem_of_getElem? hg))
    have h2 := List.length_filter_le f (s0.zipIdx.take n)
    have h3 : (s0.zipIdx.take n).length ≤ 100 := by rw [List.length_take, List.length_zipIdx]; omega
    exact Nat.le_trans h1 (Nat.mul_le_mul_right _ (by omega))
  refine ⟨fun n σ' H' => ∃ b c, σ' = [some v1, some (.ref D), some (.ref E2), b, c, none] ∧ Mk2 H Rend D ((((s0.zipIdx.take n).filter f).map row).flatten) H' ∧ Mk2 H Rld E2 (s0.take n) H' ∧ Tu H3 H', ⟨none, none, rfl, ⟨(e1.trans e2).trans e3, xs0, e3 _ _ (e2 _ _ hD), pup (e2.trans e3) hx0⟩, ⟨(e1.trans e2).trans e3, zs0, e3 _ _ hE, pup e3 hz0⟩, Tu.refl _⟩, ?_, ?_, ?_⟩
  · rintro n σ' H' hn' ⟨b, c, rfl, m1, m2, t3⟩
    exact ⟨t3 _ _ ha, pr_imp hx fun _ _ r => imm t3 r⟩
  · rintro n x v σ' H' hx' ⟨b, c, rfl, m1, m2, t3⟩ rx
    have hmem : x ∈ s0 := List.mem_of_getElem? hx'
    have hlx := hl x hmem
    have hnl : n < s0.length := (List.getElem?_eq_some_iff.mp hx').1
    have tk : (((s0.zipIdx.take (n + 1)).filter f).map row).flatten = (((s0.zipIdx.take n).filter f).map row).flatten ++ (if f (x, n) = true then row (x, n) else []) := by
      rw [take_map_filt (f := f) (g := row) (zip_get hx'), List.flatten_append]
      cases f (x, n) <;> simp
    have last : ∀ H4 c, Mk2 H Rend D ((((s0.zipIdx.take (n + 1)).filter f).map row).flatten) H4 → Mk2 H Rld E2 (s0.take n) H4 → Tu H' H4 → ∀ D0 : Ends, (D0.nx = fun σ' H' => ∃ b c, σ' = [some v1, some (.ref D), some (.ref E2), b, c, none] ∧ Mk2 H Rend D ((((s0.zipIdx.take (n + 1)).filter f).map row).flatten) H' ∧ Mk2 H Rld E2 (s0.take (n + 1)) H' ∧ Tu H3 H') →
        tDrop (tBM K "list" rAppend (tVar 2) (tCons (tVar 3) tNil)) D0 ([some v1, some (.ref D), some (.ref E2), some v, c, none] : L2.St) H4 := fun H4 c m4 m5 t4 D0 hD0 =>
      Mk2.pushX m5 hnE rfl (by rw [List.length_take]; omega) (et_var rfl (imm t4 rx)) fun H5 m6 t5 x5 => by
        rw [hD0]
        refine ⟨_, _, rfl, m4.weakX nDE x5 t5 m6.1, ?_, t3.trans (t4.trans t5)⟩
        rw [List.take_add_one, hx']; exact m6
    obtain ⟨e6, zs6, hE6, hz6⟩ := id m2
    refine k_if (b := f (x, n)) (et_is (eT (et_ninD (et_var rfl rx) (et_var (x := s0.take n) rfl ⟨E2, zs6, rfl, hE6, hz6⟩))) (b := newIn s0 n x) (by unfold newIn; simp)) (fun hb H4 e4 => ?_) (fun hb H4 e4 => ?_)
    · obtain ⟨av, ax, hav, hax, hap⟩ := id (up e4 rx)
      subst hav
      refine j_forT (R := Rp2) (et_var rfl (up e4 rx)) fun a5 xs5 H5 e5 ha5 hx5 => ?_
      refine ⟨fun j σ' H' => ∃ d, σ' = [some v1, some (.ref D), some (.ref E2), some (.ref av), d, none] ∧ Mk2 H Rend D ((((s0.zipIdx.take n).filter f).map row).flatten ++ (x.take j).map fun p => (p, x, swap s0 x (x.filter fun q => !decide (q = p)))) H' ∧ Mk2 H Rld E2 (s0.take n) H' ∧ Tu H5 H', ⟨c, rfl, by rw [List.take_zero, List.map_nil, List.append_nil]; exact m1.ex (e4.trans e5), m2.ex (e4.trans e5), Tu.refl _⟩, ?_, ?_, ?_⟩
      · rintro j σ' H' hj ⟨d, rfl, h6, m6, t6⟩
        exact ⟨t6 _ _ ha5, pr_imp hx5 fun _ _ r => imm t6 r⟩
      · rintro j p vp σ' H' hp ⟨d, rfl, h6, m6, t6⟩ rp
        have t36 : Tu _ H' := (Tu.ex (e4.trans e5)).trans t6
        have rx6 : Rld H' (.ref av) x := imm t36 rx
        have rs6 : Rsh H' v1 s0 := up h6.1 r1
        refine Mk2.pushX h6 hn rfl ?_ (et_tr (et_var rfl rp) (et_var rfl rx6) (et_call3 (et_var rfl rs6) (et_var rfl rx6) (et_tupL (el_lcN (S := Rp2) (fun y : Ct.P => !decide (y = p)) (fun y => y) (ei_tup (et_var rfl rx6)) (by omega) (fun _ => rfl) fun v y H2 hx e2 ry => ⟨eT (et_neD (et_var rfl ry) (et_var rfl (up e2 rp))), fun _ => et_var rfl ry⟩).et) ⟨hmem, by omega⟩)) fun H7 h7 t7 x7 => ⟨_, rfl, ?_, m6.weakX nDE.symm x7 t7 h7.1, t6.trans t7⟩
        · rw [List.length_append, List.length_map, List.length_take]
          have := rowlen n
          omega
        · rw [List.take_add_one, hp, List.map_append, ← List.append_assoc]
          simpa using h7
      · rintro σ' H' ⟨d, rfl, h6, m6, t6⟩
        rw [List.take_length] at h6
        rw [hb, if_pos rfl] at tk
        exact last H' d (by rw [tk]; exact h6) m6 ((Tu.ex (e4.trans e5)).trans t6) _ rfl
    · rw [hb, if_neg Bool.false_ne_true, List.append_nil] at tk
      have m5 := m1.ex e4
      rw [← tk] at m5
      exact last H4 c m5 (m2.ex e4) (Tu.ex e4) _ rfl
  · rintro σ' H' ⟨b, c, rfl, ⟨e4, ys, h1, h2⟩, _, _⟩
    have e9 : s0.zipIdx.take s0.length = s0.zipIdx := by rw [List.take_of_length_le]; simp
    rw [e9] at h2
    exact j_retL (el_sortL (et_var rfl ⟨D, ys, rfl, h1, h2⟩)) fun p xs H5 hp e5 h5 h6 => q p xs H5 (fresh_back e4 hp) (e4.trans e5) h5 h6
theorem sc__law_places : FnScope ["_law_standing", "_law_rows", "_law_k", "_law_pair"] ["_law_standing"] (defScope s__law_places) := ⟨rfl, rfl, rfl, by decide +kernel, rfl, by decide +kernel, by decide +kernel⟩
theorem ok__law_places (T : Txt K mg) : Cal P w K mg base 1 "_law_places" (Sp1L Rsh Rpk (fun s => s.length ≤ 100 ∧ ∀ l ∈ s, l.length ≤ 100) places) := by
  refine cal_of T.d__law_places (fun _ _ _ _ _ _ us hl => match us, hl with | [_], _ => rfl) sc__law_places (l1L' rfl) (fun cdv f A outer s H vs Q E hr h => ?_)
  have hu := hr.units
  obtain ⟨v1, s0, rfl, r1, ⟨hz, hl⟩, q⟩ := h
  refine ⟨_, (pss_cons (ps_set (i := 1) sc__law_places.nd rfl (Or.inl rfl) (pe_lst pa_nil))
    (pss_cons (ps_for PassesOwn.never rfl (pi_range1 (by rfl) T.n_range (pa_cons (pe_callB (k_len K) (by rfl) T.n_len (by decide +kernel) (pa_cons (pv 0) pa_nil)) pa_nil)) (pg_name (i := 2) sc__law_places.nd rfl (Or.inl rfl))
      (pss_one (ps_for PassesOwn.never rfl (k_piT K (pe_ix (k_ixT K) (pv 0) (pv 2) (fun _ _ => rfl))) (pg_name (i := 3) sc__law_places.nd rfl (Or.inl rfl))
        (pss_one (ps_expr (pe_bm PySem.F.plainAttrs_list PySem.F.slot_list_append PySem.F.type_list_append mt_append (pv 1) (pa_cons (pe_tup (pa_cons (pv 3) (pa_cons (pv 2) pa_nil))) pa_nil)))))))
    (pss_one (ps_ret (pe_callB (k_sort K Rpk (Enc.enc (R := Rpk)) hu) (by rfl) T.n_sorted (by decide +kernel) (pa_cons (pv 1) pa_nil)))))), ?_⟩
  refine k_setL (R := Rpk) el_nil fun D xs0 H1 hn e1 hD hx0 => ?_
  let row : Ld × Nat → List (Ct.P × Int) := fun x => x.1.map fun p => (p, (x.2 : Int))
  have preflen : ∀ n, (((s0.zipIdx.take n).map row).flatten).length ≤ 100 * 100 := fun n => by
    have h1 := flat_len (f := row) (n := 100) (s0.zipIdx.take n) (fun x hx => by
      show (x.1.map _).length ≤ 100
      rw [List.length_map]
      have hx2 := List.mem_of_mem_take hx
      obtain ⟨i, hi⟩ := List.mem_iff_getElem?.mp hx2
      rw [List.getElem?_zipIdx] at hi
      cases hg : s0[i]? with
      | none => rw [hg] at hi; cases hi
      | some y => rw [hg] at hi; cases hi; exact hl y (List.mem_of_getElem? hg))
    have h3 : (s0.zipIdx.take n).length ≤ 100 := by rw [List.length_take, List.length_zipIdx]; omega
    exact Nat.le_trans h1 (Nat.mul_le_mul_right _ (by omega))
  refine j_forR (et_len (et_var rfl (up e1 r1))) (by omega) fun H2 e2 => ⟨fun i σ' H' => ∃ a b, σ' = [some v1, some (.ref D), a, b] ∧ Mk2 H Rpk D (((s0.zipIdx.take i).map row).flatten) H', ⟨none, none, rfl, e1.trans e2, xs0, e2 _ _ hD, pup e2 hx0⟩, ?_, ?_⟩
  · rintro i σ' H' hil ⟨a, b, rfl, m1⟩
    have hx' : s0[i]? = some s0[i] := List.getElem?_eq_getElem hil
    have hlx := hl s0[i] (List.getElem_mem hil)
    refine j_forT (R := Rp2) (et_ixT (et_var rfl (up m1.1 r1)) (et_var (x := (i : Int)) rfl rfl) (atI_of hx')) fun a5 xs5 H5 e5 ha5 hx5 => ?_
    refine ⟨fun j σ' H' => ∃ d, σ' = [some v1, some (.ref D), some (.int (i : Int)), d] ∧ Mk2 H Rpk D (((s0.zipIdx.take i).map row).flatten ++ (s0[i].take j).map fun p => (p, (i : Int))) H' ∧ Tu H5 H', ⟨b, rfl, by rw [List.take_zero, List.map_nil, List.append_nil]; exact m1.ex e5, Tu.refl _⟩, ?_, ?_, ?_⟩
    · rintro j σ' H' hj ⟨d, rfl, h6, t6⟩
      exact ⟨t6 _ _ ha5, pr_imp hx5 fun _ _ r => imm t6 r⟩
    · rintro j p vp σ' H' hp ⟨d, rfl, h6, t6⟩ rp
      refine Mk2.push h6 hn rfl ?_ (et_pr (S := Ri) (y := (i : Int)) (et_var rfl rp) (et_var rfl rfl)) fun H7 h7 t7 => ⟨_, rfl, ?_, t6.trans t7⟩
      · rw [List.length_append, List.length_map, List.length_take]
        have := preflen i
        omega
      · rw [List.take_add_one, hp, List.map_append, ← List.append_assoc]
        exact h7
    · rintro σ' H' ⟨d, rfl, h6, t6⟩
      rw [List.take_length] at h6
      refine ⟨_, _, rfl, ?_⟩
      rw [take_flat (zip_get hx')]
      exact h6
  · rintro σ' H' ⟨a, b, rfl, ⟨e4, ys, h1, h2⟩⟩
    have e9 : s0.zipIdx.take s0.length = s0.zipIdx := by rw [List.take_of_length_le]; simp
    rw [e9] at h2
    exact j_retL (el_sortL (et_var rfl ⟨D, ys, rfl, h1, h2⟩)) fun p xs H5 hp e5 h5 h6 => q p xs H5 (fresh_back e4 hp) (e4.trans e5) h5 h6
theorem sc__law_with : FnScope ["_law_standing", "_law_k", "_law_pair"] ["_law_standing", "_law_k", "_law_pair"] (defScope s__law_with) := ⟨rfl, rfl, rfl, by decide +kernel, rfl, by decide +kernel, by decide +kernel⟩
theorem ok__law_with (T : Txt K mg) : Cal P w K mg base 1 "_law_with" (Sp3 Rsh Ri Rp2 Rsh (fun s k _ => 0 ≤ k ∧ k < (s.length : Int) ∧ s.length ≤ 1000 ∧ ∀ l ∈ s, l.length ≤ 1000) withCall) := by
  refine cal_of T.d__law_with (fun _ _ _ _ _ _ us hl => match us, hl with | [_, _, _], _ => rfl) sc__law_with (l3' rfl) (fun cdv f A outer s H vs Q E hr h => ?_)
  have hu := hr.units
  obtain ⟨v1, v2, v3, s0, k, p, rfl, r1, r2, r3, ⟨hk, hk2, hz, hl⟩, q⟩ := h
  refine ⟨_, (pss_one (ps_ret (pe_op (k_catT K) (pe_op (k_catT K) (pe_slice (k_slT K) (pv 0) po_none (po_some (pv 1))) (pe_tup (pa_cons (pe_callTy (k_tuple K) (by rfl) T.n_tuple (by decide +kernel) (pa_cons (pe_callB (k_sort K Rp2 (Enc.enc (R := Rp2)) hu) (by rfl) T.n_sorted (by decide +kernel) (pa_cons (pe_op (k_catT K) (pe_ix (k_ixT K) (pv 0) (pv 1) (fun _ _ => rfl)) (pe_tup (pa_cons (pv 2) pa_nil))) pa_nil)) pa_nil)) pa_nil))) (pe_slice (k_slT K) (pv 0) (po_some (pe_op op_add (pv 1) pe_int)) po_none)))), ?_⟩
  have a1 : cutA s0 none (some k) = s0.take k.toNat := by
    obtain ⟨n, rfl⟩ := Int.eq_ofNat_of_zero_le hk
    exact cutA_to n
  have a2 : cutA s0 (some (k + 1)) none = s0.drop (k + 1).toNat := by
    obtain ⟨n, hn⟩ := Int.eq_ofNat_of_zero_le (by omega : 0 ≤ k + 1)
    rw [hn]
    exact cutA_from n
  have b1 : (s0.take k.toNat).length ≤ s0.length := by rw [List.length_take]; omega
  have b2 : (s0.drop (k + 1).toNat).length ≤ s0.length := by rw [List.length_drop]; omega
  have g1 : s0[k.toNat]? = some (s0.getD k.toNat []) := by rw [List.getD_eq_getElem?_getD, List.getElem?_eq_getElem (by omega)]; rfl
  have g2 : atI s0 k = some (s0.getD k.toNat []) := by
    obtain ⟨n, rfl⟩ := Int.eq_ofNat_of_zero_le hk
    exact atI_of g1
  have hlk := hl _ (List.mem_of_getElem? g1)
  exact j_ret (et_catT (et_catT ((et_slT (et_var rfl r1) eo_none (eo_to (et_var rfl r2))).is a1) (eu1 (et_tupL (el_sortT (et_catT (et_ixT (et_var rfl r1) (et_var rfl r2) g2) (eu1 (et_var rfl r3)).et (by simp only [List.length_singleton]; omega))).et)).et (by simp only [List.length_singleton]; omega)) ((et_slT (et_var rfl r1) (eo_to (et_add (et_var rfl r2) et_int)) eo_none).is a2) (by simp only [List.length_append, List.length_singleton]; omega)) fun v H1 e1 r => q v H1 e1 r
theorem sc__law_without : FnScope ["_law_standing", "_law_k", "_law_pair", "_law_one"] ["_law_standing", "_law_k", "_law_pair"] (defScope s__law_without) := ⟨rfl, rfl, rfl, by decide +kernel, rfl, by decide +kernel, by decide +kernel⟩
theorem ok__law_without (T : Txt K mg) : Cal P w K mg base 1 "_law_without" (Sp3 Rsh Ri Rp2 Rsh (fun s k _ => 0 ≤ k ∧ k < (s.length : Int) ∧ s.length ≤ 1000 ∧ ∀ l ∈ s, l.length ≤ 1000) without) := by
  refine cal_of T.d__law_without (fun _ _ _ _ _ _ us hl => match us, hl with | [_, _, _], _ => rfl) sc__law_without (l3' rfl) (fun cdv f A outer s H vs Q E hr h => ?_)
  have hu := hr.units
  obtain ⟨v1, v2, v3, s0, k, p, rfl, r1, r2, r3, ⟨hk, hk2, hz, hl⟩, q⟩ := h
  refine ⟨_, (pss_one (ps_ret (pe_op (k_catT K) (pe_op (k_catT K) (pe_slice (k_slT K) (pv 0) po_none (po_some (pv 1))) (pe_tup (pa_cons (pe_callTy (k_tuple K) (by rfl) T.n_tuple (by decide +kernel) (pa_cons (pe_lc (own := [("_law_one", 3)]) (g := (gName 3)) rfl sc__law_without.nd (k_piT K (pe_ix (k_ixT K) (pv 0) (pv 1) (fun _ _ => rfl))) (blkOk_by (own := [("_law_one", 3)]) (N := ["_law_standing", "_law_k", "_law_pair", "_law_one"]) (sc := defScope s__law_without) (by decide +kernel)) (fun _ _ _ _ _ => (pg_name (i := 3) sc__law_without.nd rfl (Or.inl rfl))) (fun _ _ _ _ _ => (pts_one (pt_cmpR (k_neD K hu) (pv 3) (pv 2) (nomark _)))) (fun _ _ _ _ _ => (pv 3))) pa_nil)) pa_nil))) (pe_slice (k_slT K) (pv 0) (po_some (pe_op op_add (pv 1) pe_int)) po_none)))), ?_⟩
  have a1 : cutA s0 none (some k) = s0.take k.toNat := by
    obtain ⟨n, rfl⟩ := Int.eq_ofNat_of_zero_le hk
    exact cutA_to n
  have a2 : cutA s0 (some (k + 1)) none = s0.drop (k + 1).toNat := by
    obtain ⟨n, hn⟩ := Int.eq_ofNat_of_zero_le (by omega : 0 ≤ k + 1)
    rw [hn]
    exact cutA_from n
  have b1 : (s0.take k.toNat).length ≤ s0.length := by rw [List.length_take]; omega
  have b2 : (s0.drop (k + 1).toNat).length ≤ s0.length := by rw [List.length_drop]; omega
  have g1 : s0[k.toNat]? = some (s0.getD k.toNat []) := by rw [List.getD_eq_getElem?_getD, List.getElem?_eq_getElem (by omega)]; rfl
  have g2 : atI s0 k = some (s0.getD k.toNat []) := by
    obtain ⟨n, rfl⟩ := Int.eq_ofNat_of_zero_le hk
    exact atI_of g1
  have hlk := hl _ (List.mem_of_getElem? g1)
  refine j_ret ((et_catT (et_catT ((et_slT (et_var rfl r1) eo_none (eo_to (et_var rfl r2))).is a1) (eu1 (et_tupL (el_lcN (S := Rp2) (fun x : Ct.P => !decide (x = p)) (fun x => x) (ei_tup (et_ixT (et_var rfl r1) (et_var rfl r2) g2)) (by omega) (fun _ => rfl) fun v x H2 hx e2 rx => ⟨eT (et_neD (et_var rfl rx) (et_var rfl (up e2 r3))), fun _ => et_var rfl rx⟩).et)).et (by simp only [List.length_singleton]; omega)) ((et_slT (et_var rfl r1) (eo_to (et_add (et_var rfl r2) et_int)) eo_none).is a2) (by simp only [List.length_append, List.length_singleton]; omega)).is ?_) fun v H1 e1 r => q v H1 e1 r
  unfold without
  simp
theorem sc__law_whole : FnScope ["_law_thing"] ["_law_thing"] (defScope s__law_whole) := ⟨rfl, rfl, rfl, by decide +kernel, rfl, by decide +kernel, by decide +kernel⟩
theorem ok__law_whole (T : Txt K mg) : Cal P w K mg base 1 "_law_whole" (Sp1 Ri Rb (fun _ => True) fun _ => true) := by
  refine cal_of T.d__law_whole (fun _ _ _ _ _ _ us hl => match us, hl with | [_], _ => rfl) sc__law_whole (Sp1.len' rfl) (fun cdv f A outer s H vs Q E hr h => ?_)
  obtain ⟨v, x, rfl, rx, _, q⟩ := h
  refine ⟨_, (pss_one (ps_ret (pe_and (pe_callB (k_isi K) (by rfl) T.n_isinstance (by decide +kernel) (pa_cons (pv 0) (pa_cons (pe_bltn (v := .ty "int") (by rfl) T.n_int (by decide +kernel) rfl) pa_nil))) (pe_one (pe_not (pe_callB (k_isi K) (by rfl) T.n_isinstance (by decide +kernel) (pa_cons (pv 0) (pa_cons (pe_bltn (v := .ty "bool") (by rfl) T.n_bool (by decide +kernel) rfl) pa_nil)))))))), ?_⟩
  exact j_ret (et_andV (et_isi (et_var rfl rx) (kit_ty (b := "int") (r := true) (by decide +kernel))) fun _ => et_notV (et_isi (et_var rfl rx) (kit_ty (b := "bool") (r := false) (by decide +kernel)))) fun v H1 e r => q v H1 e r
end
end Ct
/-! # The walks: the law's own (4): the script, picks -/
namespace Ct
open PySem PySem.Spec PyProof.Rows L2 Evl
section
variable {K : PySem.W.Frag} {σ : L2.St} {H : Hp} {ta tb te to ti : TE} {i j : Int} {b : Bool}
def rInt1 : List V → Hp → VK → Prop := fun xs H Q => (∃ i, xs = [.int i] ∧ Q (.int i) H) ∨ ∃ k, xs = [.bl k] ∧ Q (.int (if k then 1 else 0)) H
def rAbs : List V → Hp → VK → Prop := fun xs H Q => ∃ i, xs = [.int i] ∧ Q (.int (if i < 0 then -i else i)) H
theorem et_int1 (h : ET ta σ H Ri i) : ET (tCB rInt1 (tCons ta tNil)) σ H Ri i := fun H1 e Q q => h H1 e _ fun v H2 e2 r => by cases r; exact .inl ⟨i, rfl, q _ H2 e2 rfl⟩
theorem et_int1b (h : ET ta σ H Rb b) : ET (tCB rInt1 (tCons ta tNil)) σ H Ri (if b then 1 else 0) := fun H1 e Q q => h H1 e _ fun v H2 e2 r => by cases r; exact .inr ⟨b, rfl, q _ H2 e2 rfl⟩
theorem et_abs (h : ET ta σ H Ri i) : ET (tCB rAbs (tCons ta tNil)) σ H Ri (if i < 0 then -i else i) := fun H1 e Q q => h H1 e _ fun v H2 e2 r => by cases r; exact ⟨i, rfl, q _ H2 e2 rfl⟩
theorem et_mul (h1 : ET ta σ H Ri i) (h2 : ET tb σ H Ri j) (hc : CMul i j) : ET (tOp (rI CMul fun i j => .int (i * j)) ta tb) σ H Ri (i * j) := et_i (ev_op (ev_i h1) (ev_i h2) (rv_I hc))
theorem et_mod (h1 : ET ta σ H Ri i) (h2 : ET tb σ H Ri j) (hc : j ≠ 0) : ET (tOp (rI (fun _ j => j ≠ 0) fun i j => .int (i.fmod j)) ta tb) σ H Ri (i.fmod j) := et_i (ev_op (ev_i h1) (ev_i h2) (rv_I hc))
theorem et_fdiv (h1 : ET ta σ H Ri i) (h2 : ET tb σ H Ri j) (hc : CDivN i j) : ET (tOp (rI CDivN fun i j => .int (i.fdiv j)) ta tb) σ H Ri (i.fdiv j) := et_i (ev_op (ev_i h1) (ev_i h2) (rv_I hc))
theorem et_pow (h1 : ET ta σ H Ri i) (h2 : ET tb σ H Ri j) (hc : CPow i j) : ET (tOp (rI CPow fun i j => .int (i ^ j.toNat)) ta tb) σ H Ri (i ^ j.toNat) := et_i (ev_op (ev_i h1) (ev_i h2) (rv_I hc))
/-- the script -/
def Rscr (K : PySem.W.Frag) : Rp (List Int) := fun H v ns => ∃ a, v = .ref a ∧ SqL K H a (ns.map V.int)
instance : Mon (Rscr K) := ⟨fun e ⟨a, h1, h2⟩ => ⟨a, h1, ex_l e h2⟩⟩
theorem et_lenS {ns : List Int} (h : ET ta σ H (Rscr K) ns) : ET (tCB (rLenS K) (tCons ta tNil)) σ H Ri (ns.length : Int) := fun H1 e Q q =>
  h H1 e _ fun v H2 e2 ⟨a, hv, ha⟩ => ⟨a, _, by rw [hv], .inl ha, q _ H2 e2 (by rw [List.length_map]; rfl)⟩
theorem et_ixS {ns : List Int} {n : Int} (h : ET ta σ H (Rscr K) ns) (h2 : ET tb σ H Ri i) (hi : atI ns i = some n) : ET (tOp (rIxL K) ta tb) σ H Ri n := fun H1 e Q q =>
  h H1 e _ fun v H2 e2 ⟨a, hv, ha⟩ => h2 H2 (e.trans e2) _ fun w H3 e3 hw => by
    cases hw
    refine ⟨a, _, i, .int n, hv, rfl, ex_l e3 ha, ?_, q _ H3 (e2.trans e3) rfl⟩
    unfold atI at hi ⊢
    rw [List.length_map]
    cases hj : ixN ns.length i with
    | none => rw [hj] at hi; cases hi
    | some j =>
      rw [hj] at hi
      show (ns.map V.int)[j]? = some (.int n)
      rw [List.getElem?_map, show ns[j]? = some n from hi]; rfl
theorem el_slS {ns : List Int} {lo hi : Option Int} {tl th : TO} (h : ET ta σ H (Rscr K) ns) (hl : EvO tl σ H lo) (hh : EvO th σ H hi) : EL (tSl (rSlL K) ta tl th) σ H Ri (cutA ns lo hi) := fun H1 e Q q =>
  h H1 e _ fun v H2 e2 ⟨a, hv, ha⟩ => hl H2 (e.trans e2) _ fun H3 e3 => hh H3 ((e.trans e2).trans e3) _ fun H4 e4 =>
    ⟨a, _, hv, ex_l (e3.trans e4) ha, fun p hp => q p _ _ (fresh_back (e2.trans (e3.trans e4)) hp) ((e2.trans (e3.trans e4)).trans (Ex.new hp)) upd_same (cutA_pr (ints_pr _ ns))⟩
/-- xs[j] op= e, xs a list of ints, whole -/
theorem j_aug {D : Ends} {f : Int → Int → Int} {D0 : Addr} {ns : List Int} {j : Nat} {n m : Int} (ho : Ev to σ H (.ref D0)) (hD : H D0 = some (.lst (ns.map V.int))) (hi : ET ti σ H Ri (j : Int)) (hj : ns[j]? = some n) (he : ET te σ H Ri m) (k : ∀ H1, Ex H H1 → D.nx σ (upd H1 D0 (.lst ((ns.set j (f n m)).map V.int)))) :
    tAugS to ti te (rIxL K) (ipI f) rSetL D σ H :=
  ho H (Ex.refl H) _ fun H1 e1 => hi H1 e1 _ fun v H2 e2 hv => by
    cases hv
    have hjn : j < ns.length := (List.getElem?_eq_some_iff.mp hj).1
    have d2 : H2 D0 = some (.lst (ns.map V.int)) := e2 _ _ (e1 _ _ hD)
    refine ⟨D0, ns.map V.int, (j : Int), .int n, rfl, rfl, sq_of d2, atI_of (by rw [List.getElem?_map, hj]; rfl), ?_⟩
    refine he H2 (e1.trans e2) _ fun u H3 e3 hu => ?_
    cases hu
    refine ⟨n, m, rfl, rfl, D0, ns.map V.int, (j : Int), j, rfl, rfl, e3 _ _ d2, ixN_nat (by rw [List.length_map]; exact hjn), ?_⟩
    have := k H3 ((e1.trans e2).trans e3)
    rw [List.map_set] at this
    exact this
end
/-- a flow of picks, the count up to n -/
def FlowAt (n : Int) (H : Hp) (D : Addr) : Prop := ∃ a b c : Int, H D = some (.lst [.int a, .int b, .int c]) ∧ 0 ≤ b ∧ b ≤ n ∧ 0 ≤ c ∧ c < 2147483647
theorem FlowAt.mono {n m : Int} {H : Hp} {D : Addr} (h : FlowAt n H D) (hn : n ≤ m) : FlowAt m H D := let ⟨a, b, c, h1, h2, h3, h4⟩ := h; ⟨a, b, c, h1, h2, by omega, h4⟩
theorem FlowAt.ex {n : Int} {H H' : Hp} {D : Addr} (h : FlowAt n H D) (e : Ex H H') : FlowAt n H' D := let ⟨a, b, c, h1, h2⟩ := h; ⟨a, b, c, e _ _ h1, h2⟩
def spPick : Sp := fun vs H Q _ => ∃ (D : Addr) (n size : Int), vs = [.ref D, .int size] ∧ FlowAt n H D ∧ n ≤ 1000000 ∧ 1 ≤ size ∧ size ≤ 1000000 ∧ ∀ (r : Int) H', 0 ≤ r → r < size → Xb D H H' → FlowAt (n + 1) H' D → Q (.int r) H'
theorem lenPick {n : Nat} (hn : n = 2) : ∀ vs H Q E, spPick vs H Q E → vs.length = n := fun _ _ _ _ ⟨_, _, _, h, _⟩ => by rw [h, hn]; rfl
section
variable {P : Program} {w : World} {K : PySem.W.Frag} {mg : Str → Option Value} {base : Heap} {σ : L2.St} {H : Hp} {ta : TE} {e : EX}
theorem fmod_rg {a b : Int} (h : 0 < b) : 0 ≤ a.fmod b ∧ a.fmod b < b := ⟨Int.fmod_nonneg_of_pos a h, Int.fmod_lt_of_pos a h⟩
theorem sc__law_pick : FnScope ["_law_flow_here", "_law_size", "_law_digit", "_law_number"] ["_law_flow_here", "_law_size"] (defScope s__law_pick) := ⟨rfl, rfl, rfl, by decide +kernel, rfl, by decide +kernel, by decide +kernel⟩
theorem ok__law_pick (T : Txt K mg) : Cal P w K mg base 1 "_law_pick" spPick := by
  refine cal_of T.d__law_pick (fun _ _ _ _ _ _ us hl => match us, hl with | [_, _], _ => rfl) sc__law_pick (lenPick rfl) (fun cdv f A outer s H vs Q E hr h => ?_)
  obtain ⟨D, n, size, rfl, ⟨a, b, c, hD, hb0, hbn, hc0, hc1⟩, hn, hs1, hs2, q⟩ := h
  refine ⟨_, (pss_cons (ps_if (PW.pt (pw_and (pt_cmpR op_ge (pe_ix (k_ixL K) (pv 0) pe_int (fun _ _ => rfl)) (pv 1) (nomark _)) (pw_and1 (pt_cmpR op_gt (pe_ix (k_ixL K) (pv 0) pe_int (fun _ _ => rfl)) pe_int (nomark _)))))
      (pss_cons (ps_set (i := 2) sc__law_pick.nd rfl (Or.inl rfl) (pe_op op_modN (pe_callTy call_int1 (by rfl) T.n_int (by decide +kernel) (pa_cons (pe_ix (k_ixL K) (pv 0) pe_int (fun _ _ => rfl)) pa_nil)) (pv 1)))
      (pss_cons (ps_asg (pe_op op_fdivN (pe_ix (k_ixL K) (pv 0) pe_int (fun _ _ => rfl)) (pv 1)) (pg_sub (pv 0) pe_int set_list))
      (pss_one (ps_ret (pv 2))))) pss_nil)
    (pss_cons (ps_augS (pv 0) pe_int (k_get K) pe_int ip_add set_list)
    (pss_cons (ps_set (i := 3) sc__law_pick.nd rfl (Or.inl rfl) (pe_op op_modN (pe_callTy call_int1 (by rfl) T.n_int (by decide +kernel) (pa_cons (pe_op op_mul (pe_op op_add (pe_op op_add (pe_ix (k_ixL K) (pv 0) pe_int (fun _ _ => rfl)) (pe_op op_mul pe_int (pe_ix (k_ixL K) (pv 0) pe_int (fun _ _ => rfl)))) pe_int) pe_int) pa_nil)) pe_int))
    (pss_cons (ps_set (i := 3) sc__law_pick.nd rfl (Or.inl rfl) (pe_op op_modN (pe_callTy call_int1 (by rfl) T.n_int (by decide +kernel) (pa_cons (pe_op op_mul (pv 3) (pe_op op_add (pe_op op_fdivN (pv 3) pe_int) pe_int)) pa_nil)) pe_int))
    (pss_cons (ps_set (i := 3) sc__law_pick.nd rfl (Or.inl rfl) (pe_op op_modN (pe_callTy call_int1 (by rfl) T.n_int (by decide +kernel) (pa_cons (pe_op op_mul (pv 3) (pe_op op_add (pe_op op_fdivN (pv 3) pe_int) pe_int)) pa_nil)) pe_int))
    (pss_one (ps_ret (pe_op op_modN (pe_op op_fdivN (pv 3) pe_int) (pv 1))))))))), ?_⟩
  have hD' : H D = some (.lst ([a, b, c].map V.int)) := hD
  have rl : Rlst Ri H (.ref D) [a, b, c] := ints_lst hD'
  refine k_when (b := decide (a ≥ size) && decide (a > 1)) (et_and (eT (et_cmp (et_ixL (et_var rfl rl) et_int rfl) (et_var rfl rfl))) fun _ => eT (et_cmp (et_ixL (et_var rfl rl) et_int rfl) et_int)) (fun hb H1 e1 => ?_) (fun hb H1 e1 => ?_)
  · have rl := up e1 rl
    refine k_set (et_mod (et_int1 (et_ixL (et_var rfl rl) et_int rfl)) (et_var (x := size) rfl rfl) (by omega)) fun v H2 e2 rv => ?_
    have rl := up e2 rl
    have hD2 := e2 _ _ (e1 _ _ hD')
    refine s_setL (D := { nx := _, rt := _, bk := _, ct := _ }) (j := 0) hD2 (ev_i (et_fdiv (et_ixL (et_var rfl rl) et_int rfl) (et_var (x := size) rfl rfl) ⟨by omega, by omega⟩)) (ev_var rfl) ev_c (by simp) fun H3 e3 => ?_
    cases rv
    obtain ⟨r1, r2⟩ := fmod_rg (a := a) (by omega : 0 < size)
    refine ⟨_, rfl, q _ _ r1 r2 (fun b o hb h => by rw [upd_ne hb]; exact e3 _ _ (e2 _ _ (e1 _ _ h))) ⟨_, b, c, upd_same, hb0, by omega, hc0, hc1⟩⟩
  · have rl := up e1 rl
    refine j_aug (D := { nx := _, rt := _, bk := _, ct := _ }) (j := 1) (n := b) (m := 1) (ev_var rfl) (e1 _ _ hD') (et_int (i := 1)) rfl et_int fun H2 e2 => ?_
    have hD3 : (upd H2 D (.lst (([a, b, c].set 1 (b + 1)).map V.int))) D = some (.lst ([a, b + 1, c].map V.int)) := upd_same
    have xb3 : Xb D H (upd H2 D (.lst (([a, b, c].set 1 (b + 1)).map V.int))) := fun b o hb h => by rw [upd_ne hb]; exact e2 _ _ (e1 _ _ h)
    generalize upd H2 D (.lst (([a, b, c].set 1 (b + 1)).map V.int)) = H3 at hD3 xb3
    have rl : Rlst Ri H3 (.ref D) [a, b + 1, c] := ints_lst hD3
    have m1 : CMul (c + 7919 * (b + 1) + 1) 48271 := .inl ⟨by omega, by omega⟩
    refine k_set (et_mod (et_int1 (et_mul (et_add (et_add (et_ixL (et_var rfl rl) et_int rfl) (et_mul et_int (et_ixL (et_var rfl rl) et_int (i := 1) (x := b + 1) rfl) (.inl ⟨by omega, by omega⟩))) et_int) et_int m1)) et_int (by decide)) fun v H4 e4 r4 => ?_
    obtain ⟨p1, p2⟩ := fmod_rg (a := (c + 7919 * (b + 1) + 1) * 48271) (b := 2147483647) (by decide)
    generalize ((c + 7919 * (b + 1) + 1) * 48271).fmod 2147483647 = n1 at p1 p2 r4
    cases r4
    refine k_set (et_mod (et_int1 (et_mul (et_var (x := n1) rfl rfl) (et_add (et_fdiv (et_var (x := n1) rfl rfl) et_int ⟨by decide, by decide⟩) et_int) (.inl ⟨by omega, by omega⟩))) et_int (by decide)) fun v H5 e5 r5 => ?_
    obtain ⟨p3, p4⟩ := fmod_rg (a := n1 * (n1.fdiv 1009 + 69621)) (b := 2147483647) (by decide)
    generalize (n1 * (n1.fdiv 1009 + 69621)).fmod 2147483647 = n2 at p3 p4 r5
    cases r5
    refine k_set (et_mod (et_int1 (et_mul (et_var (x := n2) rfl rfl) (et_add (et_fdiv (et_var (x := n2) rfl rfl) et_int ⟨by decide, by decide⟩) et_int) (.inl ⟨by omega, by omega⟩))) et_int (by decide)) fun v H6 e6 r6 => ?_
    generalize (n2 * (n2.fdiv 2003 + 40692)).fmod 2147483399 = n3 at r6
    cases r6
    obtain ⟨p7, p8⟩ := fmod_rg (a := n3.fdiv 16) (by omega : 0 < size)
    refine j_ret (et_mod (et_fdiv (et_var (x := n3) rfl rfl) et_int ⟨by decide, by decide⟩) (et_var (x := size) rfl rfl) (by omega)) fun v H7 e7 r7 => ?_
    cases r7
    have e37 : Ex H3 H7 := ((e4.trans e5).trans e6).trans e7
    exact q _ H7 p7 p8 (fun b o hb h => e37 _ _ (xb3 b o hb h)) ⟨a, b + 1, c, e37 _ _ hD3, by omega, by omega, hc0, hc1⟩
/-! ### _law_flow -/
def spFlow (K : PySem.W.Frag) : Sp := fun vs H Q _ => ∃ (v1 : V) (script : List Int) (k : Int), vs = [v1, .int k] ∧ Rscr K H v1 script ∧ 0 ≤ k ∧ k ≤ 1000000 ∧ ∀ D H', H D = none → Ex H H' → FlowAt 0 H' D → Q (.ref D) H'
theorem lenFlow {K : PySem.W.Frag} {n : Nat} (hn : n = 2) : ∀ vs H Q E, spFlow K vs H Q E → vs.length = n := fun _ _ _ _ ⟨_, _, _, h, _⟩ => by rw [h, hn]; rfl
theorem el_three {a b c : Int} {ta tb tc : TE} (h1 : ET ta σ H Ri a) (h2 : ET tb σ H Ri b) (h3 : ET tc σ H Ri c) : EL (tLst (tCons ta (tCons tb (tCons tc tNil)))) σ H Ri [a, b, c] := el3 h1 h2 h3
theorem sc__law_flow : FnScope ["_law_script", "_law_k", "_law_cell", "_law_number"] ["_law_script", "_law_k"] (defScope s__law_flow) := ⟨rfl, rfl, rfl, by decide +kernel, rfl, by decide +kernel, by decide +kernel⟩
theorem ok__law_flow (T : Txt K mg) : Cal P w K mg base 1 "_law_flow" (spFlow K) := by
  refine cal_of T.d__law_flow (fun _ _ _ _ _ _ us hl => match us, hl with | [_, _], _ => rfl) sc__law_flow (lenFlow rfl) (fun cdv f A outer s H vs Q E hr h => ?_)
  obtain ⟨v1, script, k, rfl, r1, hk, hk2, q⟩ := h
  refine ⟨_, (pss_cons (ps_set (i := 2) sc__law_flow.nd rfl (Or.inl rfl) pe_int)
    (pss_cons (ps_if (pt_cmpR op_lt (pv 1) (pe_callB (k_len K) (by rfl) T.n_len (by decide +kernel) (pa_cons (pv 0) pa_nil)) (nomark _))
      (pss_one (ps_set (i := 2) sc__law_flow.nd rfl (Or.inl rfl) (pe_ix (k_ixL K) (pv 0) (pv 1) (fun _ _ => rfl)))) pss_nil)
    (pss_cons (ps_set (i := 3) sc__law_flow.nd rfl (Or.inl rfl) (pe_op op_add (pe_op op_mul pe_int (pe_callB call_abs (by rfl) T.n_abs (by decide +kernel) (pa_cons (pv 2) pa_nil))) (pe_callTy call_int1 (by rfl) T.n_int (by decide +kernel) (pa_cons (pe_cmpR op_lt (pv 2) pe_int (nomark _)) pa_nil))))
    (pss_cons (ps_if (pt_cmpR op_ge (pv 3) (pe_op op_pow pe_int pe_int) (nomark _))
      (pss_one (ps_ret (pe_lst (pa_cons (pv 3) (pa_cons pe_int (pa_cons (pe_op op_modN (pe_callTy call_int1 (by rfl) T.n_int (by decide +kernel) (pa_cons (pv 3) pa_nil)) pe_int) pa_nil)))))) pss_nil)
    (pss_one (ps_ret (pe_lst (pa_cons pe_int (pa_cons pe_int (pa_cons (pe_op op_modN (pe_callTy call_int1 (by rfl) T.n_int (by decide +kernel) (pa_cons (pe_op op_add (pe_op op_add (pv 3) (pe_op op_mul pe_int (pv 1))) pe_int) pa_nil)) pe_int) pa_nil)))))))))), ?_⟩
  refine k_set (R := Ri) (x := 0) et_int fun v H1 e1 rv => ?_
  cases rv
  have r1 := up e1 r1
  -- behind the cell is known
  have rest : ∀ (cell : Int) H2, Ex H1 H2 → tSeq (tAsg (tOp (rI0 fun i j => .int (i + j)) (tOp (rI CMul fun i j => .int (i * j)) (tC (.int 2)) (tCB rAbs (tCons (tVar 2) tNil))) (tCB rInt1 (tCons (tOp (rI0 fun i j => .bl (decide (i < j))) (tVar 2) (tC (.int 0))) tNil))) (gName 3))
      (tSeq (tIfS (tTest (tOp (rI0 fun i j => .bl (decide (i ≥ j))) (tVar 3) (tOp (rI CPow fun i j => .int (i ^ j.toNat)) (tC (.int 10)) (tC (.int 18)))))
          (tRet (tLst (tCons (tVar 3) (tCons (tC (.int 0)) (tCons (tOp (rI (fun _ j => j ≠ 0) fun i j => .int (i.fmod j)) (tCB rInt1 (tCons (tVar 3) tNil)) (tC (.int 2147483629))) tNil))))) tNext)
        (tRet (tLst (tCons (tC (.int 0)) (tCons (tC (.int 0)) (tCons (tOp (rI (fun _ j => j ≠ 0) fun i j => .int (i.fmod j)) (tCB rInt1 (tCons (tOp (rI0 fun i j => .int (i + j)) (tOp (rI0 fun i j => .int (i + j)) (tVar 3) (tOp (rI CMul fun i j => .int (i * j)) (tC (.int 40013)) (tVar 1))) (tC (.int 7))) tNil)) (tC (.int 2147483629))) tNil))))))
      (Dq Q) ([some v1, some (.int k), some (.int cell), none] : L2.St) H2 := fun cell H2 e2 => by
    refine k_set (et_add (et_mul et_int (et_abs (et_var (x := cell) rfl rfl)) (.inl ⟨by decide, by decide⟩)) (et_int1b (et_cmp (et_var (x := cell) rfl rfl) et_int))) fun v H3 e3 rv => ?_
    generalize 2 * (if cell < 0 then -cell else cell) + (if decide (cell < 0) = true then 1 else 0) = number at rv
    cases rv
    have fin : ∀ (c x : Int) p xs H', H3 p = none → Ex H3 H' → H' p = some (.lst xs) → Paired (Ri H') xs [x, 0, c] → 0 ≤ c → c < 2147483647 → Q (.ref p) H' := fun c x p xs H' hp e h1 h2 hc0 hc1 => by
      refine q p H' (fresh_back ((e1.trans e2).trans e3) hp) (((e1.trans e2).trans e3).trans e) ⟨x, 0, c, ?_, by omega, by omega, hc0, hc1⟩
      rw [h1, pr_ints h2]; rfl
    refine k_when (eT (et_cmp (et_var (x := number) rfl rfl) (et_pow et_int et_int ⟨by decide, by decide, by decide⟩))) (fun hb H4 e4 => ?_) (fun hb H4 e4 => ?_)
    · refine j_retL (el_three (et_var (x := number) rfl rfl) et_int (et_mod (et_int1 (et_var (x := number) rfl rfl)) et_int (by decide))) fun p xs H5 hp e5 h5 h6 => ?_
      obtain ⟨g1, g2⟩ := fmod_rg (a := number) (b := 2147483629) (by decide)
      exact fin _ _ p xs H5 (fresh_back e4 hp) (e4.trans e5) h5 h6 g1 (by omega)
    · refine j_retL (el_three et_int et_int (et_mod (et_int1 (et_add (et_add (et_var (x := number) rfl rfl) (et_mul et_int (et_var (x := k) rfl rfl) (.inl ⟨by decide, by decide⟩))) et_int)) et_int (by decide))) fun p xs H5 hp e5 h5 h6 => ?_
      obtain ⟨g1, g2⟩ := fmod_rg (a := number + 40013 * k + 7) (b := 2147483629) (by decide)
      exact fin _ _ p xs H5 (fresh_back e4 hp) (e4.trans e5) h5 h6 g1 (by omega)
  refine k_when (eT (et_cmp (et_var (x := k) rfl rfl) (et_lenS (et_var rfl r1)))) (fun hb H2 e2 => ?_) (fun hb H2 e2 => rest 0 H2 e2)
  have hkl : k < (script.length : Int) := of_decide_eq_true hb
  refine j_set (et_ixS (et_var rfl (up e2 r1)) (et_var (x := k) rfl rfl) (atI_D hk hkl)) fun v H3 e3 rv => ?_
  cases rv
  exact rest _ H3 (e2.trans e3)
end
end Ct
/-! # The walks: the law's own (5): loads, shapes -/
namespace Ct
open PySem PySem.Spec PyProof.Rows L2 Evl
/-! ### every load of the list is one -/
theorem fits_iff {l : Ld} {p : P} : fits l p = true ↔ ∀ q ∈ l, q.1 ≠ p.1 ∧ q.2 ≠ p.2 := by
  unfold fits
  rw [List.all_eq_true]
  simp
theorem loadsTo_ok (nO : Nat) : ∀ i, ∀ l ∈ loadsTo nO i, LdOk i nO l
  | 0, l, h => by
    simp [loadsTo] at h
    subst h
    exact ⟨by simp, by simp, by simp⟩
  | i + 1, l, h => by
    rw [loadsTo] at h
    rcases List.mem_append.mp h with h | h
    · have k := loadsTo_ok nO i l h
      exact ⟨fun p hp => by obtain ⟨⟨a1, a2⟩, a3⟩ := k.inp p hp; exact ⟨⟨a1, by omega⟩, a3⟩, k.inc, k.nd⟩
    · unfold longer at h
      obtain ⟨m, hm, h⟩ := List.mem_flatten.mp h
      obtain ⟨l0, h0, rfl⟩ := List.mem_map.mp hm
      obtain ⟨o, ho, rfl⟩ := List.mem_map.mp h
      obtain ⟨ho1, ho2⟩ := List.mem_filter.mp ho
      have ho1 := List.mem_range.mp ho1
      have k := loadsTo_ok nO i l0 h0
      have hf := fits_iff.mp ho2
      refine ⟨fun p hp => ?_, ?_, ?_⟩
      · rcases List.mem_append.mp hp with hp | hp
        · obtain ⟨⟨a1, a2⟩, a3⟩ := k.inp p hp; exact ⟨⟨a1, by omega⟩, a3⟩
        · rw [List.mem_singleton.mp hp]
          show (0 ≤ ((i : Nat) : Int) ∧ ((i : Nat) : Int) < ((i + 1 : Nat) : Int)) ∧ 0 ≤ ((o : Nat) : Int) ∧ ((o : Nat) : Int) < (nO : Int)
          omega
      · rw [List.map_append, List.pairwise_append]
        refine ⟨k.inc, by simp, fun a ha b hb => ?_⟩
        obtain ⟨p, hp, rfl⟩ := List.mem_map.mp ha
        obtain ⟨⟨a1, a2⟩, a3⟩ := k.inp p hp
        simp [pr] at hb
        omega
      · rw [List.map_append, List.nodup_append]
        refine ⟨k.nd, by simp, fun a ha b hb => ?_⟩
        obtain ⟨p, hp, rfl⟩ := List.mem_map.mp ha
        have := (hf p hp).2
        simp [pr] at hb this
        omega
theorem mem_srt {α : Type} {R : Rp α} [i : Enc R] {l : List α} {x : α} : x ∈ srt R l ↔ x ∈ l := by unfold srt; exact List.mem_mergeSort
theorem len_srt {α : Type} {R : Rp α} [i : Enc R] {l : List α} : (srt R l).length = l.length := by unfold srt; exact List.length_mergeSort _
theorem allLoadsN_ok {nI nO : Nat} {l : Ld} (h : l ∈ allLoadsN nI nO) : LdOk nI nO l := loadsTo_ok nO nI l (mem_srt.mp h)
theorem allLoadsN_len {nI nO : Nat} (h1 : nI ≤ 4) (h2 : nO ≤ 4) : (allLoadsN nI nO).length ≤ 625 := by unfold allLoadsN; rw [len_srt]; exact loadsTo_small h2 h1
theorem j_forLv {α : Type} {R : Rp α} {K : PySem.W.Frag} {σ : L2.St} {H : Hp} {l : List α} {g : TG} {tu : TS} {D : Ends} {j : Nat} {a : Addr} {xs : List V} (hv : σ[j]? = some (some (.ref a))) (ha : H a = some (.lst xs)) (hx : Paired (R H) xs l) (Pv : Nat → L2.St → Hp → Prop) (h0 : Pv 0 σ H) (hl : ∀ i σ' H', i ≤ l.length → Pv i σ' H' → H' a = some (.lst xs) ∧ Paired (R H') xs l)
    (hs : ∀ i x v σ' H', l[i]? = some x → Pv i σ' H' → R H' v x → g v σ' H' fun σ2 H2 => tu { D with nx := Pv (i + 1), ct := Pv (i + 1), bk := D.nx } σ2 H2) (hd : ∀ σ' H', Pv l.length σ' H' → D.nx σ' H') : tFor (iList K (tVar j)) g tu D σ H := by
  have n := pr_len hx
  refine ⟨.ref a, hv, a, rfl, ⟨xs, sq_of ha⟩, for_it (walk_list (K := K) (a := a) (xs := xs)) Pv h0 (fun i σ' H' hi q => sq_of (hl i σ' H' (by omega) q).1) (fun i v σ' H' H2 hi q hy => ?_) (fun σ' H' q => hd σ' H' (by rw [← n]; exact q))⟩
  obtain ⟨rfl, hxi⟩ := hy
  obtain ⟨x, h1, h2⟩ := pr_get (hl i σ' _ (by omega) q).2 hxi
  exact hs i x v σ' _ h1 q h2
section
variable {P : Program} {w : World} {K : PySem.W.Frag} {mg : Str → Option Value} {base : Heap} {σ : L2.St} {H : Hp} {ta : TE} {e : EX}
theorem sc__law_loads : FnScope ["_law_ins", "_law_outs", "_law_loads_here", "_law_i", "_law_longer", "_law_load", "_law_o"] ["_law_ins", "_law_outs"] (defScope s__law_loads) := ⟨rfl, rfl, rfl, by decide +kernel, rfl, by decide +kernel, by decide +kernel⟩
theorem ok__law_loads (T : Txt K mg) : Cal P w K mg base 2 "_law_loads" (Sp2L (Rtup Ri) (Rtup Ri) Rld (fun ins outs => ins.length ≤ 4 ∧ outs.length ≤ 4) fun ins outs => allLoadsN ins.length outs.length) := by
  refine cal_of T.d__law_loads (fun _ _ _ _ _ _ us hl => match us, hl with | [_, _], _ => rfl) sc__law_loads (l2L' rfl) (fun cdv f A outer s H vs Q E hr h => ?_)
  have hu := hr.units
  have c__law_fits := ok__law_fits (P := P) (w := w) (base := base) T
  obtain ⟨v1, v2, ins, outs, rfl, r1, r2, ⟨hi, ho⟩, q⟩ := h
  refine ⟨_, (pss_cons (ps_set (i := 2) sc__law_loads.nd rfl (Or.inl rfl) (pe_lst (pa_cons (pe_tup pa_nil) pa_nil)))
    (pss_cons (ps_for PassesOwn.never rfl (pi_range1 (by rfl) T.n_range (pa_cons (pe_callB (k_len K) (by rfl) T.n_len (by decide +kernel) (pa_cons (pv 0) pa_nil)) pa_nil)) (pg_name (i := 3) sc__law_loads.nd rfl (Or.inl rfl))
      (pss_cons (ps_set (i := 4) sc__law_loads.nd rfl (Or.inl rfl) (pe_lst pa_nil))
      (pss_cons (ps_for PassesOwn.never rfl (k_piL K (pv 2)) (pg_name (i := 5) sc__law_loads.nd rfl (Or.inl rfl))
        (pss_one (ps_for PassesOwn.never rfl (pi_range1 (by rfl) T.n_range (pa_cons (pe_callB (k_len K) (by rfl) T.n_len (by decide +kernel) (pa_cons (pv 1) pa_nil)) pa_nil)) (pg_name (i := 6) sc__law_loads.nd rfl (Or.inl rfl))
          (pss_one (ps_if (pt_val (C8.pe_c c__law_fits hr (by decide) (by rfl) (pa_cons (pv 5) (pa_cons (pe_tup (pa_cons (pv 3) (pa_cons (pv 6) pa_nil))) pa_nil))))
            (pss_one (ps_expr (pe_bm PySem.F.plainAttrs_list PySem.F.slot_list_append PySem.F.type_list_append mt_append (pv 4) (pa_cons (pe_op (k_catT K) (pv 5) (pe_tup (pa_cons (pe_tup (pa_cons (pv 3) (pa_cons (pv 6) pa_nil))) pa_nil))) pa_nil)))) pss_nil)))))
      (pss_one (ps_set (i := 2) sc__law_loads.nd rfl (Or.inl rfl) (pe_op op_cat (pv 2) (pv 4)))))))
    (pss_one (ps_ret (pe_callB (k_sort K Rld (Enc.enc (R := Rld)) hu) (by rfl) T.n_sorted (by decide +kernel) (pa_cons (pv 2) pa_nil)))))), ?_⟩
  refine k_setL (R := Rld) (el1 eu_nil.et) fun p0 xs0 H1 hn e1 hp0 hx0 => ?_
  refine j_forR (et_len (et_var rfl (up e1 r1))) (by omega) fun H2 e2 => ⟨fun i σ' H' => ∃ vl a b c d, σ' = [some v1, some v2, some vl, a, b, c, d] ∧ Ex H H' ∧ Rlst Rld H' vl (loadsTo outs.length i), ⟨.ref p0, none, none, none, none, rfl, e1.trans e2, p0, xs0, rfl, e2 _ _ hp0, pup e2 hx0⟩, ?_, ?_⟩
  · rintro i σ' H' hil ⟨vl, a, b, c, d, rfl, e3, rl⟩
    have hsm := loadsTo_small (i := i) ho (by omega)
    refine k_setL (R := Rld) el_nil fun D xsD H3 hnD e4 hD hxD => ?_
    let row : Ld → List Ld := fun l => ((List.range outs.length).filter fun o => fits l (pr i o)).map fun o => l ++ [pr i o]
    have rowlen : ∀ l, (row l).length ≤ 4 := fun l => by
      show (((List.range outs.length).filter _).map _).length ≤ 4
      rw [List.length_map]
      exact Nat.le_trans (List.length_filter_le _ _) (by rw [List.length_range]; omega)
    have preflen : ∀ n, (((loadsTo outs.length i).take n).map row).flatten.length ≤ 625 * 4 := fun n => by
      have := flat_len (f := row) (n := 4) ((loadsTo outs.length i).take n) fun x _ => rowlen x
      exact Nat.le_trans this (Nat.mul_le_mul_right _ (by rw [List.length_take]; omega))
    obtain ⟨al, xl, rfl, hal, hxl⟩ := rl
    refine j_forLv (R := Rld) (l := loadsTo outs.length i) (D := { nx := _, rt := _, bk := _, ct := _ }) (a := al) (xs := xl) rfl (e4 _ _ hal) (pup e4 hxl) (fun n σ' H6 => ∃ c d, σ' = [some v1, some v2, some (.ref al), some (.int (i : Int)), some (.ref D), c, d] ∧ Mk2 H' Rld D ((((loadsTo outs.length i).take n).map row).flatten) H6) ⟨c, d, rfl, ⟨e4, xsD, hD, by simpa using hxD⟩⟩ ?_ ?_ ?_
    · rintro n σ' H6 hn6 ⟨c, d, rfl, m6⟩
      exact ⟨m6.1 _ _ hal, pup m6.1 hxl⟩
    · rintro n x v σ' H6 hx ⟨c, d, rfl, m6⟩ rx
      have hlx := loadsTo_each _ _ x (List.mem_of_getElem? hx)
      refine j_forR (et_len (et_var rfl (up ((e3.trans m6.1)) r2))) (by omega) fun H7 e7 => ⟨fun o σ' H8 => ∃ d, σ' = [some v1, some v2, some (.ref al), some (.int (i : Int)), some (.ref D), some v, d] ∧ Mk2 H' Rld D ((((loadsTo outs.length i).take n).map row).flatten ++ ((List.range o).filter fun o => fits x (pr i o)).map fun o => x ++ [pr i o]) H8 ∧ Tu H7 H8, ⟨d, rfl, by simpa using m6.ex e7, Tu.refl _⟩, ?_, ?_⟩
      · rintro o σ' H8 hol ⟨d, rfl, m8, t8⟩
        have rx8 : Rld H8 v x := imm ((Tu.ex e7).trans t8) rx
        have tk := range_filt (f := fun o => fits x (pr i o)) (g := fun o => x ++ [pr i o]) o
        refine j_when (b := fits x (pr i o)) (eB (et_call2 (et_var rfl rx8) (et_pr (R := Ri) (S := Ri) (x := (i : Int)) (y := (o : Int)) (et_var rfl rfl) (et_var rfl rfl)) trivial)) (fun hb H9 e9 => ?_) (fun hb H9 e9 => ?_)
        · refine Mk2.push (m8.ex e9) hnD rfl ?_ (et_catT (et_var rfl (up e9 rx8)) (eu1 (et_pr (R := Ri) (S := Ri) (x := (i : Int)) (y := (o : Int)) (et_var rfl rfl) (et_var rfl rfl))).et (by simp; omega)) fun HA hA tA => ⟨_, rfl, ?_, (t8.trans (Tu.ex e9)).trans tA⟩
          · rw [List.length_append, List.length_map]
            have h1 := preflen n
            have h2 := List.length_filter_le (fun o => fits x (pr i o)) (List.range o)
            rw [List.length_range] at h2
            omega
          · rw [if_pos hb] at tk
            rw [tk, ← List.append_assoc]
            exact hA
        · rw [if_neg (by rw [hb]; exact Bool.false_ne_true), List.append_nil] at tk
          refine ⟨_, rfl, ?_, t8.trans (Tu.ex e9)⟩
          rw [tk]
          exact m8.ex e9
      · rintro σ' H8 ⟨d, rfl, m8, t8⟩
        refine ⟨_, _, rfl, ?_⟩
        rw [take_flat hx]
        exact m8
    · rintro σ' H6 ⟨c, d, rfl, e6, ys, h1, h2⟩
      rw [List.take_length] at h2
      refine j_setL (el_catL (et_var (x := loadsTo outs.length i) rfl ⟨al, xl, rfl, e6 _ _ hal, pup e6 hxl⟩) (et_var (x := longer outs.length (loadsTo outs.length i) i) rfl ⟨D, ys, rfl, h1, h2⟩) ?_) fun p5 xs5 H7 hn5 e7 hp5 hx5 => ⟨_, _, _, _, _, rfl, (e3.trans e6).trans e7, p5, xs5, rfl, hp5, hx5⟩
      have := longer_len outs.length (loadsTo outs.length i) i
      have := Nat.mul_le_mul_left (loadsTo outs.length i).length ho
      omega
  · rintro σ' H' ⟨vl, a, b, c, d, rfl, e3, rl⟩
    exact j_retL (el_sortL (et_var rfl rl)) fun p xs H5 hp e5 h5 h6 => q p xs H5 (fresh_back e3 hp) (e3.trans e5) h5 h6
end
end Ct
/-! # The walks: the law's own (6): shapes -/
namespace Ct
open PySem PySem.Spec PyProof.Rows L2 Evl
/-- what less makes is new throughout -/
def spLess : Sp := fun vs H Q _ => ∃ (v1 v2 : V) (x : LR) (l : Ld), vs = [v1, v2] ∧ Rlr H v1 x ∧ Rseq Rp2 H v2 l ∧ (∀ p ∈ l, InP x.1.length x.2.length p) ∧ ∀ u H', Ex H H' → (∀ D o, H D = some o → (∀ xs, o ≠ .tup xs) → Off D Rlr H' u (lessLR x l)) → Q u H'
theorem lenLess {n : Nat} (hn : n = 2) : ∀ vs H Q E, spLess vs H Q E → vs.length = n := fun _ _ _ _ ⟨_, _, _, _, h, _⟩ => by rw [h, hn]; rfl
theorem j_forLw {α : Type} {R : Rp α} {K : PySem.W.Frag} {σ : L2.St} {H : Hp} {l : List α} {g : TG} {tu : TS} {D : Ends} {j : Nat} {a : Addr} {xs : List V} (hv : σ[j]? = some (some (.ref a))) (ha : H a = some (.lst xs)) (hx : Paired (R H) xs l) (Pv : Nat → L2.St → Hp → Prop) (h0 : Pv 0 σ H) (hl : ∀ i σ' H', i ≤ l.length → Pv i σ' H' → H' a = some (.lst xs))
    (hs : ∀ i x v σ' H', l[i]? = some x → xs[i]? = some v → Pv i σ' H' → R H v x → g v σ' H' fun σ2 H2 => tu { D with nx := Pv (i + 1), ct := Pv (i + 1), bk := D.nx } σ2 H2) (hd : ∀ σ' H', Pv l.length σ' H' → D.nx σ' H') : tFor (iList K (tVar j)) g tu D σ H := by
  have n := pr_len hx
  refine ⟨.ref a, hv, a, rfl, ⟨xs, sq_of ha⟩, for_it (walk_list (K := K) (a := a) (xs := xs)) Pv h0 (fun i σ' H' hi q => sq_of (hl i σ' H' (by omega) q)) (fun i v σ' H' H2 hi q hy => ?_) (fun σ' H' q => hd σ' H' (by rw [← n]; exact q))⟩
  obtain ⟨rfl, hxi⟩ := hy
  obtain ⟨x, h1, h2⟩ := pr_get hx hxi
  exact hs i x v σ' _ h1 hxi q h2
section
variable {P : Program} {w : World} {K : PySem.W.Frag} {mg : Str → Option Value} {base : Heap} {σ : L2.St} {H : Hp} {ta tb : TE} {e : EX}
theorem ok__law_less2 (T : Txt K mg) : Cal P w K mg base 1 "_law_less" spLess := by
  refine cal_of T.d__law_less (fun _ _ _ _ _ _ us hl => match us, hl with | [_, _], _ => rfl) sc__law_less (lenLess rfl) (fun cdv f A outer s H vs Q E hr h => ?_)
  obtain ⟨v1, v2, x, l, rfl, r1, r2, hp, q⟩ := h
  refine ⟨_, (pss_cons (ps_set (i := 2) sc__law_less.nd rfl (Or.inl rfl) (pe_callTy (k_list K) (by rfl) T.n_list (by decide +kernel) (pa_cons (pe_ix (k_ixT K) (pv 0) pe_int (fun _ _ => rfl)) pa_nil)))
    (pss_cons (ps_set (i := 3) sc__law_less.nd rfl (Or.inl rfl) (pe_callTy (k_list K) (by rfl) T.n_list (by decide +kernel) (pa_cons (pe_ix (k_ixT K) (pv 0) pe_int (fun _ _ => rfl)) pa_nil)))
    (pss_cons (ps_for PassesOwn.never rfl (k_piS K (pv 1)) (pg_name (i := 4) sc__law_less.nd rfl (Or.inl rfl))
      (pss_cons (ps_augS (pv 2) (pe_ix (k_ixT K) (pv 4) pe_int (fun _ _ => rfl)) (k_get K) pe_int ip_sub set_list)
      (pss_one (ps_augS (pv 3) (pe_ix (k_ixT K) (pv 4) pe_int (fun _ _ => rfl)) (k_get K) pe_int ip_sub set_list))))
    (pss_one (ps_ret (pe_tup (pa_cons (pv 2) (pa_cons (pv 3) pa_nil)))))))), ?_⟩
  refine k_setL (el_listL (et_p0 (et_var rfl r1))) fun p1 xs1 H1 hn1 e1 h1 hx1 => ?_
  refine k_setL (el_listL (et_p1 (et_var rfl (up e1 r1)))) fun p2 xs2 H2 hn2 e2 h2 hx2 => ?_
  have n12 : p1 ≠ p2 := fun z => by rw [← z, h1] at hn2; cases hn2
  have e02 : Ex H H2 := e1.trans e2
  have hn2' : H p2 = none := fresh_back e1 hn2
  refine j_forS (et_var rfl (up e02 r2)) fun p xs H3 e3 hp3 hx3 => ?_
  have e23 : Ex H H3 := e02.trans e3
  have i1 : H3 p1 = some (.lst (x.1.map V.int)) := e3 _ _ (e2 _ _ (lst_ints h1 hx1))
  have i2 : H3 p2 = some (.lst (x.2.map V.int)) := e3 _ _ (lst_ints h2 hx2)
  have np : ∀ (i : Nat) (y : Ct.P) (pp : Addr) (ns : List Int), l[i]? = some y → H3 pp = some (.lst (ns.map V.int)) → p ≠ pp := fun i y pp ns hy hpp z => by
    subst z
    rcases hp3 with hh | hh
    · rw [hh] at hpp; cases hpp
    · rw [hh] at hpp
      have hxx : xs = ns.map V.int := by injection hpp with hpp; injection hpp
      obtain ⟨u, hu, ru⟩ := pr_get' hx3 hy
      rw [hxx, List.getElem?_map] at hu
      obtain ⟨aa, uu, ww, hv, _⟩ := ru
      cases hg : ns[i]? with
      | none => rw [hg] at hu; cases hu
      | some n => rw [hg] at hu; cases hu; cases hv
  refine ⟨fun i σ' H' => ∃ a, σ' = [some v1, some v2, some (.ref p1), some (.ref p2), a] ∧ Ex H H' ∧ Tu H3 H' ∧ H' p = H3 p ∧ H' p1 = some (.lst ((lessLR x (l.take i)).1.map V.int)) ∧ H' p2 = some (.lst ((lessLR x (l.take i)).2.map V.int)), ?_, ?_, ?_, ?_⟩
  · exact ⟨none, rfl, e23, Tu.refl _, rfl, i1, i2⟩
  · rintro i σ' H' hi ⟨a, rfl, e4, t4, h4, h5, h6⟩
    exact ⟨h4, pr_imp hx3 fun _ _ r => imm t4 r⟩
  · rintro i y v σ' H' hx ⟨a, rfl, e4, t4, h4, h5, h6⟩ rx
    obtain ⟨⟨a1, a2⟩, a3, a4⟩ := hp y (List.mem_of_getElem? hx)
    have l1 : y.1.toNat < (lessLR x (l.take i)).1.length := by rw [less_len1]; omega
    have l2 : y.2.toNat < (lessLR x (l.take i)).2.length := by rw [less_len2]; omega
    obtain ⟨n1, g1, s1⟩ := set_dec l1
    obtain ⟨n2, g2, s2⟩ := set_dec l2
    have c1 : y.1 = ((y.1.toNat : Nat) : Int) := by omega
    have c2 : y.2 = ((y.2.toNat : Nat) : Int) := by omega
    refine j_dec (D := { nx := _, rt := _, bk := _, ct := _ }) (ev_var rfl) h5 ((et_p0 (et_var rfl rx)).is c1) g1 fun H5 e5 => ?_
    rw [s1]
    have hp2' : (upd H5 p1 (.lst ((dec1 (lessLR x (l.take i)).1 y.1).map V.int))) p2 = some (.lst ((lessLR x (l.take i)).2.map V.int)) := by
      rw [upd_ne n12.symm]; exact e5 _ _ h6
    have t5 : Tu H' (upd H5 p1 (.lst ((dec1 (lessLR x (l.take i)).1 y.1).map V.int))) := (Tu.ex e5).trans (Tu.lst (e5 _ _ h5))
    refine j_dec (ev_var rfl) hp2' ((et_p1 (et_var rfl (imm t5 rx))).is c2) g2 fun H6 e6 => ?_
    rw [s2]
    refine ⟨_, rfl, Ex.mut ((Ex.mut (e4.trans e5) hn1).trans e6) hn2', t4.trans (t5.trans ((Tu.ex e6).trans (Tu.lst (e6 _ _ hp2')))), ?_, ?_, ?_⟩
    · rw [upd_ne (np i y p2 _ hx i2), ← h4]
      rcases hp3 with hh | hh
      · rw [h4, hh]; exact e6 _ _ (by rw [upd_ne (np i y p1 _ hx i1)]; exact e5 _ _ (h4.trans hh))
      · rw [h4, hh]; exact e6 _ _ (by rw [upd_ne (np i y p1 _ hx i1)]; exact e5 _ _ (h4.trans hh))
    · rw [upd_ne n12, less_take hx]; exact e6 _ _ upd_same
    · rw [upd_same, less_take hx]
  · rintro σ' H' ⟨a, rfl, e4, t4, h4, h5, h6⟩
    rw [List.take_length] at h5 h6
    refine ⟨_, rfl, _, rfl, (by show 2 ≤ sizeLine; decide), fun t ht => q _ _ (e4.trans (Ex.new ht)) fun D o hD ho => ?_⟩
    have nt : ∀ b u, H' b = some u → b ≠ t := fun b u hb z => by rw [z, ht] at hb; cases hb
    have dD : D ≠ t := nt D o (e4 _ _ hD)
    have d1 : p1 ≠ D := fun z => by rw [z, hD] at hn1; cases hn1
    have d2 : p2 ≠ D := fun z => by rw [z, hD] at hn2'; cases hn2'
    exact ⟨t, .ref p1, .ref p2, rfl, by rw [hide_ne dD.symm, upd_same], ⟨p1, _, rfl, by rw [hide_ne d1, upd_ne (nt _ _ h5)]; exact h5, ints_pr _ _⟩, ⟨p2, _, rfl, by rw [hide_ne d2, upd_ne (nt _ _ h6)]; exact h6, ints_pr _ _⟩⟩

theorem et_less {E : XK} {x : LR} {l : Ld} {D : Addr} {o : HO} (hD : H D = some o) (ho : ∀ xs, o ≠ .tup xs) (h1 : ET ta σ H Rlr x) (h2 : ET tb σ H (Rseq Rp2) l) (hp : ∀ p ∈ l, InP x.1.length x.2.length p) : ET (tCall spLess [] E (tCons ta (tCons tb tNil))) σ H (Off D Rlr) (lessLR x l) := fun H1 e Q q =>
  h1 H1 e _ fun v H2 e2 r => h2 H2 (e.trans e2) _ fun w H3 e3 s => ⟨v, w, x, l, rfl, up e3 r, s, hp, fun u H' e4 hu => q u H' ((e2.trans e3).trans e4) (hu D o ((e.trans (e2.trans e3)) _ _ hD) ho)⟩
/-- items that may lean on lists, but not on D -/
def MkO {β : Type} (H : Hp) (S : Rp β) (D : Addr) (m : List β) (H' : Hp) : Prop := Ex H H' ∧ ∃ ys, H' D = some (.lst ys) ∧ Paired (Off D S H') ys m
section
variable {β : Type} {S : Rp β} {H' H'' : Hp} {D : Addr} {m : List β}
theorem MkO.ex [Mon S] (h : MkO H S D m H') (e : Ex H' H'') : MkO H S D m H'' := let ⟨e0, ys, h1, h2⟩ := h; ⟨e0.trans e, ys, e _ _ h1, pup e h2⟩
theorem MkO.push [Mon S] {i : Nat} {te : TE} {D0 : Ends} {x : β} (h : MkO H S D m H') (hn : H D = none) (hv : σ[i]? = some (some (.ref D))) (hz : m.length < 1000000) (he : ET te σ H' (Off D S) x) (k : ∀ H2, MkO H S D (m ++ [x]) H2 → Tu H' H2 → Xb D H' H2 → D0.nx σ H2) : tDrop (tBM K "list" rAppend (tVar i) (tCons te tNil)) D0 σ H' := by
  obtain ⟨e0, ys, h1, h2⟩ := h
  refine j_app hv h1 (by rw [pr_len h2]; exact hz) he fun v H1 e1 r => k _ ⟨Ex.mut (e0.trans e1) hn, _, upd_same, ?_⟩ ((Tu.ex e1).trans (Tu.lst (e1 _ _ h1))) fun b o hb h => by rw [upd_ne hb]; exact e1 _ _ h
  exact pr_snoc (pr_imp (pup e1 h2) fun _ _ r => Off.stay r fun b o hb eb => by rw [upd_ne hb]; exact eb) (Off.stay r fun b o hb eb => by rw [upd_ne hb]; exact eb)
theorem MkO.lst [Mon S] (h : MkO H S D m H') : Rlst S H' (.ref D) m := let ⟨_, ys, h1, h2⟩ := h; ⟨D, ys, rfl, h1, pr_imp h2 fun _ _ r => Off.on r⟩
end
theorem et_prO {α β : Type} {R : Rp α} {S : Rp β} {x : α} {y : β} {D : Addr} {zs : List V} [Mon R] [Imm R] [Mon S] (ha : ET ta σ H R x) (hb : ET tb σ H (Off D S) y) (hD : H D = some (.lst zs)) : ET (tTup (tCons ta (tCons tb tNil))) σ H (Off D (Rpr R S)) (x, y) := fun H1 e Q q =>
  ha H1 e _ fun v H2 e2 r => hb H2 (e.trans e2) _ fun w H3 e3 s => by
    refine ⟨(by show 2 ≤ sizeLine; decide), fun t ht => q _ _ ((e2.trans e3).trans (Ex.new ht)) ?_⟩
    have d3 : H3 D = some (.lst zs) := e3 _ _ (e2 _ _ (e _ _ hD))
    have nt : t ≠ D := fun z => by rw [z, d3] at ht; cases ht
    have dD : (upd H3 t (.tup [v, w])) D = some (.lst zs) := by rw [upd_ne nt.symm]; exact d3
    exact ⟨t, v, w, rfl, by rw [hide_ne nt, upd_same], off_imm dD (up (e3.trans (Ex.new ht)) r), up (R := Off D S) (Ex.new ht) s⟩
theorem et_leLd {x y : Ld} (h1 : ET ta σ H Rld x) (h2 : ET tb σ H Rld y) : ET (tOp rLeLd ta tb) σ H Rb (leLd x y) := et_op h1 h2 fun H1 v u e r1 r2 Q q => ⟨x, y, r1, r2, q _ _ (Ex.refl _) rfl⟩
theorem et_neg {i : Int} (h : ET ta σ H Ri i) : ET (tUn (rU fun i => .int (-i)) ta) σ H Ri (-i) := et_i (ev_un (ev_i h) ru_neg)
abbrev Rrow : Rp (Sh × LR) := Rpr Rsh Rlr
theorem lawRow_len (loads : List Ld) (r : Sh × LR) : (lawRow loads r).length ≤ loads.length := by
  unfold lawRow
  rw [List.length_map]
  exact List.length_filter_le _ _
def spShapes : Sp := fun vs H Q _ => ∃ (v1 v2 : V) (ins outs : List Int) (mid most : Int), vs = [v1, v2, .int mid, .int most] ∧ Rtup Ri H v1 ins ∧ Rtup Ri H v2 outs ∧ 1 ≤ ins.length ∧ ins.length ≤ 4 ∧ outs.length ≤ 4 ∧ 0 ≤ mid ∧ mid ≤ 7 ∧ 1 ≤ most ∧ most ≤ 1000 ∧
    ∀ p xs H', H p = none → Ex H H' → H' p = some (.lst xs) → Paired (Rsh H') xs (lawShapes ins outs mid most) → Q (.ref p) H'
theorem lenShapes {n : Nat} (hn : n = 4) : ∀ vs H Q E, spShapes vs H Q E → vs.length = n := fun _ _ _ _ ⟨_, _, _, _, _, _, h, _⟩ => by rw [h, hn]; rfl
theorem tot_gt {α β : Type} {f : α → List β} {rows : List α} {m : Nat} : (((rows.take m).map f).flatten).length ≤ ((rows.map f).flatten).length := by
  have h : rows = rows.take m ++ rows.drop m := (List.take_append_drop m rows).symm
  have h2 : (rows.map f).flatten = ((rows.take m).map f).flatten ++ ((rows.drop m).map f).flatten := by
    rw [← List.flatten_append, ← List.map_append, List.take_append_drop]
  rw [h2, List.length_append]
  omega
theorem sc__law_shapes : FnScope ["_law_ins", "_law_outs", "_law_middles", "_law_most", "_law_loads_here", "_law_rows", "_law_k", "_law_longer", "_law_row", "_law_load", "_law_left"] ["_law_ins", "_law_outs", "_law_middles", "_law_most"] (defScope s__law_shapes) := ⟨rfl, rfl, rfl, by decide +kernel, rfl, by decide +kernel, by decide +kernel⟩
theorem ok__law_shapes (T : Txt K mg) : Cal P w K mg base 3 "_law_shapes" spShapes := by
  refine cal_of T.d__law_shapes (fun _ _ _ _ _ _ us hl => match us, hl with | [_, _, _, _], _ => rfl) sc__law_shapes (lenShapes rfl) (fun cdv f A outer s H vs Q E hr h => ?_)
  have hu := hr.units
  have c__law_loads := ok__law_loads (P := P) (w := w) (base := base) T
  have c__law_less := ok__law_less2 (P := P) (w := w) (base := base) T
  obtain ⟨v1, v2, ins, outs, mid, most, rfl, r1, r2, hi1, hi, ho, hm0, hm7, hmo, hmo2, q⟩ := h
  refine ⟨_, (pss_cons (ps_set (i := 4) sc__law_shapes.nd rfl (Or.inl rfl) (C8.pe_c c__law_loads hr (by decide) (by rfl) (pa_cons (pv 0) (pa_cons (pv 1) pa_nil))))
    (pss_cons (ps_set (i := 5) sc__law_shapes.nd rfl (Or.inl rfl) (pe_lst (pa_cons (pe_tup (pa_cons (pe_tup pa_nil) (pa_cons (pe_tup (pa_cons (pe_callTy (k_list K) (by rfl) T.n_list (by decide +kernel) (pa_cons (pv 0) pa_nil)) (pa_cons (pe_callTy (k_list K) (by rfl) T.n_list (by decide +kernel) (pa_cons (pv 1) pa_nil)) pa_nil))) pa_nil))) pa_nil)))
    (pss_cons (ps_for PassesOwn.never rfl (pi_range1 (by rfl) T.n_range (pa_cons (pv 2) pa_nil)) (pg_name (i := 6) sc__law_shapes.nd rfl (Or.inl rfl))
      (pss_cons (ps_set (i := 7) sc__law_shapes.nd rfl (Or.inl rfl) (pe_lst pa_nil))
      (pss_cons (ps_for PassesOwn.never rfl (k_piL K (pv 5)) (pg_name (i := 8) sc__law_shapes.nd rfl (Or.inl rfl))
        (pss_cons (ps_for PassesOwn.never rfl (k_piL K (pv 4)) (pg_name (i := 9) sc__law_shapes.nd rfl (Or.inl rfl))
          (pss_one (ps_if (PW.pt (pw_or (pt_cmpR (k_eqD K hu) (pe_ix (k_ixT K) (pv 8) pe_int (fun _ _ => rfl)) (pe_tup pa_nil) (nomark _)) (pw_or1 (pt_cmpR (op_leLd hu) (pv 9) (pe_ix (k_ixT K) (pe_ix (k_ixT K) (pv 8) pe_int (fun _ _ => rfl)) (pe_un un_neg pe_int) (fun _ _ => rfl)) (nomark _)))))
            (pss_cons (ps_set (i := 10) sc__law_shapes.nd rfl (Or.inl rfl) (C8.pe_c c__law_less hr (by decide) (by rfl) (pa_cons (pe_ix (k_ixT K) (pv 8) pe_int (fun _ _ => rfl)) (pa_cons (pv 9) pa_nil))))
            (pss_one (ps_if (pt_cmpR op_ge (pe_callB (k_min K) (by rfl) T.n_min (by decide +kernel) (pa_cons (pe_op op_cat (pe_ix (k_ixT K) (pv 10) pe_int (fun _ _ => rfl)) (pe_ix (k_ixT K) (pv 10) pe_int (fun _ _ => rfl))) pa_nil)) pe_int (nomark _))
              (pss_one (ps_expr (pe_bm PySem.F.plainAttrs_list PySem.F.slot_list_append PySem.F.type_list_append mt_append (pv 7) (pa_cons (pe_tup (pa_cons (pe_op (k_catT K) (pe_ix (k_ixT K) (pv 8) pe_int (fun _ _ => rfl)) (pe_tup (pa_cons (pv 9) pa_nil))) (pa_cons (pv 10) pa_nil))) pa_nil)))) pss_nil))) pss_nil)))
        (pss_one (ps_if (pt_cmpR op_gt (pe_callB (k_len K) (by rfl) T.n_len (by decide +kernel) (pa_cons (pv 7) pa_nil)) (pv 3) (nomark _))
          (pss_one (ps_ret (pe_lst pa_nil))) pss_nil))))
      (pss_one (ps_set (i := 5) sc__law_shapes.nd rfl (Or.inl rfl) (pv 7))))))
    (pss_one (ps_ret (pe_callB (k_sort K Rsh (Enc.enc (R := Rsh)) hu) (by rfl) T.n_sorted (by decide +kernel) (pa_cons (pe_lc (own := [("_law_row", 8)]) (g := (gName 8)) (tt := tYes) rfl sc__law_shapes.nd (k_piL K (pv 5)) (blkOk_by (own := [("_law_row", 8)]) (N := ["_law_ins", "_law_outs", "_law_middles", "_law_most", "_law_loads_here", "_law_rows", "_law_k", "_law_longer", "_law_row", "_law_load", "_law_left"]) (sc := defScope s__law_shapes) (by decide +kernel)) (fun _ _ _ _ _ => (pg_name (i := 8) sc__law_shapes.nd rfl (Or.inl rfl))) (fun _ _ _ _ _ => pts_nil) (fun _ _ _ _ _ => (k_revT K (pe_ix (k_ixT K) (pv 8) pe_int (fun _ _ => rfl))))) pa_nil))))))), ?_⟩
  refine k_setL (el_call2 (et_var rfl r1) (et_var rfl r2) ⟨hi, ho⟩) fun p0 xl H1 hn1 e1 hp0 hxl => ?_
  have hll := allLoadsN_len hi ho
  have hlok : ∀ l ∈ allLoadsN ins.length outs.length, LdOk ins.length outs.length l := fun l h => allLoadsN_ok h
  have hxl : Paired (Rld H1) xl (allLoadsN ins.length outs.length) := hxl
  generalize hLs : allLoadsN ins.length outs.length = loads at hxl hll hlok
  have r1 := up e1 r1
  have r2 := up e1 r2
  refine k_setL (R := Rrow) (l := [([], (ins, outs))]) (el1 (et_pr eu_nil.et (et_pr (el_listT (et_var rfl r1)).et (el_listT (et_var rfl r2)).et))) fun p5 x5 H2 hn2 e2 hp5 hx5 => ?_
  obtain ⟨n, rfl⟩ := Int.eq_ofNat_of_zero_le hm0
  have e02 : Ex H H2 := e1.trans e2
  let good : Nat → List (Sh × LR) → Prop := fun k rows => lawRows loads most n [([], (ins, outs))] = lawRows loads most (n - k) rows ∧ (rows.length : Int) ≤ most ∧ ∀ r ∈ rows, r.2.1.length = ins.length ∧ r.2.2.length = outs.length ∧ r.1.length ≤ k
  have hres : ∀ rows, lawRows loads most n [([], (ins, outs))] = rows → srt Rsh (rows.map fun r => r.1.reverse) = lawShapes ins outs (n : Int) most := fun rows h => by
    unfold lawShapes
    rw [hLs, Int.toNat_natCast, h]
  refine j_forR (D := { nx := _, rt := Q, bk := _, ct := _ }) (et_var (x := (n : Int)) rfl rfl) (by omega) fun H3 e3 => ⟨fun i σ' H' => ∃ al a b c d f rows, σ' = [some v1, some v2, some (.int (n : Int)), some (.int most), some (.ref p0), some (.ref al), a, b, c, d, f] ∧ Ex H2 H' ∧ Rlst Rrow H' (.ref al) rows ∧ good i rows, ⟨p5, none, none, none, none, none, [([], (ins, outs))], rfl, e3, ⟨p5, x5, rfl, e3 _ _ hp5, pup e3 hx5⟩, rfl, by simpa using hmo, by simp⟩, ?_, ?_⟩
  · rintro i σ' Hb hin ⟨al, a, b, c, d, f, rows, rfl, eb, ⟨al', xr, hal', hal, hxr⟩, g1, g2, g3⟩
    cases hal'
    have hrl : rows.length ≤ 1000 := by omega
    refine k_setL (R := Rrow) el_nil fun D xD H4 hnD e4 hD hxD => ?_
    have rowlen : ∀ r ∈ rows, (lawRow loads r).length ≤ 625 := fun r _ => Nat.le_trans (lawRow_len loads r) hll
    have preflen : ∀ m, (((rows.take m).map (lawRow loads)).flatten).length ≤ 1000 * 625 := fun m => by
      have := flat_len (f := lawRow loads) (n := 625) (rows.take m) fun r h => rowlen r (List.mem_of_mem_take h)
      exact Nat.le_trans this (Nat.mul_le_mul_right _ (by rw [List.length_take]; omega))
    have nstep : n - i = (n - (i + 1)) + 1 := by omega
    refine j_forLw (R := Rrow) (l := rows) (D := { nx := _, rt := Q, bk := _, ct := _ }) (a := al) (xs := xr) rfl (e4 _ _ hal) (pup e4 hxr) (fun m σ' H6 => ∃ c d f, σ' = [some v1, some v2, some (.int (n : Int)), some (.int most), some (.ref p0), some (.ref al), some (.int (i : Int)), some (.ref D), c, d, f] ∧ MkO Hb Rrow D (((rows.take m).map (lawRow loads)).flatten) H6 ∧ ((((rows.take m).map (lawRow loads)).flatten).length : Int) ≤ most) ⟨c, d, f, rfl, ⟨e4, xD, hD, by cases hxD; exact .nil⟩, by simp; omega⟩ ?_ ?_ ?_
    · rintro m σ' H6 hm6 ⟨c, d, f, rfl, m6, _⟩
      exact m6.1 _ _ hal
    · rintro m r v σ' H6 hr hvi ⟨c, d, f, rfl, m6, hle6⟩ _
      have hrm : r ∈ rows := List.mem_of_getElem? hr
      obtain ⟨gr1, gr2, gr3⟩ := g3 r hrm
      have rb : Rrow Hb v r := by
        obtain ⟨v0, h1, h2⟩ := pr_get' hxr hr
        rw [hvi] at h1
        cases h1
        exact h2
      let c1 : Ld → Bool := fun l => decide (r.1 = []) || (match r.1.getLast? with | some m => leLd l m | none => true)
      let c2 : Ld → Bool := fun l => decide (minI ((lessLR r.2 l).1 ++ (lessLR r.2 l).2) ≥ 0)
      have hlaw : lawRow loads r = (loads.filter fun l => c1 l && c2 l).map fun l => (r.1 ++ [l], lessLR r.2 l) := rfl
      have e1b : Ex H1 Hb := e2.trans eb
      refine j_forLw (R := Rld) (l := loads) (D := { nx := _, rt := Q, bk := _, ct := _ }) (a := p0) (xs := xl) rfl ((e1b.trans m6.1) _ _ hp0) (pup (e1b.trans m6.1) hxl) (fun t σ' H7 => ∃ d f, σ' = [some v1, some v2, some (.int (n : Int)), some (.int most), some (.ref p0), some (.ref al), some (.int (i : Int)), some (.ref D), some v, d, f] ∧ MkO Hb Rrow D (((rows.take m).map (lawRow loads)).flatten ++ ((loads.take t).filter fun l => c1 l && c2 l).map fun l => (r.1 ++ [l], lessLR r.2 l)) H7) ⟨d, f, rfl, by simpa using m6⟩ ?_ ?_ ?_
      · rintro t σ' H7 ht ⟨d, f, rfl, m7⟩
        exact (e1b.trans m7.1) _ _ hp0
      · rintro t l vl σ' H7 hl hvl ⟨d, f, rfl, m7⟩ _
        have hlm : l ∈ loads := List.mem_of_getElem? hl
        have hlk := hlok l hlm
        have rl7 : Rld H7 vl l := by
          obtain ⟨v0, h1, h2⟩ := pr_get' hxl hl
          rw [hvl] at h1
          cases h1
          exact up (e1b.trans m7.1) h2
        have rr7 : Rrow H7 v r := up m7.1 rb
        have tk := take_map_filt (f := fun l => c1 l && c2 l) (g := fun l => (r.1 ++ [l], lessLR r.2 l)) hl
        have stay : ∀ H8 (f : Option V), Ex H7 H8 → (c1 l && c2 l) = false → ∃ d f', ([some v1, some v2, some (.int (n : Int)), some (.int most), some (.ref p0), some (.ref al), some (.int (i : Int)), some (.ref D), some v, some vl, f] : L2.St) = [some v1, some v2, some (.int (n : Int)), some (.int most), some (.ref p0), some (.ref al), some (.int (i : Int)), some (.ref D), some v, d, f'] ∧ MkO Hb Rrow D (((rows.take m).map (lawRow loads)).flatten ++ ((loads.take (t + 1)).filter fun l => c1 l && c2 l).map fun l => (r.1 ++ [l], lessLR r.2 l)) H8 := fun H8 f e8 hb => by
          rw [if_neg (by rw [hb]; exact Bool.false_ne_true), List.append_nil] at tk
          refine ⟨_, _, rfl, ?_⟩
          rw [tk]
          exact m7.ex e8
        refine j_when (b := c1 l) (et_or (eT (et_eqD (et_p0 (et_var rfl rr7)) (eu_nil (R := Rld)).et)) fun hne => ?_) (fun hb H8 e8 => ?_) (fun hb H8 e8 => stay H8 f e8 (by rw [hb]; rfl))
        · have hne' : r.1 ≠ [] := of_decide_eq_false hne
          obtain ⟨lm, hlast⟩ : ∃ lm, r.1.getLast? = some lm := by
            cases hg : r.1.getLast? with
            | none => exact absurd (List.getLast?_eq_none_iff.mp hg) hne'
            | some z => exact ⟨z, rfl⟩
          refine et_is (eT (et_leLd (et_var rfl rl7) (et_ixT (et_p0 (et_var rfl rr7)) (et_neg et_int) (atI_last hlast)))) ?_
          rw [hlast]
        · have m8 := m7.ex e8
          obtain ⟨_, ys8, hD8, _⟩ := id m8
          have rr8 := up e8 rr7
          have rl8 := up e8 rl7
          refine k_set (R := Off D Rlr) (et_less hD8 (fun _ z => by cases z) (et_p1 (et_var rfl rr8)) (et_seqT (et_var rfl rl8)) (fun p hp => ?_)) fun vf H9 e9 rf => ?_
          · have := hlk.inp p hp
            rw [gr1, gr2]
            exact this
          · have m9 := m8.ex e9
            obtain ⟨_, ys9, hD9, _⟩ := id m9
            have rfo : Rlr H9 vf (lessLR r.2 l) := Off.on rf
            have ln1 : (lessLR r.2 l).1.length = ins.length := by rw [less_len1]; exact gr1
            have ln2 : (lessLR r.2 l).2.length = outs.length := by rw [less_len2]; exact gr2
            refine j_when (b := c2 l) (eT (et_cmp (et_min (el_catL (et_p0 (et_var rfl rfo)) (et_p1 (et_var rfl rfo)) (by omega)).et (fun z => ?_)) et_int)) (fun hb2 HA eA => ?_) (fun hb2 HA eA => stay HA (some vf) ((e8.trans e9).trans eA) (by rw [hb, hb2]; rfl))
            · have := congrArg List.length z
              rw [List.length_append, List.length_nil] at this
              omega
            · have mA := m9.ex eA
              refine MkO.push mA hnD rfl ?_ (et_prO (D := D) (zs := ys9) (et_catT (et_p0 (et_var rfl (up (e9.trans eA) rr8))) (eu1 (et_var rfl (up (e9.trans eA) rl8))).et (by simp only [List.length_singleton]; omega)) (et_var rfl (up (R := Off D Rlr) eA rf)) (eA _ _ hD9)) fun HB hB tB xB => ⟨_, _, rfl, ?_⟩
              · rw [List.length_append, List.length_map]
                have h1 := preflen m
                have h2 := List.length_filter_le (fun l => c1 l && c2 l) (loads.take t)
                rw [List.length_take] at h2
                omega
              · rw [if_pos (by rw [hb, hb2]; rfl)] at tk
                rw [tk, ← List.append_assoc]
                exact hB
      · rintro σ' H7 ⟨d, f, rfl, m7⟩
        rw [List.take_length, ← hlaw, ← take_flat (f := lawRow loads) hr] at m7
        have rD : Rlst Rrow H7 (.ref D) (((rows.take (m + 1)).map (lawRow loads)).flatten) := m7.lst
        refine j_when (eT (et_cmp (et_lenL (et_var rfl rD)) (et_var (x := most) rfl rfl))) (fun hb H8 e8 => ?_) (fun hb H8 e8 => ⟨_, _, _, rfl, m7.ex e8, ?_⟩)
        · have hgt := of_decide_eq_true hb
          refine j_retL (D := { nx := _, rt := Q, bk := _, ct := _ }) (R := Rsh) el_nil fun p xs H9 hp e9 h9 hx9 => q p xs H9 (fresh_back (((e02.trans eb).trans m7.1).trans e8) hp) ((((e02.trans eb).trans m7.1).trans e8).trans e9) h9 ?_
          have htot := tot_gt (f := lawRow loads) (rows := rows) (m := m + 1)
          have : lawRows loads most n [([], (ins, outs))] = [] := by
            rw [g1, nstep, lawRows, if_pos (by omega)]
          have := hres _ this
          rw [← this]
          unfold srt
          rw [List.map_nil, List.mergeSort_nil]
          exact hx9
        · have := of_decide_eq_false hb
          omega
    · rintro σ' H6 ⟨c, d, f, rfl, m6, hle6⟩
      rw [List.take_length] at m6 hle6
      refine j_set (et_var rfl m6.lst) fun v H7 e7 rv => ?_
      obtain ⟨av, xv, rfl, hav, hxv⟩ := rv
      refine ⟨av, _, _, _, _, _, (rows.map (lawRow loads)).flatten, rfl, eb.trans (m6.1.trans e7), ⟨av, xv, rfl, hav, hxv⟩, ?_, hle6, fun r hr => ?_⟩
      · rw [g1, nstep, lawRows, if_neg (by omega)]
      · obtain ⟨l, hl, hr⟩ := List.mem_flatten.mp hr
        obtain ⟨r0, hr0, rfl⟩ := List.mem_map.mp hl
        obtain ⟨a1, a2, a3⟩ := g3 r0 hr0
        unfold lawRow at hr
        obtain ⟨l0, _, rfl⟩ := List.mem_map.mp hr
        exact ⟨by rw [less_len1]; exact a1, by rw [less_len2]; exact a2, by simp; omega⟩
  · rintro σ' H' ⟨al, a, b, c, d, f, rows, rfl, eb, rl, g1, g2, g3⟩
    rw [Nat.sub_self, lawRows] at g1
    have hE : EL (tLc (iList K (tVar 5)) (gName 8) tYes (tRevT K (tOp (rIxT K) (tVar 8) (tC (.int 0)))) [8]) ([some v1, some v2, some (.int (n : Int)), some (.int most), some (.ref p0), some (.ref al), a, b, c, d, f] : L2.St) H' Rsh (rows.map fun r => r.1.reverse) :=
      el_mapN (S := Rsh) (fun r : Sh × LR => r.1.reverse) (ei_list (et_var rfl rl)) (by omega) (fun _ => rfl) fun v x H2 hx e2 rx => et_revT (et_p0 (et_var rfl rx))
    refine j_retL (D := Dq Q) (el_sortL hE.et) fun p xs H5 hp e5 h5 h6 => q p xs H5 (fresh_back (e02.trans eb) hp) ((e02.trans eb).trans e5) h5 ?_
    rw [hres _ g1] at h6
    exact h6
end
end Ct
/-! # The walks: the law's own (7): sides, game -/
namespace Ct
open PySem PySem.Spec PyProof.Rows L2 Evl
theorem Xb.refl (D : Addr) (H : Hp) : Xb D H H := fun _ _ _ h => h
theorem Xb.trans {D : Addr} {H H1 H2 : Hp} (a : Xb D H H1) (b : Xb D H1 H2) : Xb D H H2 := fun c o hc h => b c o hc (a c o hc h)
theorem Xb.ex {D : Addr} {H H' : Hp} (e : Ex H H') : Xb D H H' := fun _ _ _ h => e _ _ h
theorem Xb.tu {D : Addr} {n : Int} {H H' : Hp} (x : Xb D H H') (f : FlowAt n H D) : Tu H H' := fun b xs h => x b _ (fun z => by obtain ⟨_, _, _, h2, _⟩ := f; rw [z, h2] at h; cases h) h
section
variable {K : PySem.W.Frag} {σ : L2.St} {H : Hp} {tsz ta tb : TE} {Q : VK} {E : XK} {D : Addr} {i : Nat} {n size : Int}
/-- a pick -/
theorem run_pick (hv : σ[i]? = some (some (.ref D))) (fl : FlowAt n H D) (hn : n ≤ 1000000) (hs : ET tsz σ H Ri size) (h1 : 1 ≤ size) (h2 : size ≤ 1000000) (q : ∀ (r : Int) H', 0 ≤ r → r < size → Xb D H H' → FlowAt (n + 1) H' D → Q (.int r) H') : tCall spPick [] E (tCons (tVar i) (tCons tsz tNil)) σ H Q :=
  ⟨.ref D, hv, hs H (Ex.refl H) _ fun v H2 e2 r => by
    cases r
    exact ⟨D, n, size, rfl, fl.ex e2, hn, h1, h2, fun r H' a b x f => q r H' a b ((Xb.ex e2).trans x) f⟩⟩
/-- 1 + a pick -/
theorem run_pick1 (hv : σ[i]? = some (some (.ref D))) (fl : FlowAt n H D) (hn : n ≤ 1000000) (hs : ET tsz σ H Ri size) (h1 : 1 ≤ size) (h2 : size ≤ 1000000) (q : ∀ (r : Int) H', 0 ≤ r → r < size → Xb D H H' → FlowAt (n + 1) H' D → Q (.int (1 + r)) H') : tOp (rI0 fun i j => .int (i + j)) (tC (.int 1)) (tCall spPick [] E (tCons (tVar i) (tCons tsz tNil))) σ H Q :=
  run_pick hv fl hn hs h1 h2 fun r H' a b x f => ⟨1, r, rfl, rfl, q r H' a b x f⟩
/-- [1 + pick(flow, size) for _ in range(1 + pick(flow, m))] -/
theorem run_picks {m : Int} {k : Nat} (hk : k ≠ i) (hv : σ[i]? = some (some (.ref D))) (hw : ∀ v, wipe ((wipe σ [k]).set k (some v)) [k] = wipe σ [k]) (hvi : ∀ v, ((wipe σ [k]).set k (some v))[i]? = some (some (.ref D))) (fl : FlowAt n H D) (hn : n ≤ 1000) (hm : 1 ≤ m) (hm2 : m ≤ 100) (h1 : 1 ≤ size) (h2 : size ≤ 100)
    (hs : ∀ v H', ET tsz ((wipe σ [k]).set k (some v)) H' Ri size) (q : ∀ (p : Addr) (vals : List Int) (H' : Hp), H p = none → Xb D H H' → FlowAt (n + 1 + m) H' D → H' p = some (.lst (vals.map V.int)) → 1 ≤ vals.length → (vals.length : Int) ≤ m → (∀ z ∈ vals, 1 ≤ z ∧ z ≤ size) → Q (.ref p) H') :
    tLc (iRng1 (tCons (tOp (rI0 fun i j => .int (i + j)) (tC (.int 1)) (tCall spPick [] E (tCons (tVar i) (tCons (tC (.int m)) tNil)))) tNil)) (gName k) tYes (tOp (rI0 fun i j => .int (i + j)) (tC (.int 1)) (tCall spPick [] E (tCons (tVar i) (tCons tsz tNil)))) [k] σ H Q := by
  refine run_pick1 hv fl (by omega) et_int hm (by omega) fun r H1 a b x1 f1 => ?_
  refine ⟨1 + r, rfl, by omega, by omega, fun Dl hDl => ?_⟩
  have nDl : Dl ≠ D := fun z => by obtain ⟨_, _, _, h, _⟩ := f1; rw [z, h] at hDl; cases hDl
  have hDl0 : H Dl = none := by
    cases h : H Dl with
    | none => rfl
    | some o => rw [x1 Dl o nDl h] at hDl; cases hDl
  have f10 : FlowAt (n + 1) (upd H1 Dl (.lst [])) D := f1.ex (Ex.new hDl)
  have x10 : Xb D H (upd H1 Dl (.lst [])) := x1.trans (Xb.ex (Ex.new hDl))
  refine lc_it (walk_range (lo := 0) (n := (1 + r).toNat)) (fun j H' => ∃ vals : List Int, vals.length = j ∧ (∀ z ∈ vals, 1 ≤ z ∧ z ≤ size) ∧ H' Dl = some (.lst (vals.map V.int)) ∧ Xb D H H' ∧ FlowAt (n + 1 + j) H' D) ⟨[], rfl, by simp, upd_same, x10, by simpa using f10⟩ (fun _ _ _ _ => trivial) ?_ ?_
  · rintro j v H' H2 hj ⟨vals, hl, hz, hDv, xb, fb⟩ hy
    obtain ⟨rfl, rfl⟩ := hy
    refine ⟨hw _, ?_⟩
    simp only [tYes, ↓reduceIte]
    refine run_pick1 (hvi _) fb (by omega) (hs _ _) h1 (by omega) fun r2 H3 a2 b2 x3 f3 => ⟨vals.map V.int, x3 _ _ nDl hDv, ?_, vals ++ [1 + r2], by simp [hl], ?_, ?_, ?_, ?_⟩
    · rw [List.length_map]
      exact Nat.lt_of_le_of_lt (by omega : vals.length ≤ 1000) (by decide)
    · intro z hz2
      rcases List.mem_append.mp hz2 with h | h
      · exact hz z h
      · rw [List.mem_singleton.mp h]; omega
    · rw [upd_same, List.map_append]; rfl
    · intro c o hc h
      have hcl : c ≠ Dl := fun z => by rw [z, hDl0] at h; cases h
      rw [upd_ne hcl]
      exact x3 c o hc (xb c o hc h)
    · have e : n + 1 + ((j + 1 : Nat) : Int) = n + 1 + (j : Int) + 1 := by omega
      rw [e]
      obtain ⟨a', b', c', g1, g2⟩ := f3
      exact ⟨a', b', c', by rw [upd_ne nDl.symm]; exact g1, g2⟩
  · rintro H' ⟨vals, hl, hz, hDv, xb, fb⟩
    exact q Dl vals H' hDl0 xb (fb.mono (by omega)) hDv (by omega) (by omega) hz
end
section
variable {K : PySem.W.Frag} {σ : L2.St} {H : Hp} {tsz te : TE} {E : XK} {D : Addr} {i j : Nat} {n size : Int} {D0 : Ends} {tz : TS}
theorem q_pick (hv : σ[i]? = some (some (.ref D))) (fl : FlowAt n H D) (hn : n ≤ 1000000) (hs : ET tsz σ H Ri size) (h1 : 1 ≤ size) (h2 : size ≤ 1000000) (q : ∀ (r : Int) H', 0 ≤ r → r < size → Xb D H H' → FlowAt (n + 1) H' D → tz D0 (σ.set j (some (.int r))) H') : tSeq (tAsg (tCall spPick [] E (tCons (tVar i) (tCons tsz tNil))) (gName j)) tz D0 σ H := run_pick hv fl hn hs h1 h2 q
theorem q_picks {m : Int} {k : Nat} (hk : k ≠ i) (hv : σ[i]? = some (some (.ref D))) (hw : ∀ v, wipe ((wipe σ [k]).set k (some v)) [k] = wipe σ [k]) (hvi : ∀ v, ((wipe σ [k]).set k (some v))[i]? = some (some (.ref D))) (fl : FlowAt n H D) (hn : n ≤ 1000) (hm : 1 ≤ m) (hm2 : m ≤ 100) (h1 : 1 ≤ size) (h2 : size ≤ 100)
    (hs : ∀ v H', ET tsz ((wipe σ [k]).set k (some v)) H' Ri size) (q : ∀ (p : Addr) (vals : List Int) (H' : Hp), Xb D H H' → FlowAt (n + 1 + m) H' D → H' p = some (.tup (vals.map V.int)) → 1 ≤ vals.length → (vals.length : Int) ≤ m → (∀ z ∈ vals, 1 ≤ z ∧ z ≤ size) → tz D0 (σ.set j (some (.ref p))) H') :
    tSeq (tAsg (tCB (rTupS K) (tCons (tLc (iRng1 (tCons (tOp (rI0 fun i j => .int (i + j)) (tC (.int 1)) (tCall spPick [] E (tCons (tVar i) (tCons (tC (.int m)) tNil)))) tNil)) (gName k) tYes (tOp (rI0 fun i j => .int (i + j)) (tC (.int 1)) (tCall spPick [] E (tCons (tVar i) (tCons tsz tNil)))) [k]) tNil)) (gName j)) tz D0 σ H := by
  show tLc _ (gName k) tYes _ [k] σ H (fun v H1 => rTupS K [v] H1 fun u H2 => tz D0 (σ.set j (some u)) H2)
  exact run_picks hk hv hw hvi fl hn hm hm2 h1 h2 hs fun p vals H' hp x f h l1 l2 z => ⟨p, _, rfl, .inl ⟨sq_of h, fun pi hpi => q pi vals _ (x.trans (Xb.ex (Ex.new hpi))) (f.ex (Ex.new hpi)) upd_same l1 l2 z⟩⟩
end
/-- the two sides of a game -/
structure SdOk (ins outs : List Int) : Prop where
  li : 1 ≤ ins.length ∧ ins.length ≤ 3
  lo : 1 ≤ outs.length ∧ outs.length ≤ 3
  m : ins.length * outs.length ≤ 6
  di : ∀ d ∈ ins, 1 ≤ d ∧ d ≤ 3
  do_ : ∀ d ∈ outs, 1 ≤ d ∧ d ≤ 3
def spSides : Sp := fun vs H Q _ => ∃ (D : Addr), vs = [.ref D] ∧ FlowAt 0 H D ∧ ∀ v (x : LR) H', Xb D H H' → FlowAt 20 H' D → Rpr (Rtup Ri) (Rtup Ri) H' v x → SdOk x.1 x.2 → Q v H'
theorem lenSides {n : Nat} (hn : n = 1) : ∀ vs H Q E, spSides vs H Q E → vs.length = n := fun _ _ _ _ ⟨_, h, _⟩ => by rw [h, hn]; rfl
theorem rtup_ints {H : Hp} {p : Addr} {ns : List Int} (h : H p = some (.tup (ns.map V.int))) : Rtup Ri H (.ref p) ns := ⟨p, _, rfl, h, ints_pr H ns⟩
section
variable {P : Program} {w : World} {K : PySem.W.Frag} {mg : Str → Option Value} {base : Heap} {σ : L2.St} {H : Hp} {ta : TE} {e : EX}
theorem sc__law_sides : FnScope ["_law_flow_here", "_law_turned", "_law_more", "_law_ins", "_law_outs", "_law_k"] ["_law_flow_here"] (defScope s__law_sides) := ⟨rfl, rfl, rfl, by decide +kernel, rfl, by decide +kernel, by decide +kernel⟩
theorem ok__law_sides (T : Txt K mg) : Cal P w K mg base 2 "_law_sides" spSides := by
  refine cal_of T.d__law_sides (fun _ _ _ _ _ _ us hl => match us, hl with | [_], _ => rfl) sc__law_sides (lenSides rfl) (fun cdv f A outer s H vs Q E hr h => ?_)
  have c__law_pick := ok__law_pick (P := P) (w := w) (base := base) T
  obtain ⟨D, rfl, f0, q⟩ := h
  refine ⟨_, (pss_cons (ps_set (i := 1) sc__law_sides.nd rfl (Or.inl rfl) (C8.pe_c c__law_pick hr (by decide) (by rfl) (pa_cons (pv 0) (pa_cons pe_int pa_nil))))
    (pss_cons (ps_set (i := 2) sc__law_sides.nd rfl (Or.inr rfl) (C8.pe_c c__law_pick hr (by decide) (by rfl) (pa_cons (pv 0) (pa_cons pe_int pa_nil))))
    (pss_cons (ps_set (i := 3) sc__law_sides.nd rfl (Or.inl rfl) (pe_callTy (k_tuple K) (by rfl) T.n_tuple (by decide +kernel) (pa_cons (pe_lc (own := [("_law_k", 5)]) (g := (gName 5)) (tt := tYes) rfl sc__law_sides.nd (pi_range1 (by rfl) T.n_range (pa_cons (pe_op op_add pe_int (C8.pe_c c__law_pick hr (by decide) (by rfl) (pa_cons (pv 0) (pa_cons pe_int pa_nil)))) pa_nil)) (blkOk_by (own := [("_law_k", 5)]) (N := ["_law_flow_here", "_law_turned", "_law_more", "_law_ins", "_law_outs", "_law_k"]) (sc := defScope s__law_sides) (by decide +kernel)) (fun _ _ _ _ _ => (pg_name (i := 5) sc__law_sides.nd rfl (Or.inl rfl))) (fun _ _ _ _ _ => pts_nil) (fun _ _ _ _ _ => (pe_op op_add pe_int (C8.pe_c c__law_pick hr (by decide) (by rfl) (pa_cons (pv 0) (pa_cons (pe_op op_add pe_int (pe_callTy call_int1 (by rfl) T.n_int (by decide +kernel) (pa_cons (pe_cmpR op_eq (pv 2) pe_int (nomark _)) pa_nil))) pa_nil)))))) pa_nil)))
    (pss_cons (ps_set (i := 4) sc__law_sides.nd rfl (Or.inl rfl) (pe_callTy (k_tuple K) (by rfl) T.n_tuple (by decide +kernel) (pa_cons (pe_lc (own := [("_law_k", 5)]) (g := (gName 5)) (tt := tYes) rfl sc__law_sides.nd (pi_range1 (by rfl) T.n_range (pa_cons (pe_op op_add pe_int (C8.pe_c c__law_pick hr (by decide) (by rfl) (pa_cons (pv 0) (pa_cons pe_int pa_nil)))) pa_nil)) (blkOk_by (own := [("_law_k", 5)]) (N := ["_law_flow_here", "_law_turned", "_law_more", "_law_ins", "_law_outs", "_law_k"]) (sc := defScope s__law_sides) (by decide +kernel)) (fun _ _ _ _ _ => (pg_name (i := 5) sc__law_sides.nd rfl (Or.inl rfl))) (fun _ _ _ _ _ => pts_nil) (fun _ _ _ _ _ => (pe_op op_add pe_int (C8.pe_c c__law_pick hr (by decide) (by rfl) (pa_cons (pv 0) (pa_cons (pe_op op_add pe_int (pe_callTy call_int1 (by rfl) T.n_int (by decide +kernel) (pa_cons (pe_cmpR op_eq (pv 2) pe_int (nomark _)) pa_nil))) pa_nil)))))) pa_nil)))
    (pss_cons (ps_if (pt_cmpR op_eq (pv 2) pe_int (nomark _))
      (pss_cons (ps_set (i := 3) sc__law_sides.nd rfl (Or.inl rfl) (pe_tup (pa_cons pe_int (pa_cons (pe_op op_add pe_int (C8.pe_c c__law_pick hr (by decide) (by rfl) (pa_cons (pv 0) (pa_cons pe_int pa_nil)))) pa_nil))))
      (pss_one (ps_set (i := 4) sc__law_sides.nd rfl (Or.inl rfl) (pe_tup (pa_cons pe_int (pa_cons (pe_op op_add pe_int (C8.pe_c c__law_pick hr (by decide) (by rfl) (pa_cons (pv 0) (pa_cons pe_int pa_nil)))) pa_nil)))))) pss_nil)
    (pss_cons (ps_if (pt_cmpR op_eq (pv 1) pe_int (nomark _))
      (pss_one (ps_ret (pe_tup (pa_cons (pv 4) (pa_cons (pv 3) pa_nil))))) pss_nil)
    (pss_one (ps_ret (pe_tup (pa_cons (pv 3) (pa_cons (pv 4) pa_nil))))))))))), ?_⟩
  refine q_pick (i := 0) rfl f0 (by decide) et_int (by decide) (by decide) fun turned H1 t0 t1 x1 f1 => ?_
  refine q_pick (i := 0) rfl f1 (by decide) et_int (by decide) (by decide) fun more H2 m0 m1 x2 f2 => ?_
  have szok : ∀ c : Int, 1 ≤ (2 : Int) + (if decide (more = c) = true then 1 else 0) ∧ (2 : Int) + (if decide (more = c) = true then 1 else 0) ≤ 3 := fun c => by split <;> omega
  have hsz : ∀ (c : Int) (a b : Option V) v H', ET (tOp (rI0 fun i j => .int (i + j)) (tC (.int 2)) (tCB rInt1 (tCons (tOp rEq (tVar 2) (tC (.int c))) tNil))) ([some (.ref D), some (.int turned), some (.int more), a, b, some v] : L2.St) H' Ri (2 + (if decide (more = c) = true then 1 else 0)) := fun c a b v H' => et_add et_int (et_int1b (et_eqI (et_var (x := more) rfl rfl) et_int))
  refine q_picks (σ := [some (.ref D), some (.int turned), some (.int more), none, none, none]) (k := 5) (i := 0) (m := 3) (by decide) rfl (fun _ => rfl) (fun _ => rfl) f2 (by decide) (by decide) (by decide) (szok 1).1 (by have := (szok 1).2; omega) (fun v H' => hsz 1 none none v H') fun pi ins3 H4 x3 f3 hpi l3 l3' z3 => ?_
  have ri : Rtup Ri H4 (.ref pi) ins3 := rtup_ints hpi
  refine q_picks (σ := [some (.ref D), some (.int turned), some (.int more), some (.ref pi), none, none]) (k := 5) (i := 0) (m := 2) (by decide) rfl (fun _ => rfl) (fun _ => rfl) f3 (by decide) (by decide) (by decide) (szok 2).1 (by have := (szok 2).2; omega) (fun v H' => hsz 2 (some (.ref pi)) none v H') fun po outs5 H6 x5 f5 hpo l5 l5' z5 => ?_
  have ri5 : Rtup Ri H6 (.ref pi) ins3 := imm (x5.tu f3) ri
  have ro : Rtup Ri H6 (.ref po) outs5 := rtup_ints hpo
  have x06 : Xb D H H6 := ((x1.trans x2).trans x3).trans x5
  have s1 := szok 1
  have s2 := szok 2
  -- what stands behind the choice of sides
  have rest : ∀ v1 v2 (ins outs : List Int) H7, Xb D H H7 → FlowAt 20 H7 D → Rtup Ri H7 v1 ins → Rtup Ri H7 v2 outs → SdOk ins outs → tSeq (tIfS (tTest (tOp rEq (tVar 1) (tC (.int 1)))) (tRet (tTup (tCons (tVar 4) (tCons (tVar 3) tNil)))) tNext) (tRet (tTup (tCons (tVar 3) (tCons (tVar 4) tNil)))) (Dq Q) ([some (.ref D), some (.int turned), some (.int more), some v1, some v2, none] : L2.St) H7 := fun v1 v2 ins outs H7 x7 f7 r1 r2 hs => by
    refine k_when (eT (et_eqI (et_var (x := turned) rfl rfl) et_int)) (fun hb H8 e8 => ?_) (fun hb H8 e8 => ?_)
    · exact j_ret (et_pr (R := Rtup Ri) (S := Rtup Ri) (et_var rfl (up e8 r2)) (et_var rfl (up e8 r1))) fun v H9 e9 r => q v (outs, ins) H9 (x7.trans (Xb.ex (e8.trans e9))) (f7.ex (e8.trans e9)) r ⟨hs.lo, hs.li, by rw [Nat.mul_comm]; exact hs.m, hs.do_, hs.di⟩
    · exact j_ret (et_pr (R := Rtup Ri) (S := Rtup Ri) (et_var rfl (up e8 r1)) (et_var rfl (up e8 r2))) fun v H9 e9 r => q v (ins, outs) H9 (x7.trans (Xb.ex (e8.trans e9))) (f7.ex (e8.trans e9)) r hs
  refine k_when (eT (et_eqI (et_var (x := more) rfl rfl) et_int)) (fun hb H7 e7 => ?_) (fun hb H7 e7 => ?_)
  · have f7 := f5.ex e7
    refine run_pick1 (i := 0) rfl f7 (by decide) et_int (by decide) (by decide) fun r1 H8 a1 b1 x8 f8 => ⟨(by show 2 ≤ sizeLine; decide), fun p9 hp9 => ?_⟩
    have f9 := f8.ex (Ex.new (o := .tup [.int 2, .int (1 + r1)]) hp9)
    have x9 := x8.trans (Xb.ex (Ex.new (o := .tup [.int 2, .int (1 + r1)]) hp9))
    have r9 : Rtup Ri (upd H8 p9 (.tup [.int 2, .int (1 + r1)])) (.ref p9) [2, 1 + r1] := rtup_ints upd_same
    generalize upd H8 p9 (.tup [.int 2, .int (1 + r1)]) = H9 at f9 x9 r9
    refine run_pick1 (i := 0) rfl f9 (by decide) et_int (by decide) (by decide) fun r2 HA a2 b2 xA fA => ⟨(by show 2 ≤ sizeLine; decide), fun pB hpB => ?_⟩
    refine rest (.ref p9) (.ref pB) [2, 1 + r1] [2, 1 + r2] _ ((x06.trans (Xb.ex e7)).trans ((x9.trans xA).trans (Xb.ex (Ex.new hpB)))) ((fA.ex (Ex.new hpB)).mono (by decide)) (up (Ex.new hpB) (imm (xA.tu f9) r9)) (rtup_ints upd_same) ⟨by simp, by simp, by simp, ?_, ?_⟩
    · intro d hd
      simp at hd
      omega
    · intro d hd
      simp at hd
      omega
  · refine rest _ _ ins3 outs5 H7 (x06.trans (Xb.ex e7)) ((f5.ex e7).mono (by decide)) (up e7 ri5) (up e7 ro) ⟨⟨l3, by omega⟩, ⟨l5, by omega⟩, ?_, fun d hd => by have := z3 d hd; omega, fun d hd => by have := z5 d hd; omega⟩
    have h3 : ins3.length ≤ 3 := by omega
    have h5 : outs5.length ≤ 2 := by omega
    exact Nat.mul_le_mul h3 h5
end
end Ct
/-! # The walks: the law's own (8): game -/
namespace Ct
open PySem PySem.Spec PyProof.Rows L2 Evl
/-- a game: ins, outs, middles, shapes -/
def Rgame : Rp (EX × List Sh) := fun H v g => ∃ a u1 u2 u4, v = .ref a ∧ H a = some (.tup [u1, u2, .int g.1.mid, u4]) ∧ Rtup Ri H u1 g.1.ins ∧ Rtup Ri H u2 g.1.outs ∧ Rlst Rsh H u4 g.2
instance : Mon Rgame := ⟨fun e ⟨a, u1, u2, u4, h1, h2, h3, h4, h5⟩ => ⟨a, u1, u2, u4, h1, e _ _ h2, up e h3, up e h4, up e h5⟩⟩
theorem loads_few : ∀ nI < 4, ∀ nO < 4, (loadsTo nO nI).length ≤ 100 := by decide +kernel
theorem nil_load {nI nO : Nat} : [] ∈ loadsTo nO nI := by
  induction nI with
  | zero => simp [loadsTo]
  | succ n ih => rw [loadsTo]; exact List.mem_append_left _ ih
theorem shapes1_ne {ins outs : List Int} (h : SdOk ins outs) : lawShapes ins outs 1 100 ≠ [] := by
  intro z
  unfold lawShapes at z
  have z := (List.length_eq_zero_iff.mpr z)
  rw [len_srt, List.length_map] at z
  have hl : (allLoadsN ins.length outs.length).length ≤ 100 := by
    unfold allLoadsN
    rw [len_srt]
    exact loads_few _ (by have := h.li; omega) _ (by have := h.lo; omega)
  have hmem : [] ∈ allLoadsN ins.length outs.length := by unfold allLoadsN; exact mem_srt.mpr nil_load
  generalize allLoadsN ins.length outs.length = loads at z hl hmem
  have hle := lawRow_len loads ([], (ins, outs))
  show False
  have e1 : (Int.toNat 1) = 0 + 1 := rfl
  rw [e1, lawRows] at z
  simp only [List.map_cons, List.map_nil, List.flatten_cons, List.flatten_nil, List.append_nil] at z
  rw [if_neg (by omega), lawRows] at z
  have h0 := List.length_eq_zero_iff.mp z
  unfold lawRow at h0
  have h1 := List.map_eq_nil_iff.mp h0
  have h2 := (List.filter_eq_nil_iff.mp h1) [] hmem
  apply h2
  have h3 : lessLR (ins, outs) [] = (ins, outs) := rfl
  simp only [h3, decide_true, Bool.true_or, Bool.true_and]
  refine decide_eq_true ?_
  have hne : ins ++ outs ≠ [] := fun q => by
    have := congrArg List.length q
    rw [List.length_append, List.length_nil] at this
    have := h.li
    omega
  have hm := minI_mem hne
  rcases List.mem_append.mp hm with hm | hm
  · have := h.di _ hm; omega
  · have := h.do_ _ hm; omega
def spGame : Sp := fun vs H Q _ => ∃ (D : Addr), vs = [.ref D, .int 100] ∧ FlowAt 0 H D ∧ ∀ v (e : EX) (S : List Sh) H', Xb D H H' → Rgame H' v (e, S) → EOk e → SdOk e.ins e.outs → e.mid ≤ 4 → S = lawShapes e.ins e.outs e.mid 100 → S ≠ [] → Q v H'
theorem lenGame {n : Nat} (hn : n = 2) : ∀ vs H Q E, spGame vs H Q E → vs.length = n := fun _ _ _ _ ⟨_, h, _⟩ => by rw [h, hn]; rfl
section
variable {P : Program} {w : World} {K : PySem.W.Frag} {mg : Str → Option Value} {base : Heap} {σ : L2.St} {H : Hp} {ta tb tc td : TE}
theorem el_shapes {E : XK} {ins outs : List Int} {mid most : Int} (h1 : ET ta σ H (Rtup Ri) ins) (h2 : ET tb σ H (Rtup Ri) outs) (h3 : ET tc σ H Ri mid) (h4 : ET td σ H Ri most) (hp : 1 ≤ ins.length ∧ ins.length ≤ 4 ∧ outs.length ≤ 4 ∧ 0 ≤ mid ∧ mid ≤ 7 ∧ 1 ≤ most ∧ most ≤ 1000) : EL (tCall spShapes [] E (tCons ta (tCons tb (tCons tc (tCons td tNil))))) σ H Rsh (lawShapes ins outs mid most) := by
  intro H1 e Q q
  refine h1 H1 e _ fun v1 H2 e2 r1 => h2 H2 (e.trans e2) _ fun v2 H3 e3 r2 => h3 H3 ((e.trans e2).trans e3) _ fun v3 H4 e4 r3 => h4 H4 (((e.trans e2).trans e3).trans e4) _ fun v4 H5 e5 r4 => ?_
  cases r3
  cases r4
  obtain ⟨a1, a2, a3, a4, a5, a6, a7⟩ := hp
  exact ⟨v1, v2, ins, outs, mid, most, rfl, up ((e3.trans e4).trans e5) r1, up (e4.trans e5) r2, a1, a2, a3, a4, a5, a6, a7, fun p xs H' hn e6 h7 h8 => q p xs H' (fresh_back (((e2.trans e3).trans e4).trans e5) hn) ((((e2.trans e3).trans e4).trans e5).trans e6) h7 h8⟩
theorem sc__law_game : FnScope ["_law_flow_here", "_law_most", "_law_sides_here", "_law_middles", "_law_shapes_here", "_law_k"] ["_law_flow_here", "_law_most"] (defScope s__law_game) := ⟨rfl, rfl, rfl, by decide +kernel, rfl, by decide +kernel, by decide +kernel⟩
theorem ok__law_game (T : Txt K mg) : Cal P w K mg base 4 "_law_game" spGame := by
  refine cal_of T.d__law_game (fun _ _ _ _ _ _ us hl => match us, hl with | [_, _], _ => rfl) sc__law_game (lenGame rfl) (fun cdv f A outer s H vs Q E hr h => ?_)
  have c__law_sides := ok__law_sides (P := P) (w := w) (base := base) T
  have c__law_shapes := ok__law_shapes (P := P) (w := w) (base := base) T
  have c__law_pick := ok__law_pick (P := P) (w := w) (base := base) T
  obtain ⟨D, rfl, f0, q⟩ := h
  refine ⟨_, (pss_cons (ps_set (i := 2) sc__law_game.nd rfl (Or.inl rfl) (C8.pe_c c__law_sides hr (by decide) (by rfl) (pa_cons (pv 0) pa_nil)))
    (pss_cons (ps_set (i := 3) sc__law_game.nd rfl (Or.inl rfl) (pe_op op_add pe_int (C8.pe_c c__law_pick hr (by decide) (by rfl) (pa_cons (pv 0) (pa_cons pe_int pa_nil)))))
    (pss_cons (ps_set (i := 4) sc__law_game.nd rfl (Or.inl rfl) (C8.pe_c c__law_shapes hr (by decide) (by rfl) (pa_cons (pe_ix (k_ixT K) (pv 2) pe_int (fun _ _ => rfl)) (pa_cons (pe_ix (k_ixT K) (pv 2) pe_int (fun _ _ => rfl)) (pa_cons (pv 3) (pa_cons (pv 1) pa_nil))))))
    (pss_cons (ps_for PassesOwn.never rfl (pi_range1 (by rfl) T.n_range (pa_cons pe_int pa_nil)) (pg_name (i := 5) sc__law_game.nd rfl (Or.inl rfl))
      (pss_one (ps_if (pt_cmpR op_eq (pe_callB (k_len K) (by rfl) T.n_len (by decide +kernel) (pa_cons (pv 4) pa_nil)) pe_int (nomark _))
        (pss_cons (ps_set (i := 3) sc__law_game.nd rfl (Or.inl rfl) (pe_op op_sub (pv 3) pe_int))
        (pss_one (ps_set (i := 4) sc__law_game.nd rfl (Or.inl rfl) (C8.pe_c c__law_shapes hr (by decide) (by rfl) (pa_cons (pe_ix (k_ixT K) (pv 2) pe_int (fun _ _ => rfl)) (pa_cons (pe_ix (k_ixT K) (pv 2) pe_int (fun _ _ => rfl)) (pa_cons (pv 3) (pa_cons (pv 1) pa_nil)))))))) pss_nil)))
    (pss_one (ps_ret (pe_tup (pa_cons (pe_ix (k_ixT K) (pv 2) pe_int (fun _ _ => rfl)) (pa_cons (pe_ix (k_ixT K) (pv 2) pe_int (fun _ _ => rfl)) (pa_cons (pv 3) (pa_cons (pv 4) pa_nil))))))))))), ?_⟩
  refine ⟨.ref D, rfl, D, rfl, f0, fun vs x H1 x1 f1 rs hs => ?_⟩
  have hi := hs.li
  have ho := hs.lo
  refine run_pick1 (i := 0) rfl f1 (by decide) et_int (by decide) (by decide) fun r H2 r0 r1 x2 f2 => ?_
  have rs := imm (x2.tu f1) rs
  have x12 := x1.trans x2
  have hpre : ∀ m : Int, 1 ≤ m → m ≤ 4 → 1 ≤ x.1.length ∧ x.1.length ≤ 4 ∧ x.2.length ≤ 4 ∧ 0 ≤ m ∧ m ≤ 7 ∧ (1 : Int) ≤ 100 ∧ (100 : Int) ≤ 1000 := fun m h1 h2 => ⟨hi.1, by omega, by omega, by omega, by omega, by decide, by decide⟩
  refine k_setL (el_shapes (et_p0 (et_var rfl rs)) (et_p1 (et_var rfl rs)) (et_var (x := 1 + r) rfl rfl) (et_var (x := 100) rfl rfl) (hpre _ (by omega) (by omega))) fun p0 xs0 H3 hn3 e3 hp0 hx0 => ?_
  refine j_forR (D := { nx := _, rt := Q, bk := _, ct := _ }) (n := 3) (et_int (i := ((3 : Nat) : Int))) (by decide) fun H4 e4 => ⟨fun i σ' H' => ∃ (m : Int) (vl : V) (a : Option V), σ' = [some (.ref D), some (.int 100), some vs, some (.int m), some vl, a] ∧ Ex H2 H' ∧ Rlst Rsh H' vl (lawShapes x.1 x.2 m 100) ∧ 1 ≤ m ∧ m ≤ 4 ∧ (lawShapes x.1 x.2 m 100 ≠ [] ∨ m ≤ 4 - (i : Int)), ⟨1 + r, .ref p0, none, rfl, e3.trans e4, ⟨p0, xs0, rfl, e4 _ _ hp0, pup e4 hx0⟩, by omega, by omega, .inr (by omega)⟩, ?_, ?_⟩
  · rintro i σ' H' hi3 ⟨m, vl, a, rfl, e5, rl, m1, m4, hor⟩
    refine j_when (eT (et_eqI (et_lenL (et_var rfl rl)) et_int)) (fun hb H6 e6 => ?_) (fun hb H6 e6 => ⟨m, vl, _, rfl, e5.trans e6, up e6 rl, m1, m4, .inl fun z => ?_⟩)
    · have hnil : lawShapes x.1 x.2 m 100 = [] := by
        have := of_decide_eq_true hb
        exact List.length_eq_zero_iff.mp (by omega)
      have hm1 : m ≠ 1 := fun z => by subst z; exact shapes1_ne hs hnil
      refine k_set (et_sub (et_var (x := m) rfl rfl) et_int) fun v H7 e7 rv => ?_
      cases rv
      have rs7 := up ((e5.trans e6).trans e7) rs
      refine j_setL (el_shapes (et_p0 (et_var rfl rs7)) (et_p1 (et_var rfl rs7)) (et_var (x := m - 1) rfl rfl) (et_var (x := 100) rfl rfl) (hpre _ (by omega) (by omega))) fun p8 xs8 H8 hn8 e8 hp8 hx8 => ⟨m - 1, _, _, rfl, ((e5.trans e6).trans e7).trans e8, ⟨p8, xs8, rfl, hp8, hx8⟩, by omega, by omega, ?_⟩
      rcases hor with h | h
      · exact absurd hnil h
      · exact .inr (by push_cast; omega)
    · have := of_decide_eq_false hb
      rw [z] at this
      exact this rfl
  · rintro σ' H' ⟨m, vl, a, rfl, e5, rl, m1, m4, hor⟩
    have rs5 := up e5 rs
    have hne : lawShapes x.1 x.2 m 100 ≠ [] := by
      rcases hor with h | h
      · exact h
      · have hm : m = 1 := by omega
        subst hm
        exact shapes1_ne hs
    obtain ⟨av, au, aw, rfl, hav, ru, rwo⟩ := rs5
    refine ⟨.ref av, rfl, av, [au, aw], 0, au, rfl, rfl, st_of hav, rfl, .ref av, rfl, av, [au, aw], 1, aw, rfl, rfl, st_of hav, rfl, .int m, rfl, vl, rfl, (by show 4 ≤ sizeLine; decide), fun p hp => ?_⟩
    refine q _ ⟨x.1, x.2, m⟩ _ _ (x12.trans (Xb.ex (e5.trans (Ex.new hp)))) ⟨p, au, aw, vl, rfl, upd_same, (up (Ex.new hp) ru), (up (Ex.new hp) rwo), (up (Ex.new hp) rl)⟩ ⟨⟨hi.1, by show x.1.length ≤ 4; omega⟩, ⟨ho.1, by show x.2.length ≤ 4; omega⟩, ⟨m1, by show m ≤ 7; omega⟩, fun d hd => by have := hs.di d hd; omega, fun d hd => by have := hs.do_ d hd; omega⟩ hs m4 rfl hne
end
end Ct
set_option maxHeartbeats 2000000
/-! # Dicts, typed -/
namespace Ct
open PySem PySem.Spec PyProof.Rows L2 Evl
def Rany : Rp Unit := fun _ _ _ => True
instance : Mon Rany := ⟨fun _ h => h⟩
instance : Imm Rany := ⟨fun _ h => h⟩
section
variable {κ ν : Type} {R : Rp κ} [i : Key1 R] {S : Rp ν}
/-- an entry -/
def EntIs (R : Rp κ) [i : Key1 R] (S : Rp ν) (H : Hp) (e : Ent) (kv : κ × ν) : Prop := e.1 = i.key kv.1 ∧ R H (.ref e.2.1) kv.1 ∧ S H e.2.2 kv.2
theorem EntIs.mon [Mon R] [Mon S] {H H' : Hp} (e : Ex H H') {xs : List Ent} {d : List (κ × ν)} (h : Paired (EntIs R S H) xs d) : Paired (EntIs R S H') xs d := pr_imp' h fun _ _ r => ⟨r.1, up e r.2.1, up e r.2.2⟩
where pr_imp' {α β : Type} {F G : α → β → Prop} : ∀ {xs : List α} {l : List β}, Paired F xs l → (∀ x y, F x y → G x y) → Paired G xs l
  | _, _, .nil, _ => .nil
  | _, _, .cons r t, f => .cons (f _ _ r) (pr_imp' t f)
theorem entIs_keys {H : Hp} : ∀ {xs : List Ent} {d : List (κ × ν)}, Paired (EntIs R S H) xs d → KeysOk H xs
  | _, _, .nil => fun _ h => by cases h
  | _, _, .cons r t => fun e h => by
    rcases List.mem_cons.mp h with rfl | h
    · exact ⟨r.1 ▸ i.nk r.2.1, by rw [r.1]; exact Nat.le_trans (i.dep _) (by decide)⟩
    · exact entIs_keys t e h
variable [DecidableEq κ]
def look (d : List (κ × ν)) (k : κ) : Option ν := (d.find? fun x => decide (x.1 = k)).map (·.2)
def dput (d : List (κ × ν)) (k : κ) (v : ν) : List (κ × ν) := if k ∈ d.map (·.1) then d.map fun x => if x.1 = k then (x.1, v) else x else d ++ [(k, v)]
theorem key_eq {x y : κ} : (i.key x = i.key y) = (x = y) := propext ⟨fun h => i.inj h, fun h => by rw [h]⟩
theorem kAt_look {H : Hp} {k : κ} : ∀ {xs : List Ent} {d : List (κ × ν)}, Paired (EntIs R S H) xs d → (match look d k with | some v => ∃ u, kAt xs (i.key k) = some u ∧ S H u v | none => kAt xs (i.key k) = none)
  | _, _, .nil => rfl
  | _, _, .cons (a := e) (b := kv) (l₁ := xs) (l₂ := d) r t => by
    have ih := kAt_look (k := k) t
    by_cases h : kv.1 = k
    · have e1 : e.1 = i.key k := by rw [r.1, h]
      have a1 : look (kv :: d) k = some kv.2 := by simp [look, h]
      have a2 : kAt (e :: xs) (i.key k) = some e.2.2 := by simp [kAt, e1]
      rw [a1, a2]
      exact ⟨_, rfl, r.2.2⟩
    · have e1 : ¬ e.1 = i.key k := by rw [r.1, key_eq]; exact h
      have a1 : look (kv :: d) k = look d k := by simp [look, List.find?_cons, h]
      have a2 : kAt (e :: xs) (i.key k) = kAt xs (i.key k) := by simp [kAt, List.find?_cons, e1]
      rw [a1, a2]
      exact ih
theorem look_mem {d : List (κ × ν)} {k : κ} : (look d k).isSome = decide (k ∈ d.map (·.1)) := by
  induction d with
  | nil => simp [look]
  | cons x d ih =>
    by_cases h : x.1 = k
    · simp [look, h]
    · have h' : ¬ k = x.1 := fun e => h e.symm
      have : look (x :: d) k = look d k := by simp [look, List.find?_cons, h]
      rw [this, ih]
      simp [h']
theorem kAt_some {H : Hp} {xs : List Ent} {d : List (κ × ν)} (h : Paired (EntIs R S H) xs d) (k : κ) : (kAt xs (i.key k)).isSome = decide (k ∈ d.map (·.1)) := by
  have := kAt_look (k := k) h
  rw [← look_mem]
  cases e : look d k with
  | none => rw [e] at this; rw [this]; rfl
  | some v => rw [e] at this; obtain ⟨u, hu, _⟩ := this; rw [hu]; rfl
theorem kPut_pr {H : Hp} {xs : List Ent} {d : List (κ × ν)} {k : κ} {v : ν} {a : Addr} {u : V} (h : Paired (EntIs R S H) xs d) (rk : R H (.ref a) k) (rv : S H u v) : Paired (EntIs R S H) (kPut xs (i.key k) a u) (dput d k v) := by
  unfold kPut dput
  have e := kAt_some h k
  by_cases hk : k ∈ d.map (·.1)
  · rw [if_pos (by rw [e]; exact decide_eq_true hk), if_pos hk]
    clear e hk
    induction h with
    | nil => exact .nil
    | @cons x y l₁ l₂ r t ih =>
      rw [List.map_cons, List.map_cons]
      refine .cons ?_ ih
      by_cases h2 : y.1 = k
      · rw [if_pos (show x.1 = i.key k by rw [r.1, h2]), if_pos h2]
        exact ⟨r.1, r.2.1, rv⟩
      · rw [if_neg (show ¬ x.1 = i.key k by rw [r.1, key_eq]; exact h2), if_neg h2]
        exact r
  · rw [if_neg (by rw [e]; simpa using hk), if_neg hk]
    exact pr_app h (.cons ⟨rfl, rk, rv⟩ .nil)
/-- the dict -/
def Rdc (P : Program) (w : World) (R : Rp κ) [i : Key1 R] (S : Rp ν) : Rp (List (κ × ν)) := fun H v d => ∃ a xs, v = .ref a ∧ Rd H a (dOb P w a xs) ∧ Paired (EntIs R S H) xs d
instance {P : Program} {w : World} [Mon R] [Mon S] : Mon (Rdc P w R S) := ⟨fun e ⟨a, xs, h1, h2, h3⟩ => ⟨a, xs, h1, ex_rd e h2, EntIs.mon e h3⟩⟩
variable {P : Program} {w : World} {ta tb tc : TE} {σ : L2.St} {H : Hp} {d : List (κ × ν)} {k : κ} {v : ν}
theorem ask [Ref1 R] {H : Hp} {x y : V} (rk : R H x k) (rd : Rdc P w R S H y d) : ∃ xs a b, KAsk P w H x y xs (i.key k) a b ∧ Rd H a (dOb P w a xs) ∧ Paired (EntIs R S H) xs d ∧ y = .ref a ∧ x = .ref b := by
  obtain ⟨b, rfl⟩ := Ref1.ref rk
  obtain ⟨a, xs, rfl, ha, hp⟩ := rd
  exact ⟨xs, a, b, ⟨rfl, rfl, ha, entIs_keys hp, i.nk rk, Nat.le_trans (i.dep _) (by decide)⟩, ha, hp, rfl, rfl⟩
theorem et_inX [Ref1 R] [Mon R] {dd : Decidable (k ∈ d.map (·.1))} (h1 : ET ta σ H R k) (h2 : ET tb σ H (Rdc P w R S) d) : ET (tOp (rInX P w false) ta tb) σ H Rb (@decide _ dd) := et_op h1 h2 fun H1 x y e rk rd Q q => by
  obtain ⟨xs, a, b, A, _, hp, _⟩ := ask rk rd
  refine ⟨xs, i.key k, a, b, A, ?_⟩
  simp only [Bool.false_eq_true, if_false]
  rw [kAt_some hp]
  exact q _ _ (Ex.refl _) (congrArg V.bl (by congr))
theorem et_ninX [Ref1 R] [Mon R] {dd : Decidable (k ∈ d.map (·.1))} (h1 : ET ta σ H R k) (h2 : ET tb σ H (Rdc P w R S) d) : ET (tOp (rInX P w true) ta tb) σ H Rb (!@decide _ dd) := et_op h1 h2 fun H1 x y e rk rd Q q => by
  obtain ⟨xs, a, b, A, _, hp, _⟩ := ask rk rd
  refine ⟨xs, i.key k, a, b, A, ?_⟩
  simp only [if_true]
  rw [kAt_some hp]
  exact q _ _ (Ex.refl _) (congrArg V.bl (by congr))
theorem et_ixX [Ref1 R] [Mon R] [Mon S] (h2 : ET tb σ H (Rdc P w R S) d) (h1 : ET ta σ H R k) (hv : look d k = some v) : ET (tOp (rGetX P w) tb ta) σ H S v := et_op h2 h1 fun H1 y x e rd rk Q q => by
  obtain ⟨xs, a, b, A, _, hp, _⟩ := ask rk rd
  have := kAt_look (k := k) hp
  rw [hv] at this
  obtain ⟨u, hu, ru⟩ := this
  exact ⟨xs, i.key k, a, b, u, A, hu, q _ _ (Ex.refl _) ru⟩
theorem et_lenX (h : ET ta σ H (Rdc P w R S) d) : ET (tCB (rLenX P w) (tCons ta tNil)) σ H Ri (d.length : Int) := fun H1 e Q q =>
  h H1 e _ fun v H2 e2 ⟨a, xs, hv, ha, hp⟩ => ⟨xs, a, by rw [hv], ha, entIs_keys hp, q _ H2 e2 (by rw [pr_len hp]; rfl)⟩
theorem et_truX (h : ET ta σ H (Rdc P w R S) d) : EvT (fun σ H Q => ta σ H fun x H' => rTruX P w x H' Q) σ H (!d.isEmpty) := fun H1 e Q q =>
  h H1 e _ fun v H2 e2 ⟨a, xs, hv, ha, hp⟩ => ⟨xs, a, hv, ha, entIs_keys hp, by
    have : xs.isEmpty = d.isEmpty := by cases hp <;> rfl
    rw [this]
    exact q H2 e2⟩
theorem et_isiX {K : PySem.W.Frag} {u : String} {b : Bool} (h : ET ta σ H (Rdc P w R S) d) (hb : PySem.W.kitOne K (.type "dict") (.type u) = some b) : ET (tCB (rIsiX K P w) (tCons ta (tCons (tC (.ty u)) tNil))) σ H Rb b := fun H1 e Q q =>
  h H1 e _ fun v H2 e2 ⟨a, xs, hv, ha, hp⟩ => ⟨xs, a, b, u, by rw [hv], ha, entIs_keys hp, hb, q _ H2 e2 rfl⟩
/-- d.get(k) -/
theorem et_getX [Ref1 R] [Mon R] [Mon S] (h2 : ET tb σ H (Rdc P w R S) d) (h1 : ET ta σ H R k) : ET (tBMX P w (rGet1X P w) tb (tCons ta tNil)) σ H (fun H u o => match o with | some v => S H u v | none => u = .non) (look d k) := fun H1 e Q q =>
  h2 H1 e _ fun y H2 e2 rd => by
    obtain ⟨a, xs, hv, ha, hp⟩ := id rd
    refine ⟨⟨xs, a, hv, ha, entIs_keys hp⟩, h1 H2 (e.trans e2) _ fun x H3 e3 rk => ?_⟩
    obtain ⟨xs', a', b, A, _, hp', _⟩ := ask rk (up e3 rd)
    refine ⟨x, xs', i.key k, a', b, rfl, A, q _ H3 (e2.trans e3) ?_⟩
    have := kAt_look (k := k) hp'
    cases hl : look d k with
    | none => rw [hl] at this; rw [this]; rfl
    | some v => rw [hl] at this; obtain ⟨u, hu, ru⟩ := this; rw [hu]; exact ru
/-! ### a dict in the making at D -/
def MkX (P : Program) (w : World) (H : Hp) (R : Rp κ) [i : Key1 R] (S : Rp ν) (D : Addr) (d : List (κ × ν)) (H' : Hp) : Prop := Ex H H' ∧ ∃ xs, H' D = some (dOb P w D xs) ∧ Paired (EntIs R S H') xs d
theorem dOb_tup {a : Addr} {xs : List Ent} : ∀ ys, dOb P w a xs ≠ .tup ys := fun _ z => by cases z
theorem Tu.dct {H : Hp} {D : Addr} {xs ys : List Ent} (h : H D = some (dOb P w D xs)) : Tu H (upd H D (dOb P w D ys)) := tups_mut h fun _ z => dOb_tup _ z
section
variable {H' H'' : Hp} {D : Addr}
theorem MkX.ex [Mon R] [Mon S] (h : MkX P w H R S D d H') (e : Ex H' H'') : MkX P w H R S D d H'' := let ⟨e0, xs, h1, h2⟩ := h; ⟨e0.trans e, xs, e _ _ h1, EntIs.mon e h2⟩
theorem MkX.dc (h : MkX P w H R S D d H') : Rdc P w R S H' (.ref D) d := let ⟨_, xs, h1, h2⟩ := h; ⟨D, xs, rfl, .inl h1, h2⟩
theorem MkX.weakX {E : Addr} [Imm R] [Imm S] (h : MkX P w H R S D d H') (hne : D ≠ E) (x : Xb E H' H'') (t : Tu H' H'') (e : Ex H H'') : MkX P w H R S D d H'' :=
  let ⟨_, xs, h1, h2⟩ := h
  ⟨e, xs, x _ _ hne h1, EntIs.mon.pr_imp' h2 fun _ _ r => ⟨r.1, imm t r.2.1, imm t r.2.2⟩⟩
theorem MkX.put [Imm R] [Imm S] {xs : List Ent} {b : Addr} {u : V} (hn : H D = none) (e0 : Ex H H') (h1 : H' D = some (dOb P w D xs)) (h2 : Paired (EntIs R S H') xs d) (rk : R H' (.ref b) k) (rv : S H' u v) : MkX P w H R S D (dput d k v) (upd H' D (dOb P w D (kPut xs (i.key k) b u))) :=
  ⟨Ex.mut e0 hn, _, upd_same, EntIs.mon.pr_imp' (kPut_pr h2 rk rv) fun _ _ r => ⟨r.1, imm (Tu.dct h1) r.2.1, imm (Tu.dct h1) r.2.2⟩⟩
/-- d[k] = e -/
theorem MkX.set [Mon R] [Mon S] [Imm R] [Imm S] [Ref1 R] {te to tk : TE} {D0 : Ends} (h : MkX P w H R S D d H') (hn : H D = none) (hz : d.length < 1000000) (he : ET te σ H' S v) (ho : Ev to σ H' (.ref D)) (hk : ET tk σ H' R k) (q : ∀ H2, MkX P w H R S D (dput d k v) H2 → Tu H' H2 → Xb D H' H2 → D0.nx σ H2) : tAsg te (gSub to tk (rSetX P w)) D0 σ H' := by
  obtain ⟨e0, xs, h1, h2⟩ := h
  refine he H' (Ex.refl _) _ fun u H1 e1 ru => ho H1 e1 _ fun H2 e2 => hk H2 (e1.trans e2) _ fun x H3 e3 rx => ?_
  obtain ⟨b, rfl⟩ := Ref1.ref rx
  have e03 := (e1.trans e2).trans e3
  have h23 := EntIs.mon e03 h2
  refine ⟨xs, i.key k, D, b, ⟨rfl, rfl, .inl (e03 _ _ h1), entIs_keys h23, i.nk rx, Nat.le_trans (i.dep _) (by decide)⟩, e03 _ _ h1, ?_, q _ (MkX.put hn (e0.trans e03) (e03 _ _ h1) h23 rx (up (e2.trans e3) ru)) ((Tu.ex e03).trans (Tu.dct (e03 _ _ h1))) fun c o hc h => by rw [upd_ne hc]; exact e03 _ _ h⟩
  rw [pr_len h2]
  exact Nat.lt_of_lt_of_le hz (by decide)
/-- d.setdefault(k, e) -/
theorem MkX.sdf [Mon R] [Mon S] [Imm R] [Imm S] [Ref1 R] {te to tk : TE} {D0 : Ends} (h : MkX P w H R S D d H') (hn : H D = none) (hz : d.length < 1000000) (ho : Ev to σ H' (.ref D)) (hk : ET tk σ H' R k) (he : ET te σ H' S v) (q : ∀ H2, MkX P w H R S D (if k ∈ d.map (·.1) then d else d ++ [(k, v)]) H2 → Tu H' H2 → Xb D H' H2 → D0.nx σ H2) : tDrop (tBMX P w (rSdfX P w) to (tCons tk (tCons te tNil))) D0 σ H' := by
  obtain ⟨e0, xs, h1, h2⟩ := h
  refine ho H' (Ex.refl _) _ fun H1 e1 => ⟨⟨xs, D, rfl, .inl (e1 _ _ h1), entIs_keys (EntIs.mon e1 h2)⟩, hk H1 e1 _ fun x H2 e2 rx => he H2 (e1.trans e2) _ fun u H3 e3 ru => ?_⟩
  have e03 := (e1.trans e2).trans e3
  have h23 := EntIs.mon e03 h2
  have rx3 := up e3 rx
  obtain ⟨b, rfl⟩ := Ref1.ref rx3
  have hs := kAt_some h23 k
  refine ⟨.ref b, u, xs, i.key k, D, b, rfl, ⟨rfl, rfl, .inl (e03 _ _ h1), entIs_keys h23, i.nk rx3, Nat.le_trans (i.dep _) (by decide)⟩, e03 _ _ h1, ?_, fun z hz2 => ?_, fun hz2 => ?_⟩
  · rw [pr_len h2]
    exact Nat.lt_of_lt_of_le hz (by decide)
  · have hk' : k ∈ d.map (·.1) := by rw [hz2] at hs; exact of_decide_eq_true hs.symm
    rw [if_pos hk'] at q
    exact q H3 ⟨e0.trans e03, xs, e03 _ _ h1, h23⟩ (Tu.ex e03) (Xb.ex e03)
  · have hk' : k ∉ d.map (·.1) := by rw [hz2] at hs; exact of_decide_eq_false hs.symm
    rw [if_neg hk'] at q
    refine q _ ?_ ((Tu.ex e03).trans (Tu.dct (e03 _ _ h1))) fun c o hc h => by rw [upd_ne hc]; exact e03 _ _ h
    have := MkX.put (k := k) (v := v) hn (e0.trans e03) (e03 _ _ h1) h23 rx3 ru
    unfold dput at this
    rw [if_neg hk'] at this
    exact this
/-- {} -/
theorem k_dnewX {j : Nat} {tz : TS} {D0 : Ends} (q : ∀ p H1, H p = none → MkX P w H R S p ([] : List (κ × ν)) H1 → Ex H H1 → tz D0 (σ.set j (some (.ref p))) H1) : tSeq (tAsg (tDNewX P w) (gName j)) tz D0 σ H := fun p hp => q p _ hp ⟨Ex.new hp, [], upd_same, .nil⟩ (Ex.new hp)
theorem dput_new (h : k ∉ d.map (·.1)) : dput d k v = d ++ [(k, v)] := by unfold dput; rw [if_neg h]
end
end
end Ct
set_option maxHeartbeats 4000000
/-! # The walks: falling_move -/
namespace Ct
open PySem PySem.Spec PyProof.Rows L2 Evl
theorem et_any {v : V} {σ : L2.St} {H : Hp} : ET (tC v) σ H Rany () := et_c fun _ _ => trivial
theorem take_one {α : Type} {l : List α} {i : Nat} {x : α} (h : l[i]? = some x) : l.take (i + 1) = l.take i ++ [x] := by rw [List.take_add_one, h]; rfl
/-- None, or a tuple -/
def Rmov : Rp Bool := fun _ u b => if b = true then ∃ p, u = .ref p else u = .non
theorem Rmov.t {H : Hp} {p : Addr} : Rmov H (.ref p) true := by unfold Rmov; rw [if_pos rfl]; exact ⟨p, rfl⟩
theorem Rmov.f {H : Hp} : Rmov H .non false := by unfold Rmov; rw [if_neg Bool.false_ne_true]
section
variable {P : Program} {w : World} {K : PySem.W.Frag} {mg : Str → Option Value} {base : Heap} {σ : L2.St} {H : Hp} {ta tb tc : TE} {e : EX}
abbrev RXd (P : Program) (w : World) : Rp (List (Sh × Unit)) := Rdc P w Rsh Rany
def spFall (P : Program) (w : World) : Sp := Sp3 (Rlst Rcf) (Rlst Rend) (RXd P w) Rmov (fun cs _ _ => ∀ c ∈ cs, c.2.length ≤ 1000) fun cs es rk => falls cs es (rk.map (·.1))
theorem sc_falling_move : FnScope ["calls_in", "ends_in", "ranks", "pair", "nexts", "load", "behind", "_"] ["calls_in", "ends_in", "ranks"] (defScope s_falling_move) := ⟨rfl, rfl, rfl, by decide +kernel, rfl, by decide +kernel, by decide +kernel⟩
theorem ok_falling_move (T : Txt K mg) : Cal P w K mg base 1 "falling_move" (spFall P w) := by
  refine cal_of T.d_falling_move (fun _ _ _ _ _ _ us hl => match us, hl with | [_, _, _], _ => rfl) sc_falling_move (l3' rfl) (fun cdv f A outer s H vs Q E hr h => ?_)
  have hu := hr.units
  obtain ⟨v1, v2, v3, cs, es, rk, rfl, r1, r2, r3, hz, q⟩ := h
  refine ⟨_, (pss_cons (ps_for PassesOwn.never rfl (k_piL K (pv 0)) (pg_tup rfl (pgs_cons (pg_name (i := 3) sc_falling_move.nd rfl (Or.inl rfl)) (pgs_cons (pg_name (i := 4) sc_falling_move.nd rfl (Or.inl rfl)) pgs_nil)))
      (pss_one (ps_if (pt_val (pe_callB (k_all K) (by rfl) T.n_all (by decide +kernel) (pa_cons (pe_lc (own := [("_", 7), ("behind", 6)]) (g := (gTup K 2 (gCons (gName 7) (gCons (gName 6) gNil)))) (tt := tYes) rfl sc_falling_move.nd (k_piL K (pv 4)) (blkOk_by (own := [("_", 7), ("behind", 6)]) (N := ["calls_in", "ends_in", "ranks", "pair", "nexts", "load", "behind", "_"]) (sc := defScope s_falling_move) (by decide +kernel)) (fun _ _ _ _ _ => (pg_tup rfl (pgs_cons (pg_name (i := 7) sc_falling_move.nd rfl (Or.inl rfl)) (pgs_cons (pg_name (i := 6) sc_falling_move.nd rfl (Or.inl rfl)) pgs_nil)))) (fun _ _ _ _ _ => pts_nil) (fun _ _ _ _ _ => (pe_cmpR (k_inX P w hu) (pv 6) (pv 2) rfl))) pa_nil)))
        (pss_one (ps_ret (pe_tup (pa_cons pe_str (pa_cons (pv 3) pa_nil))))) pss_nil)))
    (pss_cons (ps_for PassesOwn.never rfl (k_piL K (pv 1)) (pg_tup rfl (pgs_cons (pg_name (i := 3) sc_falling_move.nd rfl (Or.inl rfl)) (pgs_cons (pg_name (i := 5) sc_falling_move.nd rfl (Or.inl rfl)) (pgs_cons (pg_name (i := 6) sc_falling_move.nd rfl (Or.inl rfl)) pgs_nil))))
      (pss_one (ps_if (pt_cmpR (k_inX P w hu) (pv 6) (pv 2) rfl)
        (pss_one (ps_ret (pe_tup (pa_cons pe_str (pa_cons (pv 3) (pa_cons (pv 5) pa_nil)))))) pss_nil)))
    (pss_one (ps_ret pe_non)))), ?_⟩
  let good : Ct.P × List NX → Bool := fun c => c.2.all fun n => decide (n.2 ∈ rk.map (·.1))
  let bad : EN → Bool := fun x => decide (x.2.2 ∈ rk.map (·.1))
  refine j_forL (D := { nx := _, rt := Q, bk := _, ct := _ }) (et_var rfl r1) fun p xs H1 e1 hp hx => ⟨fun i σ' H' => ∃ a b c d, σ' = [some v1, some v2, some v3, a, b, c, d, none] ∧ Ex H1 H' ∧ (cs.take i).any good = false, ⟨none, none, none, none, rfl, Ex.refl _, rfl⟩, ?_, ?_, ?_⟩
  · rintro i σ' H' hi ⟨a, b, c, d, rfl, e2, _⟩
    exact ⟨e2 _ _ hp, pup e2 hx⟩
  · rintro i x v σ' H' hxi ⟨a, b, c, d, rfl, e2, hno⟩ rx
    refine g_pair rx fun u t ru rt => ?_
    have hmem := List.mem_of_getElem? hxi
    have tk : (cs.take (i + 1)).any good = ((cs.take i).any good || good x) := by
      rw [take_one hxi, List.any_append]; simp
    refine j_when (b := good x) (eT (ET.is (et_all (el_mapP (R1 := Rld) (R2 := Rsh) (l := x.2) (fun n => decide (n.2 ∈ rk.map (·.1))) (ei_list (et_var rfl rt)) (by have := hz x hmem; omega) (fun _ _ => rfl) fun u2 v2' n Hx hn ex ru2 rv2 => et_inX (et_var rfl rv2) (et_var rfl (up ((e1.trans e2).trans ex) r3))).et) ?_)) (fun hb H3 e3 => ?_) (fun hb H3 e3 => ?_)
    · show (x.2.map _).all id = good x
      rw [List.all_map]; rfl
    · refine j_ret (D := { nx := _, rt := Q, bk := _, ct := _ }) (et_pr (R := Rany) (x := ()) et_any (et_var rfl (up e3 ru))) fun u3 H4 e4 r4 => ?_
      obtain ⟨pp, _, _, rfl, _⟩ := r4
      refine q _ _ (((e1.trans e2).trans e3).trans e4) ?_
      have : falls cs es (rk.map (·.1)) = true := by
        unfold falls
        rw [Bool.or_eq_true]
        exact .inl (List.any_eq_true.mpr ⟨x, hmem, hb⟩)
      show Rmov _ _ (falls cs es (rk.map (·.1)))
      rw [this]
      exact Rmov.t
    · refine ⟨_, _, _, _, rfl, e2.trans e3, ?_⟩
      rw [tk, hno, hb]; rfl
  · rintro σ' H' ⟨a, b, c, d, rfl, e2, hno⟩
    rw [List.take_length] at hno
    refine j_forL (D := { nx := _, rt := Q, bk := _, ct := _ }) (et_var rfl (up (e1.trans e2) r2)) fun p xs H1 e3 hp hx => ⟨fun i σ' H' => ∃ a b c d, σ' = [some v1, some v2, some v3, a, b, c, d, none] ∧ Ex H1 H' ∧ (es.take i).any bad = false, ⟨a, b, c, d, rfl, Ex.refl _, rfl⟩, ?_, ?_, ?_⟩
    · rintro i σ' H' hi ⟨a, b, c, d, rfl, e4, _⟩
      exact ⟨e4 _ _ hp, pup e4 hx⟩
    · rintro i x v σ' H' hxi ⟨a, b, c, d, rfl, e4, hno2⟩ rx
      refine g_tri rx fun u t z ru rt rz => ?_
      have hmem := List.mem_of_getElem? hxi
      have e04 := ((e1.trans e2).trans e3).trans e4
      have tk : (es.take (i + 1)).any bad = ((es.take i).any bad || bad x) := by
        rw [take_one hxi, List.any_append]; simp
      refine j_when (b := decide (x.2.2 ∈ rk.map (·.1))) (eB (et_inX (et_var rfl rz) (et_var rfl (up e04 r3)))) (fun hb H5 e5 => ?_) (fun hb H5 e5 => ?_)
      · refine j_ret (D := { nx := _, rt := Q, bk := _, ct := _ }) (et_tr (R := Rany) (x := ()) et_any (et_var rfl (up e5 ru)) (et_var rfl (up e5 rt))) fun u3 H6 e6 r6 => ?_
        obtain ⟨pp, _, _, _, rfl, _⟩ := r6
        refine q _ _ ((e04.trans e5).trans e6) ?_
        have : falls cs es (rk.map (·.1)) = true := by
          unfold falls
          rw [Bool.or_eq_true]
          exact .inr (List.any_eq_true.mpr ⟨x, hmem, hb⟩)
        show Rmov _ _ (falls cs es (rk.map (·.1)))
        rw [this]
        exact Rmov.t
      · refine ⟨_, _, _, _, rfl, e4.trans e5, ?_⟩
        rw [tk, hno2, show bad x = false from hb]; rfl
    · rintro σ' H' ⟨a, b, c, d, rfl, e4, hno2⟩
      rw [List.take_length] at hno2
      show Q V.non H'
      refine q _ _ (((e1.trans e2).trans e3).trans e4) ?_
      have : falls cs es (rk.map (·.1)) = false := by
        unfold falls
        rw [Bool.or_eq_false_iff]
        exact ⟨hno, hno2⟩
      show Rmov _ _ (falls cs es (rk.map (·.1)))
      rw [this]
      exact Rmov.f
end
end Ct
set_option maxHeartbeats 2000000
/-! # Dict comprehensions, typed; what leans on lists and tuples only -/
namespace Ct
open PySem PySem.Spec PyProof.Rows L2 Evl
def Tl (H H' : Hp) : Prop := Tu H H' ∧ ∀ b xs, H b = some (.lst xs) → H' b = some (.lst xs)
/-- leans on lists and tuples only -/
class Lim {α : Type} (R : Rp α) : Prop where
  lim : ∀ {H H' : Hp} {v : V} {x : α}, Tl H H' → R H v x → R H' v x
theorem lim {α : Type} {R : Rp α} [i : Lim R] {H H' : Hp} {v : V} {x : α} (t : Tl H H') (h : R H v x) : R H' v x := i.lim t h
section
variable {α β γ : Type} {R : Rp α} {S : Rp β} {T : Rp γ}
instance (priority := low) limImm [Imm R] : Lim R := ⟨fun t h => imm t.1 h⟩
theorem lims [Lim R] {H H' : Hp} (t : Tl H H') : ∀ {xs : List V} {l : List α}, Paired (R H) xs l → Paired (R H') xs l
  | _, _, .nil => .nil
  | _, _, .cons r t' => .cons (lim t r) (lims t t')
instance [Lim R] : Lim (Rlst R) := ⟨fun t ⟨a, xs, h1, h2, h3⟩ => ⟨a, xs, h1, t.2 _ _ h2, lims t h3⟩⟩
instance [Lim R] : Lim (Rtup R) := ⟨fun t ⟨a, xs, h1, h2, h3⟩ => ⟨a, xs, h1, t.1 _ _ h2, lims t h3⟩⟩
instance [Lim R] [Lim S] : Lim (Rpr R S) := ⟨fun t ⟨a, u, w, h1, h2, h3, h4⟩ => ⟨a, u, w, h1, t.1 _ _ h2, lim t h3, lim t h4⟩⟩
end
section
variable {P : Program} {w : World}
theorem tl_dct {H : Hp} {D : Addr} {xs ys : List Ent} (h : H D = some (dOb P w D xs)) : Tl H (upd H D (dOb P w D ys)) := ⟨Tu.dct h, fun b xs e => by
  by_cases hb : b = D
  · rw [hb, h] at e; cases e
  · rw [upd_ne hb]; exact e⟩
/-- a new dict -/
def EX' {κ ν : Type} (P : Program) (w : World) (te : TE) (σ : L2.St) (H : Hp) (R : Rp κ) [i : Key1 R] (S : Rp ν) (d : List (κ × ν)) : Prop := ∀ H1, Ex H H1 → ∀ Q : VK, (∀ p xs H2, H1 p = none → Ex H1 H2 → H2 p = some (dOb P w p xs) → Paired (EntIs R S H2) xs d → Q (.ref p) H2) → te σ H1 Q
variable {α κ ν : Type} {R0 : Rp α} {R : Rp κ} [i : Key1 R] {S : Rp ν} [DecidableEq κ] {σ : L2.St} {H : Hp} {l : List α} {wi : TI} {tk tv : TE} {a : Nat} {vs : List Nat}
theorem k_setX' {j : Nat} {te : TE} {tz : TS} {D : Ends} {d : List (κ × ν)} (h : EX' P w te σ H R S d) (k : ∀ p xs H1, H p = none → Ex H H1 → H1 p = some (dOb P w p xs) → Paired (EntIs R S H1) xs d → tz D (σ.set j (some (.ref p))) H1) : tSeq (tAsg te (gName j)) tz D σ H := h H (Ex.refl H) _ k
/-- {k: v for a in l}: the keys all different -/
theorem ex_mapN [Mon R] [Mon S] [Imm R] [Lim S] [Ref1 R] (g : α → κ) (f : α → ν) (h : EI wi σ H R0 l) (hz : l.length ≤ 1000000) (hnd : (l.map g).Nodup) (hw : ∀ v, wipe ((wipe σ vs).set a (some v)) vs = wipe σ vs)
    (turn : ∀ v x H1, x ∈ l → Ex H H1 → R0 H1 v x → ET tk ((wipe σ vs).set a (some v)) H1 R (g x) ∧ ∀ H2, Ex H1 H2 → ET tv ((wipe σ vs).set a (some v)) H2 S (f x)) : EX' P w (tXc P w wi (gName a) tYes tk tv vs) σ H R S (l.map fun x => (g x, f x)) := by
  intro H1 e1 Q q
  refine h H1 e1 _ fun J G Y H2 e2 wk gs ys D hD => ?_
  refine ⟨fun i m H' => m = l.length - i ∧ i ≤ l.length ∧ Ex H2 H' ∧ ∃ xs, H' D = some (dOb P w D xs) ∧ Paired (EntIs R S H') xs ((l.take i).map fun x => (g x, f x)), ⟨l.length, by omega, Nat.zero_le _, Ex.new hD, [], upd_same, .nil⟩, ?_⟩
  rintro i m H' ⟨rfl, hi, eH, xs, hd, hx⟩
  by_cases hlt : i < l.length
  · refine .inr ⟨wk.goes i H' hlt (gs H' eH), fun H'' => (i + 1) ≤ l.length ∧ Ex H2 H'' ∧ ∃ xs, H'' D = some (dOb P w D xs) ∧ Paired (EntIs R S H'') xs ((l.take (i + 1)).map fun x => (g x, f x)), fun H'' ⟨a1, a2, a3⟩ => ⟨l.length - (i + 1), by omega, rfl, a1, a2, a3⟩, fun v H3 hy => ?_⟩
    obtain ⟨x, hxi, e3, rx⟩ := ys i H' v H3 hlt eH (wk.yields i H' v H3 hlt (gs H' eH) hy)
    have hm := List.mem_of_getElem? hxi
    obtain ⟨tk', tv'⟩ := turn v x H3 hm ((e1.trans e2).trans (eH.trans e3)) rx
    refine ⟨hw v, ?_⟩
    unfold tYes
    dsimp only
    rw [if_pos rfl]
    refine tk' H3 (Ex.refl _) _ fun y H4 e4 ry => tv' H3 (Ex.refl _) H4 e4 _ fun z H5 e5 rz => ?_
    obtain ⟨b, rfl⟩ := Ref1.ref ry
    have e35 := (e3.trans e4).trans e5
    have hd5 : H5 D = some (dOb P w D xs) := e35 _ _ hd
    have hx5 := EntIs.mon e35 hx
    have ry5 : R H5 (.ref b) (g x) := up e5 ry
    refine ⟨xs, Key1.key R (g x), b, rfl, hd5, entIs_keys hx5, ?_, Key1.nk ry5, Nat.le_trans (Key1.dep (R := R) _) (by decide), ?_⟩
    · rw [pr_len hx5, List.length_map, List.length_take]
      have : 1000000 < sizeLine := by decide
      omega
    · refine ⟨by omega, Ex.mut (eH.trans e35) hD, _, upd_same, ?_⟩
      have hnew : g x ∉ ((l.take i).map fun x => (g x, f x)).map (·.1) := by
        rw [List.map_map]
        have h2 : (l.take (i + 1)).map g = (l.take i).map g ++ [g x] := by rw [take_one hxi, List.map_append]; rfl
        have h3 : ((l.take (i + 1)).map g).Nodup := by rw [List.map_take]; exact List.Nodup.sublist (List.take_sublist _ _) hnd
        rw [h2, List.nodup_append] at h3
        intro hc
        exact h3.2.2 _ hc _ (List.mem_singleton.mpr rfl) rfl
      have hp := kPut_pr (k := g x) (v := f x) hx5 ry5 rz
      rw [dput_new hnew] at hp
      have e2' : (l.take (i + 1)).map (fun x => (g x, f x)) = (l.take i).map (fun x => (g x, f x)) ++ [(g x, f x)] := by rw [take_one hxi, List.map_append]; rfl
      rw [e2']
      exact EntIs.mon.pr_imp' hp fun _ _ r => ⟨r.1, imm (Tu.dct hd5) r.2.1, lim (tl_dct hd5) r.2.2⟩
  · have e : i = l.length := by omega
    subst e
    rw [List.take_length] at hx
    exact .inl ⟨wk.stops H' (gs H' eH), q D xs H' (fresh_back e2 hD) (e2.trans eH) hd hx⟩
end
end Ct
/-! # W: promises of defs -/
namespace GW
open PySem PySem.Spec PyProof.Rows L2
/-- a def's promise -/
structure FnW (P : Program) (w : World) (K : PySem.W.Frag) (mg : Str → Option Value) (base : Heap) (k : Nat) (f : Addr) (fd : FuncData) (ps : List Str) (sp : Sp) : Prop where
  len : ∀ vs H Q E, sp vs H Q E → vs.length = ps.length
  run : ∀ (A : Around) (outer : List Env) (s : Shared) (H : Hp) (args : Args) (us : List Value) (vs : List V) (Q : VK), Room k A → Env0 P w K mg base A outer s H → BindsTo s fd args (ps.zip us) → Vals vs us → sp vs H Q C8.E0 →
    codeW P w A (.call (.ref f) args) (CR CX0 outer P w H s Q C8.E0) s
section
variable {P : Program} {w : World} {K : PySem.W.Frag} {mg : Str → Option Value} {base : Heap}
theorem fnw_of {x qual : Str} {st : Stmt} {f : Addr} {fd : FuncData} {N ps : List Str} {k : Nat} {sp : Sp} (F : L2.Fun K x qual st f fd) (S : FnScope N ps (defScope st)) (len : ∀ vs H Q E, sp vs H Q E → vs.length = ps.length)
    (hbody : ∀ (cdv : Value) (A : Around) (outer : List Env) (s : Shared) (H : Hp) (vs : List V) (Q : VK), Room k (A.deeper (envOfC qual (defScope st) s.heap.objs.size f cdv)) → sp vs H Q C8.E0 →
      ∃ t, WSs (cxOf CX0 P w K mg base N qual (defScope st) f cdv A outer s H C8.E0).nox (defBody st) t ∧ t { nx := fun _ H' => Q .non H', rt := Q } (start N vs) H) : FnW P w K mg base (k + 1) f fd ps sp := by
  obtain ⟨oc, od, kV, doc, pm, an, cdv, ct, osl, rfl, lk, hcd⟩ := F.ex
  refine ⟨len, fun A outer s H args us vs Q hr e0 hb r hsp => ?_⟩
  have hl := len _ _ _ _ hsp
  have KX : K.In s.heap := e0.mod.kin.keeps fun b o e => (e0.bs b o e).1
  have lim : s.heap.NoLimit := e0.mod.nolimit.keeps fun b o e => (e0.bs b o e).1
  refine cw_function hr.depth (KX _ _ lk) rfl S.co S.gen rfl (PySem.W.codeRec_of KX hcd) (hb _ _ _ _ ?_)
  refine wpAny_newFunctionEnv_cells S.kind (fun ⟨n, v⟩ hy => ?_) fun env he s1 x => ?_
  · rcases S.par n (List.of_mem_zip hy).1 with q | q
    · exact .inl q
    · exact .inr ⟨q, PySem.W.cellsFrom_some _ _ _ (.inl q)⟩
  subst he
  refine ⟨lim.keeps x.toInCall.keep, cw_func ?_⟩
  obtain ⟨t, ht, hq⟩ := hbody cdv A outer s H vs Q (hr.deeper _) hsp
  have I := (inv_start (CX := CX0) (E := C8.E0) S hr.hd e0 hl r x).wish (fun _ _ => False)
  refine w_thn (ht.run [] s1 (start N vs) H _ I hq) fun fl s' hs => ?_
  cases fl with
  | ret u => obtain ⟨v, σ', H', J, rv, q⟩ := hs; exact ⟨v, H', J.os, J.bare, J.base, J.hok, rv, q⟩
  | next => obtain ⟨σ', H', J, q⟩ := hs; exact ⟨.non, H', J.os, J.bare, J.base, J.hok, rfl, q⟩
  | brk => obtain ⟨_, _, _, q⟩ := hs; exact q.elim
  | cont => obtain ⟨_, _, _, q⟩ := hs; exact q.elim
end
structure CalW (P : Program) (w : World) (K : PySem.W.Frag) (mg : Str → Option Value) (base : Heap) (k : Nat) (x : Str) (sp : Sp) : Prop where
  ex : ∃ (f : Addr) (fd : FuncData) (ps : List Str), FnW P w K mg base k f fd ps sp ∧ mg x = some (.ref f) ∧ PySem.W.keepIn K (.ref f) = true ∧ Binds K fd ps []
structure MakW (P : Program) (w : World) (K : PySem.W.Frag) (mg : Str → Option Value) (base : Heap) (k : Nat) (x : Str) (C : Addr) (sp : Sp) : Prop where
  ex : ∃ (f : Addr) (fd : FuncData) (ps : List Str), Mk K C f ∧ FnW P w K mg base k f fd ps sp ∧ mg x = some (.ref C) ∧ Binds K fd ps []
section
variable {X : Cx} {k j : Nat} {C : Addr} {x : Str} {sp : Sp} {p pos : Pos} {e : Expr} {es : List Expr} {t : TA}
theorem we_c (c : CalW X.prog X.w X.K X.mg X.base k x sp) (hr : Room j X.A) (hk : k ≤ j) (hg : Gl X x) (ha : PA X (e :: es) t)
    (hdb : (x == ("__debug__" : Str)) = false := by decide) (he : starEach (e :: es) X.env = (false, eval e X.env) :: starEach es X.env := by rfl) (hpl : (backTo pos (starEach es X.env)).any (·.1) = false := by rfl) :
    WE X (.Call (.Name x p) (e :: es) [] pos) (tCall sp [] C8.E0 t) := by
  obtain ⟨f, fd, ps, F, hm, hkp, hb⟩ := c.ex
  refine ⟨fun pins s σ H Q I h => ?_⟩
  rw [arm_eval_Call_Name']
  refine w_bind (w_of (ld_glob I hg hm ?_ hdb))
  have h0 := ha.run pos pins s σ H _ I h
  rw [he] at h0 ⊢
  refine w_callWith hkp hpl (thn h0 fun us s1 ⟨vs, H1, I1, r, q⟩ => ⟨I1.kIn, ?_⟩)
  have r2 : Vals (vs ++ []) us := by rw [List.append_nil]; exact r
  have hl : (us ++ []).length = ps.length := by rw [List.append_nil, ← r2.length]; exact F.len _ _ _ _ q
  have hbt := hb s1 us I1.kIn hl
  rw [List.append_nil] at hbt
  refine w_call (cw_mono (F.run X.A X.stack s1 H1 ⟨us, []⟩ us (vs ++ []) Q (hr.mono hk) I1.env0 hbt r2 q) fun r s' hq => ?_)
  cases r with
  | error e => exact hq.elim
  | ok fl =>
    cases fl with
    | ret u => exact I1.after hq
    | next => exact hq.elim
    | brk => exact hq.elim
    | cont => exact hq.elim
end
/-! ### a class is made -/
section
open PySem.W
variable {P : Program} {w : World} {A : Around} {C : Addr} {R : Result → Shared → Prop} {h : Heap} {g : Array GenState} {d : Drawn} {t : Nat} {os : OsState}
theorem cw_builtin {id : String} {args : Args} {b : Builtin} {s : Shared} (hq : (Code.builtin id args).quiet = true) (hb : entryFor table id = some b)
    (h : wpAny (model P w) A.in1 (checkBuiltinCall id args) (fun _ s₁ => W P w (A.under (.builtin id args)) (b args)
      (fun fin s' => match fin with | .done f => R (.ok f) s' | .again c' => c'.quiet = true ∧ codeW P w A c' R s') (fun e s' => R (.error e) s') s₁) (fun e s' => R (.error e) s') s) : codeW P w A (.call (.builtin id) args) R s := by
  refine cw_tree (w_of ?_)
  show wpAny _ A.in1 (do checkBuiltinCall id args; again (.builtin id args)) _ _ s
  refine wpAny_bind (thn h fun _ s₁ h₁ => wpAny_pure (And.intro hq (cw_tree ?_)))
  show W P w _ (match entryFor table id with | some b => b args | none => unsupported ((withoutEnding? id "#data").getD id)) _ _ s₁
  rw [hb]; exact h₁
theorem cw_make {rest : List Value} {kw : List (Str × Value)} {init : Value} (Y : Makes (model P w) h C) (hi : Looks (model P w) h (typeLookup (.ref C) "__init__") (some init))
    (hb : ∀ self, Looks (model P w) h (bindSpecial init self) (init, [self])) (hne : (some init != some (Value.builtin "object.__init__")) = true ∨ (rest = [] ∧ kw = []))
    (hq : codeW P w (A.under (.builtin "type.__call__" ⟨.ref C :: rest, kw⟩)) (.call init ⟨.ref (h.objs.size + 1) :: rest, kw⟩) (InitBack (h.objs.size + 1) R) ⟨(h.push emptyDict).push (instObj C h.objs.size), g, d, t, os⟩) :
    codeW P w A (.call (.ref C) ⟨rest, kw⟩) R ⟨h, g, d, t, os⟩ := by
  have Y' := Y
  obtain ⟨⟨oc, od, cd, sl, hC, e1, e2, e4⟩, made, base, self, top, call, typ⟩ := Y
  refine cw_tree (w_of ?_)
  show wpAny _ _ (callAny (.ref C) _) _ _ _
  refine nd_load hC ?_
  show wpAny _ _ (callAny.viaDunder (.ref C) _) _ _ _
  unfold callAny.viaDunder
  refine wpAny_bind (call.at ?_)
  dsimp only
  rw [tc_bind]
  refine wpAny_bind (wpAny_pure (wpAny_bind (wpAny_pure ?_)))
  refine wpAny_pure (a := Fin.again (.call (.builtin "type.__call__") ⟨.ref C :: rest, kw⟩)) (And.intro rfl ?_)
  refine cw_builtin (Code.quiet_builtin _ (by decide +kernel)) entry_typeCall (check_slot tc_kind tc_split typ (tc_args _ _ _) ?_)
  unfold Builtin.«type.__call__»
  have hm : Looks (model P w) h (mroOf (.ref C)) cd.mro := ((Looks.ld (part := none) hC).andThen .now).andThen .now
  show W P w _ (mroOf (.ref C) >>= _) _ _ _
  refine w_bind (w_of (hm.here ?_))
  dsimp only
  rw [if_neg (by rw [e4]; exact Bool.false_ne_true)]
  refine w_bind (w_of (made.here ?_))
  dsimp only
  refine w_bind (w_pure ?_)
  refine w_bind (w_of (wpAny_holding (wpAny_call (new_K Y' hi hne ?_))))
  have k : ∀ b o, h.get? b = some o → ((h.push emptyDict).push (instObj C h.objs.size)).get? b = some o := fun b o e => Heap.get?_push_of_some _ (Heap.get?_push_of_some _ e)
  have hx : ((h.push emptyDict).push (instObj C h.objs.size)).get? (h.objs.size + 1) = some (instObj C h.objs.size) := by
    have z := Heap.get?_push_size (h.push emptyDict) (o := instObj C h.objs.size) rfl
    rwa [Heap.size_push] at z
  have t1 : Looks (model P w) ((h.push emptyDict).push (instObj C h.objs.size)) (typeOf (.ref (h.objs.size + 1))) (.ref C) := (Looks.ld hx).andThen .now
  have s1 := self.keeps k
  have i1 := hi.keeps k
  have b1 := (hb (.ref (h.objs.size + 1))).keeps k
  refine w_bind (w_of ?_)
  unfold isInstance
  refine wpAny_bind (t1.here (s1.here ?_))
  rw [if_neg (by decide)]
  refine w_bind (w_holding ?_)
  unfold callSpecial? specialOf
  refine w_bind (w_of (wpAny_bind (t1.here (i1.here ?_))))
  dsimp only
  refine w_holding (w_bind (w_of (b1.here ?_)))
  dsimp only
  refine w_bind (w_call (cw_mono hq fun r s' z => ?_))
  cases r with
  | error e => exact z
  | ok fl =>
    cases fl with
    | ret v =>
      obtain ⟨rfl, z⟩ := z
      exact w_pure (w_pure z)
    | next => exact z.elim
    | brk => exact z.elim
    | cont => exact z.elim
end
section
variable {X : Cx} {k j : Nat} {C : Addr} {x : Str} {sp : Sp} {p pos : Pos} {e : Expr} {es : List Expr} {t : TA}
theorem we_mk (c : MakW X.prog X.w X.K X.mg X.base k x C sp) (hr : Room j X.A) (hk : k + 1 ≤ j) (hg : Gl X x) (ha : PA X (e :: es) t)
    (hdb : (x == ("__debug__" : Str)) = false := by decide) (he : starEach (e :: es) X.env = (false, eval e X.env) :: starEach es X.env := by rfl) (hpl : (backTo pos (starEach es X.env)).any (·.1) = false := by rfl) :
    WE X (.Call (.Name x p) (e :: es) [] pos) (tMake C sp [] C8.E0 t) := by
  obtain ⟨f, fd, ps, M, F, hm, hb⟩ := c.ex
  refine ⟨fun pins s σ H Q I h => ?_⟩
  rw [arm_eval_Call_Name']
  refine w_bind (w_of (ld_glob I hg hm ?_ hdb))
  have h0 := ha.run pos pins s σ H _ I h
  rw [he] at h0 ⊢
  refine w_callWith M.kp hpl (thn h0 fun us s1 ⟨vs, H1, I1, r, q⟩ => ⟨I1.kIn, ?_⟩)
  have q := q (s1.heap.objs.size + 1) s1.heap.objs.size (I1.hok.fresh (Nat.le_succ _)) (I1.hok.fresh (Nat.le_refl _)) (Nat.ne_of_lt (Nat.lt_succ_self _))
  have J := Inv.made (C := C) I1
  rw [List.append_nil] at q
  have r2 : Vals (V.ref (s1.heap.objs.size + 1) :: vs) (Value.ref (s1.heap.objs.size + 1) :: us) := .cons rfl r
  have hl : (Value.ref (s1.heap.objs.size + 1) :: us ++ []).length = ps.length := by rw [List.append_nil, ← r2.length]; exact F.len _ _ _ _ q
  have hbt := hb { s1 with heap := (s1.heap.push PySem.W.emptyDict).push (PySem.W.instObj C s1.heap.objs.size) } (Value.ref (s1.heap.objs.size + 1) :: us) J.kIn hl
  rw [List.append_nil] at hbt
  refine w_call ?_
  have r3 : Room k X.A.in1 ∨ True := .inr trivial
  have mk := fun (R : Result → Shared → Prop) (hq : codeW X.prog X.w (X.A.under (.builtin "type.__call__" ⟨.ref C :: us, []⟩)) (.call (.ref f) ⟨.ref (s1.heap.objs.size + 1) :: us, []⟩) (PySem.W.InitBack (s1.heap.objs.size + 1) R) { s1 with heap := (s1.heap.push PySem.W.emptyDict).push (PySem.W.instObj C s1.heap.objs.size) }) =>
    cw_make (P := X.prog) (w := X.w) (A := X.A) (C := C) (R := R) (h := s1.heap) (g := s1.gens) (d := s1.drawn) (t := s1.toks) (os := s1.os) (rest := us) (kw := []) (init := .ref f) (PySem.W.makes_of I1.kIn M.makes) (PySem.W.looks_findIn I1.kIn M.init) (fun self => PySem.W.bind_fn I1.kIn self (beq_iff_eq.mp M.fn)) (.inl rfl) hq
  refine mk _ (cw_mono (F.run _ X.stack _ _ ⟨_, []⟩ _ _ _ ((hr.mono hk).make C us []) (J.env0.make C us []) hbt r2 q) fun r s' hq => ?_)
  cases r with
  | error e => exact hq.elim
  | ok fl =>
    cases fl with
    | ret u =>
      obtain ⟨v, H', I3, rv, ev, q3⟩ := J.after hq
      subst ev
      exact ⟨rv, V.ref (s1.heap.objs.size + 1), H', I3, rfl, q3⟩
    | next => exact hq.elim
    | brk => exact hq.elim
    | cont => exact hq.elim
/-- behind the iterator's coming: the turns -/
theorem turns_of {tg : Expr} {body : List Stmt} {g : TG} {tb : TS} {D : Ends} {pins : List (Addr × Obj)} {σ : L2.St} {s2 : Shared} {itv : Value} (hn : ∀ e s', X.xe e s' → False) (hc : X.calm = true) (hg : PG X tg g) (hb : PSs X body tb)
    (h2 : PIE X pins σ tg (fun J H1 => ∃ W : Nat → Nat → L2.St → Hp → Prop, (∃ m, W 0 m σ H1) ∧ ∀ i m σ H, W i m σ H →
      (J.stop i H ∧ D.nx σ H) ∨ (J.go i H ∧ ∃ N : L2.St → Hp → Prop, (∀ σ' H', N σ' H' → ∃ m', m' < m ∧ W (i + 1) m' σ' H') ∧ ∀ x H', J.yld i H x H' → g x σ H' fun σ2 H2 => tb { D with nx := N, ct := N, bk := D.nx } σ2 H2)) itv s2)
    {R : Result → Shared → Prop} (hR : ∀ f s', SP X pins D f s' → R (.ok f) s') : codeAny (model X.prog X.w) X.A (.forLoop tg itv body [] X.env) R s2 := by
  obtain ⟨it, fp, tn, J, H2, e, I2, T, st2, f2, Wd, ⟨m0, w0⟩, turn⟩ := h2
  subst e
  have quiet : ∀ {α : Type} {t : Sem α} {Q : α → Shared → Prop} {E : Value → Shared → Prop} {s : Shared}, wpAny (model X.prog X.w) X.A t Q X.xe s → wpAny (model X.prog X.w) X.A t Q E s := fun h => wpAny_mono h (fun _ _ z => z) fun e s' z => (hn e s' z).elim
  have own : ∀ {H' : Hp}, (∀ b ∈ fp, H' b = none) → ∀ b ∈ fp, FpOk X pins H' b := fun hz b hb => ⟨hz b hb, (f2 b hb).2⟩
  refine codeAny_forLoop_any (fun n s' => ∃ i σ' H', Inv X pins σ' H' s' ∧ tn i s'.heap ∧ (∀ b ∈ fp, H' b = none) ∧ Wd i n σ' H') ?_ m0 ⟨0, σ, H2, I2, st2, fun b hb => (f2 b hb).1, w0⟩
  rintro n s3 ⟨i, σ3, H3, I3, st3, fr3, w3⟩
  rcases turn i n σ3 H3 w3 with ⟨stop, qn⟩ | ⟨go, N, hN, step⟩
  · refine quiet (thn (T.done X rfl rfl rfl hc i pins s3 σ3 H3 X.xe I3 (own fr3) st3 stop) fun r s4 ⟨hr, I4⟩ => ?_)
    subst hr
    exact wpAny_execs_nil (hR .next s4 ⟨σ3, H3, I4, qn⟩)
  · refine quiet (thn (T.item X rfl rfl rfl hc i pins s3 σ3 H3 X.xe I3 (own fr3) st3 go) fun r s4 ⟨u, hr, h4⟩ => ?_)
    subst hr
    refine quiet (thn h4 fun _ s5 ⟨x, H5, I5, r5, y5, st5, fr5⟩ => ?_)
    have at5 := I5.pinned (own fr5) (T.obj _ _ st5)
    refine quiet (thn (hg.run _ s5 σ3 H5 x u _ at5 r5 (step x H5 y5)) fun _ s6 ⟨σ6, H6, I6, q6⟩ => ?_)
    refine quiet (thn (hb.run _ s6 σ6 H6 _ I6 q6) fun f s7 q7 => ?_)
    have next : ∀ {σ7 : L2.St} {H7 : Hp}, Inv X (pins ++ pinsAt fp s5.heap) σ7 H7 s7 → N σ7 H7 → ∃ m, m < n ∧ ∃ i σ' H', Inv X pins σ' H' s7 ∧ tn i s7.heap ∧ (∀ b ∈ fp, H' b = none) ∧ Wd i m σ' H' := fun {σ7 H7} I7 n7 => by
      obtain ⟨m', hm, w7⟩ := hN σ7 H7 n7
      have pin : ∀ b ∈ fp, ∀ o, s5.heap.get? b = some o → s7.heap.get? b = some o ∧ H7 b = none := fun b hb o eo => by
        have z := I7.pin (b, o) (List.mem_append_right _ (List.mem_append_right _ (mem_pinsAt hb eo)))
        exact ⟨z.1, z.2.1⟩
      refine ⟨m', hm, i + 1, σ7, H7, I7.unpinned, T.keep _ _ _ st5 fun b hb o eo => (pin b hb o eo).1, fun b hb => ?_, w7⟩
      obtain ⟨o, eo, _⟩ := T.obj _ _ st5 b hb
      exact (pin b hb o eo).2
    cases f with
    | next => obtain ⟨σ7, H7, I7, n7⟩ := q7; exact next I7 n7
    | cont => obtain ⟨σ7, H7, I7, n7⟩ := q7; exact next I7 n7
    | brk => obtain ⟨σ7, H7, I7, q7⟩ := q7; exact hR .next s7 ⟨σ7, H7, I7.unpinned, q7⟩
    | ret v => obtain ⟨x7, σ7, H7, I7, r7, q7⟩ := q7; exact hR (.ret v) s7 ⟨x7, σ7, H7, I7.unpinned, r7, q7⟩
/-- for over a list that such an expression gives -/
theorem ws_forL {tg iter : Expr} {body : List Stmt} {te : TE} {g : TG} {tb : TS} (K : PySem.W.Frag) (hK : X.K = K) (hn : ∀ e s', X.xe e s' → False) (hc : X.calm = true) (hi : WE X iter te) (hg : PG X tg g) (hb : PSs X body tb)
    (hs : ∀ x, foldedSetIterable iter X.env x = pure x := by intro _; rfl) : WS X (.For tg iter body [] pos) (tFor (iList K te) g tb) := by
  subst hK
  refine ⟨fun pins s σ H D I h => ?_⟩
  rw [exec_For]
  refine w_bind (w_standAt (w_bind (w_thn (hi.run pins s σ H _ I h) fun v s1 h1 => ?_)))
  obtain ⟨y, H1, I1, r1, a, e, ⟨xs, hq⟩, q⟩ := h1
  subst e
  cases r1
  rw [hs]
  refine w_bind (w_pure (w_bind (w_standAt (w_bind (w_of (wpAny_holding ?_))))))
  obtain ⟨its, rv, p, hz⟩ := I1.list hq
  refine wpAny_pyIter_list p.isList ?_
  refine w_of (wpAny_runOwn (turns_of (D := D) (σ := σ) hn hc hg hb ?_ fun f s' z => z))
  exact ⟨s1.heap.objs.size, [s1.heap.objs.size], _, _, H1, rfl, I1.kept (t' := s1.toks) fun b o e => Heap.get?_push_of_some _ e, turn_list a _, ⟨_, Heap.get?_push_size _ rfl, rfl, rfl⟩, fun b hb => by
    have e : b = s1.heap.objs.size := by simpa using hb
    subst e
    exact I1.fpOk (Nat.le_refl _) (I1.hok.fresh (Nat.le_refl _)), q⟩
end
end GW
set_option maxHeartbeats 4000000
/-! # W: promises from bodies -/
namespace GW
open PySem PySem.Spec PyProof.Rows L2 Evl Ct
section
variable {P : Program} {w : World} {K : PySem.W.Frag} {mg : Str → Option Value} {base : Heap}
theorem calw_of {x : Str} {st : Stmt} {N ps : List Str} {k : Nat} {sp : Sp} (d : Dk K mg x st)
    (hb : ∀ (kV doc pm : Value) (an : Option Addr) (cdv ct : Value) (us : List Value), us.length = ps.length → bindArgs (PySem.W.fnOf x x (defArgs st) (defBody st) (defScope st) .none kV doc pm an cdv ct) ⟨us, []⟩ = pure (ps.zip us))
    (S : FnScope N ps (defScope st)) (len : ∀ vs H Q E, sp vs H Q E → vs.length = ps.length)
    (hbody : ∀ (cdv : Value) (f : Addr) (A : Around) (outer : List Env) (s : Shared) (H : Hp) (vs : List V) (Q : VK), Room k (A.deeper (envOfC x (defScope st) s.heap.objs.size f cdv)) → sp vs H Q C8.E0 →
      ∃ t, WSs (cxOf CX0 P w K mg base N x (defScope st) f cdv A outer s H C8.E0).nox (defBody st) t ∧ t { nx := fun _ H' => Q .non H', rt := Q } (start N vs) H) : CalW P w K mg base (k + 1) x sp := by
  obtain ⟨f, fd, F, hm⟩ := d.ex
  exact ⟨⟨f, fd, ps, fnw_of F S len (fun cdv => hbody cdv f), hm, F.kp, F.binds hb⟩⟩
theorem makw_of {x q : Str} {st : Stmt} {C f0 : Addr} {N ps : List Str} {k : Nat} {sp : Sp} (M : Mk K C f0) (hm : mg x = some (.ref C)) (d : Mk' K f0 "__init__" q st)
    (hb : ∀ (kV doc pm : Value) (an : Option Addr) (cdv ct : Value) (us : List Value), us.length = ps.length → bindArgs (PySem.W.fnOf "__init__" q (defArgs st) (defBody st) (defScope st) .none kV doc pm an cdv ct) ⟨us, []⟩ = pure (ps.zip us))
    (S : FnScope N ps (defScope st)) (len : ∀ vs H Q E, sp vs H Q E → vs.length = ps.length)
    (hbody : ∀ (cdv : Value) (f : Addr) (A : Around) (outer : List Env) (s : Shared) (H : Hp) (vs : List V) (Q : VK), Room k (A.deeper (envOfC q (defScope st) s.heap.objs.size f cdv)) → sp vs H Q C8.E0 →
      ∃ t, WSs (cxOf CX0 P w K mg base N q (defScope st) f cdv A outer s H C8.E0).nox (defBody st) t ∧ t { nx := fun _ H' => Q .non H', rt := Q } (start N vs) H) : MakW P w K mg base (k + 1) x C sp := by
  obtain ⟨fd, F⟩ := d.ex
  exact ⟨⟨f0, fd, ps, M, fnw_of F S len (fun cdv => hbody cdv f0), hm, F.binds hb⟩⟩
theorem CalW.mono {x : Str} {j k : Nat} {sp : Sp} (c : CalW P w K mg base j x sp) (h : j ≤ k) : CalW P w K mg base k x sp := by
  obtain ⟨f, fd, ps, F, r⟩ := c.ex
  exact ⟨⟨f, fd, ps, ⟨F.len, fun A outer s H args us vs Q hr => F.run A outer s H args us vs Q (hr.mono h)⟩, r⟩⟩
end
end GW
/-! # The walks: fallen -/
namespace Ct
open PySem PySem.Spec PyProof.Rows L2 Evl
structure AOk (e : EX) : Prop where
  ok : EOk e
  few : (allShapes e).length ≤ 1000
  nd : (allShapes e).Nodup
  sh : ∀ s ∈ allShapes e, ShOk e s
theorem next_len (s : Sh) (p : P) : (nextShapes s p).length ≤ s.length := by
  unfold nextShapes
  rw [List.length_map]
  exact Nat.le_trans (List.length_filter_le _ _) (by simp)
theorem ShOk.small {e : EX} {s : Sh} (he : EOk e) (h : ShOk e s) : s.length ≤ 100 ∧ ∀ l ∈ s, l.length ≤ 100 := by
  refine ⟨by have := h.len; have := he.mid; omega, fun l hl => ?_⟩
  have := (h.ld l hl).len
  have := he.ins
  omega
theorem filt_lt {α : Type} {l : List α} {f g : α → Bool} (h : l.filter f ≠ []) (hg : ∀ x ∈ l, f x = true → g x = false) : (l.filter g).length < l.length := by
  rcases Nat.lt_or_ge (l.filter g).length l.length with h1 | h1
  · exact h1
  · exfalso
    have h2 : (l.filter g).length = l.length := Nat.le_antisymm (List.length_filter_le _ _) h1
    have h3 := List.length_filter_eq_length_iff.mp h2
    obtain ⟨x, hx⟩ := List.exists_mem_of_ne_nil _ h
    obtain ⟨hx1, hx2⟩ := List.mem_filter.mp hx
    have := hg x hx1 hx2
    rw [h3 x hx1] at this
    cases this
theorem rounds_fuel (e : EX) : ∀ (n m : Nat) (left ranks : List Sh), left.length < n → left.length < m → rounds e n left ranks = rounds e m left ranks
  | 0, _, _, _, h, _ => absurd h (Nat.not_lt_zero _)
  | _, 0, _, _, _, h => absurd h (Nat.not_lt_zero _)
  | n + 1, m + 1, left, ranks, h1, h2 => by
    rw [rounds, rounds]
    by_cases h : left.filter (fallsOf e ranks) = []
    · rw [if_pos h, if_pos h]
    · rw [if_neg h, if_neg h]
      have := filt_lt (g := fun s => !decide (s ∈ left.filter (fallsOf e ranks))) h fun x hx hf => by
        have : x ∈ left.filter (fallsOf e ranks) := List.mem_filter.mpr ⟨hx, hf⟩
        simp [this]
      exact rounds_fuel e n m _ _ (by omega) (by omega)
theorem rounds_go {e : EX} {left ranks : List Sh} (h : left.filter (fallsOf e ranks) ≠ []) : rounds e (left.length + 1) left ranks = rounds e ((left.filter fun s => !decide (s ∈ left.filter (fallsOf e ranks))).length + 1) (left.filter fun s => !decide (s ∈ left.filter (fallsOf e ranks))) (ranks ++ left.filter (fallsOf e ranks)) := by
  have := filt_lt (g := fun s => !decide (s ∈ left.filter (fallsOf e ranks))) h fun x hx hf => by
    have : x ∈ left.filter (fallsOf e ranks) := List.mem_filter.mpr ⟨hx, hf⟩
    simp [this]
  rw [rounds, if_neg h]
  exact rounds_fuel e _ _ _ _ (by omega) (by omega)
theorem filt_two {α : Type} {f g : α → Bool} : ∀ {l : List α}, (∀ x ∈ l, f x = true → g x = false) → (l.filter f).length + (l.filter g).length ≤ l.length
  | [], _ => by simp
  | x :: l, h => by
    have ih := filt_two (l := l) fun y hy => h y (List.mem_cons_of_mem _ hy)
    rw [List.filter_cons, List.filter_cons]
    by_cases hf : f x = true
    · rw [if_pos hf, h x (List.mem_cons_self ..) hf, if_neg Bool.false_ne_true, List.length_cons, List.length_cons]; omega
    · rw [if_neg hf]
      split <;> simp only [List.length_cons] <;> omega
theorem dput_len {κ ν : Type} [DecidableEq κ] (d : List (κ × ν)) (k : κ) (v : ν) : (dput d k v).length ≤ d.length + 1 := by
  unfold dput
  split
  · rw [List.length_map]; omega
  · rw [List.length_append]; exact Nat.le_refl _
abbrev uns (l : List Sh) : List (Sh × Unit) := l.map fun s => (s, ())
theorem uns_keys (l : List Sh) : (uns l).map (·.1) = l := by rw [List.map_map]; exact List.map_id'' (fun _ => rfl) l
theorem uns_app (l m : List Sh) : uns (l ++ m) = uns l ++ uns m := List.map_append
instance : Mon Rmov := ⟨fun _ h => h⟩
section
variable {P : Program} {w : World} {K : PySem.W.Frag} {mg : Str → Option Value} {base : Heap} {σ : L2.St} {H : Hp} {ta tb tc : TE} {e : EX}
abbrev Rstp : Rp (List (Ct.P × List NX) × List EN) := Rpr (Rlst Rcf) (Rlst Rend)
theorem look_map {α κ ν : Type} [DecidableEq κ] {l : List α} (g : α → κ) (f : α → ν) (hnd : (l.map g).Nodup) {x : α} (hx : x ∈ l) : look (l.map fun x => (g x, f x)) (g x) = some (f x) := by
  induction l with
  | nil => cases hx
  | cons y l ih =>
    rw [List.map_cons, List.nodup_cons] at hnd
    by_cases h : g y = g x
    · rcases List.mem_cons.mp hx with rfl | hx
      · simp [look]
      · exact absurd (by rw [h]; exact List.mem_map_of_mem hx) hnd.1
    · rcases List.mem_cons.mp hx with rfl | hx
      · exact absurd rfl h
      · have := ih hnd.2 hx
        unfold look at this ⊢
        rw [List.map_cons, List.find?_cons]
        simp only [h, decide_false]
        exact this
theorem et_notN {b : Bool} (h : ET ta σ H Rmov b) : ET (tOp (fun x y H Q => y = .non ∧ Q (.bl (!decide (x = .non))) H) ta (tC .non)) σ H Rb b := fun H1 e Q q =>
  h H1 e _ fun v H2 e2 r => ⟨rfl, by
    refine q _ H2 e2 ?_
    show V.bl _ = V.bl _
    cases b with
    | true => unfold Rmov at r; rw [if_pos rfl] at r; obtain ⟨p, rfl⟩ := r; rfl
    | false => unfold Rmov at r; rw [if_neg Bool.false_ne_true] at r; subst r; rfl⟩
theorem ev_not {t : TT} {b : Bool} (h : EvT t σ H b) : EvT (tNot t) σ H (!b) := fun H1 e Q q => h H1 e _ fun H2 e2 => q H2 e2
def spFallen (P : Program) (w : World) (K : PySem.W.Frag) : Sp := fun vs H Q _ => ∃ (v1 : V) (e : EX), vs = [v1] ∧ RX K H v1 e ∧ AOk e ∧ ∀ t u1 u2 u3 xs rk H', Ex H H' → H' t = some (.tup [.ref u1, .ref u2, u3]) → H' u1 = some (.lst xs) → Paired (Rsh H') xs (allShapes e) → RXd P w H' (.ref u2) rk → rk.map (·.1) = fallen e → Q (.ref t) H'
theorem lenFallen {n : Nat} (hn : n = 1) : ∀ vs H Q E, spFallen P w K vs H Q E → vs.length = n := fun _ _ _ _ ⟨_, _, h, _⟩ => by rw [h, hn]; rfl
theorem sc_fallen : FnScope ["exchange", "shapes", "steps", "ranks", "moves", "turn", "left", "found", "one", "move"] ["exchange"] (defScope s_fallen) := ⟨rfl, rfl, rfl, by decide +kernel, rfl, by decide +kernel, by decide +kernel⟩
set_option maxHeartbeats 8000000 in
theorem ok_fallen (T : Txt K mg) (c_all_shapes : GW.CalW P w K mg base 31 "all_shapes" (Sp1L (RX K) Rsh AOk allShapes)) : GW.CalW P w K mg base 32 "fallen" (spFallen P w K) := by
  refine GW.calw_of T.d_fallen (fun _ _ _ _ _ _ us hl => match us, hl with | [_], _ => rfl) sc_fallen (lenFallen rfl) (fun cdv f A outer s H vs Q hr h => ?_)
  have hu := hr.units
  have c_calls_from := ok_calls_from (P := P) (w := w) (base := base) T
  have c_ends_of := ok_ends_of (P := P) (w := w) (base := base) T
  have c_falling_move := ok_falling_move (P := P) (w := w) (base := base) T
  obtain ⟨v1, e, rfl, r1, ha, q⟩ := h
  refine ⟨_, (GW.wss_cons (GW.ws_set (i := 1) sc_fallen.nd rfl (Or.inl rfl) (GW.we_c c_all_shapes hr (by decide) (by rfl) (pa_cons (pv 0) pa_nil)))
    (GW.wss_of (pss_cons (ps_setXc (i := 2) (own := [("one", 8)]) (g := (gName 8)) (tt := tYes) hu rfl sc_fallen.nd rfl rfl (swX_true rfl rfl rfl (by decide +kernel)) (k_piL K (pv 1)) (blkOk_by (own := [("one", 8)]) (N := ["exchange", "shapes", "steps", "ranks", "moves", "turn", "left", "found", "one", "move"]) (sc := defScope s_fallen) (by decide +kernel)) (fun _ _ _ _ _ => (pg_name (i := 8) sc_fallen.nd rfl (Or.inl rfl))) (fun _ _ _ _ _ => pts_nil) (fun _ _ _ _ _ => (pv 8)) (fun _ _ _ _ _ => (pe_tup (pa_cons (C8.pe_c c_calls_from hr (by decide) (by rfl) (pa_cons (pv 0) (pa_cons (pv 8) pa_nil))) (pa_cons (C8.pe_c c_ends_of hr (by decide) (by rfl) (pa_cons (pv 8) pa_nil)) pa_nil)))))
    (pss_cons (ps_set (i := 3) sc_fallen.nd rfl (Or.inl rfl) (k_dnew P w))
    (pss_cons (ps_set (i := 4) sc_fallen.nd rfl (Or.inl rfl) (k_dnew P w))
    (pss_cons (ps_set (i := 5) sc_fallen.nd rfl (Or.inl rfl) pe_int)
    (pss_cons (ps_set (i := 6) sc_fallen.nd rfl (Or.inl rfl) (pv 1))
    (pss_one (ps_while PassesOwn.never (pt_val pe_bl)
      (pss_cons (ps_set (i := 7) sc_fallen.nd rfl (Or.inr rfl) (k_dnew P w))
      (pss_cons (ps_for PassesOwn.never rfl (k_piL K (pv 6)) (pg_name (i := 8) sc_fallen.nd rfl (Or.inl rfl))
        (pss_cons (ps_set (i := 9) sc_fallen.nd rfl (Or.inl rfl) (C8.pe_c c_falling_move hr (by decide) (by rfl) (pa_cons (pe_ix (k_ixT K) (pe_ix (k_ixX P w hu) (pv 2) (pv 8) (fun _ _ => rfl)) pe_int (fun _ _ => rfl)) (pa_cons (pe_ix (k_ixT K) (pe_ix (k_ixX P w hu) (pv 2) (pv 8) (fun _ _ => rfl)) pe_int (fun _ _ => rfl)) (pa_cons (pv 3) pa_nil)))))
        (pss_one (ps_if (pt_cmpR op_notN (pv 9) pe_non (nomark _))
          (pss_one (ps_asg (pv 9) (pg_sub (pv 7) (pv 8) (k_setX P w hu)))) pss_nil))))
      (pss_cons (ps_if (pt_not (pt_truthR (pv 7) (k_truX P w) (by intro _; rfl)))
        (pss_one (ps_ret (pe_tup (pa_cons (pv 1) (pa_cons (pv 3) (pa_cons (pv 4) pa_nil)))))) pss_nil)
      (pss_cons (ps_lock (ps_for PassesOwn.never rfl (k_piX P w (pv 7)) (pg_name (i := 8) sc_fallen.nd rfl (Or.inl rfl))
        (pss_cons (ps_asg (pv 5) (pg_sub (pv 3) (pv 8) (k_setX P w hu)))
        (pss_one (ps_asg (pe_ix (k_ixX P w hu) (pv 7) (pv 8) (fun _ _ => rfl)) (pg_sub (pv 4) (pv 8) (k_setX P w hu)))))))
      (pss_cons (ps_setLc (i := 6) (own := [("one", 8)]) (g := (gName 8)) rfl sc_fallen.nd rfl rfl (sw_true rfl rfl rfl (by decide +kernel)) (k_piL K (pv 6)) (blkOk_by (own := [("one", 8)]) (N := ["exchange", "shapes", "steps", "ranks", "moves", "turn", "left", "found", "one", "move"]) (sc := defScope s_fallen) (by decide +kernel)) (fun _ _ _ _ _ => (pg_name (i := 8) sc_fallen.nd rfl (Or.inl rfl))) (fun _ _ _ _ _ => (pts_one (pt_cmpR (k_ninX P w hu) (pv 8) (pv 7) rfl))) (fun _ _ _ _ _ => (pv 8)))
      (pss_one (ps_aug (i := 5) sc_fallen.nd rfl (Or.inl rfl) pe_int ip_add)))))))))))))))), ?_⟩
  have he := ha.ok
  let S := allShapes e
  have hS : S.length ≤ 1000 := ha.few
  -- shapes, steps
  refine k_setL (R := Rsh) (l := S) (el_call1 (et_var rfl r1) ha) fun ps xs H1 hn1 e1 hps hxs => ?_
  refine k_setX' (R := Rsh) (S := Rstp) (d := S.map fun s => (s, (callsFrom e s, endsOf s))) (ex_mapN (R0 := Rsh) (l := S) (fun s => s) (fun s => (callsFrom e s, endsOf s)) (ei_list (et_var rfl ⟨ps, xs, rfl, hps, hxs⟩)) (by omega) (by rw [List.map_id'' (fun _ => rfl)]; exact ha.nd) (fun _ => rfl) fun v s Hx hm ex rx => ⟨et_var rfl rx, fun H2 e2 => ?_⟩) fun pt xt H2 hn2 e2 hpt hxt => ?_
  · have hs := ha.sh s hm
    exact et_pr (el_call2 (et_var rfl (up ((e1.trans ex).trans e2) r1)) (et_var rfl (up e2 rx)) ⟨he, hs⟩).et (el_call1 (et_var rfl (up e2 rx)) (hs.small he)).et
  have rst : Rdc P w Rsh Rstp H2 (.ref pt) (S.map fun s => (s, (callsFrom e s, endsOf s))) := ⟨pt, xt, rfl, .inl hpt, hxt⟩
  have hlook : ∀ s ∈ S, look (S.map fun s => (s, (callsFrom e s, endsOf s))) s = some (callsFrom e s, endsOf s) := fun s hs => look_map (fun s => s) (fun s => (callsFrom e s, endsOf s)) (by rw [List.map_id'' (fun _ => rfl)]; exact ha.nd) hs
  have e02 := e1.trans e2
  have hps2 := e2 _ _ hps
  have hxs2 := pup e2 hxs
  refine k_dnewX (R := Rsh) (S := Rany) fun p3 H3 hn3 m3 e3 => ?_
  refine k_dnewX (R := Rsh) (S := Rany) fun p4 H4 hn4 m4 e4 => ?_
  have n34 : p3 ≠ p4 := fun z => by obtain ⟨_, _, h, _⟩ := m3; rw [z, hn4] at h; cases h
  have hn4' : H2 p4 = none := fresh_back e3 hn4
  have m3 : MkX P w H2 Rsh Rany p3 [] H4 := m3.ex e4
  have m4 : MkX P w H2 Rsh Rany p4 [] H4 := by obtain ⟨e0, r⟩ := m4; exact ⟨e3.trans e0, r⟩
  have eS : fallen e = rounds e (S.length + 1) S [] := rfl
  refine k_set (R := Ri) (x := 0) et_int fun v5 H5 e5 r5 => ?_
  cases r5
  refine k_set (R := Rlst Rsh) (x := S) (et_var rfl ⟨ps, xs, rfl, e5 _ _ (e4 _ _ (e3 _ _ hps2)), pup ((e3.trans e4).trans e5) hxs2⟩) fun v6 H6 e6 r6 => ?_
  have m3 := m3.ex (e5.trans e6)
  have m4 := m4.ex (e5.trans e6)
  let Wn : Nat → L2.St → Hp → Prop := fun m σ' H' => ∃ (turn : Int) (al : Addr) (xl : List V) (left ranks : List Sh) (mv : List (Sh × Unit)) (a7 a8 a9 : Option V),
    σ' = [some v1, some (.ref ps), some (.ref pt), some (.ref p3), some (.ref p4), some (.int turn), some (.ref al), a7, a8, a9] ∧ H' al = some (.lst xl) ∧ Paired (Rsh H') xl left ∧
    MkX P w H2 Rsh Rany p3 (uns ranks) H' ∧ MkX P w H2 Rsh Rany p4 mv H' ∧ rounds e (left.length + 1) left ranks = fallen e ∧ (ranks ++ left).Nodup ∧ (∀ s ∈ left, s ∈ S) ∧ ranks.length + left.length ≤ S.length ∧ mv.length ≤ ranks.length ∧ left.length = m
  obtain ⟨al0, xl0, rfl, hal0, hxl0⟩ := r6
  refine ⟨Wn, ⟨S.length, 0, al0, xl0, S, [], [], none, none, none, rfl, hal0, hxl0, m3, m4, rfl, by simpa using ha.nd, fun _ h => h, by simp, by simp, rfl⟩, ?_⟩
  clear hal0 hxl0 m3 m4
  rintro m σ' H' ⟨turn, al, xl, left, ranks, mv, a7, a8, a9, rfl, hal, hxl, m3, m4, hro, hnd, hsub, hcnt, hmv, rfl⟩
  refine ⟨true, rfl, ?_⟩
  refine ⟨fun σ'' H'' => ∃ m', m' < left.length ∧ Wn m' σ'' H'', fun _ _ h => h, ?_⟩
  let f := fallsOf e ranks
  let fs := left.filter f
  have ndl : left.Nodup := (List.nodup_append.mp hnd).2.1
  have dis : ∀ s ∈ left, s ∉ ranks := fun s hs hr => (List.nodup_append.mp hnd).2.2 s hr s hs rfl
  have hll : left.length ≤ 1000 := by omega
  have hfl : fs.length ≤ left.length := List.length_filter_le _ _
  refine k_dnewX (R := Rsh) (S := Rany) fun p7 H7 hn7 m7 e7 => ?_
  have b0 : Ex H2 H' := m3.1
  have hn7' : H2 p7 = none := fresh_back b0 hn7
  have n37 : p3 ≠ p7 := fun z => by obtain ⟨_, _, h3, _⟩ := id m3; rw [z, hn7] at h3; cases h3
  have n47 : p4 ≠ p7 := fun z => by obtain ⟨_, _, h3, _⟩ := id m4; rw [z, hn7] at h3; cases h3
  have rx0 := up (e02.trans b0) r1
  have rst0 := up b0 rst
  -- found
  refine j_forLv (R := Rsh) (l := left) (a := al) (xs := xl) (D := { nx := _, rt := _, bk := _, ct := _ }) rfl (e7 _ _ hal) (pup e7 hxl) (fun i σ' Hf => ∃ (b8 b9 : Option V), σ' = [some v1, some (.ref ps), some (.ref pt), some (.ref p3), some (.ref p4), some (.int turn), some (.ref al), some (.ref p7), b8, b9] ∧ MkX P w H' Rsh Rany p7 (uns ((left.take i).filter f)) Hf) ⟨a8, a9, rfl, m7⟩ ?_ ?_ ?_
  · rintro i σ' Hf hi ⟨b8, b9, rfl, mf⟩
    exact ⟨mf.1 _ _ hal, pup mf.1 hxl⟩
  · rintro i s v σ' Hf hxi ⟨b8, b9, rfl, mf⟩ rs
    have hm := List.mem_of_getElem? hxi
    have eF : fallsOf e ranks s = falls (callsFrom e s) (endsOf s) ((uns ranks).map (·.1)) := by rw [uns_keys]; rfl
    refine k_set (R := Rmov) (et_call3 (et_p0 (et_ixX (et_var rfl (up mf.1 rst0)) (et_var rfl rs) (hlook s (hsub s hm)))) (et_p1 (et_ixX (et_var rfl (up mf.1 rst0)) (et_var rfl rs) (hlook s (hsub s hm)))) (et_var rfl (m3.ex mf.1).dc) ?_) fun u H8 e8 r8 => ?_
    · intro c hc
      obtain ⟨p, _, rfl⟩ := List.mem_map.mp hc
      exact Nat.le_trans (next_len s p) (by have := (ha.sh s (hsub s hm)).small he; omega)
    · have r8 : Rmov H8 u (f s) := by show Rmov H8 u (fallsOf e ranks s); rw [eF]; exact r8
      have tk : (left.take (i + 1)).filter f = (left.take i).filter f ++ if f s = true then [s] else [] := by
        rw [take_one hxi, List.filter_append]
        cases hfs : f s <;> simp [hfs]
      refine j_when (b := f s) (eB (et_notN (et_var rfl r8))) (fun hb H9 e9 => ?_) (fun hb H9 e9 => ?_)
      · rw [if_pos hb] at tk
        have hnew : s ∉ (uns ((left.take i).filter f)).map (·.1) := by
          rw [uns_keys]
          intro hc
          have h3 : (left.take (i + 1)).Nodup := List.Nodup.sublist (List.take_sublist _ _) ndl
          rw [take_one hxi, List.nodup_append] at h3
          exact h3.2.2 _ (List.mem_filter.mp hc).1 _ (List.mem_singleton.mpr rfl) rfl
        refine MkX.set (v := ()) (mf.ex (e8.trans e9)) hn7 ?_ (et_var rfl trivial) (ev_var rfl) (et_var rfl (up (e8.trans e9) rs)) fun H10 m10 t10 x10 => ⟨_, _, rfl, ?_⟩
        · rw [List.length_map]
          have := List.length_filter_le f (left.take i)
          rw [List.length_take] at this
          omega
        · rw [tk, uns_app]
          rw [dput_new hnew] at m10
          exact m10
      · rw [if_neg (by rw [hb]; exact Bool.false_ne_true), List.append_nil] at tk
        refine ⟨_, _, rfl, ?_⟩
        rw [tk]
        exact mf.ex (e8.trans e9)
  · rintro σ' Hf ⟨b8, b9, rfl, mf⟩
    rw [List.take_length] at mf
    have mf : MkX P w H' Rsh Rany p7 (uns fs) Hf := mf
    have m3f := m3.ex mf.1
    refine k_when (b := !(!(uns fs).isEmpty)) (ev_not (et_truX (et_var rfl mf.dc))) (fun hb H9 e9 => ?_) (fun hb H9 e9 => ?_)
    · have hfs : fs = [] := by
        cases hq : fs with
        | nil => rfl
        | cons a b => rw [hq] at hb; cases hb
      have e9' := mf.1.trans e9
      refine j_ret (D := { nx := _, rt := Q, bk := _, ct := _ }) (et_tr (R := Rlst Rsh) (S := RXd P w) (T := Rany) (x := S) (y := uns ranks) (z := ()) (et_var rfl ⟨ps, xs, rfl, e9' _ _ (b0 _ _ hps2), pup (b0.trans e9') hxs2⟩) (et_var rfl (m3.ex e9').dc) (et_var rfl trivial)) fun u H10 e10 r10 => ?_
      obtain ⟨t, w1, w2, w3, rfl, ht, ⟨u1, xs1, rfl, h1, hx1⟩, h2, _⟩ := r10
      obtain ⟨u2, xs2, rfl, h2'⟩ := id h2
      refine q t u1 u2 w3 xs1 (uns ranks) H10 (((e02.trans b0).trans e9').trans e10) ht h1 hx1 h2 ?_
      rw [uns_keys, ← hro, rounds, if_pos hfs]
    · have hfs : left.filter (fallsOf e ranks) ≠ [] := fun z => by
        have : fs = [] := z
        rw [this] at hb; cases hb
      obtain ⟨ef, x7, h7, hx7⟩ := mf.ex e9
      have b9' : Ex H2 H9 := b0.trans ef
      refine ⟨p7, dOb P w p7 x7, h7, trivial, fun od => ?_⟩
      have tL : Tu H9 (upd H9 p7 (.frz od (dOb P w p7 x7))) := tups_mut h7 fun _ z => dOb_tup _ z
      have xL : Xb p7 H9 (upd H9 p7 (.frz od (dOb P w p7 x7))) := fun c o hc h => by rw [upd_ne hc]; exact h
      have bL : Ex H2 (upd H9 p7 (.frz od (dOb P w p7 x7))) := Ex.mut b9' hn7'
      have m3L := (m3.ex ef).weakX n37 xL tL bL
      have m4L := (m4.ex ef).weakX n47 xL tL bL
      have alL : (upd H9 p7 (.frz od (dOb P w p7 x7))) al = some (.lst xl) := by
        rw [upd_ne (fun z => by rw [z] at hal; rw [hn7] at hal; cases hal)]; exact ef _ _ hal
      have hxL : Paired (EntIs Rsh Rany (upd H9 p7 (.frz od (dOb P w p7 x7)))) x7 (uns fs) := EntIs.mon.pr_imp' hx7 fun _ _ r => ⟨r.1, imm tL r.2.1, trivial⟩
      have lL : Paired (Rsh (upd H9 p7 (.frz od (dOb P w p7 x7)))) xl left := pr_imp (pup ef hxl) fun _ _ r => imm tL r
      have hpL : (upd H9 p7 (.frz od (dOb P w p7 x7))) p7 = some (.frz od (dOb P w p7 x7)) := upd_same
      generalize upd H9 p7 (.frz od (dOb P w p7 x7)) = HL at tL xL bL m3L m4L alL hxL lL hpL
      have l7 : x7.length = fs.length := by rw [pr_len hxL, List.length_map]
      refine ⟨.ref p7, rfl, p7, od, x7, rfl, hpL, for_it (walk_keysX) (fun i σ' Hg => ∃ (b8 : Option V) (mv' : List (Sh × Unit)), σ' = [some v1, some (.ref ps), some (.ref pt), some (.ref p3), some (.ref p4), some (.int turn), some (.ref al), some (.ref p7), b8, b9] ∧ Hg p7 = some (.frz od (dOb P w p7 x7)) ∧ Hg al = some (.lst xl) ∧ Ex H2 Hg ∧ Tu HL Hg ∧ MkX P w H2 Rsh Rany p3 (uns (ranks ++ fs.take i)) Hg ∧ MkX P w H2 Rsh Rany p4 mv' Hg ∧ mv'.length ≤ ranks.length + i) ⟨b8, mv, rfl, hpL, alL, bL, Tu.refl _, by simpa using m3L, m4L, by omega⟩ ?_ ?_ ?_⟩
      · rintro i σ' Hg hi ⟨b8, mv', rfl, hz, _⟩
        exact hz
      · rintro i v σ' Hg0 Hg hi ⟨b8, mv', rfl, hz, halg, eg, tg, m3g, m4g, hmg⟩ ⟨rfl, hv⟩
        rw [List.getElem?_map] at hv
        cases hxi : x7[i]? with
        | none => rw [hxi] at hv; cases hv
        | some en =>
          rw [hxi] at hv
          have hv : V.ref en.2.1 = v := by injection hv
          subst hv
          obtain ⟨kv, hkv, hen⟩ := pr_get hxL hxi
          rw [List.getElem?_map] at hkv
          cases hfi : fs[i]? with
          | none => rw [hfi] at hkv; cases hkv
          | some s =>
            rw [hfi] at hkv
            have hkv : (s, ()) = kv := by injection hkv
            subst hkv
            have rs : Rsh Hg (.ref en.2.1) s := imm tg hen.2.1
            have hms : s ∈ fs := List.mem_of_getElem? hfi
            have hml : s ∈ left := (List.mem_filter.mp hms).1
            have ndf : fs.Nodup := List.Nodup.sublist List.filter_sublist ndl
            have hil : i < fs.length := by rw [← l7]; exact hi
            refine MkX.set (D0 := { nx := _, rt := _, bk := _, ct := _ }) (k := s) (v := ()) m3g (fresh_back (Ex.refl _) hn3) ?_ (et_var rfl trivial) (ev_var rfl) (et_var rfl rs) fun Ha ma ta xa => ?_
            · rw [List.length_map, List.length_append, List.length_take]
              omega
            · have hzp : Ha p7 = some (.frz od (dOb P w p7 x7)) := xa _ _ n37.symm hz
              have m4a := m4g.weakX n34.symm xa ta ma.1
              have nal : al ≠ p3 := fun z => by obtain ⟨_, _, h3, _⟩ := id m3g; rw [← z, halg] at h3; cases h3
              have hala : Ha al = some (.lst xl) := xa _ _ nal halg
              have nal4 : al ≠ p4 := fun z => by obtain ⟨_, _, h3, _⟩ := id m4g; rw [← z, halg] at h3; cases h3
              have hnew : s ∉ (uns (ranks ++ fs.take i)).map (·.1) := by
                rw [uns_keys]
                intro hc
                rcases List.mem_append.mp hc with hc | hc
                · exact dis s hml hc
                · have h3 : (fs.take (i + 1)).Nodup := List.Nodup.sublist (List.take_sublist _ _) ndf
                  rw [take_one hfi, List.nodup_append] at h3
                  exact h3.2.2 _ hc _ (List.mem_singleton.mpr rfl) rfl
              rw [dput_new hnew] at ma
              have ma : MkX P w H2 Rsh Rany p3 (uns (ranks ++ fs.take (i + 1))) Ha := by
                rw [take_one hfi, ← List.append_assoc, uns_app]; exact ma
              have rf : Rdc P w Rsh Rany Ha (.ref p7) (uns fs) := ⟨p7, x7, rfl, .inr ⟨od, hzp⟩, EntIs.mon.pr_imp' hxL fun _ _ r => ⟨r.1, imm (tg.trans ta) r.2.1, trivial⟩⟩
              refine MkX.set (k := s) (v := ()) m4a hn4' ?_ (et_ixX (et_var rfl rf) (et_var rfl (imm ta rs)) (look_map (fun s => s) (fun _ => ()) (by rw [List.map_id'' (fun _ => rfl)]; exact ndf) hms)) (ev_var rfl) (et_var rfl (imm ta rs)) fun Hb mb tb xb => ⟨_, _, rfl, xb _ _ n47.symm hzp, xb _ _ nal4 hala, mb.1, (tg.trans ta).trans tb, ma.weakX n34 xb tb mb.1, mb, ?_⟩
              · omega
              · have := dput_len mv' s ()
                omega
      · rintro σ' Hg ⟨b8, mv', rfl, hz, halg, eg, tg, m3g, m4g, hmg⟩
        refine ⟨hz, ?_⟩
        have tU : Tu Hg (upd Hg p7 (dOb P w p7 x7)) := tups_mut hz fun _ z => by cases z
        have xU : Xb p7 Hg (upd Hg p7 (dOb P w p7 x7)) := fun c o hc h => by rw [upd_ne hc]; exact h
        have bU : Ex H2 (upd Hg p7 (dOb P w p7 x7)) := Ex.mut eg hn7'
        have m3U := m3g.weakX n37 xU tU bU
        have m4U := m4g.weakX n47 xU tU bU
        have alU : (upd Hg p7 (dOb P w p7 x7)) al = some (.lst xl) := by
          rw [upd_ne (fun z => by rw [z] at hal; rw [hn7] at hal; cases hal)]; exact halg
        have hxU : Paired (EntIs Rsh Rany (upd Hg p7 (dOb P w p7 x7))) x7 (uns fs) := EntIs.mon.pr_imp' hxL fun _ _ r => ⟨r.1, imm (tg.trans tU) r.2.1, trivial⟩
        have lU : Paired (Rsh (upd Hg p7 (dOb P w p7 x7))) xl left := pr_imp lL fun _ _ r => imm (tg.trans tU) r
        have hpU : (upd Hg p7 (dOb P w p7 x7)) p7 = some (dOb P w p7 x7) := upd_same
        generalize upd Hg p7 (dOb P w p7 x7) = HU at tU xU bU m3U m4U alU hxU lU hpU
        rw [l7, List.take_length] at m3U
        rw [l7] at hmg
        refine k_setL (R := Rsh) (l := left.filter fun s => !decide (s ∈ fs)) ((el_lcN (fun s => !decide (s ∈ (uns fs).map (·.1))) (fun s => s) (ei_list (et_var rfl ⟨al, xl, rfl, alU, lU⟩)) (by omega) (fun _ => rfl) fun v s Hx hm ex rx => ⟨eB (et_ninX (et_var rfl rx) (et_var rfl (up ex (show Rdc P w Rsh Rany HU (.ref p7) (uns fs) from ⟨p7, x7, rfl, .inl hpU, hxU⟩)))), fun _ => et_var rfl rx⟩).is (by rw [uns_keys, List.map_id'' (fun _ => rfl)])) fun al2 xl2 H10 hn10 e10 hal2 hxl2 => ?_
        refine ⟨.int turn, rfl, turn, 1, rfl, rfl, ?_⟩
        have hlt : (left.filter fun s => !decide (s ∈ fs)).length < left.length := filt_lt (f := f) (g := fun s => !decide (s ∈ fs)) hfs fun x hx hf => by
          have : x ∈ fs := List.mem_filter.mpr ⟨hx, hf⟩
          simp [this]
        have hsum : fs.length + (left.filter fun s => !decide (s ∈ fs)).length ≤ left.length := filt_two fun x hx hf => by
          have : x ∈ fs := List.mem_filter.mpr ⟨hx, hf⟩
          simp [this]
        refine ⟨_, hlt, turn + 1, al2, xl2, _, ranks ++ fs, mv', _, _, _, rfl, hal2, hxl2, m3U.ex e10, m4U.ex e10, ?_, ?_, fun s hs => hsub s (List.mem_filter.mp hs).1, ?_, ?_, rfl⟩
        · rw [← hro]; exact (rounds_go hfs).symm
        · have hr := (List.nodup_append.mp hnd).1
          refine List.nodup_append.mpr ⟨List.nodup_append.mpr ⟨hr, List.Nodup.sublist List.filter_sublist ndl, fun a ha b hb hab => ?_⟩, List.Nodup.sublist List.filter_sublist ndl, fun a ha b hb hab => ?_⟩
          · subst hab; exact dis a (List.mem_filter.mp hb).1 ha
          · subst hab
            obtain ⟨hb1, hb2⟩ := List.mem_filter.mp hb
            rcases List.mem_append.mp ha with ha | ha
            · exact dis a hb1 ha
            · simp [ha] at hb2
        · rw [List.length_append]; omega
        · rw [List.length_append]; omega
end
end Ct
/-! # The walks: keeper -/
namespace Ct
open PySem PySem.Spec PyProof.Rows L2 Evl
theorem Xb.tl {P : Program} {w : World} {H H' : Hp} {D : Addr} {xs : List Ent} (x : Xb D H H') (h : H D = some (dOb P w D xs)) : Tl H H' :=
  ⟨fun b ys e => x b _ (fun z => by rw [z, h] at e; cases e) e, fun b ys e => x b _ (fun z => by rw [z, h] at e; cases e) e⟩
theorem Tl.trans {H H1 H2 : Hp} (a : Tl H H1) (b : Tl H1 H2) : Tl H H2 := ⟨a.1.trans b.1, fun c xs h => b.2 c xs (a.2 c xs h)⟩
theorem Tl.ex {H H' : Hp} (e : Ex H H') : Tl H H' := ⟨Tu.ex e, fun b _ h => e b _ h⟩
theorem Tl.refl (H : Hp) : Tl H H := Tl.ex (Ex.refl _)
/-! plain: the pairs are all different -/
theorem pairsOf_nodup (nI nO : Nat) : (pairsOf nI nO).Nodup := by
  unfold pairsOf
  refine List.pairwise_flatten.mpr ⟨fun l hl => ?_, ?_⟩
  · obtain ⟨i, _, rfl⟩ := List.mem_map.mp hl
    exact List.Pairwise.map _ (fun a b hab h => hab (by injection h with _ h; omega)) List.nodup_range
  · refine List.Pairwise.map _ (fun a b hab => ?_) List.nodup_range
    intro p hp q hq hpq
    obtain ⟨o, _, rfl⟩ := List.mem_map.mp hp
    obtain ⟨o', _, rfl⟩ := List.mem_map.mp hq
    injection hpq with h _
    omega
theorem openPairs_nodup (e : EX) (s : Sh) : (openPairs e s).Nodup := List.Nodup.sublist List.filter_sublist (pairsOf_nodup _ _)
theorem pairsOf_len (nI nO : Nat) : (pairsOf nI nO).length = nI * nO := by
  unfold pairsOf
  induction nI with
  | zero => simp
  | succ n ih => rw [List.range_succ, List.map_append, List.flatten_append, List.length_append, ih]; simp [Nat.succ_mul]
theorem openPairs_len {e : EX} (he : EOk e) (s : Sh) : (openPairs e s).length ≤ 16 := by
  refine Nat.le_trans (List.length_filter_le _ _) ?_
  unfold EX.pairs
  rw [pairsOf_len]
  exact Nat.mul_le_mul he.ins.2 he.outs.2
/-- what a call puts into the table -/
def rowOf (ranks : List Sh) (s : Sh) (c : P × List NX) : Option ((Sh × P) × Ld) := (goodLoads ranks c.2 ++ c.2.map (·.1)).head?.map fun l => ((s, c.1), l)
theorem tabOf_eq (e : EX) (ranks shapes : List Sh) : tabOf e ranks shapes = (shapes.map fun s => (callsFrom e s).filterMap (rowOf ranks s)).flatten := rfl
theorem row_key {ranks : List Sh} {s : Sh} {c : P × List NX} {x : (Sh × P) × Ld} (h : rowOf ranks s c = some x) : x.1 = (s, c.1) := by
  unfold rowOf at h
  cases hh : (goodLoads ranks c.2 ++ c.2.map (·.1)).head? with
  | none => rw [hh] at h; cases h
  | some l => rw [hh] at h; cases h; rfl
theorem tab_key {e : EX} {ranks shapes : List Sh} {x : (Sh × P) × Ld} (h : x ∈ tabOf e ranks shapes) : x.1.1 ∈ shapes := by
  rw [tabOf_eq] at h
  obtain ⟨l, hl, hx⟩ := List.mem_flatten.mp h
  obtain ⟨s, hs, rfl⟩ := List.mem_map.mp hl
  obtain ⟨c, _, hc⟩ := List.mem_filterMap.mp hx
  rw [row_key hc]; exact hs
theorem tabOf_len {e : EX} (he : EOk e) (ranks shapes : List Sh) : (tabOf e ranks shapes).length ≤ shapes.length * 16 := by
  rw [tabOf_eq]
  refine flat_len shapes fun s _ => ?_
  refine Nat.le_trans (List.length_filterMap_le _ _) ?_
  show (List.map _ _).length ≤ 16
  rw [List.length_map]
  exact openPairs_len he s
section
variable {P : Program} {w : World} {K : PySem.W.Frag} {mg : Str → Option Value} {base : Heap} {σ : L2.St} {H : Hp} {ta tb tc : TE} {e : EX}
def spKeeper (P : Program) (w : World) (K : PySem.W.Frag) : Sp := fun vs H Q _ => ∃ (v1 : V) (e : EX), vs = [v1] ∧ RX K H v1 e ∧ AOk e ∧ (emptyOf e ∈ fallen e → ∀ H', Ex H H' → Q .non H') ∧
  (emptyOf e ∉ fallen e → ∀ p xs H', H p = none → Ex H H' → H' p = some (dOb P w p xs) → Paired (EntIs Rsp Rld H') xs (tabOf e (fallen e) (allShapes e)) → Q (.ref p) H')
theorem lenKeeper {n : Nat} (hn : n = 1) : ∀ vs H Q E, spKeeper P w K vs H Q E → vs.length = n := fun _ _ _ _ ⟨_, _, h, _⟩ => by rw [h, hn]; rfl
theorem sc_keeper : FnScope ["exchange", "shapes", "ranks", "_", "table", "one", "pair", "nexts", "good", "load", "behind"] ["exchange"] (defScope s_keeper) := ⟨rfl, rfl, rfl, by decide +kernel, rfl, by decide +kernel, by decide +kernel⟩
theorem ok_keeper (T : Txt K mg) (c_all_shapes : GW.CalW P w K mg base 31 "all_shapes" (Sp1L (RX K) Rsh AOk allShapes)) : GW.CalW P w K mg base 33 "keeper" (spKeeper P w K) := by
  refine GW.calw_of T.d_keeper (fun _ _ _ _ _ _ us hl => match us, hl with | [_], _ => rfl) sc_keeper (lenKeeper rfl) (fun cdv f A outer s H vs Q hr h => ?_)
  have hu := hr.units
  have c_empty := ok_empty (P := P) (w := w) (base := base) T
  have c_calls_from := ok_calls_from (P := P) (w := w) (base := base) T
  have c_fallen := ok_fallen T c_all_shapes
  obtain ⟨v1, e, rfl, r1, ha, q1, q2⟩ := h
  refine ⟨_, (GW.wss_cons (GW.ws_asg (GW.we_c c_fallen hr (by decide) (by rfl) (pa_cons (pv 0) pa_nil)) (pg_tup rfl (pgs_cons (pg_name (i := 1) sc_keeper.nd rfl (Or.inl rfl)) (pgs_cons (pg_name (i := 2) sc_keeper.nd rfl (Or.inr rfl)) (pgs_cons (pg_name (i := 3) sc_keeper.nd rfl (Or.inl rfl)) pgs_nil)))))
    (GW.wss_of (pss_cons (ps_if (pt_cmpR (k_inX P w hu) (C8.pe_c c_empty hr (by decide) (by rfl) (pa_cons (pv 0) pa_nil)) (pv 2) rfl)
      (pss_one (ps_ret pe_non)) pss_nil)
    (pss_cons (ps_set (i := 4) sc_keeper.nd rfl (Or.inl rfl) (k_dnew P w))
    (pss_cons (ps_for PassesOwn.never rfl (k_piL K (pv 1)) (pg_name (i := 5) sc_keeper.nd rfl (Or.inl rfl))
      (pss_one (ps_for PassesOwn.never rfl (k_piL K (C8.pe_c c_calls_from hr (by decide) (by rfl) (pa_cons (pv 0) (pa_cons (pv 5) pa_nil)))) (pg_tup rfl (pgs_cons (pg_name (i := 6) sc_keeper.nd rfl (Or.inl rfl)) (pgs_cons (pg_name (i := 7) sc_keeper.nd rfl (Or.inl rfl)) pgs_nil)))
        (pss_cons (ps_setLc (i := 8) (own := [("load", 9), ("behind", 10)]) (g := (gTup K 2 (gCons (gName 9) (gCons (gName 10) gNil)))) rfl sc_keeper.nd rfl rfl (sw_true rfl rfl rfl (by decide +kernel)) (k_piL K (pv 7)) (blkOk_by (own := [("load", 9), ("behind", 10)]) (N := ["exchange", "shapes", "ranks", "_", "table", "one", "pair", "nexts", "good", "load", "behind"]) (sc := defScope s_keeper) (by decide +kernel)) (fun _ _ _ _ _ => (pg_tup rfl (pgs_cons (pg_name (i := 9) sc_keeper.nd rfl (Or.inl rfl)) (pgs_cons (pg_name (i := 10) sc_keeper.nd rfl (Or.inl rfl)) pgs_nil)))) (fun _ _ _ _ _ => (pts_one (pt_cmpR (k_ninX P w hu) (pv 10) (pv 2) rfl))) (fun _ _ _ _ _ => (pv 9)))
        (pss_one (ps_for PassesOwn.never rfl (k_piL K (pe_op op_cat (pv 8) (pe_lc (own := [("load", 9), ("_", 3)]) (g := (gTup K 2 (gCons (gName 9) (gCons (gName 3) gNil)))) (tt := tYes) rfl sc_keeper.nd (k_piL K (pv 7)) (blkOk_by (own := [("load", 9), ("_", 3)]) (N := ["exchange", "shapes", "ranks", "_", "table", "one", "pair", "nexts", "good", "load", "behind"]) (sc := defScope s_keeper) (by decide +kernel)) (fun _ _ _ _ _ => (pg_tup rfl (pgs_cons (pg_name (i := 9) sc_keeper.nd rfl (Or.inl rfl)) (pgs_cons (pg_name (i := 3) sc_keeper.nd rfl (Or.inl rfl)) pgs_nil)))) (fun _ _ _ _ _ => pts_nil) (fun _ _ _ _ _ => (pv 9))))) (pg_name (i := 9) sc_keeper.nd rfl (Or.inl rfl))
          (pss_one (ps_expr (pe_bmX PySem.F.slot_dict_setdefault PySem.F.type_dict_setdefault (k_sdfX P w hu) (pv 4) (pa_cons (pe_tup (pa_cons (pv 5) (pa_cons (pv 6) pa_nil))) (pa_cons (pv 9) pa_nil)))))))))))
    (pss_one (ps_ret (pv 4)))))))), ?_⟩
  have he := ha.ok
  refine ⟨v1, rfl, v1, e, rfl, r1, ha, fun t u1 u2 u3 xs rk H1 e1 ht hu1 hxs hrk hfk => ?_⟩
  refine ⟨t, [.ref u1, .ref u2, u3], rfl, st_of ht, rfl, .ref u1, [.ref u2, u3], rfl, .ref u2, [u3], rfl, u3, [], rfl, rfl, ?_⟩
  refine k_when (b := decide (emptyOf e ∈ rk.map (·.1))) (eB (et_inX (R := Rsh) (S := Rany) (k := emptyOf e) (d := rk) (et_call1 (et_var rfl (up e1 r1)) he) (et_var rfl hrk))) (fun hb H2 e2 => q1 (hfk ▸ of_decide_eq_true hb) _ (e1.trans e2)) (fun hb H2 e2 => ?_)
  have hne : emptyOf e ∉ fallen e := hfk ▸ of_decide_eq_false hb
  rw [← hfk] at q2
  have e02 := e1.trans e2
  have hrk2 := up e2 hrk
  have hu12 := e2 _ _ hu1
  have hxs2 := pup e2 hxs
  let ranks := rk.map (·.1)
  let S := allShapes e
  have hS : S.length ≤ 1000 := ha.few
  refine k_dnewX (R := Rsp) (S := Rld) fun D H3 hD m0 e3 => ?_
  have hD0 : H D = none := fresh_back e02 hD
  refine j_forLv (R := Rsh) (l := S) (a := u1) (xs := xs) (D := { nx := _, rt := _, bk := _, ct := _ }) rfl (e3 _ _ hu12) (pup e3 hxs2) (fun i σ' H' => ∃ (a5 a6 a7 a8 a9 a10 : Option V), σ' = [some v1, some (.ref u1), some (.ref u2), some u3, some (.ref D), a5, a6, a7, a8, a9, a10] ∧ MkX P w H2 Rsp Rld D (tabOf e ranks (S.take i)) H') ⟨none, none, none, none, none, none, rfl, by simpa [tabOf] using m0⟩ ?_ ?_ ?_
  · rintro i σ' H' hi ⟨a5, a6, a7, a8, a9, a10, rfl, m⟩
    exact ⟨m.1 _ _ hu12, pup m.1 hxs2⟩
  · rintro i s v σ' H' hxi ⟨a5, a6, a7, a8, a9, a10, rfl, m⟩ rs
    have hm := List.mem_of_getElem? hxi
    have hs := ha.sh s hm
    have hsS : s ∉ S.take i := fun hc => by
      have h3 : (S.take (i + 1)).Nodup := List.Nodup.sublist (List.take_sublist _ _) ha.nd
      rw [take_one hxi, List.nodup_append] at h3
      exact h3.2.2 _ hc _ (List.mem_singleton.mpr rfl) rfl
    have hlen0 := tabOf_len he ranks (S.take i)
    have hti : (S.take i).length ≤ 1000 := by rw [List.length_take]; omega
    refine j_forN (R := Rcf) (l := callsFrom e s) (D := { nx := _, rt := _, bk := _, ct := _ }) (el_call2 (et_var rfl (up (e02.trans m.1) r1)) (et_var rfl rs) ⟨he, hs⟩) fun al xl H4 hal0 e4 hal hxl => ?_
    have m4 := m.ex e4
    have rs4 : Rsh H4 v s := up e4 rs
    refine ⟨fun j σ' H' => ∃ (a6 a7 a8 a9 a10 : Option V), σ' = [some v1, some (.ref u1), some (.ref u2), some u3, some (.ref D), some v, a6, a7, a8, a9, a10] ∧ Tl H4 H' ∧ MkX P w H2 Rsp Rld D (tabOf e ranks (S.take i) ++ ((callsFrom e s).take j).filterMap (rowOf ranks s)) H', ⟨a6, a7, a8, a9, a10, rfl, Tl.refl _, by simpa using m4⟩, ?_, ?_, ?_⟩
    · rintro j σ' H' hj ⟨a6, a7, a8, a9, a10, rfl, t5, m5⟩
      exact ⟨t5.2 _ _ hal, lims t5 hxl⟩
    · rintro j c vc σ' H' hcj ⟨a6, a7, a8, a9, a10, rfl, t5, m5⟩ rc
      refine g_pair rc fun vp vn rp rn => ?_
      have hcm := List.mem_of_getElem? hcj
      have hc2 : c.2.length ≤ 1000 := by
        obtain ⟨p, _, rfl⟩ := List.mem_map.mp hcm
        exact Nat.le_trans (next_len s p) (by have := hs.small he; omega)
      let d0 := tabOf e ranks (S.take i) ++ ((callsFrom e s).take j).filterMap (rowOf ranks s)
      let L := goodLoads ranks c.2 ++ c.2.map (·.1)
      have hgl : (goodLoads ranks c.2).length ≤ c.2.length := by
        unfold goodLoads
        rw [List.length_map]
        exact List.length_filter_le _ _
      have hcl : (callsFrom e s).length ≤ 16 := by
        unfold callsFrom
        rw [List.length_map]
        exact openPairs_len he s
      have hd0 : d0.length ≤ 20000 := by
        rw [show d0.length = _ from List.length_append]
        have := List.length_filterMap_le (rowOf ranks s) ((callsFrom e s).take j)
        have h2 : ((callsFrom e s).take j).length ≤ 16 := by rw [List.length_take]; omega
        have h3 : (S.take i).length * 16 ≤ 1000 * 16 := Nat.mul_le_mul_right _ hti
        omega
      have hnew : (s, c.1) ∉ d0.map (·.1) := fun hc => by
        obtain ⟨x, hx, hxk⟩ := List.mem_map.mp hc
        rcases List.mem_append.mp hx with hx | hx
        · have := tab_key hx
          rw [hxk] at this
          exact hsS this
        · obtain ⟨c', hc', hr⟩ := List.mem_filterMap.mp hx
          have hk := row_key hr
          rw [hxk] at hk
          have hcc : c.1 = c'.1 := by injection hk
          have h3 : (((callsFrom e s).take (j + 1)).map (·.1)).Nodup := by
            rw [List.map_take]
            refine List.Nodup.sublist (List.take_sublist _ _) ?_
            unfold callsFrom
            rw [List.map_map, show ((fun x : Ct.P × List NX => x.1) ∘ fun p => (p, nextShapes s p)) = id from rfl, List.map_id]
            exact openPairs_nodup e s
          rw [take_one hcj, List.map_append, List.nodup_append] at h3
          exact h3.2.2 _ (List.mem_map_of_mem hc') _ (List.mem_singleton.mpr rfl) hcc.symm
      refine k_setL (R := Rld) (l := goodLoads ranks c.2) (el_lcP (R1 := Rld) (R2 := Rsh) (l := c.2) (fun n => !decide (n.2 ∈ ranks)) (fun n => n.1) (ei_list (et_var rfl rn)) (by omega) (fun _ _ => rfl) fun u2 v2 n Hx hn ex ru rv => ⟨eB (et_ninX (et_var rfl rv) (et_var rfl (up (m5.1.trans ex) hrk2))), fun _ => et_var rfl ru⟩) fun p8 x8 H6 hn8 e6 h8 hx8 => ?_
      refine j_forN (R := Rld) (l := L) (D := { nx := _, rt := _, bk := _, ct := _ }) (el_catL (et_var rfl ⟨p8, x8, rfl, h8, hx8⟩) (el_mapP (R1 := Rld) (R2 := Rsh) (l := c.2) (fun n => n.1) (ei_list (et_var rfl (up e6 rn))) (by omega) (fun _ _ => rfl) fun u2 v2 n Hx hn ex ru rv => et_var rfl ru).et (by rw [List.length_map]; omega)) fun p9 x9 H7 hn9 e7 h9 hx9 => ?_
      have m7 := m5.ex (e6.trans e7)
      have rp7 := up (e6.trans e7) rp
      have rs7 := imm (t5.1.trans (Tu.ex (e6.trans e7))) rs4
      refine ⟨fun k σ' H' => ∃ (a9 a10 : Option V), σ' = [some v1, some (.ref u1), some (.ref u2), some u3, some (.ref D), some v, some vp, some vn, some (.ref p8), a9, a10] ∧ Tl H7 H' ∧ MkX P w H2 Rsp Rld D (d0 ++ ((L.take k).head?.map fun l => ((s, c.1), l)).toList) H', ⟨_, _, rfl, Tl.refl _, by simpa using m7⟩, ?_, ?_, ?_⟩
      · rintro k σ' H' hk ⟨a9, a10, rfl, t8, m8⟩
        exact ⟨t8.2 _ _ h9, lims t8 hx9⟩
      · rintro k x vx σ' H' hxk ⟨a9, a10, rfl, t8, m8⟩ rx
        obtain ⟨_, xs8, h8', _⟩ := id m8
        refine MkX.sdf (k := (s, c.1)) (v := x) m8 hD ?_ (ev_var rfl) (et_pr (et_var rfl (imm t8.1 rs7)) (et_var rfl (imm t8.1 rp7))) (et_var rfl rx) fun H9 m9 t9 x9' => ⟨_, _, rfl, t8.trans (x9'.tl h8'), ?_⟩
        · rw [List.length_append]
          have : (((L.take k).head?.map fun l => ((s, c.1), l)).toList).length ≤ 1 := by cases (L.take k).head? <;> simp
          omega
        · cases k with
          | zero =>
            have e0 : d0 ++ ((L.take 0).head?.map fun l => ((s, c.1), l)).toList = d0 := by simp
            rw [e0, if_neg hnew] at m9
            have e1' : ((L.take (0 + 1)).head?.map fun l => ((s, c.1), l)).toList = [((s, c.1), x)] := by rw [take_one hxk]; simp
            rw [e1']
            exact m9
          | succ k =>
            have hh : ∃ y, (L.take (k + 1)).head? = some y ∧ (L.take (k + 1 + 1)).head? = some y := by
              cases hL : L with
              | nil => rw [hL] at hxk; cases hxk
              | cons y l => exact ⟨y, by simp, by simp⟩
            obtain ⟨y, hy1, hy2⟩ := hh
            rw [hy1] at m9
            rw [hy2]
            rw [if_pos (by simp)] at m9
            exact m9
      · rintro σ' H' ⟨a9, a10, rfl, t8, m8⟩
        refine ⟨_, _, _, _, _, rfl, t5.trans ((Tl.ex (e6.trans e7)).trans t8), ?_⟩
        rw [List.take_length] at m8
        rw [take_one hcj, List.filterMap_append, ← List.append_assoc]
        have er : [c].filterMap (rowOf ranks s) = (L.head?.map fun l => ((s, c.1), l)).toList := by
          rw [List.filterMap_cons, show rowOf ranks s c = L.head?.map (fun l => ((s, c.1), l)) from rfl]
          cases L.head? <;> simp
        rw [er]
        exact m8
    · rintro σ' H' ⟨a6, a7, a8, a9, a10, rfl, t5, m5⟩
      refine ⟨_, _, _, _, _, _, rfl, ?_⟩
      rw [List.take_length] at m5
      rw [take_one hxi, tabOf_eq, List.map_append, List.flatten_append]
      simpa [tabOf_eq] using m5
  · rintro σ' H' ⟨a5, a6, a7, a8, a9, a10, rfl, e5, ys, h5, h6⟩
    rw [List.take_length] at h6
    exact ⟨_, rfl, q2 (hfk ▸ hne) D ys H' hD0 (e02.trans e5) h5 h6⟩
end
end Ct
/-! # The walks: checked_table -/
namespace Ct
open PySem PySem.Spec PyProof.Rows L2 Evl
/-- what is taken over of a table -/
def chkRow (d : Tab) (s : Sh) (p : P) : Option ((Sh × P) × Ld) := if nextShapes s p = [] then none else (look d (s, p)).map fun l => ((s, p), l)
def chk (e : EX) (d : Tab) (shapes : List Sh) : Tab := (shapes.map fun s => (openPairs e s).filterMap (chkRow d s)).flatten
/-- a table that a rule takes -/
structure TabOk (e : EX) (d : Tab) : Prop where
  has : ∀ s ∈ allShapes e, ∀ p ∈ openPairs e s, nextShapes s p ≠ [] → ∃ l, look d (s, p) = some l ∧ l ∈ (nextShapes s p).map (·.1)
  len : d.length ≤ (chk e d (allShapes e)).length
theorem chk_key {e : EX} {d : Tab} {shapes : List Sh} {x : (Sh × P) × Ld} (h : x ∈ chk e d shapes) : x.1.1 ∈ shapes := by
  obtain ⟨l, hl, hx⟩ := List.mem_flatten.mp h
  obtain ⟨s, hs, rfl⟩ := List.mem_map.mp hl
  obtain ⟨p, _, hc⟩ := List.mem_filterMap.mp hx
  unfold chkRow at hc
  split at hc
  · cases hc
  · cases hk : look d (s, p) with
    | none => rw [hk] at hc; cases hc
    | some l => rw [hk] at hc; cases hc; exact hs
theorem chkRow_key {d : Tab} {s : Sh} {p : P} {x : (Sh × P) × Ld} (hc : chkRow d s p = some x) : x.1 = (s, p) := by
  unfold chkRow at hc
  split at hc
  · cases hc
  · cases hk : look d (s, p) with
    | none => rw [hk] at hc; cases hc
    | some l => rw [hk] at hc; cases hc; rfl
theorem look_in {κ ν : Type} [DecidableEq κ] {d : List (κ × ν)} {k : κ} {v : ν} (h : look d k = some v) : k ∈ d.map (·.1) := by
  unfold look at h
  cases hf : d.find? (fun x => decide (x.1 = k)) with
  | none => rw [hf] at h; cases h
  | some x =>
    have h1 := List.mem_of_find?_eq_some hf
    have h2 := List.find?_some hf
    exact List.mem_map.mpr ⟨x, h1, of_decide_eq_true h2⟩
theorem chk_len {e : EX} (he : EOk e) (d : Tab) (shapes : List Sh) : (chk e d shapes).length ≤ shapes.length * 16 := by
  refine flat_len shapes fun s _ => ?_
  exact Nat.le_trans (List.length_filterMap_le _ _) (openPairs_len he s)
section
variable {P : Program} {w : World} {K : PySem.W.Frag} {mg : Str → Option Value} {base : Heap} {σ : L2.St} {H : Hp} {ta tb tc : TE} {e : EX}
theorem ev_truL {α : Type} {R : Rp α} {l : List α} (h : ET ta σ H (Rlst R) l) : EvT (tBV K ta) σ H (!l.isEmpty) := fun H1 e Q q =>
  h H1 e _ fun v H2 e2 ⟨a, xs, hv, ha, hx⟩ => ⟨!l.isEmpty, by rw [hv]; exact Or.inl ⟨xs, sq_of ha, by cases hx <;> rfl⟩, q H2 e2⟩
abbrev RT (P : Program) (w : World) : Rp Tab := Rdc P w Rsp Rld
def spChk (P : Program) (w : World) (K : PySem.W.Frag) : Sp := fun vs H Q _ => ∃ (v1 v2 : V) (e : EX) (d : Tab), vs = [v1, v2] ∧ RX K H v1 e ∧ RT P w H v2 d ∧ AOk e ∧ TabOk e d ∧
  ∀ p xs H', H p = none → Ex H H' → H' p = some (dOb P w p xs) → Paired (EntIs Rsp Rld H') xs (chk e d (allShapes e)) → Q (.ref p) H'
theorem lenChk {n : Nat} (hn : n = 2) : ∀ vs H Q E, spChk P w K vs H Q E → vs.length = n := fun _ _ _ _ ⟨_, _, _, _, h, _⟩ => by rw [h, hn]; rfl
theorem sc_checked_table : FnScope ["exchange", "choice", "table", "one", "pair", "loads", "key", "load", "_"] ["exchange", "choice"] (defScope s_checked_table) := ⟨rfl, rfl, rfl, by decide +kernel, rfl, by decide +kernel, by decide +kernel⟩
theorem ok_checked_table (T : Txt K mg) (c_all_shapes : GW.CalW P w K mg base 31 "all_shapes" (Sp1L (RX K) Rsh AOk allShapes)) : GW.CalW P w K mg base 32 "checked_table" (spChk P w K) := by
  refine GW.calw_of T.d_checked_table (fun _ _ _ _ _ _ us hl => match us, hl with | [_, _], _ => rfl) sc_checked_table (lenChk rfl) (fun cdv f A outer s H vs Q hr h => ?_)
  have hu := hr.units
  have hu5 := units5 hr
  have c_open_pairs := ok_open_pairs (P := P) (w := w) (base := base) T
  have c_next_shapes := ok_next_shapes (P := P) (w := w) (base := base) T
  have c_is_load := ok_is_load (P := P) (w := w) (base := base) T
  obtain ⟨v1, v2, e, d, rfl, r1, r2, ha, ht, q⟩ := h
  refine ⟨_, (GW.wss_cons (GW.ws_of (ps_set (i := 2) sc_checked_table.nd rfl (Or.inl rfl) (k_dnew P w)))
    (GW.wss_cons (GW.ws_forL K rfl (fun _ _ h => h) rfl (GW.we_c c_all_shapes hr (by decide) (by rfl) (pa_cons (pv 0) pa_nil)) (pg_name (i := 3) sc_checked_table.nd rfl (Or.inl rfl))
      (pss_one (ps_for PassesOwn.never rfl (k_piL K (C8.pe_c c_open_pairs hr (by decide) (by rfl) (pa_cons (pv 0) (pa_cons (pv 3) pa_nil)))) (pg_name (i := 4) sc_checked_table.nd rfl (Or.inl rfl))
        (pss_cons (ps_setLc (i := 5) (own := [("load", 7), ("_", 8)]) (g := (gTup K 2 (gCons (gName 7) (gCons (gName 8) gNil)))) (tt := tYes) rfl sc_checked_table.nd rfl rfl (sw_true rfl rfl rfl (by decide +kernel)) (k_piL K (C8.pe_c c_next_shapes hr (by decide) (by rfl) (pa_cons (pv 3) (pa_cons (pv 4) pa_nil)))) (blkOk_by (own := [("load", 7), ("_", 8)]) (N := ["exchange", "choice", "table", "one", "pair", "loads", "key", "load", "_"]) (sc := defScope s_checked_table) (by decide +kernel)) (fun _ _ _ _ _ => (pg_tup rfl (pgs_cons (pg_name (i := 7) sc_checked_table.nd rfl (Or.inl rfl)) (pgs_cons (pg_name (i := 8) sc_checked_table.nd rfl (Or.inl rfl)) pgs_nil)))) (fun _ _ _ _ _ => pts_nil) (fun _ _ _ _ _ => (pv 7)))
        (pss_one (ps_if (k_truth K (pv 5) (by intro _; rfl))
          (pss_cons (ps_set (i := 6) sc_checked_table.nd rfl (Or.inl rfl) (pe_tup (pa_cons (pv 3) (pa_cons (pv 4) pa_nil))))
          (pss_cons (ps_if (PW.pt (pw_or (pt_cmpR (k_ninX P w hu) (pv 6) (pv 1) rfl) (pw_or (pt_not (pt_val (C8.pe_c c_is_load hr (by decide) (by rfl) (pa_cons (pv 0) (pa_cons (pe_ix (k_ixX P w hu) (pv 1) (pv 6) (fun _ _ => rfl)) pa_nil))))) (pw_or1 (pt_cmpR (k_ninD K hu5) (pe_ix (k_ixX P w hu) (pv 1) (pv 6) (fun _ _ => rfl)) (pv 5) rfl)))))
            (pss_one ps_never) pss_nil)
          (pss_one (ps_asg (pe_ix (k_ixX P w hu) (pv 1) (pv 6) (fun _ _ => rfl)) (pg_sub (pv 2) (pv 6) (k_setX P w hu)))))) pss_nil))))))
    (GW.wss_of (pss_cons (ps_if (pt_cmpR op_gt (pe_callB (k_lenX P w) (by rfl) T.n_len (by decide +kernel) (pa_cons (pv 1) pa_nil)) (pe_callB (k_lenX P w) (by rfl) T.n_len (by decide +kernel) (pa_cons (pv 2) pa_nil)) (nomark _))
      (pss_one ps_never) pss_nil)
    (pss_one (ps_ret (pv 2))))))), ?_⟩
  have he := ha.ok
  let S := allShapes e
  have hS : S.length ≤ 1000 := ha.few
  refine k_dnewX (R := Rsp) (S := Rld) fun D H1 hD m0 e1 => ?_
  refine j_forN (R := Rsh) (l := S) (D := { nx := _, rt := Q, bk := _, ct := _ }) (el_call1 (et_var rfl (up e1 r1)) ha) fun al xs H2 hn2 e2 hal hxs => ?_
  refine ⟨fun i σ' H' => ∃ (a3 a4 a5 a6 : Option V), σ' = [some v1, some v2, some (.ref D), a3, a4, a5, a6, none, none] ∧ Tl H2 H' ∧ MkX P w H Rsp Rld D (chk e d (S.take i)) H', ⟨none, none, none, none, rfl, Tl.refl _, by simpa [chk] using m0.ex e2⟩, ?_, ?_, ?_⟩
  · rintro i σ' H' hi ⟨a3, a4, a5, a6, rfl, t, m⟩
    exact ⟨t.2 _ _ hal, lims t hxs⟩
  · rintro i s v σ' H' hxi ⟨a3, a4, a5, a6, rfl, t, m⟩ rs
    have hm := List.mem_of_getElem? hxi
    have hs := ha.sh s hm
    have hsS : s ∉ S.take i := fun hc => by
      have h3 : (S.take (i + 1)).Nodup := List.Nodup.sublist (List.take_sublist _ _) ha.nd
      rw [take_one hxi, List.nodup_append] at h3
      exact h3.2.2 _ hc _ (List.mem_singleton.mpr rfl) rfl
    have hlen0 := chk_len he d (S.take i)
    have hti : (S.take i).length ≤ 1000 := by rw [List.length_take]; omega
    refine j_forN (R := Rp2) (l := openPairs e s) (D := { nx := _, rt := _, bk := _, ct := _ }) (el_call2 (et_var rfl (up m.1 r1)) (et_var rfl rs) ⟨he, hs⟩) fun bl ys H4 hn4 e4 hbl hys => ?_
    have m4 := m.ex e4
    have rs4 : Rsh H4 v s := up e4 rs
    refine ⟨fun j σ' H' => ∃ (a4 a5 a6 : Option V), σ' = [some v1, some v2, some (.ref D), some v, a4, a5, a6, none, none] ∧ Tl H4 H' ∧ MkX P w H Rsp Rld D (chk e d (S.take i) ++ ((openPairs e s).take j).filterMap (chkRow d s)) H', ⟨a4, a5, a6, rfl, Tl.refl _, by simpa using m4⟩, ?_, ?_, ?_⟩
    · rintro j σ' H' hj ⟨a4, a5, a6, rfl, t5, m5⟩
      exact ⟨t5.2 _ _ hbl, lims t5 hys⟩
    · rintro j p vp σ' H' hpj ⟨a4, a5, a6, rfl, t5, m5⟩ rp
      have hpm := List.mem_of_getElem? hpj
      have rs5 : Rsh H' v s := imm t5.1 rs4
      let d0 := chk e d (S.take i) ++ ((openPairs e s).take j).filterMap (chkRow d s)
      have hd0 : d0.length ≤ 20000 := by
        rw [show d0.length = _ from List.length_append]
        have := List.length_filterMap_le (chkRow d s) ((openPairs e s).take j)
        have h2 : ((openPairs e s).take j).length ≤ 16 := by rw [List.length_take]; have := openPairs_len he s; omega
        have h3 : (S.take i).length * 16 ≤ 1000 * 16 := Nat.mul_le_mul_right _ hti
        omega
      have hnew : (s, p) ∉ d0.map (·.1) := fun hc => by
        obtain ⟨x, hx, hxk⟩ := List.mem_map.mp hc
        rcases List.mem_append.mp hx with hx | hx
        · have := chk_key hx
          rw [hxk] at this
          exact hsS this
        · obtain ⟨p', hp', hr⟩ := List.mem_filterMap.mp hx
          have hk := chkRow_key hr
          rw [hxk] at hk
          have hcc : p = p' := by injection hk
          have h3 : ((openPairs e s).take (j + 1)).Nodup := List.Nodup.sublist (List.take_sublist _ _) (openPairs_nodup e s)
          rw [take_one hpj, List.nodup_append] at h3
          exact h3.2.2 _ hp' _ (List.mem_singleton.mpr rfl) hcc.symm
      have tk : ((openPairs e s).take (j + 1)).filterMap (chkRow d s) = ((openPairs e s).take j).filterMap (chkRow d s) ++ (chkRow d s p).toList := by
        rw [take_one hpj, List.filterMap_append, List.filterMap_cons]
        cases chkRow d s p <;> simp
      refine k_setL (R := Rld) (l := (nextShapes s p).map (·.1)) (el_mapP (R1 := Rld) (R2 := Rsh) (l := nextShapes s p) (fun n => n.1) (ei_list (el_call2 (et_var rfl rs5) (et_var rfl rp) ⟨by have := hs.small he; omega, fun l hl => by have := (hs.small he).2 l hl; omega⟩).et) (by have := next_len s p; have := hs.small he; omega) (fun _ _ => rfl) fun u2 v2 n Hx hn ex ru rv => et_var rfl ru) fun p5 x5 H6 hn5 e6 hp5 hx5 => ?_
      have m6 := m5.ex e6
      have rl6 : Rlst Rld H6 (.ref p5) ((nextShapes s p).map (·.1)) := ⟨p5, x5, rfl, hp5, hx5⟩
      refine j_when (b := !((nextShapes s p).map (·.1)).isEmpty) (ev_truL (et_var rfl rl6)) (fun hb H7 e7 => ?_) (fun hb H7 e7 => ?_)
      · have hne : nextShapes s p ≠ [] := fun z => by rw [z] at hb; cases hb
        obtain ⟨l, hl, hln⟩ := ht.has s hm p hpm hne
        have e67 := e6.trans e7
        have m7 := m6.ex e7
        have r1' := up m7.1 r1
        have r2' := up m7.1 r2
        refine k_set (R := Rsp) (x := (s, p)) (et_pr (et_var rfl (up e67 rs5)) (et_var rfl (up e67 rp))) fun vk H8 e8 rk => ?_
        have hload : LdOk e.ins.length e.outs.length l := by
          obtain ⟨n, hn, rfl⟩ := List.mem_map.mp hln
          unfold nextShapes at hn
          obtain ⟨x, hx, rfl⟩ := List.mem_map.mp hn
          have hx1 := (List.mem_filter.mp hx).1
          obtain ⟨_, _, hx2⟩ := List.mem_zipIdx hx1
          exact hs.ld _ (hx2 ▸ List.getElem_mem _)
        have hkey : (s, p) ∈ d.map (·.1) := look_in hl
        have r2'' := up e8 r2'
        have gl : ∀ {σ0 : L2.St}, σ0[1]? = some (some v2) → σ0[6]? = some (some vk) → ET (tOp (rGetX P w) (tVar 1) (tVar 6)) σ0 H8 Rld l := fun h1 h2 => et_ixX (et_var h1 r2'') (et_var h2 rk) hl
        refine k_no (et_is (et_or (a := !decide ((s, p) ∈ d.map (·.1))) (eB (et_ninX (R := Rsp) (S := Rld) (et_var rfl rk) (et_var rfl r2''))) fun _ => et_or (a := !true) (ev_not (eT (et_call2 (et_var rfl (up e8 r1')) (gl rfl rfl) ⟨hload, by have := he.ins; omega⟩))) fun _ => eB (et_ninD (R := Rld) (gl rfl rfl) (et_var rfl (up (e7.trans e8) rl6)))) ?_) fun H9 e9 => ?_
        · simp [hkey, hln]
        · have m9 := (m7.ex e8).ex e9
          obtain ⟨_, _, hD9, _⟩ := id m9
          refine MkX.set (k := (s, p)) (v := l) m9 hD (by show d0.length < _; omega) ((gl rfl rfl).mono e9) (ev_var rfl) (et_var rfl (up e9 rk)) fun Ha ma ta xa => ⟨_, _, _, rfl, (t5.trans (Tl.ex ((e67.trans e8).trans e9))).trans (xa.tl hD9), ?_⟩
          rw [dput_new hnew] at ma
          have er : chkRow d s p = some ((s, p), l) := by unfold chkRow; rw [if_neg hne, hl]; rfl
          rw [tk, er, ← List.append_assoc]
          exact ma
      · have hne : nextShapes s p = [] := by
          cases hh : nextShapes s p with
          | nil => rfl
          | cons a b => rw [hh] at hb; cases hb
        refine ⟨_, _, _, rfl, t5.trans (Tl.ex (e6.trans e7)), ?_⟩
        have er : chkRow d s p = none := by unfold chkRow; rw [if_pos hne]
        rw [tk, er]
        simpa using m6.ex e7
    · rintro σ' H' ⟨a4, a5, a6, rfl, t5, m5⟩
      refine ⟨_, _, _, _, rfl, t.trans ((Tl.ex e4).trans t5), ?_⟩
      rw [List.take_length] at m5
      rw [take_one hxi]
      unfold chk at m5 ⊢
      rw [List.map_append, List.flatten_append]
      simpa using m5
  · rintro σ' H' ⟨a3, a4, a5, a6, rfl, t, m⟩
    rw [List.take_length] at m
    refine k_no (et_is (eT (et_cmp (et_lenX (et_var rfl (up m.1 r2))) (et_lenX (et_var rfl m.dc)))) ?_) fun H5 e5 => ?_
    · have : d.length ≤ (chk e d S).length := ht.len
      exact decide_eq_false (by omega)
    · obtain ⟨e6, ys, h5, h6⟩ := m.ex e5
      exact ⟨_, rfl, q D ys H5 hD e6 h5 h6⟩
end
end Ct
/-! # The walks: Rule -/
namespace Ct
open PySem PySem.Spec PyProof.Rows L2 Evl
/-- a rule by a table at t -/
def RRul (P : Program) (w : World) (K : PySem.W.Frag) (t : Addr) : Rp (EX × Tab) := fun H v x => ∃ p dx fs u1, v = .ref p ∧ H p = some (.ins (He.ga K "Rule") dx fs) ∧ fs.lookup ("exchange" : Str) = some u1 ∧ fs.lookup ("word" : Str) = some (.str "") ∧ fs.lookup ("table" : Str) = some (.ref t) ∧ fs.lookup ("picked" : Str) = none ∧ RX K H u1 x.1 ∧ Rdc P w Rsp Rld H (.ref t) x.2
instance {P : Program} {w : World} {K : PySem.W.Frag} {t : Addr} : Mon (RRul P w K t) := ⟨fun e ⟨p, dx, fs, u1, h1, h2, h3, h4, h5, h6, h7, h8⟩ => ⟨p, dx, fs, u1, h1, e _ _ h2, h3, h4, h5, h6, up e h7, up e h8⟩⟩
theorem RX.xb {K : PySem.W.Frag} {H H' : Hp} {D : Addr} {v : V} {e : EX} (h : RX K H v e) (x : Xb D H H') (ht : ∀ xs, H D ≠ some (.tup xs)) (hp : v ≠ .ref D) : RX K H' v e := by
  obtain ⟨p, dx, fs, u1, u2, h1, h2, h3, h4, h5, h6, h7, h8⟩ := h
  have t : Tu H H' := fun b ys hb => x b _ (fun z => by rw [z] at hb; exact ht _ hb) hb
  exact ⟨p, dx, fs, u1, u2, h1, x _ _ (fun z => by subst z; exact hp h1) h2, h3, h4, h5, h6, imm t h7, imm t h8⟩
theorem getD_at {l : Sh} {i : Int} (h : 0 ≤ i) (h2 : i < (l.length : Int)) : atI l i = some (l.getD i.toNat []) := by
  obtain ⟨n, rfl⟩ := Int.eq_ofNat_of_zero_le h
  have hn : n < l.length := by omega
  have := atI_of (List.getElem?_eq_getElem hn)
  show atI l (n : Int) = _
  rw [this]
  show some _ = some (l.getD n [])
  rw [List.getD_eq_getElem?_getD, List.getElem?_eq_getElem hn]; rfl
theorem fitting_mem {s : Sh} {p : P} {k : Int} (h : k ∈ fitting s p) : 0 ≤ k ∧ k < (s.length : Int) ∧ fits (s.getD k.toNat []) p = true := by
  unfold fitting fitting.enumL' at h
  obtain ⟨x, hx, rfl⟩ := List.mem_map.mp h
  obtain ⟨hx1, hx2⟩ := List.mem_filter.mp hx
  obtain ⟨i, hi⟩ := List.mem_iff_getElem?.mp hx1
  rw [List.getElem?_mapIdx] at hi
  cases hg : s[i]? with
  | none => rw [hg] at hi; cases hi
  | some y =>
    rw [hg] at hi
    cases hi
    have hlt := (List.getElem?_eq_some_iff.mp hg).1
    refine ⟨by show (0 : Int) ≤ (i : Int); omega, by show (i : Int) < _; omega, ?_⟩
    show fits (s.getD i []) p = true
    rw [List.getD_eq_getElem?_getD, hg]
    exact hx2
/-- the middles a rule may pick -/
def atLoad (s : Sh) (p : P) (l : Ld) : List Int := (fitting s p).filter fun k => decide (s.getD k.toNat [] = l)
section
variable {P : Program} {w : World} {K : PySem.W.Frag} {mg : Str → Option Value} {base : Heap} {σ : L2.St} {H : Hp} {ta tb tc : TE} {e : EX} {t : Addr} {x : EX × Tab}
theorem et_rex (T : Txt K mg) (h : ET ta σ H (RRul P w K t) x) : ET (tFld K ta "exchange") σ H (RX K) x.1 := fun H1 e1 Q q => h H1 e1 _ fun v H2 e2 ⟨p, dx, fs, u1, h1, h2, h3, h4, h5, h6, h7, h8⟩ => ⟨p, _, dx, fs, u1, h1, h2, T.c_Rule, T.a_Rule_exchange, h3, q _ H2 e2 h7⟩
theorem ev_rwd (T : Txt K mg) (h : ET ta σ H (RRul P w K t) x) : Ev (tFld K ta "word") σ H (.str "") := fun H1 e1 Q q => h H1 e1 _ fun v H2 e2 ⟨p, dx, fs, u1, h1, h2, h3, h4, h5, h6, h7, h8⟩ => ⟨p, _, dx, fs, _, h1, h2, T.c_Rule, T.a_Rule_word, h4, q H2 e2⟩
theorem et_rtb (T : Txt K mg) (h : ET ta σ H (RRul P w K t) x) : ET (tFld K ta "table") σ H (RT P w) x.2 := fun H1 e1 Q q => h H1 e1 _ fun v H2 e2 ⟨p, dx, fs, u1, h1, h2, h3, h4, h5, h6, h7, h8⟩ => ⟨p, _, dx, fs, _, h1, h2, T.c_Rule, T.a_Rule_table, h5, q _ H2 e2 h8⟩
def spPicked (P : Program) (w : World) (K : PySem.W.Frag) : Sp := fun vs H Q _ => ∃ (v1 v2 v3 : V) (t : Addr) (e : EX) (tab : Tab) (s : Sh) (p : Ct.P) (l : Ld), vs = [v1, v2, v3] ∧ RRul P w K t H v1 (e, tab) ∧ Rsh H v2 s ∧ Rp2 H v3 p ∧ (s.length ≤ 1000 ∧ ∀ l ∈ s, l.length ≤ 1000) ∧ look tab (asShape s, p) = some l ∧ atLoad s p l ≠ [] ∧ ∀ H', Ex H H' → Q (.int (minI (atLoad s p l))) H'
theorem lenPicked {n : Nat} (hn : n = 3) : ∀ vs H Q E, spPicked P w K vs H Q E → vs.length = n := fun _ _ _ _ ⟨_, _, _, _, _, _, _, _, _, h, _⟩ => by rw [h, hn]; rfl
theorem sc_Rule_picked : FnScope ["self", "standing", "pair", "free", "load", "k"] ["self", "standing", "pair"] (defScope s_Rule_picked) := ⟨rfl, rfl, rfl, by decide +kernel, rfl, by decide +kernel, by decide +kernel⟩
theorem ok_Rule_picked (T : Txt K mg) : C8.Met P w K mg base 3 (He.ga K "Rule") "picked" (spPicked P w K) [] := by
  refine met_of T.c_Rule T.q_Rule_picked T.m_Rule_picked (fun _ _ _ _ _ _ us hl => match us, hl with | [_, _, _], _ => rfl) sc_Rule_picked (lenPicked rfl) (fun cdv f A outer s H vs Q E hr h => ?_)
  have hu := hr.units
  have c_fitting := ok_fitting (P := P) (w := w) (base := base) T
  have c_as_shape := ok_as_shape (P := P) (w := w) (base := base) T
  obtain ⟨v1, v2, v3, t, e, tab, s, p, l, rfl, r1, r2, r3, hz, hl, hne, q⟩ := h
  refine ⟨_, (pss_cons (ps_set (i := 3) sc_Rule_picked.nd rfl (Or.inl rfl) (C8.pe_c c_fitting hr (by decide) (by rfl) (pa_cons (pv 1) (pa_cons (pv 2) pa_nil))))
    (pss_cons (ps_if (pt_not (k_truth K (pv 3) (by intro _; rfl)))
      (pss_one (ps_ret pe_non)) pss_nil)
    (pss_cons (ps_if (pt_cmpR op_ne (k_fld K (pv 0) rfl) pe_str (nomark _))
      (pss_one ps_never) pss_nil)
    (pss_cons (ps_set (i := 4) sc_Rule_picked.nd rfl (Or.inr rfl) (pe_ix (k_ixX P w hu) (k_fld K (pv 0) rfl) (pe_tup (pa_cons (C8.pe_c c_as_shape hr (by decide) (by rfl) (pa_cons (pv 1) pa_nil)) (pa_cons (pv 2) pa_nil))) (fun _ _ => rfl)))
    (pss_one (ps_ret (pe_callB (k_min K) (by rfl) T.n_min (by decide +kernel) (pa_cons (pe_lc (own := [("k", 5)]) (g := (gName 5)) rfl sc_Rule_picked.nd (k_piL K (pv 3)) (blkOk_by (own := [("k", 5)]) (N := ["self", "standing", "pair", "free", "load", "k"]) (sc := defScope s_Rule_picked) (by decide +kernel)) (fun _ _ _ _ _ => (pg_name (i := 5) sc_Rule_picked.nd rfl (Or.inl rfl))) (fun _ _ _ _ _ => (pts_one (pt_cmpR (k_eqD K hu) (pe_ix (k_ixT K) (pv 1) (pv 5) (fun _ _ => rfl)) (pv 4) (nomark _)))) (fun _ _ _ _ _ => (pv 5))) pa_nil)))))))), ?_⟩
  have hfl : (fitting s p).length ≤ s.length := by
    unfold fitting fitting.enumL'
    rw [List.length_map]
    exact Nat.le_trans (List.length_filter_le _ _) (by rw [List.length_mapIdx]; exact Nat.le_refl _)
  have hfn : fitting s p ≠ [] := fun z => hne (by unfold atLoad; rw [z]; rfl)
  refine k_setL (R := Ri) (el_call2 (et_var rfl r2) (et_var rfl r3) hz) fun p3 x3 H1 hn1 e1 hp3 hx3 => ?_
  have rf : Rlst Ri H1 (.ref p3) (fitting s p) := ⟨p3, x3, rfl, hp3, hx3⟩
  refine k_no (et_is (ev_not (ev_truL (et_var rfl rf))) (by cases hh : fitting s p with | nil => exact absurd hh hfn | cons a b => rfl)) fun H2 e2 => ?_
  have e02 := e1.trans e2
  refine k_no (et_is (eT (et_b (ev_op (ev_rwd (x := (e, tab)) T (et_var rfl (up e02 r1))) (ev_c (v := .str "")) (rv_ne rfl)))) (by decide)) fun H3 e3 => ?_
  have e03 := e02.trans e3
  refine k_set (R := Rld) (x := l) (et_ixX (et_rtb (x := (e, tab)) T (et_var rfl (up e03 r1))) (et_pr (et_call1 (et_var rfl (up e03 r2)) trivial) (et_var rfl (up e03 r3))) hl) fun vl H4 e4 rl => ?_
  have e04 := e03.trans e4
  refine j_ret (et_min (ns := atLoad s p l) ((el_lcN (S := Ri) (fun k => decide (s.getD k.toNat [] = l)) (fun k => k) (ei_list (et_var rfl (up ((e2.trans e3).trans e4) rf))) (by omega) (fun _ => rfl) fun v k Hx hk ex rk => ⟨eT (et_eqD (et_ixT (et_var rfl (up (e04.trans ex) r2)) (et_var rfl rk) (getD_at (fitting_mem hk).1 (fitting_mem hk).2.1)) (et_var rfl (up ex rl))), fun _ => et_var rfl rk⟩).is (List.map_id'' (fun _ => rfl) _)).et hne) fun v H5 e5 r5 => ?_
  cases r5
  exact q _ (e04.trans e5)
def spRcall (P : Program) (w : World) (K : PySem.W.Frag) : Sp := fun vs H Q _ => ∃ (v1 v2 v3 : V) (t : Addr) (e : EX) (tab : Tab) (s : Sh) (p : Ct.P) (l : Ld), vs = [v1, v2, v3] ∧ RRul P w K t H v1 (e, tab) ∧ Rsh H v2 s ∧ Rp2 H v3 p ∧ EOk e ∧ ShOk e s ∧ p ∈ openPairs e s ∧ look tab (asShape s, p) = some l ∧ atLoad s p l ≠ [] ∧ ∀ H', Ex H H' → Q (.int (minI (atLoad s p l))) H'
theorem lenRcall {n : Nat} (hn : n = 3) : ∀ vs H Q E, spRcall P w K vs H Q E → vs.length = n := fun _ _ _ _ ⟨_, _, _, _, _, _, _, _, _, h, _⟩ => by rw [h, hn]; rfl
theorem et_picked {E : XK} {mm : Str} {e : EX} {tab : Tab} {s : Sh} {p : Ct.P} {l : Ld} (hm : ∀ fs : List (Str × V), fs.lookup ("picked" : Str) = none → fs.lookup mm = none) (h : ET ta σ H (RRul P w K t) (e, tab)) (h2 : ET tb σ H Rsh s) (h3 : ET tc σ H Rp2 p) (hz : s.length ≤ 1000 ∧ ∀ l ∈ s, l.length ≤ 1000) (hl : look tab (asShape s, p) = some l) (hne : atLoad s p l ≠ []) : ET (tMeth (He.ga K "Rule") mm (spPicked P w K) [] E ta (tCons tb (tCons tc tNil))) σ H Ri (minI (atLoad s p l)) := fun H1 e1 Q q =>
  h H1 e1 _ fun v H2 e2 hv => by
    obtain ⟨pp, dx, fs, u1, h1, hp, g3, g4, g5, g6, g7, g8⟩ := id hv
    exact ⟨pp, dx, fs, h1, hp, hm fs g6, h2 H2 (e1.trans e2) _ fun v2 H3 e3 r2 => h3 H3 ((e1.trans e2).trans e3) _ fun v3 H4 e4 r3 => ⟨v, v2, v3, t, e, tab, s, p, l, rfl, up (e3.trans e4) hv, up e4 r2, r3, hz, hl, hne, fun H' e5 => q _ H' (((e2.trans e3).trans e4).trans e5) rfl⟩⟩
theorem open_inP {e : EX} {s : Sh} {p : Ct.P} (h : p ∈ openPairs e s) : InP e.ins.length e.outs.length p ∧ (leftOf e s).1.getD p.1.toNat 0 > 0 ∧ (leftOf e s).2.getD p.2.toNat 0 > 0 := by
  obtain ⟨h1, h2⟩ := List.mem_filter.mp h
  obtain ⟨l, hl, hp⟩ := List.mem_flatten.mp h1
  obtain ⟨i, hi, rfl⟩ := List.mem_map.mp hl
  obtain ⟨o, ho, rfl⟩ := List.mem_map.mp hp
  have hi := List.mem_range.mp hi
  have ho := List.mem_range.mp ho
  rw [Bool.and_eq_true] at h2
  exact ⟨⟨⟨by show (0 : Int) ≤ (i : Int); omega, by show (i : Int) < _; omega⟩, by show (0 : Int) ≤ (o : Int); omega, by show (o : Int) < _; omega⟩, of_decide_eq_true h2.1, of_decide_eq_true h2.2⟩
theorem sc_Rule_call : FnScope ["self", "standing", "pair"] ["self", "standing", "pair"] (defScope s_Rule_call) := ⟨rfl, rfl, rfl, by decide +kernel, rfl, by decide +kernel, by decide +kernel⟩
theorem ok_Rule_call (T : Txt K mg) : C8.Met P w K mg base 7 (He.ga K "Rule") "__call__" (spRcall P w K) [] := by
  refine met_of T.c_Rule T.q_Rule_call T.m_Rule_call (fun _ _ _ _ _ _ us hl => match us, hl with | [_, _, _], _ => rfl) sc_Rule_call (lenRcall rfl) (fun cdv f A outer s H vs Q E hr h => ?_)
  have c_need_standing := ok_need_standing (P := P) (w := w) (base := base) T
  have c_need_pair := ok_need_pair (P := P) (w := w) (base := base) T
  have c_need_doors := ok_need_doors (P := P) (w := w) (base := base) T
  have c_Rule_picked := ok_Rule_picked (P := P) (w := w) (base := base) T
  obtain ⟨v1, v2, v3, t, e, tab, s, p, l, rfl, r1, r2, r3, he, hs, hop, hl, hne, q⟩ := h
  refine ⟨_, (pss_cons (ps_expr (C8.pe_c c_need_standing hr (by decide) (by rfl) (pa_cons (k_fld K (pv 0) rfl) (pa_cons (pv 1) pa_nil))))
    (pss_cons (ps_expr (C8.pe_c c_need_pair hr (by decide) (by rfl) (pa_cons (k_fld K (pv 0) rfl) (pa_cons (pv 2) pa_nil))))
    (pss_cons (ps_expr (C8.pe_c c_need_doors hr (by decide) (by rfl) (pa_cons (k_fld K (pv 0) rfl) (pa_cons (pv 1) (pa_cons (pv 2) pa_nil)))))
    (pss_one (ps_ret (C8.pe_mt c_Rule_picked hr (by decide) (pv 0) (pa_cons (pv 1) (pa_cons (pv 2) pa_nil)))))))), ?_⟩
  obtain ⟨o1, o2, o3⟩ := open_inP hop
  refine k_drop (et_call2 (et_rex (x := (e, tab)) T (et_var rfl r1)) (et_var rfl r2) ⟨he, hs⟩) fun _ H1 e1 _ => ?_
  refine k_drop (et_call2 (et_rex (x := (e, tab)) T (et_var rfl (up e1 r1))) (et_var rfl (up e1 r3)) o1) fun _ H2 e2 _ => ?_
  have e02 := e1.trans e2
  refine k_drop (et_call3 (et_rex (x := (e, tab)) T (et_var rfl (up e02 r1))) (et_var rfl (up e02 r2)) (et_var rfl (up e02 r3)) ⟨he, hs, o1, o2, o3⟩) fun _ H3 e3 _ => ?_
  have e03 := e02.trans e3
  refine j_ret (et_picked (fun _ h => h) (et_var rfl (up e03 r1)) (et_var rfl (up e03 r2)) (et_var rfl (up e03 r3)) (by have := hs.small he; exact ⟨by omega, fun l hl => by have := this.2 l hl; omega⟩) hl hne) fun v H4 e4 r4 => ?_
  cases r4
  exact q _ (e03.trans e4)
/-- Rule.__init__ -/
def spRinit (P : Program) (w : World) (K : PySem.W.Frag) : Sp := fun vs H Q _ => ∃ (x dx : Addr) (v1 v2 : V) (e : EX) (d : Tab), vs = [.ref x, v1, v2] ∧ H x = some (.ins (He.ga K "Rule") dx []) ∧ RX K H v1 e ∧ RT P w H v2 d ∧ AOk e ∧ TabOk e d ∧
  ∀ t H', H t = none → (∀ b o, b ≠ x → H b = some o → H' b = some o) → RRul P w K t H' (.ref x) (e, chk e d (allShapes e)) → Q .non H'
theorem lenRinit {n : Nat} (hn : n = 3) : ∀ vs H Q E, spRinit P w K vs H Q E → vs.length = n := fun _ _ _ _ ⟨_, _, _, _, _, _, h, _⟩ => by rw [h, hn]; rfl
theorem sc_Rule_init : FnScope ["self", "exchange", "choice"] ["self", "exchange", "choice"] (defScope s_Rule_init) := ⟨rfl, rfl, rfl, by decide +kernel, rfl, by decide +kernel, by decide +kernel⟩
theorem ok_Rule_init (T : Txt K mg) (c_all_shapes : GW.CalW P w K mg base 31 "all_shapes" (Sp1L (RX K) Rsh AOk allShapes)) : GW.MakW P w K mg base 33 "Rule" (He.ga K "Rule") (spRinit P w K) := by
  refine GW.makw_of T.k_Rule T.g_Rule T.m_Rule_init (fun _ _ _ _ _ _ us hl => match us, hl with | [_, _, _], _ => rfl) sc_Rule_init (lenRinit rfl) (fun cdv f A outer s H vs Q hr h => ?_)
  have hu := hr.units
  have c_checked_table := ok_checked_table (P := P) (w := w) (base := base) T c_all_shapes
  obtain ⟨x, dx, v1, v2, e, d, rfl, hx, r1, r2, ha, ht, q⟩ := h
  refine ⟨_, (GW.wss_cons (GW.ws_of (ps_fld (pv 0) (pv 1) rfl))
    (GW.wss_cons (GW.ws_of (ps_fld (pv 0) pe_str rfl))
    (GW.wss_cons (GW.ws_of (ps_fld (pv 0) (k_dnew P w) rfl))
    (GW.wss_one (GW.ws_if (pt_val (pe_callB (k_isiX K P w) (by rfl) T.n_isinstance (by decide +kernel) (pa_cons (pv 2) (pa_cons (pe_bltn (v := .ty "dict") (by rfl) T.n_dict (by decide +kernel) rfl) pa_nil))))
      (GW.wss_one (GW.ws_fld (pv 0) (GW.we_c c_checked_table hr (by decide) (by rfl) (pa_cons (pv 1) (pa_cons (pv 2) pa_nil))) rfl)) (GW.wss_of (pss_one ps_never))))))), ?_⟩
  have nt : ∀ ys, H x ≠ some (.tup ys) := fun ys z => by rw [hx] at z; cases z
  have nv : v1 ≠ .ref x := fun z => by
    obtain ⟨p, dx', fs', u1, u2, h1, h2, h3, _⟩ := id r1
    subst z
    cases h1
    rw [hx] at h2
    injection h2 with h2
    injection h2 with _ _ h2
    rw [← h2] at h3
    cases h3
  have rdx : ∀ {G : Hp}, Xb x H G → RT P w G v2 d := fun {G} xg => by
    obtain ⟨a, xs, h1, h2, h3⟩ := id r2
    have na : a ≠ x := fun z => by
      subst z
      rcases h2 with h2 | ⟨o, h2⟩
      · rw [hx] at h2; cases h2
      · rw [hx] at h2; cases h2
    have tg : Tu H G := fun b ys hb => xg b _ (fun z => by rw [z] at hb; exact nt _ hb) hb
    refine ⟨a, xs, h1, ?_, EntIs.mon.pr_imp' h3 fun _ _ r => ⟨r.1, imm tg r.2.1, imm tg r.2.2⟩⟩
    rcases h2 with h2 | ⟨o, h2⟩
    · exact .inl (xg _ _ na h2)
    · exact .inr ⟨o, xg _ _ na h2⟩
  have hv1 : ∃ a1, v1 = .ref a1 := by obtain ⟨p, _, _, _, _, h1, _⟩ := id r1; exact ⟨p, h1⟩
  refine k_fldset (D := { nx := _, rt := _, bk := _, ct := _ }) T.c_Rule T.a_Rule_exchange (ev_var rfl) (ev_var rfl) hx (by decide) fun H1 e1 => ?_
  have x1 : Xb x H (upd H1 x (.ins (He.ga K "Rule") dx (putF "exchange" v1 []))) := fun b o hb h0 => by rw [upd_ne hb]; exact e1 _ _ h0
  refine k_fldset (D := { nx := _, rt := _, bk := _, ct := _ }) T.c_Rule T.a_Rule_word (v := .str "") ev_c (ev_var rfl) upd_same (by show 1 < 1000; decide) fun H2 e2 => ?_
  have x2 : Xb x H (upd H2 x (.ins (He.ga K "Rule") dx (putF "word" (.str "") (putF "exchange" v1 [])))) := fun b o hb h0 => by rw [upd_ne hb]; exact e2 _ _ (x1 _ _ hb h0)
  have s2 : (upd H2 x (.ins (He.ga K "Rule") dx (putF "word" (.str "") (putF "exchange" v1 [])))) x = some (.ins (He.ga K "Rule") dx (putF "word" (.str "") (putF "exchange" v1 []))) := upd_same
  generalize upd H2 x (.ins (He.ga K "Rule") dx (putF "word" (.str "") (putF "exchange" v1 []))) = G2 at x2 s2
  refine fun p0 hp0 => ⟨.ref x, rfl, x, He.ga K "Rule", dx, _, rfl, Ex.new hp0 _ _ s2, T.c_Rule, T.a_Rule_table, (by show 2 < 1000; decide), ?_⟩
  have x3 : Xb x H (upd (upd G2 p0 (dOb P w p0 [])) x (.ins (He.ga K "Rule") dx (putF "table" (.ref p0) (putF "word" (.str "") (putF "exchange" v1 []))))) := fun b o hb h0 => by rw [upd_ne hb]; exact Ex.new hp0 _ _ (x2 _ _ hb h0)
  have s3 : (upd (upd G2 p0 (dOb P w p0 [])) x (.ins (He.ga K "Rule") dx (putF "table" (.ref p0) (putF "word" (.str "") (putF "exchange" v1 []))))) x = some (.ins (He.ga K "Rule") dx (putF "table" (.ref p0) (putF "word" (.str "") (putF "exchange" v1 [])))) := upd_same
  generalize upd (upd G2 p0 (dOb P w p0 [])) x (.ins (He.ga K "Rule") dx (putF "table" (.ref p0) (putF "word" (.str "") (putF "exchange" v1 [])))) = G3 at x3 s3
  refine j_if (b := true) (eB (et_isiX (R := Rsp) (S := Rld) (d := d) (et_var rfl (rdx x3)) (kit_ty (b := "dict") (r := true) (by decide +kernel)))) (fun _ H4 e4 => ?_) (fun hb => by cases hb)
  have x4 : Xb x H H4 := fun b o hb h0 => e4 _ _ (x3 _ _ hb h0)
  have s4 := e4 _ _ s3
  refine ⟨v1, rfl, v2, rfl, v1, v2, e, d, rfl, r1.xb x4 nt nv, rdx x4, ha, ht, fun p xs H5 hp e5 hd hxs => ⟨.ref x, rfl, x, He.ga K "Rule", dx, _, rfl, e5 _ _ s4, T.c_Rule, T.a_Rule_table, (by show 3 < 1000; decide), ?_⟩⟩
  have s5 := e5 _ _ s4
  have npx : p ≠ x := fun z => by rw [z, s4] at hp; cases hp
  have hpn : H p = none := by
    cases hh : H p with
    | none => rfl
    | some o => have := x4 _ _ npx hh; rw [hp] at this; cases this
  have x6 : Xb x H (upd H5 x (.ins (He.ga K "Rule") dx (putF "table" (.ref p) (putF "table" (.ref p0) (putF "word" (.str "") (putF "exchange" v1 [])))))) := fun b o hb h0 => by rw [upd_ne hb]; exact e5 _ _ (x4 _ _ hb h0)
  have t6 : Tu H5 (upd H5 x (.ins (He.ga K "Rule") dx (putF "table" (.ref p) (putF "table" (.ref p0) (putF "word" (.str "") (putF "exchange" v1 [])))))) := tups_mut s5 fun _ z => by cases z
  refine q p _ hpn x6 ⟨x, dx, _, v1, rfl, upd_same, by rfl, by rfl, by rfl, by rfl, r1.xb x6 nt nv, p, xs, rfl, .inl (by rw [upd_ne npx]; exact hd), EntIs.mon.pr_imp' hxs fun _ _ r => ⟨r.1, imm t6 r.2.1, imm t6 r.2.2⟩⟩
end
end Ct
/-! # The walks: same -/
namespace Ct
open PySem PySem.Spec PyProof.Rows L2 Evl
def spNo : Sp := fun _ _ _ _ => False
theorem lenNo {n : Nat} (_ : n = n) : ∀ vs H Q E, spNo vs H Q E → vs.length = n := fun _ _ _ _ h => h.elim
section
variable {P : Program} {w : World} {K : PySem.W.Frag} {mg : Str → Option Value} {base : Heap} {σ : L2.St} {H : Hp} {ta tb tc : TE} {e : EX}
theorem sc_same : FnScope ["thing", "due", "part", "wanted"] ["thing", "due"] (defScope s_same) := ⟨rfl, rfl, rfl, by decide +kernel, rfl, by decide +kernel, by decide +kernel⟩
theorem ok_same0 (T : Txt K mg) : Cal P w K mg base 1 "same" spNo := by
  refine cal_of T.d_same (fun _ _ _ _ _ _ us hl => match us, hl with | [_, _], _ => rfl) sc_same (lenNo rfl) (fun cdv f A outer s H vs Q E hr h => ?_)
  exact h.elim
theorem ok_same1 (T : Txt K mg) : Cal P w K mg base 2 "same" (Sp2 Ri Ri Rb (fun _ _ => True) fun x y => decide (x = y)) := by
  refine cal_of T.d_same (fun _ _ _ _ _ _ us hl => match us, hl with | [_, _], _ => rfl) sc_same (l2' rfl) (fun cdv f A outer s H vs Q E hr h => ?_)
  have c_is_integer := ok_is_integer (P := P) (w := w) (base := base) T
  have c_same := ok_same0 (P := P) (w := w) (base := base) T
  obtain ⟨v1, v2, x, y, rfl, r1, r2, -, q⟩ := h
  refine ⟨_, (pss_cons (ps_if (pt_val (pe_callB (k_isi K) (by rfl) T.n_isinstance (by decide +kernel) (pa_cons (pv 1) (pa_cons (pe_bltn (v := .ty "tuple") (by rfl) T.n_tuple (by decide +kernel) rfl) pa_nil))))
      (pss_cons (ps_if (PW.pt (pw_or (pt_not (pt_val (pe_callB (k_isi K) (by rfl) T.n_isinstance (by decide +kernel) (pa_cons (pv 0) (pa_cons (pe_bltn (v := .ty "tuple") (by rfl) T.n_tuple (by decide +kernel) rfl) pa_nil))))) (pw_or1 (pt_cmpR op_ne (pe_callB (k_len K) (by rfl) T.n_len (by decide +kernel) (pa_cons (pv 0) pa_nil)) (pe_callB (k_len K) (by rfl) T.n_len (by decide +kernel) (pa_cons (pv 1) pa_nil)) (nomark _)))))
        (pss_one (ps_ret pe_bl)) pss_nil)
      (pss_one (ps_ret (pe_callB (k_all K) (by rfl) T.n_all (by decide +kernel) (pa_cons (pe_lc (own := [("part", 2), ("wanted", 3)]) (g := (gTup K 2 (gCons (gName 2) (gCons (gName 3) gNil)))) (tt := tYes) rfl sc_same.nd (RZ.pi_zipA (by rfl) T.n_zip (pa_cons (pv 0) (pa_cons (pv 1) pa_nil))) (blkOk_by (own := [("part", 2), ("wanted", 3)]) (N := ["thing", "due", "part", "wanted"]) (sc := defScope s_same) (by decide +kernel)) (fun _ _ _ _ _ => (pg_tup rfl (pgs_cons (pg_name (i := 2) sc_same.nd rfl (Or.inl rfl)) (pgs_cons (pg_name (i := 3) sc_same.nd rfl (Or.inl rfl)) pgs_nil)))) (fun _ _ _ _ _ => pts_nil) (fun _ _ _ _ _ => (C8.pe_c c_same hr (by decide) (by rfl) (pa_cons (pv 2) (pa_cons (pv 3) pa_nil))))) pa_nil))))) pss_nil)
    (pss_cons (ps_if (pt_val (pe_callB (k_isi K) (by rfl) T.n_isinstance (by decide +kernel) (pa_cons (pv 1) (pa_cons (pe_bltn (v := .ty "str") (by rfl) T.n_str (by decide +kernel) rfl) pa_nil))))
      (pss_one (ps_ret (pe_and (pe_callB (k_isi K) (by rfl) T.n_isinstance (by decide +kernel) (pa_cons (pv 0) (pa_cons (pe_bltn (v := .ty "str") (by rfl) T.n_str (by decide +kernel) rfl) pa_nil))) (pe_one (pe_cmpR op_eq (pv 0) (pv 1) (nomark _)))))) pss_nil)
    (pss_one (ps_ret (pe_and (C8.pe_c c_is_integer hr (by decide) (by rfl) (pa_cons (pv 0) pa_nil)) (pe_one (pe_cmpR op_eq (pv 0) (pv 1) (nomark _)))))))), ?_⟩
  refine k_no (eB (et_isi (et_var rfl r2) (kit_ty (b := "tuple") (r := false) (by decide +kernel)))) fun H1 e1 => ?_
  refine k_no (eB (et_isi (et_var rfl (up e1 r2)) (kit_ty (b := "str") (r := false) (by decide +kernel)))) fun H2 e2 => ?_
  have e02 := e1.trans e2
  exact j_ret ((et_andV (et_call1 (et_var rfl (up e02 r1)) trivial) fun _ => et_eqI (et_var rfl (up e02 r1)) (et_var rfl (up e02 r2))).is (by simp)) fun v H3 e3 r3 => q v H3 (e02.trans e3) r3
theorem zip_all {α : Type} [DecidableEq α] : ∀ {l m : List α}, l.length = m.length → (((l.zip m).map fun x => decide (x.1 = x.2)).all id) = decide (l = m)
  | [], [], _ => rfl
  | x :: l, y :: m, h => by
    have ih := zip_all (l := l) (m := m) (by simpa using h)
    rw [List.zip_cons_cons, List.map_cons, List.all_cons, ih]
    simp only [id, List.cons.injEq, Bool.decide_and]
theorem ok_sameA {α β : Type} {R : Rp α} {W : Rp β} [DecidableEq α] [DecidableEq β] [Mon R] [Imm R] [Mon W] (fe : β → List α) (fi : ∀ x y, fe x = fe y → x = y) (hW : ∀ {H v x}, W H v x → Rtup R H v (fe x)) (T : Txt K mg) (c_same : Cal P w K mg base 2 "same" (Sp2 R R Rb (fun _ _ => True) fun x y => decide (x = y))) : Cal P w K mg base 3 "same" (Sp2 W W Rb (fun x y => (fe x).length ≤ 1000 ∧ (fe y).length ≤ 1000) fun x y => decide (x = y)) := by
  refine cal_of T.d_same (fun _ _ _ _ _ _ us hl => match us, hl with | [_, _], _ => rfl) sc_same (l2' rfl) (fun cdv f A outer s H vs Q E hr h => ?_)
  have c_is_integer := ok_is_integer (P := P) (w := w) (base := base) T
  obtain ⟨v1, v2, x, y, rfl, r1, r2, hz, q⟩ := h
  have r1 := hW r1
  have r2 := hW r2
  have ef : decide (fe x = fe y) = decide (x = y) := decide_eq_decide.mpr ⟨fi x y, fun h => by rw [h]⟩
  refine ⟨_, (pss_cons (ps_if (pt_val (pe_callB (k_isi K) (by rfl) T.n_isinstance (by decide +kernel) (pa_cons (pv 1) (pa_cons (pe_bltn (v := .ty "tuple") (by rfl) T.n_tuple (by decide +kernel) rfl) pa_nil))))
      (pss_cons (ps_if (PW.pt (pw_or (pt_not (pt_val (pe_callB (k_isi K) (by rfl) T.n_isinstance (by decide +kernel) (pa_cons (pv 0) (pa_cons (pe_bltn (v := .ty "tuple") (by rfl) T.n_tuple (by decide +kernel) rfl) pa_nil))))) (pw_or1 (pt_cmpR op_ne (pe_callB (k_len K) (by rfl) T.n_len (by decide +kernel) (pa_cons (pv 0) pa_nil)) (pe_callB (k_len K) (by rfl) T.n_len (by decide +kernel) (pa_cons (pv 1) pa_nil)) (nomark _)))))
        (pss_one (ps_ret pe_bl)) pss_nil)
      (pss_one (ps_ret (pe_callB (k_all K) (by rfl) T.n_all (by decide +kernel) (pa_cons (pe_lc (own := [("part", 2), ("wanted", 3)]) (g := (gTup K 2 (gCons (gName 2) (gCons (gName 3) gNil)))) (tt := tYes) rfl sc_same.nd (RZ.pi_zipA (by rfl) T.n_zip (pa_cons (pv 0) (pa_cons (pv 1) pa_nil))) (blkOk_by (own := [("part", 2), ("wanted", 3)]) (N := ["thing", "due", "part", "wanted"]) (sc := defScope s_same) (by decide +kernel)) (fun _ _ _ _ _ => (pg_tup rfl (pgs_cons (pg_name (i := 2) sc_same.nd rfl (Or.inl rfl)) (pgs_cons (pg_name (i := 3) sc_same.nd rfl (Or.inl rfl)) pgs_nil)))) (fun _ _ _ _ _ => pts_nil) (fun _ _ _ _ _ => (C8.pe_c c_same hr (by decide) (by rfl) (pa_cons (pv 2) (pa_cons (pv 3) pa_nil))))) pa_nil))))) pss_nil)
    (pss_cons (ps_if (pt_val (pe_callB (k_isi K) (by rfl) T.n_isinstance (by decide +kernel) (pa_cons (pv 1) (pa_cons (pe_bltn (v := .ty "str") (by rfl) T.n_str (by decide +kernel) rfl) pa_nil))))
      (pss_one (ps_ret (pe_and (pe_callB (k_isi K) (by rfl) T.n_isinstance (by decide +kernel) (pa_cons (pv 0) (pa_cons (pe_bltn (v := .ty "str") (by rfl) T.n_str (by decide +kernel) rfl) pa_nil))) (pe_one (pe_cmpR op_eq (pv 0) (pv 1) (nomark _)))))) pss_nil)
    (pss_one (ps_ret (pe_and (C8.pe_c c_is_integer hr (by decide) (by rfl) (pa_cons (pv 0) pa_nil)) (pe_one (pe_cmpR op_eq (pv 0) (pv 1) (nomark _)))))))), ?_⟩
  refine k_when (b := true) (eB (et_isi (et_var rfl r2) (kit_ty (b := "tuple") (r := true) (by decide +kernel)))) (fun _ H1 e1 => ?_) (fun h => by cases h)
  have r1 := up e1 r1
  have r2 := up e1 r2
  refine k_when (b := !decide (((fe x).length : Int) = ((fe y).length : Int))) (et_is (et_or (et_not (eB (et_isi (et_var rfl r1) (kit_ty (b := "tuple") (r := true) (by decide +kernel))))) fun _ => eT (et_neI (et_len (et_var rfl r1)) (et_len (et_var rfl r2)))) rfl) (fun hb H2 e2 => ?_) (fun hb H2 e2 => ?_)
  · refine j_ret et_bl fun v H3 e3 r3 => ?_
    refine q v H3 ((e1.trans e2).trans e3) ?_
    have : decide (x = y) = false := decide_eq_false fun z => by rw [z] at hb; simp at hb
    show Rb H3 v (decide (x = y))
    rw [this]
    exact r3
  · have hl : (fe x).length = (fe y).length := by
      have h2 : ((fe x).length : Int) = ((fe y).length : Int) := by simpa using hb
      omega
    refine j_ret ((et_all (el_mapP (fun z : α × α => decide (z.1 = z.2)) (ei_zip (et_var rfl (up e2 r1)) (et_var rfl (up e2 r2)) hl) (by rw [List.length_zip]; omega) (fun _ _ => rfl) fun u v z Hx hz ex ru rv => et_call2 (et_var rfl ru) (et_var rfl rv) trivial).et).is ((zip_all hl).trans ef)) fun v H3 e3 r3 => q v H3 ((e1.trans e2).trans e3) r3
theorem ok_sameB {α β : Type} {R : Rp α} {W : Rp β} [DecidableEq α] [DecidableEq β] [Mon R] [Imm R] [Mon W] (pre : α → Prop) (fe : β → List α) (fi : ∀ x y, fe x = fe y → x = y) (hW : ∀ {H v x}, W H v x → Rtup R H v (fe x)) (T : Txt K mg) (c_same : Cal P w K mg base 3 "same" (Sp2 R R Rb (fun x y => pre x ∧ pre y) fun x y => decide (x = y))) : Cal P w K mg base 4 "same" (Sp2 W W Rb (fun x y => ((fe x).length ≤ 1000 ∧ (fe y).length ≤ 1000) ∧ (∀ a ∈ fe x, pre a) ∧ ∀ a ∈ fe y, pre a) fun x y => decide (x = y)) := by
  refine cal_of T.d_same (fun _ _ _ _ _ _ us hl => match us, hl with | [_, _], _ => rfl) sc_same (l2' rfl) (fun cdv f A outer s H vs Q E hr h => ?_)
  have c_is_integer := ok_is_integer (P := P) (w := w) (base := base) T
  obtain ⟨v1, v2, x, y, rfl, r1, r2, ⟨hz, hp1, hp2⟩, q⟩ := h
  have r1 := hW r1
  have r2 := hW r2
  have ef : decide (fe x = fe y) = decide (x = y) := decide_eq_decide.mpr ⟨fi x y, fun h => by rw [h]⟩
  refine ⟨_, (pss_cons (ps_if (pt_val (pe_callB (k_isi K) (by rfl) T.n_isinstance (by decide +kernel) (pa_cons (pv 1) (pa_cons (pe_bltn (v := .ty "tuple") (by rfl) T.n_tuple (by decide +kernel) rfl) pa_nil))))
      (pss_cons (ps_if (PW.pt (pw_or (pt_not (pt_val (pe_callB (k_isi K) (by rfl) T.n_isinstance (by decide +kernel) (pa_cons (pv 0) (pa_cons (pe_bltn (v := .ty "tuple") (by rfl) T.n_tuple (by decide +kernel) rfl) pa_nil))))) (pw_or1 (pt_cmpR op_ne (pe_callB (k_len K) (by rfl) T.n_len (by decide +kernel) (pa_cons (pv 0) pa_nil)) (pe_callB (k_len K) (by rfl) T.n_len (by decide +kernel) (pa_cons (pv 1) pa_nil)) (nomark _)))))
        (pss_one (ps_ret pe_bl)) pss_nil)
      (pss_one (ps_ret (pe_callB (k_all K) (by rfl) T.n_all (by decide +kernel) (pa_cons (pe_lc (own := [("part", 2), ("wanted", 3)]) (g := (gTup K 2 (gCons (gName 2) (gCons (gName 3) gNil)))) (tt := tYes) rfl sc_same.nd (RZ.pi_zipA (by rfl) T.n_zip (pa_cons (pv 0) (pa_cons (pv 1) pa_nil))) (blkOk_by (own := [("part", 2), ("wanted", 3)]) (N := ["thing", "due", "part", "wanted"]) (sc := defScope s_same) (by decide +kernel)) (fun _ _ _ _ _ => (pg_tup rfl (pgs_cons (pg_name (i := 2) sc_same.nd rfl (Or.inl rfl)) (pgs_cons (pg_name (i := 3) sc_same.nd rfl (Or.inl rfl)) pgs_nil)))) (fun _ _ _ _ _ => pts_nil) (fun _ _ _ _ _ => (C8.pe_c c_same hr (by decide) (by rfl) (pa_cons (pv 2) (pa_cons (pv 3) pa_nil))))) pa_nil))))) pss_nil)
    (pss_cons (ps_if (pt_val (pe_callB (k_isi K) (by rfl) T.n_isinstance (by decide +kernel) (pa_cons (pv 1) (pa_cons (pe_bltn (v := .ty "str") (by rfl) T.n_str (by decide +kernel) rfl) pa_nil))))
      (pss_one (ps_ret (pe_and (pe_callB (k_isi K) (by rfl) T.n_isinstance (by decide +kernel) (pa_cons (pv 0) (pa_cons (pe_bltn (v := .ty "str") (by rfl) T.n_str (by decide +kernel) rfl) pa_nil))) (pe_one (pe_cmpR op_eq (pv 0) (pv 1) (nomark _)))))) pss_nil)
    (pss_one (ps_ret (pe_and (C8.pe_c c_is_integer hr (by decide) (by rfl) (pa_cons (pv 0) pa_nil)) (pe_one (pe_cmpR op_eq (pv 0) (pv 1) (nomark _)))))))), ?_⟩
  refine k_when (b := true) (eB (et_isi (et_var rfl r2) (kit_ty (b := "tuple") (r := true) (by decide +kernel)))) (fun _ H1 e1 => ?_) (fun h => by cases h)
  have r1 := up e1 r1
  have r2 := up e1 r2
  refine k_when (b := !decide (((fe x).length : Int) = ((fe y).length : Int))) (et_is (et_or (et_not (eB (et_isi (et_var rfl r1) (kit_ty (b := "tuple") (r := true) (by decide +kernel))))) fun _ => eT (et_neI (et_len (et_var rfl r1)) (et_len (et_var rfl r2)))) rfl) (fun hb H2 e2 => ?_) (fun hb H2 e2 => ?_)
  · refine j_ret et_bl fun v H3 e3 r3 => ?_
    refine q v H3 ((e1.trans e2).trans e3) ?_
    have : decide (x = y) = false := decide_eq_false fun z => by rw [z] at hb; simp at hb
    show Rb H3 v (decide (x = y))
    rw [this]
    exact r3
  · have hl : (fe x).length = (fe y).length := by
      have h2 : ((fe x).length : Int) = ((fe y).length : Int) := by simpa using hb
      omega
    refine j_ret ((et_all (el_mapP (fun z : α × α => decide (z.1 = z.2)) (ei_zip (et_var rfl (up e2 r1)) (et_var rfl (up e2 r2)) hl) (by rw [List.length_zip]; omega) (fun _ _ => rfl) fun u v z Hx hz ex ru rv => et_call2 (et_var rfl ru) (et_var rfl rv) ⟨hp1 _ (List.of_mem_zip hz).1, hp2 _ (List.of_mem_zip hz).2⟩).et).is ((zip_all hl).trans ef)) fun v H3 e3 r3 => q v H3 ((e1.trans e2).trans e3) r3
theorem tup_P {H : Hp} {v : V} {p : Ct.P} (h : Rp2 H v p) : Rtup Ri H v [p.1, p.2] := by
  obtain ⟨a, u, w, h1, h2, h3, h4⟩ := h
  exact ⟨a, [u, w], h1, h2, .cons h3 (.cons h4 .nil)⟩
theorem two_inj (x y : Ct.P) (h : ([x.1, x.2] : List Int) = [y.1, y.2]) : x = y := by
  injection h with h1 h2
  injection h2 with h2
  exact Prod.ext h1 h2
theorem ok_same2 (T : Txt K mg) : Cal P w K mg base 3 "same" (Sp2 Rp2 Rp2 Rb (fun x y => ([x.1, x.2] : List Int).length ≤ 1000 ∧ ([y.1, y.2] : List Int).length ≤ 1000) fun x y => decide (x = y)) := ok_sameA (R := Ri) (W := Rp2) (fun p => [p.1, p.2]) two_inj tup_P T (ok_same1 T)
theorem ok_same (T : Txt K mg) : Cal P w K mg base 4 "same" (Sp2 Rld Rld Rb (fun x y => (x.length ≤ 1000 ∧ y.length ≤ 1000) ∧ (∀ a ∈ x, ([a.1, a.2] : List Int).length ≤ 1000) ∧ ∀ a ∈ y, ([a.1, a.2] : List Int).length ≤ 1000) fun x y => decide (x = y)) := ok_sameB (R := Rp2) (W := Rld) (fun a => ([a.1, a.2] : List Int).length ≤ 1000) (fun l => l) (fun _ _ h => h) (fun h => h) T (ok_same2 T)
/-! ### after_load -/
def afterOf (s : Sh) (p : Ct.P) (l : Ld) : Option Sh := ((nextShapes s p).find? fun n => decide (l = n.1)).map (·.2)
def ROp {α : Type} (S : Rp α) : Rp (Option α) := fun H u o => match o with | some v => S H u v | none => u = .non
instance {α : Type} {S : Rp α} [Mon S] : Mon (ROp S) := ⟨fun {H H' v x} e h => by cases x with | none => exact h | some y => exact up (R := S) e h⟩
def spAfter : Sp := fun vs H Q _ => ∃ (v1 v2 v3 : V) (s : Sh) (p : Ct.P) (l : Ld), vs = [v1, v2, v3] ∧ Rsh H v1 s ∧ Rp2 H v2 p ∧ (nextShapes s p = [] ∨ Rld H v3 l) ∧ (s.length ≤ 1000 ∧ (∀ l ∈ s, l.length ≤ 1000) ∧ l.length ≤ 1000) ∧ ∀ u H', Ex H H' → ROp Rsh H' u (afterOf s p l) → Q u H'
theorem lenAfter {n : Nat} (hn : n = 3) : ∀ vs H Q E, spAfter vs H Q E → vs.length = n := fun _ _ _ _ ⟨_, _, _, _, _, _, h, _⟩ => by rw [h, hn]; rfl
theorem next_in {s : Sh} {p : Ct.P} {n : NX} (h : n ∈ nextShapes s p) : n.1 ∈ s ∧ fits n.1 p = true := by
  unfold nextShapes at h
  obtain ⟨x, hx, rfl⟩ := List.mem_map.mp h
  obtain ⟨hx1, hx2⟩ := List.mem_filter.mp hx
  obtain ⟨_, _, hx3⟩ := List.mem_zipIdx hx1
  rw [Bool.and_eq_true] at hx2
  exact ⟨hx3 ▸ List.getElem_mem _, hx2.2⟩
theorem sc_after_load : FnScope ["one", "pair", "entry", "load", "behind"] ["one", "pair", "entry"] (defScope s_after_load) := ⟨rfl, rfl, rfl, by decide +kernel, rfl, by decide +kernel, by decide +kernel⟩
theorem ok_after_load (T : Txt K mg) : Cal P w K mg base 5 "after_load" spAfter := by
  refine cal_of T.d_after_load (fun _ _ _ _ _ _ us hl => match us, hl with | [_, _, _], _ => rfl) sc_after_load (lenAfter rfl) (fun cdv f A outer s H vs Q E hr h => ?_)
  have c_next_shapes := ok_next_shapes (P := P) (w := w) (base := base) T
  have c_same := ok_same (P := P) (w := w) (base := base) T
  obtain ⟨v1, v2, v3, s, p, l, rfl, r1, r2, r3, ⟨hz1, hz2, hz3⟩, q⟩ := h
  refine ⟨_, (pss_cons (ps_for PassesOwn.never rfl (k_piL K (C8.pe_c c_next_shapes hr (by decide) (by rfl) (pa_cons (pv 0) (pa_cons (pv 1) pa_nil)))) (pg_tup rfl (pgs_cons (pg_name (i := 3) sc_after_load.nd rfl (Or.inl rfl)) (pgs_cons (pg_name (i := 4) sc_after_load.nd rfl (Or.inl rfl)) pgs_nil)))
      (pss_one (ps_if (pt_val (C8.pe_c c_same hr (by decide) (by rfl) (pa_cons (pv 2) (pa_cons (pv 3) pa_nil))))
        (pss_one (ps_ret (pv 4))) pss_nil)))
    (pss_one (ps_ret pe_non))), ?_⟩
  let g : NX → Bool := fun n => decide (l = n.1)
  refine j_forN (R := Rnx) (l := nextShapes s p) (D := { nx := _, rt := Q, bk := _, ct := _ }) (el_call2 (et_var rfl r1) (et_var rfl r2) ⟨hz1, hz2⟩) fun al xs H1 hn1 e1 hal hxs => ?_
  refine ⟨fun i σ' H' => ∃ (a3 a4 : Option V), σ' = [some v1, some v2, some v3, a3, a4] ∧ Ex H1 H' ∧ (((nextShapes s p).take i).find? g) = none, ⟨none, none, rfl, Ex.refl _, rfl⟩, ?_, ?_, ?_⟩
  · rintro i σ' H' hi ⟨a3, a4, rfl, e2, _⟩
    exact ⟨e2 _ _ hal, pup e2 hxs⟩
  · rintro i n v σ' H' hni ⟨a3, a4, rfl, e2, hf⟩ rn
    have hm := List.mem_of_getElem? hni
    have hne : nextShapes s p ≠ [] := fun z => by rw [z] at hm; cases hm
    have r3 := r3.resolve_left hne
    refine g_pair rn fun u t ru rt => ?_
    have hnl := hz2 _ (next_in hm).1
    refine j_when (b := g n) (eT (et_call2 (et_var rfl (up (e1.trans e2) r3)) (et_var rfl ru) ⟨⟨hz3, hnl⟩, fun _ _ => by simp, fun _ _ => by simp⟩)) (fun hb H3 e3 => ?_) (fun hb H3 e3 => ⟨_, _, rfl, e2.trans e3, ?_⟩)
    · refine j_ret (D := { nx := _, rt := Q, bk := _, ct := _ }) (R := Rsh) (x := n.2) (et_var rfl (up e3 rt)) fun u3 H4 e4 r4 => q _ _ (((e1.trans e2).trans e3).trans e4) ?_
      have hfind : (nextShapes s p).find? g = some n := by
        have hsp : nextShapes s p = (nextShapes s p).take i ++ (n :: (nextShapes s p).drop (i + 1)) := by
          have h5 := (List.take_append_drop i (nextShapes s p)).symm
          have h6 : (nextShapes s p).drop i = n :: (nextShapes s p).drop (i + 1) := by
            obtain ⟨hlt, hget⟩ := List.getElem?_eq_some_iff.mp hni
            rw [List.drop_eq_getElem_cons hlt, hget]
          rw [h6] at h5
          exact h5
        rw [hsp, List.find?_append, hf, List.find?_cons, hb]
        rfl
      show ROp Rsh H4 u3 (((nextShapes s p).find? g).map (·.2))
      rw [hfind]
      exact r4
    · rw [take_one hni, List.find?_append, hf, List.find?_cons, hb]
      rfl
  · rintro σ' H' ⟨a3, a4, rfl, e2, hf⟩
    rw [List.take_length] at hf
    show Q V.non H'
    refine q _ _ (e1.trans e2) ?_
    show ROp Rsh H' .non (((nextShapes s p).find? g).map (·.2))
    rw [hf]
    rfl
/-! ### fault_of_shape -/
structure KeepAt (e : EX) (keys : List Sh) (tab : Tab) (s : Sh) : Prop where
  sh : ShOk e s
  call : ∀ p ∈ openPairs e s, ∃ l b, look tab (s, p) = some l ∧ l.length ≤ 1000 ∧ afterOf s p l = some b ∧ b ∈ keys
  end_ : ∀ x ∈ endsOf s, x.2.2 ∈ keys
def spFault (P : Program) (w : World) (K : PySem.W.Frag) : Sp := fun vs H Q _ => ∃ (v1 v2 v3 v4 v5 : V) (e : EX) (kn : List (Sh × Unit)) (tab : Tab) (s : Sh), vs = [v1, v2, v3, v4, v5] ∧ RX K H v1 e ∧ RXd P w H v2 kn ∧ RT P w H v3 tab ∧ Rsh H v4 s ∧ EOk e ∧ KeepAt e (kn.map (·.1)) tab s ∧ ∀ H', Ex H H' → Q .non H'
theorem lenFault {n : Nat} (hn : n = 5) : ∀ vs H Q E, spFault P w K vs H Q E → vs.length = n := fun _ _ _ _ ⟨_, _, _, _, _, _, _, _, _, h, _⟩ => by rw [h, hn]; rfl
theorem et_isO {α : Type} {S : Rp α} {o : Option α} (hS : ∀ H x, ¬ S H .non x) (h : ET ta σ H (ROp S) o) : ET (tOp (fun x y H Q => y = .non ∧ Q (.bl (decide (x = .non))) H) ta (tC .non)) σ H Rb (!o.isSome) := fun H1 e Q q =>
  h H1 e _ fun v H2 e2 r => ⟨rfl, by
    refine q _ H2 e2 ?_
    show V.bl _ = V.bl _
    cases o with
    | none => have : v = .non := r; subst this; rfl
    | some y => have r : S H2 v y := r; rw [decide_eq_false (fun z => by rw [z] at r; exact hS _ _ r)]; rfl⟩
theorem sc_fault_of_shape : FnScope ["exchange", "known", "table", "one", "k", "pair", "behind", "load"] ["exchange", "known", "table", "one", "k"] (defScope s_fault_of_shape) := ⟨rfl, rfl, rfl, by decide +kernel, rfl, by decide +kernel, by decide +kernel⟩
theorem ok_fault_of_shape (T : Txt K mg) : Cal P w K mg base 6 "fault_of_shape" (spFault P w K) := by
  refine cal_of T.d_fault_of_shape (fun _ _ _ _ _ _ us hl => match us, hl with | [_, _, _, _, _], _ => rfl) sc_fault_of_shape (lenFault rfl) (fun cdv f A outer s H vs Q E hr h => ?_)
  have hu := hr.units
  have c_open_pairs := ok_open_pairs (P := P) (w := w) (base := base) T
  have c_ends_of := ok_ends_of (P := P) (w := w) (base := base) T
  have c_after_load := ok_after_load (P := P) (w := w) (base := base) T
  obtain ⟨v1, v2, v3, v4, v5, e, kn, tab, s, rfl, r1, r2, r3, r4, he, hk, q⟩ := h
  refine ⟨_, (pss_cons (ps_for PassesOwn.never rfl (k_piL K (C8.pe_c c_open_pairs hr (by decide) (by rfl) (pa_cons (pv 0) (pa_cons (pv 3) pa_nil)))) (pg_name (i := 5) sc_fault_of_shape.nd rfl (Or.inl rfl))
      (pss_cons (ps_set (i := 6) sc_fault_of_shape.nd rfl (Or.inl rfl) (C8.pe_c c_after_load hr (by decide) (by rfl) (pa_cons (pv 3) (pa_cons (pv 5) (pa_cons (pe_bmX PySem.F.slot_dict_get PySem.F.type_dict_get (k_getX P w hu) (pv 2) (pa_cons (pe_tup (pa_cons (pv 3) (pa_cons (pv 5) pa_nil))) pa_nil)) pa_nil)))))
      (pss_one (ps_if (PW.pt (pw_or (pt_cmpR op_isN (pv 6) pe_non (nomark _)) (pw_or1 (pt_cmpR (k_ninX P w hu) (pv 6) (pv 1) rfl))))
        (pss_one (ps_ret (pe_tup (pa_cons pe_str (pa_cons (pv 4) (pa_cons (pv 5) pa_nil)))))) pss_nil))))
    (pss_cons (ps_for PassesOwn.never rfl (k_piL K (C8.pe_c c_ends_of hr (by decide) (by rfl) (pa_cons (pv 3) pa_nil))) (pg_tup rfl (pgs_cons (pg_name (i := 5) sc_fault_of_shape.nd rfl (Or.inl rfl)) (pgs_cons (pg_name (i := 7) sc_fault_of_shape.nd rfl (Or.inl rfl)) (pgs_cons (pg_name (i := 6) sc_fault_of_shape.nd rfl (Or.inl rfl)) pgs_nil))))
      (pss_one (ps_if (pt_cmpR (k_ninX P w hu) (pv 6) (pv 1) rfl)
        (pss_one (ps_ret (pe_tup (pa_cons pe_str (pa_cons (pv 4) (pa_cons (pv 5) (pa_cons (pv 7) pa_nil))))))) pss_nil)))
    (pss_one (ps_ret pe_non)))), ?_⟩
  have hs := hk.sh
  have hsm := hs.small he
  refine j_forN (R := Rp2) (l := openPairs e s) (D := { nx := _, rt := Q, bk := _, ct := _ }) (el_call2 (et_var rfl r1) (et_var rfl r4) ⟨he, hs⟩) fun al xs H1 hn1 e1 hal hxs => ?_
  refine ⟨fun i σ' H' => ∃ (a5 a6 : Option V), σ' = [some v1, some v2, some v3, some v4, some v5, a5, a6, none] ∧ Ex H1 H', ⟨none, none, rfl, Ex.refl _⟩, ?_, ?_, ?_⟩
  · rintro i σ' H' hi ⟨a5, a6, rfl, e2⟩
    exact ⟨e2 _ _ hal, pup e2 hxs⟩
  · rintro i p vp σ' H' hpi ⟨a5, a6, rfl, e2⟩ rp
    obtain ⟨l, b, hl1, hl2, hl3, hl4⟩ := hk.call p (List.mem_of_getElem? hpi)
    have e12 := e1.trans e2
    refine k_set (R := ROp Rsh) (x := some b) ?_ fun v6 H3 e3 r6 => ?_
    · have eg : ET (tBMX P w (rGet1X P w) (tVar 2) (tCons (tTup (tCons (tVar 3) (tCons (tVar 5) tNil))) tNil)) [some v1, some v2, some v3, some v4, some v5, some vp, a6, none] H' _ (look tab (s, p)) := et_getX (R := Rsp) (S := Rld) (d := tab) (k := (s, p)) (et_var rfl (up e12 r3)) (et_pr (et_var rfl (up e12 r4)) (et_var rfl rp))
      intro G eG Q' q'
      refine ⟨v4, rfl, vp, rfl, eg G eG _ fun w3 G3 g3 s3 => ?_⟩
      rw [hl1] at s3
      exact ⟨v4, vp, w3, s, p, l, rfl, up (eG.trans g3) (up e12 r4), up (eG.trans g3) rp, .inr s3, ⟨by omega, fun l hl => by have := hsm.2 l hl; omega, hl2⟩, fun u G4 g4 r => q' u G4 (g3.trans g4) (by rw [← hl3]; exact r)⟩
    · refine j_no (et_is (et_or (a := !(some b).isSome) (eB (et_isO (S := Rsh) (fun _ _ z => by obtain ⟨_, _, z, _⟩ := z; cases z) (et_var rfl r6))) fun _ => eB (et_ninX (dd := inferInstance) (R := Rsh) (S := Rany) (k := b) (et_var rfl r6) (et_var rfl (up (e12.trans e3) r2)))) ?_) fun H4 e4 => ⟨_, _, rfl, (e2.trans e3).trans e4⟩
      simp [hl4]
  · rintro σ' H' ⟨a5, a6, rfl, e2⟩
    have e12 := e1.trans e2
    refine j_forN (R := Rend) (l := endsOf s) (D := { nx := _, rt := Q, bk := _, ct := _ }) (el_call1 (et_var rfl (up e12 r4)) hsm) fun al xs H3 hn3 e3 hal hxs => ?_
    refine ⟨fun i σ' H' => ∃ (a5 a6 a7 : Option V), σ' = [some v1, some v2, some v3, some v4, some v5, a5, a6, a7] ∧ Ex H3 H', ⟨a5, a6, none, rfl, Ex.refl _⟩, ?_, ?_, ?_⟩
    · rintro i σ' H' hi ⟨a5, a6, a7, rfl, e4⟩
      exact ⟨e4 _ _ hal, pup e4 hxs⟩
    · rintro i x v σ' H' hxi ⟨a5, a6, a7, rfl, e4⟩ rx
      refine g_tri rx fun u t z ru rt rz => ?_
      have hx := hk.end_ x (List.mem_of_getElem? hxi)
      refine j_no (et_is (eB (et_ninX (dd := inferInstance) (R := Rsh) (S := Rany) (k := x.2.2) (et_var rfl rz) (et_var rfl (up ((e12.trans e3).trans e4) r2)))) (by simp [hx])) fun H5 e5 => ⟨_, _, _, rfl, e4.trans e5⟩
    · rintro σ' H' ⟨a5, a6, a7, rfl, e4⟩
      exact q _ ((e12.trans e3).trans e4)
/-! ### keep_fault -/
def spKeepF (P : Program) (w : World) (K : PySem.W.Frag) : Sp := fun vs H Q _ => ∃ (v1 v2 v3 : V) (e : EX) (L : List Sh) (tab : Tab), vs = [v1, v2, v3] ∧ RX K H v1 e ∧ Rlst Rsh H v2 L ∧ RT P w H v3 tab ∧ EOk e ∧ L.length ≤ 2000 ∧ (∀ s ∈ L, asShape s = s) ∧ emptyOf e ∈ L ∧ (∀ s ∈ L, KeepAt e L tab s) ∧ ∀ H', Ex H H' → Q .non H'
theorem lenKeepF {n : Nat} (hn : n = 3) : ∀ vs H Q E, spKeepF P w K vs H Q E → vs.length = n := fun _ _ _ _ ⟨_, _, _, _, _, _, h, _⟩ => by rw [h, hn]; rfl
theorem dput_keys {κ ν : Type} [DecidableEq κ] {d : List (κ × ν)} {k x : κ} {v : ν} : x ∈ (dput d k v).map (·.1) ↔ x ∈ d.map (·.1) ∨ x = k := by
  unfold dput
  split
  · rename_i h
    have e1 : (d.map fun x => if x.1 = k then (x.1, v) else x).map (·.1) = d.map (·.1) := by
      rw [List.map_map]
      refine List.map_congr_left fun y _ => ?_
      show (if y.1 = k then (y.1, v) else y).1 = y.1
      split <;> rfl
    rw [e1]
    exact ⟨.inl, fun z => z.elim id fun z => z ▸ h⟩
  · rw [List.map_append, List.mem_append]
    simp
theorem KeepAt.keys {e : EX} {k1 k2 : List Sh} {tab : Tab} {s : Sh} (h : KeepAt e k1 tab s) (hk : ∀ x ∈ k1, x ∈ k2) : KeepAt e k2 tab s :=
  ⟨h.sh, fun p hp => let ⟨l, b, h1, h2, h3, h4⟩ := h.call p hp; ⟨l, b, h1, h2, h3, hk _ h4⟩, fun x hx => hk _ (h.end_ x hx)⟩
theorem sc_keep_fault : FnScope ["exchange", "shapes", "table", "known", "k", "one", "fault"] ["exchange", "shapes", "table"] (defScope s_keep_fault) := ⟨rfl, rfl, rfl, by decide +kernel, rfl, by decide +kernel, by decide +kernel⟩
theorem ok_keep_fault (T : Txt K mg) : Cal P w K mg base 7 "keep_fault" (spKeepF P w K) := by
  refine cal_of T.d_keep_fault (fun _ _ _ _ _ _ us hl => match us, hl with | [_, _, _], _ => rfl) sc_keep_fault (lenKeepF rfl) (fun cdv f A outer s H vs Q E hr h => ?_)
  have hu := hr.units
  have c_empty := ok_empty (P := P) (w := w) (base := base) T
  have c_fault_of_shape := ok_fault_of_shape (P := P) (w := w) (base := base) T
  have c_is_shape := ok_is_shape (P := P) (w := w) (base := base) T
  obtain ⟨v1, v2, v3, e, L, tab, rfl, r1, r2, r3, he, hL, has, hem, hk, q⟩ := h
  refine ⟨_, (pss_cons (ps_if (PW.pt (pw_or (pt_not (pt_val (pe_callB (k_isi K) (by rfl) T.n_isinstance (by decide +kernel) (pa_cons (pv 1) (pa_cons (pe_bltn (v := .ty "list") (by rfl) T.n_list (by decide +kernel) rfl) pa_nil))))) (pw_or1 (pt_not (pt_val (pe_callB (k_isiX K P w) (by rfl) T.n_isinstance (by decide +kernel) (pa_cons (pv 2) (pa_cons (pe_bltn (v := .ty "dict") (by rfl) T.n_dict (by decide +kernel) rfl) pa_nil))))))))
      (pss_one (ps_ret (pe_tup (pa_cons pe_str pa_nil)))) pss_nil)
    (pss_cons (ps_set (i := 3) sc_keep_fault.nd rfl (Or.inl rfl) (k_dnew P w))
    (pss_cons (ps_for PassesOwn.never rfl (pi_enum (by rfl) T.n_enumerate (pa_cons (pv 1) pa_nil)) (pg_tup rfl (pgs_cons (pg_name (i := 4) sc_keep_fault.nd rfl (Or.inl rfl)) (pgs_cons (pg_name (i := 5) sc_keep_fault.nd rfl (Or.inl rfl)) pgs_nil)))
      (pss_cons (ps_if (pt_not (pt_val (C8.pe_c c_is_shape hr (by decide) (by rfl) (pa_cons (pv 0) (pa_cons (pv 5) pa_nil)))))
        (pss_one (ps_ret (pe_tup (pa_cons pe_str (pa_cons (pv 4) pa_nil))))) pss_nil)
      (pss_one (ps_asg pe_bl (pg_sub (pv 3) (pv 5) (k_setX P w hu))))))
    (pss_cons (ps_if (pt_cmpR (k_ninX P w hu) (C8.pe_c c_empty hr (by decide) (by rfl) (pa_cons (pv 0) pa_nil)) (pv 3) rfl)
      (pss_one (ps_ret (pe_tup (pa_cons pe_str pa_nil)))) pss_nil)
    (pss_cons (ps_for PassesOwn.never rfl (pi_enum (by rfl) T.n_enumerate (pa_cons (pv 1) pa_nil)) (pg_tup rfl (pgs_cons (pg_name (i := 4) sc_keep_fault.nd rfl (Or.inl rfl)) (pgs_cons (pg_name (i := 5) sc_keep_fault.nd rfl (Or.inl rfl)) pgs_nil)))
      (pss_cons (ps_set (i := 6) sc_keep_fault.nd rfl (Or.inl rfl) (C8.pe_c c_fault_of_shape hr (by decide) (by rfl) (pa_cons (pv 0) (pa_cons (pv 3) (pa_cons (pv 2) (pa_cons (pv 5) (pa_cons (pv 4) pa_nil)))))))
      (pss_one (ps_if (pt_cmpR op_notN (pv 6) pe_non (nomark _))
        (pss_one (ps_ret (pv 6))) pss_nil))))
    (pss_one (ps_ret pe_non))))))), ?_⟩
  refine k_no (et_is (et_or (a := !true) (et_not (eB (et_isi (et_var rfl r2) (kit_ty (b := "list") (r := true) (by decide +kernel))))) fun _ => et_not (eB (et_isiX (R := Rsp) (S := Rld) (d := tab) (et_var rfl r3) (kit_ty (b := "dict") (r := true) (by decide +kernel))))) rfl) fun H1 e1 => ?_
  refine k_dnewX (R := Rsh) (S := Rany) fun D H2 hD m0 e2 => ?_
  have hD0 : H D = none := fresh_back e1 hD
  have m0 : MkX P w H Rsh Rany D [] H2 := ⟨e1.trans m0.1, m0.2⟩
  refine j_forEL (R := Rsh) (l := L) (D := { nx := _, rt := Q, bk := _, ct := _ }) (et_var rfl (up m0.1 r2)) fun al xs H3 e3 hal hxs => ?_
  refine ⟨fun i σ' H' => ∃ (a4 a5 : Option V) (d : List (Sh × Unit)), σ' = [some v1, some v2, some v3, some (.ref D), a4, a5, none] ∧ Tl H3 H' ∧ MkX P w H Rsh Rany D d H' ∧ d.length ≤ i ∧ ∀ x, x ∈ d.map (·.1) ↔ x ∈ L.take i, ⟨none, none, [], rfl, Tl.refl _, m0.ex e3, Nat.le_refl _, fun x => by simp⟩, ?_, ?_, ?_⟩
  · rintro i σ' H' hi ⟨a4, a5, d, rfl, t, m, _⟩
    exact ⟨t.2 _ _ hal, lims t hxs⟩
  · rintro i s v σ' H' H4 hsi ⟨a4, a5, d, rfl, t, m, hdl, hdk⟩ e4 rs
    have hm := List.mem_of_getElem? hsi
    have rs4 := up e4 rs
    have hil : i < L.length := (List.getElem?_eq_some_iff.mp hsi).1
    refine k_no (et_is (et_not (eB (et_call2 (et_var rfl (up (m.1.trans e4) r1)) (et_var rfl rs4) ⟨he, (hk s hm).sh⟩))) (by simp [has s hm])) fun H5 e5 => ?_
    have m5 := m.ex (e4.trans e5)
    obtain ⟨_, _, hD5, _⟩ := id m5
    refine MkX.set (k := s) (v := ()) m5 hD0 (by omega) (et_c fun _ _ => trivial) (ev_var rfl) (et_var rfl (up e5 rs4)) fun H6 m6 t6 x6 => ⟨_, _, _, rfl, (t.trans (Tl.ex (e4.trans e5))).trans (x6.tl hD5), m6, ?_, fun x => ?_⟩
    · have := dput_len d s ()
      omega
    · rw [dput_keys, hdk, take_one hsi, List.mem_append, List.mem_singleton]
  · rintro σ' H' ⟨a4, a5, d, rfl, t, m, hdl, hdk⟩
    rw [List.take_length] at hdk
    have hek := (hdk _).mpr hem
    refine k_no (et_is (eB (et_ninX (dd := inferInstance) (R := Rsh) (S := Rany) (k := emptyOf e) (et_call1 (et_var rfl (up m.1 r1)) he) (et_var rfl m.dc))) (by simp only [hek, decide_true, Bool.not_true])) fun H5 e5 => ?_
    have m5 := m.ex e5
    refine j_forEL (R := Rsh) (l := L) (D := { nx := _, rt := Q, bk := _, ct := _ }) (et_var rfl (up m5.1 r2)) fun al xs H6 e6 hal hxs => ?_
    have m6 := m5.ex e6
    refine ⟨fun i σ' H' => ∃ (a4 a5 a6 : Option V), σ' = [some v1, some v2, some v3, some (.ref D), a4, a5, a6] ∧ Ex H6 H', ⟨a4, a5, none, rfl, Ex.refl _⟩, ?_, ?_, ?_⟩
    · rintro i σ' H' hi ⟨a4, a5, a6, rfl, e7⟩
      exact ⟨e7 _ _ hal, pup e7 hxs⟩
    · rintro i s v σ' H' H8 hsi ⟨a4, a5, a6, rfl, e7⟩ e8 rs
      have hm := List.mem_of_getElem? hsi
      have m8 := m6.ex (e7.trans e8)
      refine k_set (R := Rnon) (x := ()) ?_ fun v6 H9 e9 r9 => ?_
      · intro G eG Q' q'
        exact ⟨v1, rfl, .ref D, rfl, v3, rfl, v, rfl, _, rfl, v1, .ref D, v3, v, _, e, d, tab, s, rfl, up eG (up m8.1 r1), up eG m8.dc, up eG (up m8.1 r3), up eG (up e8 rs), he, (hk s hm).keys fun x hx => (hdk x).mpr hx, fun G5 g5 => q' _ G5 g5 rfl⟩
      · cases r9
        refine j_no (eB (ET.is (et_b (fun G g Q' q' => ⟨_, rfl, rfl, q' G (Ex.refl _)⟩)) rfl)) fun H10 e10 => ⟨_, _, _, rfl, ((e7.trans e8).trans e9).trans e10⟩
    · rintro σ' H' ⟨a4, a5, a6, rfl, e7⟩
      exact q _ ((m6.ex e7).1)
end
end Ct
/-! # The walks: the law's own (9): same -/
namespace Ct
open PySem PySem.Spec PyProof.Rows L2 Evl
section
variable {P : Program} {w : World} {K : PySem.W.Frag} {mg : Str → Option Value} {base : Heap} {σ : L2.St} {H : Hp} {ta tb tc : TE} {e : EX}
theorem et_isI {i : Int} (h : ET ta σ H Ri i) : ET (tOp (fun x y H Q => y = .non ∧ Q (.bl (decide (x = .non))) H) ta (tC .non)) σ H Rb false := fun H1 e Q q =>
  h H1 e _ fun v H2 e2 r => ⟨rfl, by cases r; exact q _ H2 e2 rfl⟩
theorem sc__law_same : FnScope ["_law_thing", "_law_due", "_law_k"] ["_law_thing", "_law_due"] (defScope s__law_same) := ⟨rfl, rfl, rfl, by decide +kernel, rfl, by decide +kernel, by decide +kernel⟩
theorem ok__law_same0 (T : Txt K mg) : Cal P w K mg base 1 "_law_same" spNo := by
  refine cal_of T.d__law_same (fun _ _ _ _ _ _ us hl => match us, hl with | [_, _], _ => rfl) sc__law_same (lenNo rfl) (fun cdv f A outer s H vs Q E hr h => ?_)
  exact h.elim
theorem ok__law_same1 (T : Txt K mg) : Cal P w K mg base 2 "_law_same" (Sp2 Ri Ri Rb (fun _ _ => True) fun x y => decide (x = y)) := by
  refine cal_of T.d__law_same (fun _ _ _ _ _ _ us hl => match us, hl with | [_, _], _ => rfl) sc__law_same (l2' rfl) (fun cdv f A outer s H vs Q E hr h => ?_)
  have c__law_same := ok__law_same0 (P := P) (w := w) (base := base) T
  obtain ⟨v1, v2, x, y, rfl, r1, r2, -, q⟩ := h
  refine ⟨_, (pss_cons (ps_if (PW.pt (pw_or (pt_val (pe_callB (k_isi K) (by rfl) T.n_isinstance (by decide +kernel) (pa_cons (pv 1) (pa_cons (pe_bltn (v := .ty "list") (by rfl) T.n_list (by decide +kernel) rfl) pa_nil)))) (pw_or1 (pt_val (pe_callB (k_isi K) (by rfl) T.n_isinstance (by decide +kernel) (pa_cons (pv 1) (pa_cons (pe_bltn (v := .ty "tuple") (by rfl) T.n_tuple (by decide +kernel) rfl) pa_nil)))))))
      (pss_cons (ps_if (PW.pt (pw_or (pt_cmpR op_ne (pe_callB (k_isi K) (by rfl) T.n_isinstance (by decide +kernel) (pa_cons (pv 0) (pa_cons (pe_bltn (v := .ty "list") (by rfl) T.n_list (by decide +kernel) rfl) pa_nil))) (pe_callB (k_isi K) (by rfl) T.n_isinstance (by decide +kernel) (pa_cons (pv 1) (pa_cons (pe_bltn (v := .ty "list") (by rfl) T.n_list (by decide +kernel) rfl) pa_nil))) (nomark _)) (pw_or1 (pt_cmpR op_ne (pe_callB (k_isi K) (by rfl) T.n_isinstance (by decide +kernel) (pa_cons (pv 0) (pa_cons (pe_bltn (v := .ty "tuple") (by rfl) T.n_tuple (by decide +kernel) rfl) pa_nil))) (pe_callB (k_isi K) (by rfl) T.n_isinstance (by decide +kernel) (pa_cons (pv 1) (pa_cons (pe_bltn (v := .ty "tuple") (by rfl) T.n_tuple (by decide +kernel) rfl) pa_nil))) (nomark _)))))
        (pss_one (ps_ret pe_bl)) pss_nil)
      (pss_cons (ps_if (pt_cmpR op_ne (pe_callB (k_len K) (by rfl) T.n_len (by decide +kernel) (pa_cons (pv 0) pa_nil)) (pe_callB (k_len K) (by rfl) T.n_len (by decide +kernel) (pa_cons (pv 1) pa_nil)) (nomark _))
        (pss_one (ps_ret pe_bl)) pss_nil)
      (pss_cons (ps_for PassesOwn.never rfl (pi_range1 (by rfl) T.n_range (pa_cons (pe_callB (k_len K) (by rfl) T.n_len (by decide +kernel) (pa_cons (pv 1) pa_nil)) pa_nil)) (pg_name (i := 2) sc__law_same.nd rfl (Or.inl rfl))
        (pss_one (ps_if (pt_not (pt_val (C8.pe_c c__law_same hr (by decide) (by rfl) (pa_cons (pe_ix (k_ixT K) (pv 0) (pv 2) (fun _ _ => rfl)) (pa_cons (pe_ix (k_ixT K) (pv 1) (pv 2) (fun _ _ => rfl)) pa_nil)))))
          (pss_one (ps_ret pe_bl)) pss_nil)))
      (pss_one (ps_ret pe_bl))))) pss_nil)
    (pss_cons (ps_if (PW.pt (pw_or (pt_cmpR op_isN (pv 1) pe_non (nomark _)) (pw_or1 (pt_cmpR op_isN (pv 0) pe_non (nomark _)))))
      (pss_one (ps_ret (pe_and (pe_cmpR op_isN (pv 1) pe_non (nomark _)) (pe_one (pe_cmpR op_isN (pv 0) pe_non (nomark _)))))) pss_nil)
    (pss_cons (ps_if (PW.pt (pw_or (pt_val (pe_callB (k_isi K) (by rfl) T.n_isinstance (by decide +kernel) (pa_cons (pv 1) (pa_cons (pe_bltn (v := .ty "bool") (by rfl) T.n_bool (by decide +kernel) rfl) pa_nil)))) (pw_or1 (pt_val (pe_callB (k_isi K) (by rfl) T.n_isinstance (by decide +kernel) (pa_cons (pv 0) (pa_cons (pe_bltn (v := .ty "bool") (by rfl) T.n_bool (by decide +kernel) rfl) pa_nil)))))))
      (pss_one (ps_ret (pe_and (pe_callB (k_isi K) (by rfl) T.n_isinstance (by decide +kernel) (pa_cons (pv 1) (pa_cons (pe_bltn (v := .ty "bool") (by rfl) T.n_bool (by decide +kernel) rfl) pa_nil))) (pe_and (pe_callB (k_isi K) (by rfl) T.n_isinstance (by decide +kernel) (pa_cons (pv 0) (pa_cons (pe_bltn (v := .ty "bool") (by rfl) T.n_bool (by decide +kernel) rfl) pa_nil))) (pe_one (pe_cmpR op_eq (pv 1) (pv 0) (nomark _))))))) pss_nil)
    (pss_cons (ps_if (pt_val (pe_callB (k_isi K) (by rfl) T.n_isinstance (by decide +kernel) (pa_cons (pv 1) (pa_cons (pe_bltn (v := .ty "str") (by rfl) T.n_str (by decide +kernel) rfl) pa_nil))))
      (pss_one (ps_ret (pe_and (pe_callB (k_isi K) (by rfl) T.n_isinstance (by decide +kernel) (pa_cons (pv 0) (pa_cons (pe_bltn (v := .ty "str") (by rfl) T.n_str (by decide +kernel) rfl) pa_nil))) (pe_one (pe_cmpR op_eq (pv 0) (pv 1) (nomark _)))))) pss_nil)
    (pss_one (ps_ret (pe_and (pe_callB (k_isi K) (by rfl) T.n_isinstance (by decide +kernel) (pa_cons (pv 0) (pa_cons (pe_bltn (v := .ty "int") (by rfl) T.n_int (by decide +kernel) rfl) pa_nil))) (pe_one (pe_cmpR op_eq (pv 0) (pv 1) (nomark _)))))))))), ?_⟩
  refine k_no (et_is (et_or (a := false) (eB (et_isi (et_var rfl r2) (kit_ty (b := "list") (r := false) (by decide +kernel)))) fun _ => eB (et_isi (et_var rfl r2) (kit_ty (b := "tuple") (r := false) (by decide +kernel)))) rfl) fun H1 e1 => ?_
  have r1 := up e1 r1
  have r2 := up e1 r2
  refine k_no (et_is (et_or (a := false) (eB (et_isI (et_var rfl r2))) fun _ => eB (et_isI (et_var rfl r1))) rfl) fun H2 e2 => ?_
  have r1 := up e2 r1
  have r2 := up e2 r2
  refine k_no (et_is (et_or (a := false) (eB (et_isi (et_var rfl r2) (kit_ty (b := "bool") (r := false) (by decide +kernel)))) fun _ => eB (et_isi (et_var rfl r1) (kit_ty (b := "bool") (r := false) (by decide +kernel)))) rfl) fun H3 e3 => ?_
  have r1 := up e3 r1
  have r2 := up e3 r2
  refine k_no (eB (et_isi (et_var rfl r2) (kit_ty (b := "str") (r := false) (by decide +kernel)))) fun H4 e4 => ?_
  have r1 := up e4 r1
  have r2 := up e4 r2
  exact j_ret ((et_andV (et_isi (et_var rfl r1) (kit_ty (b := "int") (r := true) (by decide +kernel))) fun _ => et_eqI (et_var rfl r1) (et_var rfl r2)).is (by simp)) fun v H5 e5 r5 => q v H5 ((((e1.trans e2).trans e3).trans e4).trans e5) r5
theorem ok__law_sameA {α β : Type} {R : Rp α} {W : Rp β} [DecidableEq α] [DecidableEq β] [Mon R] [Mon W] (fe : β → List α) (fi : ∀ x y, fe x = fe y → x = y) (hW : ∀ {H v x}, W H v x → Rtup R H v (fe x)) (T : Txt K mg) (c__law_same : Cal P w K mg base 2 "_law_same" (Sp2 R R Rb (fun _ _ => True) fun x y => decide (x = y))) : Cal P w K mg base 3 "_law_same" (Sp2 W W Rb (fun x y => (fe x).length ≤ 1000 ∧ (fe y).length ≤ 1000) fun x y => decide (x = y)) := by
  refine cal_of T.d__law_same (fun _ _ _ _ _ _ us hl => match us, hl with | [_, _], _ => rfl) sc__law_same (l2' rfl) (fun cdv f A outer s H vs Q E hr h => ?_)
  obtain ⟨v1, v2, x, y, rfl, r1, r2, hz, q⟩ := h
  have r1 := hW r1
  have r2 := hW r2
  have ef : decide (fe x = fe y) = decide (x = y) := decide_eq_decide.mpr ⟨fi x y, fun h => by rw [h]⟩
  refine ⟨_, (pss_cons (ps_if (PW.pt (pw_or (pt_val (pe_callB (k_isi K) (by rfl) T.n_isinstance (by decide +kernel) (pa_cons (pv 1) (pa_cons (pe_bltn (v := .ty "list") (by rfl) T.n_list (by decide +kernel) rfl) pa_nil)))) (pw_or1 (pt_val (pe_callB (k_isi K) (by rfl) T.n_isinstance (by decide +kernel) (pa_cons (pv 1) (pa_cons (pe_bltn (v := .ty "tuple") (by rfl) T.n_tuple (by decide +kernel) rfl) pa_nil)))))))
      (pss_cons (ps_if (PW.pt (pw_or (pt_cmpR op_ne (pe_callB (k_isi K) (by rfl) T.n_isinstance (by decide +kernel) (pa_cons (pv 0) (pa_cons (pe_bltn (v := .ty "list") (by rfl) T.n_list (by decide +kernel) rfl) pa_nil))) (pe_callB (k_isi K) (by rfl) T.n_isinstance (by decide +kernel) (pa_cons (pv 1) (pa_cons (pe_bltn (v := .ty "list") (by rfl) T.n_list (by decide +kernel) rfl) pa_nil))) (nomark _)) (pw_or1 (pt_cmpR op_ne (pe_callB (k_isi K) (by rfl) T.n_isinstance (by decide +kernel) (pa_cons (pv 0) (pa_cons (pe_bltn (v := .ty "tuple") (by rfl) T.n_tuple (by decide +kernel) rfl) pa_nil))) (pe_callB (k_isi K) (by rfl) T.n_isinstance (by decide +kernel) (pa_cons (pv 1) (pa_cons (pe_bltn (v := .ty "tuple") (by rfl) T.n_tuple (by decide +kernel) rfl) pa_nil))) (nomark _)))))
        (pss_one (ps_ret pe_bl)) pss_nil)
      (pss_cons (ps_if (pt_cmpR op_ne (pe_callB (k_len K) (by rfl) T.n_len (by decide +kernel) (pa_cons (pv 0) pa_nil)) (pe_callB (k_len K) (by rfl) T.n_len (by decide +kernel) (pa_cons (pv 1) pa_nil)) (nomark _))
        (pss_one (ps_ret pe_bl)) pss_nil)
      (pss_cons (ps_for PassesOwn.never rfl (pi_range1 (by rfl) T.n_range (pa_cons (pe_callB (k_len K) (by rfl) T.n_len (by decide +kernel) (pa_cons (pv 1) pa_nil)) pa_nil)) (pg_name (i := 2) sc__law_same.nd rfl (Or.inl rfl))
        (pss_one (ps_if (pt_not (pt_val (C8.pe_c c__law_same hr (by decide) (by rfl) (pa_cons (pe_ix (k_ixT K) (pv 0) (pv 2) (fun _ _ => rfl)) (pa_cons (pe_ix (k_ixT K) (pv 1) (pv 2) (fun _ _ => rfl)) pa_nil)))))
          (pss_one (ps_ret pe_bl)) pss_nil)))
      (pss_one (ps_ret pe_bl))))) pss_nil)
    (pss_cons (ps_if (PW.pt (pw_or (pt_cmpR op_isN (pv 1) pe_non (nomark _)) (pw_or1 (pt_cmpR op_isN (pv 0) pe_non (nomark _)))))
      (pss_one (ps_ret (pe_and (pe_cmpR op_isN (pv 1) pe_non (nomark _)) (pe_one (pe_cmpR op_isN (pv 0) pe_non (nomark _)))))) pss_nil)
    (pss_cons (ps_if (PW.pt (pw_or (pt_val (pe_callB (k_isi K) (by rfl) T.n_isinstance (by decide +kernel) (pa_cons (pv 1) (pa_cons (pe_bltn (v := .ty "bool") (by rfl) T.n_bool (by decide +kernel) rfl) pa_nil)))) (pw_or1 (pt_val (pe_callB (k_isi K) (by rfl) T.n_isinstance (by decide +kernel) (pa_cons (pv 0) (pa_cons (pe_bltn (v := .ty "bool") (by rfl) T.n_bool (by decide +kernel) rfl) pa_nil)))))))
      (pss_one (ps_ret (pe_and (pe_callB (k_isi K) (by rfl) T.n_isinstance (by decide +kernel) (pa_cons (pv 1) (pa_cons (pe_bltn (v := .ty "bool") (by rfl) T.n_bool (by decide +kernel) rfl) pa_nil))) (pe_and (pe_callB (k_isi K) (by rfl) T.n_isinstance (by decide +kernel) (pa_cons (pv 0) (pa_cons (pe_bltn (v := .ty "bool") (by rfl) T.n_bool (by decide +kernel) rfl) pa_nil))) (pe_one (pe_cmpR op_eq (pv 1) (pv 0) (nomark _))))))) pss_nil)
    (pss_cons (ps_if (pt_val (pe_callB (k_isi K) (by rfl) T.n_isinstance (by decide +kernel) (pa_cons (pv 1) (pa_cons (pe_bltn (v := .ty "str") (by rfl) T.n_str (by decide +kernel) rfl) pa_nil))))
      (pss_one (ps_ret (pe_and (pe_callB (k_isi K) (by rfl) T.n_isinstance (by decide +kernel) (pa_cons (pv 0) (pa_cons (pe_bltn (v := .ty "str") (by rfl) T.n_str (by decide +kernel) rfl) pa_nil))) (pe_one (pe_cmpR op_eq (pv 0) (pv 1) (nomark _)))))) pss_nil)
    (pss_one (ps_ret (pe_and (pe_callB (k_isi K) (by rfl) T.n_isinstance (by decide +kernel) (pa_cons (pv 0) (pa_cons (pe_bltn (v := .ty "int") (by rfl) T.n_int (by decide +kernel) rfl) pa_nil))) (pe_one (pe_cmpR op_eq (pv 0) (pv 1) (nomark _)))))))))), ?_⟩
  refine k_when (b := true) (et_is (et_or (a := false) (eB (et_isi (et_var rfl r2) (kit_ty (b := "list") (r := false) (by decide +kernel)))) fun _ => eB (et_isi (et_var rfl r2) (kit_ty (b := "tuple") (r := true) (by decide +kernel)))) rfl) (fun _ H1 e1 => ?_) (fun h => by cases h)
  have r1 := up e1 r1
  have r2 := up e1 r2
  refine k_no (et_is (et_or (a := false) (eT ((et_neB (i := false) (j := false) (et_isi (et_var rfl r1) (kit_ty (b := "list") (r := false) (by decide +kernel))) (et_isi (et_var rfl r2) (kit_ty (b := "list") (r := false) (by decide +kernel)))).is rfl)) fun _ => eT (et_neB (i := true) (j := true) (et_isi (et_var rfl r1) (kit_ty (b := "tuple") (r := true) (by decide +kernel))) (et_isi (et_var rfl r2) (kit_ty (b := "tuple") (r := true) (by decide +kernel))))) rfl) fun H2 e2 => ?_
  have r1 := up e2 r1
  have r2 := up e2 r2
  have e02 := e1.trans e2
  have ret : ∀ {b : Bool} {v : V} {H' : Hp}, Rb H' v b → Ex H H' → b = decide (x = y) → Q v H' := fun {b v H'} r ee hb => q v H' ee (by show Rb H' v (decide (x = y)); rw [← hb]; exact r)
  refine k_when (b := !decide (((fe x).length : Int) = ((fe y).length : Int))) (eT (et_neI (et_len (et_var rfl r1)) (et_len (et_var rfl r2)))) (fun hb H3 e3 => ?_) (fun hb H3 e3 => ?_)
  · exact j_ret (D := { nx := _, rt := Q, bk := _, ct := _ }) (et_bl (b := false)) fun v H4 e4 r4 => ret r4 ((e02.trans e3).trans e4) (decide_eq_false fun z => by rw [z] at hb; simp at hb).symm
  · have hl : (fe x).length = (fe y).length := by
      have h2 : ((fe x).length : Int) = ((fe y).length : Int) := by simpa using hb
      omega
    have r1 := up e3 r1
    have r2 := up e3 r2
    refine j_forR (D := { nx := _, rt := Q, bk := _, ct := _ }) (et_len (et_var rfl r2)) (by omega) fun H4 e4 => ⟨fun i σ' H' => ∃ (a : Option V), σ' = [some v1, some v2, a] ∧ Ex H3 H' ∧ (fe x).take i = (fe y).take i, ⟨none, rfl, e4, rfl⟩, ?_, ?_⟩
    · rintro i σ' H' hi ⟨a, rfl, e5, ht⟩
      have h1 : (fe x)[i]? = some ((fe x)[i]'(by omega)) := List.getElem?_eq_getElem _
      have h2 : (fe y)[i]? = some ((fe y)[i]'hi) := List.getElem?_eq_getElem _
      refine j_when (b := !decide ((fe x)[i]'(by omega) = (fe y)[i]'hi)) (et_not (eB (et_call2 (et_ixT (et_var rfl (up e5 r1)) (et_var (x := (i : Int)) rfl rfl) (atI_of h1)) (et_ixT (et_var rfl (up e5 r2)) (et_var (x := (i : Int)) rfl rfl) (atI_of h2)) trivial))) (fun hb H6 e6 => ?_) (fun hb H6 e6 => ⟨_, rfl, e5.trans e6, ?_⟩)
      · refine j_ret (D := { nx := _, rt := Q, bk := _, ct := _ }) (et_bl (b := false)) fun v H7 e7 r7 => ret r7 ((((e02.trans e3).trans e5).trans e6).trans e7) (decide_eq_false fun z => ?_).symm
        subst z
        simp at hb
      · have hb : (fe x)[i]'(by omega) = (fe y)[i]'hi := by simpa using hb
        rw [take_one h1, take_one h2, ht, hb]
    · rintro σ' H' ⟨a, rfl, e5, ht⟩
      show Q (.bl true) H'
      refine ret (b := true) rfl ((e02.trans e3).trans e5) (decide_eq_true ?_).symm
      refine fi _ _ ?_
      rw [List.take_length] at ht
      rw [← ht, ← hl, List.take_length]
theorem ok__law_sameB {α β : Type} {R : Rp α} {W : Rp β} [DecidableEq α] [DecidableEq β] [Mon R] [Mon W] (pre : α → Prop) (fe : β → List α) (fi : ∀ x y, fe x = fe y → x = y) (hW : ∀ {H v x}, W H v x → Rtup R H v (fe x)) (T : Txt K mg) (c__law_same : Cal P w K mg base 3 "_law_same" (Sp2 R R Rb (fun x y => pre x ∧ pre y) fun x y => decide (x = y))) : Cal P w K mg base 4 "_law_same" (Sp2 W W Rb (fun x y => ((fe x).length ≤ 1000 ∧ (fe y).length ≤ 1000) ∧ (∀ a ∈ fe x, pre a) ∧ ∀ a ∈ fe y, pre a) fun x y => decide (x = y)) := by
  refine cal_of T.d__law_same (fun _ _ _ _ _ _ us hl => match us, hl with | [_, _], _ => rfl) sc__law_same (l2' rfl) (fun cdv f A outer s H vs Q E hr h => ?_)
  obtain ⟨v1, v2, x, y, rfl, r1, r2, ⟨hz, hp1, hp2⟩, q⟩ := h
  have r1 := hW r1
  have r2 := hW r2
  have ef : decide (fe x = fe y) = decide (x = y) := decide_eq_decide.mpr ⟨fi x y, fun h => by rw [h]⟩
  refine ⟨_, (pss_cons (ps_if (PW.pt (pw_or (pt_val (pe_callB (k_isi K) (by rfl) T.n_isinstance (by decide +kernel) (pa_cons (pv 1) (pa_cons (pe_bltn (v := .ty "list") (by rfl) T.n_list (by decide +kernel) rfl) pa_nil)))) (pw_or1 (pt_val (pe_callB (k_isi K) (by rfl) T.n_isinstance (by decide +kernel) (pa_cons (pv 1) (pa_cons (pe_bltn (v := .ty "tuple") (by rfl) T.n_tuple (by decide +kernel) rfl) pa_nil)))))))
      (pss_cons (ps_if (PW.pt (pw_or (pt_cmpR op_ne (pe_callB (k_isi K) (by rfl) T.n_isinstance (by decide +kernel) (pa_cons (pv 0) (pa_cons (pe_bltn (v := .ty "list") (by rfl) T.n_list (by decide +kernel) rfl) pa_nil))) (pe_callB (k_isi K) (by rfl) T.n_isinstance (by decide +kernel) (pa_cons (pv 1) (pa_cons (pe_bltn (v := .ty "list") (by rfl) T.n_list (by decide +kernel) rfl) pa_nil))) (nomark _)) (pw_or1 (pt_cmpR op_ne (pe_callB (k_isi K) (by rfl) T.n_isinstance (by decide +kernel) (pa_cons (pv 0) (pa_cons (pe_bltn (v := .ty "tuple") (by rfl) T.n_tuple (by decide +kernel) rfl) pa_nil))) (pe_callB (k_isi K) (by rfl) T.n_isinstance (by decide +kernel) (pa_cons (pv 1) (pa_cons (pe_bltn (v := .ty "tuple") (by rfl) T.n_tuple (by decide +kernel) rfl) pa_nil))) (nomark _)))))
        (pss_one (ps_ret pe_bl)) pss_nil)
      (pss_cons (ps_if (pt_cmpR op_ne (pe_callB (k_len K) (by rfl) T.n_len (by decide +kernel) (pa_cons (pv 0) pa_nil)) (pe_callB (k_len K) (by rfl) T.n_len (by decide +kernel) (pa_cons (pv 1) pa_nil)) (nomark _))
        (pss_one (ps_ret pe_bl)) pss_nil)
      (pss_cons (ps_for PassesOwn.never rfl (pi_range1 (by rfl) T.n_range (pa_cons (pe_callB (k_len K) (by rfl) T.n_len (by decide +kernel) (pa_cons (pv 1) pa_nil)) pa_nil)) (pg_name (i := 2) sc__law_same.nd rfl (Or.inl rfl))
        (pss_one (ps_if (pt_not (pt_val (C8.pe_c c__law_same hr (by decide) (by rfl) (pa_cons (pe_ix (k_ixT K) (pv 0) (pv 2) (fun _ _ => rfl)) (pa_cons (pe_ix (k_ixT K) (pv 1) (pv 2) (fun _ _ => rfl)) pa_nil)))))
          (pss_one (ps_ret pe_bl)) pss_nil)))
      (pss_one (ps_ret pe_bl))))) pss_nil)
    (pss_cons (ps_if (PW.pt (pw_or (pt_cmpR op_isN (pv 1) pe_non (nomark _)) (pw_or1 (pt_cmpR op_isN (pv 0) pe_non (nomark _)))))
      (pss_one (ps_ret (pe_and (pe_cmpR op_isN (pv 1) pe_non (nomark _)) (pe_one (pe_cmpR op_isN (pv 0) pe_non (nomark _)))))) pss_nil)
    (pss_cons (ps_if (PW.pt (pw_or (pt_val (pe_callB (k_isi K) (by rfl) T.n_isinstance (by decide +kernel) (pa_cons (pv 1) (pa_cons (pe_bltn (v := .ty "bool") (by rfl) T.n_bool (by decide +kernel) rfl) pa_nil)))) (pw_or1 (pt_val (pe_callB (k_isi K) (by rfl) T.n_isinstance (by decide +kernel) (pa_cons (pv 0) (pa_cons (pe_bltn (v := .ty "bool") (by rfl) T.n_bool (by decide +kernel) rfl) pa_nil)))))))
      (pss_one (ps_ret (pe_and (pe_callB (k_isi K) (by rfl) T.n_isinstance (by decide +kernel) (pa_cons (pv 1) (pa_cons (pe_bltn (v := .ty "bool") (by rfl) T.n_bool (by decide +kernel) rfl) pa_nil))) (pe_and (pe_callB (k_isi K) (by rfl) T.n_isinstance (by decide +kernel) (pa_cons (pv 0) (pa_cons (pe_bltn (v := .ty "bool") (by rfl) T.n_bool (by decide +kernel) rfl) pa_nil))) (pe_one (pe_cmpR op_eq (pv 1) (pv 0) (nomark _))))))) pss_nil)
    (pss_cons (ps_if (pt_val (pe_callB (k_isi K) (by rfl) T.n_isinstance (by decide +kernel) (pa_cons (pv 1) (pa_cons (pe_bltn (v := .ty "str") (by rfl) T.n_str (by decide +kernel) rfl) pa_nil))))
      (pss_one (ps_ret (pe_and (pe_callB (k_isi K) (by rfl) T.n_isinstance (by decide +kernel) (pa_cons (pv 0) (pa_cons (pe_bltn (v := .ty "str") (by rfl) T.n_str (by decide +kernel) rfl) pa_nil))) (pe_one (pe_cmpR op_eq (pv 0) (pv 1) (nomark _)))))) pss_nil)
    (pss_one (ps_ret (pe_and (pe_callB (k_isi K) (by rfl) T.n_isinstance (by decide +kernel) (pa_cons (pv 0) (pa_cons (pe_bltn (v := .ty "int") (by rfl) T.n_int (by decide +kernel) rfl) pa_nil))) (pe_one (pe_cmpR op_eq (pv 0) (pv 1) (nomark _)))))))))), ?_⟩
  refine k_when (b := true) (et_is (et_or (a := false) (eB (et_isi (et_var rfl r2) (kit_ty (b := "list") (r := false) (by decide +kernel)))) fun _ => eB (et_isi (et_var rfl r2) (kit_ty (b := "tuple") (r := true) (by decide +kernel)))) rfl) (fun _ H1 e1 => ?_) (fun h => by cases h)
  have r1 := up e1 r1
  have r2 := up e1 r2
  refine k_no (et_is (et_or (a := false) (eT ((et_neB (i := false) (j := false) (et_isi (et_var rfl r1) (kit_ty (b := "list") (r := false) (by decide +kernel))) (et_isi (et_var rfl r2) (kit_ty (b := "list") (r := false) (by decide +kernel)))).is rfl)) fun _ => eT (et_neB (i := true) (j := true) (et_isi (et_var rfl r1) (kit_ty (b := "tuple") (r := true) (by decide +kernel))) (et_isi (et_var rfl r2) (kit_ty (b := "tuple") (r := true) (by decide +kernel))))) rfl) fun H2 e2 => ?_
  have r1 := up e2 r1
  have r2 := up e2 r2
  have e02 := e1.trans e2
  have ret : ∀ {b : Bool} {v : V} {H' : Hp}, Rb H' v b → Ex H H' → b = decide (x = y) → Q v H' := fun {b v H'} r ee hb => q v H' ee (by show Rb H' v (decide (x = y)); rw [← hb]; exact r)
  refine k_when (b := !decide (((fe x).length : Int) = ((fe y).length : Int))) (eT (et_neI (et_len (et_var rfl r1)) (et_len (et_var rfl r2)))) (fun hb H3 e3 => ?_) (fun hb H3 e3 => ?_)
  · exact j_ret (D := { nx := _, rt := Q, bk := _, ct := _ }) (et_bl (b := false)) fun v H4 e4 r4 => ret r4 ((e02.trans e3).trans e4) (decide_eq_false fun z => by rw [z] at hb; simp at hb).symm
  · have hl : (fe x).length = (fe y).length := by
      have h2 : ((fe x).length : Int) = ((fe y).length : Int) := by simpa using hb
      omega
    have r1 := up e3 r1
    have r2 := up e3 r2
    refine j_forR (D := { nx := _, rt := Q, bk := _, ct := _ }) (et_len (et_var rfl r2)) (by omega) fun H4 e4 => ⟨fun i σ' H' => ∃ (a : Option V), σ' = [some v1, some v2, a] ∧ Ex H3 H' ∧ (fe x).take i = (fe y).take i, ⟨none, rfl, e4, rfl⟩, ?_, ?_⟩
    · rintro i σ' H' hi ⟨a, rfl, e5, ht⟩
      have h1 : (fe x)[i]? = some ((fe x)[i]'(by omega)) := List.getElem?_eq_getElem _
      have h2 : (fe y)[i]? = some ((fe y)[i]'hi) := List.getElem?_eq_getElem _
      refine j_when (b := !decide ((fe x)[i]'(by omega) = (fe y)[i]'hi)) (et_not (eB (et_call2 (et_ixT (et_var rfl (up e5 r1)) (et_var (x := (i : Int)) rfl rfl) (atI_of h1)) (et_ixT (et_var rfl (up e5 r2)) (et_var (x := (i : Int)) rfl rfl) (atI_of h2)) ⟨hp1 _ (List.getElem_mem _), hp2 _ (List.getElem_mem _)⟩))) (fun hb H6 e6 => ?_) (fun hb H6 e6 => ⟨_, rfl, e5.trans e6, ?_⟩)
      · refine j_ret (D := { nx := _, rt := Q, bk := _, ct := _ }) (et_bl (b := false)) fun v H7 e7 r7 => ret r7 ((((e02.trans e3).trans e5).trans e6).trans e7) (decide_eq_false fun z => ?_).symm
        subst z
        simp at hb
      · have hb : (fe x)[i]'(by omega) = (fe y)[i]'hi := by simpa using hb
        rw [take_one h1, take_one h2, ht, hb]
    · rintro σ' H' ⟨a, rfl, e5, ht⟩
      show Q (.bl true) H'
      refine ret (b := true) rfl ((e02.trans e3).trans e5) (decide_eq_true ?_).symm
      refine fi _ _ ?_
      rw [List.take_length] at ht
      rw [← ht, ← hl, List.take_length]
theorem ok__law_same2 (T : Txt K mg) : Cal P w K mg base 3 "_law_same" (Sp2 Rp2 Rp2 Rb (fun x y => ([x.1, x.2] : List Int).length ≤ 1000 ∧ ([y.1, y.2] : List Int).length ≤ 1000) fun x y => decide (x = y)) := ok__law_sameA (R := Ri) (W := Rp2) (fun p => [p.1, p.2]) two_inj tup_P T (ok__law_same1 T)
theorem ok__law_same (T : Txt K mg) : Cal P w K mg base 4 "_law_same" (Sp2 Rld Rld Rb (fun x y => (x.length ≤ 1000 ∧ y.length ≤ 1000) ∧ (∀ a ∈ x, ([a.1, a.2] : List Int).length ≤ 1000) ∧ ∀ a ∈ y, ([a.1, a.2] : List Int).length ≤ 1000) fun x y => decide (x = y)) := ok__law_sameB (R := Rp2) (W := Rld) (fun a => ([a.1, a.2] : List Int).length ≤ 1000) (fun l => l) (fun _ _ h => h) (fun h => h) T (ok__law_same2 T)
end
end Ct
/-! # The walks: the law's own (10): right_table -/
namespace Ct
open PySem PySem.Spec PyProof.Rows L2 Evl
abbrev lnx (s : Sh) (p : P) : List NX := ((s.zipIdx).filter fun x => newIn s x.2 x.1 && fits x.1 p).map fun x => (x.1, swap s x.1 (srt Rp2 (x.1 ++ [p])))
theorem lnx_len (s : Sh) (p : P) : (lnx s p).length ≤ s.length := by
  unfold lnx
  rw [List.length_map]
  exact Nat.le_trans (List.length_filter_le _ _) (by simp)
theorem lnx_in {s : Sh} {p : P} {n : NX} (h : n ∈ lnx s p) : n.1 ∈ s ∧ fits n.1 p = true := by
  obtain ⟨x, hx, rfl⟩ := List.mem_map.mp h
  obtain ⟨hx1, hx2⟩ := List.mem_filter.mp hx
  obtain ⟨_, _, hx3⟩ := List.mem_zipIdx hx1
  rw [Bool.and_eq_true] at hx2
  exact ⟨hx3 ▸ List.getElem_mem _, hx2.2⟩
def cntOf (e : EX) (s : Sh) : Nat := ((openPairs e s).filter fun p => !(lnx s p).isEmpty).length
structure RightTab (e : EX) (S lost : List Sh) (tab : Tab) : Prop where
  row : ∀ s ∈ S, ∀ p ∈ openPairs e s, lnx s p ≠ [] → ∃ l n, look tab (s, p) = some l ∧ l.length ≤ 1000 ∧ (lnx s p).filter (fun n => decide (l = n.1)) = [n] ∧ (s ∉ lost → n.2 ∉ lost)
  len : tab.length = (S.map (cntOf e)).sum
section
variable {P : Program} {w : World} {K : PySem.W.Frag} {mg : Str → Option Value} {base : Heap} {σ : L2.St} {H : Hp} {ta tb tc : TE} {e : EX} {S : List Sh}
theorem et_g0 (h : ET ta σ H Rgame (e, S)) : ET (tOp (rIxT K) ta (tC (.int 0))) σ H (Rtup Ri) e.ins := fun H1 e1 Q q => h H1 e1 _ fun v H2 e2 ⟨a, u1, u2, u4, h1, h2, h3, h4, h5⟩ => ⟨a, _, 0, u1, h1, rfl, st_of h2, rfl, q _ H2 e2 h3⟩
theorem et_g1 (h : ET ta σ H Rgame (e, S)) : ET (tOp (rIxT K) ta (tC (.int 1))) σ H (Rtup Ri) e.outs := fun H1 e1 Q q => h H1 e1 _ fun v H2 e2 ⟨a, u1, u2, u4, h1, h2, h3, h4, h5⟩ => ⟨a, _, 1, u2, h1, rfl, st_of h2, rfl, q _ H2 e2 h4⟩
theorem et_g2 (h : ET ta σ H Rgame (e, S)) : ET (tOp (rIxT K) ta (tC (.int 2))) σ H Ri e.mid := fun H1 e1 Q q => h H1 e1 _ fun v H2 e2 ⟨a, u1, u2, u4, h1, h2, h3, h4, h5⟩ => ⟨a, _, 2, _, h1, rfl, st_of h2, rfl, q _ H2 e2 rfl⟩
theorem et_g3 (h : ET ta σ H Rgame (e, S)) : ET (tOp (rIxT K) ta (tC (.int 3))) σ H (Rlst Rsh) S := fun H1 e1 Q q => h H1 e1 _ fun v H2 e2 ⟨a, u1, u2, u4, h1, h2, h3, h4, h5⟩ => ⟨a, _, 3, u4, h1, rfl, st_of h2, rfl, q _ H2 e2 h5⟩
theorem el_opens {E : XK} {s : Sh} (h1 : ET ta σ H (Rtup Ri) e.ins) (h2 : ET tb σ H (Rtup Ri) e.outs) (h3 : ET tc σ H Rsh s) (he : EOk e) (hs : ShOk e s) : EL (tCall (Sp3L (Rtup Ri) (Rtup Ri) Rsh Rp2 (fun ins outs s => EOk ⟨ins, outs, s.length⟩ ∧ ShOk ⟨ins, outs, s.length⟩ s) fun ins outs s => openPairs ⟨ins, outs, s.length⟩ s) [] E (tCons ta (tCons tb (tCons tc tNil)))) σ H Rp2 (openPairs e s) := by
  have ee : (⟨e.ins, e.outs, (s.length : Int)⟩ : EX) = e := by rw [hs.len]
  exact (el_call3 (f := fun ins outs s => openPairs ⟨ins, outs, s.length⟩ s) h1 h2 h3 ⟨by rw [ee]; exact he, by rw [ee]; exact hs⟩).is (by show openPairs ⟨e.ins, e.outs, (s.length : Int)⟩ s = _; rw [ee])
def spRight (P : Program) (w : World) : Sp := fun vs H Q _ => ∃ (v1 v2 v3 : V) (e : EX) (S : List Sh) (lost : List (Sh × Unit)) (tab : Tab), vs = [v1, v2, v3] ∧ Rgame H v1 (e, S) ∧ RXd P w H v2 lost ∧ RT P w H v3 tab ∧ EOk e ∧ (∀ s ∈ S, ShOk e s) ∧ RightTab e S (lost.map (·.1)) tab ∧ ∀ H', Ex H H' → Q (.bl true) H'
theorem lenRight {n : Nat} (hn : n = 3) : ∀ vs H Q E, spRight P w vs H Q E → vs.length = n := fun _ _ _ _ ⟨_, _, _, _, _, _, _, h, _⟩ => by rw [h, hn]; rfl
theorem cnt_snoc {α : Type} {f : α → Bool} {l : List α} {i : Nat} {x : α} (h : l[i]? = some x) : ((l.take (i + 1)).filter f).length = ((l.take i).filter f).length + (if f x = true then 1 else 0) := by
  rw [take_one h, List.filter_append, List.length_append]
  by_cases hf : f x = true
  · simp [hf]
  · simp [hf]
theorem sc__law_right_table : FnScope ["_law_game_here", "_law_lost_here", "_law_table", "_law_count", "_law_one", "_law_pair", "_law_rows", "_law_good", "_law_row"] ["_law_game_here", "_law_lost_here", "_law_table"] (defScope s__law_right_table) := ⟨rfl, rfl, rfl, by decide +kernel, rfl, by decide +kernel, by decide +kernel⟩
theorem ok__law_right_table (T : Txt K mg) : Cal P w K mg base 5 "_law_right_table" (spRight P w) := by
  refine cal_of T.d__law_right_table (fun _ _ _ _ _ _ us hl => match us, hl with | [_, _, _], _ => rfl) sc__law_right_table (lenRight rfl) (fun cdv f A outer s H vs Q E hr h => ?_)
  have hu := hr.units
  have c__law_open := ok__law_open (P := P) (w := w) (base := base) T
  have c__law_nexts := ok__law_nexts (P := P) (w := w) (base := base) T
  have c__law_same := ok__law_same (P := P) (w := w) (base := base) T
  obtain ⟨v1, v2, v3, e, S, lost, tab, rfl, r1, r2, r3, he, hsh, hrt, q⟩ := h
  refine ⟨_, (pss_cons (ps_if (pt_not (pt_val (pe_callB (k_isiX K P w) (by rfl) T.n_isinstance (by decide +kernel) (pa_cons (pv 2) (pa_cons (pe_bltn (v := .ty "dict") (by rfl) T.n_dict (by decide +kernel) rfl) pa_nil)))))
      (pss_one (ps_ret pe_bl)) pss_nil)
    (pss_cons (ps_set (i := 3) sc__law_right_table.nd rfl (Or.inl rfl) pe_int)
    (pss_cons (ps_for PassesOwn.never rfl (k_piL K (pe_ix (k_ixT K) (pv 0) pe_int (fun _ _ => rfl))) (pg_name (i := 4) sc__law_right_table.nd rfl (Or.inr rfl))
      (pss_one (ps_for PassesOwn.never rfl (k_piL K (C8.pe_c c__law_open hr (by decide) (by rfl) (pa_cons (pe_ix (k_ixT K) (pv 0) pe_int (fun _ _ => rfl)) (pa_cons (pe_ix (k_ixT K) (pv 0) pe_int (fun _ _ => rfl)) (pa_cons (pv 4) pa_nil))))) (pg_name (i := 5) sc__law_right_table.nd rfl (Or.inr rfl))
        (pss_cons (ps_set (i := 6) sc__law_right_table.nd rfl (Or.inl rfl) (C8.pe_c c__law_nexts hr (by decide) (by rfl) (pa_cons (pv 4) (pa_cons (pv 5) pa_nil))))
        (pss_one (ps_if (pt_cmpR op_gt (pe_callB (k_len K) (by rfl) T.n_len (by decide +kernel) (pa_cons (pv 6) pa_nil)) pe_int (nomark _))
          (pss_cons (ps_aug (i := 3) sc__law_right_table.nd rfl (Or.inl rfl) pe_int ip_add)
          (pss_cons (ps_if (pt_cmpR (k_ninX P w hu) (pe_tup (pa_cons (pv 4) (pa_cons (pv 5) pa_nil))) (pv 2) rfl)
            (pss_one (ps_ret pe_bl)) pss_nil)
          (pss_cons (ps_setLc (i := 7) (own := [("_law_row", 8)]) (g := (gName 8)) rfl sc__law_right_table.nd rfl rfl (sw_true rfl rfl rfl (by decide +kernel)) (k_piL K (pv 6)) (blkOk_by (own := [("_law_row", 8)]) (N := ["_law_game_here", "_law_lost_here", "_law_table", "_law_count", "_law_one", "_law_pair", "_law_rows", "_law_good", "_law_row"]) (sc := defScope s__law_right_table) (by decide +kernel)) (fun _ _ _ _ _ => (pg_name (i := 8) sc__law_right_table.nd rfl (Or.inl rfl))) (fun _ _ _ _ _ => (pts_one (pt_val (C8.pe_c c__law_same hr (by decide) (by rfl) (pa_cons (pe_ix (k_ixX P w hu) (pv 2) (pe_tup (pa_cons (pv 4) (pa_cons (pv 5) pa_nil))) (fun _ _ => rfl)) (pa_cons (pe_ix (k_ixT K) (pv 8) pe_int (fun _ _ => rfl)) pa_nil)))))) (fun _ _ _ _ _ => (pv 8)))
          (pss_one (ps_if (PW.pt (pw_or (pt_cmpR op_ne (pe_callB (k_len K) (by rfl) T.n_len (by decide +kernel) (pa_cons (pv 7) pa_nil)) pe_int (nomark _)) (pw_or1 (PW.pt (pw_and (pt_cmpR (k_ninX P w hu) (pv 4) (pv 1) rfl) (pw_and1 (pt_cmpR (k_inX P w hu) (pe_ix (k_ixT K) (pe_ix (k_ixL K) (pv 7) pe_int (fun _ _ => rfl)) pe_int (fun _ _ => rfl)) (pv 1) rfl)))))))
            (pss_one (ps_ret pe_bl)) pss_nil))))) pss_nil))))))
    (pss_one (ps_ret (pe_cmpR op_eq (pv 3) (pe_callB (k_lenX P w) (by rfl) T.n_len (by decide +kernel) (pa_cons (pv 2) pa_nil)) (nomark _))))))), ?_⟩
  refine k_no (et_is (et_not (eB (et_isiX (R := Rsp) (S := Rld) (d := tab) (et_var rfl r3) (kit_ty (b := "dict") (r := true) (by decide +kernel))))) rfl) fun H1 e1 => ?_
  refine k_set (R := Ri) (x := 0) et_int fun v H2 e2 r => ?_
  cases r
  have e02 := e1.trans e2
  refine j_forL (R := Rsh) (l := S) (D := { nx := _, rt := Q, bk := _, ct := _ }) (et_g3 (e := e) (et_var rfl (up e02 r1))) fun al xs H3 e3 hal hxs => ?_
  have e03 := e02.trans e3
  refine ⟨fun i σ' H' => ∃ (a4 a5 a6 a7 : Option V), σ' = [some v1, some v2, some v3, some (.int ((((S.take i).map (cntOf e)).sum : Nat) : Int)), a4, a5, a6, a7, none] ∧ Ex H3 H', ⟨none, none, none, none, rfl, Ex.refl _⟩, ?_, ?_, ?_⟩
  · rintro i σ' H' hi ⟨a4, a5, a6, a7, rfl, e4⟩
    exact ⟨e4 _ _ hal, pup e4 hxs⟩
  · rintro i s v σ' H' hsi ⟨a4, a5, a6, a7, rfl, e4⟩ rs
    have hm := List.mem_of_getElem? hsi
    have hs := hsh s hm
    have hsm := hs.small he
    have e04 := e03.trans e4
    refine j_forN (R := Rp2) (l := openPairs e s) (D := { nx := _, rt := _, bk := _, ct := _ }) (el_opens (et_g0 (S := S) (et_var rfl (up e04 r1))) (et_g1 (S := S) (et_var rfl (up e04 r1))) (et_var rfl rs) he hs) fun bl ys H5 hn5 e5 hbl hys => ?_
    refine ⟨fun j σ' H' => ∃ (a5 a6 a7 : Option V), σ' = [some v1, some v2, some v3, some (.int ((((S.take i).map (cntOf e)).sum + (((openPairs e s).take j).filter fun p => !(lnx s p).isEmpty).length : Nat) : Int)), some v, a5, a6, a7, none] ∧ Ex H5 H', ⟨a5, a6, a7, rfl, Ex.refl _⟩, ?_, ?_, ?_⟩
    · rintro j σ' H' hj ⟨a5, a6, a7, rfl, e6⟩
      exact ⟨e6 _ _ hbl, pup e6 hys⟩
    · rintro j p vp σ' H' hpj ⟨a5, a6, a7, rfl, e6⟩ rp
      have hpm := List.mem_of_getElem? hpj
      have rs6 := up (e5.trans e6) rs
      have tk := cnt_snoc (f := fun p => !(lnx s p).isEmpty) hpj
      refine k_setL (R := Rnx) (l := lnx s p) (el_call2 (et_var rfl rs6) (et_var rfl rp) ⟨by omega, fun l hl => by have := hsm.2 l hl; omega⟩) fun p6 x6 H7 hn7 e7 hp6 hx6 => ?_
      have rl7 : Rlst Rnx H7 (.ref p6) (lnx s p) := ⟨p6, x6, rfl, hp6, hx6⟩
      refine j_when (b := decide (((lnx s p).length : Int) > 0)) (eT (et_cmp (et_lenL (et_var rfl rl7)) et_int)) (fun hb H8 e8 => ?_) (fun hb H8 e8 => ?_)
      · have hne : lnx s p ≠ [] := fun z => by rw [z] at hb; cases hb
        obtain ⟨l, n, hl1, hl2, hl3, hl4⟩ := hrt.row s hm p hpm hne
        have hkey : (s, p) ∈ tab.map (·.1) := look_in hl1
        have e68 := e7.trans e8
        have e08 := ((e04.trans e5).trans e6).trans e68
        refine ⟨_, rfl, _, 1, rfl, rfl, ?_⟩
        have rs8 := up e68 rs6
        have rp8 := up e68 rp
        have r38 := up e08 r3
        refine k_no (et_is (eB (et_ninX (dd := inferInstance) (R := Rsp) (S := Rld) (k := (s, p)) (et_pr (et_var rfl rs8) (et_var rfl rp8)) (et_var rfl r38))) (by simp [hkey])) fun H9 e9 => ?_
        refine k_setL (R := Rnx) (l := [n]) ((el_lcN (f := fun n => decide (l = n.1)) (g := fun n => n) (ei_list (et_var rfl (up (e8.trans e9) rl7))) (by have := lnx_len s p; omega) (fun _ => rfl) fun u m Hx hm ex rm => ⟨eT (et_call2 (et_ixX (R := Rsp) (S := Rld) (et_var rfl (up (e9.trans ex) r38)) (et_pr (et_var rfl (up (e9.trans ex) rs8)) (et_var rfl (up (e9.trans ex) rp8))) hl1) (et_p0 (et_var rfl rm)) ⟨⟨hl2, by have := hsm.2 _ (lnx_in hm).1; omega⟩, fun _ _ => by simp, fun _ _ => by simp⟩), fun _ => et_var rfl rm⟩).is (by rw [List.map_id'' (fun _ => rfl)]; exact hl3)) fun p7 x7 H10 hn10 e10 hp7 hx7 => ?_
        have rg : Rlst Rnx H10 (.ref p7) [n] := ⟨p7, x7, rfl, hp7, hx7⟩
        have e0a := (e08.trans e9).trans e10
        refine j_no (et_is (et_or (a := false) (eT ((et_neI (et_lenL (et_var rfl rg)) (et_int (i := 1))).is rfl)) fun _ => et_and (eB (et_ninX (dd := inferInstance) (R := Rsh) (S := Rany) (k := s) (et_var rfl (up (e9.trans e10) rs8)) (et_var rfl (up e0a r2)))) fun _ => eB (et_inX (dd := inferInstance) (R := Rsh) (S := Rany) (k := n.2) (et_p1 (p := n) (et_ixL (et_var rfl rg) (et_int (i := 0)) rfl)) (et_var rfl (up e0a r2)))) ?_) fun H11 e11 => ⟨some vp, some (.ref p6), some (.ref p7), ?_, ((e6.trans e68).trans (e9.trans e10)).trans e11⟩
        · by_cases h : s ∈ lost.map (·.1)
          · simp only [h, decide_true, Bool.not_true, Bool.false_and, Bool.or_self]
          · simp only [h, hl4 h, decide_false, Bool.and_false, Bool.or_self]
        · rw [if_pos (by cases hh : lnx s p with | nil => exact absurd hh hne | cons a b => rfl)] at tk
          rw [tk]
          rfl
      · have he0 : lnx s p = [] := by
          cases hh : lnx s p with
          | nil => rfl
          | cons a b => rw [hh] at hb; exact absurd hb (by simp)
        refine ⟨some vp, some (.ref p6), a7, ?_, (e6.trans e7).trans e8⟩
        rw [if_neg (by rw [he0]; simp)] at tk
        rw [tk]
        rfl
    · rintro σ' H' ⟨a5, a6, a7, rfl, e6⟩
      refine ⟨some v, a5, a6, a7, ?_, (e4.trans e5).trans e6⟩
      have : ((S.take (i + 1)).map (cntOf e)).sum = ((S.take i).map (cntOf e)).sum + cntOf e s := by
        rw [take_one hsi, List.map_append, List.sum_append]; simp
      rw [this, List.take_length]
      rfl
  · rintro σ' H' ⟨a4, a5, a6, a7, rfl, e4⟩
    rw [List.take_length]
    refine j_ret (D := { nx := _, rt := Q, bk := _, ct := _ }) (R := Rb) (x := true) ((et_eqI (et_var (x := (((S.map (cntOf e)).sum : Nat) : Int)) rfl rfl) (et_lenX (R := Rsp) (S := Rld) (d := tab) (et_var rfl (up (e03.trans e4) r3)))).is (by rw [hrt.len]; simp)) fun v H5 e5 r5 => ?_
    cases r5
    exact q _ ((e03.trans e4).trans e5)
end
end Ct
/-! # The walks: the law's own (11): lost -/
namespace Ct
open PySem PySem.Spec PyProof.Rows L2 Evl
abbrev STP : Type := Sh × List (List Sh) × List Sh
abbrev Rstep : Rp STP := Rtr Rsh (Rlst (Rlst Rsh)) (Rlst Rsh)
def stepOf (e : EX) (s : Sh) : STP := (s, (openPairs e s).map fun p => (lnx s p).map (·.2), (lawEnds s).map (·.2.2))
theorem lawNexts_lnx (s : Sh) (p : P) : lawNexts s p = lnx s p := by
  unfold lawNexts lnx
  congr 1
  refine List.filter_congr fun x _ => ?_
  rw [lawFits_eq]
section
variable {P : Program} {w : World} {K : PySem.W.Frag} {mg : Str → Option Value} {base : Heap} {σ : L2.St} {H : Hp} {ta tb tc : TE} {e : EX} {S : List Sh}
theorem hide_tups {D : Addr} {H : Hp} {zs : List V} (h : H D = some (.lst zs)) : Tu H (hide D H) := hide_tup h
theorem el_off {α : Type} {R : Rp α} [Imm R] {l : List α} {D : Addr} {zs : List V} (h : EL ta σ H R l) (hD : H D = some (.lst zs)) : ET ta σ H (Off D (Rlst R)) l := fun H1 e Q q => h H1 e _ fun p xs H2 hn e2 hp hx => by
  have d1 := e _ _ hD
  have np : p ≠ D := fun z => by rw [z, d1] at hn; cases hn
  exact q _ H2 e2 ⟨p, xs, rfl, by rw [hide_ne np]; exact hp, pr_imp hx fun _ _ r => imm (hide_tups (e2 _ _ d1)) r⟩
theorem el_off2 {α : Type} {R : Rp α} [Imm R] {l : List α} {D E : Addr} {zs ws : List V} (h : EL ta σ H R l) (hD : H D = some (.lst zs)) (hE : H E = some (.lst ws)) (hne : D ≠ E) : ET ta σ H (Off E (Off D (Rlst R))) l := fun H1 e Q q => h H1 e _ fun p xs H2 hn e2 hp hx => by
  have d1 := e _ _ hD
  have d2 := e _ _ hE
  have np : p ≠ D := fun z => by rw [z, d1] at hn; cases hn
  have np2 : p ≠ E := fun z => by rw [z, d2] at hn; cases hn
  refine q _ H2 e2 ⟨p, xs, rfl, ?_, pr_imp hx fun _ _ r => imm ((hide_tups (e2 _ _ d2)).trans (hide_tups (by rw [hide_ne hne]; exact e2 _ _ d1))) r⟩
  rw [hide_ne np, hide_ne np2]
  exact hp
theorem et_trO {α β γ : Type} {R : Rp α} {S : Rp β} {T : Rp γ} {x : α} {y : β} {z : γ} {D : Addr} {zs : List V} [Mon R] [Imm R] [Mon S] [Mon T] (ha : ET ta σ H R x) (hb : ET tb σ H (Off D S) y) (hc : ET tc σ H (Off D T) z) (hD : H D = some (.lst zs)) : ET (tTup (tCons ta (tCons tb (tCons tc tNil)))) σ H (Off D (Rtr R S T)) (x, y, z) := fun H1 e Q q =>
  ha H1 e _ fun v H2 e2 r => hb H2 (e.trans e2) _ fun w H3 e3 s => hc H3 ((e.trans e2).trans e3) _ fun u H4 e4 t => by
    refine ⟨(by show 3 ≤ sizeLine; decide), fun p hp => q _ _ (((e2.trans e3).trans e4).trans (Ex.new hp)) ?_⟩
    have d4 : H4 D = some (.lst zs) := e4 _ _ (e3 _ _ (e2 _ _ (e _ _ hD)))
    have nt : p ≠ D := fun z => by rw [z, d4] at hp; cases hp
    have dD : (upd H4 p (.tup [v, w, u])) D = some (.lst zs) := by rw [upd_ne nt.symm]; exact d4
    exact ⟨p, v, w, u, rfl, by rw [hide_ne nt, upd_same], off_imm dD (up ((e3.trans e4).trans (Ex.new hp)) r), up (R := Off D S) (e4.trans (Ex.new hp)) s, up (R := Off D T) (Ex.new hp) t⟩
def spLost (P : Program) (w : World) : Sp := fun vs H Q _ => ∃ (v1 v2 v3 : V) (e : EX) (S : List Sh), vs = [v1, v2, v3] ∧ Rtup Ri H v1 e.ins ∧ Rtup Ri H v2 e.outs ∧ Rlst Rsh H v3 S ∧ EOk e ∧ (∀ s ∈ S, ShOk e s) ∧ S.Nodup ∧ S.length ≤ 1000 ∧ ∀ v lost H', Ex H H' → RXd P w H' v lost → lost.map (·.1) = lawLost e S → Q v H'
theorem lenLost {n : Nat} (hn : n = 3) : ∀ vs H Q E, spLost P w vs H Q E → vs.length = n := fun _ _ _ _ ⟨_, _, _, _, _, h, _⟩ => by rw [h, hn]; rfl
theorem places_len {s : Sh} {n : Nat} (h1 : s.length ≤ n) (h2 : ∀ l ∈ s, l.length ≤ n) : (lawEnds s).length ≤ n * n := by
  unfold lawEnds
  rw [len_srt]
  refine Nat.le_trans (flat_len (n := n) ((s.zipIdx).filter fun x => newIn s x.2 x.1) fun x hx => ?_) (Nat.mul_le_mul_right _ (Nat.le_trans (List.length_filter_le _ _) (by simpa using h1)))
  rw [List.length_map]
  obtain ⟨_, _, hx3⟩ := List.mem_zipIdx (List.mem_filter.mp hx).1
  exact h2 _ (hx3 ▸ List.getElem_mem _)
theorem sc__law_lost : FnScope ["_law_ins", "_law_outs", "_law_shapes_here", "_law_steps", "_law_one", "_law_behind", "_law_pair", "_law_lost_here", "_law_turn", "_law_found", "_law_step", "_law_falls", "_law_nexts_here", "_law_row", "_law_after"] ["_law_ins", "_law_outs", "_law_shapes_here"] (defScope s__law_lost) := ⟨rfl, rfl, rfl, by decide +kernel, rfl, by decide +kernel, by decide +kernel⟩
theorem ok__law_lost (T : Txt K mg) : Cal P w K mg base 3 "_law_lost" (spLost P w) := by
  refine cal_of T.d__law_lost (fun _ _ _ _ _ _ us hl => match us, hl with | [_, _, _], _ => rfl) sc__law_lost (lenLost rfl) (fun cdv f A outer s H vs Q E hr h => ?_)
  have hu := hr.units
  have c__law_open := ok__law_open (P := P) (w := w) (base := base) T
  have c__law_nexts := ok__law_nexts (P := P) (w := w) (base := base) T
  have c__law_ends := ok__law_ends (P := P) (w := w) (base := base) T
  obtain ⟨v1, v2, v3, e, S, rfl, r1, r2, ⟨al, xs, rfl, hal, hxs⟩, he, hsh, hnd, hS, q⟩ := h
  refine ⟨_, (pss_cons (ps_set (i := 3) sc__law_lost.nd rfl (Or.inl rfl) (pe_lst pa_nil))
    (pss_cons (ps_for PassesOwn.never rfl (k_piL K (pv 2)) (pg_name (i := 4) sc__law_lost.nd rfl (Or.inl rfl))
      (pss_cons (ps_set (i := 5) sc__law_lost.nd rfl (Or.inl rfl) (pe_lst pa_nil))
      (pss_cons (ps_for PassesOwn.never rfl (k_piL K (C8.pe_c c__law_open hr (by decide) (by rfl) (pa_cons (pv 0) (pa_cons (pv 1) (pa_cons (pv 4) pa_nil))))) (pg_name (i := 6) sc__law_lost.nd rfl (Or.inl rfl))
        (pss_one (ps_expr (pe_bm PySem.F.plainAttrs_list PySem.F.slot_list_append PySem.F.type_list_append mt_append (pv 5) (pa_cons (pe_lc (own := [("_law_row", 13)]) (g := (gName 13)) (tt := tYes) rfl sc__law_lost.nd (k_piL K (C8.pe_c c__law_nexts hr (by decide) (by rfl) (pa_cons (pv 4) (pa_cons (pv 6) pa_nil)))) (blkOk_by (own := [("_law_row", 13)]) (N := ["_law_ins", "_law_outs", "_law_shapes_here", "_law_steps", "_law_one", "_law_behind", "_law_pair", "_law_lost_here", "_law_turn", "_law_found", "_law_step", "_law_falls", "_law_nexts_here", "_law_row", "_law_after"]) (sc := defScope s__law_lost) (by decide +kernel)) (fun _ _ _ _ _ => (pg_name (i := 13) sc__law_lost.nd rfl (Or.inl rfl))) (fun _ _ _ _ _ => pts_nil) (fun _ _ _ _ _ => (pe_ix (k_ixT K) (pv 13) pe_int (fun _ _ => rfl)))) pa_nil)))))
      (pss_one (ps_expr (pe_bm PySem.F.plainAttrs_list PySem.F.slot_list_append PySem.F.type_list_append mt_append (pv 3) (pa_cons (pe_tup (pa_cons (pv 4) (pa_cons (pv 5) (pa_cons (pe_lc (own := [("_law_row", 13)]) (g := (gName 13)) (tt := tYes) rfl sc__law_lost.nd (k_piL K (C8.pe_c c__law_ends hr (by decide) (by rfl) (pa_cons (pv 4) pa_nil))) (blkOk_by (own := [("_law_row", 13)]) (N := ["_law_ins", "_law_outs", "_law_shapes_here", "_law_steps", "_law_one", "_law_behind", "_law_pair", "_law_lost_here", "_law_turn", "_law_found", "_law_step", "_law_falls", "_law_nexts_here", "_law_row", "_law_after"]) (sc := defScope s__law_lost) (by decide +kernel)) (fun _ _ _ _ _ => (pg_name (i := 13) sc__law_lost.nd rfl (Or.inl rfl))) (fun _ _ _ _ _ => pts_nil) (fun _ _ _ _ _ => (pe_ix (k_ixT K) (pv 13) pe_int (fun _ _ => rfl)))) pa_nil)))) pa_nil)))))))
    (pss_cons (ps_set (i := 7) sc__law_lost.nd rfl (Or.inr rfl) (k_dnew P w))
    (pss_cons (ps_for PassesOwn.never rfl (pi_range1 (by rfl) T.n_range (pa_cons (pe_op op_add (pe_callB (k_len K) (by rfl) T.n_len (by decide +kernel) (pa_cons (pv 2) pa_nil)) pe_int) pa_nil)) (pg_name (i := 8) sc__law_lost.nd rfl (Or.inl rfl))
      (pss_cons (ps_set (i := 9) sc__law_lost.nd rfl (Or.inl rfl) (pe_lst pa_nil))
      (pss_cons (ps_for PassesOwn.never rfl (k_piL K (pv 3)) (pg_name (i := 10) sc__law_lost.nd rfl (Or.inl rfl))
        (pss_cons (ps_set (i := 11) sc__law_lost.nd rfl (Or.inl rfl) (pe_cmpR op_gt (pe_callB (k_len K) (by rfl) T.n_len (by decide +kernel) (pa_cons (pe_lc (own := [("_law_after", 14)]) (g := (gName 14)) rfl sc__law_lost.nd (k_piL K (pe_ix (k_ixT K) (pv 10) pe_int (fun _ _ => rfl))) (blkOk_by (own := [("_law_after", 14)]) (N := ["_law_ins", "_law_outs", "_law_shapes_here", "_law_steps", "_law_one", "_law_behind", "_law_pair", "_law_lost_here", "_law_turn", "_law_found", "_law_step", "_law_falls", "_law_nexts_here", "_law_row", "_law_after"]) (sc := defScope s__law_lost) (by decide +kernel)) (fun _ _ _ _ _ => (pg_name (i := 14) sc__law_lost.nd rfl (Or.inl rfl))) (fun _ _ _ _ _ => (pts_one (pt_cmpR (k_inX P w hu) (pv 14) (pv 7) rfl))) (fun _ _ _ _ _ => (pv 14))) pa_nil)) pe_int (nomark _)))
        (pss_cons (ps_for PassesOwn.never rfl (k_piL K (pe_ix (k_ixT K) (pv 10) pe_int (fun _ _ => rfl))) (pg_name (i := 12) sc__law_lost.nd rfl (Or.inl rfl))
          (pss_one (ps_if (pt_cmpR op_eq (pe_callB (k_len K) (by rfl) T.n_len (by decide +kernel) (pa_cons (pe_lc (own := [("_law_after", 14)]) (g := (gName 14)) rfl sc__law_lost.nd (k_piL K (pv 12)) (blkOk_by (own := [("_law_after", 14)]) (N := ["_law_ins", "_law_outs", "_law_shapes_here", "_law_steps", "_law_one", "_law_behind", "_law_pair", "_law_lost_here", "_law_turn", "_law_found", "_law_step", "_law_falls", "_law_nexts_here", "_law_row", "_law_after"]) (sc := defScope s__law_lost) (by decide +kernel)) (fun _ _ _ _ _ => (pg_name (i := 14) sc__law_lost.nd rfl (Or.inl rfl))) (fun _ _ _ _ _ => (pts_one (pt_cmpR (k_ninX P w hu) (pv 14) (pv 7) rfl))) (fun _ _ _ _ _ => (pv 14))) pa_nil)) pe_int (nomark _))
            (pss_one (ps_set (i := 11) sc__law_lost.nd rfl (Or.inl rfl) pe_bl)) pss_nil)))
        (pss_one (ps_if (PW.pt (pw_and (pt_val (pv 11)) (pw_and1 (pt_cmpR (k_ninX P w hu) (pe_ix (k_ixT K) (pv 10) pe_int (fun _ _ => rfl)) (pv 7) rfl))))
          (pss_one (ps_expr (pe_bm PySem.F.plainAttrs_list PySem.F.slot_list_append PySem.F.type_list_append mt_append (pv 9) (pa_cons (pe_ix (k_ixT K) (pv 10) pe_int (fun _ _ => rfl)) pa_nil)))) pss_nil)))))
      (pss_cons (ps_if (pt_cmpR op_eq (pe_callB (k_len K) (by rfl) T.n_len (by decide +kernel) (pa_cons (pv 9) pa_nil)) pe_int (nomark _))
        (pss_one ps_break) pss_nil)
      (pss_one (ps_for PassesOwn.never rfl (k_piL K (pv 9)) (pg_name (i := 4) sc__law_lost.nd rfl (Or.inl rfl))
        (pss_one (ps_asg (pv 8) (pg_sub (pv 7) (pv 4) (k_setX P w hu))))))))))
    (pss_one (ps_ret (pv 7))))))), ?_⟩
  refine k_setL (R := Rstep) el_nil fun D x0 H1 hD e1 hD1 hx0 => ?_
  refine j_forLw (R := Rsh) (l := S) (a := al) (xs := xs) (D := { nx := _, rt := Q, bk := _, ct := _ }) rfl (e1 _ _ hal) (pup e1 hxs) (fun i σ' H' => ∃ (a4 a5 a6 : Option V), σ' = [some v1, some v2, some (.ref al), some (.ref D), a4, a5, a6, none, none, none, none, none, none, none, none] ∧ MkO H Rstep D ((S.take i).map (stepOf e)) H' ∧ Tu H1 H') ⟨none, none, none, rfl, ⟨e1, x0, hD1, by cases hx0; exact .nil⟩, Tu.refl _⟩ ?_ ?_ ?_
  · rintro i σ' H' hi ⟨a4, a5, a6, rfl, m, t⟩
    exact m.1 _ _ hal
  · rintro i s v σ' H' hsi hvi ⟨a4, a5, a6, rfl, m, t⟩ rs
    have hm := List.mem_of_getElem? hsi
    have hs := hsh s hm
    have hsm := hs.small he
    have rs' : Rsh H' v s := imm t rs
    obtain ⟨_, ysD, hDD, _⟩ := id m
    refine k_setL (R := Rlst Rsh) el_nil fun D5 x5 H2 hn5 e2 hD5 hx5 => ?_
    have n5 : D ≠ D5 := fun z => by rw [← z, hDD] at hn5; cases hn5
    refine j_forN (R := Rp2) (l := openPairs e s) (D := { nx := _, rt := _, bk := _, ct := _ }) (el_opens (et_var rfl (up (m.1.trans e2) r1)) (et_var rfl (up (m.1.trans e2) r2)) (et_var rfl (up e2 rs')) he hs) fun bl ys H3 hn3 e3 hbl hys => ?_
    refine ⟨fun j σ' H'' => ∃ (a6 : Option V), σ' = [some v1, some v2, some (.ref al), some (.ref D), some v, some (.ref D5), a6, none, none, none, none, none, none, none, none] ∧ MkO H' (Off D (Rlst Rsh)) D5 (((openPairs e s).take j).map fun p => (lnx s p).map (·.2)) H'' ∧ H'' bl = some (.lst ys) ∧ Tu H3 H'', ⟨a6, rfl, ⟨e2.trans e3, x5, e3 _ _ hD5, by cases hx5; exact .nil⟩, hbl, Tu.refl _⟩, ?_, ?_, ?_⟩
    · rintro j σ' H'' hj ⟨a6, rfl, m5, hb, t5⟩
      exact ⟨hb, pr_imp hys fun _ _ r => imm t5 r⟩
    · rintro j p vp σ' H'' hpj ⟨a6, rfl, m5, hb, t5⟩ rp
      obtain ⟨_, y5, h5, _⟩ := id m5
      have rs5 := up m5.1 rs'
      have nb : bl ≠ D5 := fun z => by rw [z] at hn3; rw [hD5] at hn3; cases hn3
      refine MkO.push (x := (lnx s p).map (·.2)) m5 hn5 rfl ?_ (el_off2 (el_mapN (R := Rnx) (S := Rsh) (fun n : NX => n.2) (ei_list (el_call2 (et_var rfl rs5) (et_var rfl rp) ⟨by omega, fun l hl => by have := hsm.2 l hl; omega⟩).et) (by have := lnx_len s p; show (lnx s p).length ≤ _; omega) (fun _ => rfl) fun v n Hx hn ex rn => et_p1 (et_var rfl rn)) (m5.1 _ _ hDD) h5 n5) fun H6 m6 t6 x6 => ⟨_, rfl, ?_, x6 _ _ nb hb, t5.trans t6⟩
      · rw [List.length_map, List.length_take]
        have := openPairs_len he s
        omega
      · rw [take_one hpj, List.map_append]
        exact m6
    · rintro σ' H'' ⟨a6, rfl, m5, hb, t5⟩
      rw [List.take_length] at m5
      obtain ⟨_, y5, h5, hy5⟩ := id m5
      have rb : Off D (Rlst (Rlst Rsh)) H'' (.ref D5) ((openPairs e s).map fun p => (lnx s p).map (·.2)) := ⟨D5, y5, rfl, by rw [hide_ne n5.symm]; exact h5, pr_imp hy5 fun _ _ r => Off.on (D := D5) (R := Off D (Rlst Rsh)) r⟩
      refine MkO.push (x := stepOf e s) (m.ex m5.1) hD rfl ?_ (et_trO (et_var rfl (up m5.1 rs')) (et_var (R := Off D (Rlst (Rlst Rsh))) rfl rb) (el_off (el_mapN (R := Rend) (S := Rsh) (fun n : EN => n.2.2) (ei_list (el_call1 (et_var rfl (up m5.1 rs')) hsm).et) (by have := places_len hsm.1 hsm.2; omega) (fun _ => rfl) fun v n Hx hn ex rn => et_t2 (et_var rfl rn)) (m5.1 _ _ hDD)) (m5.1 _ _ hDD)) fun H6 m6 t6 x6 => ⟨_, _, _, rfl, ?_, (t.trans (Tu.ex m5.1)).trans t6⟩
      · rw [List.length_map, List.length_take]; omega
      · rw [take_one hsi, List.map_append]
        exact m6
  · rintro σ' Hs ⟨a4, a5, a6, rfl, m, t⟩
    rw [List.take_length] at m
    have rst := m.lst
    have e0s := m.1
    obtain ⟨_, ysD, rfl', hDs, hysD⟩ := id rst
    cases rfl'
    have hals := e0s _ _ hal
    have hxss := pup e0s hxs
    refine k_dnewX (R := Rsh) (S := Rany) fun D7 Hd hn7 m0 e7 => ?_
    have hn7' : H D7 = none := fresh_back e0s hn7
    have fin : ∀ (lost : List Sh) (H' : Hp), MkX P w Hs Rsh Rany D7 (uns lost) H' → lawLost e S = lost → Q (.ref D7) H' := fun lost H' mk hl => q _ (uns lost) H' (e0s.trans mk.1) mk.dc (by rw [uns_keys, hl])
    refine j_forR (n := S.length + 1) (D := { nx := _, rt := Q, bk := _, ct := _ }) (ET.is (et_add (et_lenL (et_var rfl (show Rlst Rsh Hd (.ref al) S from ⟨al, xs, rfl, e7 _ _ hals, pup e7 hxss⟩))) (et_int (i := 1))) (by omega)) (by omega) fun H1 e1 => ⟨fun i σ' H' => ∃ (a4 a5 a6 a8 a9 a10 a11 a12 : Option V) (lost : List Sh), σ' = [some v1, some v2, some (.ref al), some (.ref D), a4, a5, a6, some (.ref D7), a8, a9, a10, a11, a12, none, none] ∧ MkX P w Hs Rsh Rany D7 (uns lost) H' ∧ lawLost e S = lawRounds e S (S.length + 1 - i) lost ∧ lost.Nodup ∧ ∀ s ∈ lost, s ∈ S, ⟨a4, a5, a6, none, none, none, none, none, [], rfl, m0.ex e1, rfl, List.nodup_nil, fun _ h => by cases h⟩, ?_, ?_⟩
    · rintro i σ' H' hi ⟨a4, a5, a6, a8, a9, a10, a11, a12, lost, rfl, mk, hlr, hln, hls⟩
      have hll : lost.length ≤ 1000 := Nat.le_trans (hln.length_le_of_subset hls) hS
      let f : Sh → Bool := fun s => lawFalls e lost s && !decide (s ∈ lost)
      let fs := S.filter f
      have hfl : fs.length ≤ 1000 := Nat.le_trans (List.length_filter_le _ _) hS
      refine k_setL (R := Rsh) el_nil fun D9 x9 H2 hn9 e2 hD9 hx9 => ?_
      have ek := mk.1
      refine j_forLv (R := Rstep) (l := S.map (stepOf e)) (a := D) (xs := ysD) (D := { nx := _, rt := _, bk := _, ct := _ }) rfl (e2 _ _ (ek _ _ hDs)) (pup (ek.trans e2) hysD) (fun k σ' H'' => ∃ (a10 a11 a12 : Option V), σ' = [some v1, some v2, some (.ref al), some (.ref D), a4, a5, a6, some (.ref D7), some (.int (i : Int)), some (.ref D9), a10, a11, a12, none, none] ∧ Mk2 H' Rsh D9 ((S.take k).filter f) H'') ⟨a10, a11, a12, rfl, e2, x9, hD9, by cases hx9; exact .nil⟩ ?_ ?_ ?_
      · rintro k σ' H'' hk ⟨a10, a11, a12, rfl, m9⟩
        exact ⟨m9.1 _ _ (ek _ _ hDs), pup (ek.trans m9.1) hysD⟩
      · rintro k x v σ' H'' hkx ⟨a10, a11, a12, rfl, m9⟩ rx
        rw [List.getElem?_map] at hkx
        cases hsk : S[k]? with
        | none => rw [hsk] at hkx; cases hkx
        | some s =>
          rw [hsk] at hkx
          have hkx : stepOf e s = x := by injection hkx
          subst hkx
          have hm := List.mem_of_getElem? hsk
          have hsm := (hsh s hm).small he
          have dcl : ∀ {G : Hp}, Ex H'' G → RXd P w G (.ref D7) (uns lost) := fun {G} g => up (m9.1.trans g) mk.dc
          let L2 := ((lawEnds s).map (·.2.2)).filter fun a => decide (a ∈ (uns lost).map (·.1))
          refine k_set (R := Rb) (x := decide ((L2.length : Int) > 0)) (et_cmp (et_lenL (R := Rsh) (l := L2) ((el_lcN (R := Rsh) (S := Rsh) (fun a => decide (a ∈ (uns lost).map (·.1))) (fun a => a) (ei_list (et_t2 (p := stepOf e s) (et_var rfl rx))) (by have := places_len hsm.1 hsm.2; show ((lawEnds s).map (·.2.2)).length ≤ _; rw [List.length_map]; omega) (fun _ => rfl) fun v a Hx ha ex ra => ⟨eB (et_inX (et_var rfl ra) (et_var rfl (dcl ex))), fun _ => et_var rfl ra⟩).is (List.map_id'' (fun _ => rfl) _)).et) et_int) fun vb H3 e3 rb => ?_
          cases rb
          have rx3 := up e3 rx
          let g : List Sh → Bool := fun ns => decide (((ns.filter fun a => !decide (a ∈ (uns lost).map (·.1))).length : Int) = 0)
          let Bs := (openPairs e s).map fun p => (lnx s p).map (·.2)
          refine j_forL (R := Rlst Rsh) (l := Bs) (D := { nx := _, rt := _, bk := _, ct := _ }) (et_t1 (p := stepOf e s) (et_var rfl rx3)) fun bl ys H4 e4 hbl hys => ⟨fun j σ' G => ∃ (a12 : Option V), σ' = [some v1, some v2, some (.ref al), some (.ref D), a4, a5, a6, some (.ref D7), some (.int (i : Int)), some (.ref D9), some v, some (.bl (decide ((L2.length : Int) > 0) || (Bs.take j).any g)), a12, none, none] ∧ Ex H4 G, ⟨a12, by simp, Ex.refl _⟩, ?_, ?_, ?_⟩
          · rintro j σ' G hj ⟨a12, rfl, e5⟩
            exact ⟨e5 _ _ hbl, pup e5 hys⟩
          · rintro j ns vn σ' G hnj ⟨a12, rfl, e5⟩ rn
            have tk : (Bs.take (j + 1)).any g = ((Bs.take j).any g || g ns) := by rw [take_one hnj, List.any_append]; simp
            have hnl : ns.length ≤ 1000 := by
              obtain ⟨p, _, rfl⟩ := List.mem_map.mp (List.mem_of_getElem? hnj)
              rw [List.length_map]
              have := lnx_len s p
              omega
            refine j_when (b := g ns) (eT (et_eqI (et_lenL (R := Rsh) (l := ns.filter fun a => !decide (a ∈ (uns lost).map (·.1))) ((el_lcN (R := Rsh) (S := Rsh) (fun a => !decide (a ∈ (uns lost).map (·.1))) (fun a => a) (ei_list (et_var rfl rn)) (by omega) (fun _ => rfl) fun v a Hx ha ex ra => ⟨eB (et_ninX (et_var rfl ra) (et_var rfl (dcl (((e3.trans e4).trans e5).trans ex)))), fun _ => et_var rfl ra⟩).is (List.map_id'' (fun _ => rfl) _)).et) (et_int (i := 0)))) (fun hb G6 g6 => ⟨some vn, ?_, e5.trans g6⟩) (fun hb G6 g6 => ⟨some vn, ?_, e5.trans g6⟩)
            · rw [tk, hb, Bool.or_true, Bool.or_true]; rfl
            · rw [tk, hb, Bool.or_false]; rfl
          · rintro σ' G ⟨a12, rfl, e5⟩
            rw [List.take_length]
            have e35 := (e3.trans e4).trans e5
            have hF : lawFalls e lost s = (decide ((L2.length : Int) > 0) || Bs.any g) := by
              unfold lawFalls
              congr 1
              · show _ = decide (((((lawEnds s).map (·.2.2)).filter fun a => decide (a ∈ (uns lost).map (·.1))).length : Int) > 0)
                rw [uns_keys]
                refine decide_eq_decide.mpr ⟨fun h => ?_, fun h z => ?_⟩
                · have := List.length_pos_iff.mpr h
                  omega
                · rw [z] at h; simp at h
              · show _ = ((openPairs e s).map fun p => (lnx s p).map (·.2)).any g
                rw [List.any_map]
                refine congrArg (fun g => (openPairs e s).any g) (funext fun p => ?_)
                show _ = decide (((((lnx s p).map (·.2)).filter fun a => !decide (a ∈ (uns lost).map (·.1))).length : Int) = 0)
                rw [uns_keys, lawNexts_lnx]
                refine decide_eq_decide.mpr ⟨fun h => by rw [h]; rfl, fun h => List.length_eq_zero_iff.mp (by omega)⟩
            have tk : (S.take (k + 1)).filter f = (S.take k).filter f ++ if f s = true then [s] else [] := by
              rw [take_one hsk, List.filter_append]
              cases hfs : f s <;> simp [hfs]
            have hfs : f s = ((decide ((L2.length : Int) > 0) || Bs.any g) && !decide (s ∈ lost)) := by rw [← hF]
            have mg := m9.ex e35
            refine j_when (b := (decide ((L2.length : Int) > 0) || Bs.any g) && !decide (s ∈ (uns lost).map (·.1))) (et_and (eT (et_var (R := Rb) rfl rfl)) fun _ => eB (et_ninX (R := Rsh) (S := Rany) (k := s) (et_t0 (p := stepOf e s) (et_var rfl (up e35 rx))) (et_var rfl (dcl e35)))) (fun hb G6 g6 => ?_) (fun hb G6 g6 => ⟨_, _, _, rfl, ?_⟩)
            · have hb : f s = true := by rw [hfs, ← hb, uns_keys]
              refine Mk2.push (x := s) (mg.ex g6) hn9 rfl ?_ (et_t0 (p := stepOf e s) (et_var rfl (up (e35.trans g6) rx))) fun G7 m7 t7 => ⟨_, _, _, rfl, ?_⟩
              · have := List.length_filter_le f (S.take k)
                rw [List.length_take] at this
                omega
              · rw [tk, if_pos hb]
                exact m7
            · have hb : f s = false := by rw [hfs, ← hb, uns_keys]
              rw [tk, if_neg (by rw [hb]; exact Bool.false_ne_true), List.append_nil]
              exact mg.ex g6
      · rintro σ' G ⟨a10, a11, a12, rfl, m9⟩
        rw [List.length_map, List.take_length] at m9
        have m9 : Mk2 H' Rsh D9 fs G := m9
        obtain ⟨eg, y9, h9, hy9⟩ := id m9
        have lw : lawRounds e S (S.length + 1 - i) lost = if fs = [] then lost else lawRounds e S (S.length + 1 - (i + 1)) (lost ++ fs) := by
          have : S.length + 1 - i = (S.length + 1 - (i + 1)) + 1 := by omega
          rw [this, lawRounds]
        refine k_when (b := decide ((fs.length : Int) = 0)) (eT (et_eqI (et_lenL (R := Rsh) (et_var rfl (show Rlst Rsh G (.ref D9) fs from ⟨D9, y9, rfl, h9, hy9⟩))) (et_int (i := 0)))) (fun hb G2 g2 => ?_) (fun hb G2 g2 => ?_)
        · have hfs : fs = [] := List.length_eq_zero_iff.mp (by have := of_decide_eq_true hb; omega)
          rw [if_pos hfs] at lw
          exact ⟨.ref D7, rfl, fin lost G2 (mk.ex (eg.trans g2)) (hlr.trans lw)⟩
        · have hfs : fs ≠ [] := fun z => by rw [z] at hb; simp at hb
          rw [if_neg hfs] at lw
          have n79 : D9 ≠ D7 := fun z => by obtain ⟨_, _, h3, _⟩ := id mk; rw [← z, hn9] at h3; cases h3
          refine j_forLv (R := Rsh) (l := fs) (a := D9) (xs := y9) (D := { nx := _, rt := _, bk := _, ct := _ }) rfl (g2 _ _ h9) (pup g2 hy9) (fun k σ' G3 => ∃ (a4 : Option V), σ' = [some v1, some v2, some (.ref al), some (.ref D), a4, a5, a6, some (.ref D7), some (.int (i : Int)), some (.ref D9), a10, a11, a12, none, none] ∧ MkX P w Hs Rsh Rany D7 (uns (lost ++ fs.take k)) G3 ∧ G3 D9 = some (.lst y9) ∧ Tu G2 G3) ⟨a4, rfl, by simpa using mk.ex (eg.trans g2), g2 _ _ h9, Tu.refl _⟩ ?_ ?_ ?_
          · rintro k σ' G3 hk ⟨a4, rfl, m3, h3, t3⟩
            exact ⟨h3, pr_imp (pup g2 hy9) fun _ _ r => imm t3 r⟩
          · rintro k s v σ' G3 hks ⟨a4, rfl, m3, h3, t3⟩ rs
            have hms : s ∈ fs := List.mem_of_getElem? hks
            have hnew : s ∉ (uns (lost ++ fs.take k)).map (·.1) := by
              rw [uns_keys]
              intro hc
              rcases List.mem_append.mp hc with hc | hc
              · have := (List.mem_filter.mp hms).2
                rw [show f s = (lawFalls e lost s && !decide (s ∈ lost)) from rfl, decide_eq_true hc] at this
                simp at this
              · have h3 : (fs.take (k + 1)).Nodup := List.Nodup.sublist (List.take_sublist _ _) (List.Nodup.sublist List.filter_sublist hnd)
                rw [take_one hks, List.nodup_append] at h3
                exact h3.2.2 _ hc _ (List.mem_singleton.mpr rfl) rfl
            refine MkX.set (k := s) (v := ()) m3 hn7 ?_ (et_var rfl trivial) (ev_var rfl) (et_var rfl rs) fun G4 m4 t4 x4 => ⟨_, rfl, ?_, x4 _ _ n79 h3, t3.trans t4⟩
            · rw [List.length_map, List.length_append, List.length_take]; omega
            · rw [dput_new hnew] at m4
              rw [take_one hks, ← List.append_assoc, uns_app]
              exact m4
          · rintro σ' G3 ⟨a4, rfl, m3, h3, t3⟩
            rw [List.take_length] at m3
            refine ⟨a4, a5, a6, _, _, a10, a11, a12, lost ++ fs, rfl, m3, hlr.trans lw, ?_, ?_⟩
            · refine List.nodup_append.mpr ⟨hln, List.Nodup.sublist List.filter_sublist hnd, fun a ha b hb hab => ?_⟩
              subst hab
              have := (List.mem_filter.mp hb).2
              rw [show f a = (lawFalls e lost a && !decide (a ∈ lost)) from rfl, decide_eq_true ha] at this
              simp at this
            · intro s hs
              rcases List.mem_append.mp hs with hs | hs
              · exact hls s hs
              · exact (List.mem_filter.mp hs).1
    · rintro σ' H' ⟨a4, a5, a6, a8, a9, a10, a11, a12, lost, rfl, mk, hlr, hln, hls⟩
      refine ⟨.ref D7, rfl, fin lost H' mk ?_⟩
      rw [hlr, Nat.sub_self]
      rfl
end
end Ct
/-! # The walks: the law's own (12): deed -/
namespace Ct
open PySem PySem.Spec PyProof.Rows L2 Evl
theorem k_callO {X : Cx} {mg : Str → Option Value} {k j : Nat} {sp : Sp} {fe e : Expr} {es : List Expr} {pos : Pos} {tf : TE} {t : TA} (T : Txt X.K mg) (c : C8.Met X.prog X.w X.K X.mg X.base k (He.ga X.K "Rule") "__call__" sp []) (hr : Room j X.A) (hk : k ≤ j) (hf : PE X fe tf) (ha : PA X (e :: es) t)
    (ht : eval (.Call fe (e :: es) [] pos) X.env = (do callWith pos (← eval fe X.env) [] (backTo pos (starEach (e :: es) X.env)) (backToKw pos (keywordEach [] X.env))) := by rfl)
    (he : starEach (e :: es) X.env = (false, eval e X.env) :: starEach es X.env := by rfl) (hpl : (backTo pos (starEach es X.env)).any (·.1) = false := by rfl) : PE X (.Call fe (e :: es) [] pos) (StX.tCallO X (He.ga X.K "Rule") (fun vs H Q E => sp (vs ++ []) H Q E) C8.E0 tf t) := by
  obtain ⟨f, fd, ps, ds, hc, hm, F, b, d⟩ := c.ex
  have e1 := T.q_Rule_call.at_
  rw [hm.at_] at e1
  have e2 : f = He.ma X.K (He.ga X.K "Rule") "__call__" := by injection e1 with e1; injection e1 with e1; injection e1
  obtain ⟨fd', F'⟩ := T.m_Rule_call.ex
  obtain ⟨oc, od, _, _, _, _, _, _, osl, _, hl, _⟩ := F'.ex
  have fi : PySem.W.fnIn X.K f = true := by
    rw [e2]
    unfold PySem.W.fnIn
    rw [hl]
  exact StX.pe_callO hf ⟨hm.at_, hm.fn, fi⟩ (F.raw b d) (hr.mono hk) C8.pass0 ha ht he hpl
theorem places_mem {s : Sh} {x : P × Int} (h : x ∈ places s) : 0 ≤ x.2 ∧ x.2 < (s.length : Int) ∧ x.1 ∈ s.getD x.2.toNat [] := by
  unfold places at h
  obtain ⟨l, hl, hx⟩ := List.mem_flatten.mp (mem_srt.mp h)
  obtain ⟨y, hy, rfl⟩ := List.mem_map.mp hl
  obtain ⟨p, hp, rfl⟩ := List.mem_map.mp hx
  obtain ⟨h1, h2, h3⟩ := List.mem_zipIdx hy
  have h2 : y.2 < s.length := by simpa using h2
  refine ⟨by show (0 : Int) ≤ (y.2 : Int); omega, by show (y.2 : Int) < _; omega, ?_⟩
  show p ∈ s.getD y.2 []
  rw [List.getD_eq_getElem?_getD, List.getElem?_eq_getElem h2]
  have e1 : y.1 = s[y.2] := by simpa using h3
  rw [← e1]; exact hp
theorem places_len2 {s : Sh} {n : Nat} (h1 : s.length ≤ n) (h2 : ∀ l ∈ s, l.length ≤ n) : (places s).length ≤ n * n := by
  unfold places
  rw [len_srt]
  refine Nat.le_trans (flat_len (n := n) s.zipIdx fun x hx => ?_) (Nat.mul_le_mul_right _ (by simpa using h1))
  rw [List.length_map]
  obtain ⟨_, _, hx3⟩ := List.mem_zipIdx hx
  exact h2 _ (hx3 ▸ List.getElem_mem _)
/-- what a deed leads to -/
def DeedTo (e : EX) (tab : Tab) (s s' : Sh) : Prop := (∃ x ∈ places s, s' = without s x.2 x.1) ∨ ∃ p ∈ openPairs e s, ∃ l, look tab (asShape s, p) = some l ∧ atLoad s p l ≠ [] ∧ s' = withCall s (minI (atLoad s p l)) p
section
variable {P : Program} {w : World} {K : PySem.W.Frag} {mg : Str → Option Value} {base : Heap} {σ : L2.St} {H : Hp} {ta tb tc : TE} {e : EX} {S : List Sh} {t : Addr}
theorem et_callO {X : Cx} {E : XK} {tab : Tab} {s : Sh} {p : Ct.P} {l : Ld} (h : ET ta σ H (RRul P w K t) (e, tab)) (h2 : ET tb σ H Rsh s) (h3 : ET tc σ H Rp2 p) (he : EOk e) (hs : ShOk e s) (hp : p ∈ openPairs e s) (hl : look tab (asShape s, p) = some l) (hne : atLoad s p l ≠ []) : ET (StX.tCallO X (He.ga K "Rule") (fun vs H Q E => spRcall P w K (vs ++ []) H Q E) E ta (tCons tb (tCons tc tNil))) σ H Ri (minI (atLoad s p l)) := fun H1 e1 Q q =>
  h H1 e1 _ fun v H2 e2 hv => by
    obtain ⟨pp, dx, fs, u1, h1, hpp, g3, g4, g5, g6, g7, g8⟩ := id hv
    exact ⟨pp, h1, h2 H2 (e1.trans e2) _ fun v2 H3 e3 r2 => h3 H3 ((e1.trans e2).trans e3) _ fun v3 H4 e4 r3 => ⟨.inr ⟨dx, fs, e4 _ _ (e3 _ _ hpp)⟩, .ref pp, v2, v3, t, e, tab, s, p, l, rfl, h1 ▸ up (e3.trans e4) hv, up e4 r2, r3, he, hs, hp, hl, hne, fun H' e5 => q _ H' (((e2.trans e3).trans e4).trans e5) rfl⟩⟩
def spDeed (P : Program) (w : World) (K : PySem.W.Frag) : Sp := fun vs H Q _ => ∃ (v1 v3 v4 v5 v6 : V) (script : List Int) (k : Int) (e : EX) (S : List Sh) (t : Addr) (tab : Tab) (s : Sh), vs = [v1, .int k, v3, v4, v5, v6] ∧ Rscr K H v1 script ∧ 0 ≤ k ∧ k ≤ 1000000 ∧ Rgame H v3 (e, S) ∧ RRul P w K t H v5 (e, tab) ∧ Rsh H v6 s ∧ EOk e ∧ ShOk e s ∧
  1 ≤ (openPairs e s).length + (places s).length ∧ (∀ p ∈ openPairs e s, ∃ l, look tab (asShape s, p) = some l ∧ atLoad s p l ≠ []) ∧ ∀ u s' H', Ex H H' → Rsh H' u s' → DeedTo e tab s s' → Q u H'
theorem lenDeed {n : Nat} (hn : n = 6) : ∀ vs H Q E, spDeed P w K vs H Q E → vs.length = n := fun _ _ _ _ ⟨_, _, _, _, _, _, _, _, _, _, _, _, h, _⟩ => by rw [h, hn]; rfl
theorem sc__law_deed : FnScope ["_law_script", "_law_k", "_law_game_here", "_law_lost_here", "_law_rule", "_law_standing", "_law_flow_here", "_law_pairs", "_law_places_here", "_law_at"] ["_law_script", "_law_k", "_law_game_here", "_law_lost_here", "_law_rule", "_law_standing"] (defScope s__law_deed) := ⟨rfl, rfl, rfl, by decide +kernel, rfl, by decide +kernel, by decide +kernel⟩
theorem ok__law_deed (T : Txt K mg) : Cal P w K mg base 8 "_law_deed" (spDeed P w K) := by
  refine cal_of T.d__law_deed (fun _ _ _ _ _ _ us hl => match us, hl with | [_, _, _, _, _, _], _ => rfl) sc__law_deed (lenDeed rfl) (fun cdv f A outer s H vs Q E hr h => ?_)
  have c__law_flow := ok__law_flow (P := P) (w := w) (base := base) T
  have c__law_open := ok__law_open (P := P) (w := w) (base := base) T
  have c__law_places := ok__law_places (P := P) (w := w) (base := base) T
  have c__law_pick := ok__law_pick (P := P) (w := w) (base := base) T
  have c__law_with := ok__law_with (P := P) (w := w) (base := base) T
  have c__law_without := ok__law_without (P := P) (w := w) (base := base) T
  have c__law_whole := ok__law_whole (P := P) (w := w) (base := base) T
  have c__law_fits := ok__law_fits (P := P) (w := w) (base := base) T
  have c_Rule_call := ok_Rule_call (P := P) (w := w) (base := base) T
  obtain ⟨v1, v3, v4, v5, v6, script, k, e, S, t, tab, s, rfl, r1, hk, hk2, r3, r5, r6, he, hs, hpos, htab, q⟩ := h
  refine ⟨_, (pss_cons (ps_set (i := 6) sc__law_deed.nd rfl (Or.inl rfl) (C8.pe_c c__law_flow hr (by decide) (by rfl) (pa_cons (pv 0) (pa_cons (pv 1) pa_nil))))
    (pss_cons (ps_set (i := 7) sc__law_deed.nd rfl (Or.inl rfl) (C8.pe_c c__law_open hr (by decide) (by rfl) (pa_cons (pe_ix (k_ixT K) (pv 2) pe_int (fun _ _ => rfl)) (pa_cons (pe_ix (k_ixT K) (pv 2) pe_int (fun _ _ => rfl)) (pa_cons (pv 5) pa_nil)))))
    (pss_cons (ps_set (i := 8) sc__law_deed.nd rfl (Or.inl rfl) (C8.pe_c c__law_places hr (by decide) (by rfl) (pa_cons (pv 5) pa_nil)))
    (pss_cons (ps_set (i := 9) sc__law_deed.nd rfl (Or.inl rfl) (C8.pe_c c__law_pick hr (by decide) (by rfl) (pa_cons (pv 6) (pa_cons (pe_op op_add (pe_callB (k_len K) (by rfl) T.n_len (by decide +kernel) (pa_cons (pv 7) pa_nil)) (pe_callB (k_len K) (by rfl) T.n_len (by decide +kernel) (pa_cons (pv 8) pa_nil))) pa_nil))))
    (pss_cons (ps_if (pt_cmpR op_ge (pv 9) (pe_callB (k_len K) (by rfl) T.n_len (by decide +kernel) (pa_cons (pv 7) pa_nil)) (nomark _))
      (pss_one (ps_ret (C8.pe_c c__law_without hr (by decide) (by rfl) (pa_cons (pv 5) (pa_cons (pe_ix (k_ixT K) (pe_ix (k_ixL K) (pv 8) (pe_op op_sub (pv 9) (pe_callB (k_len K) (by rfl) T.n_len (by decide +kernel) (pa_cons (pv 7) pa_nil))) (fun _ _ => rfl)) pe_int (fun _ _ => rfl)) (pa_cons (pe_ix (k_ixT K) (pe_ix (k_ixL K) (pv 8) (pe_op op_sub (pv 9) (pe_callB (k_len K) (by rfl) T.n_len (by decide +kernel) (pa_cons (pv 7) pa_nil))) (fun _ _ => rfl)) pe_int (fun _ _ => rfl)) pa_nil)))))) pss_nil)
    (pss_cons (ps_set (i := 1) sc__law_deed.nd rfl (Or.inl rfl) (k_callO T c_Rule_call hr (by decide) (pv 4) (pa_cons (pv 5) (pa_cons (pe_ix (k_ixL K) (pv 7) (pv 9) (fun _ _ => rfl)) pa_nil))))
    (pss_cons (ps_if (PW.pt (pw_or (pt_not (pt_val (C8.pe_c c__law_whole hr (by decide) (by rfl) (pa_cons (pv 1) pa_nil)))) (pw_or (pt_cmpR op_lt (pv 1) pe_int (nomark _)) (pw_or (pt_cmpR op_ge (pv 1) (pe_ix (k_ixT K) (pv 2) pe_int (fun _ _ => rfl)) (nomark _)) (pw_or1 (pt_not (pt_val (C8.pe_c c__law_fits hr (by decide) (by rfl) (pa_cons (pe_ix (k_ixT K) (pv 5) (pv 1) (fun _ _ => rfl)) (pa_cons (pe_ix (k_ixL K) (pv 7) (pv 9) (fun _ _ => rfl)) pa_nil))))))))))
      (pss_one (ps_ret pe_non)) pss_nil)
    (pss_one (ps_ret (C8.pe_c c__law_with hr (by decide) (by rfl) (pa_cons (pv 5) (pa_cons (pv 1) (pa_cons (pe_ix (k_ixL K) (pv 7) (pv 9) (fun _ _ => rfl)) pa_nil))))))))))))), ?_⟩
  have hsm := hs.small he
  have hop := openPairs_len he s
  have hpl := places_len2 hsm.1 hsm.2
  refine ⟨v1, rfl, .int k, rfl, v1, script, k, rfl, r1, hk, hk2, fun D H1 hD e1 fl => ?_⟩
  refine k_setL (R := Rp2) (l := openPairs e s) (el_opens (et_g0 (S := S) (et_var rfl (up e1 r3))) (et_g1 (S := S) (et_var rfl (up e1 r3))) (et_var rfl (up e1 r6)) he hs) fun p7 x7 H2 hn7 e2 hp7 hx7 => ?_
  refine k_setL (R := Rpk) (l := places s) (el_call1 (et_var rfl (up (e1.trans e2) r6)) hsm) fun p8 x8 H3 hn8 e3 hp8 hx8 => ?_
  have fl3 := (fl.ex e2).ex e3
  have hp73 := e3 _ _ hp7
  have hx73 := pup e3 hx7
  refine q_pick (n := 0) rfl fl3 (by decide) (et_add (et_lenL (R := Rp2) (et_var rfl ⟨p7, x7, rfl, hp73, hx73⟩)) (et_lenL (R := Rpk) (et_var rfl ⟨p8, x8, rfl, hp8, hx8⟩))) (by omega) (by omega) fun r H4 hr0 hr1 x4 f4 => ?_
  have t4 : Tu H3 H4 := x4.tu fl3
  have n7 : p7 ≠ D := fun z => by obtain ⟨_, _, _, h, _⟩ := fl; rw [z, h] at hn7; cases hn7
  have n8 : p8 ≠ D := fun z => by obtain ⟨_, _, _, h, _⟩ := fl.ex e2; rw [z, h] at hn8; cases hn8
  have r7 : Rlst Rp2 H4 (.ref p7) (openPairs e s) := ⟨p7, x7, rfl, x4 _ _ n7 hp73, pr_imp hx73 fun _ _ r => imm t4 r⟩
  have r8 : Rlst Rpk H4 (.ref p8) (places s) := ⟨p8, x8, rfl, x4 _ _ n8 hp8, pr_imp hx8 fun _ _ r => imm t4 r⟩
  have e04 : Ex H H4 := fun b o hb => x4 b o (fun z => by rw [z, hD] at hb; cases hb) (((e1.trans e2).trans e3) b o hb)
  have r6 := up e04 r6
  have r3 := up e04 r3
  have r5 := up e04 r5
  refine k_when (b := decide (r ≥ ((openPairs e s).length : Int))) (eT (et_cmp (et_var rfl rfl) (et_lenL (R := Rp2) (et_var rfl r7)))) (fun hb H5 e5 => ?_) (fun hb H5 e5 => ?_)
  · have hge := of_decide_eq_true hb
    obtain ⟨m, hm⟩ := Int.eq_ofNat_of_zero_le (show 0 ≤ r - ((openPairs e s).length : Int) by omega)
    have hml : m < (places s).length := by omega
    let x := (places s)[m]'hml
    have hxm : x ∈ places s := List.getElem_mem _
    obtain ⟨g1, g2, g3⟩ := places_mem hxm
    have gi : ∀ {σ0 : L2.St}, σ0[8]? = some (some (.ref p8)) → σ0[9]? = some (some (.int r)) → σ0[7]? = some (some (.ref p7)) → ET (tOp (rIxL K) (tVar 8) (tOp (rI0 fun i j => .int (i - j)) (tVar 9) (tCB (rLenS K) (tCons (tVar 7) tNil)))) σ0 H5 Rpk x := fun h1 h2 h3 => et_ixL (et_var h1 (up e5 r8)) (et_sub (et_var h2 rfl) (et_lenL (R := Rp2) (et_var h3 (up e5 r7)))) (by rw [hm]; exact atI_of (List.getElem?_eq_getElem hml))
    refine j_ret (D := { nx := _, rt := Q, bk := _, ct := _ }) (et_call3 (f := without) (et_var rfl (up e5 r6)) (et_p1 (p := x) (gi rfl rfl rfl)) (et_p0 (p := x) (gi rfl rfl rfl)) ⟨g1, g2, by omega, fun l hl => by have := hsm.2 l hl; omega⟩) fun u H6 e6 r => q u _ H6 ((e04.trans e5).trans e6) r (.inl ⟨x, hxm, rfl⟩)
  · have hlt := of_decide_eq_false hb
    obtain ⟨m, rfl⟩ := Int.eq_ofNat_of_zero_le hr0
    have hml : m < (openPairs e s).length := by omega
    let p := (openPairs e s)[m]'hml
    have hpm : p ∈ openPairs e s := List.getElem_mem _
    obtain ⟨l, hl1, hl2⟩ := htab p hpm
    have hmin : minI (atLoad s p l) ∈ atLoad s p l := minI_mem hl2
    obtain ⟨g1, g2, g3⟩ := fitting_mem (List.mem_filter.mp hmin).1
    have gi : ∀ {σ0 : L2.St} {G : Hp}, Ex H5 G → σ0[7]? = some (some (.ref p7)) → σ0[9]? = some (some (.int (m : Int))) → ET (tOp (rIxL K) (tVar 7) (tVar 9)) σ0 G Rp2 p := fun g h1 h2 => et_ixL (et_var h1 (up (e5.trans g) r7)) (et_var (x := (m : Int)) h2 rfl) (atI_of (List.getElem?_eq_getElem hml))
    refine k_set (R := Ri) (x := minI (atLoad s p l)) (et_callO (et_var rfl (up e5 r5)) (et_var rfl (up e5 r6)) (gi (Ex.refl _) rfl rfl) he hs hpm hl1 hl2) fun vk H6 e6 rk => ?_
    cases rk
    generalize hkk : minI (atLoad s p l) = kk at g1 g2 g3
    refine k_no (et_is (et_or (a := !true) (et_not (eB (et_call1 (et_var (x := kk) rfl rfl) trivial))) fun _ => et_or (a := decide (kk < 0)) (eT (et_cmp (et_var (x := kk) rfl rfl) et_int)) fun _ => et_or (a := decide (kk ≥ e.mid)) (eT (et_cmp (et_var (x := kk) rfl rfl) (et_g2 (S := S) (et_var rfl (up (e5.trans e6) r3))))) fun _ => et_not (eB (et_call2 (f := fits) (et_ixT (et_var rfl (up (e5.trans e6) r6)) (et_var (x := kk) rfl rfl) (getD_at g1 g2)) (gi e6 rfl rfl) trivial))) ?_) fun H7 e7 => ?_
    · have := hs.len
      rw [show fits (s.getD kk.toNat []) p = true from g3]
      simp; omega
    · refine j_ret (et_call3 (f := withCall) (et_var rfl (up ((e5.trans e6).trans e7) r6)) (et_var (x := kk) rfl rfl) (gi (e6.trans e7) rfl rfl) ⟨g1, g2, by omega, fun l hl => by have := hsm.2 l hl; omega⟩) fun u H8 e8 r => q u _ H8 ((((e04.trans e5).trans e6).trans e7).trans e8) r (.inr ⟨p, hpm, l, hl1, hl2, by rw [hkk]⟩)
end
end Ct
set_option maxHeartbeats 8000000
/-! # The walk of the law -/
namespace Ct
open PySem PySem.Spec PyProof.Rows L2 Evl
def lotOf (e : EX) (S : List Sh) : List Sh := S.filter fun s => !decide (s ∈ lawLost e S)
def lotL (e : EX) (S : List Sh) : List Sh := (lotOf e S).reverse ++ (lotOf e S).take 2
def tabK (e : EX) : Tab := tabOf e (fallen e) (allShapes e)
def tabR (e : EX) : Tab := chk e (tabK e) (allShapes e)
/-- what the plain law says of a game -/
structure Facts (e : EX) (S : List Sh) : Prop where
  aok : AOk e
  sh : ∀ s ∈ S, ShOk e s
  nd : S.Nodup
  few : S.length ≤ 1000
  emp : emptyOf e ∈ lawLost e S ↔ emptyOf e ∈ fallen e
  right : emptyOf e ∉ fallen e → RightTab e S (lawLost e S) (tabK e)
  sorted : emptyOf e ∉ fallen e → ∀ s ∈ lotL e S, asShape s = s
  has : emptyOf e ∉ fallen e → emptyOf e ∈ lotL e S
  keep : emptyOf e ∉ fallen e → ∀ s ∈ lotL e S, KeepAt e (lotL e S) (tabK e) s
  tab : emptyOf e ∉ fallen e → TabOk e (tabK e)
  good : emptyOf e ∉ fallen e → ∃ G : Sh → Prop, G (emptyOf e) ∧ (∀ s, G s → ShOk e s ∧ srt Rld s ∉ lawLost e S ∧ 1 ≤ (openPairs e s).length + (places s).length ∧ ∀ p ∈ openPairs e s, ∃ l, look (tabR e) (asShape s, p) = some l ∧ atLoad s p l ≠ []) ∧ ∀ s s', G s → DeedTo e (tabR e) s s' → G s'
section
variable {P : Program} {w : World} {K : PySem.W.Frag} {mg : Str → Option Value} {base : Heap} {σ : L2.St} {H : Hp} {ta tb tc : TE} {e : EX} {S : List Sh} {t : Addr}
theorem EvT.is' {tt : TT} {a b : Bool} (h : EvT tt σ H a) (e : a = b) : EvT tt σ H b := e ▸ h
theorem rep_empty (n : Nat) : (List.replicate n [([] : Ld)]).flatten = List.replicate n [] := by
  induction n with
  | zero => rfl
  | succ n ih => rw [List.replicate_succ, List.flatten_cons, ih]; rfl
theorem et_emptyG (h : ET ta σ H Rgame (e, S)) (he : EOk e) : ET (tOp (rRepA K) (tTup (tCons (tTup tNil) tNil)) (tOp (rIxT K) ta (tC (.int 2)))) σ H Rsh (emptyOf e) := by
  have h1 : EU (tTup (tCons (tTup tNil) tNil)) σ H Rld [([] : Ld)] := eu1 eu_nil.et
  exact (et_rep h1.et (et_g2 (S := S) h) (by simp) (by have := he.mid; omega) (by simp)).is (rep_empty _)
theorem et_isV {v : V} (h : Ev ta σ H v) : ET (tOp (fun x y H Q => y = .non ∧ Q (.bl (decide (x = .non))) H) ta (tC .non)) σ H Rb (decide (v = .non)) := fun H1 e Q q => h H1 e _ fun H2 e2 => ⟨rfl, q _ H2 e2 rfl⟩
theorem et_notV' {v : V} (h : Ev ta σ H v) : ET (tOp (fun x y H Q => y = .non ∧ Q (.bl (!decide (x = .non))) H) ta (tC .non)) σ H Rb (!decide (v = .non)) := fun H1 e Q q => h H1 e _ fun H2 e2 => ⟨rfl, q _ H2 e2 rfl⟩
theorem et_lenSl {ns : List Int} (h : ET ta σ H (Rscr K) ns) (hl : ns.length ≤ 63) : ET (tCB (rLenS K) (tCons (tSl (rSlL K) ta tNoPart (tPart (tC (.int 63)))) tNil)) σ H Ri (ns.length : Int) := fun H1 e Q q =>
  h H1 e _ fun v H2 e2 ⟨a, hv, ha⟩ => ⟨63, rfl, a, _, hv, ha, fun p hp => ⟨p, _, rfl, .inl (sq_of upd_same), by
    have e1 : cutV (ns.map V.int) none (some 63) = ns.map V.int := by
      have := cutA_to (l := ns.map V.int) 63
      rw [List.take_of_length_le (by rw [List.length_map]; omega)] at this
      exact this
    refine q _ _ (e2.trans (Ex.new hp)) ?_
    show V.int _ = V.int _
    rw [e1, List.length_map]⟩⟩
def spLawW (K : PySem.W.Frag) : Sp := fun vs H Q _ => ∃ (v1 : V) (script : List Int), vs = [v1] ∧ Rscr K H v1 script ∧ script.length ≤ 63 ∧ ∀ H', Q (.bl true) H'
theorem lenLawW {n : Nat} (hn : n = 1) : ∀ vs H Q E, spLawW K vs H Q E → vs.length = n := fun _ _ _ _ ⟨_, _, h, _⟩ => by rw [h, hn]; rfl
theorem sc_law : FnScope ["_law_script", "_law_game_here", "_law_exchange", "_law_lost_here", "_law_table", "_law_lot", "_law_rule", "_law_standing", "_law_k", "_law_one"] ["_law_script"] (defScope s_law) := ⟨rfl, rfl, rfl, by decide +kernel, rfl, by decide +kernel, by decide +kernel⟩
theorem ok_law (T : Txt K mg) (c_all_shapes : GW.CalW P w K mg base 31 "all_shapes" (Sp1L (RX K) Rsh AOk allShapes)) (PL : ∀ (e : EX) (S : List Sh), EOk e → SdOk e.ins e.outs → e.mid ≤ 4 → S = lawShapes e.ins e.outs e.mid 100 → S ≠ [] → Facts e S) : GW.CalW P w K mg base 40 "law" (spLawW K) := by
  refine GW.calw_of T.d_law (fun _ _ _ _ _ _ us hl => match us, hl with | [_], _ => rfl) sc_law (lenLawW rfl) (fun cdv f A outer s H vs Q hr h => ?_)
  have hu := hr.units
  have c__law_game := ok__law_game (P := P) (w := w) (base := base) T
  have c__law_lost := ok__law_lost (P := P) (w := w) (base := base) T
  have c__law_flow := ok__law_flow (P := P) (w := w) (base := base) T
  have c__law_right_table := ok__law_right_table (P := P) (w := w) (base := base) T
  have c_keep_fault := ok_keep_fault (P := P) (w := w) (base := base) T
  have c__law_deed := ok__law_deed (P := P) (w := w) (base := base) T
  have c_Exchange := ok_Exchange_init (P := P) (w := w) (base := base) T
  have c_Rule := ok_Rule_init (P := P) (w := w) (base := base) T c_all_shapes
  have c_keeper := ok_keeper (P := P) (w := w) (base := base) T c_all_shapes
  obtain ⟨v1, script, rfl, r1, hsl, q⟩ := h
  refine ⟨_, (GW.wss_cons (GW.ws_of (ps_set (i := 1) sc_law.nd rfl (Or.inl rfl) (C8.pe_c c__law_game hr (by decide) (by rfl) (pa_cons (C8.pe_c c__law_flow hr (by decide) (by rfl) (pa_cons (pv 0) (pa_cons pe_int pa_nil))) (pa_cons pe_int pa_nil)))))
    (GW.wss_cons (GW.ws_of (ps_set (i := 2) sc_law.nd rfl (Or.inl rfl) (C8.pe_mk c_Exchange hr (by decide) (by rfl) (pa_cons (pe_ix (k_ixT K) (pv 1) pe_int (fun _ _ => rfl)) (pa_cons (pe_ix (k_ixT K) (pv 1) pe_int (fun _ _ => rfl)) (pa_cons (pe_ix (k_ixT K) (pv 1) pe_int (fun _ _ => rfl)) pa_nil))))))
    (GW.wss_cons (GW.ws_of (ps_set (i := 3) sc_law.nd rfl (Or.inr rfl) (C8.pe_c c__law_lost hr (by decide) (by rfl) (pa_cons (pe_ix (k_ixT K) (pv 1) pe_int (fun _ _ => rfl)) (pa_cons (pe_ix (k_ixT K) (pv 1) pe_int (fun _ _ => rfl)) (pa_cons (pe_ix (k_ixT K) (pv 1) pe_int (fun _ _ => rfl)) pa_nil))))))
    (GW.wss_cons (GW.ws_set (i := 4) sc_law.nd rfl (Or.inl rfl) (GW.we_c c_keeper hr (by decide) (by rfl) (pa_cons (pv 2) pa_nil)))
    (GW.wss_cons (GW.ws_of (ps_if (pt_cmpR (k_inX P w hu) (pe_op (k_rep K) (pe_tup (pa_cons (pe_tup pa_nil) pa_nil)) (pe_ix (k_ixT K) (pv 1) pe_int (fun _ _ => rfl))) (pv 3) rfl)
      (pss_one (ps_ret (pe_cmpR op_isN (pv 4) pe_non (nomark _)))) pss_nil))
    (GW.wss_cons (GW.ws_of (ps_if (pt_not (pt_val (C8.pe_c c__law_right_table hr (by decide) (by rfl) (pa_cons (pv 1) (pa_cons (pv 3) (pa_cons (pv 4) pa_nil))))))
      (pss_one (ps_ret pe_bl)) pss_nil))
    (GW.wss_cons (GW.ws_of (ps_setLc (i := 5) (own := [("_law_one", 9)]) (g := (gName 9)) rfl sc_law.nd rfl rfl (sw_true rfl rfl rfl (by decide +kernel)) (k_piL K (pe_ix (k_ixT K) (pv 1) pe_int (fun _ _ => rfl))) (blkOk_by (own := [("_law_one", 9)]) (N := ["_law_script", "_law_game_here", "_law_exchange", "_law_lost_here", "_law_table", "_law_lot", "_law_rule", "_law_standing", "_law_k", "_law_one"]) (sc := defScope s_law) (by decide +kernel)) (fun _ _ _ _ _ => (pg_name (i := 9) sc_law.nd rfl (Or.inl rfl))) (fun _ _ _ _ _ => (pts_one (pt_cmpR (k_ninX P w hu) (pv 9) (pv 3) rfl))) (fun _ _ _ _ _ => (pv 9))))
    (GW.wss_cons (GW.ws_of (ps_if (pt_cmpR op_notN (C8.pe_c c_keep_fault hr (by decide) (by rfl) (pa_cons (pv 2) (pa_cons (pe_op op_cat (k_revL K (pv 5)) (pe_slice (k_slL K) (pv 5) po_none (po_some pe_int))) (pa_cons (pv 4) pa_nil)))) pe_non (nomark _))
      (pss_one (ps_ret pe_bl)) pss_nil))
    (GW.wss_cons (GW.ws_set (i := 6) sc_law.nd rfl (Or.inl rfl) (GW.we_mk c_Rule hr (by decide) (by rfl) (pa_cons (pv 2) (pa_cons (pv 4) pa_nil))))
    (GW.wss_of (pss_cons (ps_expr (pe_bmX0 PySem.F.slot_dict_clear PySem.F.type_dict_clear (k_clrX P w) (pv 4)))
    (pss_cons (ps_set (i := 7) sc_law.nd rfl (Or.inl rfl) (pe_op (k_rep K) (pe_tup (pa_cons (pe_tup pa_nil) pa_nil)) (pe_ix (k_ixT K) (pv 1) pe_int (fun _ _ => rfl))))
    (pss_cons (ps_for PassesOwn.never rfl (pi_range2 (by rfl) T.n_range (pa_cons pe_int (pa_cons (pe_callB (call_max2 rfl) (by rfl) T.n_max (by decide +kernel) (pa_cons pe_int (pa_cons (pe_callB (k_len K) (by rfl) T.n_len (by decide +kernel) (pa_cons (pe_slice (k_slL K) (pv 0) po_none (po_some pe_int)) pa_nil)) pa_nil))) pa_nil))) (pg_name (i := 8) sc_law.nd rfl (Or.inl rfl))
      (pss_cons (ps_set (i := 7) sc_law.nd rfl (Or.inl rfl) (C8.pe_c c__law_deed hr (by decide) (by rfl) (pa_cons (pv 0) (pa_cons (pv 8) (pa_cons (pv 1) (pa_cons (pv 3) (pa_cons (pv 6) (pa_cons (pv 7) pa_nil))))))))
      (pss_one (ps_if (PW.pt (pw_or (pt_cmpR op_isN (pv 7) pe_non (nomark _)) (pw_or1 (pt_cmpR (k_inX P w hu) (pe_callTy (k_tuple K) (by rfl) T.n_tuple (by decide +kernel) (pa_cons (pe_callB (k_sort K Rld (Enc.enc (R := Rld)) hu) (by rfl) T.n_sorted (by decide +kernel) (pa_cons (pv 7) pa_nil)) pa_nil)) (pv 3) rfl))))
        (pss_one (ps_ret pe_bl)) pss_nil))))
    (pss_one (ps_ret pe_bl))))))))))))))), ?_⟩
  refine ⟨v1, rfl, v1, script, 0, rfl, r1, by decide, by decide, fun D H1 hD e1 fl => ⟨D, rfl, fl, fun v e S H2 x2 rg he hsd hm4 hS hne => ?_⟩⟩
  have F := PL e S he hsd hm4 hS hne
  have e02 : Ex H H2 := fun b o hb => x2 b o (fun z => by rw [z, hD] at hb; cases hb) (e1 b o hb)
  -- the exchange
  have a0 : ET (tOp (rIxT K) (tVar 1) (tC (.int 0))) [some v1, some v, none, none, none, none, none, none, none, none] H2 (Rtup Ri) e.ins := et_g0 (S := S) (et_var rfl rg)
  have a1 : ET (tOp (rIxT K) (tVar 1) (tC (.int 1))) [some v1, some v, none, none, none, none, none, none, none, none] H2 (Rtup Ri) e.outs := et_g1 (S := S) (et_var rfl rg)
  have a2 : ET (tOp (rIxT K) (tVar 1) (tC (.int 2))) [some v1, some v, none, none, none, none, none, none, none, none] H2 Ri e.mid := et_g2 (S := S) (et_var rfl rg)
  refine a0 H2 (Ex.refl _) _ fun u0 G0 g0 s0 => a1 G0 g0 _ fun u1 G1 g1 s1 => a2 G1 (g0.trans g1) _ fun u2 G2 g2 s2 => fun xe dx hxe hdx hxd => ?_
  cases s2
  have gE : Ex G2 (upd (upd G2 dx (.own xe)) xe (.ins (He.ga K "Exchange") dx [])) := (Ex.new hdx).trans (Ex.new (by rw [upd_ne hxd.symm]; exact hxe))
  refine ⟨xe, dx, u0, u1, e, rfl, upd_same, up ((g1.trans g2).trans gE) s0, up (g2.trans gE) s1, he, fun H3 k3 rx => ⟨rfl, ?_⟩⟩
  have e23 : Ex H2 H3 := fun b o hb => k3 b o (fun z => by have := ((g0.trans g1).trans g2) _ _ hb; rw [z, hxe] at this; cases this) (gE _ _ (((g0.trans g1).trans g2) _ _ hb))
  have rg3 := up e23 rg
  have r13 := up (e02.trans e23) r1
  -- lost
  have b0 : ET (tOp (rIxT K) (tVar 1) (tC (.int 0))) [some v1, some v, some (.ref xe), none, none, none, none, none, none, none] H3 (Rtup Ri) e.ins := et_g0 (S := S) (et_var rfl rg3)
  have b1 : ET (tOp (rIxT K) (tVar 1) (tC (.int 1))) [some v1, some v, some (.ref xe), none, none, none, none, none, none, none] H3 (Rtup Ri) e.outs := et_g1 (S := S) (et_var rfl rg3)
  have b3 : ET (tOp (rIxT K) (tVar 1) (tC (.int 3))) [some v1, some v, some (.ref xe), none, none, none, none, none, none, none] H3 (Rlst Rsh) S := et_g3 (e := e) (et_var rfl rg3)
  refine b0 H3 (Ex.refl _) _ fun w0 G3 g3 s3 => b1 G3 g3 _ fun w1 G4 g4 s4 => b3 G4 (g3.trans g4) _ fun w2 G5 g5 s5 => ⟨w0, w1, w2, e, S, rfl, up (g4.trans g5) s3, up g5 s4, s5, he, F.sh, F.nd, F.few, fun vl lost H4 e4 rl hlost => ?_⟩
  have e34 : Ex H3 H4 := ((g3.trans g4).trans g5).trans e4
  have rx4 := up e34 rx
  -- keeper
  refine ⟨.ref xe, rfl, .ref xe, e, rfl, rx4, F.aok, fun hfa H5 e5 => ?_, fun hfa pt xt H5 hpt e5 hdt hxt => ?_⟩
  · have rg5 := up (e34.trans e5) rg3
    have rl5 := up e5 rl
    have hel : emptyOf e ∈ lost.map (·.1) := by rw [hlost]; exact F.emp.mpr hfa
    refine k_when (b := true) (EvT.is' (eB (et_inX (R := Rsh) (S := Rany) (k := emptyOf e) (et_emptyG (S := S) (et_var rfl rg5) he) (et_var rfl rl5))) (decide_eq_true hel)) (fun _ H6 e6 => ?_) (fun hb => by cases hb)
    refine j_ret (D := { nx := _, rt := Q, bk := _, ct := _ }) (et_isV (v := .non) (ev_var rfl)) fun u H7 e7 r7 => ?_
    cases r7
    exact q _
  · have rg5 := up (e34.trans e5) rg3
    have rl5 := up e5 rl
    have rx5 := up e5 rx4
    have hel : emptyOf e ∉ lost.map (·.1) := by rw [hlost]; exact fun z => hfa (F.emp.mp z)
    have rt5 : RT P w H5 (.ref pt) (tabK e) := ⟨pt, xt, rfl, .inl hdt, hxt⟩
    refine k_when (b := false) (EvT.is' (eB (et_inX (R := Rsh) (S := Rany) (k := emptyOf e) (et_emptyG (S := S) (et_var rfl rg5) he) (et_var rfl rl5))) (decide_eq_false hel)) (fun hb => by cases hb) (fun _ H6 e6 => ?_)
    have rg6 := up e6 rg5
    have rl6 := up e6 rl5
    have rx6 := up e6 rx5
    have rt6 := up e6 rt5
    have ar : ET (tCall (spRight P w) [] C8.E0 (tCons (tVar 1) (tCons (tVar 3) (tCons (tVar 4) tNil)))) [some v1, some v, some (.ref xe), some vl, some (.ref pt), none, none, none, none, none] H6 Rb true := fun G g Q' q' => ⟨v, rfl, vl, rfl, .ref pt, rfl, v, vl, .ref pt, e, S, lost, tabK e, rfl, up g rg6, up g rl6, up g rt6, he, F.sh, (by rw [hlost]; exact F.right hfa), fun G2 g2 => q' _ G2 g2 rfl⟩
    refine k_no (et_not (eB ar)) fun H7 e7 => ?_
    have rg7 := up e7 rg6
    have rl7 := up e7 rl6
    -- the lot
    refine k_setL (R := Rsh) (l := lotOf e S) ((el_lcN (R := Rsh) (S := Rsh) (fun s => !decide (s ∈ lost.map (·.1))) (fun s => s) (ei_list (et_g3 (e := e) (et_var rfl rg7))) (by have := F.few; omega) (fun _ => rfl) fun u s Hx hs ex rs => ⟨eB (et_ninX (et_var rfl rs) (et_var rfl (up ex rl7))), fun _ => et_var rfl rs⟩).is (by rw [List.map_id'' (fun _ => rfl), hlost]; rfl)) fun p5 x5 H8 hn5 e8 hp5 hx5 => ?_
    have rlot : Rlst Rsh H8 (.ref p5) (lotOf e S) := ⟨p5, x5, rfl, hp5, hx5⟩
    have hlotl : (lotOf e S).length ≤ 1000 := Nat.le_trans (List.length_filter_le _ _) F.few
    have rx8 := up (e7.trans e8) rx6
    have rt8 := up (e7.trans e8) rt6
    have catL : EL (tOp rCat (tRevL K (tVar 5)) (tSl (rSlL K) (tVar 5) tNoPart (tPart (tC (.int 2))))) [some v1, some v, some (.ref xe), some vl, some (.ref pt), some (.ref p5), none, none, none, none] H8 Rsh (lotL e S) := (el_catL (el_revL (et_var rfl rlot)).et (el_slL (et_var rfl rlot) eo_none (eo_to (et_int (i := 2)))).et (by
      have e2 := cutA_to (l := lotOf e S) 2
      have e3 : (cutA (lotOf e S) none (some 2)).length ≤ 1000 := by
        show (cutA (lotOf e S) none (some ((2 : Nat) : Int))).length ≤ 1000
        rw [e2, List.length_take]; omega
      rw [List.length_reverse]
      omega)).is (by
      show _ ++ cutA (lotOf e S) none (some ((2 : Nat) : Int)) = _
      rw [cutA_to]; rfl)
    have hLl : (lotL e S).length ≤ 2000 := by
      unfold lotL
      rw [List.length_append, List.length_reverse, List.length_take]; omega
    have ak : Ev (tCall (spKeepF P w K) [] C8.E0 (tCons (tVar 2) (tCons (tOp rCat (tRevL K (tVar 5)) (tSl (rSlL K) (tVar 5) tNoPart (tPart (tC (.int 2))))) (tCons (tVar 4) tNil)))) [some v1, some v, some (.ref xe), some vl, some (.ref pt), some (.ref p5), none, none, none, none] H8 .non := fun G g Q' q' => ⟨.ref xe, rfl, catL G g _ fun p2 xs2 G2 hp2 g2 h2 hx2 => ⟨.ref pt, rfl, .ref xe, .ref p2, .ref pt, e, lotL e S, tabK e, rfl, up (g.trans g2) rx8, ⟨p2, xs2, rfl, h2, hx2⟩, up (g.trans g2) rt8, he, hLl, F.sorted hfa, F.has hfa, F.keep hfa, fun G3 g3 => q' G3 (g2.trans g3)⟩⟩
    refine k_no (EvT.is' (eB (et_notV' ak)) rfl) fun H9 e9 => ?_
    have rx9 := up e9 rx8
    have rt9 := up e9 rt8
    -- the rule
    refine ⟨.ref xe, rfl, .ref pt, rfl, fun xr dxr hxr hdxr hrd => ?_⟩
    have gR : Ex H9 (upd (upd H9 dxr (.own xr)) xr (.ins (He.ga K "Rule") dxr [])) := (Ex.new hdxr).trans (Ex.new (by rw [upd_ne hrd.symm]; exact hxr))
    refine ⟨xr, dxr, .ref xe, .ref pt, e, tabK e, rfl, upd_same, up gR rx9, up gR rt9, F.aok, F.tab hfa, fun tt Ha htn ka rr => ⟨rfl, ?_⟩⟩
    have e9a : Ex H9 Ha := fun b o hb => ka b o (fun z => by rw [z, hxr] at hb; cases hb) (gR _ _ hb)
    have e59 : Ex H5 H9 := ((e6.trans e7).trans e8).trans e9
    have e4a : Ex H4 Ha := (e5.trans e59).trans e9a
    have hda : Ha pt = some (dOb P w pt xt) := e9a _ _ (e59 _ _ hdt)
    have hka : KeysOk Ha xt := entIs_keys (EntIs.mon (e59.trans e9a) hxt)
    have ntt : tt ≠ pt := fun z => by
      have := gR _ _ (e59 _ _ hdt)
      rw [z] at htn
      rw [htn] at this
      cases this
    refine ⟨.ref pt, rfl, ⟨xt, pt, rfl, .inl hda, hka⟩, xt, pt, rfl, rfl, hda, hka, ?_⟩
    have e4c : Ex H4 (upd Ha pt (dOb P w pt [])) := Ex.mut e4a hpt
    have tc : Tu Ha (upd Ha pt (dOb P w pt [])) := Tu.dct hda
    have xc : Xb pt Ha (upd Ha pt (dOb P w pt [])) := fun c o hc h => by rw [upd_ne hc]; exact h
    have rrc : RRul P w K tt (upd Ha pt (dOb P w pt [])) (.ref xr) (e, tabR e) := by
      obtain ⟨pr, dx', fs', u1', h1, h2, h3, h4, h5, h6, h7, ⟨at', xs', h8, h9, h10⟩⟩ := rr
      cases h8
      have n1 : pr ≠ pt := fun z => by rw [z, hda] at h2; cases h2
      refine ⟨pr, dx', fs', u1', h1, xc _ _ n1 h2, h3, h4, h5, h6, h7.xb xc (fun ys z => by rw [hda] at z; cases z) (fun z => ?_), tt, xs', rfl, ?_, EntIs.mon.pr_imp' h10 fun _ _ r => ⟨r.1, imm tc r.2.1, imm tc r.2.2⟩⟩
      · obtain ⟨pe, _, _, _, _, hh1, hh2, _⟩ := id h7
        rw [z] at hh1
        cases hh1
        rw [hda] at hh2
        cases hh2
      · rcases h9 with h9 | ⟨o, h9⟩
        · exact .inl (xc _ _ ntt h9)
        · exact .inr ⟨o, xc _ _ ntt h9⟩
    generalize upd Ha pt (dOb P w pt []) = Hc at e4c tc xc rrc
    have rgc := up (e34.trans e4c) rg3
    have rlc := up e4c rl
    have r1c := up (e34.trans e4c) r13
    obtain ⟨G, hG0, hG1, hG2⟩ := F.good hfa
    refine k_set (R := Rsh) (x := emptyOf e) (et_emptyG (S := S) (et_var rfl rgc) he) fun vs0 Hs es rs0 => ?_
    have rgs := up es rgc
    have rls := up es rlc
    have r1s := up es r1c
    have rrs := up es rrc
    refine j_forR2 (D := { nx := _, rt := Q, bk := _, ct := _ }) (et_int (i := 1)) (et_i (ev_max2 (ev_i (et_int (i := 7))) (ev_i (et_lenSl (et_var rfl r1s) hsl)))) (by omega) (by split <;> omega) fun Ht et => ⟨fun i σ' H' => ∃ (vs : V) (a8 : Option V) (s : Sh), σ' = [some v1, some v, some (.ref xe), some vl, some (.ref pt), some (.ref p5), some (.ref xr), some vs, a8, none] ∧ Ex Hs H' ∧ Rsh H' vs s ∧ G s, ⟨vs0, none, emptyOf e, rfl, et, up et rs0, hG0⟩, ?_, ?_⟩
    · rintro i σ' H' hi ⟨vs, a8, s, rfl, eh, rs, hs⟩
      obtain ⟨g1, g2, g3, g4⟩ := hG1 s hs
      have hi63 : (1 : Int) + (i : Int) ≤ 1000000 := by
        have : (1 : Int) + (i : Int) < 64 := by
          refine Int.lt_of_lt_of_le hi ?_
          split <;> omega
        omega
      refine ⟨v1, rfl, _, rfl, v, rfl, vl, rfl, .ref xr, rfl, vs, rfl, v1, v, vl, .ref xr, vs, script, 1 + (i : Int), e, S, tt, tabR e, s, rfl, up eh r1s, by omega, hi63, up eh rgs, up eh rrs, rs, he, g1, g3, g4, fun u s' Hu eu ru hd => ?_⟩
      have hs' := hG2 s s' hs hd
      obtain ⟨k1, k2, k3, k4⟩ := hG1 s' hs'
      have hu : ∃ au, u = .ref au := let ⟨a, _, h, _⟩ := ru; ⟨a, h⟩
      obtain ⟨au, rfl⟩ := hu
      have hnl : srt Rld s' ∉ lost.map (·.1) := by rw [hlost]; exact k2
      refine j_no (EvT.is' (et_or (a := decide (V.ref au = .non)) (eB (et_isV (ev_var rfl))) fun _ => eB (et_inX (dd := inferInstance) (R := Rsh) (S := Rany) (k := srt Rld s') (et_tupL (el_sortT (et_var rfl ru)).et) (et_var rfl (up (eh.trans eu) rls)))) (by rw [decide_eq_false hnl]; rfl)) fun Hv ev => ⟨_, _, s', rfl, (eh.trans eu).trans ev, up ev ru, hs'⟩
    · rintro σ' H' ⟨vs, a8, s, rfl, eh, rs, hs⟩
      exact q H'
end
end Ct
set_option maxHeartbeats 2000000
/-! # W: segments of a generator -/
namespace GW
open PySem PySem.Spec PyProof.Rows L2
/-- from here the generator g comes to its end (Rt) or hands out a value (Yd) -/
def SegW (P : Program) (w : World) (A : Around) (g : Nat) (Rt : Shared → Prop) (Yd : Value → Shared → GenState → Prop) (c : Code) (t : Sem PySem.Fin) (fs : List Frame) (s : Shared) : Prop :=
  ∀ (T : Tgt) (Γ : PySem.Ctx) (p : Pos) (base : List Frame) (k : GenResult → Sem PySem.Fin) (l : List Value) (c₁ : Code) (p₁ : Pos), Γ.Woken A → Γ.code = c → Γ.Fits (.gen g k l c₁ p₁ :: base) →
    (∀ s', Rt s' → Good P w T (s'.setGen g .finished) ⟨k (.returned .none), c₁, p₁, base⟩) → (∀ v s' gs', Yd v s' gs' → Good P w T (s'.setGen g gs') ⟨k (.yielded v), c₁, p₁, base⟩) →
    Good P w T s ⟨t, c, p, fs ++ .gen g k l c₁ p₁ :: base⟩
section
variable {P : Program} {w : World} {A : Around} {g : Nat} {Rt : Shared → Prop} {Yd : Value → Shared → GenState → Prop} {c : Code} {fs : List Frame} {s : Shared}
theorem sg_wrap {α : Type} {m : Sem α} {K : α → Sem PySem.Fin} {J : Value → Sem PySem.Fin} {gd : Bool → Bool} {lv : List Value → List Value}
    (h : W P w (A.over c fs) m (fun a s' => SegW P w A g Rt Yd c (K a) fs s') (fun x s' => SegW P w A g Rt Yd c (J x) fs s') s) : SegW P w A g Rt Yd c (m.wrap K J gd lv) fs s := by
  rintro T Γ p base k l c₁ p₁ hΓ rfl hf hR hY
  exact h T K J gd lv (Γ.over fs) p _ (hΓ.over fs) (hf.over fs) (fun a p' s' q => q T Γ p' base k l c₁ p₁ hΓ rfl hf hR hY) fun x p' s' q => q T Γ p' base k l c₁ p₁ hΓ rfl hf hR hY
theorem sg_bind {α : Type} {m : Sem α} {K : α → Sem PySem.Fin} (h : W P w (A.over c fs) m (fun a s' => SegW P w A g Rt Yd c (K a) fs s') (fun x s' => SegW P w A g Rt Yd c (.raise x) fs s') s) : SegW P w A g Rt Yd c (m >>= K) fs s := by
  rw [Sem.bind_eq_wrap']; exact sg_wrap h
theorem sg_bindw {α β : Type} {m : Sem α} {f : α → Sem β} {K : β → Sem PySem.Fin} {J : Value → Sem PySem.Fin} {gd : Bool → Bool} {lv : List Value → List Value}
    (h : W P w (A.over c fs) m (fun a s' => SegW P w A g Rt Yd c ((f a).wrap K J gd lv) fs s') (fun x s' => SegW P w A g Rt Yd c (J x) fs s') s) : SegW P w A g Rt Yd c ((m >>= f).wrap K J gd lv) fs s := by
  rw [Sem.bind_eq_wrap', Sem.wrap_wrap]; exact sg_wrap h
theorem sg_call {c' : Code} {h : Option Value} {gg : Bool} {l : List Value} {k : Result → Sem PySem.Fin} (hc : ∀ p, SegW P w A g Rt Yd c' ((model P w).den c') (.ret k h gg l c p [] :: fs) s) : SegW P w A g Rt Yd c (.call c' h gg l k) fs s := by
  rintro T Γ p base k' l' c₁ p₁ hΓ rfl hf hR hY
  exact good_m (step_call ..) (hc p T (Γ.goto c') p base k' l' c₁ p₁ (hΓ.goto c') rfl (hf.goto c') hR hY)
theorem sg_leaf {k : Result → Sem PySem.Fin} {h : Option Value} {gg : Bool} {l kp : List Value} {c₂ : Code} {p₂ : Pos} (r : Result) (hk : SegW P w A g Rt Yd c₂ (k r) fs s) : SegW P w A g Rt Yd c (leafOf r) (.ret k h gg l c₂ p₂ kp :: fs) s := by
  rintro T Γ p base k' l' c₁ p₁ hΓ rfl hf hR hY
  exact good_m (step_leaf_ret ..) (hk T (Γ.goto c₂) p₂ base k' l' c₁ p₁ (hΓ.goto c₂) rfl (hf.goto c₂) hR hY)
theorem sg_again {c' : Code} (hq : c'.quiet = true) (hc : SegW P w A g Rt Yd c' ((model P w).den c') fs s) : SegW P w A g Rt Yd c (.pure (.again c')) fs s := by
  rintro T Γ p base k' l' c₁ p₁ hΓ rfl hf hR hY
  exact good_m (step_again _ _ _ _ _ _ hq) (hc T (Γ.goto c') p base k' l' c₁ p₁ (hΓ.goto c') rfl (hf.goto c') hR hY)
theorem sg_end (h : Rt s) : SegW P w A g Rt Yd c (.pure (.done (.ret .none))) [] s := by
  rintro T Γ p base k' l' c₁ p₁ hΓ rfl hf hR hY
  exact good_m (step_leaf_gen _ _ _ _ _ (.ok (.ret .none)) _ _ _ _ _) (hR s h)
theorem sg_yield {v : Value} {gg : Bool} {l : List Value} {k : Resume → Sem PySem.Fin} (hsp : splitAtGen fs = none) (hgu : fs.any Frame.guarded = false) (hg : gg = false ∨ overGen s.heap c = true)
    (h : ∀ p, Yd v s (.suspended k l c p fs gg)) : SegW P w A g Rt Yd c (.yield v gg l k) fs s := by
  rintro T Γ p base k' l' c₁ p₁ hΓ rfl hf hR hY
  have hsplit : splitAtGen (fs ++ .gen g k' l' c₁ p₁ :: base) = some (fs, (g, k', c₁, p₁), base) := by
    rw [splitAtGen_append_none _ hsp, splitAtGen_gen]
    simp
  refine good_step (s' := s.setGen g (.suspended k l Γ.code p fs gg)) (t' := ⟨k' (.yielded v), c₁, p₁, base⟩) ?_ (hY v s _ (h p))
  have hst : stepK (denote table) P w s ⟨.yield v gg l k, Γ.code, p, fs ++ .gen g k' l' c₁ p₁ :: base⟩ = .go (s.setGen g (.suspended k l Γ.code p fs gg)) ⟨k' (.yielded v), c₁, p₁, base⟩ := by
    simp only [stepK, step, hsplit, hgu, Bool.or_false]
    rfl
  unfold stepJ
  rcases hg with hg | hg
  · have hl : Thread.loud ⟨.yield v gg l k, Γ.code, p, fs ++ .gen g k' l' c₁ p₁ :: base⟩ = false := by
      rw [Thread.loud_yield v gg l k _ _ hsplit, hg, hgu]; rfl
    rw [hl]
    exact hst
  · have hs : soft s ⟨.yield v gg l k, Γ.code, p, fs ++ .gen g k' l' c₁ p₁ :: base⟩ = true := by
      simp only [soft, hsplit, hgu, hg]; rfl
    rw [hs, Bool.not_true, Bool.and_false]
    exact hst
end
/-- a wake of a generator's state -/
def GoesW (P : Program) (w : World) (A : Around) (g : Nat) (Rt : Shared → Prop) (Yd : Value → Shared → GenState → Prop) (gs : GenState) (s : Shared) : Prop := match gs with
  | .fresh c => SegW P w A g Rt Yd c ((model P w).den c) [] s
  | .suspended k _ c _ fs _ => SegW P w A g Rt Yd c (k (.send .none)) fs s
  | _ => False
section
variable {P : Program} {w : World} {A : Around} {g : Nat} {Rt : Shared → Prop} {Yd : Value → Shared → GenState → Prop} {s : Shared} {E : Value → Shared → Prop}
theorem w_resume {α : Type} {gs : GenState} {l : List Value} {k : GenResult → Sem α} {Q : α → Shared → Prop} (hg : s.gens[g]? = some gs) (hgo : GoesW P w A g Rt Yd gs (s.setGen g .running))
    (hR : ∀ s', Rt s' → W P w A (k (.returned .none)) Q E (s'.setGen g .finished)) (hY : ∀ v s' gs', Yd v s' gs' → W P w A (k (.yielded v)) Q E (s'.setGen g gs')) : W P w A (.resume g (.send .none) l k) Q E s := by
  intro T K J gd lv Γ p base hI f hQ hE
  have wk : ∀ c, (Γ.wake c p).Woken A := fun c => hI.wake c p
  cases gs with
  | fresh c =>
    refine good_m (step_resume_fresh (model P w) s Γ.code p base _ _ hg) ?_
    exact hgo T (Γ.wake c p) p base _ _ Γ.code p (wk c) rfl (f.wake c g _ _ p) (fun s' q => hR s' q T K J gd lv Γ p base hI f hQ hE) fun v s' gs' q => hY v s' gs' q T K J gd lv Γ p base hI f hQ hE
  | suspended k₀ l₀ c₀ p₀ fs cl =>
    refine good_m (step_resume_suspended (model P w) s Γ.code p base _ _ _ hg) ?_
    exact hgo T (Γ.wake c₀ p) p₀ base _ _ Γ.code p (wk c₀) rfl (f.wake c₀ g _ _ p) (fun s' q => hR s' q T K J gd lv Γ p base hI f hQ hE) fun v s' gs' q => hY v s' gs' q T K J gd lv Γ p base hI f hQ hE
  | running => exact hgo.elim
  | finished => exact hgo.elim
theorem w_attempt {α : Type} {m : Sem α} {Q : Except Value α → Shared → Prop} (h : W P w A m (fun a => Q (.ok a)) (fun e => Q (.error e)) s) : W P w A m.attempt Q E s := by
  intro T K J gd lv Γ p base hI f hQ hE
  have e : m.attempt.wrap K J gd lv = m.wrap (fun a => K (.ok a)) (fun x => K (.error x)) (fun b => gd true) lv := by
    unfold Sem.attempt
    rw [Sem.tryCatch_eq_wrap, Sem.bind_eq_wrap, Sem.wrap_wrap, Sem.wrap_wrap]
    rfl
  rw [e]
  exact h T _ _ _ _ Γ p base hI f (fun a p' s' q => hQ _ p' s' q) fun x p' s' q => hQ _ p' s' q
end
/-! ### the generator's object: its number, how many delegators sleep over it -/
def GenOb (h : Heap) (a : Addr) (g : Nat) (m : Int) : Prop := ∃ o nm qn, h.get? a = some o ∧ o.cls = .type "generator" ∧ o.data = .fields #[.int g 0, nm, qn] ∧ ((m = 0 ∧ o.slots = #[]) ∨ o.slots = #[some (.int m 0)])
theorem GenOb.of {h : Heap} {a : Addr} {g : Nat} (x : h.IsGen a g) : GenOb h a g 0 := let ⟨o, nm, qn, h1, h2, h3, h4⟩ := x; ⟨o, nm, qn, h1, h2, h3, .inl ⟨rfl, h4⟩⟩
theorem GenOb.at {h h' : Heap} {a : Addr} {g : Nat} {m : Int} (x : GenOb h a g m) (k : ∀ o, h.get? a = some o → h'.get? a = some o) : GenOb h' a g m := let ⟨o, nm, qn, h1, r⟩ := x; ⟨o, nm, qn, k o h1, r⟩
theorem GenOb.ty {s : Shared} {a : Addr} {g : Nat} {m : Int} (x : GenOb s.heap a g m) : s.TypeIs (.ref a) "generator" := let ⟨o, _, _, h1, h2, _⟩ := x; ⟨o, h1, h2⟩
theorem GenOb.over {h : Heap} {a : Addr} {g : Nat} {m : Int} {r : List Value} {kw : List (Str × Value)} (x : GenOb h a g m) : overGen h (.builtin "proto.yield_from" ⟨.ref a :: r, kw⟩) = true := by
  obtain ⟨o, nm, qn, h1, h2, h3, _⟩ := x
  show (h.get? a).any _ = true
  rw [h1]
  show (o.genNumber?).isSome = true
  unfold Obj.genNumber?
  rw [h2, h3]
  rfl
section
variable {M : Model} {A : Around} {E : Value → Shared → Prop} {s : Shared} {a : Addr} {g : Nat} {m : Int}
theorem gen_number {Q : Nat → Shared → Prop} (x : GenOb s.heap a g 0) (h : Q g s) : wpAny M A (Builtin.Generator.genNumber (.ref a)) Q E s := by
  obtain ⟨o, nm, qn, h1, h2, h3, h4⟩ := x
  unfold Builtin.Generator.genNumber
  refine wpAny_bind (wpAny_load h1 ?_)
  have e : Q ((g : Int).toNat) s := by rw [Int.toNat_natCast]; exact h
  rcases h4 with ⟨_, h4⟩ | h4
  · rw [h4, h3]; exact wpAny_pure e
  · rw [h4, h3]
    show wpAny M A (if (0 : Int) > 0 then _ else _) Q E s
    rw [if_neg (by decide)]
    exact wpAny_pure e
theorem gen_mark {Q : Unit → Shared → Prop} (b : Bool) (x : GenOb s.heap a g m) (h : ∀ h', GenOb h' a g (if b then m + 1 else m - 1) → Heap.SameBut a s.heap h' → Q () { s with heap := h' }) :
    wpAny M A (Builtin.Generator.sleptOver (.ref a) b) Q E s := by
  obtain ⟨o, nm, qn, h1, h2, h3, h4⟩ := x
  unfold Builtin.Generator.sleptOver
  refine wpAny_bind (wpAny_load h1 ?_)
  rw [h2, if_neg (by decide)]
  unfold setSlotAt
  rw [if_neg (by decide)]
  have key : ∀ (n : Int) (hn : n = m), wpAny M A (updatePart a (some (slotPart 0)) fun o => { o with slots := (o.slots ++ Array.replicate (0 + 1 - o.slots.size) none).setIfInBounds 0 (some (rawInt (if b = true then n + 1 else n - 1))) }) Q E s := by
    rintro n rfl
    refine wpAny_updatePart h1 (h _ ?_ (Heap.SameBut.update ..))
    refine ⟨_, nm, qn, Heap.get?_update_self _ h1 (by
      first
        | rfl
        | (show Obj.isFreed { o with slots := _ } = false; simp [Obj.isFreed, h3])), h2, h3, .inr ?_⟩
    rcases h4 with ⟨_, h4⟩ | h4
    · rw [h4]; rfl
    · rw [h4]; rfl
  rcases h4 with ⟨rfl, h4'⟩ | h4'
  · rw [h4']; exact key 0 rfl
  · rw [h4']; exact key m rfl
end
end GW
/-! # W: a generator is woken -/
namespace GW
open PySem PySem.Spec PyProof.Rows L2
section
variable {P : Program} {w : World} {A : Around} {g : Nat} {Rt : Shared → Prop} {Yd : Value → Shared → GenState → Prop} {s : Shared} {E : Value → Shared → Prop} {a : Addr} {gs : GenState}
theorem w_slot {self : Value} {Ty : String} {name : Str} {id : String} {b : Builtin} {Q : Option Value → Shared → Prop} (hT : s.TypeIs self Ty) (h : Slot Ty name id) (hb : entryFor table id = some b) (ha : argsOk id ⟨[self], []⟩)
    (hc : W P w A.in1 (b ⟨[self], []⟩) (fun fin s' => ∃ v, fin = .done (.ret v) ∧ Q (some v) s') E s) : W P w A (callSpecial? self name) Q E s := by
  simp only [callSpecial?]
  refine w_bind (w_of (wpAny_specialOf hT h.lookup ?_))
  simp only [h.bind]
  refine w_holding (w_bind (w_pure (w_bind ?_)))
  refine w_thn (w_call (Q := fun v s' => Q (some v) s') (cw_builtin (plainId_quiet h.plain _) hb (h.check _ _ _ _ _ _ _ _ hT ha ?_))) fun v s' q => w_pure q
  rw [Around.under_plainId h.plain]
  refine w_mono hc (fun fin s' q => ?_) fun _ _ z => z
  obtain ⟨v, rfl, q⟩ := q
  exact q
/-- the next value of a generator -/
theorem w_next {Q : Option Value → Shared → Prop} (hh : A.handled = none) (hl : s.heap.NoLimit) (hroom : A.depth < recursionLimit) (hg : GenOb s.heap a g 0) (hgs : s.gens[g]? = some gs) (hgo : GoesW P w A.in1 g Rt Yd gs (s.setGen g .running))
    (hY : ∀ v s' gs', Yd v s' gs' → Q (some v) (s'.setGen g gs')) (hR : ∀ s', Rt s' → ∀ e h', StopX e h' → (∀ b o, s'.heap.get? b = some o → h'.get? b = some o) → E e { s'.setGen g .finished with heap := h' }) :
    W P w A (callSpecial? (.ref a) "__next__") Q E s := by
  refine w_slot hg.ty slot_gen_next entry_gen_next (args_gen_next _) ?_
  show W P w A.in1 (Builtin.Generator.genWake (.ref a) (.send .none)) _ _ s
  unfold Builtin.Generator.genWake
  refine w_bind (w_of (wpAny_holding (gen_number hg ?_)))
  refine w_bind (w_of (wpAny_genState hgs ?_))
  cases gs with
  | running => exact hgo.elim
  | finished => exact hgo.elim
  | _ =>
    refine w_bind (w_of (wpAny_roomToWake hl hroom ?_))
    show W P w A.in1 (.resume g (.send .none) [] _) _ _ s
    refine w_resume hgs hgo (fun s' hs => ?_) fun v s' gs' hy => w_pure ⟨v, rfl, hY v s' gs' hy⟩
    refine w_of ?_
    show wpAny _ A.in1 (newExc (.type "StopIteration") [] >>= _) _ _ _
    refine wpAny_bind ?_
    simp only [newExc, newTuple]
    refine wpAny_bind (wpAny_newObj_type ?_ (by size_fits))
    refine wpAny_bind (m := firstArgMember _ _) (wpAny_of_eq (a := Value.none) (by first | rfl | (simp only [firstArgMember]; rfl)) ?_)
    refine wpAny_newObj_type ?_ (by size_fits)
    simp only [raiseNew]
    refine wpAny_bind (wpAny_bind (wpAny_handled ?_))
    first | rw [show A.in1.handled = none from hh] | rw [hh]
    refine wpAny_throw (hR s' hs _ _ ⟨_, _, _, rfl, Heap.get?_push_size _ rfl, rfl, rfl, ?_⟩ fun b o hb => Heap.get?_push_of_some _ (Heap.get?_push_of_some _ hb))
    first
      | rfl
      | (rw [Array.getElem?_append_left (by decide)]; rfl)
      | kernel_rfl
end
end GW
set_option maxHeartbeats 4000000
/-! # W: suspended generators hidden -/
namespace GW
open PySem PyProof.Rows
open Sem (wp)
def isS : GenState → Bool | .suspended .. => true | _ => false
/-- it stands there, but cannot be woken -/
def psn : GenState → GenState | .suspended _ l c p fs _ => .suspended (fun _ => .unsupported "") l c p fs false | x => x
theorem psn_bare (x : GenState) : (psn x).bare = true := by cases x <;> rfl
theorem psn_seen (x : GenState) : (psn x).seen = x.seen := by cases x <;> rfl
theorem psn_other {x : GenState} (h : isS x = false) : psn x = x := by cases x <;> first | rfl | cases h
/-- i is hidden -/
def hdn (G : Array GenState) (i : Nat) : Bool := match G[i]? with | some x => isS x | none => false
theorem hdn_some {G : Array GenState} {i : Nat} (h : hdn G i = true) : ∃ x, G[i]? = some x ∧ isS x = true := by
  unfold hdn at h
  split at h
  · exact ⟨_, by assumption, h⟩
  · cases h
def sh1 (G : Array GenState) (i : Nat) (y : GenState) : GenState := if hdn G i = true then G[i]?.getD y else y
def shw (G gens : Array GenState) : Array GenState := gens.mapIdx fun i y => sh1 G i y
def unh (G : Array GenState) (s : Shared) : Shared := { s with gens := shw G s.gens }
def hid (s : Shared) : Shared := { s with gens := s.gens.map psn }
structure Hid (G : Array GenState) (s : Shared) : Prop where
  at_ : ∀ (i : Nat) (x : GenState), G[i]? = some x → isS x = true → s.gens[i]? = some (psn x)
  no : ∀ (i : Nat) k l c p fs cl, s.gens[i]? = some (.suspended k l c p fs cl) → hdn G i = false → splitAtGen fs = none
theorem shw_size (G gens : Array GenState) : (shw G gens).size = gens.size := by simp [shw]
theorem shw_get (G gens : Array GenState) (i : Nat) : (shw G gens)[i]? = (gens[i]?).map (sh1 G i) := by
  unfold shw
  rw [Array.getElem?_mapIdx]
theorem shw_out {G gens : Array GenState} {i : Nat} (h : hdn G i = false) : (shw G gens)[i]? = gens[i]? := by
  rw [shw_get]
  have e : sh1 G i = id := by
    funext y
    simp [sh1, h]
  rw [e, Option.map_id]; rfl
theorem Hid.lt {G : Array GenState} {s : Shared} (H : Hid G s) {i : Nat} (h : hdn G i = true) : i < s.gens.size := by
  obtain ⟨x, e, hx⟩ := hdn_some h
  have := H.at_ i x e hx
  exact (Array.getElem?_eq_some_iff.mp this).1
theorem Hid.in_ {G : Array GenState} {s : Shared} (H : Hid G s) {i : Nat} {x : GenState} (e : G[i]? = some x) (hx : isS x = true) : (unh G s).gens[i]? = some x := by
  have h : hdn G i = true := by unfold hdn; rw [e]; exact hx
  show (shw G s.gens)[i]? = _
  rw [shw_get, H.at_ i x e hx]
  simp [sh1, h, e]
theorem psn_isS (x : GenState) : isS (psn x) = isS x := by cases x <;> rfl
theorem Hid.opn {G : Array GenState} {s : Shared} (H : Hid G s) {i : Nat} {st : GenState} (hg : s.gens[i]? = some st) (hs : isS st = false) : hdn G i = false ∧ (unh G s).gens[i]? = some st := by
  have hh : hdn G i = false := by
    cases hh : hdn G i with
    | false => rfl
    | true =>
      obtain ⟨x, ex, hx⟩ := hdn_some hh
      have e1 := H.at_ i x ex hx
      rw [hg] at e1
      injection e1 with e1
      rw [e1, psn_isS, hx] at hs
      cases hs
  exact ⟨hh, by show (shw G s.gens)[i]? = _; rw [shw_out hh]; exact hg⟩
theorem Hid.seen {G : Array GenState} {s : Shared} (H : Hid G s) {i : Nat} {st : GenState} (hg : s.gens[i]? = some st) : ∃ x, (unh G s).gens[i]? = some x ∧ x.seen = st.seen := by
  cases hh : hdn G i with
  | false => exact ⟨st, by show (shw G s.gens)[i]? = _; rw [shw_out hh]; exact hg, rfl⟩
  | true =>
    obtain ⟨x, ex, hx⟩ := hdn_some hh
    have e1 := H.at_ i x ex hx
    rw [hg] at e1
    injection e1 with e1
    exact ⟨x, H.in_ ex hx, by rw [e1, psn_seen]⟩
theorem shw_set {G gens : Array GenState} {i : Nat} {x : GenState} (h : hdn G i = false) : shw G (gens.setIfInBounds i x) = (shw G gens).setIfInBounds i x := by
  apply Array.ext_getElem?
  intro j
  rw [shw_get]
  by_cases hj : i = j
  · subst hj
    by_cases hs : i < gens.size
    · rw [Array.getElem?_setIfInBounds_self_of_lt hs, Array.getElem?_setIfInBounds_self_of_lt (by rw [shw_size]; exact hs)]
      simp [sh1, h]
    · rw [Array.getElem?_eq_none (by simpa using hs), Array.getElem?_eq_none (by simpa [shw_size] using hs)]; rfl
  · rw [Array.getElem?_setIfInBounds_ne hj, Array.getElem?_setIfInBounds_ne hj, shw_get]
theorem shw_push {G gens : Array GenState} {x : GenState} (h : hdn G gens.size = false) : shw G (gens.push x) = (shw G gens).push x := by
  apply Array.ext_getElem?
  intro j
  rw [shw_get, Array.getElem?_push, Array.getElem?_push, shw_size]
  by_cases hj : j = gens.size
  · rw [if_pos hj, if_pos hj]
    subst hj
    simp [sh1, h]
  · rw [if_neg hj, if_neg hj, shw_get]
theorem Hid.set {G : Array GenState} {s : Shared} (H : Hid G s) {i : Nat} {x : GenState} (h : hdn G i = false) (hx : ∀ k l c p fs cl, x = .suspended k l c p fs cl → splitAtGen fs = none) : Hid G (s.setGen i x) := by
  refine ⟨fun j y e hy => ?_, fun j k l c p fs cl e hj => ?_⟩
  · have hj : hdn G j = true := by unfold hdn; rw [e]; exact hy
    have hne : i ≠ j := fun z => by rw [z, hj] at h; cases h
    show (s.gens.setIfInBounds i x)[j]? = _
    rw [Array.getElem?_setIfInBounds_ne hne]
    exact H.at_ j y e hy
  · have e : (s.gens.setIfInBounds i x)[j]? = _ := e
    by_cases hij : i = j
    · subst hij
      rw [Array.getElem?_setIfInBounds_self] at e
      split at e
      · exact hx _ _ _ _ _ _ (Option.some.inj e)
      · cases e
    · rw [Array.getElem?_setIfInBounds_ne hij] at e
      exact H.no j _ _ _ _ _ _ e hj
theorem unh_set {G : Array GenState} {s : Shared} {i : Nat} {x : GenState} (h : hdn G i = false) : unh G (s.setGen i x) = (unh G s).setGen i x := by
  unfold unh Shared.setGen
  simp only [shw_set h]
theorem Hid.push {G : Array GenState} {s : Shared} (H : Hid G s) {c : Code} : Hid G { s with gens := s.gens.push (.fresh c) } ∧ unh G { s with gens := s.gens.push (.fresh c) } = { unh G s with gens := (unh G s).gens.push (.fresh c) } := by
  have h : hdn G s.gens.size = false := by
    cases e : hdn G s.gens.size with
    | false => rfl
    | true => exact absurd (H.lt e) (Nat.lt_irrefl _)
  refine ⟨⟨fun j y e hy => ?_, fun j k l c p fs cl e hj => ?_⟩, ?_⟩
  · have := H.at_ j y e hy
    have hlt := (Array.getElem?_eq_some_iff.mp this).1
    show (s.gens.push _)[j]? = _
    rw [Array.getElem?_push, if_neg (Nat.ne_of_lt hlt)]
    exact this
  · have e : (s.gens.push _)[j]? = _ := e
    rw [Array.getElem?_push] at e
    split at e
    · cases e
    · exact H.no j _ _ _ _ _ _ e hj
  · unfold unh
    simp only [shw_push h]
theorem no_unsup {M : Model} {Γ : PySem.Ctx} {p : Pos} {t : Sem PySem.Fin} {fs : List Frame} {s s' : Shared} {e : End} (h : Runs M Γ p t fs s e s') : ∀ x, t = .unsupported x → False := by
  induction h with
  | segRet _ _ ih _ => exact ih
  | segGen _ _ ih _ => exact ih
  | segSuspOut _ _ ih => exact ih
  | segSuspGen _ _ _ _ ih _ => exact ih
  | _ => intro x e; cases e
def EndNo : End → Prop | .ret _ => True | .susp _ _ _ _ _ _ fs => splitAtGen fs = none
theorem EndNo.st {e : End} (h : EndNo e) : ∀ k l c p fs cl, e.genState = .suspended k l c p fs cl → splitAtGen fs = none := by
  intro k l c p fs cl q
  cases e with
  | ret r => cases q
  | susp v g₀ l₀ k₀ c₀ p₀ fs₀ => cases q; exact h
theorem fr_runs {G : Array GenState} {M : Model} {Γ : PySem.Ctx} {p : Pos} {t : Sem PySem.Fin} {fs : List Frame} {s s' : Shared} {e : End} (h : Runs M Γ p t fs s e s') :
    splitAtGen fs = none → Hid G s → EndNo e ∧ Hid G s' ∧ Runs M Γ p t fs (unh G s) e (unh G s') := by
  induction h with
  | done => exact fun _ H => ⟨trivial, H, .done⟩
  | raise => exact fun _ H => ⟨trivial, H, .raise⟩
  | again hq _ ih => intro a H; obtain ⟨h1, h2, h3⟩ := ih a H; exact ⟨h1, h2, .again hq h3⟩
  | rule _ ih => intro a H; obtain ⟨h1, h2, h3⟩ := ih a H; exact ⟨h1, h2, .rule h3⟩
  | «at» _ ih => intro a H; obtain ⟨h1, h2, h3⟩ := ih a H; exact ⟨h1, h2, .at h3⟩
  | load ho _ ih => intro a H; obtain ⟨h1, h2, h3⟩ := ih a H; exact ⟨h1, h2, .load ho h3⟩
  | update ha _ ih => intro a H; obtain ⟨h1, h2, h3⟩ := ih a ⟨H.at_, H.no⟩; exact ⟨h1, h2, .update ha h3⟩
  | loadIfAlive _ ih => intro a H; obtain ⟨h1, h2, h3⟩ := ih a H; exact ⟨h1, h2, .loadIfAlive h3⟩
  | point _ ih => intro a H; obtain ⟨h1, h2, h3⟩ := ih a H; exact ⟨h1, h2, .point h3⟩
  | alloc _ ih => intro a H; obtain ⟨h1, h2, h3⟩ := ih a ⟨H.at_, H.no⟩; exact ⟨h1, h2, .alloc h3⟩
  | fresh _ ih => intro a H; obtain ⟨h1, h2, h3⟩ := ih a ⟨H.at_, H.no⟩; exact ⟨h1, h2, .fresh h3⟩
  | ask _ ih => intro a H; obtain ⟨h1, h2, h3⟩ := ih a H; exact ⟨h1, h2, .ask h3⟩
  | choose hn _ ih => intro a H; obtain ⟨h1, h2, h3⟩ := ih a ⟨H.at_, H.no⟩; exact ⟨h1, h2, .choose hn h3⟩
  | os _ ih => intro a H; obtain ⟨h1, h2, h3⟩ := ih a ⟨H.at_, H.no⟩; exact ⟨h1, h2, .os h3⟩
  | handled _ ih => intro a H; obtain ⟨h1, h2, h3⟩ := ih a H; exact ⟨h1, h2, .handled h3⟩
  | genState hg _ ih =>
    intro a H
    obtain ⟨h1, h2, h3⟩ := ih a H
    obtain ⟨x, hx, e⟩ := H.seen hg
    rw [← e] at h3
    exact ⟨h1, h2, .genState hx h3⟩
  | stack _ ih => intro a H; obtain ⟨h1, h2, h3⟩ := ih a H; exact ⟨h1, h2, .stack h3⟩
  | thread _ ih => intro a H; obtain ⟨h1, h2, h3⟩ := ih a H; exact ⟨h1, h2, .thread h3⟩
  | newGen _ ih =>
    intro a H
    obtain ⟨h1, h2, h3⟩ := ih a H.push.1
    rw [H.push.2] at h3
    refine ⟨h1, h2, .newGen ?_⟩
    have e2 : ∀ s : Shared, (unh G s).gens.size = s.gens.size := fun s => shw_size G s.gens
    rw [e2]
    exact h3
  | call _ _ ih1 ih2 =>
    intro a H
    obtain ⟨_, h2, h3⟩ := ih1 rfl H
    obtain ⟨k1, k2, k3⟩ := ih2 a h2
    exact ⟨k1, k2, .call h3 k3⟩
  | callSusp _ ih =>
    intro a H
    obtain ⟨h1, h2, h3⟩ := ih rfl H
    refine ⟨?_, h2, .callSusp h3⟩
    show splitAtGen (_ ++ _) = none
    rw [splitAtGen_append_none _ h1]; rfl
  | yield => exact fun _ H => ⟨rfl, H, .yield⟩
  | resumeFresh hg _ hq _ ih1 ih2 =>
    intro a H
    obtain ⟨hh, hg'⟩ := H.opn hg rfl
    obtain ⟨h1, h2, h3⟩ := ih1 rfl (H.set (x := .running) hh fun _ _ _ _ _ _ z => by cases z)
    obtain ⟨k1, k2, k3⟩ := ih2 a (h2.set hh h1.st)
    rw [unh_set hh] at h3 k3
    exact ⟨k1, k2, .resumeFresh hg' h3 hq k3⟩
  | @resumeSuspended Γ p g r l k s k₀ l₀ c₀ p₀ fs cl e₁ s₁ e s' hg hr hq _ ih1 ih2 =>
    intro a H
    have hh : hdn G g = false := by
      cases hh : hdn G g with
      | false => rfl
      | true =>
        obtain ⟨x, ex, hx⟩ := hdn_some hh
        have e1 := H.at_ g x ex hx
        rw [hg] at e1
        cases x with
        | suspended k1 l1 c1 p1 fs1 cl1 =>
          injection e1 with e1
          injection e1 with e1
          subst e1
          exact (no_unsup hr _ rfl).elim
        | fresh _ => cases hx
        | running => cases hx
        | finished => cases hx
    obtain ⟨h1, h2, h3⟩ := ih1 (H.no g _ _ _ _ _ _ hg hh) (H.set (x := .running) hh fun _ _ _ _ _ _ z => by cases z)
    obtain ⟨k1, k2, k3⟩ := ih2 a (h2.set hh h1.st)
    rw [unh_set hh] at h3 k3
    exact ⟨k1, k2, .resumeSuspended (by rw [show (unh G s).gens = shw G s.gens from rfl, shw_out hh]; exact hg) h3 hq k3⟩
  | resumeJustStarted hg hv _ ih =>
    intro a H
    obtain ⟨hh, hg'⟩ := H.opn hg rfl
    obtain ⟨h1, h2, h3⟩ := ih a H
    exact ⟨h1, h2, .resumeJustStarted hg' hv h3⟩
  | resumeThrowFresh hg _ ih =>
    intro a H
    obtain ⟨hh, hg'⟩ := H.opn hg rfl
    obtain ⟨h1, h2, h3⟩ := ih a (H.set (x := .finished) hh fun _ _ _ _ _ _ z => by cases z)
    rw [unh_set hh] at h3
    exact ⟨h1, h2, .resumeThrowFresh hg' h3⟩
  | resumeRunning hg _ ih =>
    intro a H
    obtain ⟨hh, hg'⟩ := H.opn hg rfl
    obtain ⟨h1, h2, h3⟩ := ih a H
    exact ⟨h1, h2, .resumeRunning hg' h3⟩
  | resumeFinished hg _ ih =>
    intro a H
    obtain ⟨hh, hg'⟩ := H.opn hg rfl
    obtain ⟨h1, h2, h3⟩ := ih a H
    exact ⟨h1, h2, .resumeFinished hg' h3⟩
  | @segRet Γ p t k h g l c₁ p₁ kp fs s r s₁ e s' _ _ ih1 ih2 =>
    intro a H
    have a2 : splitAtGen fs = none := by
      rw [splitAtGen_ret] at a
      cases hs : splitAtGen fs with
      | none => rfl
      | some x => rw [hs] at a; cases a
    obtain ⟨_, h2, h3⟩ := ih1 rfl H
    obtain ⟨k1, k2, k3⟩ := ih2 a2 h2
    exact ⟨k1, k2, .segRet h3 k3⟩
  | segGen _ _ ih1 ih2 => intro a H; rw [splitAtGen_gen] at a; cases a
  | segSuspOut hs _ ih =>
    intro a H
    obtain ⟨h1, h2, h3⟩ := ih rfl H
    refine ⟨?_, h2, .segSuspOut hs h3⟩
    show splitAtGen (_ ++ _) = none
    rw [splitAtGen_append_none _ h1, hs]; rfl
  | segSuspGen hs _ hq _ ih1 ih2 => intro a H; rw [hs] at a; cases a
theorem fr_wakes {G : Array GenState} {M : Model} {Γ : PySem.Ctx} {p : Pos} {g : Nat} {r : Resume} {s s' : Shared} {res : GenResult} (H : Hid G s) (h : Wakes M Γ p g r s res s') : Hid G s' ∧ Wakes M Γ p g r (unh G s) res (unh G s') := by
  unfold Wakes at h
  cases hg : s.gens[g]? with
  | none => rw [hg] at h; exact h.elim
  | some gs =>
    rw [hg] at h
    cases gs with
    | fresh c =>
      obtain ⟨hh, hg'⟩ := H.opn hg rfl
      cases r with
      | send v =>
        by_cases hv : v = .none
        · subst hv
          obtain ⟨e₁, s₁, hr, hq, rfl, rfl⟩ := h
          obtain ⟨h1, h2, h3⟩ := fr_runs hr rfl (H.set (x := .running) hh fun _ _ _ _ _ _ z => by cases z)
          rw [unh_set hh] at h3
          refine ⟨h2.set hh h1.st, ?_⟩
          unfold Wakes
          rw [hg', unh_set hh]
          exact ⟨e₁, _, h3, hq, rfl, rfl⟩
        · have e : res = .justStarted ∧ s' = s := by cases v <;> first | exact absurd rfl hv | exact h
          obtain ⟨e1, e2⟩ := e
          subst e1
          subst e2
          refine ⟨H, ?_⟩
          unfold Wakes
          rw [hg']
          cases v <;> first | exact absurd rfl hv | exact ⟨rfl, rfl⟩
      | throw x =>
        obtain ⟨rfl, rfl⟩ := h
        refine ⟨H.set hh (fun _ _ _ _ _ _ z => by cases z), ?_⟩
        unfold Wakes
        rw [hg', unh_set hh]
        exact ⟨rfl, rfl⟩
    | suspended k₀ l₀ c₀ p₀ fs cl =>
      obtain ⟨e₁, s₁, hr, hq, rfl, rfl⟩ := h
      have hh : hdn G g = false := by
        cases hh : hdn G g with
        | false => rfl
        | true =>
          obtain ⟨x, ex, hx⟩ := hdn_some hh
          have e1 := H.at_ g x ex hx
          rw [hg] at e1
          cases x with
          | suspended k1 l1 c1 p1 fs1 cl1 =>
            injection e1 with e1
            injection e1 with e1
            subst e1
            exact (no_unsup hr _ rfl).elim
          | fresh _ => cases hx
          | running => cases hx
          | finished => cases hx
      obtain ⟨h1, h2, h3⟩ := fr_runs hr (H.no g _ _ _ _ _ _ hg hh) (H.set (x := .running) hh fun _ _ _ _ _ _ z => by cases z)
      rw [unh_set hh] at h3
      refine ⟨h2.set hh h1.st, ?_⟩
      unfold Wakes
      rw [show (unh G s).gens = shw G s.gens from rfl, shw_out hh, hg, unh_set hh]
      exact ⟨e₁, _, h3, hq, rfl, rfl⟩
    | running =>
      obtain ⟨hh, hg'⟩ := H.opn hg rfl
      obtain ⟨rfl, rfl⟩ := h
      refine ⟨H, ?_⟩
      unfold Wakes
      rw [hg']
      exact ⟨rfl, rfl⟩
    | finished =>
      obtain ⟨hh, hg'⟩ := H.opn hg rfl
      obtain ⟨rfl, rfl⟩ := h
      refine ⟨H, ?_⟩
      unfold Wakes
      rw [hg']
      exact ⟨rfl, rfl⟩
theorem fr_wp {α : Type} {G : Array GenState} {M : Model} {Γ : PySem.Ctx} (m : Sem α) : ∀ {Q : α → Pos → Shared → Prop} {E : Value → Pos → Shared → Prop} {p : Pos} {s : Shared}, Hid G s → wp M Γ m Q E p s →
    wp M Γ m (fun a p' s' => ∃ s2, s' = unh G s2 ∧ Hid G s2 ∧ Q a p' s2) (fun x p' s' => ∃ s2, s' = unh G s2 ∧ Hid G s2 ∧ E x p' s2) p (unh G s) := by
  induction m with
  | pure a => intro Q E p s H h; exact ⟨s, rfl, H, h⟩
  | raise x => intro Q E p s H h; exact ⟨s, rfl, H, h⟩
  | unsupported _ => intro Q E p s H h; exact h.elim
  | finish _ => intro Q E p s H h; exact h.elim
  | register _ _ => intro Q E p s H h; exact h.elim
  | yield _ _ _ _ => intro Q E p s H h; exact h.elim
  | fork _ _ => intro Q E p s H h; exact h.elim
  | await _ _ _ _ _ => intro Q E p s H h; exact h.elim
  | rule tag k ih => intro Q E p s H h; exact ih () H h
  | «at» p' k ih => intro Q E p s H h; exact ih () H h
  | load a part k ih => intro Q E p s H h; obtain ⟨o, ho, h⟩ := h; exact ⟨o, ho, ih o H h⟩
  | update a part g k ih => intro Q E p s H h; exact ⟨h.1, ih () (s := { s with heap := s.heap.update a g }) ⟨H.at_, H.no⟩ h.2⟩
  | alloc o k ih => intro Q E p s H h; exact ih _ (s := { s with heap := s.heap.push o }) ⟨H.at_, H.no⟩ h
  | loadIfAlive a k ih => intro Q E p s H h; exact ih _ H h
  | point l k ih => intro Q E p s H h; exact ih () H h
  | fresh k ih => intro Q E p s H h; exact ih _ (s := { s with toks := s.toks + 1 }) ⟨H.at_, H.no⟩ h
  | ask k ih => intro Q E p s H h; exact ih _ H h
  | choose src n k ih => intro Q E p s H h; exact ⟨h.1, ih _ (s := { s with drawn := s.drawn.bump src }) ⟨H.at_, H.no⟩ h.2⟩
  | os q l k ih => intro Q E p s H h; exact ih _ (s := { s with os := (Os.step s.os q).1 }) ⟨H.at_, H.no⟩ h
  | call c hd g l k ih =>
    intro Q E p s H h
    obtain ⟨r, s₁, hret, h⟩ := h
    obtain ⟨_, h2, h3⟩ := fr_runs hret rfl H
    exact ⟨r, _, h3, ih r h2 h⟩
  | handled own k ih => intro Q E p s H h; exact ih _ H h
  | newGen c k ih =>
    intro Q E p s H h
    have := ih _ (H.push (c := c)).1 h
    rw [(H.push (c := c)).2] at this
    have e2 : (unh G s).gens.size = s.gens.size := shw_size G s.gens
    show wp M Γ (k (unh G s).gens.size) _ _ p { unh G s with gens := (unh G s).gens.push (.fresh c) }
    rw [e2]
    exact this
  | genState g k ih =>
    intro Q E p s H h
    obtain ⟨st, hg, h⟩ := h
    obtain ⟨x, hx, e⟩ := H.seen hg
    refine ⟨x, hx, ?_⟩
    rw [e]
    exact ih _ H h
  | resume g r l k ih =>
    intro Q E p s H h
    obtain ⟨res, s₁, hwk, h⟩ := h
    obtain ⟨h2, h3⟩ := fr_wakes H hwk
    exact ⟨res, _, h3, ih res h2 h⟩
  | stack k ih => intro Q E p s H h; exact ih _ H h
  | thread k ih => intro Q E p s H h; exact ih _ H h
theorem Hid.self (s : Shared) : Hid s.gens (hid s) where
  at_ := fun i x e _ => by
    show (s.gens.map psn)[i]? = _
    rw [Array.getElem?_map, e]; rfl
  no := fun i k l c p fs cl e h => by
    have e : (s.gens.map psn)[i]? = _ := e
    rw [Array.getElem?_map] at e
    cases hx : s.gens[i]? with
    | none => rw [hx] at e; cases e
    | some x =>
      rw [hx] at e
      have h0 : isS x = false := by unfold hdn at h; rw [hx] at h; exact h
      rw [Option.map_some, psn_other h0] at e
      injection e with e
      rw [e] at h0
      cases h0
theorem unh_hid (s : Shared) : unh s.gens (hid s) = s := by
  have : shw s.gens (s.gens.map psn) = s.gens := by
    apply Array.ext_getElem?
    intro i
    rw [shw_get, Array.getElem?_map]
    cases hx : s.gens[i]? with
    | none => rfl
    | some x =>
      show some (sh1 s.gens i (psn x)) = some x
      unfold sh1 hdn
      rw [hx]
      cases x <;> rfl
  show ({ s with gens := shw s.gens (s.gens.map psn) } : Shared) = s
  rw [this]
theorem hid_bare (s : Shared) : AllBare (hid s).gens := fun y hy => by
  have hy : y ∈ s.gens.map psn := hy
  obtain ⟨x, _, rfl⟩ := Array.mem_map.mp hy
  exact psn_bare x
/-- what stands afterwards: the suspended ones of before as they were, the others bare if they are so in hiding -/
structure Shown (G : Array GenState) (s2 s' : Shared) : Prop where
  eq : s' = unh G s2
  hd : Hid G s2
theorem Shown.heap {G : Array GenState} {s2 s' : Shared} (h : Shown G s2 s') : s'.heap = s2.heap := by rw [h.eq]; rfl
theorem Shown.os {G : Array GenState} {s2 s' : Shared} (h : Shown G s2 s') : s'.os = s2.os := by rw [h.eq]; rfl
theorem Shown.size {G : Array GenState} {s2 s' : Shared} (h : Shown G s2 s') : s'.gens.size = s2.gens.size := by rw [h.eq]; exact shw_size ..
theorem Shown.kept {G : Array GenState} {s2 s' : Shared} (h : Shown G s2 s') {i : Nat} {x : GenState} (e : G[i]? = some x) (hx : isS x = true) : s'.gens[i]? = some x := by rw [h.eq]; exact h.hd.in_ e hx
theorem Shown.bare {G : Array GenState} {s2 s' : Shared} (h : Shown G s2 s') (hb : AllBare s2.gens) {i : Nat} {x : GenState} (e : s'.gens[i]? = some x) : x.bare = true ∨ G[i]? = some x := by
  rw [h.eq] at e
  cases hh : hdn G i with
  | false =>
    rw [show (unh G s2).gens = shw G s2.gens from rfl, shw_out hh] at e
    exact .inl (hb x (Array.mem_of_getElem? e))
  | true =>
    obtain ⟨y, ey, hy⟩ := hdn_some hh
    rw [h.hd.in_ ey hy] at e
    injection e with e
    exact .inr (e ▸ ey)
/-- THE RULE: what holds in hiding -/
theorem wpAny_hid {α : Type} {M : Model} {A : Around} {t : Sem α} {Q : α → Shared → Prop} {E : Value → Shared → Prop} {s : Shared} (h : wpAny M A t Q E (hid s)) :
    wpAny M A t (fun a s' => ∃ s2, Shown s.gens s2 s' ∧ Q a s2) (fun e s' => ∃ s2, Shown s.gens s2 s' ∧ E e s2) s := fun Γ p hΓ => by
  have := fr_wp t (Hid.self s) (h Γ p hΓ)
  rw [unh_hid] at this
  exact Sem.wp_mono M Γ t (fun a p' s' ⟨s2, e, hd, q⟩ => ⟨s2, ⟨e, hd⟩, q⟩) (fun a p' s' ⟨s2, e, hd, q⟩ => ⟨s2, ⟨e, hd⟩, q⟩) p s this
end GW
set_option maxHeartbeats 2000000
/-! # W: a generator that sleeps and works -/
namespace GW
open PySem PySem.Spec PyProof.Rows L2 Evl Ct
/-! ### the state as it was below an address -/
def tr (s : Shared) (n : Nat) : Shared := { s with heap := { s.heap with objs := s.heap.objs.take n } }
def lim (H : Hp) (n : Nat) : Hp := fun b => if b < n then H b else none
theorem tr_size (s : Shared) (n : Nat) : (tr s n).heap.objs.size = min n s.heap.objs.size := by simp [tr]
theorem tr_get {s : Shared} {n : Nat} {b : Addr} (h : b < n) : (tr s n).heap.get? b = s.heap.get? b := by
  unfold tr Heap.get?
  have e : (s.heap.objs.take n)[b]? = s.heap.objs[b]? := by
    rw [Array.take_eq_extract, Array.getElem?_extract]
    by_cases hs : b < s.heap.objs.size
    · rw [if_pos (show b < min n s.heap.objs.size - 0 from by rw [Nat.sub_zero]; exact Nat.lt_min.mpr ⟨h, hs⟩), Nat.zero_add]
    · rw [if_neg (show ¬ b < min n s.heap.objs.size - 0 from by rw [Nat.sub_zero]; exact fun z => hs (Nat.lt_min.mp z).2)]
      exact (Array.getElem?_eq_none (Nat.le_of_not_lt hs)).symm
  simp only [e]
theorem tr_some {s : Shared} {n : Nat} {b : Addr} {o : Obj} (h : (tr s n).heap.get? b = some o) : b < n ∧ s.heap.get? b = some o := by
  have h1 := Heap.lt_size h
  rw [tr_size] at h1
  have h2 : b < n := Nat.lt_of_lt_of_le h1 (Nat.min_le_left _ _)
  exact ⟨h2, by rw [← tr_get h2]; exact h⟩
theorem lim_lt {H : Hp} {n : Nat} {b : Addr} (h : b < n) : lim H n b = H b := if_pos h
theorem lim_some {H : Hp} {n : Nat} {b : Addr} {o : HO} (h : lim H n b = some o) : H b = some o := by
  unfold lim at h
  split at h
  · exact h
  · cases h
theorem frames_at {h h' base : Heap} : ∀ {l : List Env}, h.FunFrames base l → (∀ b ∈ frs l, ∀ o, h.get? b = some o → h'.get? b = some o) → h'.FunFrames base l
  | [], _, _ => trivial
  | env :: r, hl, k => by
    obtain ⟨hk, ⟨L, o, hf, hn, ho, hd⟩, hr⟩ := hl
    have e : frs (env :: r) = L :: frs r := by unfold frs; rw [List.filterMap_cons, hf]
    exact ⟨hk, ⟨L, o, hf, hn, k L (by rw [e]; exact List.mem_cons_self) o ho, hd⟩, frames_at hr fun b hb => k b (by rw [e]; exact List.mem_cons_of_mem _ hb)⟩
theorem okOb_some {P : Program} {w : World} {H : Hp} {h : Heap} {a : Addr} {o : HO} (x : ObjOk P w H h a o) : ∃ u, h.get? a = some u := by
  cases o with
  | lst xs => obtain ⟨_, _, _, _, e⟩ := x; exact ⟨_, e⟩
  | tup xs => obtain ⟨_, _, _, p⟩ := x; obtain ⟨o, e, _⟩ := p; exact ⟨_, e⟩
  | dK kvs => obtain ⟨_, _, _, _, o, _, _, e, _⟩ := x; exact ⟨_, e⟩
  | dT kvs => obtain ⟨_, _, _, _, o, _, _, e, _⟩ := x; exact ⟨_, e⟩
  | set S n => obtain ⟨o, _, _, _, e, _⟩ := x; exact ⟨_, e⟩
  | ins C dx fs => obtain ⟨_, _, _, e, _⟩ := x; exact ⟨_, e⟩
  | own y => exact x
  | xd fs => obtain ⟨_, ⟨_, _, _, e, _⟩, _⟩ := x; exact ⟨_, e⟩
  | rng lo hi => obtain ⟨_, _, _, e⟩ := x; exact ⟨_, e⟩
  | frz ob u => exact ⟨_, x.1⟩
  | tbl ps => exact ⟨_, x⟩
  | met f y => exact ⟨_, x⟩
  | ext φ => exact x.2.1
/-! ### the body's context, hidden generators -/
def gX (P : Program) (w : World) (K : PySem.W.Frag) (mg : Str → Option Value) (base : Heap) (N : List Str) (qual : Str) (scope : Scope) (f : Addr) (cdv : Value) (A : Around) (outer : List Env) (N0 : Addr) (s0 : Shared) (H0 : Hp) : Cx :=
  { prog := P, w := w, K := K, mg := mg, base := base, A := A.deeper (envOfC qual scope N0 f cdv), N := N, s_0 := s0, H_0 := H0, env := envOfC qual scope N0 f cdv, outer := outer, stack := envOfC qual scope N0 f cdv :: outer, ex := [], fn := fun _ => true, calm := true, pn := [], xe := fun _ _ => False }
def InvG (X : Cx) (pins : List (Addr × Obj)) (σ : L2.St) (H : Hp) (s : Shared) : Prop := Inv X pins σ H { s with gens := #[] }
theorem bare_nil : AllBare (#[] : Array GenState) := fun y hy => by simp at hy
section
variable {X : Cx} {pins : List (Addr × Obj)} {σ : L2.St} {H H' : Hp} {s s' : Shared}
theorem InvG.of (I : Inv X pins σ H s) : InvG X pins σ H s := ⟨I.ok, I.os, bare_nil, I.base, I.loc, I.cell, I.free, I.freeC, I.pin, I.hok, I.len⟩
theorem InvG.back (I : InvG X pins σ H s) (h : AllBare s.gens) : Inv X pins σ H s := ⟨I.ok, I.os, h, I.base, I.loc, I.cell, I.free, I.freeC, I.pin, I.hok, I.len⟩
theorem InvG.gens (I : InvG X pins σ H s) (g : Array GenState) : InvG X pins σ H { s with gens := g } := I
theorem InvG.tok (I : InvG X pins σ H s) (t : Nat) : InvG X pins σ H { s with toks := t } := Inv.tok (s := { s with gens := #[] }) I t
end
/-! ### the protocol -/
section
variable (P : Program) (w : World) (base : Heap) (outer : List Env) (N0 a : Addr) (g : Nat)
/-- others at work, while it sleeps -/
structure Slp (s : Shared) (H : Hp) (s' : Shared) (H' : Hp) : Prop where
  os : s'.os = s.os
  ext : Ex H H'
  hok : HOk P w H' s'.heap
  keep : ∀ b o, N0 ≤ b → b ≠ a → (∀ v, o.data ≠ .cell v) → s.heap.get? b = some o → H b = none → s'.heap.get? b = some o ∧ H' b = none
  gens : ∀ (i : Nat) (x : GenState), g < i → isS x = true → s.gens[i]? = some x → s'.gens[i]? = some x
  gbare : ∀ (i : Nat) (y : GenState), (i ≤ g ∨ s.gens.size ≤ i ∨ ∃ x, s.gens[i]? = some x ∧ x.bare = true) → s'.gens[i]? = some y → y.bare = true
  gsz : s.gens.size ≤ s'.gens.size
  bs : ∀ b o, base.get? b = some o → s'.heap.get? b = some o ∧ H' b = none
  funs : s'.heap.FunFrames base outer
  frf : ∀ b ∈ frs outer, H' b = none
  self : (∃ m, GenOb s'.heap a g m) ∧ H' a = none
/-- itself at work, since it was woken -/
structure Did (s : Shared) (H : Hp) (s1 : Shared) (H1 : Hp) : Prop where
  os : s1.os = s.os
  ext : Ex H H1
  hok : HOk P w H1 s1.heap
  un : Un (frs outer) [] (lim H N0) H1 (tr s N0).heap s1.heap
  self : s1.heap.get? a = s.heap.get? a ∧ H1 a = none
  gbare : ∀ i x, i ≤ g → s1.gens[i]? = some x → x.bare = true
  gsz : s.gens.size ≤ s1.gens.size
variable {β : Type} (R : Rp β) (A : Around)
def RtP (outs : List β) (s : Shared) (H : Hp) : Shared → Prop := fun s1 => outs = [] ∧ ∃ H1, Did P w outer N0 a g s H s1 H1 ∧ AllBare s1.gens
def YdP : List β → Shared → Hp → Value → Shared → GenState → Prop
  | [], _, _, _, _, _ => False
  | o :: r, s, H, v, s1, gs1 => ∃ u H1, isS gs1 = true ∧ Did P w outer N0 a g s H s1 H1 ∧ RelV u v ∧ R H1 u o ∧
      ∀ s' H', Slp P w base outer N0 a g s1 H1 s' H' → GoesW P w A g (RtP P w outer N0 a g r s' H') (YdP r s' H') gs1 s'
/-- it will hand out outs, whenever it is woken -/
def Armed (outs : List β) (gs : GenState) (s : Shared) (H : Hp) : Prop := ∀ s' H', Slp P w base outer N0 a g s H s' H' → GoesW P w A g (RtP P w outer N0 a g outs s' H') (YdP P w base outer N0 a g R A outs s' H') gs s'
end
section
variable {P : Program} {w : World} {K : PySem.W.Frag} {mg : Str → Option Value} {base : Heap} {N : List Str} {qual : Str} {scope : Scope} {f : Addr} {cdv : Value} {A : Around} {outer : List Env} {N0 a : Addr} {g : Nat} {s0 s s' s1 : Shared} {H0 H H' H1 : Hp} {pins : List (Addr × Obj)} {σ : L2.St}
/-- the body's state, seen from a new wake -/
theorem rebase (I : InvG (gX P w K mg base N qual scope f cdv A outer N0 s0 H0) pins σ H s) (nc : ∀ y c, (envOfC qual scope N0 f cdv).cells.lookup y = some c → False) (S : Slp P w base outer N0 a g s H s' H') (ha : N0 ≠ a)
    (hp : ∀ p ∈ pins, N0 ≤ p.1 ∧ p.1 ≠ a) : InvG (gX P w K mg base N qual scope f cdv A outer N0 (tr s' N0) (lim H' N0)) pins σ H' s' := by
  have ok := I.ok
  have hL : ∃ o, s.heap.get? N0 = some o ∧ ∀ v, o.data ≠ .cell v := let ⟨m, ⟨o, _, _, ho, hd, _⟩, _⟩ := I.loc; ⟨o, ho, fun v z => by rw [hd] at z; cases z⟩
  have hz : s0.heap.objs.size ≤ N0 := ok.above
  have hbz : base.objs.size ≤ s0.heap.objs.size := ok.bsz
  have hN : N0 < s'.heap.objs.size := by
    obtain ⟨o, ho, hc⟩ := hL
    exact Heap.lt_size (S.keep N0 o (Nat.le_refl _) ha hc ho I.free).1
  have hsz : (tr s' N0).heap.objs.size = N0 := by rw [tr_size]; exact Nat.min_eq_left (Nat.le_of_lt hN)
  have bl : ∀ b o, base.get? b = some o → b < N0 := fun b o e => Nat.lt_of_lt_of_le (Heap.lt_size e) (Nat.le_trans hbz hz)
  have fl : ∀ b ∈ frs outer, b < N0 := fun b hb => by
    obtain ⟨_, o, e, _⟩ := ok.funs.mem hb
    exact Nat.lt_of_lt_of_le (Heap.lt_size e) hz
  refine ⟨⟨ok.mod, ok.kind, ok.glob, ok.blt, Nat.le_of_eq hsz, ok.inj, ok.has, fun x c _ e => (nc x c e).elim, ok.hd, ok.frames, ok.stk, ok.exf, fun b o e => ?_, ?_, ok.noex, ok.exfs, ?_, fun b hb => ?_⟩, rfl, bare_nil, ⟨fun b o e n hb hx => ?_, fun b o e n hb hx => ?_, fun b o e n hx => ?_, fun b o e hx => ?_, fun b xs e => lim_some e, fun b o u e => lim_some e, fun b ps e => ⟨#[], by rw [lim_some e]; simp⟩⟩, ?_, fun y c e => (nc y c e).elim, ?_, fun y c e => (nc y c e).elim, fun p hm => ?_, S.hok, I.len⟩
  · have h1 := S.bs b o e
    exact ⟨(tr_get (bl b o e)).trans h1.1, (lim_lt (bl b o e)).trans h1.2⟩
  · show base.objs.size ≤ (tr s' N0).heap.objs.size
    rw [hsz]; exact Nat.le_trans hbz hz
  · exact frames_at S.funs fun b hb o e => (tr_get (fl b hb)).trans e
  · exact (lim_lt (fl b hb)).trans (S.frf b hb)
  · exact (tr_some e).2
  · exact ⟨o.slots, (tr_some e).2⟩
  · have := (tr_some e).1
    rw [← lim_lt (H := H') this]; exact n
  · exact ⟨o, (tr_some e).2⟩
  · obtain ⟨m, hn, hl⟩ := I.loc
    have hn' : s.heap.Ns N0 m := hn
    have free : H N0 = none := I.free
    refine ⟨m, (show s'.heap.Ns N0 m from hn'.at fun o e => (S.keep N0 o (Nat.le_refl _) ha (by obtain ⟨o2, e2, h2⟩ := hL; rw [e] at e2; cases e2; exact h2) e free).1), fun i x v e1 e2 e3 => ?_⟩
    obtain ⟨u, r, l⟩ := hl i x v e1 e2 e3
    refine ⟨u, r, ?_⟩
    rcases l with l | ⟨_, c, e, _⟩
    · exact .inl l
    · exact (nc x c e).elim
  · obtain ⟨o, ho⟩ := hL
    exact (S.keep N0 o (Nat.le_refl _) ha ho.2 ho.1 I.free).2
  · obtain ⟨e, n, ne, nf, d⟩ := I.pin p (by simpa [gX] using hm)
    obtain ⟨h1, h2⟩ := hp p (by simpa [gX] using hm)
    obtain ⟨k1, k2⟩ := S.keep p.1 p.2 h1 h2 d e n
    exact ⟨k1, k2, ne, nf, d⟩
theorem did_of {sw : Shared} {Hw : Hp} {o : Obj} (I : InvG (gX P w K mg base N qual scope f cdv A outer N0 (tr sw N0) (lim Hw N0)) pins σ H s) (hm : (a, o) ∈ pins) (ho : sw.heap.get? a = some o) (hx : Ex Hw H)
    (gb : ∀ i x, i ≤ g → s.gens[i]? = some x → x.bare = true) (gsz : sw.gens.size ≤ s.gens.size) : Did P w outer N0 a g sw Hw s H := by
  obtain ⟨e, n, _⟩ := I.pin (a, o) (by simpa [gX] using hm)
  exact ⟨I.os, hx, I.hok, I.base, ⟨(show s.heap.get? a = some o from e).trans ho.symm, n⟩, gb, gsz⟩
/-- an inner generator has worked -/
theorem by_inner {X : Cx} {NI aI : Addr} {gI : Nat} (I : InvG X pins σ H s) (D : Did X.prog X.w X.stack NI aI gI s H s1 H1) (hN : X.env.locals < NI) (nc : ∀ y c, X.env.cells.lookup y = some c → False) (hp : ∀ p ∈ X.pn ++ pins, p.1 < NI) : InvG X pins σ H1 s1 := by
  have low : ∀ b o, s.heap.get? b = some o → b ∉ (List.range s.heap.objs.size).filter (fun b => decide (NI ≤ b)) → b < NI := fun b o e hb => by
    rcases Nat.lt_or_ge b NI with h | h
    · exact h
    · exact absurd (List.mem_filter.mpr ⟨List.mem_range.mpr (Heap.lt_size e), decide_eq_true h⟩) hb
  refine Inv.call' (s' := { s1 with gens := #[] }) (ch := (List.range s.heap.objs.size).filter (fun b => decide (NI ≤ b))) I D.os ⟨fun b o e n hb hx => ?_, fun b o e n hb hx => ?_, fun b o e n hx => ?_, fun b o e hx => ?_, fun b xs e => D.ext _ _ e, fun b o u e => D.ext _ _ e, fun b ps e => ⟨#[], by rw [D.ext _ _ e]; simp⟩⟩ D.hok bare_nil fun b hb => ?_
  · have l := low b o e hx
    exact D.un.keep b o ((tr_get l).trans e) ((lim_lt l).trans n) hb (by simp)
  · have l := low b o e hx
    exact D.un.slot b o ((tr_get l).trans e) ((lim_lt l).trans n) hb (by simp)
  · have l := low b o e hx
    exact D.un.free b o ((tr_get l).trans e) ((lim_lt l).trans n) (by simp)
  · have l := low b o e hx
    exact D.un.there b o ((tr_get l).trans e) (by simp)
  · obtain ⟨h1, h2⟩ := List.mem_filter.mp hb
    have h2 : NI ≤ b := of_decide_eq_true h2
    have h3 : X.env.locals < b := Nat.lt_of_lt_of_le hN h2
    refine ⟨.inr (Nat.le_trans I.ok.above (Nat.le_of_lt h3)), Nat.ne_of_gt h3, fun x c e => (nc x c e).elim, fun p hm z => ?_⟩
    have := Nat.lt_of_lt_of_le (hp p hm) h2
    rw [z] at this
    exact Nat.lt_irrefl _ this
end
end GW
set_option maxHeartbeats 4000000
/-! # W: a generator's statements -/
namespace GW
open PySem PySem.Spec PyProof.Rows L2 Evl Ct GenW
theorem close_gen : ∃ x, typeLookup (.type "generator") "close" = pure (some x) := ⟨.builtin "generator.close", by rw [typeLookup_type, builtinLookup_eq_fast]; kernel_rfl⟩
theorem setGen_other {s : Shared} {g i : Nat} {x : GenState} (h : i ≠ g) : (s.setGen g x).gens[i]? = s.gens[i]? := by
  show (s.gens.setIfInBounds g x)[i]? = _
  rw [Array.getElem?_setIfInBounds_ne (Ne.symm h)]
theorem setGen_self {s : Shared} {g : Nat} {x y : GenState} (h : (s.setGen g x).gens[g]? = some y) : y = x := by
  have h : (s.gens.setIfInBounds g x)[g]? = some y := h
  rw [Array.getElem?_setIfInBounds_self] at h
  split at h
  · exact (Option.some.inj h).symm
  · cases h
section
variable (P : Program) (w : World) (K : PySem.W.Frag) (mg : Str → Option Value) (base : Heap) (N : List Str) (qual : Str) (scope : Scope) (f : Addr) (cdv : Value) (A : Around) (outer : List Env) (N0 a : Addr) (g : Nat) {β : Type} (R : Rp β)
abbrev Xw (sw : Shared) (Hw : Hp) : Cx := gX P w K mg base N qual scope f cdv A outer N0 (tr sw N0) (lim Hw N0)
/-- at work, woken at sw, Hw -/
structure Wrk (sw : Shared) (Hw : Hp) (oa : Obj) (pi : List (Addr × Obj)) (σ : L2.St) (H : Hp) (s : Shared) : Prop where
  inv : InvG (Xw P w K mg base N qual scope f cdv A outer N0 sw Hw) ((a, oa) :: pi) σ H s
  oa : sw.heap.get? a = some oa
  ext : Ex Hw H
  gsz : sw.gens.size ≤ s.gens.size
  glt : g < sw.gens.size
/-- the segment with outs to be handed out -/
abbrev SG (outs : List β) (sw : Shared) (Hw : Hp) (c : Code) (t : Sem PySem.Fin) (fs : List Frame) (s : Shared) : Prop := SegW P w A g (RtP P w outer N0 a g outs sw Hw) (YdP P w base outer N0 a g R A outs sw Hw) c t fs s
/-- where its code stands -/
structure Pt (c : Code) (fs : List Frame) (gd : Bool → Bool) : Prop where
  over : A.over c fs = A.deeper (envOfC qual scope N0 f cdv)
  split : splitAtGen fs = none
  guard : fs.any Frame.guarded = false
  gd : gd false = false
end
section
variable {P : Program} {w : World} {K : PySem.W.Frag} {mg : Str → Option Value} {base : Heap} {N : List Str} {qual : Str} {scope : Scope} {f : Addr} {cdv : Value} {A : Around} {outer : List Env} {N0 a : Addr} {g : Nat} {β : Type} {R : Rp β}
variable {sw : Shared} {Hw : Hp} {oa : Obj} {pi : List (Addr × Obj)} {σ : L2.St} {H : Hp} {s : Shared} {outs : List β} {c : Code} {fs : List Frame} {gd : Bool → Bool} {lv : List Value → List Value} {J : Value → Sem PySem.Fin}
theorem Pt.loop {c' : Code} {k : Result → Sem PySem.Fin} {l kp : List Value} {p : Pos} (pt : Pt qual scope f cdv A N0 c fs gd) (hw : c'.weight = 0) (hu : c'.cUnits = 0) : Pt qual scope f cdv A N0 c' (.ret k none (gd false) l c p kp :: fs) id where
  over := (over_loop hw hu).trans pt.over
  split := by
    show (splitAtGen fs).map _ = none
    rw [pt.split]; rfl
  guard := by
    show (gd false || fs.any Frame.guarded) = false
    rw [pt.gd, pt.guard]; rfl
  gd := rfl
theorem Wrk.did (k : Wrk P w K mg base N qual scope f cdv A outer N0 a g sw Hw oa pi σ H s) (gb : ∀ i x, i ≤ g → s.gens[i]? = some x → x.bare = true) : Did P w outer N0 a g sw Hw s H :=
  did_of k.inv List.mem_cons_self k.oa k.ext gb k.gsz
theorem Slp.bare {s' : Shared} {H' : Hp} (S : Slp P w base outer N0 a g s H s' H') (hb : AllBare s.gens) : AllBare s'.gens := fun y hy => by
  obtain ⟨i, hi, ei⟩ := Array.mem_iff_getElem.mp hy
  have hi' : s'.gens[i]? = some y := by rw [Array.getElem?_eq_getElem hi, ei]
  refine S.gbare i y ?_ hi'
  by_cases h : i < s.gens.size
  · exact .inr (.inr ⟨_, Array.getElem?_eq_getElem h, hb _ (Array.getElem_mem h)⟩)
  · exact .inr (.inl (Nat.le_of_not_lt h))
/-- woken again -/
theorem Wrk.woken {s' : Shared} {H' : Hp} (k : Wrk P w K mg base N qual scope f cdv A outer N0 a g sw Hw oa pi σ H s) (nc : ∀ y c, (envOfC qual scope N0 f cdv).cells.lookup y = some c → False) (hp : ∀ p ∈ pi, N0 ≤ p.1 ∧ p.1 ≠ a) (ha : N0 < a)
    (S : Slp P w base outer N0 a g s H s' H') : ∃ oa', Wrk P w K mg base N qual scope f cdv A outer N0 a g s' H' oa' pi σ H' s' := by
  have hne : N0 ≠ a := Nat.ne_of_lt ha
  have I0 : InvG (Xw P w K mg base N qual scope f cdv A outer N0 sw Hw) pi σ H s := Inv.pins_of k.inv fun p hm => k.inv.pin p (List.mem_append_right _ (List.mem_cons_of_mem _ hm))
  have I1 := rebase I0 nc S hne hp
  obtain ⟨⟨m, o, nm, qn, ho, hc, hd, hs⟩, hH⟩ := S.self
  refine ⟨o, ?_, ho, Ex.refl _, Nat.le_refl _, Nat.lt_of_lt_of_le k.glt (Nat.le_trans k.gsz S.gsz)⟩
  refine Inv.pins_of I1 fun p hm => ?_
  rcases List.mem_cons.mp hm with e | hm
  · rw [e]
    refine ⟨ho, hH, Ne.symm hne, fun hb => ?_, fun v z => by rw [hd] at z; cases z⟩
    obtain ⟨_, o2, e2, _⟩ := I1.ok.funs.mem hb
    have : a < (tr s' N0).heap.objs.size := Heap.lt_size e2
    rw [tr_size] at this
    exact Nat.lt_irrefl _ (Nat.lt_trans (Nat.lt_of_lt_of_le this (Nat.min_le_left _ _)) ha)
  · exact I1.pin p (List.mem_append_right _ hm)
/-- a statement that hands out nothing -/
theorem sg_plain {st : Stmt} {t : TS} {D : Ends} {Kf : Flow → Sem PySem.Fin} (h : PS (Xw P w K mg base N qual scope f cdv A outer N0 sw Hw) st t) (pt : Pt qual scope f cdv A N0 c fs gd) (k : Wrk P w K mg base N qual scope f cdv A outer N0 a g sw Hw oa pi σ H s) (hb : AllBare s.gens) (ht : t D σ H)
    (hK : ∀ fl s', SP (Xw P w K mg base N qual scope f cdv A outer N0 sw Hw) ((a, oa) :: pi) D fl s' → sw.gens.size ≤ s'.gens.size → SG P w base A outer N0 a g R outs sw Hw c (Kf fl) fs s') :
    SG P w base A outer N0 a g R outs sw Hw c ((exec st (envOfC qual scope N0 f cdv)).wrap Kf J gd lv) fs s := by
  refine sg_wrap ?_
  rw [pt.over]
  refine w_of (wpAny_gsz k.gsz (wpAny_mono (h.run _ s σ H D (k.inv.back hb) ht) (fun fl s' q hz => hK fl s' q hz) fun _ _ z => z.elim))
theorem sg_cons {st : Stmt} {rest : List Stmt} {env : Env} {Kf : Flow → Sem PySem.Fin} (h : SG P w base A outer N0 a g R outs sw Hw c ((exec st env).wrap (fun fl => match fl with | .next => (execs rest env).wrap Kf J gd lv | fl => Kf fl) J gd lv) fs s) :
    SG P w base A outer N0 a g R outs sw Hw c ((execs (st :: rest) env).wrap Kf J gd lv) fs s := by
  rw [execs_cons_wrap]; exact h
theorem sg_if {test : Expr} {b1 b2 : List Stmt} {pos : Pos} {tc : TT} {Kf : Flow → Sem PySem.Fin} {QT : Bool → Hp → Prop} (h : PT (Xw P w K mg base N qual scope f cdv A outer N0 sw Hw) test tc) (pt : Pt qual scope f cdv A N0 c fs gd) (k : Wrk P w K mg base N qual scope f cdv A outer N0 a g sw Hw oa pi σ H s) (hb : AllBare s.gens) (ht : tc σ H QT)
    (hK : ∀ b s' H', Inv (Xw P w K mg base N qual scope f cdv A outer N0 sw Hw) ((a, oa) :: pi) σ H' s' → QT b H' → sw.gens.size ≤ s'.gens.size → SG P w base A outer N0 a g R outs sw Hw c ((if b = true then execs b1 (envOfC qual scope N0 f cdv) else execs b2 (envOfC qual scope N0 f cdv)).wrap Kf J gd lv) fs s') :
    SG P w base A outer N0 a g R outs sw Hw c ((exec (.If test b1 b2 pos) (envOfC qual scope N0 f cdv)).wrap Kf J gd lv) fs s := by
  rw [exec_If]
  refine sg_bindw (w_standAt (sg_bindw ?_))
  rw [pt.over]
  refine w_of (wpAny_gsz k.gsz (wpAny_mono (h.run _ s σ H QT (k.inv.back hb) ht) (fun b s' q hz => ?_) fun _ _ z => z.elim))
  obtain ⟨H', I', q⟩ := q
  have := hK b s' H' I' q hz
  cases b <;> exact this
/-- yield -/
theorem sg_out {e : Expr} {te : TE} {yp pos : Pos} {Kf : Flow → Sem PySem.Fin} {o : β} {Q : VK} (he : PE (Xw P w K mg base N qual scope f cdv A outer N0 sw Hw) e te) (hco : scope.isCoroutine = false) (hkind : scope.kind = .function) (nc : ∀ y c, (envOfC qual scope N0 f cdv).cells.lookup y = some c → False) (hp : ∀ p ∈ pi, N0 ≤ p.1 ∧ p.1 ≠ a) (ha : N0 < a)
    (pt : Pt qual scope f cdv A N0 c fs gd) (k : Wrk P w K mg base N qual scope f cdv A outer N0 a g sw Hw oa pi σ H s) (hb : AllBare s.gens) (ht : te σ H Q) (hQ : ∀ x H1, Q x H1 → Ex H H1 ∧ R H1 x o)
    (hK : ∀ s' H' oa', Wrk P w K mg base N qual scope f cdv A outer N0 a g s' H' oa' pi σ H' s' → AllBare s'.gens → Ex H H' → SG P w base A outer N0 a g R outs s' H' c (Kf .next) fs s') :
    SG P w base A outer N0 a g R (o :: outs) sw Hw c ((exec (.Expr (.Yield (some e) yp) pos) (envOfC qual scope N0 f cdv)).wrap Kf J gd lv) fs s := by
  have hi : interactive (envOfC qual scope N0 f cdv) = false := by simp [interactive, envOfC, hkind]
  rw [exec_Expr _ _ pos hi rfl]
  refine sg_bindw (w_standAt ?_)
  have hy : ∀ v, yieldOut (envOfC qual scope N0 f cdv) v = yieldValue v := fun v => by
    have : (envOfC qual scope N0 f cdv).scope.isCoroutine = false := hco
    simp only [yieldOut, this, Bool.false_eq_true, if_false]
  have e0 : eval (.Yield (some e) yp) (envOfC qual scope N0 f cdv) = (eval e (envOfC qual scope N0 f cdv) >>= fun v => (standAt yp >>= fun _ => yieldValue v)) := by
    show (eval e (envOfC qual scope N0 f cdv) >>= fun v => (standAt yp >>= fun _ => yieldOut (envOfC qual scope N0 f cdv) v)) = _
    simp only [hy]
  rw [e0, Sem.bind_eq_wrap', Sem.bind_eq_wrap', Sem.wrap_wrap, Sem.wrap_wrap]
  refine sg_wrap ?_
  rw [pt.over]
  refine w_of (wpAny_gsz k.gsz (wpAny_mono (he.run _ s σ H Q (k.inv.back hb) ht) (fun v s1 q hz => ?_) fun _ _ z => z.elim))
  obtain ⟨x, H1, I1, rv, q⟩ := q
  obtain ⟨e1, hR⟩ := hQ x H1 q
  have k1 : Wrk P w K mg base N qual scope f cdv A outer N0 a g sw Hw oa pi σ H1 s1 := ⟨.of I1, k.oa, k.ext.trans e1, hz, k.glt⟩
  have gb : ∀ i y, i ≤ g → s1.gens[i]? = some y → y.bare = true := fun i y _ hy => I1.bare y (Array.mem_of_getElem? hy)
  refine sg_bindw (w_standAt ?_)
  refine sg_yield pt.split pt.guard (.inl (by show gd false = false; exact pt.gd)) fun p => ?_
  refine ⟨x, H1, rfl, k1.did gb, rv, hR, fun s' H' S => ?_⟩
  obtain ⟨oa', k'⟩ := k1.woken nc hp ha S
  have hb' : AllBare s'.gens := S.bare I1.bare
  exact hK s' H' oa' k' hb' (e1.trans S.ext)
end
end GW
/-! # W: yield from a generator -/
namespace GW
open PySem PySem.Spec PyProof.Rows L2 Evl Ct GenW
abbrev cY (aI : Addr) : Code := .builtin "proto.yield_from" ⟨[.ref aI, .bool false, .none], []⟩
theorem den_y {P : Program} {w : World} {aI : Addr} : (model P w).den (cY aI) = Builtin.«proto.yield_from» ⟨[.ref aI, .bool false, .none], []⟩ := by
  show (match entryFor table "proto.yield_from" with | some b => b ⟨[.ref aI, .bool false, .none], []⟩ | none => unsupported ((withoutEnding? "proto.yield_from" "#data").getD "proto.yield_from")) = _
  rw [entry_yf]
section
variable {P : Program} {w : World} {K : PySem.W.Frag} {mg : Str → Option Value} {base : Heap} {N : List Str} {qual : Str} {scope : Scope} {f : Addr} {cdv : Value} {A : Around} {outer : List Env} {N0 a : Addr} {g : Nat} {β : Type} {R : Rp β}
variable {pi : List (Addr × Obj)} {σ : L2.St} {fs : List Frame} {rest : List β} {NI aI : Addr} {gI : Nat} {Hz : Hp}
/-- an untracked object of ours, younger than the frame, has changed -/
theorem Wrk.changed {sw : Shared} {Hw : Hp} {oa : Obj} {H : Hp} {s : Shared} {h' : Heap} (k : Wrk P w K mg base N qual scope f cdv A outer N0 a g sw Hw oa pi σ H s) (nc : ∀ y c, (envOfC qual scope N0 f cdv).cells.lookup y = some c → False) (b : Addr) (sb : Heap.SameBut b s.heap h') (hn : H b = none) (h1 : N0 < b) (h2 : b ≠ a) (h3 : ∀ p ∈ pi, p.1 ≠ b) :
    Wrk P w K mg base N qual scope f cdv A outer N0 a g sw Hw oa pi σ H { s with heap := h' } := by
  refine ⟨?_, k.oa, k.ext, k.gsz, k.glt⟩
  have I := k.inv
  refine Inv.turned (s := { s with gens := #[] }) (t' := s.toks) I (fun c o hc e => (sb.2 c hc).trans e) hn (Nat.ne_of_gt h1) (.inr (Nat.le_trans I.ok.above (Nat.le_of_lt h1))) (fun x c e => (nc x c e).elim) fun p hm => ?_
  rcases List.mem_cons.mp (by simpa [gX] using hm : p ∈ (a, oa) :: pi) with e | hm
  · rw [e]; exact Ne.symm h2
  · exact h3 p hm
theorem sg_yf (hh : (A.over (cY aI) fs).handled = none) (hroom : (A.over (cY aI) fs).depth < recursionLimit) (hsp : splitAtGen fs = none) (hgu : fs.any Frame.guarded = false) (nc : ∀ y c, (envOfC qual scope N0 f cdv).cells.lookup y = some c → False) (hp : ∀ p ∈ pi, (N0 ≤ p.1 ∧ p.1 ≠ a) ∧ p.1 < NI) (ha : N0 < a) (haN : a < NI) (hNI : NI ≤ aI) (hg : g < gI)
    (hend : ∀ sw Hw oa H s, Wrk P w K mg base N qual scope f cdv A outer N0 a g sw Hw oa pi σ H s → AllBare s.gens → Ex Hz H → SG P w base A outer N0 a g R rest sw Hw (cY aI) (.pure (.done (.ret .none))) fs s) :
    ∀ (outsI : List β) (sw : Shared) (Hw : Hp) (oa : Obj) (H : Hp) (s : Shared) (gs : GenState), Wrk P w K mg base N qual scope f cdv A outer N0 a g sw Hw oa pi σ H s → Ex Hz H → (∀ i x, i < gI → s.gens[i]? = some x → x.bare = true) → GenOb s.heap aI gI 0 → H aI = none → s.gens[gI]? = some gs →
      GoesW P w (A.over (cY aI) fs).in1 gI (RtP P w (envOfC qual scope N0 f cdv :: outer) NI aI gI outsI (s.setGen gI .running) H) (YdP P w base (envOfC qual scope N0 f cdv :: outer) NI aI gI R (A.over (cY aI) fs).in1 outsI (s.setGen gI .running) H) gs (s.setGen gI .running) →
      SG P w base A outer N0 a g R (outsI ++ rest) sw Hw (cY aI) ((model P w).den (cY aI)) fs s := by
  intro outsI
  have hNa : N0 < aI := Nat.lt_of_lt_of_le (Nat.lt_trans ha haN) hNI
  have hne : aI ≠ a := Nat.ne_of_gt (Nat.lt_of_lt_of_le haN hNI)
  have hpI : ∀ p ∈ pi, p.1 ≠ aI := fun p hm => Nat.ne_of_lt (Nat.lt_of_lt_of_le (hp p hm).2 hNI)
  induction outsI with
  | nil =>
    intro sw Hw oa H s gs k hz gb ob hHa hgs arm
    have I := k.inv
    rw [den_y]
    unfold Builtin.«proto.yield_from»
    try dsimp only
    refine sg_bind (w_pure ?_)
    try dsimp only
    refine sg_bind (w_attempt (w_holding ?_))
    rw [if_neg Bool.false_ne_true, if_pos (show (Value.none == Value.none) = true from rfl)]
    refine w_bind (w_of (wpAny_rule (w_bind ?_)))
    refine w_next hh I.nolimit hroom ob hgs arm (fun v s' gs' y => y.elim) fun s1 ⟨_, H1, D, hb1⟩ e h' hS hk => ?_
    obtain ⟨e0, oe, vs, rfl, hoe, hcls, hdat, h5⟩ := hS
    try dsimp only
    refine sg_bind (w_of (wpAny_endsTurn hoe hcls ?_))
    try dsimp only
    rw [if_pos rfl]
    first
      | refine sg_bind (w_of (wpAny_rule ?_))
      | (rw [if_neg Bool.false_ne_true]; refine sg_bind (w_of (wpAny_rule ?_)))
      | (rw [if_neg Bool.false_ne_true]; refine sg_bind (w_pure ?_); refine sg_bind (w_of (wpAny_rule ?_)))
    refine sg_bind (w_of (wpAny_field hoe hdat h5 ?_))
    have I1 := by_inner (X := Xw P w K mg base N qual scope f cdv A outer N0 sw Hw) (s := s.setGen gI .running) I D (Nat.lt_trans ha haN) nc fun p hm => by
      rcases List.mem_cons.mp (by simpa [gX] using hm : p ∈ (a, oa) :: pi) with e | hm
      · rw [e]; exact haN
      · exact (hp p hm).2
    have I2 := Inv.kept (h' := h') (t' := s1.toks) I1 hk
    refine hend sw Hw oa H1 _ ⟨I2, k.oa, k.ext.trans D.ext, ?_, k.glt⟩ (allBare_setGen hb1 rfl) (hz.trans D.ext)
    show sw.gens.size ≤ (s1.setGen gI .finished).gens.size
    rw [setGen_size]
    refine Nat.le_trans k.gsz ?_
    have := D.gsz
    rwa [setGen_size] at this
  | cons o r ih =>
    intro sw Hw oa H s gs k hz gb ob hHa hgs arm
    have I := k.inv
    rw [den_y]
    unfold Builtin.«proto.yield_from»
    try dsimp only
    refine sg_bind (w_pure ?_)
    try dsimp only
    refine sg_bind (w_attempt (w_holding ?_))
    rw [if_neg Bool.false_ne_true, if_pos (show (Value.none == Value.none) = true from rfl)]
    refine w_bind (w_of (wpAny_rule (w_bind ?_)))
    refine w_next hh I.nolimit hroom ob hgs arm (fun v s1 gs1 y => ?_) fun s1 z => by
      have z1 := z.1
      cases z1
    obtain ⟨u, H1, hiS, D, rv, hRo, nxt⟩ := y
    have I1 := by_inner (X := Xw P w K mg base N qual scope f cdv A outer N0 sw Hw) (s := s.setGen gI .running) I D (Nat.lt_trans ha haN) nc fun p hm => by
      rcases List.mem_cons.mp (by simpa [gX] using hm : p ∈ (a, oa) :: pi) with e | hm
      · rw [e]; exact haN
      · exact (hp p hm).2
    have sz1 : gI < s1.gens.size := by
      have h1 := (Array.getElem?_eq_some_iff.mp hgs).1
      have h2 := D.gsz
      rw [setGen_size] at h2
      exact Nat.lt_of_lt_of_le h1 h2
    have k1 : Wrk P w K mg base N qual scope f cdv A outer N0 a g sw Hw oa pi σ H1 (s1.setGen gI gs1) := ⟨I1, k.oa, k.ext.trans D.ext, by
      rw [setGen_size]
      refine Nat.le_trans k.gsz ?_
      have := D.gsz
      rwa [setGen_size] at this, k.glt⟩
    have ob1 : GenOb (s1.setGen gI gs1).heap aI gI 0 := ob.at fun o e => D.self.1.trans e
    refine w_of (wpAny_pure ?_)
    try dsimp only
    refine sg_bind (w_of (wpAny_typeOf (s := s1.setGen gI gs1) ob1.ty ?_))
    try dsimp only
    obtain ⟨cl, hcl⟩ := close_gen
    first
      | (refine sg_bind (w_of (wpAny_of_eq hcl ?_)); refine sg_bind (w_pure ?_))
      | refine sg_bind (w_of (wpAny_bind (wpAny_of_eq hcl (wpAny_pure ?_))))
      | refine sg_bind (w_of (wpAny_of_eq hcl ?_))
    try dsimp only
    refine sg_bind (w_of (gen_mark true ob1 fun h2 ob2 sb2 => ?_))
    have k2 := k1.changed nc aI sb2 D.self.2 hNa hne hpI
    have gb2 : ∀ i x, i ≤ g → (s1.setGen gI gs1).gens[i]? = some x → x.bare = true := fun i x hi e => by
      rw [setGen_other (Nat.ne_of_lt (Nat.lt_of_le_of_lt hi hg))] at e
      exact D.gbare i x (Nat.le_of_lt (Nat.lt_of_le_of_lt hi hg)) e
    refine sg_yield hsp hgu (.inr ob2.over) fun p => ?_
    refine ⟨u, H1, rfl, k2.did gb2, rv, hRo, fun s' H' S => ?_⟩
    obtain ⟨oa', k'⟩ := k2.woken nc (fun p hm => (hp p hm).1) ha S
    have kp : ∀ o, h2.get? aI = some o → s'.heap.get? aI = some o ∧ H' aI = none := fun o e => S.keep aI o (Nat.le_of_lt hNa) hne (fun v z => by obtain ⟨o2, _, _, e2, _, d2, _⟩ := ob2; rw [e] at e2; cases e2; rw [d2] at z; cases z) e D.self.2
    have ob3 : GenOb s'.heap aI gI 1 := GenOb.at (m := 1) ob2 fun o e => (kp o e).1
    have hHa' : H' aI = none := let ⟨o, _, _, e, _⟩ := ob2; (kp o e).2
    show SegW _ _ _ _ _ _ _ (Builtin.Generator.sleptOver (.ref aI) false >>= fun _ => _) fs s'
    refine sg_bind (w_of (gen_mark false ob3 fun h3 ob4 sb4 => ?_))
    try dsimp only
    refine sg_bind (w_pure ?_)
    refine sg_again (plainId_quiet plain_yf _) ?_
    have k3 := k'.changed nc aI sb4 hHa' hNa hne hpI
    have gI1 : s'.gens[gI]? = some gs1 := S.gens gI gs1 hg hiS (setGen_at sz1)
    have gsz1 : (s1.setGen gI gs1).gens.size = s1.gens.size := setGen_size _ _ _
    have gb3 : ∀ i x, i < gI → s'.gens[i]? = some x → x.bare = true := fun i x hi e => by
      by_cases h : i ≤ g
      · exact S.gbare i x (.inl h) e
      · have hlt : i < s1.gens.size := Nat.lt_trans hi sz1
        have e1 : (s1.setGen gI gs1).gens[i]? = some s1.gens[i] := by rw [setGen_other (Nat.ne_of_lt hi)]; exact Array.getElem?_eq_getElem hlt
        exact S.gbare i x (.inr (.inr ⟨_, e1, D.gbare i _ (Nat.le_of_lt hi) (Array.getElem?_eq_getElem hlt)⟩)) e
    have ob5 : GenOb h3 aI gI 0 := ob4
    refine ih s' H' oa' H' { s' with heap := h3 } gs1 k3 ((hz.trans D.ext).trans S.ext) gb3 ob5 hHa' gI1 (nxt _ _ ?_)
    have stk := k3.inv.stack
    have sfr := k3.inv.stkFree
    refine ⟨(show s'.os = s1.os from S.os), S.ext, k3.inv.hok, fun b ob hb1 hb2 hcl e n => ?_, fun i x hi hx e => ?_, fun i x hi e => ?_, ?_, fun b ob e => ?_, stk, sfr, ⟨0, ob5⟩, hHa'⟩
    · have nb : N0 ≤ b := Nat.le_of_lt (Nat.lt_of_lt_of_le (Nat.lt_trans ha haN) hb1)
      obtain ⟨q1, q2⟩ := S.keep b ob nb (Nat.ne_of_gt (Nat.lt_of_lt_of_le haN hb1)) hcl ((sb2.2 b hb2).trans e) n
      exact ⟨(sb4.2 b hb2).trans q1, q2⟩
    · have e1 : (s1.setGen gI gs1).gens[i]? = some x := by rw [setGen_other (Nat.ne_of_gt hi)]; exact e
      show (Shared.setGen { s' with heap := h3 } gI .running).gens[i]? = some x
      rw [setGen_other (Nat.ne_of_gt hi)]
      exact S.gens i x (Nat.lt_trans hg hi) hx e1
    · by_cases h : i = gI
      · rw [h] at e
        rw [setGen_self e]; rfl
      · rw [setGen_other h] at e
        rcases hi with hi | hi
        · exact gb3 i x (Nat.lt_of_le_of_ne hi h) e
        · rcases hi with hi | ⟨y, ey, hy⟩
          · exact S.gbare i x (.inr (.inl (by rw [gsz1]; exact hi))) e
          · exact S.gbare i x (.inr (.inr ⟨y, by
              show (s1.setGen gI gs1).gens[i]? = some y
              rw [setGen_other h]; exact ey, hy⟩)) e
    · rw [setGen_size]
      have := S.gsz
      rwa [gsz1] at this
    · obtain ⟨q1, q2⟩ := S.bs b ob e
      refine ⟨(sb4.2 b fun z => ?_).trans q1, q2⟩
      have h1 := (I.ok.bs b ob e).1
      have h2 := (tr_some h1).1
      rw [z] at h2
      exact Nat.lt_irrefl _ (Nat.lt_trans h2 hNa)
end
end GW
/-! # W: yield from, for, in a generator -/
namespace GW
open PySem PySem.Spec PyProof.Rows L2 Evl Ct GenW
theorem over_y {A : Around} {c : Code} {fs : List Frame} {k : Result → Sem PySem.Fin} {gg : Bool} {l kp : List Value} {p : Pos} {aI : Addr} : A.over (cY aI) (.ret k none gg l c p kp :: fs) = (A.over c fs).in1 := by
  have hw : (cY aI).weight = 0 := plainId_weight plain_yf _
  have hu : (cY aI).cUnits = 1 := plainId_units plain_yf _
  unfold Around.over Around.in1
  have m : (marksOver (Frame.ret k none gg l c p kp :: fs) (A.handled, A.handled)).1 = (marksOver fs (A.handled, A.handled)).1 := rfl
  have w1 : (Frame.ret k none gg l c p kp :: fs).map Frame.where_ = (c, p) :: fs.map Frame.where_ := rfl
  rw [m, w1, frameCount_cons, envsOf_cons, guardsOf_cons, unitsOf_cons, hw, hu, Code.envs_of_weight hw, Code.guards_of_weight hw]
  simp only [pushEnvs_eq, pushGuards_eq, Around.mk.injEq, true_and]
  refine ⟨by omega, ?_, ?_, by omega⟩
  · cases A.frames <;> simp [List.append_assoc]
  · cases A.guards <;> simp [List.append_assoc]
section
variable (P : Program) (w : World) (base : Heap) (outer : List Env) {β : Type} (R : Rp β) (k : Nat)
/-- a generator that has not begun -/
structure Made (outs : List β) (NI aI : Addr) (gI : Nat) (c : Code) (s : Shared) (H : Hp) : Prop where
  ob : GenOb s.heap aI gI 0
  free : H aI = none
  lt : NI < aI
  st : s.gens[gI]? = some (.fresh c)
  arm : ∀ A : Around, Room k A → A.frames = some outer → Armed P w base outer NI aI gI R A outs (.fresh c) s H
end
section
variable {P : Program} {w : World} {K : PySem.W.Frag} {mg : Str → Option Value} {base : Heap} {N : List Str} {qual : Str} {scope : Scope} {f : Addr} {cdv : Value} {A : Around} {outer : List Env} {N0 a : Addr} {g : Nat} {β : Type} {R : Rp β}
variable {sw : Shared} {Hw : Hp} {oa : Obj} {pi : List (Addr × Obj)} {σ : L2.St} {H : Hp} {s : Shared} {c : Code} {fs : List Frame} {gd : Bool → Bool} {lv : List Value → List Value} {J : Value → Sem PySem.Fin} {kI : Nat}
theorem Made.slp {X : Cx} {outs : List β} {NI aI : Addr} {gI : Nat} {c : Code} {pins : List (Addr × Obj)} (M : Made X.prog X.w X.base X.stack R kI outs NI aI gI c s H) (I : Inv X pins σ H s) : Slp X.prog X.w X.base X.stack NI aI gI s H (s.setGen gI .running) H :=
  ⟨rfl, Ex.refl _, I.hok, fun b o _ _ _ e n => ⟨e, n⟩, fun i x hi _ e => by rw [setGen_other (Nat.ne_of_gt hi)]; exact e, fun i x _ e => by
    by_cases h : i = gI
    · rw [h] at e
      rw [setGen_self e]; rfl
    · rw [setGen_other h] at e
      exact I.bare x (Array.mem_of_getElem? e), by rw [setGen_size]; exact Nat.le_refl _, I.bs, I.stack, I.stkFree, ⟨0, M.ob⟩, M.free⟩
/-- yield from a call that makes a generator -/
theorem sg_from {e : Expr} {yp pos : Pos} {Kf : Flow → Sem PySem.Fin} {outsI rest : List β} (hkind : scope.kind = .function) (nc : ∀ y c, (envOfC qual scope N0 f cdv).cells.lookup y = some c → False) (hp : ∀ p ∈ pi, N0 ≤ p.1 ∧ p.1 ≠ a) (ha : N0 < a)
    (pt : Pt qual scope f cdv A N0 c fs gd) (k : Wrk P w K mg base N qual scope f cdv A outer N0 a g sw Hw oa pi σ H s) (hr : Room (kI + 2) (A.deeper (envOfC qual scope N0 f cdv)))
    (he : wpAny (model P w) (A.deeper (envOfC qual scope N0 f cdv)) (eval e (envOfC qual scope N0 f cdv)) (fun v s1 => ∃ NI aI gI cI H1, v = .ref aI ∧ Inv (Xw P w K mg base N qual scope f cdv A outer N0 sw Hw) ((a, oa) :: pi) σ H1 s1 ∧ Ex H H1 ∧ (∀ p ∈ pi, p.1 < NI) ∧ a < NI ∧ g < gI ∧
      Made P w base (envOfC qual scope N0 f cdv :: outer) R kI outsI NI aI gI cI s1 H1) (fun _ _ => False) s)
    (hK : ∀ sw' Hw' oa' H' s', Wrk P w K mg base N qual scope f cdv A outer N0 a g sw' Hw' oa' pi σ H' s' → AllBare s'.gens → Ex H H' → SG P w base A outer N0 a g R rest sw' Hw' c (Kf .next) fs s') :
    SG P w base A outer N0 a g R (outsI ++ rest) sw Hw c ((exec (.Expr (.YieldFrom e yp) pos) (envOfC qual scope N0 f cdv)).wrap Kf J gd lv) fs s := by
  have hi : interactive (envOfC qual scope N0 f cdv) = false := by simp [interactive, envOfC, hkind]
  rw [exec_Expr _ _ pos hi rfl]
  refine sg_bindw (w_standAt ?_)
  have e0 : eval (.YieldFrom e yp) (envOfC qual scope N0 f cdv) = (eval e (envOfC qual scope N0 f cdv) >>= fun v => (standAt yp >>= fun _ => yieldFrom (envOfC qual scope N0 f cdv) v)) := rfl
  rw [e0, Sem.bind_eq_wrap', Sem.bind_eq_wrap', Sem.wrap_wrap, Sem.wrap_wrap]
  refine sg_wrap ?_
  rw [pt.over]
  refine w_of (wpAny_gsz k.gsz (wpAny_mono he (fun v s1 q hz => ?_) fun _ _ z => z.elim))
  obtain ⟨NI, aI, gI, cI, H1, rfl, I1, e1, hpN, haN, hgI, M⟩ := q
  have k1 : Wrk P w K mg base N qual scope f cdv A outer N0 a g sw Hw oa pi σ H1 s1 := ⟨.of I1, k.oa, k.ext.trans e1, hz, k.glt⟩
  refine sg_bindw (w_standAt ?_)
  unfold yieldFrom
  refine sg_bindw (w_of (wpAny_typeOf M.ob.ty ?_))
  rw [if_neg (by decide)]
  have igen : ∀ {A' : Around} {Q : Value → Shared → Prop} {E : Value → Shared → Prop}, Q (.ref aI) s1 → wpAny (model P w) A' (pyIter (.ref aI)) Q E s1 := fun h => by
    refine wpAny_pyIter_slot M.ob.ty slot_gen_iter (wpAny_call_entry slot_gen_iter M.ob.ty entry_gen_iter ?_ (args_gen_iter _))
    show wpAny _ _ (ret (.ref aI)) _ _ s1
    exact wpAny_pure ⟨_, rfl, "generator", _, M.ob.ty, slot_gen_next.lookup, h⟩
  refine sg_bindw (w_of (wpAny_holding (igen ?_)))
  refine sg_call fun p => ?_
  have hA : ∀ (kk : Result → Sem PySem.Fin) (l : List Value), A.over (cY aI) (.ret kk none (gd false) l c p [] :: fs) = (A.deeper (envOfC qual scope N0 f cdv)).in1 := fun kk l => by rw [over_y, pt.over]
  have hNI : N0 < NI := Nat.lt_trans ha haN
  have fin : ∀ (kk : Result → Sem PySem.Fin) (l : List Value), (∀ sw Hw oa H s, Wrk P w K mg base N qual scope f cdv A outer N0 a g sw Hw oa pi σ H s → AllBare s.gens → Ex H1 H → SG P w base A outer N0 a g R rest sw Hw c (kk (.ok (.ret .none))) fs s) →
      SG P w base A outer N0 a g R (outsI ++ rest) sw Hw (cY aI) ((model P w).den (cY aI)) (.ret kk none (gd false) l c p [] :: fs) s1 := fun kk l hkk => by
    refine sg_yf (NI := NI) (gI := gI) (Hz := H1) (by rw [hA]; exact hr.hd) (by rw [hA]; exact hr.depth) ?_ ?_ nc (fun p hm => ⟨hp p hm, hpN p hm⟩) ha haN (Nat.le_of_lt M.lt) hgI (fun sw Hw oa H s k hb ex => ?_) outsI sw Hw oa H1 s1 _ k1 (Ex.refl _) (fun i x _ hx => I1.bare x (Array.mem_of_getElem? hx)) M.ob M.free M.st ?_
    · show (splitAtGen fs).map _ = none
      rw [pt.split]; rfl
    · show (gd false || fs.any Frame.guarded) = false
      rw [pt.gd, pt.guard]; rfl
    · exact sg_leaf (.ok (.ret .none)) (hkk sw Hw oa H s k hb ex)
    · rw [hA]
      have r2 : Room kI (A.deeper (envOfC qual scope N0 f cdv)).in1.in1 := (hr.in1).in1
      have fr : (A.deeper (envOfC qual scope N0 f cdv)).in1.in1.frames = some (envOfC qual scope N0 f cdv :: outer) := I1.ok.frames
      exact M.arm _ r2 fr _ _ (Made.slp (X := Xw P w K mg base N qual scope f cdv A outer N0 sw Hw) M I1)
  exact fin _ _ fun sw Hw oa H s k hb ex => hK sw Hw oa H s k hb (e1.trans ex)
end
end GW
/-! # W: for over a range in a generator -/
namespace GW
open PySem PySem.Spec PyProof.Rows L2 Evl Ct GenW
section
variable {P : Program} {w : World} {K : PySem.W.Frag} {mg : Str → Option Value} {base : Heap} {N : List Str} {qual : Str} {scope : Scope} {f : Addr} {cdv : Value} {A : Around} {outer : List Env} {N0 a : Addr} {g : Nat} {β : Type} {R : Rp β}
variable {c : Code} {fs : List Frame} {gd : Bool → Bool} {lv : List Value → List Value} {J : Value → Sem PySem.Fin}
theorem weight_for {tg : Expr} {it : Value} {body : List Stmt} {env : Env} : (Code.forLoop tg it body [] env).weight = 0 ∧ (Code.forLoop tg it body [] env).cUnits = 0 := ⟨rfl, rfl⟩
theorem weight_block {env : Env} : (Code.block [] env).weight = 0 := rfl
/-- the turns -/
theorem sg_turns {tg : Expr} {body : List Stmt} {pi : List (Addr × Obj)} {fp : List Addr} {it : Addr} {tn : Nat → Heap → Prop} {n j : Nat} (rem : Nat → List β) (Pv : Nat → L2.St → Hp → Prop) (T : Turn P w K tg (Itr 0 n) fp it tn) (hg : ∀ sw Hw, PG (Xw P w K mg base N qual scope f cdv A outer N0 sw Hw) tg (gName j))
    (hfp : ∀ b ∈ fp, N0 < b ∧ b ≠ a ∧ b ∉ frs outer ∧ ∀ p ∈ pi, p.1 ≠ b) (hpi : ∀ p ∈ pi, N0 ≤ p.1 ∧ p.1 ≠ a) (nc : ∀ y c, (envOfC qual scope N0 f cdv).cells.lookup y = some c → False) (pt : Pt qual scope f cdv A N0 (.forLoop tg (.ref it) body [] (envOfC qual scope N0 f cdv)) fs id) (hsz : ∀ sw Hw oa σ H s, Wrk P w K mg base N qual scope f cdv A outer N0 a g sw Hw oa pi σ H s → (tr sw N0).heap.objs.size ≤ N0)
    (mono : ∀ i σ H H', Ex H H' → Pv i σ H → Pv i σ H')
    (hb : ∀ i pi' sw Hw oa σ H s Kb (Jb : Value → Sem PySem.Fin), i < n → (∀ p ∈ pi', N0 ≤ p.1 ∧ p.1 ≠ a) → Wrk P w K mg base N qual scope f cdv A outer N0 a g sw Hw oa pi' (σ.set j (some (.int (i : Int)))) H s → AllBare s.gens → Pv i σ H →
      (∀ sw' Hw' oa' σ' H' s', Wrk P w K mg base N qual scope f cdv A outer N0 a g sw' Hw' oa' pi' σ' H' s' → AllBare s'.gens → Pv (i + 1) σ' H' → SG P w base A outer N0 a g R (rem (i + 1)) sw' Hw' (.forLoop tg (.ref it) body [] (envOfC qual scope N0 f cdv)) (Kb .next) fs s') →
      SG P w base A outer N0 a g R (rem i) sw Hw (.forLoop tg (.ref it) body [] (envOfC qual scope N0 f cdv)) ((execs body (envOfC qual scope N0 f cdv)).wrap Kb Jb id id) fs s)
    (hend : ∀ sw Hw oa σ H s, Wrk P w K mg base N qual scope f cdv A outer N0 a g sw Hw oa pi σ H s → AllBare s.gens → Pv n σ H → SG P w base A outer N0 a g R (rem n) sw Hw (.block [] (envOfC qual scope N0 f cdv)) (.pure (.done .next)) fs s) :
    ∀ (m i : Nat) (sw : Shared) (Hw : Hp) (oa : Obj) (σ : L2.St) (H : Hp) (s : Shared), i + m = n → Wrk P w K mg base N qual scope f cdv A outer N0 a g sw Hw oa pi σ H s → AllBare s.gens → tn i s.heap → (∀ b ∈ fp, H b = none) → Pv i σ H →
      SG P w base A outer N0 a g R (rem i) sw Hw (.forLoop tg (.ref it) body [] (envOfC qual scope N0 f cdv)) ((model P w).den (.forLoop tg (.ref it) body [] (envOfC qual scope N0 f cdv))) fs s := by
  intro m
  induction m with
  | zero =>
    intro i sw Hw oa σ H s him k hbr st fr pv
    have hin : i = n := by omega
    subst hin
    have own : ∀ b ∈ fp, FpOk (Xw P w K mg base N qual scope f cdv A outer N0 sw Hw) ((a, oa) :: pi) H b := fun b hbm => by
      obtain ⟨h1, h2, h3, h4⟩ := hfp b hbm
      refine ⟨fr b hbm, Nat.ne_of_gt h1, h3, .inr (Nat.le_trans (hsz _ _ _ _ _ _ k) (Nat.le_of_lt h1)), fun x c e => (nc x c e).elim, fun p hp => ?_⟩
      rcases List.mem_cons.mp (by simpa [gX] using hp : p ∈ (a, oa) :: pi) with e | hp
      · rw [e]; exact Ne.symm h2
      · exact h4 p hp
    show SegW _ _ _ _ _ _ _ ((forTurn tg (.ref it) body [] (envOfC qual scope N0 f cdv)).onRaise _) fs s
    unfold forTurn
    rw [Sem.onRaise_eq_wrap]
    refine sg_bindw (w_standAt (sg_bindw ?_))
    rw [pt.over]
    refine w_of (wpAny_onRaise (wpAny_gsz k.gsz (wpAny_mono (T.done (Xw P w K mg base N qual scope f cdv A outer N0 sw Hw) rfl rfl rfl rfl i _ s σ H (fun _ _ => False) (k.inv.back hbr) own st (Nat.le_refl _)) (fun r s1 q hz => ?_) fun _ _ z => z.elim)))
    obtain ⟨rfl, I1⟩ := q
    refine sg_again (by rfl) ?_
    have k1 : Wrk P w K mg base N qual scope f cdv A outer N0 a g sw Hw oa pi σ H s1 := ⟨.of I1, k.oa, k.ext, hz, k.glt⟩
    have := hend sw Hw oa σ H s1 k1 I1.bare pv
    exact this
  | succ m ih =>
    intro i sw Hw oa σ H s him k hbr st fr pv
    have hin : i < n := by omega
    have own : ∀ {H' : Hp}, (∀ b ∈ fp, H' b = none) → ∀ b ∈ fp, FpOk (Xw P w K mg base N qual scope f cdv A outer N0 sw Hw) ((a, oa) :: pi) H' b := fun {H'} fr b hbm => by
      obtain ⟨h1, h2, h3, h4⟩ := hfp b hbm
      refine ⟨fr b hbm, Nat.ne_of_gt h1, h3, .inr (Nat.le_trans (hsz _ _ _ _ _ _ k) (Nat.le_of_lt h1)), fun x c e => (nc x c e).elim, fun p hp => ?_⟩
      rcases List.mem_cons.mp (by simpa [gX] using hp : p ∈ (a, oa) :: pi) with e | hp
      · rw [e]; exact Ne.symm h2
      · exact h4 p hp
    show SegW _ _ _ _ _ _ _ ((forTurn tg (.ref it) body [] (envOfC qual scope N0 f cdv)).onRaise _) fs s
    unfold forTurn
    rw [Sem.onRaise_eq_wrap]
    refine sg_bindw (w_standAt (sg_bindw ?_))
    rw [pt.over]
    refine w_of (wpAny_onRaise (wpAny_gsz k.gsz (wpAny_mono (T.item (Xw P w K mg base N qual scope f cdv A outer N0 sw Hw) rfl rfl rfl rfl i _ s σ H (fun _ _ => False) (k.inv.back hbr) (own fr) st hin) (fun r s1 q hz => ?_) fun _ _ z => z.elim)))
    obtain ⟨u, rfl, h4⟩ := q
    refine sg_bindw ?_
    rw [pt.over]
    refine w_of (wpAny_gsz hz (wpAny_mono h4 (fun _ s2 q hz2 => ?_) fun _ _ z => z.elim))
    obtain ⟨x, H2, I2, rx, yx, st2, fr2⟩ := q
    obtain ⟨rfl, rfl⟩ := yx
    have at2 := I2.pinned (own fr2) (T.obj _ _ st2)
    refine sg_bindw ?_
    rw [pt.over]
    refine w_of (wpAny_gsz hz2 (wpAny_mono ((hg sw Hw).run _ s2 σ H2 _ u (fun σ' H' => σ' = σ.set j (some (.int (0 + (i : Int)))) ∧ H' = H2) at2 rx ⟨rfl, rfl⟩) (fun _ s3 q hz3 => ?_) fun _ _ z => z.elim))
    obtain ⟨σ3, H3, I3, rfl, rfl⟩ := q
    rw [Int.zero_add] at I3
    have k3 : Wrk P w K mg base N qual scope f cdv A outer N0 a g sw Hw oa (pi ++ pinsAt fp s2.heap) (σ.set j (some (.int (i : Int)))) H3 s3 := ⟨.of I3, k.oa, k.ext, hz3, k.glt⟩
    rw [Sem.bind_eq_wrap', Sem.wrap_wrap]
    refine hb i (pi ++ pinsAt fp s2.heap) sw Hw oa σ H3 s3 _ _ hin (fun p hp => ?_) k3 I3.bare pv fun sw' Hw' oa' σ' H' s' k' hb' pv' => ?_
    · rcases List.mem_append.mp hp with hp | hp
      · exact hpi p hp
      · obtain ⟨h1, _⟩ := of_pinsAt hp
        exact ⟨Nat.le_of_lt (hfp _ h1).1, (hfp _ h1).2.1⟩
    · refine sg_again (by rfl) ?_
      have pin : ∀ b ∈ fp, ∀ o, s2.heap.get? b = some o → s'.heap.get? b = some o ∧ H' b = none := fun b hbm o eo => by
        have z := k'.inv.pin (b, o) (List.mem_append_right _ (List.mem_cons_of_mem _ (List.mem_append_right _ (mem_pinsAt hbm eo))))
        exact ⟨z.1, z.2.1⟩
      refine ih (i + 1) sw' Hw' oa' σ' H' s' (by omega) ⟨Inv.pins_of k'.inv fun p hp => k'.inv.pin p (List.mem_append_right _ ?_), k'.oa, k'.ext, k'.gsz, k'.glt⟩ hb' (T.keep _ _ _ st2 fun b hbm o eo => (pin b hbm o eo).1) (fun b hbm => ?_) pv'
      · rcases List.mem_cons.mp hp with e | hp
        · rw [e]; exact List.mem_cons_self
        · exact List.mem_cons_of_mem _ (List.mem_append_left _ hp)
      · obtain ⟨o, eo, _⟩ := T.obj _ _ st2 b hbm
        exact (pin b hbm o eo).2
/-- for x in range(..) -/
theorem sg_for {tg iter : Expr} {body : List Stmt} {pos : Pos} {pi : List (Addr × Obj)} {j n : Nat} {wi : TI} {Kf : Flow → Sem PySem.Fin} {sw : Shared} {Hw : Hp} {oa : Obj} {σ : L2.St} {H : Hp} {s : Shared} (rem : Nat → List β) (Pv : Nat → L2.St → Hp → Prop)
    (hi : PI (Xw P w K mg base N qual scope f cdv A outer N0 sw Hw) tg iter wi) (hs : ∀ x, foldedSetIterable iter (envOfC qual scope N0 f cdv) x = pure x) (hg : ∀ sw Hw, PG (Xw P w K mg base N qual scope f cdv A outer N0 sw Hw) tg (gName j)) (hpi : ∀ p ∈ pi, N0 ≤ p.1 ∧ p.1 ≠ a) (ha : N0 < a) (nc : ∀ y c, (envOfC qual scope N0 f cdv).cells.lookup y = some c → False)
    (pt : Pt qual scope f cdv A N0 c fs gd) (k : Wrk P w K mg base N qual scope f cdv A outer N0 a g sw Hw oa pi σ H s) (hbr : AllBare s.gens)
    (hw : wi σ H fun Jt H1 => Jt = Itr 0 n ∧ Ex H H1 ∧ Pv 0 σ H1)
    (hb : ∀ c' fs' i pi' sw Hw oa σ H s Kb (Jb : Value → Sem PySem.Fin), Pt qual scope f cdv A N0 c' fs' id → i < n → (∀ p ∈ pi', N0 ≤ p.1 ∧ p.1 ≠ a) → Wrk P w K mg base N qual scope f cdv A outer N0 a g sw Hw oa pi' (σ.set j (some (.int (i : Int)))) H s → AllBare s.gens → Pv i σ H →
      (∀ sw' Hw' oa' σ' H' s', Wrk P w K mg base N qual scope f cdv A outer N0 a g sw' Hw' oa' pi' σ' H' s' → AllBare s'.gens → Pv (i + 1) σ' H' → SG P w base A outer N0 a g R (rem (i + 1)) sw' Hw' c' (Kb .next) fs' s') →
      SG P w base A outer N0 a g R (rem i) sw Hw c' ((execs body (envOfC qual scope N0 f cdv)).wrap Kb Jb id id) fs' s)
    (mono : ∀ i σ H H', Ex H H' → Pv i σ H → Pv i σ H')
    (hend : ∀ sw Hw oa σ H s, Wrk P w K mg base N qual scope f cdv A outer N0 a g sw Hw oa pi σ H s → AllBare s.gens → Pv n σ H → SG P w base A outer N0 a g R (rem n) sw Hw c (Kf .next) fs s) :
    SG P w base A outer N0 a g R (rem 0) sw Hw c ((exec (.For tg iter body [] pos) (envOfC qual scope N0 f cdv)).wrap Kf J gd lv) fs s := by
  have size : ∀ (sw : Shared) (Hw : Hp) (oa : Obj) (σ : L2.St) (H : Hp) (s : Shared), Wrk P w K mg base N qual scope f cdv A outer N0 a g sw Hw oa pi σ H s → (tr sw N0).heap.objs.size ≤ N0 := fun sw _ _ _ _ _ _ => by rw [tr_size]; exact Nat.min_le_left _ _
  rw [exec_For]
  refine sg_bindw (w_standAt (sg_bindw ?_))
  rw [pt.over]
  refine w_of (wpAny_gsz k.gsz (wpAny_mono (hi.run _ s σ H _ (k.inv.back hbr) hw) (fun v s1 q hz => ?_) fun _ _ z => z.elim))
  refine sg_bindw (w_of (wpAny_of_eq (hs v) (sg_bindw (w_standAt (sg_bindw ?_)))))
  rw [pt.over]
  refine w_of (wpAny_holding (wpAny_gsz hz (wpAny_mono q (fun itv s2 q hz2 => ?_) fun _ _ z => z.elim)))
  obtain ⟨it, fp, tn, Jt, H2, rfl, I2, T, st2, f2, rfl, e2, pv⟩ := q
  have k2 : Wrk P w K mg base N qual scope f cdv A outer N0 a g sw Hw oa pi σ H2 s2 := ⟨.of I2, k.oa, k.ext.trans e2, hz2, k.glt⟩
  unfold runOwn
  rw [Sem.onRaise_eq_wrap, Sem.wrap_wrap]
  refine sg_call fun p => ?_
  have pt' : ∀ (kk : Result → Sem PySem.Fin) (l : List Value), Pt qual scope f cdv A N0 (.forLoop tg (.ref it) body [] (envOfC qual scope N0 f cdv)) (.ret kk none (gd false) l c p [] :: fs) id := fun kk l => pt.loop rfl rfl
  have lo : ∀ b ∈ fp, N0 < b := fun b hm => by
    obtain ⟨h0, h1, h2, h3, _, _⟩ := f2 b hm
    have hL : N0 < s2.heap.objs.size := I2.lt
    rcases h3 with h3 | h3
    · exact absurd (show b ∈ ([] : List Addr) from h3) (by simp)
    · have hsw : (tr sw N0).heap.objs.size = N0 := by
        have h5 : (tr sw N0).heap.objs.size ≤ N0 := size _ _ _ _ _ _ k
        have h6 : a < sw.heap.objs.size := Heap.lt_size k.oa
        rw [tr_size]
        exact Nat.min_eq_left (Nat.le_of_lt (Nat.lt_trans ha h6))
      have h3 : (tr sw N0).heap.objs.size ≤ b := h3
      rw [hsw] at h3
      exact Nat.lt_of_le_of_ne h3 (fun z => h1 z.symm)
  refine sg_turns (j := j) rem Pv T hg (fun b hm => ?_) hpi nc (pt' _ _) size mono (fun i pi' sw Hw oa σ H s Kb Jb hin hp' k' hb' pv' hK => hb _ _ i pi' sw Hw oa σ H s Kb Jb (pt' _ _) hin hp' k' hb' pv' hK) (fun sw Hw oa σ H s k' hb' pv' => ?_) n 0 sw Hw oa σ H2 s2 (Nat.zero_add n) k2 I2.bare st2 (fun b hm => (f2 b hm).1) pv
  · obtain ⟨h0, h1, h2, h3, _, h5⟩ := f2 b hm
    have h5 : ∀ p ∈ (a, oa) :: pi, p.1 ≠ b := fun p hp => h5 p (by simpa [gX] using hp)
    exact ⟨lo b hm, Ne.symm (h5 _ List.mem_cons_self), h2, fun p hp => h5 p (List.mem_cons_of_mem _ hp)⟩
  · exact sg_leaf (.ok .next) (hend sw Hw oa σ H s k' hb' pv')
end
end GW
/-! # W: a def that makes generators -/
namespace GW
open PySem PySem.Spec PyProof.Rows L2 Evl Ct GenW
/-- a def that makes generators -/
structure GnW (P : Program) (w : World) (K : PySem.W.Frag) (mg : Str → Option Value) (base : Heap) (k : Nat) (f : Addr) (fd : FuncData) (ps : List Str) {β : Type} (R : Rp β) (sp : List V → Hp → List β → Prop) : Prop where
  len : ∀ vs H outs, sp vs H outs → vs.length = ps.length
  run : ∀ (A : Around) (outer : List Env) (s : Shared) (H : Hp) (args : Args) (us : List Value) (vs : List V) (outs : List β), Room 1 A → Env0 P w K mg base A outer s H → BindsTo s fd args (ps.zip us) → Vals vs us → sp vs H outs →
    codeAny (model P w) A (.call (.ref f) args) (fun r s' => match r with
      | .ok (.ret u) => ∃ a c, u = .ref a ∧ (∀ b o, s.heap.get? b = some o → s'.heap.get? b = some o) ∧ s'.os = s.os ∧ AllBare s'.gens ∧ Made P w base outer R k outs s.heap.objs.size a s.gens.size c s' H
      | _ => False) s
section
variable {P : Program} {w : World} {K : PySem.W.Frag} {mg : Str → Option Value} {base : Heap} {N : List Str} {qual : Str} {scope : Scope} {f : Addr} {cdv : Value} {A : Around} {outer : List Env} {N0 a : Addr} {g : Nat} {β : Type} {R : Rp β} {H H' : Hp} {s s' : Shared}
/-- woken for the first time -/
theorem wrk_first {s0 : Shared} {H0 : Hp} {σ : L2.St} (I : InvG (gX P w K mg base N qual scope f cdv A outer N0 s0 H0) [] σ H s) (nc : ∀ y c, (envOfC qual scope N0 f cdv).cells.lookup y = some c → False) (ha : N0 < a) (hg : g < s.gens.size)
    (S : Slp P w base outer N0 a g s H s' H') : ∃ oa', Wrk P w K mg base N qual scope f cdv A outer N0 a g s' H' oa' [] σ H' s' := by
  have hne : N0 ≠ a := Nat.ne_of_lt ha
  have I1 := rebase I nc S hne (fun p hp => by simp at hp)
  obtain ⟨⟨m, o, nm, qn, ho, hc, hd, hs⟩, hH⟩ := S.self
  refine ⟨o, ?_, ho, Ex.refl _, Nat.le_refl _, Nat.lt_of_lt_of_le hg S.gsz⟩
  refine Inv.pins_of I1 fun p hm => ?_
  rw [List.mem_singleton.mp hm]
  refine ⟨ho, hH, Ne.symm hne, fun hb => ?_, fun v z => by rw [hd] at z; cases z⟩
  obtain ⟨_, o2, e2, _⟩ := I1.ok.funs.mem hb
  have : a < (tr s' N0).heap.objs.size := Heap.lt_size e2
  rw [tr_size] at this
  exact Nat.lt_irrefl _ (Nat.lt_trans (Nat.lt_of_lt_of_le this (Nat.min_le_left _ _)) ha)
theorem sg_func {Rt : Shared → Prop} {Yd : Value → Shared → GenState → Prop} {body : List Stmt} {env : Env} {fs : List Frame}
    (h : SegW P w A g Rt Yd (.func body env) ((execs body env).wrap (fun f => .pure (.done (.ret (match f with | .ret v => v | _ => .none))))
      (fun e => (leaving env e).wrap (fun _ => .raise e) .raise id id) id id) fs s) :
    SegW P w A g Rt Yd (.func body env) ((model P w).den (.func body env)) fs s := by
  show SegW P w A g Rt Yd _ (PySem.point >>= fun _ => ((execs body env).onRaise (leaving env)) >>= _) fs s
  refine sg_bind (w_of (wpAny_point ?_))
  rw [Sem.onRaise_eq_wrap, Sem.bind_eq_wrap', Sem.wrap_wrap]
  rw [Sem.wrap_congr (execs body env) _ _ (K' := fun f => .pure (.done (.ret (match f with | .ret v => v | _ => .none))))
    (H' := fun e => (leaving env e).wrap (fun _ => .raise e) .raise id id) (fun f => by cases f <;> rfl)
    (fun e => by rw [Sem.bind_eq_wrap, Sem.wrap_wrap]; rfl)]
  exact h
end
/-- THE RULE: a generator def, by its body -/
theorem gn_of {P : Program} {w : World} {K : PySem.W.Frag} {mg : Str → Option Value} {base : Heap} {k : Nat} {f : Addr} {x qual : Str} {st : Stmt} {fd : FuncData} {N ps : List Str} {β : Type} {R : Rp β} {sp : List V → Hp → List β → Prop}
    (F : L2.Fun K x qual st f fd) (S : GScope N ps (defScope st)) (nc : ∀ N0 y c, (cellsFrom (N0 + 1) (defScope st).names []).lookup y = some c → False) (len : ∀ vs H outs, sp vs H outs → vs.length = ps.length)
    (hbody : ∀ (cdv : Value) (A : Around) (outer : List Env) (N0 a : Addr) (g : Nat) (H : Hp) (vs : List V) (outs : List β) (sw : Shared) (Hw : Hp) (oa : Obj) (J : Value → Sem PySem.Fin),
      Room k (A.deeper (envOfC qual (defScope st) N0 f cdv)) → sp vs H outs → Ex H Hw → N0 < a → Pt qual (defScope st) f cdv A N0 (.func (defBody st) (envOfC qual (defScope st) N0 f cdv)) [] id →
      Wrk P w K mg base N qual (defScope st) f cdv A outer N0 a g sw Hw oa [] (start N vs) Hw sw → AllBare sw.gens →
      SG P w base A outer N0 a g R outs sw Hw (.func (defBody st) (envOfC qual (defScope st) N0 f cdv)) ((execs (defBody st) (envOfC qual (defScope st) N0 f cdv)).wrap (fun f => .pure (.done (.ret (match f with | .ret v => v | _ => .none)))) J id id) [] sw) :
    GnW P w K mg base (k + 1) f fd ps R sp := by
  obtain ⟨oc, od, kV, doc, pm, an, cdv, ct, osl, rfl, lk, hcd⟩ := F.ex
  refine ⟨len, fun A outer s H args us vs outs hr e0 hb r hsp => ?_⟩
  have hl := len _ _ _ hsp
  have KX : K.In s.heap := e0.mod.kin.keeps fun b o e => (e0.bs b o e).1
  have lim : s.heap.NoLimit := e0.mod.nolimit.keeps fun b o e => (e0.bs b o e).1
  have hkind : ∀ y ∈ ps.zip us, (defScope st).names.lookup y.1 = some .local ∨ ((defScope st).names.lookup y.1 = some .cell ∧ ((cellsFrom (s.heap.objs.size + 1) (defScope st).names []).lookup y.1).isSome = true) := fun ⟨n, v⟩ hy => by
    rcases S.par n (List.of_mem_zip hy).1 with q | q
    · exact .inl q
    · exact .inr ⟨q, PySem.W.cellsFrom_some _ _ _ (.inl q)⟩
  refine codeAny_call_generator hr.depth (KX _ _ lk) rfl S.co S.gen rfl (PySem.W.codeRec_of KX hcd) (hb _ _ _ _ ?_)
  refine wpAny_newFunctionEnv_cells S.kind hkind fun env he s1 x => ?_
  subst he
  have lim1 : s1.heap.NoLimit := lim.keeps x.toInCall.keep
  refine ⟨lim1, ?_⟩
  obtain ⟨h1, tk, es1, hk1⟩ := x.done
  have os1 : s1.os = s.os := by rw [es1]
  have gen1 : s1.gens = s.gens := by rw [es1]
  have lt1 : s.heap.objs.size < s1.heap.objs.size := x.toInCall.ns.lt
  have kp1 : ∀ b o, s.heap.get? b = some o → s1.heap.get? b = some o := x.toInCall.keep
  have main : ∀ (go : Obj) (nm qn : Value) (tk2 : Nat), go.cls = .type "generator" → go.data = .fields #[.int s1.gens.size 0, nm, qn] → go.slots = #[] → (∀ h : Heap, (h.push go).get? h.objs.size = some go) →
      ∃ a c, Value.ref s1.heap.objs.size = .ref a ∧ (∀ b o, s.heap.get? b = some o → (s1.heap.push go).get? b = some o) ∧ s1.os = s.os ∧ AllBare (s1.gens.push (.fresh (.func (defBody st) (envOfC qual (defScope st) s.heap.objs.size f cdv)))) ∧
      Made P w base outer R (k + 1) outs s.heap.objs.size a s.gens.size c { s1 with gens := s1.gens.push (.fresh (.func (defBody st) (envOfC qual (defScope st) s.heap.objs.size f cdv))), toks := tk2, heap := s1.heap.push go } H := by
    intro go nm qn tk2 hgc hgd0 hgs hgp
    have hb1 : AllBare (s1.gens.push (.fresh (.func (defBody st) (envOfC qual (defScope st) s.heap.objs.size f cdv)))) := AllBare.push (by rw [gen1]; exact e0.bare) rfl
    have I1 := (inv_startG (E := C8.E0) S hr.hd e0 hl r x).wish (fun _ _ => False)
    refine ⟨s1.heap.objs.size, .func (defBody st) (envOfC qual (defScope st) s.heap.objs.size f cdv), rfl, fun b o e => Heap.get?_push_of_some _ (kp1 b o e), os1, hb1, ?_, I1.hok.fresh (Nat.le_refl _), lt1, ?_, fun Aw hrw hfr s' H' Z => ?_⟩
    · rw [← gen1]
      exact GenOb.of ⟨go, nm, qn, hgp _, hgc, hgd0, hgs⟩
    · rw [← gen1]
      exact Array.getElem?_push_size ..
    have e0w : Env0 P w K mg base Aw outer s H := ⟨hfr, e0.mod, e0.bs, e0.bsz, e0.funs, e0.frf, e0.hok, e0.bare⟩
    have Iw := (inv_startG (E := C8.E0) S hrw.hd e0w hl r x).wish (fun _ _ => False)
    have I2 : InvG (gX P w K mg base N qual (defScope st) f cdv Aw outer s.heap.objs.size s H) [] (start N vs) H { s1 with gens := s1.gens.push (.fresh (.func (defBody st) (envOfC qual (defScope st) s.heap.objs.size f cdv))), toks := tk2, heap := s1.heap.push go } :=
      (Inv.kept (h' := s1.heap.push go) (t' := tk2) (InvG.of Iw) fun b o e => Heap.get?_push_of_some _ e)
    obtain ⟨oa, k1⟩ := wrk_first I2 (nc _) lt1 (by show s.gens.size < (s1.gens.push _).size; rw [Array.size_push, gen1]; exact Nat.lt_succ_self _) Z
    exact sg_func (hbody cdv Aw outer _ _ _ H vs outs s' H' oa _ (hrw.deeper _) hsp Z.ext lt1 ⟨over_func, rfl, rfl, rfl⟩ k1 (Z.bare hb1))
  exact main _ _ _ _ rfl rfl rfl fun h => Heap.get?_push_size _ rfl
section
variable {X : Cx} {k : Nat} {x : Str} {f : Addr} {fd : FuncData} {ps : List Str} {β : Type} {R : Rp β} {sp : List V → Hp → List β → Prop} {p pos : Pos} {e : Expr} {es : List Expr} {t : TA} {pins : List (Addr × Obj)} {s : Shared} {σ : L2.St} {H : Hp} {outs : List β}
/-- a generator is made -/
theorem made_call (F : GnW X.prog X.w X.K X.mg X.base k f fd ps R sp) (hm : X.mg x = some (.ref f)) (hkp : PySem.W.keepIn X.K (.ref f) = true) (hb : Binds X.K fd ps []) (hr : Room 1 X.A) (hg : Gl X x) (ha : PA X (e :: es) t)
    (I : Inv X pins σ H s) (h : t σ H fun vs H1 => Ex H H1 ∧ sp vs H1 outs) (hxe : X.xe = fun _ _ => False)
    (hdb : (x == ("__debug__" : Str)) = false := by decide) (he : starEach (e :: es) X.env = (false, eval e X.env) :: starEach es X.env := by rfl) (hpl : (backTo pos (starEach es X.env)).any (·.1) = false := by rfl) :
    wpAny (model X.prog X.w) X.A (eval (.Call (.Name x p) (e :: es) [] pos) X.env) (fun v s1 => ∃ NI aI gI cI H1, v = .ref aI ∧ Inv X pins σ H1 s1 ∧ Ex H H1 ∧ X.env.locals < NI ∧ (∀ p ∈ X.pn ++ pins, p.1 < NI) ∧ s.gens.size ≤ gI ∧ (∀ b o, H1 b = some o → b < NI) ∧ Made X.prog X.w X.base X.stack R k outs NI aI gI cI s1 H1) (fun _ _ => False) s := by
  rw [arm_eval_Call_Name']
  refine wpAny_bind (ld_glob I hg hm ?_ hdb)
  have h0 := wpAny_gsz (Nat.le_refl s.gens.size) (wpAny_mono (ha.run pos pins s σ H _ I h) (fun v s' q hz => (And.intro hz q)) (fun v s' q hz => q))
  rw [hxe] at h0
  refine PySem.W.callWith_K I.kIn hkp (thn h0 fun us s1 ⟨hz, vs, H1, I1, r, e1, q⟩ => ⟨I1.kIn, ?_⟩) he hpl
  have hl : (us ++ []).length = ps.length := by rw [List.append_nil, ← r.length]; exact F.len _ _ _ q
  have hbt := hb s1 us I1.kIn hl
  rw [List.append_nil] at hbt
  refine wpAny_call (codeAny_mono (F.run X.A X.stack s1 H1 ⟨us, []⟩ us vs outs hr I1.env0 hbt r q) fun r s' hq => ?_)
  cases r with
  | error e => exact hq.elim
  | ok fl =>
    cases fl with
    | ret u =>
      obtain ⟨a, c, rfl, kp, ho, hb, M⟩ := hq
      exact ⟨_, a, _, c, H1, rfl, I1.call' (ch := []) ho (Un.kept kp) (I1.hok.kept kp) hb (fun b z => by simp at z), e1, I1.lt, fun p hp => Heap.lt_size (I1.pin p hp).1, hz, fun b o e => (I1.hok b o e).lt, M⟩
    | next => exact hq.elim
    | brk => exact hq.elim
    | cont => exact hq.elim
end
end GW
/-! # W: shapes_from -/
namespace GW
open PySem PySem.Spec PyProof.Rows L2 Evl Ct GenW
abbrev Nsf : List PySem.Str := ["loads", "chosen", "left", "room", "at", "lower", "longer", "less"]
theorem sc_shapes_from : GScope Nsf ["loads", "chosen", "left", "room"] (defScope s_shapes_from) := ⟨rfl, rfl, rfl, by decide +kernel, rfl, by decide +kernel, by decide +kernel⟩
theorem nc_shapes_from : ∀ N0 y c, (cellsFrom (N0 + 1) (defScope s_shapes_from).names []).lookup y = some c → False := fun N0 y c h => by
  have : cellsFrom (N0 + 1) (defScope s_shapes_from).names [] = [] := by rfl
  rw [this] at h
  cases h
/-- what is asked of the search's arguments -/
structure SfOk (n : Nat) (loads : List Ld) (chosen : Sh) (left : LR) : Prop where
  lo : loads.length ≤ 1000
  ea : ∀ l ∈ loads, l.length ≤ 1000 ∧ ∀ p ∈ l, InP left.1.length left.2.length p
  ch : chosen.length + n ≤ 1000
def spSf (n : Nat) : List V → Hp → List Sh → Prop := fun vs H outs => ∃ v1 v2 v3 loads chosen left, vs = [v1, v2, v3, .int (n : Int)] ∧ Rlst Rld H v1 loads ∧ Rsh H v2 chosen ∧ Rlr H v3 left ∧ SfOk n loads chosen left ∧ outs = shapesFrom n loads chosen left
def kSf (n : Nat) : Nat := 3 * n + 4
/-- one turn's part -/
def sfRow (n : Nat) (loads : List Ld) (chosen : Sh) (left : LR) (i : Nat) : List Sh := match loads[i]? with
  | some l => if hasDoors left l then shapesFrom n (loads.take (i + 1)) (l :: chosen) (lessLR left l) else []
  | none => []
def sfRem (n : Nat) (loads : List Ld) (chosen : Sh) (left : LR) (i : Nat) : List Sh := (((List.range loads.length).drop i).map (sfRow n loads chosen left)).flatten
theorem sfRem_zero {n : Nat} {loads : List Ld} {chosen : Sh} {left : LR} : sfRem n loads chosen left 0 = shapesFrom (n + 1) loads chosen left := rfl
theorem sfRem_end {n : Nat} {loads : List Ld} {chosen : Sh} {left : LR} : sfRem n loads chosen left loads.length = [] := by
  unfold sfRem
  rw [List.drop_eq_nil_of_le (by simp)]; rfl
theorem sfRem_step {n : Nat} {loads : List Ld} {chosen : Sh} {left : LR} {i : Nat} (h : i < loads.length) : sfRem n loads chosen left i = sfRow n loads chosen left i ++ sfRem n loads chosen left (i + 1) := by
  unfold sfRem
  rw [List.drop_eq_getElem_cons (by simpa using h), List.map_cons, List.flatten_cons]
  simp
theorem SfOk.less {n : Nat} {loads : List Ld} {chosen : Sh} {left : LR} {l : Ld} {i : Nat} (h : SfOk (n + 1) loads chosen left) : SfOk n (loads.take (i + 1)) (l :: chosen) (lessLR left l) where
  lo := by rw [List.length_take]; have := h.lo; omega
  ea := fun m hm => by
    have := h.ea m (List.mem_of_mem_take hm)
    rw [less_len1, less_len2]
    exact this
  ch := by have := h.ch; simp only [List.length_cons]; omega
section
variable {P : Program} {w : World} {K : PySem.W.Frag} {mg : Str → Option Value} {base : Heap} {N : List Str} {qual : Str} {scope : Scope} {f : Addr} {cdv : Value} {A : Around} {outer : List Env} {N0 a : Addr} {g : Nat} {β : Type} {R : Rp β}
variable {sw : Shared} {Hw : Hp} {s : Shared} {outs : List β} {c : Code} {fs : List Frame} {gd : Bool → Bool} {lv : List Value → List Value} {J : Value → Sem PySem.Fin} {env : Env}
theorem sg_nil {Kf : Flow → Sem PySem.Fin} (h : SG P w base A outer N0 a g R outs sw Hw c (Kf .next) fs s) : SG P w base A outer N0 a g R outs sw Hw c ((execs [] env).wrap Kf J gd lv) fs s := h
theorem sg_nx {oa : Obj} {pi : List (Addr × Obj)} {σ : L2.St} {H : Hp} {st : Stmt} {t : TS} {Kf : Flow → Sem PySem.Fin} {Q : L2.St → Hp → Prop} (h : PS (Xw P w K mg base N qual scope f cdv A outer N0 sw Hw) st t) (pt : Pt qual scope f cdv A N0 c fs gd) (k : Wrk P w K mg base N qual scope f cdv A outer N0 a g sw Hw oa pi σ H s) (hb : AllBare s.gens)
    (ht : t { nx := fun σ' H' => Q σ' H' ∧ Ex H H', rt := fun _ _ => False } σ H)
    (hK : ∀ σ' H' s', Wrk P w K mg base N qual scope f cdv A outer N0 a g sw Hw oa pi σ' H' s' → AllBare s'.gens → Q σ' H' → Ex H H' → SG P w base A outer N0 a g R outs sw Hw c (Kf .next) fs s') :
    SG P w base A outer N0 a g R outs sw Hw c ((exec st (envOfC qual scope N0 f cdv)).wrap Kf J gd lv) fs s := by
  refine sg_plain h pt k hb ht fun fl s3 q hz3 => ?_
  cases fl with
  | next =>
    obtain ⟨σ3, H3, I3, q, e3⟩ := q
    exact hK σ3 H3 s3 ⟨.of I3, k.oa, k.ext.trans e3, hz3, k.glt⟩ I3.bare q e3
  | brk => obtain ⟨_, _, _, q⟩ := q; exact q.elim
  | cont => obtain ⟨_, _, _, q⟩ := q; exact q.elim
  | ret u => obtain ⟨_, _, _, _, _, q⟩ := q; exact q.elim
end
section
variable {P : Program} {w : World} {K : PySem.W.Frag} {mg : Str → Option Value} {base : Heap}
theorem gn_shapes (T : Txt K mg) {f : Addr} {fd : FuncData} (F : L2.Fun K "shapes_from" "shapes_from" s_shapes_from f fd) (hm : mg "shapes_from" = some (.ref f)) : ∀ n, n ≤ 7 → GnW P w K mg base (kSf n) f fd ["loads", "chosen", "left", "room"] Rsh (spSf n) := by
  intro n
  induction n with
  | zero =>
    intro _
    refine gn_of F sc_shapes_from nc_shapes_from (fun vs H outs ⟨_, _, _, _, _, _, h, _⟩ => by rw [h]; rfl) fun cdv A outer N0 a g H vs outs sw Hw oa J hr hsp hex ha pt k hb => ?_
    obtain ⟨v1, v2, v3, loads, chosen, left, rfl, r1, r2, r3, ok, rfl⟩ := hsp
    refine sg_cons (sg_if (pt_cmpR op_eq (pv 3) pe_int (nomark _)) pt k hb ((eT (et_eqI (et_var (x := (0 : Int)) rfl rfl) et_int)) Hw (Ex.refl _) (fun b H1 => b = true ∧ Ex Hw H1) fun H1 e1 => ⟨by rfl, e1⟩) fun b s1 H1 I1 hq hz => ?_)
    obtain ⟨rfl, e1⟩ := hq
    have k1 : Wrk P w K mg base Nsf "shapes_from" (defScope s_shapes_from) f cdv A outer N0 a g sw Hw oa [] _ H1 s1 := ⟨.of I1, k.oa, k.ext.trans e1, hz, k.glt⟩
    rw [if_pos rfl]
    refine sg_cons (sg_out (o := chosen) (outs := []) (pv 1) rfl rfl (nc_shapes_from N0) (fun p hp => by simp at hp) ha pt k1 I1.bare ((et_var (R := Rsh) (x := chosen) rfl (up (hex.trans e1) r2)) H1 (Ex.refl _) (fun x H2 => Ex H1 H2 ∧ Rsh H2 x chosen) fun v H2 e2 r => ⟨e2, r⟩) (fun x H2 q => q) fun s2 H2 oa2 k2 hb2 e2 => ?_)
    refine sg_cons (sg_plain ps_retN (D := { nx := fun _ _ => False, rt := fun v H3 => v = .non ∧ Ex H2 H3 }) pt k2 hb2 ⟨rfl, Ex.refl _⟩ fun fl s3 q hz3 => ?_)
    cases fl with
    | next => obtain ⟨_, _, _, q⟩ := q; exact q.elim
    | brk => obtain ⟨_, _, _, q⟩ := q; exact q.elim
    | cont => obtain ⟨_, _, _, q⟩ := q; exact q.elim
    | ret u =>
      obtain ⟨v, σ3, H3, I3, rv, rfl, e3⟩ := q
      have eu : u = Value.none := rv
      subst eu
      have k3 : Wrk P w K mg base Nsf "shapes_from" (defScope s_shapes_from) f cdv A outer N0 a g s2 H2 oa2 [] _ H3 s3 := ⟨.of I3, k2.oa, k2.ext.trans e3, hz3, k2.glt⟩
      exact sg_end ⟨rfl, H3, k3.did fun i y _ hy => I3.bare y (Array.mem_of_getElem? hy), I3.bare⟩
  | succ n ih =>
    intro hn
    have G := ih (by omega)
    have c_has_doors := ok_has_doors (P := P) (w := w) (base := base) T
    have c_without_doors := ok_without_doors (P := P) (w := w) (base := base) T
    have hb7 := F.binds (K := K) (ps := ["loads", "chosen", "left", "room"]) (fun _ _ _ _ _ _ us hl => match us, hl with | [_, _, _, _], _ => rfl)
    refine gn_of F sc_shapes_from nc_shapes_from (fun vs H outs ⟨_, _, _, _, _, _, h, _⟩ => by rw [h]; rfl) fun cdv A outer N0 a g H vs outs sw Hw oa J hr hsp hex ha pt k hb => ?_
    obtain ⟨v1, v2, v3, loads, chosen, left, rfl, r1, r2, r3, ok, rfl⟩ := hsp
    refine sg_cons (sg_if (pt_cmpR op_eq (pv 3) pe_int (nomark _)) pt k hb ((et_is (b := false) (eT (et_eqI (et_var (x := ((n + 1 : Nat) : Int)) rfl rfl) et_int)) (by simp; omega)) Hw (Ex.refl _) (fun b H1 => b = false ∧ Ex Hw H1) fun H1 e1 => ⟨rfl, e1⟩) fun b s1 H1 I1 hq hz => ?_)
    obtain ⟨rfl, e1⟩ := hq
    have k1 : Wrk P w K mg base Nsf "shapes_from" (defScope s_shapes_from) f cdv A outer N0 a g sw Hw oa [] _ H1 s1 := ⟨.of I1, k.oa, k.ext.trans e1, hz, k.glt⟩
    have hlo := ok.lo
    rw [if_neg Bool.false_ne_true]
    refine sg_nil (sg_cons (sg_for (j := 4) (n := loads.length) (sfRem n loads chosen left) (fun i σ' H' => ∃ x5 x6 x7 x8, σ' = [some v1, some v2, some v3, some (.int ((n + 1 : Nat) : Int)), x5, x6, x7, x8] ∧ Ex Hw H')
      (pi_range1 (by rfl) T.n_range (pa_cons (pe_callB (k_len K) (by rfl) T.n_len (by decide +kernel) (pa_cons (pv 0) pa_nil)) pa_nil)) (fun _ => rfl) (fun sw Hw => pg_name (i := 4) sc_shapes_from.nd rfl (Or.inl rfl)) (fun p hp => by simp at hp) ha (nc_shapes_from N0) pt k1 I1.bare ?_ ?_ ?_ ?_))
    · refine (et_lenL (R := Rld) (l := loads) (et_var rfl (up (hex.trans e1) r1))) H1 (Ex.refl _) _ fun v H2 e2 hv => ?_
      cases hv
      exact ⟨(loads.length : Int), rfl, by omega, by omega, rfl, e2, _, _, _, _, rfl, e1.trans e2⟩
    · rintro c' fs' i pi' sw2 Hw2 oa2 σ2 H2 s2 Kb Jb pt2 hi hp2 k2 hb2 ⟨x5, x6, x7, x8, rfl, e2⟩ hK
      have r1 := up (hex.trans e2) r1
      have r2 := up (hex.trans e2) r2
      have r3 := up (hex.trans e2) r3
      have hli : loads[i]? = some loads[i] := List.getElem?_eq_getElem hi
      have hea := ok.ea loads[i] (List.getElem_mem hi)
      have hr1 : Room 1 (A.deeper (envOfC "shapes_from" (defScope s_shapes_from) N0 f cdv)) := hr.mono (by omega)
      rw [sfRem_step hi]
      refine sg_cons (sg_if (QT := fun b H3 => b = hasDoors left loads[i] ∧ Ex H2 H3) (pt_val (C8.pe_c c_has_doors hr1 (by decide) (by rfl) (pa_cons (pv 2) (pa_cons (pe_ix (k_ixL K) (pv 0) (pv 4) (fun _ _ => rfl)) pa_nil)))) pt2 k2 hb2 ((eB (et_call2 (R := Rlr) (S := Rld) (x := left) (y := loads[i]) (et_var rfl r3) (et_ixL (et_var rfl r1) (et_var (x := (i : Int)) rfl rfl) (atI_of hli)) hea)) H2 (Ex.refl _) _ fun H3 e3 => ⟨rfl, e3⟩) fun b s3 H3 I3 hq hz3 => ?_)
      obtain ⟨rfl, e3⟩ := hq
      have k3 : Wrk P w K mg base Nsf "shapes_from" (defScope s_shapes_from) f cdv A outer N0 a g sw2 Hw2 oa2 pi' _ H3 s3 := ⟨.of I3, k2.oa, k2.ext.trans e3, hz3, k2.glt⟩
      cases hd : hasDoors left loads[i] with
      | false =>
        have row : sfRow n loads chosen left i = [] := by unfold sfRow; rw [hli]; simp [hd]
        rw [row, List.nil_append, if_neg Bool.false_ne_true]
        exact sg_nil (sg_nil (hK sw2 Hw2 oa2 _ H3 s3 k3 I3.bare ⟨_, _, _, _, rfl, e2.trans e3⟩))
      | true =>
        have row : sfRow n loads chosen left i = shapesFrom n (loads.take (i + 1)) (loads[i] :: chosen) (lessLR left loads[i]) := by unfold sfRow; rw [hli]; simp [hd]
        rw [row, if_pos rfl]
        have a1 : cutA loads none (some ((i : Int) + 1)) = loads.take (i + 1) := cutA_to (i + 1)
        refine sg_cons (sg_nx (ps_set (i := 5) sc_shapes_from.nd rfl (Or.inl rfl) (pe_slice (k_slL K) (pv 0) po_none (po_some (pe_op op_add (pv 4) pe_int)))) (Q := fun σ' H' => ∃ v5, σ' = [some v1, some v2, some v3, some (.int ((n + 1 : Nat) : Int)), some (.int (i : Int)), some v5, x7, x8] ∧ Rlst Rld H' v5 (loads.take (i + 1))) pt2 k3 I3.bare (j_set ((el_slL (R := Rld) (et_var rfl (up e3 r1)) eo_none (eo_to (et_add (et_var (x := (i : Int)) rfl rfl) et_int))).is a1).et fun v4 H4 e4 r => ⟨⟨_, rfl, r⟩, e4⟩) fun σ4 H4 s4 k4 hb4 ⟨v5, hσ4, r5⟩ e4 => ?_)
        subst hσ4
        refine sg_cons (sg_nx (ps_set (i := 6) sc_shapes_from.nd rfl (Or.inl rfl) (pe_op (k_catT K) (pe_tup (pa_cons (pe_ix (k_ixL K) (pv 0) (pv 4) (fun _ _ => rfl)) pa_nil)) (pv 1))) (Q := fun σ' H' => ∃ v6, σ' = [some v1, some v2, some v3, some (.int ((n + 1 : Nat) : Int)), some (.int (i : Int)), some v5, some v6, x8] ∧ Rsh H' v6 (loads[i] :: chosen)) pt2 k4 hb4 (j_set ((et_catT (R := Rld) (l := [loads[i]]) (m := chosen) (eu1 (et_ixL (R := Rld) (l := loads) (et_var rfl (up (e3.trans e4) r1)) (et_var (x := (i : Int)) rfl rfl) (atI_of hli))).et (et_var rfl (up (e3.trans e4) r2)) (by have := ok.ch; simp only [List.length_singleton]; omega))) fun v7 H5 e5 r => ⟨⟨_, rfl, r⟩, e5⟩) fun σ5 H5 s5 k5 hb5 ⟨v6, hσ5, r6⟩ e5 => ?_)
        subst hσ5
        refine sg_cons (sg_nx (ps_set (i := 7) sc_shapes_from.nd rfl (Or.inl rfl) (C8.pe_c c_without_doors hr1 (by decide) (by rfl) (pa_cons (pv 2) (pa_cons (pe_ix (k_ixL K) (pv 0) (pv 4) (fun _ _ => rfl)) pa_nil)))) (Q := fun σ' H' => ∃ v7, σ' = [some v1, some v2, some v3, some (.int ((n + 1 : Nat) : Int)), some (.int (i : Int)), some v5, some v6, some v7] ∧ Rlr H' v7 (lessLR left loads[i])) pt2 k5 hb5 (j_set (et_call2 (R := Rlr) (S := Rld) (x := left) (y := loads[i]) (et_var rfl (up ((e3.trans e4).trans e5) r3)) (et_ixL (R := Rld) (l := loads) (et_var rfl (up ((e3.trans e4).trans e5) r1)) (et_var (x := (i : Int)) rfl rfl) (atI_of hli)) hea.2) fun v8 H6 e6 r => ⟨⟨_, rfl, r⟩, e6⟩) fun σ6 H6 s6 k6 hb6 ⟨v7, hσ6, r7⟩ e6 => ?_)
        subst hσ6
        have e26 : Ex H2 H6 := ((e3.trans e4).trans e5).trans e6
        refine sg_cons (sg_from (kI := kSf n) rfl (nc_shapes_from N0) hp2 ha pt2 k6 (hr.mono (by unfold kSf; omega)) (wpAny_mono (made_call G hm F.kp hb7 hr1 (by rfl) (pa_cons (pv 5) (pa_cons (pv 6) (pa_cons (pv 7) (pa_cons (pe_op op_sub (pv 3) pe_int) pa_nil)))) (k6.inv.back hb6) (outs := shapesFrom n (loads.take (i + 1)) (loads[i] :: chosen) (lessLR left loads[i])) ?_ rfl) (fun v s7 q => ?_) fun _ _ z => z.elim) fun sw8 Hw8 oa8 H8 s8 k8 hb8 e8 => ?_)
        · refine ⟨v5, rfl, v6, rfl, v7, rfl, ?_⟩
          refine (et_sub (et_var (x := ((n + 1 : Nat) : Int)) rfl rfl) et_int) H6 (Ex.refl _) _ fun v H7 e7 hv => ?_
          cases hv
          have e0 : ((n + 1 : Nat) : Int) - 1 = (n : Int) := by omega
          exact ⟨e7, v5, v6, v7, _, _, _, by rw [e0], up ((e5.trans e6).trans e7) r5, up (e6.trans e7) r6, up e7 r7, ok.less, rfl⟩
        · obtain ⟨NI, aI, gI, cI, H7, rfl, I7, e7, hl7, hp7, hg7, _, M⟩ := q
          have gs := k6.gsz
          have gl := k6.glt
          exact ⟨NI, aI, gI, cI, H7, rfl, I7, e7, fun p hp => hp7 p (List.mem_append_right _ (List.mem_cons_of_mem _ hp)), hp7 (a, oa2) (List.mem_append_right _ List.mem_cons_self), by omega, M⟩
        · exact sg_nil (sg_nil (hK sw8 Hw8 oa8 _ H8 s8 k8 hb8 ⟨_, _, _, _, rfl, e2.trans (e26.trans e8)⟩))
    · rintro i σ2 H2 H3 e23 ⟨x5, x6, x7, x8, rfl, e2⟩
      exact ⟨_, _, _, _, rfl, e2.trans e23⟩
    · rintro sw2 Hw2 oa2 σ2 H2 s2 k2 hb2 ⟨x5, x6, x7, x8, rfl, e2⟩
      rw [sfRem_end]
      exact sg_end ⟨rfl, H2, k2.did fun i y _ hy => hb2 y (Array.mem_of_getElem? hy), hb2⟩
end
end GW
/-! # W: for over a generator -/
namespace GW
open PySem PySem.Spec PyProof.Rows L2 Evl Ct GenW
section
variable {X : Cx} {pins : List (Addr × Obj)} {σ σ0 : L2.St} {H H0 : Hp} {s s0 : Shared} {D : Addr} {xs : List V}
/-- a list is left out of what is tracked .. -/
theorem inv_off (I : Inv X pins σ H s) (hD : H D = some (.lst xs)) : Inv X pins σ (hide D H) s := by
  have n : ∀ b, H b = none → hide D H b = none := fun b e => by
    unfold hide
    split
    · rfl
    · exact e
  have k : ∀ b o, (∀ ys, o ≠ .lst ys) → H b = some o → hide D H b = some o := fun b o ho e => by
    rw [hide_ne]
    · exact e
    · intro z
      rw [z, hD] at e
      exact ho xs (Option.some.inj e).symm
  refine ⟨I.ok, I.os, I.bare, ⟨I.base.keep, I.base.slot, fun b o e h hx => n b (I.base.free b o e h hx), I.base.there, fun b ys e => k _ _ (fun _ z => by cases z) (I.base.tups b ys e), fun b o u e => k _ _ (fun _ z => by cases z) (I.base.frzs b o u e), fun b ps e => ?_⟩, I.loc, I.cell, n _ I.free, fun y c e => n _ (I.freeC y c e), fun p hp => ?_, fun b o e => ?_, I.len⟩
  · obtain ⟨m, q⟩ := I.base.tbls b ps e
    exact ⟨m, k _ _ (fun _ z => by cases z) q⟩
  · obtain ⟨h1, h2, h3⟩ := I.pin p hp
    exact ⟨h1, n _ h2, h3⟩
  · exact (I.hok b o (hide_sub b o e)).stay (fun _ _ _ e => e) (fun c e => k _ _ (fun _ z => by cases z) e) fun c ys e => k _ _ (fun _ z => by cases z) e
/-- .. and taken in again -/
theorem inv_on (old : Inv X pins σ0 H0 s0) (hD : H0 D = some (.lst xs)) (I : Inv X pins σ H s) (hn : H D = none) (ob : ∀ o, s0.heap.get? D = some o → s.heap.get? D = some o) : Inv X pins σ (upd H D (.lst xs)) s := by
  have k : ∀ b o, H b = some o → upd H D (.lst xs) b = some o := fun b o e => by
    rw [upd_ne]
    · exact e
    · intro z
      rw [z, hn] at e; cases e
  have n : ∀ b, b ≠ D → H b = none → upd H D (.lst xs) b = none := fun b hb e => by rw [upd_ne hb]; exact e
  refine ⟨I.ok, I.os, I.bare, ⟨I.base.keep, I.base.slot, fun b o e h hx => n b (fun z => ?_) (I.base.free b o e h hx), I.base.there, fun b ys e => k _ _ (I.base.tups b ys e), fun b o u e => k _ _ (I.base.frzs b o u e), fun b ps e => ?_⟩, I.loc, I.cell, n _ (fun z => ?_) I.free, fun y c e => n _ (fun z => ?_) (I.freeC y c e), fun p hp => ?_, fun b o e => ?_, I.len⟩
  · have := old.base.free b o e h hx
    rw [z, hD] at this; cases this
  · obtain ⟨m, q⟩ := I.base.tbls b ps e
    exact ⟨m, k _ _ q⟩
  · have := old.free
    rw [z, hD] at this; cases this
  · have := old.freeC y c e
    rw [z, hD] at this; cases this
  · obtain ⟨h1, h2, h3⟩ := I.pin p hp
    refine ⟨h1, n _ (fun z => ?_) h2, h3⟩
    have := (old.pin p hp).2.1
    rw [z, hD] at this; cases this
  · by_cases hb : b = D
    · rw [hb, upd_same] at e
      cases e
      obtain ⟨z, its, m, r, e⟩ := old.hok D _ hD
      rw [hb]
      exact ⟨z, its, m, r, ob _ e⟩
    · rw [upd_ne hb] at e
      exact (I.hok b o e).stay (fun _ _ _ e => e) (fun c e => k _ _ e) fun c ys e => k _ _ e
end
section
variable {P : Program} {w : World} {A : Around} {s : Shared} {env : Env}
theorem w_pyNext {g : Nat} {Rt : Shared → Prop} {Yd : Value → Shared → GenState → Prop} {E : Value → Shared → Prop} {a : Addr} {gs : GenState} {Q : Option Value → Shared → Prop} (hh : A.handled = none) (hl : s.heap.NoLimit) (hroom : A.depth < recursionLimit) (hg : GenOb s.heap a g 0) (hgs : s.gens[g]? = some gs) (hgo : GoesW P w A.in1 g Rt Yd gs (s.setGen g .running))
    (hY : ∀ v s' gs', Yd v s' gs' → Q (some v) (s'.setGen g gs')) (hR : ∀ s', Rt s' → ∀ h', (∀ b o, s'.heap.get? b = some o → h'.get? b = some o) → Q none { s'.setGen g .finished with heap := h' }) :
    W P w A (pyNext (.ref a)) Q E s := by
  unfold pyNext
  refine w_bind (w_attempt (w_next hh hl hroom hg hgs hgo (fun v s' gs' hy => ?_) fun s' hs e h' hS hk => ?_))
  · exact w_pure (hY v s' gs' hy)
  · obtain ⟨b, o, vs, rfl, ho, hc, hd, h5⟩ := hS
    refine w_bind (w_of (wpAny_isInstance (T := "StopIteration") (b := true) ⟨o, ho, hc⟩ isSubtype_stop ?_))
    exact w_pure (hR s' hs h' hk)
/-- one turn of a for -/
theorem cw_turn {tg : Expr} {it : Value} {body : List Stmt} {R : Result → Shared → Prop} (hgo : ∀ v, letOwnedTupleGo tg it v = pure ())
    (h : W P w A (pyNext it) (fun r s1 => match r with
      | none => R (.ok .next) s1
      | some v => W P w A (assign tg env v) (fun _ s2 => W P w A (execs body env) (fun f s3 => match f with
        | .next | .cont => codeW P w A (.forLoop tg it body [] env) R s3
        | .brk => R (.ok .next) s3
        | .ret v => R (.ok (.ret v)) s3) (fun _ _ => False) s2) (fun _ _ => False) s1) (fun _ _ => False) s) : codeW P w A (.forLoop tg it body [] env) R s := by
  refine cw_tree ?_
  show W P w A ((forTurn tg it body [] env).onRaise (fun x => do noteFrame x env; theTreesLotGoes x)) _ _ s
  refine w_onRaise (E := fun _ _ => False) (w_mono (E := fun _ _ => False) ?_ (fun _ _ z => z) fun _ _ z => z.elim) |> fun z => w_mono z (fun _ _ z => z) fun _ _ z => z.elim
  unfold forTurn
  refine w_bind (w_standAt (w_bind (w_onRaise (w_mono h (fun r s1 q => ?_) fun _ _ z => z.elim))))
  cases r with
  | none => exact w_pure (And.intro rfl (cw_of (codeAny_block (wpAny_execs_nil q))))
  | some v =>
    dsimp only
    rw [hgo]
    refine w_bind (w_pure (w_bind (w_mono q (fun _ s2 q => w_bind (w_mono q (fun f s3 q => ?_) fun _ _ z => z)) fun _ _ z => z)))
    cases f with
    | next => exact w_pure (And.intro rfl q)
    | cont => exact w_pure (And.intro rfl q)
    | brk => exact w_pure q
    | ret v => exact w_pure q
end
def ncel (o : Obj) : Bool := match o.data with | .cell _ => false | _ => true
theorem ncel_of {o : Obj} (h : ncel o = true) : ∀ v, o.data ≠ .cell v := fun v z => by
  unfold ncel at h
  rw [z] at h
  cases h
theorem ncel_is {o : Obj} (h : ∀ v, o.data ≠ .cell v) : ncel o = true := by
  unfold ncel
  split
  · rename_i v e; exact (h v e).elim
  · rfl
/-- the objects of n and above, not tracked, no cells -/
def restOf (h : Heap) (H : Hp) (n : Nat) : List (Addr × Obj) := (List.range h.objs.size).filterMap fun b => match h.get? b with
  | some o => if (decide (n ≤ b) && (H b).isNone && ncel o) = true then some (b, o) else none
  | none => none
theorem mem_rest {h : Heap} {H : Hp} {n : Nat} {p : Addr × Obj} (x : p ∈ restOf h H n) : h.get? p.1 = some p.2 ∧ n ≤ p.1 ∧ H p.1 = none ∧ ∀ v, p.2.data ≠ .cell v := by
  obtain ⟨b, hb, e⟩ := List.mem_filterMap.mp x
  cases ho : h.get? b with
  | none => rw [ho] at e; cases e
  | some o =>
    rw [ho] at e
    by_cases c : (decide (n ≤ b) && (H b).isNone && ncel o) = true
    · simp only [c, if_true] at e
      injection e with e
      subst e
      rw [Bool.and_eq_true, Bool.and_eq_true] at c
      exact ⟨ho, of_decide_eq_true c.1.1, Option.isNone_iff_eq_none.mp c.1.2, ncel_of c.2⟩
    · simp only [c, if_false] at e
      cases e
theorem rest_mem {h : Heap} {H : Hp} {n b : Nat} {o : Obj} (e : h.get? b = some o) (hb : n ≤ b) (hn : H b = none) (hc : ∀ v, o.data ≠ .cell v) : (b, o) ∈ restOf h H n := by
  refine List.mem_filterMap.mpr ⟨b, List.mem_range.mpr (Heap.lt_size e), ?_⟩
  rw [e]
  have c : (decide (n ≤ b) && (H b).isNone && ncel o) = true := by
    rw [Bool.and_eq_true, Bool.and_eq_true]
    exact ⟨⟨decide_eq_true hb, by rw [hn]; rfl⟩, ncel_is hc⟩
  simp only [c, if_true]
theorem unh_gens {G : Array GenState} {s : Shared} : ({ unh G s with gens := #[] } : Shared) = { s with gens := #[] } := rfl
theorem hid_size (s : Shared) : (hid s).gens.size = s.gens.size := Array.size_map
theorem hid_run {P : Program} {w : World} {A : Around} {α : Type} {t : Sem α} {Q : α → Shared → Prop} {s : Shared} (h : wpAny (model P w) A t Q (fun _ _ => False) (hid s)) : W P w A t (fun a s' => ∃ s2, Shown s.gens s2 s' ∧ s.gens.size ≤ s'.gens.size ∧ Q a s2) (fun _ _ => False) s := by
  have h1 : wpAny (model P w) A t (fun a s' => s.gens.size ≤ s'.gens.size ∧ Q a s') (fun _ _ => False) (hid s) := wpAny_gsz (by rw [hid_size]; exact Nat.le_refl _) (wpAny_mono h (fun _ s' q hz => And.intro hz q) fun _ _ z => z.elim)
  refine w_of (wpAny_mono (wpAny_hid h1) (fun a s' q => ?_) fun e s' q => ?_)
  · obtain ⟨s2, S, hz, q⟩ := q
    exact ⟨s2, S, by rw [S.size]; exact hz, q⟩
  · obtain ⟨_, _, z⟩ := q
    exact z
section
variable {X : Cx} {β : Type} {R : Rp β} {NI aI D : Addr} {gI j : Nat} {tg : Expr} {body : List Stmt} {tb : TS} {pins : List (Addr × Obj)}
/-- the turns over a generator; D: the list that grows meanwhile -/
theorem cw_gens (hxe : X.xe = fun _ _ => False) (nc : ∀ y c, X.env.cells.lookup y = some c → False) (hg : PG X tg (gName j)) (hb : PSs X body tb) (hgo : ∀ v, letOwnedTupleGo tg (.ref aI) v = pure ()) (hh : X.A.handled = none) (hroom : X.A.depth < recursionLimit)
    (hL : X.env.locals < NI) (hp : ∀ p ∈ X.pn ++ pins, p.1 < NI) (haI : NI < aI) (hDN : D < NI) (Pv : List β → L2.St → Hp → Prop)
    (hPv : ∀ outs σ H, Pv outs σ H → ∃ xs, H D = some (.lst xs)) (mono : ∀ outs σ H H', (∀ b o, b ≠ D → H b = some o → H' b = some o) → H' D = H D → Pv outs σ H → Pv outs σ H')
    (step : ∀ o r σ H u, Pv (o :: r) σ H → R (hide D H) u o → tb { nx := fun σ' H' => Pv r σ' H' ∧ ∀ b o, b ≠ D → H b = some o → H' b = some o, ct := fun _ _ => False, bk := fun _ _ => False, rt := fun _ _ => False } (σ.set j (some u)) H) :
    ∀ (outs : List β) (σ : L2.St) (H : Hp) (s : Shared) (gs : GenState), InvG X pins σ H s → Pv outs σ H → (∀ i x, i < gI → s.gens[i]? = some x → x.bare = true) → GenOb s.heap aI gI 0 → H aI = none → s.gens[gI]? = some gs →
      GoesW X.prog X.w X.A.in1 gI (RtP X.prog X.w X.stack NI aI gI outs (s.setGen gI .running) (hide D H)) (YdP X.prog X.w X.base X.stack NI aI gI R X.A.in1 outs (s.setGen gI .running) (hide D H)) gs (s.setGen gI .running) →
      codeW X.prog X.w X.A (.forLoop tg (.ref aI) body [] X.env) (fun r s' => r = .ok .next ∧ ∃ σ' H', Inv X pins σ' H' s' ∧ Pv [] σ' H') s := by
  intro outs
  have hneD : aI ≠ D := Nat.ne_of_gt (Nat.lt_trans hDN haI)
  have taken : ∀ {outs : List β} {σ : L2.St} {H H1 : Hp} {s s1 : Shared}, InvG X pins σ H s → Pv outs σ H → Did X.prog X.w X.stack NI aI gI (s.setGen gI .running) (hide D H) s1 H1 → ∃ xs, H D = some (.lst xs) ∧ H1 D = none ∧ InvG X pins σ (upd H1 D (.lst xs)) s1 ∧ Pv outs σ (upd H1 D (.lst xs)) := by
    intro outs σ H H1 s s1 I pv D1
    obtain ⟨xs, hD⟩ := hPv _ _ _ pv
    have I0 : InvG X pins σ (hide D H) (s.setGen gI .running) := inv_off I hD
    have I1 := by_inner I0 D1 hL nc hp
    have hDo : ∃ o, s.heap.get? D = some o := okOb_some (I.hok D _ hD)
    have hDh : hide D H D = none := if_pos rfl
    have hDs : D ∉ frs X.stack := fun z => by
      have := I.stkFree D z
      rw [hD] at this; cases this
    have hDk : ∀ o, s.heap.get? D = some o → s1.heap.get? D = some o := fun o e => D1.un.keep D o ((tr_get hDN).trans e) ((lim_lt hDN).trans hDh) hDs (by simp)
    have hD1 : H1 D = none := by
      obtain ⟨o, e⟩ := hDo
      exact D1.un.free D o ((tr_get hDN).trans e) ((lim_lt hDN).trans hDh) (by simp)
    have I2 : InvG X pins σ (upd H1 D (.lst xs)) s1 := inv_on I hD I1 hD1 hDk
    refine ⟨xs, hD, hD1, I2, mono _ _ H _ (fun b o hb e => ?_) (by rw [upd_same, hD]) pv⟩
    rw [upd_ne hb]
    exact D1.ext b o (by rw [hide_ne hb]; exact e)
  induction outs with
  | nil =>
    intro σ H s gs I pv gb ob hHa hgs arm
    refine cw_turn hgo (w_pyNext hh I.nolimit hroom ob hgs arm (fun v s' gs' y => y.elim) fun s1 z h' hk => ?_)
    obtain ⟨_, H1, D1, hb1⟩ := z
    obtain ⟨xs, hD, hD1, I2, pv2⟩ := taken I pv D1
    refine ⟨rfl, σ, _, ?_, pv2⟩
    have I3 : InvG X pins σ (upd H1 D (.lst xs)) { s1.setGen gI .finished with heap := h' } := Inv.kept (h' := h') (t' := s1.toks) I2 hk
    exact I3.back (allBare_setGen hb1 rfl)
  | cons o r ih =>
    intro σ H s gs I pv gb ob hHa hgs arm
    refine cw_turn hgo (w_pyNext hh I.nolimit hroom ob hgs arm (fun v s1 gs1 y => ?_) fun s1 z => by
      have z1 := z.1
      cases z1)
    obtain ⟨u, H1, hiS, D1, rv, hRo, nxt⟩ := y
    obtain ⟨xs, hD, hD1, I2, pv2⟩ := taken I pv D1
    dsimp only
    have sz1 : gI < s1.gens.size := by
      have h1 := (Array.getElem?_eq_some_iff.mp hgs).1
      have h2 := D1.gsz
      rw [setGen_size] at h2
      exact Nat.lt_of_lt_of_le h1 h2
    -- what must stand still
    have I3 : InvG X (pins ++ restOf s1.heap H1 NI) σ (upd H1 D (.lst xs)) (s1.setGen gI gs1) := by
      refine Inv.pins_of (I2.gens (s1.setGen gI gs1).gens) fun p hm => ?_
      rcases List.mem_append.mp hm with hm | hm
      · exact I2.pin p (List.mem_append_right _ hm)
      · obtain ⟨h1, h2, h3, h4⟩ := mem_rest hm
        refine ⟨h1, by rw [upd_ne (Nat.ne_of_gt (Nat.lt_of_lt_of_le hDN h2))]; exact h3, Nat.ne_of_gt (Nat.lt_of_lt_of_le hL h2), fun hf => ?_, h4⟩
        have h5 : p.1 < X.s_0.heap.objs.size := by
          obtain ⟨_, o2, e2, _⟩ := I2.ok.funs.mem hf
          exact Heap.lt_size e2
        exact Nat.lt_irrefl _ (Nat.lt_of_lt_of_le (Nat.lt_trans (Nat.lt_of_lt_of_le h5 I2.ok.above) hL) h2)
    have I4 : Inv X (pins ++ restOf s1.heap H1 NI) σ (upd H1 D (.lst xs)) (hid (s1.setGen gI gs1)) := InvG.back (s := hid (s1.setGen gI gs1)) (I3.gens _) (hid_bare _)
    have a1 := hg.run _ _ σ (upd H1 D (.lst xs)) u v (fun σ' H' => σ' = σ.set j (some u) ∧ H' = upd H1 D (.lst xs)) I4 rv ⟨rfl, rfl⟩
    rw [hxe] at a1
    refine w_mono (hid_run a1) (fun _ s2 q => ?_) fun _ _ z => z
    obtain ⟨t2, S2, z2, σ2, H2, I5, rfl, rfl⟩ := q
    have I6 : Inv X (pins ++ restOf s1.heap H1 NI) (σ.set j (some u)) (upd H1 D (.lst xs)) (hid s2) := by
      refine InvG.back (s := hid s2) ?_ (hid_bare _)
      have : InvG X (pins ++ restOf s1.heap H1 NI) (σ.set j (some u)) (upd H1 D (.lst xs)) s2 := by
        rw [S2.eq]
        exact InvG.gens (.of I5) _
      exact this.gens _
    have hRo' : R (hide D (upd H1 D (.lst xs))) u o := by
      have : hide D (upd H1 D (.lst xs)) = H1 := by
        funext b
        unfold hide upd
        by_cases hb : b = D
        · rw [if_pos hb, hb, hD1]
        · rw [if_neg hb, if_neg hb]
      rw [this]; exact hRo
    have a2 := hb.run _ _ (σ.set j (some u)) (upd H1 D (.lst xs)) _ I6 (step o r σ _ u pv2 hRo')
    rw [hxe] at a2
    refine w_mono (hid_run a2) (fun f s3 q => ?_) fun _ _ z => z
    obtain ⟨t3, S3, z3, q⟩ := q
    cases f with
    | brk => obtain ⟨_, _, _, q⟩ := q; exact q.elim
    | cont => obtain ⟨_, _, _, q⟩ := q; exact q.elim
    | ret v => obtain ⟨_, _, _, _, _, q⟩ := q; exact q.elim
    | next =>
      obtain ⟨σ3, H3, I7, pv3, ex3⟩ := q
      have I8 : InvG X (pins ++ restOf s1.heap H1 NI) σ3 H3 s3 := by
        rw [S3.eq]
        exact InvG.gens (.of I7) _
      have I9 : InvG X pins σ3 H3 s3 := Inv.pins_of I8 fun p hm => I8.pin p (List.mem_append_right _ (List.mem_append_left _ hm))
      obtain ⟨xs3, hD3⟩ := hPv _ _ _ pv3
      have hoff : ∀ b, H3 b = none → hide D H3 b = none := fun b e => by
        unfold hide
        split
        · rfl
        · exact e
      have zz2 : (s1.setGen gI gs1).gens.size ≤ s2.gens.size := z2
      have zz3 : s2.gens.size ≤ s3.gens.size := z3
      rw [setGen_size] at zz2
      -- the suspended ones stand
      have keepS : ∀ (i : Nat) (x : GenState), isS x = true → (s1.setGen gI gs1).gens[i]? = some x → s3.gens[i]? = some x := fun i x hx e => S3.kept (S2.kept e hx) hx
      have bareS : ∀ (i : Nat) (y : GenState), s3.gens[i]? = some y → y.bare = true ∨ (s1.setGen gI gs1).gens[i]? = some y := fun i y e => by
        rcases S3.bare I7.bare e with h | h
        · exact .inl h
        · exact S2.bare I5.bare h
      have stands : ∀ b o, NI ≤ b → (∀ v, o.data ≠ .cell v) → s1.heap.get? b = some o → H1 b = none → s3.heap.get? b = some o ∧ H3 b = none := fun b o hb hc e n => by
        obtain ⟨k1, k2, _⟩ := I8.pin (b, o) (List.mem_append_right _ (List.mem_append_right _ (rest_mem e hb n hc)))
        exact ⟨k1, k2⟩
      have ob1 : GenOb s1.heap aI gI 0 := ob.at fun o e => D1.self.1.trans e
      have ncl : ∀ o, s1.heap.get? aI = some o → ∀ v, o.data ≠ .cell v := fun o e v z => by
        obtain ⟨o2, _, _, e2, _, d2, _⟩ := ob1
        rw [e] at e2; cases e2; rw [d2] at z; cases z
      have ob3 : GenOb s3.heap aI gI 0 := ob1.at fun o e => (stands aI o (Nat.le_of_lt haI) (ncl o e) e D1.self.2).1
      have hH3a : H3 aI = none := let ⟨o, _, _, e, _⟩ := ob1; (stands aI o (Nat.le_of_lt haI) (ncl o e) e D1.self.2).2
      have g3 : s3.gens[gI]? = some gs1 := keepS gI gs1 hiS (setGen_at sz1)
      have gb3 : ∀ i x, i < gI → s3.gens[i]? = some x → x.bare = true := fun i x hi e => by
        rcases bareS i x e with h | h
        · exact h
        · rw [setGen_other (Nat.ne_of_lt hi)] at h
          exact D1.gbare i x (Nat.le_of_lt hi) h
      refine ih σ3 H3 s3 gs1 I9 pv3 gb3 ob3 hH3a g3 (nxt _ _ ?_)
      refine ⟨(show s3.os = s1.os from (show s3.os = X.s_0.os from I9.os).trans (show s1.os = X.s_0.os from I2.os).symm), fun b ob e => ?_, (inv_off I9 hD3).hok, fun b ob hb1 hb2 hcl e n => ?_, fun i x hi hx e => ?_, fun i x hi e => ?_, ?_, fun b ob e => ?_, I9.stack, fun b hm => hoff b (I9.stkFree b hm), ⟨0, ob3⟩, hoff _ hH3a⟩
      · have hb : b ≠ D := fun z => by rw [z, hD1] at e; cases e
        rw [hide_ne hb]
        exact ex3 b ob hb (by rw [upd_ne hb]; exact e)
      · obtain ⟨q1, q2⟩ := stands b ob hb1 hcl e n
        exact ⟨q1, hoff _ q2⟩
      · rw [setGen_other (Nat.ne_of_gt hi)]
        exact keepS i x hx (by rw [setGen_other (Nat.ne_of_gt hi)]; exact e)
      · by_cases h : i = gI
        · rw [h] at e
          rw [setGen_self e]; rfl
        · rw [setGen_other h] at e
          rcases bareS i x e with q | q
          · exact q
          · rw [setGen_other h] at q
            rcases hi with hi | hi | ⟨y, ey, hy⟩
            · exact D1.gbare i x hi q
            · exact absurd (Array.getElem?_eq_some_iff.mp q).1 (Nat.not_lt.mpr hi)
            · rw [q] at ey
              injection ey with ey
              rw [ey]; exact hy
      · rw [setGen_size]
        exact Nat.le_trans zz2 zz3
      · obtain ⟨q1, q2⟩ := I9.bs b ob e
        exact ⟨q1, hoff _ q2⟩
end
end GW
/-! # W: for over a generator's call -/
namespace GW
open PySem PySem.Spec PyProof.Rows L2 Evl Ct GenW
def tForG {β : Type} (R : Rp β) (sp : List V → Hp → List β → Prop) (t : TA) (j : Nat) (tb : TS) : TS := fun Dn σ H => ∃ (outs : List β) (D : Addr) (xs : List V) (Pv : List β → L2.St → Hp → Prop), H D = some (.lst xs) ∧ t σ (hide D H) (fun vs H1 => Ex (hide D H) H1 ∧ sp vs H1 outs) ∧
  (∀ H1, Ex (hide D H) H1 → H1 D = none → Pv outs σ (upd H1 D (.lst xs))) ∧ (∀ outs σ H, Pv outs σ H → ∃ xs, H D = some (.lst xs)) ∧ (∀ outs σ H H', (∀ b o, b ≠ D → H b = some o → H' b = some o) → H' D = H D → Pv outs σ H → Pv outs σ H') ∧
  (∀ o r σ H u, Pv (o :: r) σ H → R (hide D H) u o → tb { nx := fun σ' H' => Pv r σ' H' ∧ ∀ b o, b ≠ D → H b = some o → H' b = some o, ct := fun _ _ => False, bk := fun _ _ => False, rt := fun _ _ => False } (σ.set j (some u)) H) ∧
  ∀ σ' H', Pv [] σ' H' → Dn.nx σ' H'
section
variable {X : Cx} {k j : Nat} {x : Str} {f : Addr} {fd : FuncData} {ps : List Str} {β : Type} {R : Rp β} {sp : List V → Hp → List β → Prop} {p pos pos' : Pos} {e : Expr} {es : List Expr} {t : TA} {tg : Expr} {body : List Stmt} {tb : TS}
theorem ws_forG (F : GnW X.prog X.w X.K X.mg X.base k f fd ps R sp) (hm : X.mg x = some (.ref f)) (hkp : PySem.W.keepIn X.K (.ref f) = true) (hbd : Binds X.K fd ps []) (hr : Room (k + 1) X.A) (hgl : Gl X x) (ha : PA X (e :: es) t)
    (hxe : X.xe = fun _ _ => False) (nc : ∀ y c, X.env.cells.lookup y = some c → False) (hg : PG X tg (gName j)) (hb : PSs X body tb) (hgo : ∀ it v, letOwnedTupleGo tg it v = pure ())
    (hs : ∀ v, foldedSetIterable (.Call (.Name x p) (e :: es) [] pos) X.env v = pure v := by intro _; rfl)
    (hdb : (x == ("__debug__" : Str)) = false := by decide) (he : starEach (e :: es) X.env = (false, eval e X.env) :: starEach es X.env := by rfl) (hpl : (backTo pos (starEach es X.env)).any (·.1) = false := by rfl) :
    WS X (.For tg (.Call (.Name x p) (e :: es) [] pos) body [] pos') (tForG R sp t j tb) := by
  refine ⟨fun pins s σ H Dn I h => ?_⟩
  obtain ⟨outs, D, xs, Pv, hD, ht, h0, hPv, mono, step, fin⟩ := h
  obtain ⟨oD, hoD, hcD⟩ : ∃ oD, s.heap.get? D = some oD ∧ ∀ v, oD.data ≠ .cell v := by
    obtain ⟨_, its, n, _, e⟩ := I.hok D _ hD
    exact ⟨_, e, fun v z => by cases z⟩
  have hDL : D ≠ X.env.locals := fun z => by
    have := I.free
    rw [← z, hD] at this; cases this
  have hDf : D ∉ X.fs := fun z => by
    obtain ⟨_, o, ho, _⟩ := I.ok.funs.mem z
    have := I.base.free D o ho (I.ok.frf D z) fun q => I.ok.exfs D q z
    rw [hD] at this; cases this
  have I0 : Inv X (pins ++ [(D, oD)]) σ (hide D H) s := Inv.pins_of (inv_off I hD) fun q hq => by
    rcases List.mem_append.mp hq with hq | hq
    · exact (inv_off I hD).pin q (List.mem_append_right _ hq)
    · rw [List.mem_singleton.mp hq]
      exact ⟨hoD, if_pos rfl, hDL, hDf, hcD⟩
  rw [exec_For]
  have hr1 : Room 1 X.A := hr.mono (Nat.le_add_left _ _)
  refine w_bind (w_standAt (w_bind (w_mono (w_of (made_call F hm hkp hbd hr1 hgl ha I0 ht hxe hdb he hpl)) (fun v s1 q => ?_) fun _ _ z => z.elim)))
  obtain ⟨NI, aI, gI, cI, H1, rfl, I1, e1, hL, hpN, _, _, M⟩ := q
  rw [hs]
  have igen : ∀ {A' : Around} {Q : Value → Shared → Prop} {E : Value → Shared → Prop}, Q (.ref aI) s1 → wpAny (model X.prog X.w) A' (pyIter (.ref aI)) Q E s1 := fun h => by
    refine wpAny_pyIter_slot M.ob.ty slot_gen_iter (wpAny_call_entry slot_gen_iter M.ob.ty entry_gen_iter ?_ (args_gen_iter _))
    show wpAny _ _ (ret (.ref aI)) _ _ s1
    exact wpAny_pure ⟨_, rfl, "generator", _, M.ob.ty, slot_gen_next.lookup, h⟩
  refine w_bind (w_pure (w_bind (w_standAt (w_bind (w_of (wpAny_holding (igen ?_)))))))
  have hDp := I1.pin (D, oD) (List.mem_append_right _ (List.mem_append_right _ (List.mem_singleton.mpr rfl)))
  have hD1 : H1 D = none := hDp.2.1
  have I2 : Inv X pins σ H1 s1 := Inv.pins_of I1 fun q hq => I1.pin q (List.mem_append_right _ (List.mem_append_left _ hq))
  have I3 : Inv X pins σ (upd H1 D (.lst xs)) s1 := inv_on I hD I2 hD1 fun o e => by
    rw [hoD] at e
    cases e
    exact hDp.1
  have hDN : D < NI := hpN (D, oD) (List.mem_append_right _ (List.mem_append_right _ (List.mem_singleton.mpr rfl)))
  have hh : hide D (upd H1 D (.lst xs)) = H1 := by
    funext b
    unfold hide upd
    by_cases hb : b = D
    · rw [if_pos hb, hb, hD1]
    · rw [if_neg hb, if_neg hb]
  have hfr : X.A.in1.frames = some X.stack := I1.ok.frames
  have go := M.arm X.A.in1 hr.in1 hfr _ _ (Made.slp M I1)
  have nD : aI ≠ D := Nat.ne_of_gt (Nat.lt_trans hDN M.lt)
  have main := cw_gens (X := X) (R := R) (D := D) (pins := pins) hxe nc hg hb (fun v => hgo _ v) hr.hd hr.depth hL (fun q hq => hpN q (by
    rcases List.mem_append.mp hq with hq | hq
    · exact List.mem_append_left _ hq
    · exact List.mem_append_right _ (List.mem_append_left _ hq))) M.lt hDN Pv hPv mono step outs σ (upd H1 D (.lst xs)) s1 (.fresh cI) (.of I3) (h0 H1 e1 hD1) (fun i y _ hy => I1.bare y (Array.mem_of_getElem? hy)) M.ob (by rw [upd_ne nD]; exact M.free) M.st (by rw [hh]; exact go)
  unfold runOwn
  refine w_onRaise (w_run (A := X.A) ?_)
  have em : X.A.mark none = X.A := by first | rfl | (cases X.A; rfl)
  rw [em]
  refine cw_mono main fun r s' q => ?_
  obtain ⟨rfl, σ', H', I', pv⟩ := q
  exact ⟨σ', H', I', fin _ _ pv⟩
end
end GW
/-! # W: shapes_within, all_shapes -/
namespace GW
open PySem PySem.Spec PyProof.Rows L2 Evl Ct GenW
section
variable {P : Program} {w : World} {K : PySem.W.Frag} {mg : Str → Option Value} {base : Heap}
/-- the value itself -/
def Ris (u : V) : Rp Sh := fun _ v _ => v = u
instance {u : V} : Mon (Ris u) := ⟨fun _ h => h⟩
def Rno : Rp Sh := fun _ _ _ => True
instance : Mon Rno := ⟨fun _ _ => trivial⟩
theorem pr_no {F : V → Sh → Prop} {H : Hp} : ∀ {xs : List V} {l : List Sh}, Paired F xs l → Paired (Rno H) xs l
  | _, _, .nil => .nil
  | _, _, .cons _ t => .cons trivial (pr_no t)
theorem off_of {H H' : Hp} {D : Addr} (hn : H D = none) (e : Ex H H') : Ex H (hide D H') := fun b o h => by
  rw [hide_ne (fun z => by rw [z, hn] at h; cases h)]
  exact e b o h
/-- the shapes, unsorted -/
def rawShapes (e : EX) : List Sh := shapesFrom e.mid.toNat (allLoads e) [] (e.ins, e.outs)
theorem raw_len (e : EX) : (rawShapes e).length = (allShapes e).length := by unfold allShapes; rw [len_srt]; rfl
def spSW (K : PySem.W.Frag) : Sp := fun vs H Q _ => ∃ (v1 : V) (e : EX) (m : Int), vs = [v1, .int m] ∧ RX K H v1 e ∧ EOk e ∧ ((allShapes e).length ≤ 1000 ∧ ((allShapes e).length : Int) ≤ m) ∧ ∀ p xs H', H p = none → Ex H H' → H' p = some (.lst xs) → Paired (Rsh H') xs (allShapes e) → Q (.ref p) H'
theorem sc_shapes_within : FnScope ["exchange", "most", "loads", "left", "middles", "found", "one"] ["exchange", "most"] (defScope s_shapes_within) := ⟨rfl, rfl, rfl, by decide +kernel, rfl, by decide +kernel, by decide +kernel⟩
theorem sf_ok {e : EX} (he : EOk e) : SfOk e.mid.toNat (allLoads e) [] (e.ins, e.outs) where
  lo := Nat.le_trans (allLoadsN_len he.ins.2 he.outs.2) (by decide)
  ea := fun l hl => ⟨by have := (allLoadsN_ok hl).len; have := he.ins.2; omega, (allLoadsN_ok hl).inp⟩
  ch := by have := he.mid; simp only [List.length_nil]; omega
theorem okw_shapes_within (T : Txt K mg) : CalW P w K mg base 30 "shapes_within" (spSW K) := by
  refine calw_of T.d_shapes_within (fun _ _ _ _ _ _ us hl => match us, hl with | [_, _], _ => rfl) sc_shapes_within (fun vs H Q E ⟨_, _, _, h, _⟩ => by rw [h]; rfl) (fun cdv f A outer s H vs Q hr h => ?_)
  have hu := hr.units
  have c_all_loads := ok_all_loads (P := P) (w := w) (base := base) T
  obtain ⟨v1, e, m, rfl, r1, he, ⟨hz, hm⟩, q⟩ := h
  obtain ⟨fg, fdg, Fg, hmg⟩ := T.d_shapes_from.ex
  have hmid := he.mid
  have G := gn_shapes (P := P) (w := w) (base := base) T Fg hmg e.mid.toNat (by omega)
  have hb7 := Fg.binds (K := K) (ps := ["loads", "chosen", "left", "room"]) (fun _ _ _ _ _ _ us hl => match us, hl with | [_, _, _, _], _ => rfl)
  refine ⟨_, (wss_cons (ws_of (ps_set (i := 2) sc_shapes_within.nd rfl (Or.inl rfl) (C8.pe_c c_all_loads hr (by decide) (by rfl) (pa_cons (pv 0) pa_nil))))
    (wss_cons (ws_of (ps_set (i := 3) sc_shapes_within.nd rfl (Or.inl rfl) (pe_tup (pa_cons (pe_callTy (k_list K) (by rfl) T.n_list (by decide +kernel) (pa_cons (k_fld K (pv 0) rfl) pa_nil)) (pa_cons (pe_callTy (k_list K) (by rfl) T.n_list (by decide +kernel) (pa_cons (k_fld K (pv 0) rfl) pa_nil)) pa_nil)))))
    (wss_cons (ws_of (ps_set (i := 4) sc_shapes_within.nd rfl (Or.inl rfl) (k_fld K (pv 0) rfl)))
    (wss_cons (ws_of (ps_set (i := 5) sc_shapes_within.nd rfl (Or.inl rfl) (pe_lst pa_nil)))
    (wss_cons (ws_forG (j := 6) G hmg Fg.kp hb7 (hr.mono (by unfold kSf; omega)) (by rfl) (pa_cons (pv 2) (pa_cons (pe_tup pa_nil) (pa_cons (pv 3) (pa_cons (pv 4) pa_nil)))) rfl (fun y c h => by
        have : cellsFrom (s.heap.objs.size + 1) (defScope s_shapes_within).names [] = [] := by rfl
        have h : (cellsFrom (s.heap.objs.size + 1) (defScope s_shapes_within).names []).lookup y = some c := h
        rw [this] at h
        cases h) (pg_name (i := 6) sc_shapes_within.nd rfl (Or.inl rfl))
      (pss_cons (ps_expr (pe_bm PySem.F.plainAttrs_list PySem.F.slot_list_append PySem.F.type_list_append mt_append (pv 5) (pa_cons (pv 6) pa_nil)))
      (pss_one (ps_if (pt_cmpR op_gt (pe_callB (k_len K) (by rfl) T.n_len (by decide +kernel) (pa_cons (pv 5) pa_nil)) (pv 1) (nomark _))
        (pss_one ps_never) pss_nil))) (fun _ _ => rfl))
    (wss_one (ws_of (ps_ret (pe_callB (k_sort K Rsh (Enc.enc (R := Rsh)) hu) (by rfl) T.n_sorted (by decide +kernel) (pa_cons (pv 5) pa_nil)))))))))), ?_⟩
  refine k_setL (R := Rld) (l := allLoads e) (el_call1 (et_var rfl r1) he) fun p2 x2 H2 hn2 e2 hp2 hx2 => ?_
  have r1 := up e2 r1
  refine k_set (R := Rlr) (x := (e.ins, e.outs)) (et_pr (el_listT (et_ins T (et_var rfl r1))).et (el_listT (et_outs T (et_var rfl r1))).et) fun v3 H3 e3 r3 => ?_
  have r1 := up e3 r1
  refine k_set (R := Ri) (et_mid T (et_var rfl r1)) fun v4 H4 e4 r4 => ?_
  cases r4
  refine k_setL (R := Rsh) el_nil fun D xs0 H5 hnD e5 hD hx0 => ?_
  have hnil : xs0 = [] := by cases hx0; rfl
  subst hnil
  have e25 : Ex H4 (hide D H5) := off_of hnD e5
  have rl : Rlst Rld (hide D H5) (.ref p2) (allLoads e) := up ((e3.trans e4).trans e25) ⟨p2, x2, rfl, hp2, hx2⟩
  have r3' : Rlr (hide D H5) v3 (e.ins, e.outs) := up (e4.trans e25) r3
  have hmidn : e.mid = ((e.mid.toNat : Nat) : Int) := by omega
  refine ⟨rawShapes e, D, [], fun outs σ' H' => ∃ done o6 ys, done ++ outs = rawShapes e ∧ σ' = [some v1, some (.int m), some (.ref p2), some v3, some (.int e.mid), some (.ref D), o6] ∧ Ex H4 (hide D H') ∧ H' D = some (.lst ys) ∧ Paired (Rsh (hide D H')) ys done, hD, ?_, ?_, ?_, ?_, ?_, ?_⟩
  · refine ⟨.ref p2, rfl, eu_nil (R := Rld) (hide D H5) (Ex.refl _) _ fun p xs H6 hn6 e6 hp6 hx6 => ⟨v3, rfl, .int e.mid, rfl, ?_⟩⟩
    exact ⟨e6, .ref p2, .ref p, v3, allLoads e, [], (e.ins, e.outs), by rw [← hmidn], up e6 rl, ⟨p, xs, rfl, hp6, hx6⟩, up e6 r3', sf_ok he, rfl⟩
  · intro H6 e6 hn6
    refine ⟨[], _, [], rfl, rfl, ?_, upd_same, .nil⟩
    refine e25.trans (e6.trans fun b o h => ?_)
    rw [hide_ne (fun z => by rw [z, hn6] at h; cases h), upd_ne (fun z => by rw [z, hn6] at h; cases h)]
    exact h
  · rintro outs σ' H' ⟨_, _, ys, _, _, _, h, _⟩
    exact ⟨ys, h⟩
  · rintro outs σ' H' H'' hx hd ⟨done, o6, ys, h1, h2, h3, h4, h5⟩
    exact ⟨done, o6, ys, h1, h2, h3.trans (hide_ex hx), hd.trans h4, pup (hide_ex hx) h5⟩
  · rintro o r σ' H' u ⟨done, o6, ys, h1, rfl, h3, h4, h5⟩ ru
    have hlen : done.length + 1 ≤ (allShapes e).length := by
      rw [← raw_len, ← h1]
      simp only [List.length_append, List.length_cons]; omega
    have hyl := pr_len h5
    refine k_app (x := o) (R := Ris u) (D0 := D) rfl h4 (by omega) (et_var rfl rfl) fun v H6 e6 hv => ?_
    cases hv
    have hD6 := e6 _ _ h4
    have hx6 : Ex (hide D H') (hide D (upd H6 D (.lst (ys ++ [u])))) := fun b oo h => by
      have hb : b ≠ D := fun z => by rw [z] at h; unfold hide at h; rw [if_pos rfl] at h; cases h
      rw [hide_ne hb] at h
      rw [hide_ne hb, upd_ne hb]
      exact e6 _ _ h
    have hp6 : Paired (Rsh (hide D (upd H6 D (.lst (ys ++ [u]))))) (ys ++ [u]) (done ++ [o]) := pr_snoc (pup hx6 h5) (up hx6 ru)
    refine j_no (et_is (eT (et_cmp (et_lenL (R := Rno) (l := done ++ [o]) (et_var rfl ⟨D, ys ++ [u], rfl, upd_same, pr_no hp6⟩)) (et_var (x := m) rfl rfl))) ?_) fun H7 e7 => ?_
    · simp only [List.length_append, List.length_singleton, decide_eq_false_iff_not]
      omega
    · have hx7 : Ex (hide D (upd H6 D (.lst (ys ++ [u])))) (hide D H7) := hide_ex fun b oo _ h => e7 _ _ h
      refine ⟨⟨done ++ [o], some u, ys ++ [u], by rw [List.append_assoc]; exact h1, rfl, (h3.trans hx6).trans hx7, e7 _ _ upd_same, pup hx7 hp6⟩, fun b oo hb h => e7 _ _ (by rw [upd_ne hb]; exact e6 _ _ h)⟩
  · rintro σ' H' ⟨done, o6, ys, h1, rfl, h3, h4, h5⟩
    rw [List.append_nil] at h1
    subst h1
    have e04 : Ex H H4 := (e2.trans e3).trans e4
    have e0 : Ex H H' := e04.trans (h3.trans hide_sub)
    exact j_retL (el_sortL (R := Rsh) (l := rawShapes e) (et_var rfl ⟨D, ys, rfl, h4, pup hide_sub h5⟩)) fun p xs H8 hp8 e8 h8 hx8 => q p xs H8 (fresh_back e0 hp8) (e0.trans e8) h8 hx8
theorem sc_all_shapes : FnScope ["exchange"] ["exchange"] (defScope s_all_shapes) := ⟨rfl, rfl, rfl, by decide +kernel, rfl, by decide +kernel, by decide +kernel⟩
theorem okw_all_shapes (T : Txt K mg) : CalW P w K mg base 31 "all_shapes" (Sp1L (RX K) Rsh AOk allShapes) := by
  refine calw_of T.d_all_shapes (fun _ _ _ _ _ _ us hl => match us, hl with | [_], _ => rfl) sc_all_shapes (l1L' rfl) (fun cdv f A outer s H vs Q hr h => ?_)
  obtain ⟨v1, e, rfl, r1, ha, q⟩ := h
  refine ⟨_, (wss_one (ws_ret (we_c (okw_shapes_within T) hr (by decide) (by rfl) (pa_cons (pv 0) (pa_cons (pe_glob (v := .int 1000) (by rfl) T.i_MOST_SHAPES.choose_spec ⟨_, rfl⟩) pa_nil))))), ?_⟩
  refine (et_var rfl r1) H (Ex.refl _) _ fun v H1 e1 r => ?_
  exact ⟨v, e, 1000, rfl, r, ha.ok, ⟨ha.few, by have := ha.few; omega⟩, fun p xs H' hp hx hl hpp => q p xs H' (fresh_back e1 hp) (e1.trans hx) hl hpp⟩
end
end GW
/-! # W: the law's call -/
namespace GW
open PySem PySem.Spec PyProof.Rows L2 Evl Ct
theorem law_callW {P : Program} {w : World} {K : PySem.W.Frag} {mg mb : Str → Option Value} {k : Nat} {fa a : Addr} {x : Str} {sp : Sp} {s₁ : Shared} {vs : List Value} {ns : List Int}
    (KX : K.In s₁.heap) (hns : s₁.heap.Ns mainGlobals mg) (hb : s₁.heap.Ns builtinsNs mb) (hbb : ∀ x : Str, x ≠ "__name__" → mb x = bootBuiltins x) (hlim : s₁.heap.NoLimit) (hg : s₁.gens = #[])
    (ha : s₁.heap.get? a = some { cls := .type "list", data := .seq vs.toArray }) (hi : IntsAre vs ns) (hl : ns.length ≤ sizeLine) (hr : Room k callerA) (hmg : mg x = some (.ref fa))
    (F : ∀ base : Heap, CalW P w K mg base k x sp) (hsp : ∀ H : Hp, SqL K H a (ns.map V.int) → sp [.ref a] H (fun v _ => v = .bl true) C8.E0) :
    codeW P w callerA (.call (.ref fa) ⟨[.ref a], []⟩) (fun r s' => r = .ok (.ret (.bool true)) ∧ OldK s₁.heap s'.heap ∧ s'.os = s₁.os ∧ AllBare s'.gens) s₁ := by
  have rv := vals_ints hi
  have lenV := hi.length
  have core : ∀ H : Hp, Only H → SqL K H a (ns.map V.int) → HOk P w H s₁.heap → (∀ b, H b ≠ none → b = a) → (H a ≠ none → K.lookup a = none) →
      codeW P w callerA (.call (.ref fa) ⟨[.ref a], []⟩) (fun r s' => r = .ok (.ret (.bool true)) ∧ OldK s₁.heap s'.heap ∧ s'.os = s₁.os ∧ AllBare s'.gens) s₁ := by
    intro H hO hS hok hA hK
    have base_of : ∀ {b : Addr} {o : Obj}, s₁.heap.get? b = some o → H b = none → (hidT s₁.heap H).get? b = some o := fun e n => hidT_get e n
    have noA : ∀ {b : Addr} {o : Obj} {es : Array DictEntry} {ep : Nat}, s₁.heap.get? b = some o → o.data = .dict es ep → H b = none := fun {b o es ep} e d => by
      cases q : H b with
      | none => rfl
      | some u =>
        have e' : b = a := hA b (by rw [q]; simp)
        subst e'
        rw [ha] at e; cases e
        have d' : Data.seq vs.toArray _ = Data.dict es ep := d
        cases d'
    have nsK : ∀ {b : Addr} {m : Str → Option Value}, s₁.heap.Ns b m → (hidT s₁.heap H).Ns b m := fun {b m} ⟨o, es, ep, e, d, r⟩ => ⟨o, es, ep, base_of e (noA e d), d, r⟩
    have hKb : K.In (hidT s₁.heap H) := fun b o e => base_of (KX b o e) (by
      cases q : H b with
      | none => rfl
      | some u =>
        have e' : b = a := hA b (by rw [q]; simp)
        subst e'
        rw [hK (by rw [q]; simp)] at e; cases e)
    have hM : L2.Mod K mg (hidT s₁.heap H) := ⟨hKb, nsK hns, ⟨mb, nsK hb, hbb⟩, let ⟨mc, h1, h2⟩ := hlim; ⟨mc, nsK h1, h2⟩⟩
    have e0 : Env0 P w K mg (hidT s₁.heap H) callerA [] s₁ H := ⟨rfl, hM, fun b o e => of_hidT e, Nat.le_of_eq (hidT_size _ _), trivial, fun b hb => absurd (show b ∈ ([] : List Addr) from hb) (by simp), hok, .of_eq hg⟩
    obtain ⟨f, fd, ps, FW, hf, _, hbd⟩ := (F (hidT s₁.heap H)).ex
    rw [hmg] at hf
    injection hf with hf
    injection hf with hf
    subst hf
    have hs := hsp H hS
    have hlen : ([Value.ref a] : List Value).length = ps.length := (FW.len _ _ _ _ hs : ([V.ref a] : List V).length = ps.length)
    have hbt := hbd s₁ [.ref a] KX (by simpa using hlen)
    refine cw_mono (FW.run callerA [] s₁ H ⟨[.ref a], []⟩ [.ref a] [.ref a] _ hr e0 (by simpa using hbt) (.cons rfl .nil) hs) fun r s' h => ?_
    cases r with
    | error e => exact h.elim
    | ok fl =>
      cases fl with
      | next => exact False.elim h
      | brk => exact False.elim h
      | cont => exact False.elim h
      | ret u =>
        obtain ⟨v, H', os, bare, un, hok', r', q⟩ := h
        have q' : v = .bl true := q
        subst q'
        obtain rfl : u = Value.bool true := r'
        refine ⟨rfl, OldK.of_keep fun b o e => ?_, os, bare⟩
        cases q : H b with
        | none => exact un.keep b o e q (by intro z; exact absurd (show b ∈ ([] : List Addr) from z) (by simp)) (by simp)
        | some u =>
          rcases hO b with z | ⟨ob, xs, z⟩
          · rw [q] at z; cases z
          · have z2 := un.frzs b ob _ z
            obtain ⟨e1, _⟩ := hok b _ z
            obtain ⟨e2, _⟩ := hok' b _ z2
            rw [e] at e1; cases e1
            exact e2
  cases hk : K.lookup a with
  | some o =>
    have e := KX a o hk
    rw [ha] at e
    cases e
    refine core (fun _ => none) (fun _ => .inl rfl) (.inr ⟨_, vs.toArray, _, hk, rfl, rfl, rfl, by rw [List.size_toArray, lenV]; exact hl, by simpa using rv⟩) (fun b u z => by have z' : (none : Option HO) = some u := z; cases z') (fun b z => absurd rfl z) fun z => absurd rfl z
  | none =>
    refine core (fun b => if b = a then some (.frz { cls := .type "list", data := .seq vs.toArray } (.lst (ns.map V.int))) else none) (fun b => ?_) (.inl (.inr ⟨{ cls := .type "list", data := .seq vs.toArray }, if_pos rfl⟩)) (fun b u z => ?_) (fun b z => ?_) fun _ => hk
    · by_cases hb : b = a
      · exact .inr ⟨_, _, if_pos hb⟩
      · exact .inl (if_neg hb)
    · by_cases hb : b = a
      · have z' := (if_pos hb).symm.trans z
        cases z'
        subst hb
        exact ⟨ha, by rw [List.length_map]; exact hl, vs, _, rv, ha⟩
      · have z' := (if_neg hb).symm.trans z
        cases z'
    · by_cases hb : b = a
      · exact hb
      · exact absurd (if_neg hb) z
end GW
set_option maxHeartbeats 2000000
/-! # Plain: the orders -/
namespace Ct
open PySem PySem.Spec PyProof.Rows L2 Evl
theorem not_lt_Ld (x y : Ld) : (!PySem.W.dataLt (Enc.enc (R := Rld) y) (Enc.enc (R := Rld) x)) = leLd x y := row_le (R := Rp2) leP alike_pr not_lt_P x y
theorem not_lt_Sh (x y : Sh) : (!PySem.W.dataLt (Enc.enc (R := Rsh) y) (Enc.enc (R := Rsh) x)) = leSh x y := row_le (R := Rld) leLd alike_ld not_lt_Ld x y
theorem dataLe_Ld : PySem.W.dataLe false (Enc.enc (R := Rld)) = leLd := funext fun x => funext fun y => by
  rw [PySem.W.dataLe_eq]
  exact not_lt_Ld x y
theorem dataLe_Sh : PySem.W.dataLe false (Enc.enc (R := Rsh)) = leSh := funext fun x => funext fun y => by
  rw [PySem.W.dataLe_eq]
  exact not_lt_Sh x y
/-- a linear order -/
structure Lin {α : Type} (le : α → α → Bool) : Prop where
  total : ∀ x y, (le x y || le y x) = true
  trans : ∀ x y z, le x y = true → le y z = true → le x z = true
  anti : ∀ x y, le x y = true → le y x = true → x = y
theorem Lin.refl {α : Type} {le : α → α → Bool} (h : Lin le) (x : α) : le x x = true := by simpa using h.total x x
theorem lin_P : Lin leP := ⟨fun x y => by unfold leP; simp; omega, fun x y z => by unfold leP; simp; omega, fun x y h1 h2 => by
  unfold leP at h1 h2
  have h1 := of_decide_eq_true h1
  have h2 := of_decide_eq_true h2
  exact Prod.ext (by omega) (by omega)⟩
theorem lin_lex {α : Type} [DecidableEq α] {le : α → α → Bool} (h : Lin le) : Lin (lexLe le) := by
  refine ⟨?_, ?_, ?_⟩
  · intro x
    induction x with
    | nil => intro y; rw [lexLe]; rfl
    | cons a x ih =>
      intro y
      cases y with
      | nil => rw [lexLe, lexLe]; rfl
      | cons b y =>
        rw [lexLe, lexLe]
        by_cases e : a = b
        · rw [if_pos e, if_pos e.symm]; exact ih y
        · rw [if_neg e, if_neg (fun z => e z.symm)]; exact h.total a b
  · intro x
    induction x with
    | nil => intro y z _ _; rw [lexLe]
    | cons a x ih =>
      intro y z h1 h2
      cases y with
      | nil => rw [lexLe] at h1; cases h1
      | cons b y =>
        cases z with
        | nil => rw [lexLe] at h2; cases h2
        | cons c z =>
          rw [lexLe] at h1 h2 ⊢
          by_cases e1 : a = b
          · subst e1
            rw [if_pos rfl] at h1
            by_cases e2 : a = c
            · rw [if_pos e2] at h2 ⊢; exact ih _ _ h1 h2
            · rw [if_neg e2] at h2 ⊢; exact h2
          · rw [if_neg e1] at h1
            by_cases e2 : b = c
            · subst e2
              rw [if_neg e1]; exact h1
            · rw [if_neg e2] at h2
              have h3 := h.trans _ _ _ h1 h2
              have e3 : a ≠ c := fun z => by subst z; exact e1 (h.anti _ _ h1 h2)
              rw [if_neg e3]; exact h3
  · intro x
    induction x with
    | nil => intro y _ h2; cases y with | nil => rfl | cons b y => rw [lexLe] at h2; cases h2
    | cons a x ih =>
      intro y h1 h2
      cases y with
      | nil => rw [lexLe] at h1; cases h1
      | cons b y =>
        rw [lexLe] at h1 h2
        by_cases e : a = b
        · rw [if_pos e] at h1
          rw [if_pos e.symm] at h2
          rw [e, ih y h1 h2]
        · rw [if_neg e] at h1
          rw [if_neg (fun z => e z.symm)] at h2
          exact absurd (h.anti _ _ h1 h2) e
theorem lin_Ld : Lin leLd := lin_lex lin_P
theorem lin_Sh : Lin leSh := lin_lex lin_Ld
section
variable {α : Type} {le : α → α → Bool}
theorem Lin.sorted (h : Lin le) (l : List α) : (l.mergeSort le).Pairwise (fun x y => le x y = true) := List.pairwise_mergeSort h.trans h.total l
theorem Lin.perm_eq (h : Lin le) {l m : List α} (p : l.Perm m) : l.mergeSort le = m.mergeSort le :=
  List.Perm.eq_of_pairwise (le := fun x y => le x y = true) (fun x y _ _ h1 h2 => h.anti x y h1 h2) (h.sorted l) (h.sorted m) (((List.mergeSort_perm l le).trans p).trans (List.mergeSort_perm m le).symm)
theorem Lin.sort_id (h : Lin le) {l : List α} (s : l.Pairwise (fun x y => le x y = true)) : l.mergeSort le = l :=
  List.Perm.eq_of_pairwise (le := fun x y => le x y = true) (fun x y _ _ h1 h2 => h.anti x y h1 h2) (h.sorted l) s (List.mergeSort_perm l le)
end
theorem srt_P (l : List P) : srt Rp2 l = l.mergeSort leP := by unfold srt; rw [dataLe_P]
theorem srt_Ld (l : List Ld) : srt Rld l = l.mergeSort leLd := by unfold srt; rw [dataLe_Ld]
theorem srt_Sh (l : List Sh) : srt Rsh l = l.mergeSort leSh := by unfold srt; rw [dataLe_Sh]
end Ct
/-! # Plain: next shapes and ends on sorted standings -/
namespace Ct
open PySem PySem.Spec PyProof.Rows L2 Evl
def Sorted (s : Sh) : Prop := s.Pairwise (fun x y => leLd x y = true)
theorem asShape_sorted (s : Sh) : Sorted (asShape s) := by unfold asShape; rw [srt_Ld]; exact lin_Ld.sorted s
theorem asShape_id {s : Sh} (h : Sorted s) : asShape s = s := by unfold asShape; rw [srt_Ld]; exact lin_Ld.sort_id h
theorem asShape_perm {s u : Sh} (h : s.Perm u) : asShape s = asShape u := by unfold asShape; rw [srt_Ld, srt_Ld]; exact lin_Ld.perm_eq h
theorem asShape_mem (s : Sh) : (asShape s).Perm s := by unfold asShape; rw [srt_Ld]; exact List.mergeSort_perm _ _
/-- at a place the load is a new one just if it is not among those before -/
theorem newAt_newIn {s : Sh} (h : Sorted s) {k : Nat} (hk : k < s.length) : newAt s k s[k] = newIn s k s[k] := by
  unfold newAt newIn
  cases k with
  | zero => simp
  | succ k =>
    have hk' : k < s.length := by omega
    have e1 : decide (k + 1 = 0) = false := by simp
    rw [e1, Bool.false_or]
    congr 1
    refine decide_eq_decide.mpr ⟨fun e => ?_, fun hm => ?_⟩
    · have e : s[k + 1] = s[k] := by
        rw [show k + 1 - 1 = k from rfl, List.getElem?_eq_getElem hk'] at e
        injection e
      rw [e]
      exact List.mem_take_iff_getElem.mpr ⟨k, by omega, rfl⟩
    · obtain ⟨j, hj, ej⟩ := List.mem_take_iff_getElem.mp hm
      have hjk : j ≤ k := by omega
      have a1 : leLd s[j] s[k] = true := by
        rcases Nat.lt_or_ge j k with hlt | hge
        · exact List.pairwise_iff_getElem.mp h j k (by omega) hk' hlt
        · have : j = k := by omega
          subst this
          exact lin_Ld.refl _
      have a2 : leLd s[k] s[k + 1] = true := List.pairwise_iff_getElem.mp h k (k + 1) hk' hk (by omega)
      rw [ej] at a1
      have := lin_Ld.anti _ _ a2 a1
      rw [show k + 1 - 1 = k from rfl, List.getElem?_eq_getElem hk', this]
theorem er_perm {α : Type} [DecidableEq α] {l m : List α} {x : α} (p : l.Perm (x :: m)) : (er l x).Perm m := by
  unfold er
  have := p.erase x
  rwa [List.erase_cons_head] at this
/-- a load in another's place, sorted -/
theorem replaced_perm {s : Sh} {k : Nat} (hk : k < s.length) (m : Ld) : (replaced s (k : Int) m).Perm (er s s[k] ++ [m]) := by
  have e1 : replaced s (k : Int) m = s.take k ++ m :: s.drop (k + 1) := by
    unfold replaced
    have : ((k : Int) + 1).toNat = k + 1 := by omega
    rw [this, Int.toNat_natCast, List.append_assoc]; rfl
  have e2 : s = s.take k ++ s[k] :: s.drop (k + 1) := by
    rw [← List.drop_eq_getElem_cons hk, List.take_append_drop]
  have p1 : s.Perm (s[k] :: (s.take k ++ s.drop (k + 1))) := by
    have := List.perm_middle (a := s[k]) (l₁ := s.take k) (l₂ := s.drop (k + 1))
    rw [← e2] at this
    exact this
  have p2 : (er s s[k]).Perm (s.take k ++ s.drop (k + 1)) := er_perm p1
  rw [e1]
  exact (List.perm_middle.trans (List.Perm.cons m p2.symm)).trans (List.perm_append_singleton m _).symm
theorem swap_eq {s : Sh} {k : Nat} (hk : k < s.length) (m : Ld) : asShape (replaced s (k : Int) m) = swap s s[k] m := by
  unfold swap
  rw [asShape_perm (replaced_perm hk m)]
  rfl
theorem zip_at {s : Sh} {x : Ld × Nat} (h : x ∈ s.zipIdx) : ∃ hk : x.2 < s.length, x.1 = s[x.2] := by
  obtain ⟨h1, h2, h3⟩ := List.mem_zipIdx h
  exact ⟨by simpa using h2, by simpa using h3⟩
theorem nextShapes_law {s : Sh} (h : Sorted s) (p : P) : nextShapes s p = lnx s p := by
  unfold nextShapes lnx
  have e1 : (s.zipIdx.filter fun x => newAt s x.2 x.1 && fits x.1 p) = (s.zipIdx.filter fun x => newIn s x.2 x.1 && fits x.1 p) := List.filter_congr fun x hx => by
    obtain ⟨hk, e⟩ := zip_at hx
    rw [e, newAt_newIn h hk]
  rw [e1]
  refine List.map_congr_left fun x hx => ?_
  obtain ⟨hk, e⟩ := zip_at (List.mem_filter.mp hx).1
  rw [e, swap_eq hk]
  rfl
theorem endsOf_law {s : Sh} (h : Sorted s) : endsOf s = lawEnds s := by
  unfold endsOf endsRaw lawEnds
  have e1 : (s.zipIdx.filter fun x => newAt s x.2 x.1) = (s.zipIdx.filter fun x => newIn s x.2 x.1) := List.filter_congr fun x hx => by
    obtain ⟨hk, e⟩ := zip_at hx
    rw [e, newAt_newIn h hk]
  rw [e1]
  congr 2
  refine List.map_congr_left fun x hx => ?_
  obtain ⟨hk, e⟩ := zip_at (List.mem_filter.mp hx).1
  refine List.map_congr_left fun p hp => ?_
  rw [e, swap_eq hk]
  rfl
end Ct
/-! # Plain: what is left, what fell -/
namespace Ct
open PySem PySem.Spec PyProof.Rows L2 Evl
theorem fallsOf_law {e : EX} {ranks : List Sh} {s : Sh} (h : Sorted s) : fallsOf e ranks s = lawFalls e ranks s := by
  unfold fallsOf falls lawFalls
  rw [Bool.or_comm, endsOf_law h]
  congr 1
  · rw [Bool.eq_iff_iff]
    simp only [List.any_eq_true, decide_eq_true_eq]
    constructor
    · rintro ⟨x, hx, hr⟩ z
      have : x.2.2 ∈ ((lawEnds s).map (·.2.2)).filter (fun a => decide (a ∈ ranks)) := List.mem_filter.mpr ⟨List.mem_map_of_mem hx, decide_eq_true hr⟩
      rw [z] at this
      cases this
    · intro hne
      obtain ⟨a, ha⟩ := List.exists_mem_of_ne_nil _ hne
      obtain ⟨h1, h2⟩ := List.mem_filter.mp ha
      obtain ⟨x, hx, rfl⟩ := List.mem_map.mp h1
      exact ⟨x, hx, of_decide_eq_true h2⟩
  · unfold callsFrom
    rw [List.any_map]
    refine congrArg (fun g => (openPairs e s).any g) (funext fun p => ?_)
    show ((nextShapes s p).all fun n => decide (n.2 ∈ ranks)) = _
    rw [nextShapes_law h, lawNexts_lnx, Bool.eq_iff_iff]
    simp only [List.all_eq_true, decide_eq_true_eq]
    constructor
    · intro hall
      rw [List.filter_eq_nil_iff]
      rintro a ha
      obtain ⟨n, hn, rfl⟩ := List.mem_map.mp ha
      simp [hall n hn]
    · intro hnil n hn
      rw [List.filter_eq_nil_iff] at hnil
      have := hnil n.2 (List.mem_map_of_mem hn)
      simpa using this
theorem rounds_law {e : EX} {S : List Sh} (hs : ∀ s ∈ S, Sorted s) : ∀ (n : Nat) (ranks : List Sh), rounds e n (S.filter fun s => !decide (s ∈ ranks)) ranks = lawRounds e S n ranks
  | 0, _ => rfl
  | n + 1, ranks => by
    have e1 : (S.filter fun s => !decide (s ∈ ranks)).filter (fallsOf e ranks) = S.filter (fun s => lawFalls e ranks s && !decide (s ∈ ranks)) := by
      rw [List.filter_filter]
      refine List.filter_congr fun s hm => ?_
      rw [fallsOf_law (hs s hm)]
    rw [rounds, lawRounds, e1]
    by_cases h : S.filter (fun s => lawFalls e ranks s && !decide (s ∈ ranks)) = []
    · rw [if_pos h, if_pos h]
    · rw [if_neg h, if_neg h, ← rounds_law hs n]
      congr 1
      rw [List.filter_filter]
      refine List.filter_congr fun s hm => ?_
      rw [Bool.eq_iff_iff]
      simp [not_or, and_comm]
theorem fallen_law {e : EX} (hs : ∀ s ∈ allShapes e, Sorted s) : fallen e = lawLost e (allShapes e) := by
  have := rounds_law (e := e) hs ((allShapes e).length + 1) []
  rw [List.filter_eq_self.mpr (by simp)] at this
  exact this
theorem ranks_sub (e : EX) : ∀ (n : Nat) (left ranks : List Sh), ∀ s ∈ ranks, s ∈ rounds e n left ranks
  | 0, _, _, s, h => h
  | n + 1, left, ranks, s, h => by
    rw [rounds]
    split
    · exact h
    · exact ranks_sub e n _ _ s (List.mem_append_left _ h)
theorem rounds_sub (e : EX) : ∀ (n : Nat) (left ranks : List Sh), ∀ s ∈ rounds e n left ranks, s ∈ ranks ∨ s ∈ left
  | 0, _, _, s, h => .inl h
  | n + 1, left, ranks, s, h => by
    rw [rounds] at h
    split at h
    · exact .inl h
    · rcases rounds_sub e n _ _ s h with h | h
      · rcases List.mem_append.mp h with h | h
        · exact .inl h
        · exact .inr (List.mem_filter.mp h).1
      · exact .inr (List.mem_filter.mp h).1
theorem rounds_end (e : EX) : ∀ (n : Nat) (left ranks : List Sh), left.length < n → ∀ s ∈ left, s ∉ rounds e n left ranks → fallsOf e (rounds e n left ranks) s = false
  | 0, _, _, h, _, _, _ => absurd h (Nat.not_lt_zero _)
  | n + 1, left, ranks, h, s, hs, hr => by
    rw [rounds] at hr ⊢
    by_cases hf : left.filter (fallsOf e ranks) = []
    · rw [if_pos hf]
      have := List.filter_eq_nil_iff.mp hf s hs
      simpa using this
    · rw [if_neg hf] at hr ⊢
      have hlt := filt_lt (g := fun s => !decide (s ∈ left.filter (fallsOf e ranks))) hf fun x hx hx2 => by
        have : x ∈ left.filter (fallsOf e ranks) := List.mem_filter.mpr ⟨hx, hx2⟩
        simp [this]
      refine rounds_end e n _ _ (by omega) s (List.mem_filter.mpr ⟨hs, ?_⟩) hr
      have : s ∉ left.filter (fallsOf e ranks) := fun hc => hr (ranks_sub e n _ _ s (List.mem_append_right _ hc))
      simp [this]
theorem fallen_end {e : EX} {s : Sh} (h : s ∈ allShapes e) (hn : s ∉ fallen e) : fallsOf e (fallen e) s = false := rounds_end e _ _ _ (Nat.lt_succ_self _) s h hn
/-- what holds of a shape that is not lost -/
theorem stays {e : EX} {s : Sh} (h : s ∈ allShapes e) (hn : s ∉ fallen e) : (∀ p ∈ openPairs e s, ∃ n ∈ nextShapes s p, n.2 ∉ fallen e) ∧ ∀ x ∈ endsOf s, x.2.2 ∉ fallen e := by
  have := fallen_end h hn
  unfold fallsOf falls at this
  rw [Bool.or_eq_false_iff] at this
  obtain ⟨h1, h2⟩ := this
  refine ⟨fun p hp => ?_, fun x hx hc => ?_⟩
  · rw [List.any_eq_false] at h1
    have h3 := h1 (p, nextShapes s p) (List.mem_map_of_mem hp)
    simp only [List.all_eq_true, decide_eq_true_eq, Classical.not_forall] at h3
    obtain ⟨n, hn1, hn2⟩ := h3
    exact ⟨n, hn1, hn2⟩
  · rw [List.any_eq_false] at h2
    exact h2 x hx (decide_eq_true hc)
end Ct
/-! # Plain: doors -/
namespace Ct
open PySem PySem.Spec PyProof.Rows L2 Evl
theorem calls_perm {s u : Sh} (h : s.Perm u) : calls s = calls u := by unfold calls; rw [srt_P, srt_P]; exact lin_P.perm_eq h.flatten
theorem leftOf_perm {e : EX} {s u : Sh} (h : s.Perm u) : leftOf e s = leftOf e u := by unfold leftOf; rw [calls_perm h]
theorem openPairs_perm {e : EX} {s u : Sh} (h : s.Perm u) : openPairs e s = openPairs e u := by unfold openPairs; rw [leftOf_perm h]
theorem ShOk.perm {e : EX} {s u : Sh} (h : s.Perm u) (hs : ShOk e s) : ShOk e u :=
  ⟨by rw [← h.length_eq]; exact hs.len, fun l hl => hs.ld l (h.mem_iff.mpr hl), by rw [← leftOf_perm h]; exact hs.li, by rw [← leftOf_perm h]; exact hs.lo⟩
/-- one side after calls -/
def decs (l : List Int) (ks : List Int) : List Int := ks.foldl dec1 l
theorem less_decs (x : LR) (ps : List P) : lessLR x ps = (decs x.1 (ps.map (·.1)), decs x.2 (ps.map (·.2))) := by
  obtain ⟨a, b⟩ := x
  unfold lessLR decs
  rw [List.foldl_map, List.foldl_map]
theorem decs_len (l : List Int) (ks : List Int) : (decs l ks).length = l.length := by
  unfold decs
  induction ks generalizing l with
  | nil => rfl
  | cons k ks ih => rw [List.foldl_cons, ih, dec1_len]
theorem dec1_get (l : List Int) (k : Int) (i : Nat) (h : i < l.length) : (dec1 l k).getD i 0 = l.getD i 0 - (if k.toNat = i then 1 else 0) := by
  unfold dec1
  rw [List.getD_eq_getElem?_getD, List.getElem?_set]
  by_cases hk : k.toNat = i
  · subst hk
    rw [if_pos rfl, if_pos h, if_pos rfl]; rfl
  · rw [if_neg hk, if_neg hk, ← List.getD_eq_getElem?_getD]; omega
theorem decs_get (l : List Int) (ks : List Int) (i : Nat) (h : i < l.length) : (decs l ks).getD i 0 = l.getD i 0 - ((ks.countP fun k => decide (k.toNat = i)) : Nat) := by
  unfold decs
  induction ks generalizing l with
  | nil => simp
  | cons k ks ih =>
    rw [List.foldl_cons, ih (dec1 l k) (by rw [dec1_len]; exact h), dec1_get l k i h, List.countP_cons]
    by_cases hk : k.toNat = i
    · simp [hk]; omega
    · simp [hk]
theorem decs_perm (l : List Int) {ks ms : List Int} (p : ks.Perm ms) : decs l ks = decs l ms := by
  apply List.ext_getElem
  · rw [decs_len, decs_len]
  · intro i h1 h2
    rw [decs_len] at h1
    have a := decs_get l ks i h1
    have b := decs_get l ms i h1
    rw [p.countP_eq] at a
    rw [← b] at a
    rw [List.getD_eq_getElem?_getD, List.getD_eq_getElem?_getD, List.getElem?_eq_getElem (by rw [decs_len]; exact h1), List.getElem?_eq_getElem (by rw [decs_len]; exact h1)] at a
    exact a
theorem decs_app (l ks ms : List Int) : decs l (ks ++ ms) = decs (decs l ks) ms := by unfold decs; rw [List.foldl_append]
theorem less_perm (x : LR) {ps qs : List P} (p : ps.Perm qs) : lessLR x ps = lessLR x qs := by
  rw [less_decs, less_decs, decs_perm _ (p.map _), decs_perm _ (p.map _)]
theorem less_app (x : LR) (ps qs : List P) : lessLR x (ps ++ qs) = lessLR (lessLR x ps) qs := by
  rw [less_decs, less_decs, less_decs, List.map_append, List.map_append, decs_app, decs_app]
theorem leftOf_flat (e : EX) (s : Sh) : leftOf e s = lessLR (e.ins, e.outs) s.flatten := by
  unfold leftOf calls
  rw [srt_P]
  exact less_perm _ (List.mergeSort_perm _ _)
def NN (l : List Int) : Prop := ∀ z ∈ l, 0 ≤ z
def NN2 (x : LR) : Prop := NN x.1 ∧ NN x.2
theorem nn_get {l : List Int} : NN l ↔ ∀ i, i < l.length → 0 ≤ l.getD i 0 := by
  constructor
  · intro h i hi
    rw [List.getD_eq_getElem?_getD, List.getElem?_eq_getElem hi]
    exact h _ (List.getElem_mem hi)
  · intro h z hz
    obtain ⟨i, hi, rfl⟩ := List.getElem_of_mem hz
    have := h i hi
    rwa [List.getD_eq_getElem?_getD, List.getElem?_eq_getElem hi] at this
/-- fewer calls leave more -/
theorem nn_less {l ks ms : List Int} (h : NN (decs l (ks ++ ms))) : NN (decs l ks) := by
  rw [nn_get] at h ⊢
  intro i hi
  rw [decs_len] at hi
  have a := h i (by rw [decs_len]; exact hi)
  rw [decs_get _ _ _ hi, List.countP_append] at a
  rw [decs_get _ _ _ hi]
  omega
theorem nn_none {l : List Int} {ks : List Int} (h : NN (decs l ks)) : NN l := by
  have : NN (decs l ([] ++ ks)) := h
  exact nn_less this
/-- taking each of ks once, all different -/
theorem nn_one {l ks : List Int} (hl : NN l) (hnd : ks.Nodup) (hr : ∀ k ∈ ks, 0 ≤ k ∧ k < (l.length : Int)) : NN (decs l ks) ↔ ∀ k ∈ ks, l.getD k.toNat 0 > 0 := by
  have cnt : ∀ i : Nat, (ks.countP fun k => decide (k.toNat = i)) = if (i : Int) ∈ ks then 1 else 0 := by
    intro i
    have e1 : (ks.countP fun k => decide (k.toNat = i)) = ks.count (i : Int) := by
      unfold List.count
      refine List.countP_congr fun k hk => ?_
      have := (hr k hk).1
      simp; omega
    rw [e1]
    by_cases hm : (i : Int) ∈ ks
    · rw [if_pos hm]; exact List.Nodup.count hnd ▸ (by simp [hm])
    · rw [if_neg hm]; exact List.count_eq_zero.mpr hm
  rw [nn_get]
  constructor
  · intro h k hk
    obtain ⟨h1, h2⟩ := hr k hk
    have a := h k.toNat (by rw [decs_len]; omega)
    rw [decs_get _ _ _ (by omega), cnt, if_pos (by rw [Int.toNat_of_nonneg h1]; exact hk)] at a
    omega
  · intro h i hi
    rw [decs_len] at hi
    rw [decs_get _ _ _ hi, cnt]
    have hl := nn_get.mp hl i hi
    by_cases hm : (i : Int) ∈ ks
    · rw [if_pos hm]
      have := h _ hm
      rw [Int.toNat_natCast] at this
      omega
    · rw [if_neg hm]; omega
end Ct
/-! # Plain: closure -/
namespace Ct
open PySem PySem.Spec PyProof.Rows L2 Evl
/-- the others -/
def rest (s : Sh) (k : Nat) : Sh := s.take k ++ s.drop (k + 1)
theorem rep_rest {s : Sh} {k : Nat} (m : Ld) : (replaced s (k : Int) m).Perm (m :: rest s k) := by
  have e1 : replaced s (k : Int) m = s.take k ++ m :: s.drop (k + 1) := by
    unfold replaced
    have : ((k : Int) + 1).toNat = k + 1 := by omega
    rw [this, Int.toNat_natCast, List.append_assoc]; rfl
  rw [e1]
  exact List.perm_middle
theorem self_rest {s : Sh} {k : Nat} (hk : k < s.length) : s.Perm (s[k] :: rest s k) := by
  have e2 : s = s.take k ++ s[k] :: s.drop (k + 1) := by
    rw [← List.drop_eq_getElem_cons hk, List.take_append_drop]
  have := List.perm_middle (a := s[k]) (l₁ := s.take k) (l₂ := s.drop (k + 1))
  rw [← e2] at this
  exact this
theorem rest_mem {s : Sh} {k : Nat} {l : Ld} (h : l ∈ rest s k) : l ∈ s := by
  rcases List.mem_append.mp h with h | h
  · exact List.mem_of_mem_take h
  · exact List.mem_of_mem_drop h
theorem rest_len {s : Sh} {k : Nat} (hk : k < s.length) : (rest s k).length + 1 = s.length := by
  have := (self_rest hk).length_eq
  rw [List.length_cons] at this
  omega
/-! ### loads -/
theorem LdOk.perm_snd {nI nO : Nat} {l : Ld} (h : LdOk nI nO l) : l.Nodup := by
  exact (List.pairwise_map.mp h.nd).imp fun hab e => hab (by rw [e])
theorem put_perm (l : Ld) (p : P) : (put l p).Perm (l ++ [p]) := by unfold put; rw [srt_P]; exact List.mergeSort_perm _ _
theorem put_ok {nI nO : Nat} {l : Ld} {p : P} (h : LdOk nI nO l) (hp : InP nI nO p) (hf : fits l p = true) : LdOk nI nO (put l p) := by
  have hf := fits_iff.mp hf
  have pp := put_perm l p
  refine ⟨fun q hq => ?_, ?_, ?_⟩
  · rcases List.mem_append.mp (pp.mem_iff.mp hq) with hq | hq
    · exact h.inp q hq
    · rw [List.mem_singleton.mp hq]; exact hp
  · have hs : (put l p).Pairwise (fun x y => leP x y = true) := by unfold put; rw [srt_P]; exact lin_P.sorted _
    have hnd : ((put l p).map (·.1)).Nodup := by
      have e1 : ((put l p).map (·.1)).Perm ((l ++ [p]).map (·.1)) := pp.map _
      rw [e1.nodup_iff, List.map_append, List.nodup_append]
      refine ⟨h.inc.imp (fun hab => by omega), by simp, fun a ha b hb hab => ?_⟩
      subst hab
      obtain ⟨q, hq, rfl⟩ := List.mem_map.mp ha
      have : q.1 = p.1 := by simpa using hb
      exact (hf q hq).1 this
    have hnd' := List.pairwise_map.mp hnd
    refine List.pairwise_map.mpr ((hs.and hnd').imp fun {a b} hab => ?_)
    obtain ⟨h1, h2⟩ := hab
    unfold leP at h1
    have h1 := of_decide_eq_true h1
    have h2 : a.1 ≠ b.1 := h2
    omega
  · have e1 : ((put l p).map (·.2)).Perm ((l ++ [p]).map (·.2)) := pp.map _
    rw [e1.nodup_iff, List.map_append, List.nodup_append]
    refine ⟨h.nd, by simp, fun a ha b hb hab => ?_⟩
    subst hab
    obtain ⟨q, hq, rfl⟩ := List.mem_map.mp ha
    have : q.2 = p.2 := by simpa using hb
    exact (hf q hq).2 this
theorem taken_ok {nI nO : Nat} {l : Ld} (p : P) (h : LdOk nI nO l) : LdOk nI nO (taken l p) :=
  ⟨fun q hq => h.inp q (List.mem_filter.mp hq).1, List.Pairwise.sublist (List.filter_sublist.map _) h.inc, List.Nodup.sublist (List.filter_sublist.map _) h.nd⟩
theorem taken_perm {l : Ld} {p : P} (hn : l.Nodup) (h : p ∈ l) : l.Perm (p :: taken l p) := by
  rw [List.perm_ext_iff_of_nodup hn]
  · intro q
    unfold taken
    rw [List.mem_cons, List.mem_filter]
    constructor
    · intro hq
      by_cases e : q = p
      · exact .inl e
      · exact .inr ⟨hq, by simp [e]⟩
    · rintro (rfl | ⟨hq, _⟩)
      · exact h
      · exact hq
  · refine List.nodup_cons.mpr ⟨fun hc => ?_, List.Nodup.sublist List.filter_sublist hn⟩
    have := (List.mem_filter.mp hc).2
    simp at this
/-! ### standings -/
/-- the standing with a call -/
theorem put_shOk {e : EX} {s : Sh} {k : Nat} {p : P} (hs : ShOk e s) (hk : k < s.length) (hp : p ∈ openPairs e s) (hf : fits s[k] p = true) : ShOk e (replaced s (k : Int) (put s[k] p)) := by
  obtain ⟨o1, o2, o3⟩ := open_inP hp
  have pr := rep_rest (s := s) (k := k) (put s[k] p)
  have ps := self_rest hk
  have hfl : (replaced s (k : Int) (put s[k] p)).flatten.Perm (s.flatten ++ [p]) := by
    refine pr.flatten.trans ?_
    rw [List.flatten_cons]
    refine ((put_perm _ _).append_right _).trans ?_
    have h2 := ps.flatten
    rw [List.flatten_cons] at h2
    rw [List.append_assoc]
    refine (List.Perm.append_left _ List.perm_append_comm).trans ?_
    rw [← List.append_assoc]
    exact h2.symm.append_right _
  have hleft : leftOf e (replaced s (k : Int) (put s[k] p)) = lessLR (leftOf e s) [p] := by
    rw [leftOf_flat, less_perm _ hfl, less_app, ← leftOf_flat]
  refine ⟨?_, fun l hl => ?_, ?_, ?_⟩
  · have := pr.length_eq
    rw [List.length_cons, rest_len hk] at this
    rw [this]; exact hs.len
  · rcases List.mem_cons.mp (pr.mem_iff.mp hl) with rfl | hl
    · exact put_ok (hs.ld _ (List.getElem_mem hk)) o1 hf
    · exact hs.ld l (rest_mem hl)
  · rw [hleft, less_decs]
    show NN (decs (leftOf e s).1 [p.1])
    refine (nn_one hs.li (by simp) ?_).mpr ?_
    · intro z hz
      rw [List.mem_singleton.mp hz, left_len1]
      exact o1.1
    · intro z hz
      rw [List.mem_singleton.mp hz]; exact o2
  · rw [hleft, less_decs]
    show NN (decs (leftOf e s).2 [p.2])
    refine (nn_one hs.lo (by simp) ?_).mpr ?_
    · intro z hz
      rw [List.mem_singleton.mp hz, left_len2]
      exact o1.2
    · intro z hz
      rw [List.mem_singleton.mp hz]; exact o3
theorem taken_shOk {e : EX} {s : Sh} {k : Nat} {p : P} (hs : ShOk e s) (hk : k < s.length) (hp : p ∈ s[k]) : ShOk e (replaced s (k : Int) (taken s[k] p)) := by
  have pr := rep_rest (s := s) (k := k) (taken s[k] p)
  have ps := self_rest hk
  have hld := hs.ld _ (List.getElem_mem hk)
  have hfl : s.flatten.Perm ((replaced s (k : Int) (taken s[k] p)).flatten ++ [p]) := by
    refine ps.flatten.trans ?_
    rw [List.flatten_cons]
    refine ((taken_perm hld.perm_snd hp).append_right _).trans ?_
    have h2 := pr.flatten
    rw [List.flatten_cons] at h2
    rw [List.cons_append]
    exact (List.Perm.cons _ h2.symm).trans (List.perm_append_singleton _ _).symm
  have hleft : leftOf e s = lessLR (leftOf e (replaced s (k : Int) (taken s[k] p))) [p] := by
    rw [leftOf_flat e s, less_perm _ hfl, less_app, ← leftOf_flat]
  refine ⟨?_, fun l hl => ?_, ?_, ?_⟩
  · have := pr.length_eq
    rw [List.length_cons, rest_len hk] at this
    rw [this]; exact hs.len
  · rcases List.mem_cons.mp (pr.mem_iff.mp hl) with rfl | hl
    · exact taken_ok p hld
    · exact hs.ld l (rest_mem hl)
  · have := hs.li
    rw [hleft, less_decs] at this
    exact nn_none this
  · have := hs.lo
    rw [hleft, less_decs] at this
    exact nn_none this
theorem asShape_ok {e : EX} {s : Sh} (h : ShOk e s) : ShOk e (asShape s) := h.perm (asShape_mem s).symm
/-- next shapes, ends -/
theorem next_ok {e : EX} {s : Sh} {p : P} {n : NX} (hs : ShOk e s) (hp : p ∈ openPairs e s) (h : n ∈ nextShapes s p) : ShOk e n.2 ∧ Sorted n.2 := by
  unfold nextShapes at h
  obtain ⟨x, hx, rfl⟩ := List.mem_map.mp h
  obtain ⟨hx1, hx2⟩ := List.mem_filter.mp hx
  obtain ⟨hk, e1⟩ := zip_at hx1
  rw [Bool.and_eq_true] at hx2
  refine ⟨asShape_ok ?_, asShape_sorted _⟩
  rw [e1]
  exact put_shOk hs hk hp (by rw [← e1]; exact hx2.2)
theorem ends_ok {e : EX} {s : Sh} {x : EN} (hs : ShOk e s) (h : x ∈ endsOf s) : ShOk e x.2.2 ∧ Sorted x.2.2 := by
  obtain ⟨l, hl, hx⟩ := List.mem_flatten.mp (mem_srt.mp h)
  obtain ⟨y, hy, rfl⟩ := List.mem_map.mp hl
  obtain ⟨p, hp, rfl⟩ := List.mem_map.mp hx
  obtain ⟨hk, e1⟩ := zip_at (List.mem_filter.mp hy).1
  refine ⟨asShape_ok ?_, asShape_sorted _⟩
  rw [e1]
  exact taken_shOk hs hk (by rw [← e1]; exact hp)
end Ct
/-! # Plain: all loads -/
namespace Ct
open PySem PySem.Spec PyProof.Rows L2 Evl
theorem snoc_of {α : Type} (l : List α) : l = [] ∨ ∃ l' b, l = l' ++ [b] := by
  rcases List.eq_nil_or_concat l with h | ⟨l', b, h⟩
  · exact .inl h
  · exact .inr ⟨l', b, by rw [h, List.concat_eq_append]⟩
theorem LdOk.init {nI nO : Nat} {l : Ld} {q : P} (h : LdOk nI nO (l ++ [q])) : LdOk nI nO l ∧ (∀ p ∈ l, p.1 < q.1) ∧ ∀ p ∈ l, p.2 ≠ q.2 := by
  have h2 := h.inc
  have h3 := h.nd
  rw [List.map_append, List.map_singleton] at h2 h3
  rw [List.pairwise_append] at h2
  rw [List.nodup_append] at h3
  refine ⟨⟨fun p hp => h.inp p (List.mem_append_left _ hp), h2.1, h3.1⟩, fun p hp => h2.2.2 _ (List.mem_map_of_mem hp) _ (List.mem_singleton.mpr rfl), fun p hp => h3.2.2 _ (List.mem_map_of_mem hp) _ (List.mem_singleton.mpr rfl)⟩
theorem loadsTo_has (nO : Nat) : ∀ (i : Nat) (l : Ld), LdOk i nO l → l ∈ loadsTo nO i
  | 0, l, h => by
    cases l with
    | nil => simp [loadsTo]
    | cons p l =>
      have := (h.inp p List.mem_cons_self).1
      omega
  | i + 1, l, h => by
    rw [loadsTo]
    by_cases hi : ∃ p ∈ l, p.1 = (i : Int)
    · refine List.mem_append_right _ ?_
      rcases snoc_of l with rfl | ⟨l', q, rfl⟩
      · obtain ⟨p, hp, _⟩ := hi; cases hp
      · obtain ⟨a, b, c⟩ := h.init
        have hq := h.inp q (List.mem_append_right _ (List.mem_singleton.mpr rfl))
        have hq1 : q.1 = (i : Int) := by
          obtain ⟨p, hp, e⟩ := hi
          rcases List.mem_append.mp hp with hp | hp
          · have := b p hp
            have := hq.1.2
            omega
          · rw [List.mem_singleton.mp hp] at e; exact e
        have eq : q = pr i q.2.toNat := by
          unfold pr
          rw [Int.toNat_of_nonneg hq.2.1, ← hq1]
        have a' : LdOk i nO l' := ⟨fun p hp => ⟨⟨(a.inp p hp).1.1, by have := b p hp; omega⟩, (a.inp p hp).2⟩, a.inc, a.nd⟩
        unfold longer
        refine List.mem_flatten.mpr ⟨_, List.mem_map_of_mem (loadsTo_has nO i l' a'), ?_⟩
        refine List.mem_map.mpr ⟨q.2.toNat, List.mem_filter.mpr ⟨List.mem_range.mpr (by have := hq.2; omega), ?_⟩, by rw [← eq]⟩
        rw [← eq]
        unfold fits
        rw [List.all_eq_true]
        intro p hp
        have h1 := b p hp
        have h2 := c p hp
        simp only [Bool.and_eq_true, Bool.not_eq_true', decide_eq_false_iff_not]
        exact ⟨by omega, h2⟩
    · refine List.mem_append_left _ (loadsTo_has nO i l ⟨fun p hp => ⟨⟨(h.inp p hp).1.1, ?_⟩, (h.inp p hp).2⟩, h.inc, h.nd⟩)
      have h1 := (h.inp p hp).1.2
      have h2 : p.1 ≠ (i : Int) := fun z => hi ⟨p, hp, z⟩
      omega
theorem nodup_flat {α : Type} {L : List (List α)} (h1 : ∀ l ∈ L, l.Nodup) (h2 : L.Pairwise fun l m => ∀ x ∈ l, ∀ y ∈ m, x ≠ y) : L.flatten.Nodup := List.pairwise_flatten.mpr ⟨h1, h2⟩
theorem nodup_map {α β : Type} {f : α → β} {l : List α} (h : l.Nodup) (hf : ∀ x ∈ l, ∀ y ∈ l, f x = f y → x = y) : (l.map f).Nodup := by
  unfold List.Nodup
  rw [List.pairwise_map]
  exact List.Pairwise.imp_of_mem (fun {a b} ha hb hab z => hab (hf a ha b hb z)) h
theorem loadsTo_nodup (nO : Nat) : ∀ i : Nat, (loadsTo nO i).Nodup
  | 0 => by simp [loadsTo]
  | i + 1 => by
    rw [loadsTo, List.nodup_append]
    have ih := loadsTo_nodup nO i
    refine ⟨ih, ?_, fun a ha b hb z => ?_⟩
    · unfold longer
      refine nodup_flat (fun l hl => ?_) ?_
      · obtain ⟨m, _, rfl⟩ := List.mem_map.mp hl
        refine nodup_map (List.Nodup.sublist List.filter_sublist List.nodup_range) fun x _ y _ e => ?_
        have := (List.append_inj' e rfl).2
        injection this with this _
        unfold pr at this
        injection this with _ this
        omega
      · rw [List.pairwise_map]
        refine List.Pairwise.imp (fun {l m} hlm x hx y hy z => ?_) ih
        obtain ⟨o1, _, rfl⟩ := List.mem_map.mp hx
        obtain ⟨o2, _, rfl⟩ := List.mem_map.mp hy
        exact hlm (List.append_inj' z rfl).1
    · subst z
      obtain ⟨l, hl, hx⟩ := List.mem_flatten.mp hb
      obtain ⟨m, _, rfl⟩ := List.mem_map.mp hl
      obtain ⟨o, _, rfl⟩ := List.mem_map.mp hx
      have := ((loadsTo_ok nO i _ ha).inp (pr i o) (List.mem_append_right _ (List.mem_singleton.mpr rfl))).1.2
      unfold pr at this
      simp at this
theorem mem_allLoads {nI nO : Nat} {l : Ld} : l ∈ allLoadsN nI nO ↔ LdOk nI nO l := ⟨allLoadsN_ok, fun h => mem_srt.mpr (loadsTo_has nO nI l h)⟩
theorem allLoads_nodup (nI nO : Nat) : (allLoadsN nI nO).Nodup := by
  unfold allLoadsN
  rw [srt_Ld]
  exact (List.mergeSort_perm _ _).nodup_iff.mpr (loadsTo_nodup nO nI)
theorem allLoads_sorted (nI nO : Nat) : Sorted (allLoadsN nI nO) := by
  unfold allLoadsN Sorted
  rw [srt_Ld]
  exact lin_Ld.sorted _
end Ct
/-! # Plain: the search -/
namespace Ct
open PySem PySem.Spec PyProof.Rows L2 Evl
/-- a load that may be taken from such doors -/
structure LdIn (x : LR) (l : Ld) : Prop where
  inp : ∀ p ∈ l, InP x.1.length x.2.length p
  n1 : (l.map (·.1)).Nodup
  n2 : (l.map (·.2)).Nodup
theorem LdIn.of {nI nO : Nat} {x : LR} {l : Ld} (h : LdOk nI nO l) (h1 : x.1.length = nI) (h2 : x.2.length = nO) : LdIn x l := ⟨by rw [h1, h2]; exact h.inp, List.Pairwise.imp (fun h => Int.ne_of_lt h) h.inc, h.nd⟩
theorem LdIn.less {x : LR} {l m : Ld} (h : LdIn x l) : LdIn (lessLR x m) l := ⟨by rw [less_len1, less_len2]; exact h.inp, h.n1, h.n2⟩
theorem hasDoors_iff {x : LR} {l : Ld} (hx : NN2 x) (h : LdIn x l) : hasDoors x l = true ↔ NN2 (lessLR x l) := by
  rw [less_decs]
  unfold NN2
  rw [nn_one hx.1 h.n1 (fun k hk => by obtain ⟨p, hp, rfl⟩ := List.mem_map.mp hk; exact (h.inp p hp).1), nn_one hx.2 h.n2 (fun k hk => by obtain ⟨p, hp, rfl⟩ := List.mem_map.mp hk; exact (h.inp p hp).2)]
  unfold hasDoors
  rw [List.all_eq_true]
  constructor
  · intro a
    refine ⟨fun k hk => ?_, fun k hk => ?_⟩
    · obtain ⟨p, hp, rfl⟩ := List.mem_map.mp hk
      have := a p hp
      simp only [Bool.and_eq_true, decide_eq_true_eq] at this
      exact this.1
    · obtain ⟨p, hp, rfl⟩ := List.mem_map.mp hk
      have := a p hp
      simp only [Bool.and_eq_true, decide_eq_true_eq] at this
      exact this.2
  · rintro ⟨a, b⟩ p hp
    simp only [Bool.and_eq_true, decide_eq_true_eq]
    exact ⟨a _ (List.mem_map_of_mem hp), b _ (List.mem_map_of_mem hp)⟩
theorem nn2_less {x : LR} {ps qs : List P} (h : NN2 (lessLR x (ps ++ qs))) : NN2 (lessLR x ps) := by
  rw [less_decs, List.map_append, List.map_append] at h
  rw [less_decs]
  exact ⟨nn_less h.1, nn_less h.2⟩
structure PreOk (L : List Ld) (x : LR) (n : Nat) (pre : Sh) : Prop where
  len : pre.length = n
  sub : ∀ l ∈ pre, l ∈ L
  srt : Sorted pre
  nn : NN2 (lessLR x pre.flatten)
theorem flat_snoc (pre : Sh) (l : Ld) : (pre ++ [l]).flatten.Perm (l ++ pre.flatten) := by
  rw [List.flatten_append]
  simp only [List.flatten_cons, List.flatten_nil, List.append_nil]
  exact List.perm_append_comm
theorem dfs_suffix : ∀ (n : Nat) (L : List Ld) (c : Sh) (x : LR) (u : Sh), u ∈ shapesFrom n L c x → ∃ pre, u = pre ++ c ∧ pre.length = n
  | 0, L, c, x, u, h => by
    rw [shapesFrom] at h
    exact ⟨[], List.mem_singleton.mp h, rfl⟩
  | n + 1, L, c, x, u, h => by
    rw [shapesFrom] at h
    obtain ⟨l, hl, hu⟩ := List.mem_flatten.mp h
    obtain ⟨i, hi, rfl⟩ := List.mem_map.mp hl
    rw [List.getElem?_eq_getElem (List.mem_range.mp hi)] at hu
    dsimp only at hu
    split at hu
    · obtain ⟨pre, rfl, hn⟩ := dfs_suffix n _ _ _ _ hu
      exact ⟨pre ++ [L[i]'(List.mem_range.mp hi)], by rw [List.append_assoc]; rfl, by simp [hn]⟩
    · cases hu
theorem dfs_nodup : ∀ (n : Nat) (L : List Ld) (c : Sh) (x : LR), L.Nodup → (shapesFrom n L c x).Nodup
  | 0, L, c, x, h => by rw [shapesFrom]; simp
  | n + 1, L, c, x, h => by
    rw [shapesFrom]
    refine nodup_flat (fun l hl => ?_) ?_
    · obtain ⟨i, hi, rfl⟩ := List.mem_map.mp hl
      rw [List.getElem?_eq_getElem (List.mem_range.mp hi)]
      dsimp only
      split
      · exact dfs_nodup n _ _ _ (h.sublist (List.take_sublist _ _))
      · exact List.Pairwise.nil
    · rw [List.pairwise_map]
      refine List.Pairwise.imp_of_mem (fun {i j} hi hj hij u hu v hv z => ?_) (List.nodup_range (n := L.length))
      have hi := List.mem_range.mp hi
      have hj := List.mem_range.mp hj
      rw [List.getElem?_eq_getElem hi] at hu
      rw [List.getElem?_eq_getElem hj] at hv
      dsimp only at hu hv
      split at hu
      · split at hv
        · obtain ⟨p1, e1, n1⟩ := dfs_suffix n _ _ _ _ hu
          obtain ⟨p2, e2, n2⟩ := dfs_suffix n _ _ _ _ hv
          rw [e1, e2] at z
          have := (List.append_inj z (n1.trans n2.symm)).2
          injection this with this _
          exact hij ((List.getElem_inj h).mp this)
        · cases hv
      · cases hu
theorem dfs_mem : ∀ (n : Nat) (L : List Ld) (c : Sh) (x : LR), Sorted L → L.Nodup → (∀ l ∈ L, LdIn x l) → NN2 x → ∀ u, u ∈ shapesFrom n L c x ↔ ∃ pre, u = pre ++ c ∧ PreOk L x n pre
  | 0, L, c, x, hs, hn, hl, hx, u => by
    rw [shapesFrom, List.mem_singleton]
    constructor
    · intro h
      exact ⟨[], h, rfl, (fun _ h => by cases h), List.Pairwise.nil, hx⟩
    · rintro ⟨pre, rfl, h⟩
      rw [List.eq_nil_of_length_eq_zero h.len]; rfl
  | n + 1, L, c, x, hs, hn, hl, hx, u => by
    rw [shapesFrom]
    constructor
    · intro h
      obtain ⟨l, hl1, hu⟩ := List.mem_flatten.mp h
      obtain ⟨i, hi, rfl⟩ := List.mem_map.mp hl1
      have hi := List.mem_range.mp hi
      rw [List.getElem?_eq_getElem hi] at hu
      dsimp only at hu
      split at hu
      · rename_i hd
        have hm := List.getElem_mem hi
        have nn := (hasDoors_iff hx (hl _ hm)).mp hd
        obtain ⟨pre, rfl, q⟩ := (dfs_mem n (L.take (i + 1)) (L[i] :: c) (lessLR x L[i]) (List.Pairwise.sublist (List.take_sublist _ _) hs) (hn.sublist (List.take_sublist _ _)) (fun l hl2 => (hl l (List.mem_of_mem_take hl2)).less) nn u).mp hu
        refine ⟨pre ++ [L[i]], by rw [List.append_assoc]; rfl, by simp [q.len], fun l h2 => ?_, ?_, ?_⟩
        · rcases List.mem_append.mp h2 with h2 | h2
          · exact List.mem_of_mem_take (q.sub l h2)
          · rw [List.mem_singleton.mp h2]; exact hm
        · unfold Sorted
          rw [List.pairwise_append]
          refine ⟨q.srt, List.pairwise_singleton _ _, fun a ha b hb => ?_⟩
          rw [List.mem_singleton.mp hb]
          obtain ⟨j, hj, e⟩ := List.mem_take_iff_getElem.mp (q.sub a ha)
          rw [← e]
          have hj2 : j < L.length := by omega
          rcases Nat.lt_or_eq_of_le (show j ≤ i by omega) with h3 | h3
          · exact List.pairwise_iff_getElem.mp hs j i hj2 hi h3
          · subst h3; exact lin_Ld.refl _
        · rw [less_perm _ (flat_snoc pre L[i]), less_app]
          exact q.nn
      · cases hu
    · rintro ⟨pre, rfl, q⟩
      rcases snoc_of pre with rfl | ⟨pre, l, rfl⟩
      · have := q.len; simp at this
      · have hm : l ∈ L := q.sub l (List.mem_append_right _ (List.mem_singleton.mpr rfl))
        obtain ⟨i, hi, e⟩ := List.getElem_of_mem hm
        have qs := q.srt
        unfold Sorted at qs
        rw [List.pairwise_append] at qs
        have nn2 := q.nn
        rw [less_perm _ (flat_snoc pre l)] at nn2
        have nn := nn2_less nn2
        rw [less_app] at nn2
        refine List.mem_flatten.mpr ⟨_, List.mem_map_of_mem (List.mem_range.mpr hi), ?_⟩
        rw [List.getElem?_eq_getElem hi]
        dsimp only
        rw [e, if_pos ((hasDoors_iff hx (hl l hm)).mpr nn)]
        rw [List.append_assoc]
        refine (dfs_mem n (L.take (i + 1)) (l :: c) (lessLR x l) (List.Pairwise.sublist (List.take_sublist _ _) hs) (hn.sublist (List.take_sublist _ _)) (fun l hl2 => (hl l (List.mem_of_mem_take hl2)).less) nn _).mpr ⟨pre, rfl, ?_, fun a ha => ?_, qs.1, nn2⟩
        · have := q.len; simp at this; exact this
        · obtain ⟨j, hj, ej⟩ := List.getElem_of_mem (q.sub a (List.mem_append_left _ ha))
          refine List.mem_take_iff_getElem.mpr ⟨j, ?_, ej⟩
          have hle := qs.2.2 a ha l (List.mem_singleton.mpr rfl)
          rcases Nat.lt_or_ge i j with h3 | h3
          · have h4 := List.pairwise_iff_getElem.mp hs i j hi hj h3
            rw [e, ej] at h4
            have h5 : a = l := lin_Ld.anti _ _ hle h4
            rw [← h5] at e
            have := (List.getElem_inj hn).mp (ej.trans e.symm)
            omega
          · omega
/-- the shapes are the sorted standings -/
theorem mem_allShapes {e : EX} (he : EOk e) {s : Sh} : s ∈ allShapes e ↔ ShOk e s ∧ Sorted s := by
  unfold allShapes
  rw [mem_srt]
  have h0 : NN2 (e.ins, e.outs) := ⟨fun z hz => by have := he.di z hz; omega, fun z hz => by have := he.do_ z hz; omega⟩
  unfold allLoads
  rw [dfs_mem e.mid.toNat _ [] _ (allLoads_sorted _ _) (allLoads_nodup _ _) (fun l hl => LdIn.of (allLoadsN_ok hl) rfl rfl) h0]
  have hm := he.mid
  constructor
  · rintro ⟨pre, rfl, q⟩
    rw [List.append_nil]
    have nn := q.nn
    rw [← leftOf_flat] at nn
    exact ⟨⟨by rw [q.len]; omega, fun l hl => mem_allLoads.mp (q.sub l hl), nn.1, nn.2⟩, q.srt⟩
  · rintro ⟨h, hs⟩
    refine ⟨s, (List.append_nil s).symm, by have := h.len; omega, fun l hl => mem_allLoads.mpr (h.ld l hl), hs, ?_⟩
    rw [← leftOf_flat]
    exact ⟨h.li, h.lo⟩
theorem allShapes_nodup (e : EX) : (allShapes e).Nodup := by
  unfold allShapes
  rw [srt_Sh]
  exact (List.mergeSort_perm _ _).nodup_iff.mpr (dfs_nodup _ _ _ _ (allLoads_nodup _ _))
end Ct
/-! # Plain: the law's rows -/
namespace Ct
open PySem PySem.Spec PyProof.Rows L2 Evl
def stepR (L : List Ld) (rows : List (Sh × LR)) : List (Sh × LR) := (rows.map (lawRow L)).flatten
def itR (L : List Ld) : Nat → List (Sh × LR) → List (Sh × LR)
  | 0, rows => rows
  | n + 1, rows => itR L n (stepR L rows)
theorem lawRows_nil (L : List Ld) (most : Int) : ∀ n, lawRows L most n [] = []
  | 0 => rfl
  | n + 1 => by
    rw [lawRows]
    split
    · rfl
    · exact lawRows_nil L most n
theorem lawRows_it (L : List Ld) (most : Int) : ∀ (n : Nat) (rows : List (Sh × LR)), lawRows L most n rows ≠ [] → lawRows L most n rows = itR L n rows ∧ (1 ≤ n → ((itR L n rows).length : Int) ≤ most)
  | 0, rows, _ => ⟨rfl, fun h => absurd h (by decide)⟩
  | n + 1, rows, h => by
    rw [lawRows] at h ⊢
    split at h
    · exact absurd rfl h
    · rename_i hc
      rw [if_neg hc]
      obtain ⟨a, b⟩ := lawRows_it L most n _ h
      refine ⟨a, fun _ => ?_⟩
      show ((itR L n (stepR L rows)).length : Int) ≤ most
      cases n with
      | zero => show (((rows.map (lawRow L)).flatten.length : Nat) : Int) ≤ most; omega
      | succ n => exact b (Nat.succ_le_succ (Nat.zero_le _))
theorem minI_nn : ∀ (l : List Int), minI l ≥ 0 ↔ NN l
  | [] => ⟨fun _ z hz => (by cases hz), fun _ => (by simp [minI])⟩
  | [x] => ⟨fun h z hz => by rw [List.mem_singleton.mp hz]; exact h, fun h => h x (List.mem_singleton.mpr rfl)⟩
  | x :: y :: r => by
    have ih := minI_nn (y :: r)
    rw [minI]
    constructor
    · intro h z hz
      split at h
      · rename_i hle
        rcases List.mem_cons.mp hz with rfl | hz
        · exact h
        · exact ih.mp (by omega) z hz
      · rename_i hle
        rcases List.mem_cons.mp hz with rfl | hz
        · omega
        · exact ih.mp h z hz
    · intro h
      have h1 := h x List.mem_cons_self
      have h2 := ih.mpr fun z hz => h z (List.mem_cons_of_mem _ hz)
      split
      · exact h1
      · exact h2
theorem nn_app {a b : List Int} : NN (a ++ b) ↔ NN a ∧ NN b := ⟨fun h => ⟨fun z hz => h z (List.mem_append_left _ hz), fun z hz => h z (List.mem_append_right _ hz)⟩, fun h z hz => (List.mem_append.mp hz).elim (h.1 z) (h.2 z)⟩
/-- falling -/
def Desc (u : Sh) : Prop := u.Pairwise fun a b => leLd b a = true
theorem desc_snoc {u : Sh} {l : Ld} : Desc (u ++ [l]) ↔ Desc u ∧ ∀ a ∈ u, leLd l a = true := by
  unfold Desc
  rw [List.pairwise_append]
  exact ⟨fun h => ⟨h.1, fun a ha => h.2.2 a ha l (List.mem_singleton.mpr rfl)⟩, fun h => ⟨h.1, List.pairwise_singleton _ _, fun a ha b hb => by rw [List.mem_singleton.mp hb]; exact h.2 a ha⟩⟩
/-- a row's place among the rows after it -/
theorem mem_row {L : List Ld} {r x : Sh × LR} (hd : Desc r.1) : x ∈ lawRow L r ↔ ∃ l ∈ L, x = (r.1 ++ [l], lessLR r.2 l) ∧ Desc (r.1 ++ [l]) ∧ NN2 (lessLR r.2 l) := by
  unfold lawRow
  rw [List.mem_map]
  have key : ∀ l : Ld, ((decide (r.1 = []) || (match r.1.getLast? with | some m => leLd l m | none => true)) && decide (minI ((lessLR r.2 l).1 ++ (lessLR r.2 l).2) ≥ 0)) = true ↔ Desc (r.1 ++ [l]) ∧ NN2 (lessLR r.2 l) := by
    intro l
    rw [Bool.and_eq_true, decide_eq_true_eq, minI_nn, nn_app, desc_snoc]
    refine and_congr ?_ Iff.rfl
    rcases snoc_of r.1 with e | ⟨u, m, e⟩
    · rw [e]
      simp only [decide_true, Bool.true_or, true_iff]
      exact ⟨List.Pairwise.nil, fun a ha => by cases ha⟩
    · rw [e] at hd ⊢
      have hne : u ++ [m] ≠ [] := by simp
      simp only [hne, decide_false, Bool.false_or, List.getLast?_append, List.getLast?_singleton, Option.some_or]
      rw [desc_snoc] at hd
      constructor
      · intro h
        refine ⟨desc_snoc.mpr hd, fun a ha => ?_⟩
        rcases List.mem_append.mp ha with ha | ha
        · exact lin_Ld.trans _ _ _ h (hd.2 a ha)
        · rw [List.mem_singleton.mp ha]; exact h
      · intro h
        exact h.2 m (List.mem_append_right _ (List.mem_singleton.mpr rfl))
  constructor
  · rintro ⟨l, hl, rfl⟩
    obtain ⟨h1, h2⟩ := List.mem_filter.mp hl
    exact ⟨l, h1, rfl, (key l).mp h2⟩
  · rintro ⟨l, hl, rfl, h⟩
    exact ⟨l, List.mem_filter.mpr ⟨hl, (key l).mpr h⟩, rfl⟩
theorem mem_it {L : List Ld} : ∀ (n : Nat) (rows : List (Sh × LR)), (∀ r ∈ rows, Desc r.1) → ∀ x, x ∈ itR L n rows ↔ ∃ r ∈ rows, ∃ ext : Sh, ext.length = n ∧ (∀ l ∈ ext, l ∈ L) ∧ x = (r.1 ++ ext, lessLR r.2 ext.flatten) ∧ Desc (r.1 ++ ext) ∧ (n ≠ 0 → NN2 (lessLR r.2 ext.flatten))
  | 0, rows, hd, x => by
    constructor
    · intro h
      exact ⟨x, h, [], rfl, (fun _ h => by cases h), by rw [List.append_nil]; rfl, by rw [List.append_nil]; exact hd x h, fun h => absurd rfl h⟩
    · rintro ⟨r, hr, ext, hl, _, e, _⟩
      have := List.eq_nil_of_length_eq_zero hl
      subst this
      rw [e, List.append_nil]
      exact hr
  | n + 1, rows, hd, x => by
    have hd2 : ∀ r ∈ stepR L rows, Desc r.1 := fun r hr => by
      obtain ⟨l, hl, hx⟩ := List.mem_flatten.mp hr
      obtain ⟨r0, h0, rfl⟩ := List.mem_map.mp hl
      obtain ⟨l, _, rfl, h, _⟩ := (mem_row (hd r0 h0)).mp hx
      exact h
    rw [show itR L (n + 1) rows = itR L n (stepR L rows) from rfl, mem_it n _ hd2]
    constructor
    · rintro ⟨r, hr, ext, hl, hs, rfl, h1, h2⟩
      obtain ⟨l, hl', hx⟩ := List.mem_flatten.mp hr
      obtain ⟨r0, h0, rfl⟩ := List.mem_map.mp hl'
      obtain ⟨l, hL, rfl, h3, h4⟩ := (mem_row (hd r0 h0)).mp hx
      refine ⟨r0, h0, l :: ext, by simp [hl], fun m hm => ?_, ?_, ?_, fun _ => ?_⟩
      · rcases List.mem_cons.mp hm with rfl | hm
        · exact hL
        · exact hs m hm
      · simp only [List.append_assoc, List.singleton_append, List.flatten_cons]
        rw [less_app]
      · simpa only [List.append_assoc, List.singleton_append] using h1
      · rw [List.flatten_cons, less_app]
        by_cases hn : n = 0
        · subst hn
          have := List.eq_nil_of_length_eq_zero hl
          subst this
          exact h4
        · exact h2 hn
    · rintro ⟨r0, h0, ext, hl, hs, rfl, h1, h2⟩
      cases ext with
      | nil => simp at hl
      | cons l ext =>
        have nn := h2 (Nat.succ_ne_zero n)
        rw [List.flatten_cons] at nn
        have nn1 := nn2_less nn
        have hde : Desc (r0.1 ++ [l]) := by
          have : r0.1 ++ l :: ext = (r0.1 ++ [l]) ++ ext := by simp
          rw [this] at h1
          exact (List.pairwise_append.mp h1).1
        refine ⟨(r0.1 ++ [l], lessLR r0.2 l), List.mem_flatten.mpr ⟨_, List.mem_map_of_mem h0, (mem_row (hd r0 h0)).mpr ⟨l, hs l List.mem_cons_self, rfl, hde, nn1⟩⟩, ext, by simpa using hl, fun m hm => hs m (List.mem_cons_of_mem _ hm), ?_, ?_, fun _ => ?_⟩
        · simp only [List.append_assoc, List.singleton_append, List.flatten_cons]
          rw [less_app]
        · simpa only [List.append_assoc, List.singleton_append] using h1
        · rw [← less_app]; exact nn
theorem it_nodup {L : List Ld} (hL : L.Nodup) : ∀ (n : Nat) (rows : List (Sh × LR)), (rows.map (·.1)).Nodup → ((itR L n rows).map (·.1)).Nodup
  | 0, rows, h => h
  | n + 1, rows, h => by
    refine it_nodup hL n _ ?_
    unfold stepR
    rw [List.map_flatten, List.map_map]
    refine nodup_flat (fun l hl => ?_) ?_
    · obtain ⟨r, _, rfl⟩ := List.mem_map.mp hl
      show ((lawRow L r).map (·.1)).Nodup
      unfold lawRow
      rw [List.map_map]
      refine nodup_map (hL.sublist List.filter_sublist) fun x _ y _ e => ?_
      have e : r.1 ++ [x] = r.1 ++ [y] := e
      have := (List.append_inj' e rfl).2
      injection this
    · rw [List.pairwise_map]
      have h' := h
      unfold List.Nodup at h'
      rw [List.pairwise_map] at h'
      refine List.Pairwise.imp (fun {r q} hrq x hx y hy z => hrq ?_) h'
      subst z
      have a : ∃ l, x = r.1 ++ [l] := by
        obtain ⟨r1, h1, rfl⟩ := List.mem_map.mp hx
        unfold lawRow at h1
        obtain ⟨l, _, rfl⟩ := List.mem_map.mp h1
        exact ⟨l, rfl⟩
      have b : ∃ l, x = q.1 ++ [l] := by
        obtain ⟨r1, h1, rfl⟩ := List.mem_map.mp hy
        unfold lawRow at h1
        obtain ⟨l, _, rfl⟩ := List.mem_map.mp h1
        exact ⟨l, rfl⟩
      obtain ⟨l1, a⟩ := a
      obtain ⟨l2, b⟩ := b
      exact (List.append_inj' (a.symm.trans b) rfl).1
theorem desc_rev {u : Sh} : Desc u ↔ Sorted u.reverse := by
  unfold Desc Sorted
  rw [List.pairwise_reverse]
/-- the law's shapes, not cut, are the program's -/
theorem lawShapes_eq {e : EX} (he : EOk e) {most : Int} (h : lawShapes e.ins e.outs e.mid most ≠ []) : lawShapes e.ins e.outs e.mid most = allShapes e ∧ ((allShapes e).length : Int) ≤ most := by
  have hm := he.mid
  have hne : lawRows (allLoadsN e.ins.length e.outs.length) most e.mid.toNat [([], (e.ins, e.outs))] ≠ [] := fun z => by
    unfold lawShapes at h
    rw [z] at h
    have : (srt Rsh ([] : List Sh)).length = 0 := by rw [len_srt]; rfl
    exact h (List.eq_nil_of_length_eq_zero this)
  obtain ⟨e1, e2⟩ := lawRows_it _ _ _ _ hne
  have e2 := e2 (by omega)
  have main : lawShapes e.ins e.outs e.mid most = allShapes e := by
    have a1 := allShapes_nodup e
    have p1 : (lawShapes e.ins e.outs e.mid most).Perm (allShapes e) := by
      refine (List.perm_ext_iff_of_nodup ?_ a1).mpr fun u => ?_
      · unfold lawShapes
        rw [srt_Sh, e1]
        refine (List.mergeSort_perm _ _).nodup_iff.mpr ?_
        have := it_nodup (allLoads_nodup e.ins.length e.outs.length) e.mid.toNat [([], (e.ins, e.outs))] (by simp)
        have h2 := nodup_map (f := List.reverse) this (fun x _ y _ z => List.reverse_inj.mp z)
        rw [List.map_map] at h2
        exact h2
      · unfold lawShapes
        rw [mem_srt, e1, mem_allShapes he]
        rw [List.mem_map]
        constructor
        · rintro ⟨r, hr, rfl⟩
          obtain ⟨r0, h0, ext, hl, hs, rfl, h1, h2⟩ := (mem_it e.mid.toNat [([], (e.ins, e.outs))] (fun r hr => by rw [List.mem_singleton.mp hr]; exact List.Pairwise.nil) r).mp hr
          rw [List.mem_singleton.mp h0] at h1 h2 ⊢
          simp only [List.nil_append] at h1 h2 ⊢
          have nn := h2 (by omega)
          rw [← less_perm _ (List.reverse_perm ext).flatten, ← leftOf_flat] at nn
          exact ⟨⟨by rw [List.length_reverse, hl]; omega, fun l hl2 => mem_allLoads.mp (hs l (List.mem_reverse.mp hl2)), nn.1, nn.2⟩, desc_rev.mp h1⟩
        · rintro ⟨hk, hs⟩
          refine ⟨(u.reverse, lessLR (e.ins, e.outs) u.reverse.flatten), ?_, List.reverse_reverse u⟩
          refine (mem_it e.mid.toNat [([], (e.ins, e.outs))] (fun r hr => by rw [List.mem_singleton.mp hr]; exact List.Pairwise.nil) _).mpr ⟨([], (e.ins, e.outs)), List.mem_singleton.mpr rfl, u.reverse, by rw [List.length_reverse]; have := hk.len; omega, fun l hl => mem_allLoads.mpr (hk.ld l (List.mem_reverse.mp hl)), rfl, ?_, fun _ => ?_⟩
          · show Desc u.reverse
            rw [desc_rev, List.reverse_reverse]; exact hs
          · rw [less_perm _ (List.reverse_perm u).flatten, ← leftOf_flat]
            exact ⟨hk.li, hk.lo⟩
    have s1 : srt Rsh (lawShapes e.ins e.outs e.mid most) = lawShapes e.ins e.outs e.mid most := by
      rw [srt_Sh]
      refine lin_Sh.sort_id ?_
      unfold lawShapes
      rw [srt_Sh]
      exact lin_Sh.sorted _
    have s2 : srt Rsh (allShapes e) = allShapes e := by
      rw [srt_Sh]
      refine lin_Sh.sort_id ?_
      unfold allShapes
      rw [srt_Sh]
      exact lin_Sh.sorted _
    rw [← s1, ← s2, srt_Sh, srt_Sh]
    exact lin_Sh.perm_eq p1
  refine ⟨main, ?_⟩
  rw [← main]
  unfold lawShapes
  rw [len_srt, List.length_map, e1]
  exact e2
end Ct
/-! # Plain: the tables -/
namespace Ct
open PySem PySem.Spec PyProof.Rows L2 Evl
theorem first_at {s : Sh} {l : Ld} (h : l ∈ s) : ∃ k, ∃ hk : k < s.length, s[k] = l ∧ l ∉ s.take k := by
  induction s with
  | nil => cases h
  | cons a r ih =>
    by_cases ha : a = l
    · exact ⟨0, Nat.succ_pos _, ha, by simp⟩
    · obtain ⟨k, hk, e, hn⟩ := ih ((List.mem_cons.mp h).resolve_left fun z => ha z.symm)
      refine ⟨k + 1, Nat.succ_lt_succ hk, e, fun hm => ?_⟩
      rw [List.take_succ_cons] at hm
      rcases List.mem_cons.mp hm with z | hm
      · exact ha z.symm
      · exact hn hm
theorem newIn_true {s : Sh} {k : Nat} {l : Ld} : newIn s k l = true ↔ l ∉ s.take k := by unfold newIn; simp
theorem lnx_form {s : Sh} {p : P} {n : NX} : n ∈ lnx s p ↔ ∃ l ∈ s, fits l p = true ∧ n = (l, swap s l (put l p)) := by
  constructor
  · intro h
    obtain ⟨x, hx, rfl⟩ := List.mem_map.mp h
    obtain ⟨h1, h2⟩ := List.mem_filter.mp hx
    obtain ⟨hk, e⟩ := zip_at h1
    rw [Bool.and_eq_true] at h2
    exact ⟨x.1, e ▸ List.getElem_mem hk, h2.2, rfl⟩
  · rintro ⟨l, hl, hf, rfl⟩
    obtain ⟨k, hk, e, hn⟩ := first_at hl
    refine List.mem_map.mpr ⟨(l, k), List.mem_filter.mpr ⟨?_, ?_⟩, rfl⟩
    · refine List.mem_iff_getElem?.mpr ⟨k, ?_⟩
      exact zip_get (by rw [List.getElem?_eq_getElem hk, e])
    · rw [Bool.and_eq_true]
      exact ⟨newIn_true.mpr hn, hf⟩
theorem zip_new (s : Sh) : (s.zipIdx).Pairwise fun x y => newIn s y.2 y.1 = true → x.1 ≠ y.1 := by
  rw [List.pairwise_iff_getElem]
  intro i j hi hj hij h z
  have hi2 : i < s.length := by simpa using hi
  have hj2 : j < s.length := by simpa using hj
  rw [List.getElem_zipIdx] at h
  rw [List.getElem_zipIdx, List.getElem_zipIdx] at z
  simp only [Nat.zero_add] at h z
  refine newIn_true.mp h ?_
  rw [← z]
  exact List.mem_take_iff_getElem.mpr ⟨i, by omega, rfl⟩
theorem lnx_nodup (s : Sh) (p : P) : ((lnx s p).map (·.1)).Nodup := by
  show (List.map _ (List.map _ _)).Nodup
  rw [List.map_map]
  unfold List.Nodup
  rw [List.pairwise_map]
  refine List.Pairwise.imp_of_mem (fun {x y} hx hy h => ?_) (List.Pairwise.sublist List.filter_sublist (zip_new s))
  have := (List.mem_filter.mp hy).2
  rw [Bool.and_eq_true] at this
  exact h this.1
theorem filt_one {ns : List NX} (hn : (ns.map (·.1)).Nodup) {n : NX} (h : n ∈ ns) : ns.filter (fun m => decide (n.1 = m.1)) = [n] := by
  induction ns with
  | nil => cases h
  | cons a r ih =>
    rw [List.map_cons, List.nodup_cons] at hn
    rcases List.mem_cons.mp h with rfl | h
    · rw [List.filter_cons, if_pos (by simp)]
      have : r.filter (fun m => decide (n.1 = m.1)) = [] := by
        rw [List.filter_eq_nil_iff]
        intro m hm z
        simp only [decide_eq_true_eq] at z
        exact hn.1 (List.mem_map.mpr ⟨m, hm, z.symm⟩)
      rw [this]
    · rw [List.filter_cons, if_neg, ih hn.2 h]
      simp only [decide_eq_true_eq]
      intro z
      exact hn.1 (List.mem_map.mpr ⟨n, h, z⟩)
/-! ### tables by a rule -/
def genTab (S : List Sh) (Ps : Sh → List P) (f : Sh → P → Option Ld) : Tab := (S.map fun s => (Ps s).filterMap fun p => (f s p).map fun l => ((s, p), l)).flatten
theorem look_gen {S : List Sh} {Ps : Sh → List P} {f : Sh → P → Option Ld} {s : Sh} {p : P} (hs : s ∈ S) (hp : p ∈ Ps s) : look (genTab S Ps f) (s, p) = f s p := by
  unfold look
  cases h : (genTab S Ps f).find? fun x => decide (x.1 = (s, p)) with
  | none =>
    cases hf : f s p with
    | none => rfl
    | some l =>
      have := List.find?_eq_none.mp h ((s, p), l) (List.mem_flatten.mpr ⟨_, List.mem_map_of_mem hs, List.mem_filterMap.mpr ⟨p, hp, by rw [hf]; rfl⟩⟩)
      simp at this
  | some x =>
    have h1 := List.find?_some h
    have h2 := List.mem_of_find?_eq_some h
    simp only [decide_eq_true_eq] at h1
    obtain ⟨l, hl, hx⟩ := List.mem_flatten.mp h2
    obtain ⟨s', _, rfl⟩ := List.mem_map.mp hl
    obtain ⟨p', _, e⟩ := List.mem_filterMap.mp hx
    cases hf : f s' p' with
    | none => rw [hf] at e; cases e
    | some v =>
      rw [hf] at e
      cases e
      obtain ⟨rfl, rfl⟩ := Prod.mk.inj (show (s', p') = (s, p) from h1)
      exact hf.symm
theorem len_gen (S : List Sh) (Ps : Sh → List P) (f : Sh → P → Option Ld) : (genTab S Ps f).length = (S.map fun s => ((Ps s).filter fun p => (f s p).isSome).length).sum := by
  unfold genTab
  rw [List.length_flatten, List.map_map]
  congr 1
  refine List.map_congr_left fun s _ => ?_
  show ((Ps s).filterMap _).length = _
  induction Ps s with
  | nil => rfl
  | cons p r ih =>
    rw [List.filterMap_cons, List.filter_cons]
    cases f s p with
    | none => simpa using ih
    | some l => simpa using ih
def keepF (ranks : List Sh) (s : Sh) (p : P) : Option Ld := (goodLoads ranks (nextShapes s p) ++ (nextShapes s p).map (·.1)).head?
theorem tabOf_gen (e : EX) (ranks S : List Sh) : tabOf e ranks S = genTab S (openPairs e) (keepF ranks) := by
  unfold tabOf genTab callsFrom
  congr 1
  refine List.map_congr_left fun s _ => ?_
  rw [List.filterMap_map]
  rfl
def chkF (d : Tab) (s : Sh) (p : P) : Option Ld := if nextShapes s p = [] then none else look d (s, p)
theorem chk_gen (e : EX) (d : Tab) (S : List Sh) : chk e d S = genTab S (openPairs e) (chkF d) := by
  unfold chk genTab
  congr 1
  refine List.map_congr_left fun s _ => ?_
  congr 1
  funext p
  unfold chkRow chkF
  split <;> rfl
theorem keepF_some {ranks : List Sh} {s : Sh} {p : P} {l : Ld} (h : keepF ranks s p = some l) : ∃ n ∈ nextShapes s p, n.1 = l ∧ ((∃ m ∈ nextShapes s p, m.2 ∉ ranks) → n.2 ∉ ranks) := by
  unfold keepF at h
  cases hg : goodLoads ranks (nextShapes s p) with
  | nil =>
    rw [hg, List.nil_append] at h
    cases hn : nextShapes s p with
    | nil => rw [hn] at h; cases h
    | cons n ns =>
      rw [hn] at h
      cases h
      refine ⟨n, List.mem_cons_self, rfl, fun ⟨m, hm, hr⟩ => ?_⟩
      have : m.1 ∈ goodLoads ranks (nextShapes s p) := by
        rw [hn]
        exact List.mem_map.mpr ⟨m, List.mem_filter.mpr ⟨hm, by simpa using hr⟩, rfl⟩
      rw [hg] at this; cases this
  | cons a g =>
    rw [hg] at h
    have hal : a = l := by simpa using h
    subst hal
    have : a ∈ goodLoads ranks (nextShapes s p) := by rw [hg]; exact List.mem_cons_self
    obtain ⟨n, hn, e⟩ := List.mem_map.mp this
    obtain ⟨h1, h2⟩ := List.mem_filter.mp hn
    exact ⟨n, h1, e, fun _ => by simpa using h2⟩
theorem keepF_is {ranks : List Sh} {s : Sh} {p : P} : (keepF ranks s p).isSome = !(nextShapes s p).isEmpty := by
  unfold keepF
  cases hn : nextShapes s p with
  | nil => simp [goodLoads]
  | cons n ns => simp
end Ct
/-! # Plain: what the law asks -/
namespace Ct
open PySem PySem.Spec PyProof.Rows L2 Evl
theorem swap_perm {s u : Sh} (h : s.Perm u) (l m : Ld) : swap s l m = swap u l m := by
  unfold swap er
  rw [srt_Ld, srt_Ld]
  exact lin_Ld.perm_eq ((@List.Perm.erase _ instBEqOfDecidableEq _ l s u h).append_right _)
theorem ends_has {s : Sh} {l : Ld} {p : P} (hl : l ∈ s) (hp : p ∈ l) : (p, l, swap s l (taken l p)) ∈ lawEnds s := by
  obtain ⟨k, hk, e, hn⟩ := first_at hl
  unfold lawEnds
  refine mem_srt.mpr (List.mem_flatten.mpr ⟨_, List.mem_map_of_mem (List.mem_filter.mpr ⟨List.mem_iff_getElem?.mpr ⟨k, zip_get (n := k) (x := l) (by rw [List.getElem?_eq_getElem hk, e])⟩, newIn_true.mpr hn⟩), ?_⟩)
  exact List.mem_map.mpr ⟨p, hp, rfl⟩
theorem places_memX {s : Sh} {x : P × Int} (h : x ∈ places s) : ∃ (i : Nat) (hi : i < s.length), x.2 = (i : Int) ∧ x.1 ∈ s[i] := by
  obtain ⟨l, hl, hx⟩ := List.mem_flatten.mp (mem_srt.mp h)
  obtain ⟨y, hy, rfl⟩ := List.mem_map.mp hl
  obtain ⟨p, hp, rfl⟩ := List.mem_map.mp hx
  obtain ⟨hk, e⟩ := zip_at hy
  exact ⟨y.2, hk, rfl, by rw [← e]; exact hp⟩
theorem places_has {s : Sh} {i : Nat} (hi : i < s.length) {p : P} (hp : p ∈ s[i]) : (p, (i : Int)) ∈ places s := by
  unfold places
  refine mem_srt.mpr (List.mem_flatten.mpr ⟨_, List.mem_map_of_mem (List.mem_iff_getElem?.mpr ⟨i, zip_get (n := i) (List.getElem?_eq_getElem hi)⟩), ?_⟩)
  exact List.mem_map.mpr ⟨p, hp, rfl⟩
theorem fitting_memX {s : Sh} {p : P} {k : Int} : k ∈ fitting s p ↔ ∃ (i : Nat) (hi : i < s.length), k = (i : Int) ∧ fits s[i] p = true := by
  unfold fitting fitting.enumL'
  constructor
  · intro h
    obtain ⟨x, hx, rfl⟩ := List.mem_map.mp h
    obtain ⟨h1, h2⟩ := List.mem_filter.mp hx
    obtain ⟨i, hi, rfl⟩ := List.mem_mapIdx.mp h1
    exact ⟨i, hi, rfl, h2⟩
  · rintro ⟨i, hi, rfl, hf⟩
    exact List.mem_map.mpr ⟨((i : Int), s[i]), List.mem_filter.mpr ⟨List.mem_mapIdx.mpr ⟨i, hi, rfl⟩, hf⟩, rfl⟩
theorem getD_atX {s : Sh} {i : Nat} (hi : i < s.length) : s.getD i [] = s[i] := by rw [List.getD_eq_getElem?_getD, List.getElem?_eq_getElem hi]; rfl
theorem mem_lotL {e : EX} {S : List Sh} {s : Sh} : s ∈ lotL e S ↔ s ∈ S ∧ s ∉ lawLost e S := by
  have a : s ∈ lotOf e S ↔ s ∈ S ∧ s ∉ lawLost e S := by
    unfold lotOf
    rw [List.mem_filter]
    simp
  unfold lotL
  rw [List.mem_append, List.mem_reverse, ← a]
  exact ⟨fun h => h.elim id List.mem_of_mem_take, .inl⟩
theorem empty_flat (e : EX) : (emptyOf e).flatten = [] := by
  unfold emptyOf
  induction e.mid.toNat with
  | zero => rfl
  | succ n ih => rw [List.replicate_succ, List.flatten_cons, ih]; rfl
theorem less_nil (x : LR) : lessLR x [] = x := by unfold lessLR; rfl
theorem empty_ok {e : EX} (he : EOk e) : ShOk e (emptyOf e) ∧ Sorted (emptyOf e) := by
  have hm := he.mid
  refine ⟨⟨by unfold emptyOf; rw [List.length_replicate]; omega, fun l hl => ?_, ?_, ?_⟩, ?_⟩
  · unfold emptyOf at hl
    rw [List.eq_of_mem_replicate hl]
    exact ⟨(fun p hp => by cases hp), List.Pairwise.nil, List.Pairwise.nil⟩
  · rw [leftOf_flat, empty_flat, less_nil]
    intro z hz
    have := he.di z hz; omega
  · rw [leftOf_flat, empty_flat, less_nil]
    intro z hz
    have := he.do_ z hz; omega
  · unfold Sorted
    rw [List.pairwise_iff_getElem]
    intro i j hi hj _
    have a : (emptyOf e)[i] = [] := List.eq_of_mem_replicate (List.getElem_mem hi)
    have b : (emptyOf e)[j] = [] := List.eq_of_mem_replicate (List.getElem_mem hj)
    rw [a, b]
    exact lin_Ld.refl _
theorem open_or_place {e : EX} (he : EOk e) {s : Sh} : 1 ≤ (openPairs e s).length + (places s).length := by
  by_cases hp : places s = []
  · have fl : s.flatten = [] := by
      rw [List.flatten_eq_nil_iff]
      intro l hl
      obtain ⟨i, hi, rfl⟩ := List.getElem_of_mem hl
      cases hs : s[i] with
      | nil => rfl
      | cons p r =>
        have := places_has hi (p := p) (by rw [hs]; exact List.mem_cons_self)
        rw [hp] at this; cases this
    have hin := he.ins
    have hou := he.outs
    have : pr 0 0 ∈ openPairs e s := by
      unfold openPairs openOf
      refine List.mem_filter.mpr ⟨?_, ?_⟩
      · unfold EX.pairs pairsOf
        refine List.mem_flatten.mpr ⟨_, List.mem_map_of_mem (List.mem_range.mpr hin.1), List.mem_map.mpr ⟨0, List.mem_range.mpr hou.1, rfl⟩⟩
      · rw [leftOf_flat, fl, less_nil]
        have a : 0 < e.ins.length := hin.1
        have b : 0 < e.outs.length := hou.1
        have h1 := he.di _ (List.getElem_mem a)
        have h2 := he.do_ _ (List.getElem_mem b)
        unfold pr
        simp only [Bool.and_eq_true, decide_eq_true_eq]
        refine ⟨?_, ?_⟩
        · rw [List.getD_eq_getElem?_getD]
          show (e.ins[0]?).getD 0 > 0
          rw [List.getElem?_eq_getElem a]
          show e.ins[0] > 0
          omega
        · rw [List.getD_eq_getElem?_getD]
          show (e.outs[0]?).getD 0 > 0
          rw [List.getElem?_eq_getElem b]
          show e.outs[0] > 0
          omega
    have := List.length_pos_of_mem this
    omega
  · have := List.length_pos_iff.mpr hp
    omega
theorem plain_law (e : EX) (S : List Sh) (he : EOk e) (hs : SdOk e.ins e.outs) (hm : e.mid ≤ 4) (hS : S = lawShapes e.ins e.outs e.mid 100) (hn : S ≠ []) : Facts e S := by
  obtain ⟨hSe, hfew⟩ := lawShapes_eq he (most := 100) (by rw [← hS]; exact hn)
  have hSS : S = allShapes e := hS.trans hSe
  subst hSS
  have mem : ∀ s, s ∈ allShapes e ↔ ShOk e s ∧ Sorted s := fun s => mem_allShapes he
  have srtd : ∀ s ∈ allShapes e, Sorted s := fun s h => ((mem s).mp h).2
  have fl : fallen e = lawLost e (allShapes e) := fallen_law srtd
  have tk : ∀ s ∈ allShapes e, ∀ p ∈ openPairs e s, look (tabK e) (s, p) = keepF (fallen e) s p := fun s h p hp => by
    unfold tabK
    rw [tabOf_gen]
    exact look_gen h hp
  have form : ∀ s ∈ allShapes e, ∀ p n, n ∈ nextShapes s p → n.1 ∈ s ∧ fits n.1 p = true ∧ n.2 = swap s n.1 (put n.1 p) := fun s h p n hn => by
    rw [nextShapes_law (srtd s h)] at hn
    obtain ⟨l, hl, hf, rfl⟩ := lnx_form.mp hn
    exact ⟨hl, hf, rfl⟩
  have okp : ∀ s ∈ allShapes e, ∀ p ∈ openPairs e s, ∀ n ∈ nextShapes s p, n.2 ∈ allShapes e := fun s h p hp n hn => (mem _).mpr (next_ok ((mem s).mp h).1 hp hn)
  -- the keeper's choice
  have pick : ∀ s ∈ allShapes e, ∀ p, nextShapes s p ≠ [] → ∃ n ∈ nextShapes s p, keepF (fallen e) s p = some n.1 ∧ ((∃ m ∈ nextShapes s p, m.2 ∉ fallen e) → n.2 ∉ fallen e) := fun s h p hne => by
    have : (keepF (fallen e) s p).isSome = true := by
      rw [keepF_is]
      cases hx : nextShapes s p with
      | nil => exact absurd hx hne
      | cons _ _ => rfl
    obtain ⟨l, hl⟩ := Option.isSome_iff_exists.mp this
    obtain ⟨n, h1, h2, h3⟩ := keepF_some hl
    exact ⟨n, h1, by rw [hl, h2], h3⟩
  have small : ∀ s ∈ allShapes e, ∀ l ∈ s, l.length ≤ 1000 := fun s h l hl => by
    have := (((mem s).mp h).1.ld l hl).len
    have := he.ins
    omega
  have lotM : ∀ s, s ∈ lotL e (allShapes e) ↔ s ∈ allShapes e ∧ s ∉ fallen e := fun s => by rw [fl]; exact mem_lotL
  have hemp := empty_ok he
  -- good calls
  have goodCall : ∀ s ∈ allShapes e, s ∉ fallen e → ∀ p ∈ openPairs e s, nextShapes s p ≠ [] ∧ ∃ n ∈ nextShapes s p, keepF (fallen e) s p = some n.1 ∧ n.2 ∉ fallen e := fun s h hf p hp => by
    obtain ⟨m, hm1, hm2⟩ := (stays h hf).1 p hp
    have hne : nextShapes s p ≠ [] := fun z => by rw [z] at hm1; cases hm1
    obtain ⟨n, h1, h2, h3⟩ := pick s h p hne
    exact ⟨hne, n, h1, h2, h3 ⟨m, hm1, hm2⟩⟩
  have hlen : ∀ s ∈ allShapes e, ∀ p ∈ openPairs e s, (chkF (tabK e) s p).isSome = (keepF (fallen e) s p).isSome := fun s h p hp => by
    unfold chkF
    split
    · rename_i hz
      rw [keepF_is, hz]; rfl
    · rw [tk s h p hp]
  refine ⟨⟨he, by omega, allShapes_nodup e, fun s h => ((mem s).mp h).1⟩, fun s h => ((mem s).mp h).1, allShapes_nodup e, by omega, by rw [fl], fun hf => ⟨fun s h p hp hne => ?_, ?_⟩, fun hf s h => asShape_id (srtd s ((lotM s).mp h).1), fun hf => (lotM _).mpr ⟨(mem _).mpr hemp, hf⟩, fun hf s h => ?_, fun hf => ⟨fun s h p hp hne => ?_, ?_⟩, fun hf => ⟨fun s => ShOk e s ∧ asShape s ∉ fallen e, ⟨hemp.1, by rw [asShape_id hemp.2]; exact hf⟩, fun s hG => ?_, fun s s' hG hD => ?_⟩⟩
  · -- the right table's row
    have hne' : nextShapes s p ≠ [] := by rw [nextShapes_law (srtd s h)]; exact hne
    obtain ⟨n, h1, h2, h3⟩ := pick s h p hne'
    refine ⟨n.1, n, by rw [tk s h p hp]; exact h2, small s h _ (form s h p n h1).1, ?_, fun hnl => ?_⟩
    · rw [nextShapes_law (srtd s h)] at h1
      exact filt_one (lnx_nodup s p) h1
    · rw [← fl] at hnl ⊢
      exact h3 ((stays h hnl).1 p hp)
  · -- its length
    unfold tabK
    rw [tabOf_gen, len_gen]
    congr 1
    refine List.map_congr_left fun s h => ?_
    unfold cntOf
    congr 1
    refine List.filter_congr fun p hp => ?_
    rw [keepF_is, nextShapes_law (srtd s h)]
  · -- the keeper keeps
    obtain ⟨hsS, hsf⟩ := (lotM s).mp h
    have hk := ((mem s).mp hsS).1
    refine ⟨hk, fun p hp => ?_, fun x hx => ?_⟩
    · obtain ⟨_, n, h1, h2, h3⟩ := goodCall s hsS hsf p hp
      obtain ⟨f1, f2, f3⟩ := form s hsS p n h1
      refine ⟨n.1, n.2, by rw [tk s hsS p hp]; exact h2, small s hsS _ f1, ?_, (lotM _).mpr ⟨okp s hsS p hp n h1, h3⟩⟩
      unfold afterOf
      cases hfd : (nextShapes s p).find? fun m => decide (n.1 = m.1) with
      | none =>
        have := List.find?_eq_none.mp hfd n h1
        simp at this
      | some m =>
        have g1 := List.find?_some hfd
        have g2 := List.mem_of_find?_eq_some hfd
        simp only [decide_eq_true_eq] at g1
        obtain ⟨_, _, g3⟩ := form s hsS p m g2
        show some m.2 = some n.2
        rw [g3, f3, g1]
    · exact (lotM _).mpr ⟨(mem _).mpr (ends_ok hk hx), (stays hsS hsf).2 x hx⟩
  · -- the rule takes the table
    obtain ⟨n, h1, h2, _⟩ := pick s h p hne
    exact ⟨n.1, by rw [tk s h p hp]; exact h2, List.mem_map_of_mem h1⟩
  · rw [chk_gen, len_gen]
    have : (tabK e).length = ((allShapes e).map fun s => ((openPairs e s).filter fun p => (chkF (tabK e) s p).isSome).length).sum := by
      show (tabOf e (fallen e) (allShapes e)).length = _
      rw [tabOf_gen, len_gen]
      congr 1
      refine List.map_congr_left fun s h => ?_
      congr 1
      refine List.filter_congr fun p hp => ?_
      exact (hlen s h p hp).symm
    exact Nat.le_of_eq this
  · -- a good standing
    obtain ⟨hk, hnf⟩ := hG
    have ha : asShape s ∈ allShapes e := (mem _).mpr ⟨asShape_ok hk, asShape_sorted s⟩
    refine ⟨hk, by rw [← fl]; exact hnf, open_or_place he, fun p hp => ?_⟩
    have hp' : p ∈ openPairs e (asShape s) := by rw [openPairs_perm (asShape_mem s)]; exact hp
    obtain ⟨hne, n, h1, h2, h3⟩ := goodCall _ ha hnf p hp'
    obtain ⟨f1, f2, f3⟩ := form _ ha p n h1
    refine ⟨n.1, ?_, ?_⟩
    · unfold tabR
      rw [chk_gen, look_gen ha hp']
      unfold chkF
      rw [if_neg hne, tk _ ha p hp', h2]
    · have hm1 : n.1 ∈ s := (asShape_mem s).mem_iff.mp f1
      obtain ⟨i, hi, ei⟩ := List.getElem_of_mem hm1
      intro z
      have : (i : Int) ∈ atLoad s p n.1 := by
        unfold atLoad
        refine List.mem_filter.mpr ⟨fitting_memX.mpr ⟨i, hi, rfl, by rw [ei]; exact f2⟩, ?_⟩
        rw [Int.toNat_natCast, getD_atX hi, ei]
        simp
      rw [z] at this; cases this
  · -- a deed
    obtain ⟨hk, hnf⟩ := hG
    have ha : asShape s ∈ allShapes e := (mem _).mpr ⟨asShape_ok hk, asShape_sorted s⟩
    rcases hD with ⟨x, hx, rfl⟩ | ⟨p, hp, l, hl, hne, rfl⟩
    · obtain ⟨i, hi, ei, hpi⟩ := places_memX hx
      have e1 : without s x.2 x.1 = replaced s (i : Int) (taken s[i] x.1) := by
        unfold without replaced
        rw [ei, Int.toNat_natCast, getD_atX hi]
        rfl
      rw [e1]
      refine ⟨taken_shOk hk hi hpi, ?_⟩
      rw [swap_eq hi, swap_perm (asShape_mem s).symm]
      have hin : s[i] ∈ asShape s := (asShape_mem s).mem_iff.mpr (List.getElem_mem hi)
      have := ends_has hin hpi
      rw [← endsOf_law (asShape_sorted s)] at this
      exact (stays ha hnf).2 _ this
    · have hp' : p ∈ openPairs e (asShape s) := by rw [openPairs_perm (asShape_mem s)]; exact hp
      obtain ⟨hne2, n, h1, h2, h3⟩ := goodCall _ ha hnf p hp'
      obtain ⟨f1, f2, f3⟩ := form _ ha p n h1
      have el : l = n.1 := by
        unfold tabR at hl
        rw [chk_gen, look_gen ha hp'] at hl
        unfold chkF at hl
        rw [if_neg hne2, tk _ ha p hp', h2] at hl
        exact (Option.some.inj hl).symm
      have hmin := minI_mem hne
      obtain ⟨g1, g2⟩ := List.mem_filter.mp hmin
      obtain ⟨i, hi, ei, hfi⟩ := fitting_memX.mp g1
      rw [ei] at g2 ⊢
      rw [Int.toNat_natCast, getD_atX hi] at g2
      simp only [decide_eq_true_eq] at g2
      have e1 : withCall s (i : Int) p = replaced s (i : Int) (put s[i] p) := by
        unfold withCall replaced
        rw [Int.toNat_natCast, getD_atX hi]
        rfl
      rw [e1]
      refine ⟨put_shOk hk hi hp hfi, ?_⟩
      rw [swap_eq hi, swap_perm (asShape_mem s).symm, g2, el, ← f3]
      exact h3
end Ct
set_option maxHeartbeats 0
open PySem PySem.W PySem.Calls PyProof.Rows
theorem PySem.Challenge.cw_callsthrough_k52_whole_keeper_never_bars_holds : PySem.Challenge.rw_callsthrough_k52_whole_keeper_never_bars.Holds := by
  w_on; o_law
  have left : LeftO CtHead.R.prog (view CtHead.R.prog [81]) CtHead.names (fun s => xlAt (view CtHead.R.prog [81]) [] s && recOk CtHead.R.toRowW.records s) CtHead.hk.obs CtHead.hk.val (6000 + 600) true :=
    HandSHeadRun.left_one (M := 6000) (by kernel_rfl) (Nat.ble_eq_true_of_le (by omega)) (fun s => by kernel_rfl) (Nat.ble_eq_true_of_le (by omega)) fun w os => by
      have z := CtHead.run w os
      have eo : CtHead.ob = fun s => CtHead.hk.obs s.abs := funext CtHead.ob_eq
      rw [eo] at z
      simp only [HandSHeadRun.endQ_eq, HandSHeadRun.seenQ_eq]
      exact z
  refine GW.holds_W (l := PySem.Challenge.rw_callsthrough_k52_whole_keeper_never_bars) (n := 63) (q := view CtHead.R.prog [81]) (loose := CtHead.names) (XP := XL (view CtHead.R.prog [81]) []) (YP := CtHead.hk.says) (d := HandSHeadRun.topDef CtHead.R.prog 81) (kwd := [])
    rfl left CtHead.hk.of CtHead.hk.keeps (fun s z => xl_of s (Bool.and_eq_true_iff.mp z).1) XL.keeps (by kernel_rfl) (by kernel_rfl) (by kernel_rfl) (fun s z => recFacts_of (Bool.and_eq_true_iff.mp z).2) (by rfl) (by first | assumption | decide +kernel) (by decide +kernel) ⟨rfl, rfl, rfl, rfl, rfl, by decide +kernel⟩ ?hw ?hc
  case hw => w_witness2
  case hc =>
    intro w s₀ s₁ mg mb fa a vs ns G Y hmg0 hobj hints hlen hg
    obtain ⟨K, KX, c⟩ := Y
    have hmg : mg ("law" : PySem.Str) = some (.ref fa) := by
      have e : (HandSHeadRun.topDef CtHead.R.prog 81).name = ("law" : PySem.Str) := by kernel_rfl
      rw [← e]
      exact hmg0
    have T : Ct.Txt K mg := Ct.txt_of KX G.T.g c
    obtain ⟨n, hn, hl⟩ := hlen
    have hn : some 63 = some n := hn
    cases hn
    refine GW.law_callW (mb := mb) (k := 40) (x := "law") (sp := Ct.spLawW K) KX G.T.g G.T.b G.T.builtins G.T.nolimit hg hobj hints (Nat.le_trans hl (by decide)) ⟨rfl, by decide, by decide⟩ hmg (fun base => Ct.ok_law T (GW.okw_all_shapes T) Ct.plain_law) fun H hS => ?_
    exact ⟨.ref a, ns, rfl, ⟨a, rfl, hS⟩, hl, fun _ => rfl⟩
