import PyProof.Rows.All
import PyProof.Gen
import HandS.GenOver
import HandS.ForMost
import HandS.GenList
import HandS.Call
import HandS.Ends
import HandS.ForExc
import HandS.IsInst
import HandS.Zip
import HandS.Conv
import HandS.Deep
import HandS.More
import HandS.Strs
import HandS.TupLen
import HandS.ExcInit
import HandS.OwnEq
import HandS.Property
import HandS.DictComp
import HandS.Flow
import HandS.Walk
import HandS.TupAny
import PySem.Challenge.RW_runledger_k13_whole_closed_lists
import HandS.SortRule
import HandS.Words
import HandS.List
import HandS.WordsExc
import PyProof.ReprRoads
import PyProof.CallFns
import HandS.DictTup
import KE.KDictZip
import PyProof.Rows.ZipGen
import HandS.Dict
import HandS.Iter
import PyProof.ReprLen
import HandS.Style
import HandS.ExcField
import HandS.TryOnly
import OpenK.AllK
set_option Elab.async false
set_option maxRecDepth 100000
/-! F1: the machine with delegating yields; runs of it as reachability; down to the scheduler. -/
namespace Yf
open PySem

/-- a yield of «yield from» over a generator that stands: the collector does not look -/
def Hush (s : Shared) (t : Thread) : Prop :=
  ∃ v l k a more kw p st fs b rest o, t = ⟨.yield v true l k, .builtin "proto.yield_from" ⟨.ref a :: more, kw⟩, p, st⟩ ∧ splitAtGen st = some (fs, b, rest) ∧
    fs.any Frame.guarded = false ∧ s.heap.get? a = some o ∧ o.genNumber?.isSome = true
def Soft (s : Shared) (t : Thread) : Prop := t.calm = true ∨ Hush s t

section
variable (den : Code → Sem PySem.Fin) (prog : Program) (w : World)

theorem life_hush {s : Shared} {t : Thread} (others : List Value) (h : Hush s t) (hz : s.asleep) : lifeStep den prog w others s t = step den prog w s t := by
  obtain ⟨v, l, k, a, more, kw, p, st, fs, b, rest, o, rfl, hsp, hg, ho, hn⟩ := h
  obtain ⟨hr, hc⟩ := hz
  obtain ⟨n, hn⟩ := Option.isSome_iff_exists.mp hn
  have shows : closingShows s fs (.builtin "proto.yield_from" ⟨.ref a :: more, kw⟩) true = false := by
    unfold closingShows delegateShows
    simp [hg, ho, hn, hr]
  simp [lifeStep, Thread.special, Thread.atCollectorCode, Thread.yieldsInsideHandler, collectorTurn?, hsp, shows, Thread.atItsEnd, stepCounting, hc]

theorem pick_hush {s : Shared} {t : Thread} (h : Hush s t) (hr : s.heap.life.registered = []) : (Config.single s t).pick w = .ok (.run 0, .single s t) := by
  have h1 : (Config.single s t).collect? w.params = none := by
    simp [Config.collect?, Config.single, (nothing_to_collect _ _ _ s t hr).1]
  have h2 : (Config.single s t).collectable = [] := by
    simp [Config.collectable, Config.single, (nothing_to_collect w.params _ _ s t hr).2]
  have h3 : (Config.single s t).moves w.params.profile = [.run 0] := by
    obtain ⟨v, l, k, a, more, kw, p, st, fs, b, rest, o, rfl, _⟩ := h
    simp [Config.moves, Config.single, movesFrom, Thread.moves, Thread.atomic, Thread.rests, Thread.tells]
  simp only [Config.pick, h1, h2, Config.pickThread, h3]
  cases w.params.lifetimes <;> simp

theorem run_hush {s : Shared} {t : Thread} (h : Hush s t) (hz : s.asleep) : (Config.single s t).run den prog w 0 = (step den prog w s t).lift := by
  have hl := fun others => life_hush den prog w others h hz
  obtain ⟨v, l, k, a, more, kw, p, st, fs, b, rest, o, rfl, _⟩ := h
  simp only [Config.run, Config.single]
  simp [hl, others_single, Thread.finalizes]
  split <;> simp_all [Step.lift, Config.single]

theorem sched_soft {s : Shared} {t : Thread} (h : Soft s t) (hz : s.asleep) :
    sstep den prog w (.single s t) = (step den prog w s t).lift ∨ step den prog w s t = .halt (.unsupported "lifetime:generator-with-cleanup-left-suspended") s := by
  rcases h with h | h
  · exact sstep_single den prog w s t h hz
  · exact .inl (by simp only [sstep, pick_hush w h hz.1, Config.move, run_hush den prog w h hz])

theorem Hush.same {s s' : Shared} {t t' : Thread} (h : Hush s t) (hs : s'.heap = s.heap) (ht : t'.forget = t.forget) : Hush s' t' := by
  obtain ⟨v, l, k, a, more, kw, p, st, fs, b, rest, o, rfl, hsp, hg, ho, hn⟩ := h
  obtain ⟨cur, code, pos, st'⟩ := t'
  simp only [Thread.forget, Thread.mk.injEq] at ht
  obtain ⟨rfl, rfl, rfl, hst⟩ := ht
  have e1 := splitAtGen_forgetAll st
  have e2 := splitAtGen_forgetAll st'
  rw [hst, e1, hsp] at e2
  cases hq : splitAtGen st' with
  | none => rw [hq] at e2; simp at e2
  | some x =>
    obtain ⟨fs', b', rest'⟩ := x
    rw [hq] at e2
    simp only [Option.map_some, Option.some.injEq, Prod.mk.injEq] at e2
    refine ⟨v, l, k, a, more, kw, pos, st', fs', b', rest', o, rfl, hq, ?_, by rw [hs]; exact ho, hn⟩
    rw [← any_guarded_forgetAll, ← e2.1, any_guarded_forgetAll]; exact hg
theorem Soft.same {s s' : Shared} {t t' : Thread} (h : Soft s t) (hs : s'.heap = s.heap) (ht : t'.forget = t.forget) : Soft s' t' := by
  rcases h with h | h
  · exact .inl (by rw [← Thread.calm_forget t', ht, Thread.calm_forget]; exact h)
  · exact .inr (h.same hs ht)
end

/-- from here the machine comes there, softly -/
inductive Go (M : Model) : Shared → Thread → Shared → Thread → Prop
  | refl {s t} : Go M s t s t
  | step {s t s₁ t₁ s₂ t₂} : Soft s t → stepK M.den M.prog M.w s t = .go s₁ t₁ → Go M s₁ t₁ s₂ t₂ → Go M s t s₂ t₂
theorem Go.trans {M : Model} {s t s₁ t₁ s₂ t₂} (a : Go M s t s₁ t₁) (b : Go M s₁ t₁ s₂ t₂) : Go M s t s₂ t₂ := by
  induction a with
  | refl => exact b
  | step h1 h2 _ ih => exact .step h1 h2 (ih b)

theorem go_sched {M : Model} {s t s₂ t₂} (h : Go M s t s₂ t₂) {o : Outcome} (hc : t₂.calm = true) (he : stepK M.den M.prog M.w s₂ t₂ = .halt o s₂) (ho : o.ends = true) :
    ∀ s' t', s'.forget = s.forget → t'.forget = t.forget → s'.asleep →
      ∃ n s'', schedN M.den M.prog M.w n (.single s' t') = .halted o s'' ∧ runN M.den M.prog M.w n s' t' = .halted o s'' ∧ s''.forget = s₂.forget := by
  induction h with
  | @refl s t =>
    intro s' t' hs ht hz
    have e := (stepK_forget M.den M.prog M.w s t).trans (step_same M.den M.prog M.w (s₁ := s) (s₂ := s') (t₁ := t) (t₂ := t') hs.symm ht.symm)
    rw [he] at e
    have hc' : t'.calm = true := by rw [← Thread.calm_forget t', ht, Thread.calm_forget]; exact hc
    cases hq : step M.den M.prog M.w s' t' with
    | go a b => rw [hq] at e; cases e
    | halt o' a =>
      rw [hq] at e
      simp only [Step.forget, Step.halt.injEq] at e
      obtain ⟨rfl, e2⟩ := e
      have hx : step M.den M.prog M.w s' t' ≠ .halt (.unsupported "lifetime:generator-with-cleanup-left-suspended") s' := fun z => by
        rw [hq] at z; simp only [Step.halt.injEq] at z; rw [z.1] at ho; simp [Outcome.ends] at ho
      have r := (sched_soft M.den M.prog M.w (s := s') (.inl hc') hz).resolve_right hx
      exact ⟨1, a, by simp only [schedN, r, hq, Step.lift], by simp only [runN, hq], e2.symm⟩
  | @step s t s₁ t₁ s₂ t₂ h1 h2 _ ih =>
    intro s' t' hs ht hz
    have e := (stepK_forget M.den M.prog M.w s t).trans (step_same M.den M.prog M.w (s₁ := s) (s₂ := s') (t₁ := t) (t₂ := t') hs.symm ht.symm)
    rw [h2] at e
    cases hq : step M.den M.prog M.w s' t' with
    | halt o' a => rw [hq] at e; cases e
    | go a b =>
      rw [hq] at e
      simp only [Step.forget, Step.go.injEq] at e
      have hsoft : Soft s' t' := h1.same (Shared.forget_eq hs).1 ht
      have r := (sched_soft M.den M.prog M.w hsoft hz).resolve_right (by rw [hq]; intro z; cases z)
      have hz' : a.asleep := Shared.asleep_of_life (step_life M.den M.prog M.w s' a t' b hq) hz
      obtain ⟨n, s'', q1, q2, q3⟩ := ih hc he a b e.1.symm e.2.symm hz'
      exact ⟨n + 1, s'', by simp only [schedN, r, hq, Step.lift]; exact q1, by simp only [runN, hq]; exact q2, q3⟩
end Yf
set_option Elab.async false
set_option maxRecDepth 100000
/-! F2: what the library's wp says, as a way of the machine over any stack; the judgement big. -/
namespace Yf
open PySem

def Wins (M : Model) (s : Shared) (t : Thread) (Ψ : Shared → Thread → Prop) : Prop := ∃ s' t', Go M s t s' t' ∧ Ψ s' t'
section
variable {M : Model} {s s₁ : Shared} {t t₁ : Thread} {Ψ Φ : Shared → Thread → Prop}
theorem Wins.here (h : Ψ s t) : Wins M s t Ψ := ⟨s, t, .refl, h⟩
theorem Wins.go (g : Go M s t s₁ t₁) (h : Wins M s₁ t₁ Ψ) : Wins M s t Ψ := let ⟨a, b, q, r⟩ := h; ⟨a, b, g.trans q, r⟩
theorem Wins.then (h : Wins M s t Φ) (k : ∀ a b, Φ a b → Wins M a b Ψ) : Wins M s t Ψ := let ⟨a, b, q, r⟩ := h; .go q (k a b r)
theorem go_of_step (h : M.step s t = .go s₁ t₁) : Go M s t s₁ t₁ := by
  cases hl : t.loud with
  | true => rw [Model.step_loud M hl] at h; cases h
  | false =>
    rw [Model.step_quiet M hl] at h
    refine .step (.inl ?_) h .refl
    rw [Thread.calm_eq, hl]
    cases hr : t.refused with
    | false => rfl
    | true =>
      obtain ⟨what, e⟩ := stepK_refused M.den M.prog M.w (s := s) hr
      rw [e] at h; cases h
theorem Wins.step (h : M.step s t = .go s₁ t₁) (k : Wins M s₁ t₁ Ψ) : Wins M s t Ψ := .go (go_of_step h) k
end

theorem go_of_reach {M : Model} {base : List Frame} {s t c p pre s' e} (h : Reach M base s t c p pre s' e) :
    ∃ t' c' p' pre', Exits e t' c' p' pre' ∧ Go M s ⟨t, c, p, pre ++ base⟩ s' ⟨t', c', p', pre' ++ base⟩ := by
  induction h with
  | exit hx => exact ⟨_, _, _, _, hx, .refl⟩
  | step hs _ ih =>
    obtain ⟨t', c', p', pre', hx, g⟩ := ih
    exact ⟨t', c', p', pre', hx, (go_of_step hs).trans g⟩

/-- a tree with its continuations -/
theorem wins_wrap {α : Type} {M : Model} {Γ : Ctx} {st : List Frame} (hΓ : Γ.Fits st) {Ψ : Shared → Thread → Prop} (K : α → Sem PySem.Fin) (J : Value → Sem PySem.Fin) (gd lv) (m : Sem α) :
    ∀ {Q : α → Pos → Shared → Prop} {E : Value → Pos → Shared → Prop} {p : Pos} {s : Shared}, Sem.wp M Γ m Q E p s →
      (∀ a p' s', Q a p' s' → Wins M s' ⟨K a, Γ.code, p', st⟩ Ψ) → (∀ x p' s', E x p' s' → Wins M s' ⟨J x, Γ.code, p', st⟩ Ψ) →
      Wins M s ⟨m.wrap K J gd lv, Γ.code, p, st⟩ Ψ := by
  induction m with
  | pure a => intro Q E p s h hQ _; exact hQ a p s h
  | raise x => intro Q E p s h _ hE; exact hE x p s h
  | unsupported what => intro Q E p s h; exact h.elim
  | finish x => intro Q E p s h; exact h.elim
  | register a k => intro Q E p s h; exact h.elim
  | yield v g l k => intro Q E p s h; exact h.elim
  | fork c k => intro Q E p s h; exact h.elim
  | await a f d l k => intro Q E p s h; exact h.elim
  | rule tag k ih => intro Q E p s h hQ hE; exact .step (step_rule ..) (ih () h hQ hE)
  | «at» p' k ih => intro Q E p s h hQ hE; exact .step (step_at ..) (ih () h hQ hE)
  | load a part k ih =>
    intro Q E p s h hQ hE
    obtain ⟨o, ho, h⟩ := h
    exact .step (step_load _ _ _ _ _ _ _ ho) (ih o h hQ hE)
  | update a part f k ih =>
    intro Q E p s h hQ hE
    exact .step (step_update _ _ _ _ _ _ _ _ h.1) (ih () h.2 hQ hE)
  | alloc o k ih => intro Q E p s h hQ hE; exact .step (step_alloc ..) (ih _ h hQ hE)
  | loadIfAlive a k ih => intro Q E p s h hQ hE; exact .step (step_loadIfAlive ..) (ih _ h hQ hE)
  | point l k ih => intro Q E p s h hQ hE; exact .step (step_point ..) (ih () h hQ hE)
  | fresh k ih => intro Q E p s h hQ hE; exact .step (step_fresh ..) (ih _ h hQ hE)
  | ask k ih => intro Q E p s h hQ hE; exact .step (step_ask ..) (ih _ h hQ hE)
  | choose src n k ih =>
    intro Q E p s h hQ hE
    exact .step (step_choose _ _ _ _ _ _ _ h.1) (ih _ h.2 hQ hE)
  | os q l k ih => intro Q E p s h hQ hE; exact .step (step_os ..) (ih _ h hQ hE)
  | call c hd g l k ih =>
    intro Q E p s h hQ hE
    obtain ⟨r, s₁, hret, h⟩ := h
    refine .step (step_call ..) ?_
    obtain ⟨t', c', p', pre', ⟨rfl, rfl⟩, go⟩ := go_of_reach (runs_reach hret _ (hΓ.enter c (fun x => (k x).wrap K J gd lv) hd (gd g) (lv l) p []))
    exact .go go (.step (step_leaf_ret ..) (ih r h hQ hE))
  | handled own k ih =>
    intro Q E p s h hQ hE
    refine .step (step_handled ..) ?_
    have h' : Sem.wp M Γ (k (if own then Γ.own else Γ.handled)) Q E p s := h
    have e : (topHandled (if own then ownFrames st else st)) = (if own then Γ.own else Γ.handled) := by
      cases own
      · exact hΓ.handled.symm
      · exact hΓ.own.symm
    rw [e]
    exact ih _ h' hQ hE
  | newGen c k ih => intro Q E p s h hQ hE; exact .step (step_newGen ..) (ih _ h hQ hE)
  | genState g k ih =>
    intro Q E p s h hQ hE
    obtain ⟨x, hg, h⟩ := h
    exact .step (step_genState _ _ _ _ _ _ hg) (ih _ h hQ hE)
  | resume g r l k ih =>
    intro Q E p s h hQ hE
    obtain ⟨res, s₁, hw, h⟩ := h
    have fin : ∀ {e₁ s₂ c₀ p₀ t₀ fs}, Runs M (Γ.wake c₀ p) p₀ t₀ fs (s.setGen g .running) e₁ s₂ → e₁.quiet = true → res = e₁.result → s₁ = s₂.setGen g e₁.genState →
        Wins M (s.setGen g .running) ⟨t₀, c₀, p₀, fs ++ .gen g (fun x => (k x).wrap K J gd lv) (lv l) Γ.code p :: st⟩ Ψ := by
      intro e₁ s₂ c₀ p₀ t₀ fs hr hq hres hs
      obtain ⟨t', c', p', pre', hx, go⟩ := go_of_reach (runs_reach hr _ (hΓ.wake c₀ g (fun x => (k x).wrap K J gd lv) (lv l) p))
      refine .go go (.step (step_exit_gen _ _ _ _ _ _ _ hx hq) ?_)
      rw [← hres, ← hs]
      exact ih res h hQ hE
    unfold Wakes at hw
    cases hg : s.gens[g]? with
    | none => rw [hg] at hw; exact hw.elim
    | some x =>
      rw [hg] at hw
      cases x with
      | fresh c =>
        cases r with
        | throw e =>
          obtain ⟨rfl, rfl⟩ := hw
          exact .step (step_resume_throwFresh _ _ _ _ _ _ _ _ hg) (ih _ h hQ hE)
        | send v =>
          cases v with
          | none =>
            obtain ⟨e₁, s₂, hr, hq, hres, hs⟩ := hw
            exact .step (step_resume_fresh _ _ _ _ _ _ _ hg) (fin (fs := []) hr hq hres hs)
          | _ =>
            obtain ⟨rfl, rfl⟩ := hw
            exact .step (step_resume_justStarted _ _ _ _ _ _ _ hg (by intro z; cases z)) (ih _ h hQ hE)
      | suspended k₀ l₀ c₀ p₀ fs cl =>
        obtain ⟨e₁, s₂, hr, hq, hres, hs⟩ := hw
        exact .step (step_resume_suspended _ _ _ _ _ _ _ _ hg) (fin hr hq hres hs)
      | running =>
        obtain ⟨rfl, rfl⟩ := hw
        exact .step (step_resume_running _ _ _ _ _ _ _ _ hg) (ih _ h hQ hE)
      | finished =>
        obtain ⟨rfl, rfl⟩ := hw
        exact .step (step_resume_finished _ _ _ _ _ _ _ _ hg) (ih _ h hQ hE)
  | stack k ih =>
    intro Q E p s h hQ hE
    refine .step (step_stack ..) ?_
    have h' : Sem.wp M Γ (k ((Γ.code, p) :: Γ.below)) Q E p s := h
    rw [hΓ.below] at h'
    exact ih _ h' hQ hE
  | thread k ih => intro Q E p s h hQ hE; exact .step (step_thread ..) (ih _ h hQ hE)
end Yf
set_option Elab.async false
set_option linter.all false
set_option maxRecDepth 100000
/-! F3: big: a tree's run over any stack, delegating yields allowed in the calls; RunOn: the same with what stands below. -/
namespace Yf
open PySem

theorem fits_eq {Γ : Ctx} {st : List Frame} (h : Γ.Fits st) : Γ = Ctx.of Γ.code st := by
  obtain ⟨c, a, b, d, e⟩ := Γ
  obtain ⟨h1, h2, h3, h4⟩ := h
  simp only at h1 h2 h3 h4
  subst h1; subst h2; subst h3; subst h4
  rfl
theorem of_ret (c c0 : Code) (k h g l p kp) (st : List Frame) : Ctx.of c (.ret k h g l c0 p kp :: st) = (Ctx.of c0 st).enter c h p :=
  (fits_eq ((Ctx.fits_of c0 st).enter c k h g l p kp)).symm
theorem of_gen (c c0 : Code) (g k l p) (st : List Frame) : Ctx.of c (.gen g k l c0 p :: st) = (Ctx.of c0 st).wake c p :=
  (fits_eq ((Ctx.fits_of c0 st).wake c g k l p)).symm
theorem wrap_id {α : Type} (m : Sem α) : m.wrap .pure .raise id id = m := by
  induction m <;> simp only [Sem.wrap, id, *]

def big {α : Type} (M : Model) (A : Around) (t : Sem α) (Q : α → Shared → Prop) (E : Value → Shared → Prop) (s : Shared) : Prop :=
  ∀ (c : Code) (st : List Frame) (p : Pos), (Ctx.of c st).In A → ∀ (K : α → Sem PySem.Fin) (J : Value → Sem PySem.Fin) (gd : Bool → Bool) (lv : List Value → List Value) (Ψ : Shared → Thread → Prop),
    (∀ a s' p', s.gens.size ≤ s'.gens.size → Q a s' → Wins M s' ⟨K a, c, p', st⟩ Ψ) → (∀ x s' p', s.gens.size ≤ s'.gens.size → E x s' → Wins M s' ⟨J x, c, p', st⟩ Ψ) → Wins M s ⟨t.wrap K J gd lv, c, p, st⟩ Ψ
def bigCode (M : Model) (A : Around) (c : Code) (R : Result → Shared → Prop) (s : Shared) : Prop :=
  ∀ (st : List Frame) (p : Pos), (Ctx.of c st).Below A → ∀ Ψ : Shared → Thread → Prop, (∀ r s' c' p', s.gens.size ≤ s'.gens.size → R r s' → Wins M s' ⟨leafOf r, c', p', st⟩ Ψ) → Wins M s ⟨M.den c, c, p, st⟩ Ψ

section
variable {α β : Type} {M : Model} {A : Around} {E : Value → Shared → Prop} {s : Shared}
theorem big_of {t : Sem α} {Q : α → Shared → Prop} (h : wpAny M A t Q E s) : big M A t Q E s := fun c st p hA K J gd lv Ψ hQ hE =>
  wins_wrap (Ctx.fits_of c st) K J gd lv t (GenW.wp_gsz M (Ctx.of c st) s.gens.size t _ _ p s (Nat.le_refl _) (h (Ctx.of c st) p hA)) (fun a p' s' q => hQ a s' p' q.1 q.2) fun x p' s' q => hE x s' p' q.1 q.2
theorem big_mono {t : Sem α} {Q Q' : α → Shared → Prop} {E' : Value → Shared → Prop} (h : big M A t Q E s) (hQ : ∀ a s', s.gens.size ≤ s'.gens.size → Q a s' → Q' a s') (hE : ∀ e s', s.gens.size ≤ s'.gens.size → E e s' → E' e s') : big M A t Q' E' s :=
  fun c st p hA K J gd lv Ψ q e => h c st p hA K J gd lv Ψ (fun a s' p' n z => q a s' p' n (hQ a s' n z)) fun x s' p' n z => e x s' p' n (hE x s' n z)
theorem big_thn {t : Sem α} {Q Q' : α → Shared → Prop} (h : big M A t Q E s) (hQ : ∀ a s', s.gens.size ≤ s'.gens.size → Q a s' → Q' a s') : big M A t Q' E s := big_mono h hQ fun _ _ _ z => z
theorem big_wrap {m : Sem α} {K : α → Sem β} {J : Value → Sem β} {gd lv} {Q : β → Shared → Prop} (h : big M A m (fun a s' => big M A (K a) Q E s') (fun x s' => big M A (J x) Q E s') s) : big M A (m.wrap K J gd lv) Q E s := by
  intro c st p hA K' J' gd' lv' Ψ hQ hE
  rw [Sem.wrap_wrap]
  exact h c st p hA _ _ _ _ Ψ (fun a s' p' n z => z c st p' hA K' J' gd' lv' Ψ (fun a s2 p2 m q => hQ a s2 p2 (Nat.le_trans n m) q) (fun a s2 p2 m q => hE a s2 p2 (Nat.le_trans n m) q))
    fun x s' p' n z => z c st p' hA K' J' gd' lv' Ψ (fun a s2 p2 m q => hQ a s2 p2 (Nat.le_trans n m) q) (fun a s2 p2 m q => hE a s2 p2 (Nat.le_trans n m) q)
theorem big_pure {a : α} {Q : α → Shared → Prop} (h : Q a s) : big M A (.pure a) Q E s := fun _ _ p _ _ _ _ _ _ hQ _ => hQ a s p (Nat.le_refl _) h
theorem big_raise {e : Value} {Q : α → Shared → Prop} (h : E e s) : big M A (.raise e : Sem α) Q E s := fun _ _ p _ _ _ _ _ _ _ hE => hE e s p (Nat.le_refl _) h
theorem big_bind {m : Sem α} {f : α → Sem β} {Q : β → Shared → Prop} (h : big M A m (fun a s' => big M A (f a) Q E s') E s) : big M A (m >>= f) Q E s := by
  rw [Sem.bind_eq_wrap']
  exact big_wrap (big_mono h (fun _ _ _ z => z) fun x s' _ z => big_raise z)
theorem big_onRaise {m : Sem α} {k : Value → Sem Unit} {Q : α → Shared → Prop} (h : big M A m Q (fun e s' => big M A (k e) (fun _ s'' => E e s'') E s') s) : big M A (m.onRaise k) Q E s := by
  rw [Sem.onRaise_eq_wrap]
  refine big_wrap (big_mono h (fun a s' _ z => big_pure z) fun x s' _ z => ?_)
  show big M A (k x >>= fun _ => Sem.raise x) Q E s'
  exact big_bind (big_mono z (fun _ _ _ y => big_raise y) fun _ _ _ y => y)
theorem big_attempt {m : Sem α} {Q : Except Value α → Shared → Prop} (h : big M A m (fun a => Q (.ok a)) (fun e => Q (.error e)) s) : big M A m.attempt Q E s := by
  unfold Sem.attempt
  rw [Sem.tryCatch_eq_wrap, Sem.bind_eq_wrap, Sem.wrap_wrap]
  refine big_wrap (big_mono h (fun a s' _ z => ?_) fun x s' _ z => ?_)
  · exact big_pure z
  · exact big_pure z
theorem big_keep {vs : List Value} {m : Sem α} {Q : α → Shared → Prop} (h : big M A m Q E s) : big M A (m.keep vs) Q E s := by
  rw [Sem.keep_eq_wrap]
  exact big_wrap (big_mono h (fun _ _ _ z => big_pure z) fun _ _ _ z => big_raise z)
theorem big_holding {vs : List Value} {m : Sem α} {Q : α → Shared → Prop} (h : big M A m Q E s) : big M A (holding vs m) Q E s := by
  unfold holding
  split
  · exact h
  · exact big_keep h
theorem big_callc {c h g l} {k : Result → Sem α} {Q : α → Shared → Prop} (hc : bigCode M (A.mark h) c (fun r s' => big M A (k r) Q E s') s) (hnb : h ≠ some byPass) : big M A (.call c h g l k) Q E s := by
  intro c0 st p hA K J gd lv Ψ hQ hE
  refine .step (step_call ..) ?_
  refine hc _ p ?_ Ψ fun r s' c' p' n z => ?_
  · rw [of_ret]
    exact hA.enter c h p hnb
  · exact .step (step_leaf_ret ..) (z c0 st p hA K J gd lv Ψ (fun a s2 p2 m q => hQ a s2 p2 (Nat.le_trans n m) q) (fun a s2 p2 m q => hE a s2 p2 (Nat.le_trans n m) q))

theorem bigCode_of {c : Code} {R : Result → Shared → Prop} (h : codeAny M A c R s) : bigCode M A c R s := by
  intro st p hB Ψ hR
  obtain ⟨r, s', hr, q⟩ := h (Ctx.of c st) p rfl hB
  have n := GenW.returns_gsz hr
  obtain ⟨t', c', p', pre', ⟨rfl, rfl⟩, go⟩ := go_of_reach (runs_reach hr st (Ctx.fits_of c st))
  exact .go go (hR r s' c' p' n q)
theorem bigCode_mono {c : Code} {R R' : Result → Shared → Prop} (h : bigCode M A c R s) (hR : ∀ r s', R r s' → R' r s') : bigCode M A c R' s := fun st p hB Ψ k => h st p hB Ψ fun r s' c' p' n z => k r s' c' p' n (hR r s' z)
theorem bigCode_tree {c : Code} {R : Result → Shared → Prop}
    (h : big M (A.under c) (M.den c) (fun fin s' => match fin with | .done f => R (.ok f) s' | .again c' => c'.quiet = true ∧ bigCode M A c' R s') (fun e s' => R (.error e) s') s) : bigCode M A c R s := by
  intro st p hB Ψ hR
  have z := h c st p hB.in .pure .raise id id Ψ (fun fin s' p' n q => ?_) (fun x s' p' n q => hR (.error x) s' c p' n q)
  · rw [wrap_id] at z; exact z
  · cases fin with
    | done f => exact hR (.ok f) s' c p' n q
    | again c' => exact .step (step_again _ _ _ _ _ _ q.1) (q.2 st p' (hB.goto c') Ψ fun r s2 c2 p2 m w => hR r s2 c2 p2 (Nat.le_trans n m) w)
end

/-! ### what stands below -/
/-- the run of t, fs above what stands below: B tells of the frames below what they want (and of how many generators there are at least) -/
def RunOn (M : Model) (A : Around) (B : Nat → List Frame → (Shared → Thread → Prop) → Prop) (c : Code) (t : Sem PySem.Fin) (fs : List Frame) (s : Shared) : Prop :=
  ∀ (n : Nat), n ≤ s.gens.size → ∀ (st : List Frame) (p : Pos) (Ψ : Shared → Thread → Prop), (Ctx.of c st).Woken A → B n st Ψ → Wins M s ⟨t, c, p, fs ++ st⟩ Ψ
section
variable {M : Model} {A : Around} {B : Nat → List Frame → (Shared → Thread → Prop) → Prop} {c : Code} {fs : List Frame} {s : Shared}
theorem run_wrap {α : Type} {m : Sem α} {K : α → Sem PySem.Fin} {J : Value → Sem PySem.Fin} {gd lv}
    (h : big M (A.over c fs) m (fun a s' => RunOn M A B c (K a) fs s') (fun x s' => RunOn M A B c (J x) fs s') s) : RunOn M A B c (m.wrap K J gd lv) fs s := by
  intro n hn st p Ψ hW hB
  refine h c (fs ++ st) p ?_ K J gd lv Ψ (fun a s' p' m z => z n (Nat.le_trans hn m) st p' Ψ hW hB) fun x s' p' m z => z n (Nat.le_trans hn m) st p' Ψ hW hB
  rw [Ctx.of_append]
  exact hW.over fs
theorem run_bind {α : Type} {m : Sem α} {K : α → Sem PySem.Fin} (h : big M (A.over c fs) m (fun a s' => RunOn M A B c (K a) fs s') (fun x s' => RunOn M A B c (.raise x) fs s') s) : RunOn M A B c (m >>= K) fs s := by
  rw [Sem.bind_eq_wrap']; exact run_wrap h
theorem run_at {p' : Pos} {k : Unit → Sem PySem.Fin} (h : RunOn M A B c (k ()) fs s) : RunOn M A B c (.at p' k) fs s := fun n hn st _ Ψ hW hB => .step (step_at ..) (h n hn st p' Ψ hW hB)
theorem run_point {l : List Value} {k : Unit → Sem PySem.Fin} (h : RunOn M A B c (k ()) fs s) : RunOn M A B c (.point l k) fs s := fun n hn st p Ψ hW hB => .step (step_point ..) (h n hn st p Ψ hW hB)
theorem run_rule {tag : String} {k : Unit → Sem PySem.Fin} (h : RunOn M A B c (k ()) fs s) : RunOn M A B c (.rule tag k) fs s := fun n hn st p Ψ hW hB => .step (step_rule ..) (h n hn st p Ψ hW hB)
theorem run_call {c' : Code} {h g l} {k : Result → Sem PySem.Fin} (hc : ∀ p, RunOn M A B c' (M.den c') (.ret k h g l c p [] :: fs) s) : RunOn M A B c (.call c' h g l k) fs s :=
  fun n hn st p Ψ hW hB => .step (step_call ..) (hc p n hn st p Ψ (hW.goto c') hB)
theorem run_leaf {k h g l c₁ p₁ kp} (r : Result) (hk : RunOn M A B c₁ (k r) fs s) : RunOn M A B c (leafOf r) (.ret k h g l c₁ p₁ kp :: fs) s :=
  fun n hn st p Ψ hW hB => .step (step_leaf_ret ..) (hk n hn st p₁ Ψ (hW.goto c₁) hB)
theorem run_again {c' : Code} (hq : c'.quiet = true) (hc : RunOn M A B c' (M.den c') fs s) : RunOn M A B c (.pure (.again c')) fs s :=
  fun n hn st p Ψ hW hB => .step (step_again _ _ _ _ _ _ hq) (hc n hn st p Ψ (hW.goto c') hB)
end
/-- below stands one who waits for a result -/
def Waits (M : Model) (R : Result → Shared → Prop) (_ : Nat) (st : List Frame) (Ψ : Shared → Thread → Prop) : Prop := ∀ r s' c' p', R r s' → Wins M s' ⟨leafOf r, c', p', st⟩ Ψ
theorem run_end {M : Model} {A : Around} {R : Result → Shared → Prop} {c : Code} {s : Shared} (r : Result) (h : R r s) : RunOn M A (Waits M R) c (leafOf r) [] s := fun n _ st p Ψ _ hB => hB r s c p h
/-- a frame pushed: the around of the code above it -/
theorem over_ret {A : Around} {c c' : Code} {fs : List Frame} {k : Result → Sem PySem.Fin} {g : Bool} {l kp : List Value} {p : Pos} : A.over c' (.ret k none g l c p kp :: fs) = (A.over c fs).under c' := by
  unfold Around.over Around.under
  congr 1
  · show A.depth + frameCount ((c, p) :: fs.map Frame.where_) + c'.weight = A.depth + frameCount (fs.map Frame.where_) + c.weight + c'.weight
    rw [frameCount_cons]; omega
  · show pushEnvs c'.envs (pushEnvs (envsOf ((c, p) :: fs.map Frame.where_)) A.frames) = _
    rw [envsOf_cons]
    simp only [pushEnvs_eq]
    cases A.frames <;> simp [List.append_assoc]
  · show pushGuards c'.guards (pushGuards (guardsOf ((c, p) :: fs.map Frame.where_)) A.guards) = _
    rw [guardsOf_cons]
    simp only [pushGuards_eq]
    cases A.guards <;> simp [List.append_assoc]
  · show A.units + unitsOf ((c, p) :: fs.map Frame.where_) + c'.cUnits = A.units + unitsOf (fs.map Frame.where_) + c.cUnits + c'.cUnits
    rw [unitsOf_cons]; omega
end Yf
set_option Elab.async false
set_option linter.all false
set_option maxRecDepth 100000
set_option maxHeartbeats 1000000
/-! F4: statements whose calls may hold delegating yields: above what stands below (B, by an index), by HandS's readings. -/
namespace Yf
open PySem PySem.Spec PyProof.Rows L2 GenW

/-- where the code stands: its around, no guard about -/
structure Site (X : Cx) (A : Around) (c : Code) (fs : List Frame) (gd : Bool → Bool) : Prop where
  over : A.over c fs = X.A
  split : splitAtGen fs = none
  guard : fs.any Frame.guarded = false
  gd : gd false = false
  nox : ∀ x s, X.xe x s → False
/-- what is wanted behind a statement, by the index -/
structure EndsI (ι : Type) where
  nx : ι → L2.St → Hp → Prop
  rt : ι → VK
  bk : ι → L2.St → Hp → Prop := fun _ _ _ => False
  ct : ι → L2.St → Hp → Prop := fun _ _ _ => False
def EndsI.at {ι : Type} (D : EndsI ι) (i : ι) : Ends := { nx := D.nx i, rt := D.rt i, bk := D.bk i, ct := D.ct i }
abbrev TSI (ι : Type) := EndsI ι → ι → L2.St → Hp → Prop
abbrev Below (ι : Type) := ι → Nat → List Frame → (Shared → Thread → Prop) → Prop
structure GSt (X : Cx) (A : Around) {ι : Type} (B : Below ι) (pf : ι → List (Addr × Obj)) (st : Stmt) (t : TSI ι) : Prop where
  run : ∀ (i : ι) (ip : List (Addr × Obj)) (c : Code) (fs : List Frame) (K : Flow → Sem PySem.Fin) (J : Value → Sem PySem.Fin) (gd : Bool → Bool) (lv : List Value → List Value) (s : Shared) (σ : L2.St) (H : Hp) (D : EndsI ι),
    Site X A c fs gd → (∀ p ∈ ip, ∀ q ∈ pf i, q.1 ≠ p.1) → (∀ j f s', SP X (pf j ++ ip) (D.at j) f s' → RunOn (model X.prog X.w) A (B j) c (K f) fs s') → Inv X (pf i ++ ip) σ H s → t D i σ H →
    RunOn (model X.prog X.w) A (B i) c ((exec st X.env).wrap K J gd lv) fs s
structure GSts (X : Cx) (A : Around) {ι : Type} (B : Below ι) (pf : ι → List (Addr × Obj)) (st : List Stmt) (t : TSI ι) : Prop where
  run : ∀ (i : ι) (ip : List (Addr × Obj)) (c : Code) (fs : List Frame) (K : Flow → Sem PySem.Fin) (J : Value → Sem PySem.Fin) (gd : Bool → Bool) (lv : List Value → List Value) (s : Shared) (σ : L2.St) (H : Hp) (D : EndsI ι),
    Site X A c fs gd → (∀ p ∈ ip, ∀ q ∈ pf i, q.1 ≠ p.1) → (∀ j f s', SP X (pf j ++ ip) (D.at j) f s' → RunOn (model X.prog X.w) A (B j) c (K f) fs s') → Inv X (pf i ++ ip) σ H s → t D i σ H →
    RunOn (model X.prog X.w) A (B i) c ((execs st X.env).wrap K J gd lv) fs s
/-- an expression whose calls may hold delegating yields -/
structure PE2 (X : Cx) (e : Expr) (t : TE) : Prop where
  run : ∀ (pins : List (Addr × Obj)) (s : Shared) (σ : L2.St) (H : Hp) (Q : VK), Inv X pins σ H s → t σ H Q → big (model X.prog X.w) X.A (eval e X.env) (EP X pins σ Q) X.xe s
structure PT2 (X : Cx) (e : Expr) (t : TT) : Prop where
  run : ∀ (pins : List (Addr × Obj)) (s : Shared) (σ : L2.St) (H : Hp) (Q : Bool → Hp → Prop), Inv X pins σ H s → t σ H Q → big (model X.prog X.w) X.A (isTrue e X.env (eval e X.env)) (TP X pins σ Q) X.xe s
theorem PT.big {X : Cx} {e : Expr} {t : TT} (h : PT X e t) : PT2 X e t := ⟨fun pins s σ H Q I q => big_of (h.run pins s σ H Q I q)⟩

/-- the head of a wrapped bind -/
theorem run_bwrap {α β : Type} {M : Model} {A : Around} {B : Nat → List Frame → (Shared → Thread → Prop) → Prop} {c : Code} {fs : List Frame} {s : Shared} {m : Sem α} {f : α → Sem β} {K : β → Sem PySem.Fin} {J : Value → Sem PySem.Fin} {gd lv}
    (h : big M (A.over c fs) m (fun a s' => RunOn M A B c ((f a).wrap K J gd lv) fs s') (fun x s' => RunOn M A B c (J x) fs s') s) : RunOn M A B c ((m >>= f).wrap K J gd lv) fs s := by
  rw [Sem.bind_eq_wrap' m f, Sem.wrap_wrap]
  exact run_wrap h

theorem hipj {ι : Type} {pf : ι → List (Addr × Obj)} {ip : List (Addr × Obj)} (hpf : ∀ i j, (pf i).map (·.1) = (pf j).map (·.1)) (i j : ι) (h : ∀ p ∈ ip, ∀ q ∈ pf i, q.1 ≠ p.1) : ∀ p ∈ ip, ∀ q ∈ pf j, q.1 ≠ p.1 := fun p hp q hq => by
  have : q.1 ∈ (pf j).map (·.1) := List.mem_map_of_mem hq
  rw [hpf j i] at this
  obtain ⟨q', y, e⟩ := List.mem_map.mp this
  rw [← e]
  exact h p hp q' y
section
variable {X : Cx} {A : Around} {ι : Type} {B : Below ι} {pf : ι → List (Addr × Obj)} {st : Stmt} {rest : List Stmt}
def tIp (t : TS) : TSI ι := fun D i σ H => t (D.at i) σ H
theorem gst_ps {t : TS} (h : PS X st t) : GSt X A B pf st (tIp t) := by
  refine ⟨fun i ip c fs K J gd lv s σ H D g hip k I q => run_wrap ?_⟩
  rw [g.over]
  exact big_mono (big_of (h.run _ s σ H (D.at i) I q)) (fun f s' _ z => k i f s' z) fun x s' _ z => (g.nox x s' z).elim
theorem gsts_ps {t : TS} (h : PSs X rest t) : GSts X A B pf rest (tIp t) := by
  refine ⟨fun i ip c fs K J gd lv s σ H D g hip k I q => run_wrap ?_⟩
  rw [g.over]
  exact big_mono (big_of (h.run _ s σ H (D.at i) I q)) (fun f s' _ z => k i f s' z) fun x s' _ z => (g.nox x s' z).elim
theorem gsts_nil : GSts X A B pf [] (fun D i σ H => D.nx i σ H) :=
  ⟨fun i ip c fs K J gd lv s σ H D g hip k I q => k i .next s ⟨σ, H, I, q⟩⟩
def tIseq (t u : TSI ι) : TSI ι := fun D i σ H => t { D with nx := u D } i σ H
theorem gsts_cons {t u : TSI ι} (hpf : ∀ i j, (pf i).map (·.1) = (pf j).map (·.1)) (a : GSt X A B pf st t) (b : GSts X A B pf rest u) : GSts X A B pf (st :: rest) (tIseq t u) := by
  refine ⟨fun i ip c fs K J gd lv s σ H D g hip k I q => ?_⟩
  rw [execs_cons_wrap]
  refine a.run i ip c fs _ J gd lv s σ H { D with nx := u D } g hip (fun j f s' z => ?_) I q
  cases f with
  | next =>
    obtain ⟨σ', H', I', q'⟩ := z
    exact b.run j ip c fs K J gd lv s' σ' H' D g (hipj hpf i j hip) k I' q'
  | brk => exact k j .brk s' z
  | cont => exact k j .cont s' z
  | ret u => exact k j (.ret u) s' z
theorem gsts_one {t : TSI ι} (a : GSt X A B pf st t) : GSts X A B pf [st] t := by
  refine ⟨fun i ip c fs K J gd lv s σ H D g hip k I q => ?_⟩
  rw [execs_cons_wrap]
  refine a.run i ip c fs _ J gd lv s σ H D g hip (fun j f s' z => ?_) I q
  cases f with
  | next => exact k j .next s' z
  | brk => exact k j .brk s' z
  | cont => exact k j .cont s' z
  | ret u => exact k j (.ret u) s' z
/-- an if -/
def tIif (c : TT) (t u : TSI ι) : TSI ι := fun D i σ H => c σ H fun b H1 => if b = true then t D i σ H1 else u D i σ H1
theorem gst_if {e : Expr} {a b : List Stmt} {tc : TT} {t u : TSI ι} {pos : Pos} (hc : PT2 X e tc) (ha : GSts X A B pf a t) (hb : GSts X A B pf b u) : GSt X A B pf (.If e a b pos) (tIif tc t u) := by
  refine ⟨fun i ip c fs K J gd lv s σ H D g hip k I q => ?_⟩
  rw [exec_If]
  refine run_bwrap (big_of (wpAny_standAt ?_))
  refine run_bwrap ?_
  rw [g.over]
  refine big_mono (hc.run _ s σ H _ I q) (fun v s' _ z => ?_) fun x s' _ z => (g.nox x s' z).elim
  obtain ⟨H1, I1, q1⟩ := z
  cases v with
  | true => exact ha.run i ip c fs K J gd lv s' σ H1 D g hip k I1 q1
  | false => exact hb.run i ip c fs K J gd lv s' σ H1 D g hip k I1 q1

/-- where a loop's code stands -/
theorem Site.loop {c c' : Code} {fs : List Frame} {gd : Bool → Bool} {k : Result → Sem PySem.Fin} {l kp : List Value} {p : Pos} (g : Site X A c fs gd) (hw : c'.weight = 0) (hu : c'.cUnits = 0) : Site X A c' (.ret k none (gd false) l c p kp :: fs) id where
  over := (over_loop hw hu).trans g.over
  split := by rw [splitAtGen_ret, g.split]; rfl
  guard := by
    show (gd false || fs.any Frame.guarded) = false
    rw [g.gd, g.guard]; rfl
  gd := rfl
  nox := g.nox
/-- a for: W by the index, the turn, the measure -/
def tIfor (wi : TI) (g : TG) (tb : TSI ι) : TSI ι := fun D i σ H => wi σ H fun J H1 => ∃ W : ι → Nat → Nat → L2.St → Hp → Prop, (∃ m, W i 0 m σ H1) ∧ ∀ i j m σ H, W i j m σ H →
  (J.stop j H ∧ D.nx i σ H) ∨ (J.go j H ∧ ∃ N : ι → L2.St → Hp → Prop, (∀ i' σ' H', N i' σ' H' → ∃ m', m' < m ∧ W i' (j + 1) m' σ' H') ∧ ∀ x H', J.yld j H x H' → g x σ H' fun σ2 H2 => tb { D with nx := N, ct := N, bk := D.nx } i σ2 H2)
theorem fpOk_of {pins pins' : List (Addr × Obj)} {H : Hp} {b : Addr} (h : FpOk X pins H b) (hp : ∀ p ∈ pins', ∃ p' ∈ pins, p'.1 = p.1) : FpOk X pins' H b := by
  obtain ⟨a1, a2, a3, a4, a5, a6⟩ := h
  refine ⟨a1, a2, a3, a4, a5, fun p q => ?_⟩
  rcases List.mem_append.mp q with q | q
  · exact a6 p (List.mem_append_left _ q)
  · obtain ⟨p', q', e⟩ := hp p q
    rw [← e]
    exact a6 p' (List.mem_append_right _ q')
theorem gst_for {tg iter : Expr} {body : List Stmt} {wi : TI} {g : TG} {tb : TSI ι} {pos : Pos} (hpf : ∀ i j, (pf i).map (·.1) = (pf j).map (·.1)) (hc : X.calm = true) (hi : PI X tg iter wi) (hg : PG X tg g) (hb : GSts X A B pf body tb)
    (hs : ∀ x, foldedSetIterable iter X.env x = pure x := by intro _; rfl) : GSt X A B pf (.For tg iter body [] pos) (tIfor wi g tb) := by
  refine ⟨fun i ip c fs K J gd lv s σ H D gl hip k I q => ?_⟩
  rw [exec_For]
  refine run_bwrap (big_of (wpAny_standAt ?_))
  refine run_bwrap ?_
  rw [gl.over]
  refine big_mono (big_of (hi.run _ s σ H _ I q)) (fun v s1 _ h1 => ?_) fun x s' _ z => (gl.nox x s' z).elim
  refine run_bwrap (big_of (wpAny_of_eq (hs v) ?_))
  refine run_bwrap (big_of (wpAny_standAt ?_))
  refine run_bwrap ?_
  rw [gl.over]
  refine big_mono (big_holding (big_of h1)) (fun itv s2 _ h2 => ?_) fun x s' _ z => (gl.nox x s' z).elim
  obtain ⟨it, fp, tn, Ji, H2, e, I2, T, st2, f2, W, ⟨m0, w0⟩, turn⟩ := h2
  subst e
  have addrs : ∀ (a b : ι) (p : Addr × Obj), p ∈ pf a ++ ip → ∃ p' ∈ pf b ++ ip, p'.1 = p.1 := fun a b p hp => by
    rcases List.mem_append.mp hp with z | z
    · have : p.1 ∈ (pf a).map (·.1) := List.mem_map_of_mem z
      rw [hpf a b] at this
      obtain ⟨p', y, e⟩ := List.mem_map.mp this
      exact ⟨p', List.mem_append_left _ y, e⟩
    · exact ⟨p, List.mem_append_right _ z, rfl⟩
  have stat : ∀ {a : ι} {H' : Hp}, (∀ b ∈ fp, H' b = none) → ∀ b ∈ fp, FpOk X (pf a ++ ip) H' b := fun {a H'} hn b hb => by
    have z := fpOk_of (f2 b hb) (addrs a i)
    exact ⟨hn b hb, z.2⟩
  have hip2 : ∀ (a : ι) (h : Heap), ∀ p ∈ ip ++ pinsAt fp h, ∀ q ∈ pf a, q.1 ≠ p.1 := fun a h p hp q hq => by
    rcases List.mem_append.mp hp with z | z
    · exact hipj hpf i a hip p z q hq
    · obtain ⟨p', y, e⟩ := addrs a i q (List.mem_append_left _ hq)
      rw [← e]
      exact (f2 p.1 (of_pinsAt z).1).2.2.2.2.2 p' (List.mem_append_right _ y)
  refine run_call fun p => ?_
  have g2 : ∀ kk : Result → Sem PySem.Fin, Site X A (.forLoop tg (.ref it) body [] X.env) (.ret kk none (gd false) (lv []) c p [] :: fs) id := fun kk => gl.loop rfl rfl
  have loop : ∀ (m j : Nat) (a : ι) (s3 : Shared) (σ3 : L2.St) (H3 : Hp), Inv X (pf a ++ ip) σ3 H3 s3 → tn j s3.heap → (∀ b ∈ fp, H3 b = none) → W a j m σ3 H3 →
      RunOn (model X.prog X.w) A (B a) (.forLoop tg (.ref it) body [] X.env) ((model X.prog X.w).den (.forLoop tg (.ref it) body [] X.env))
        (.ret (fun r => ((match r with | .ok f => (.pure f : Sem Flow) | .error e => .raise e).onRaise fun (x : Value) => do
          if (← field x 1) == Value.none then unsupported "frame.own-activation:exception-without-traceback"
          setFlight x X.env.frame).wrap K J gd lv) none (gd false) (lv []) c p [] :: fs) s3 := by
    intro m
    induction m using Nat.strongRecOn with
    | ind m ih =>
      intro j a s3 σ3 H3 I3 st3 fr3 w3
      show RunOn _ A (B a) _ ((forTurn tg (.ref it) body [] X.env).onRaise (fun x => do noteFrame x X.env; theTreesLotGoes x)) _ s3
      rw [Sem.onRaise_eq_wrap]
      unfold forTurn
      refine run_bwrap (big_of (wpAny_standAt ?_))
      rcases turn a j m σ3 H3 w3 with ⟨stop, qn⟩ | ⟨go, N, hN, step⟩
      · refine run_bwrap ?_
        rw [(g2 _).over]
        refine big_mono (big_of (wpAny_onRaise (wpAny_mono (T.done X rfl rfl rfl hc j _ s3 σ3 H3 (fun _ _ => False) I3 (stat fr3) st3 stop) (fun r s4 hh => hh) fun _ _ z => z.elim))) (fun r s4 _ hh => ?_) fun x s' _ (z : False) => z.elim
        obtain ⟨hr, I4⟩ := hh
        subst hr
        refine run_again rfl ?_
        show RunOn _ A (B a) _ ((do return PySem.Fin.done (← (execs [] X.env).onRaise (fun x => do noteFrame x X.env; theTreesLotGoes x)))) _ s4
        refine run_bind ?_
        refine big_of (wpAny_onRaise (wpAny_execs_nil ?_))
        exact run_leaf (.ok .next) (k a .next s4 ⟨σ3, H3, I4, qn⟩)
      · refine run_bwrap ?_
        rw [(g2 _).over]
        refine big_mono (big_of (wpAny_onRaise (wpAny_mono (T.item X rfl rfl rfl hc j _ s3 σ3 H3 (fun _ _ => False) I3 (stat fr3) st3 go) (fun r s4 hh => hh) fun _ _ z => z.elim))) (fun r s4 _ hh => ?_) fun x s' _ (z : False) => z.elim
        obtain ⟨u, hr, h4⟩ := hh
        subst hr
        refine run_bwrap ?_
        rw [(g2 _).over]
        refine big_mono (big_of h4) (fun _ s5 _ h5 => ?_) fun x s' _ (z : False) => z.elim
        obtain ⟨x, H5, I5, r5, y5, st5, fr5⟩ := h5
        have I5' := I5.pinned (stat fr5) (T.obj _ _ st5)
        refine run_bwrap ?_
        rw [(g2 _).over]
        refine big_mono (big_of (hg.run _ s5 σ3 H5 x u _ I5' r5 (step x H5 y5))) (fun _ s6 _ h6 => ?_) fun x s' _ z => (gl.nox x s' z).elim
        obtain ⟨σ6, H6, I6, q6⟩ := h6
        rw [List.append_assoc] at I6
        rw [Sem.bind_eq_wrap', Sem.wrap_wrap]
        refine hb.run a (ip ++ pinsAt fp s5.heap) _ _ _ _ _ _ s6 σ6 H6 _ (g2 _) (hip2 a s5.heap) (fun b f s7 q7 => ?_) I6 q6
        have again : ∀ {σ7 : L2.St} {H7 : Hp}, Inv X (pf b ++ (ip ++ pinsAt fp s5.heap)) σ7 H7 s7 → N b σ7 H7 → RunOn (model X.prog X.w) A (B b) (.forLoop tg (.ref it) body [] X.env) (.pure (.again (.forLoop tg (.ref it) body [] X.env))) (.ret _ none (gd false) (lv []) c p [] :: fs) s7 := fun {σ7 H7} I7 n7 => by
          obtain ⟨m', hm, w7⟩ := hN b σ7 H7 n7
          have I7' : Inv X ((pf b ++ ip) ++ pinsAt fp s5.heap) σ7 H7 s7 := by rw [List.append_assoc]; exact I7
          refine run_again rfl (ih m' hm (j + 1) b s7 σ7 H7 I7'.unpinned (T.keep _ _ _ st5 fun z hz o e => (I7'.pin (z, o) (List.mem_append_right _ (List.mem_append_right _ (mem_pinsAt hz e)))).1) (fun z hz => ?_) w7)
          obtain ⟨o, e, d⟩ := T.obj _ _ st5 z hz
          exact (I7'.pin (z, o) (List.mem_append_right _ (List.mem_append_right _ (mem_pinsAt hz e)))).2.1
        have I7s : ∀ {σ7 : L2.St} {H7 : Hp}, Inv X (pf b ++ (ip ++ pinsAt fp s5.heap)) σ7 H7 s7 → Inv X (pf b ++ ip) σ7 H7 s7 := fun {σ7 H7} I7 => by
          have I7' : Inv X ((pf b ++ ip) ++ pinsAt fp s5.heap) σ7 H7 s7 := by rw [List.append_assoc]; exact I7
          exact I7'.unpinned
        cases f with
        | next => obtain ⟨σ7, H7, I7, n7⟩ := q7; exact again I7 n7
        | cont => obtain ⟨σ7, H7, I7, n7⟩ := q7; exact again I7 n7
        | brk => obtain ⟨σ7, H7, I7, q8⟩ := q7; exact run_leaf (.ok .next) (k b .next s7 ⟨σ7, H7, I7s I7, q8⟩)
        | ret v => obtain ⟨x7, σ7, H7, I7, r7, q8⟩ := q7; exact run_leaf (.ok (.ret v)) (k b (.ret v) s7 ⟨x7, σ7, H7, I7s I7, r7, q8⟩)
  exact loop m0 0 i s2 σ H2 I2 st2 (fun b hb => (f2 b hb).1) w0
end
end Yf
set_option Elab.async false
set_option linter.all false
set_option maxRecDepth 100000
set_option maxHeartbeats 1000000
/-! F5: generators that hand out a known list; the one who draws may be a delegating generator. -/
namespace Yf
open PySem PySem.Spec PyProof.Rows L2 GenW

/-! ### a generator's object -/
def slotN (o : Obj) : Int := match (o.slots[0]? : Option (Option Value)) with
  | some (some (Value.int n _)) => n
  | _ => 0
def IsG (h : Heap) (a : Addr) (g : Nat) (n : Int) : Prop := ∃ o nm qn, h.get? a = some o ∧ o.cls = .type "generator" ∧ o.data = .fields #[.int g 0, nm, qn] ∧ slotN o = n
theorem IsG.of {h : Heap} {a : Addr} {g : Nat} (x : h.IsGen a g) : IsG h a g 0 := by
  obtain ⟨o, nm, qn, ho, hc, hd, hs⟩ := x
  exact ⟨o, nm, qn, ho, hc, hd, by unfold slotN; rw [hs]; rfl⟩
theorem IsG.same {h h' : Heap} {a : Addr} {g : Nat} {n : Int} (x : IsG h a g n) (e : h'.get? a = h.get? a) : IsG h' a g n := by
  obtain ⟨o, nm, qn, ho, r⟩ := x
  exact ⟨o, nm, qn, e.trans ho, r⟩
theorem IsG.typeIs {s : Shared} {a : Addr} {g : Nat} {n : Int} (x : IsG s.heap a g n) : s.TypeIs (.ref a) "generator" := let ⟨o, _, _, ho, hc, _⟩ := x; ⟨o, ho, hc⟩
theorem IsG.lt {h : Heap} {a : Addr} {g : Nat} {n : Int} (x : IsG h a g n) : a < h.objs.size := let ⟨_, _, _, ho, _⟩ := x; Heap.lt_size ho
theorem IsG.num {h : Heap} {a : Addr} {g : Nat} {n : Int} (x : IsG h a g n) : ∃ o, h.get? a = some o ∧ o.genNumber?.isSome = true := by
  obtain ⟨o, nm, qn, ho, hc, hd, _⟩ := x
  refine ⟨o, ho, ?_⟩
  unfold Obj.genNumber?
  rw [hc, hd]
  rfl
section
variable {prog : Program} {w : World} {A : Around} {E : Value → Shared → Prop} {s : Shared} {a : Addr} {g : Nat}
theorem num_rest {Q : Nat → Shared → Prop} (hg : IsG s.heap a g 0) (h : Q g s) : wpAny (model prog w) A (Builtin.Generator.genNumber (.ref a)) Q E s := by
  obtain ⟨o, nm, qn, ho, _, hd, hn⟩ := hg
  have key : ∀ n t, (o.slots[0]? : Option (Option Value)) = some (some (Value.int n t)) → n = 0 := fun n t e => by
    unfold slotN at hn; rw [e] at hn; exact hn
  unfold Builtin.Generator.genNumber
  refine wpAny_bind (wpAny_load ho ?_)
  rw [hd]
  have tail : wpAny (model prog w) A (pure ((g : Int).toNat)) Q E s := by
    rw [Int.toNat_natCast]; exact wpAny_pure h
  generalize hz : (o.slots[0]? : Option (Option Value)) = z at key
  try rw [hz]
  match z, key with
  | none, _ => exact tail
  | some none, _ => exact tail
  | some (some v), key =>
    cases v with
    | int n t =>
      have e := key n t rfl
      subst e
      exact tail
    | _ => exact tail
theorem slept_gen {b : Bool} {n : Int} {Q : Unit → Shared → Prop} (hg : IsG s.heap a g n)
    (h : ∀ h', IsG h' a g (if b = true then n + 1 else n - 1) → (∀ c o, c ≠ a → s.heap.get? c = some o → h'.get? c = some o) → (∀ o, s.heap.get? a = some o → ∃ o', h'.get? a = some o' ∧ o'.data = o.data) → Q () { s with heap := h' }) :
    wpAny (model prog w) A (Builtin.Generator.sleptOver (.ref a) b) Q E s := by
  obtain ⟨o, nm, qn, ho, hc, hd, hn⟩ := hg
  unfold Builtin.Generator.sleptOver
  refine wpAny_bind (wpAny_load ho ?_)
  rw [hc, if_neg (by decide)]
  have fin : ∀ v : Option Value, (∃ t, v = some (.int (if b = true then n + 1 else n - 1) t)) → wpAny (model prog w) A (setSlotAt a 0 v) Q E s := fun v hv => by
    unfold setSlotAt
    show wpAny _ _ (if 0 ≥ sizeLine then _ else _) _ _ _
    rw [if_neg (by decide)]
    refine wpAny_updatePart ho ?_
    have e1 := Heap.get?_update_self (fun o : Obj => { o with slots := (o.slots ++ Array.replicate (0 + 1 - o.slots.size) none).setIfInBounds 0 v }) ho (Obj.isFreed_of_fields (o := { o with slots := _ }) hd)
    refine h _ ⟨_, nm, qn, e1, hc, hd, ?_⟩ (fun c u hb q => (Heap.get?_update_other _ _ (Ne.symm hb)).trans q) fun u q => ?_
    · obtain ⟨t, rfl⟩ := hv
      have : ((o.slots ++ Array.replicate (0 + 1 - o.slots.size) none).setIfInBounds 0 (some (Value.int (if b = true then n + 1 else n - 1) t)))[0]? = some (some (Value.int (if b = true then n + 1 else n - 1) t)) := by
        have hsz : 0 < (o.slots ++ Array.replicate (0 + 1 - o.slots.size) (none : Option Value)).size := by
          rw [Array.size_append, Array.size_replicate]; omega
        first
          | (rw [Array.getElem?_setIfInBounds, if_pos rfl, if_pos hsz])
          | (simp [Array.getElem?_setIfInBounds]; intro e; rw [e]; simp)
      unfold slotN
      simp only [this]
    · rw [ho] at q; cases q
      exact ⟨_, e1, rfl⟩
  have key : ∀ k t, (o.slots[0]? : Option (Option Value)) = some (some (Value.int k t)) → k = n := fun k t e => by
    unfold slotN at hn; rw [e] at hn; exact hn
  have key0 : (∀ k t, (o.slots[0]? : Option (Option Value)) ≠ some (some (Value.int k t))) → n = 0 := fun hne => by
    unfold slotN at hn
    split at hn
    · rename_i k t e
      exact absurd e (hne k t)
    · exact hn.symm
  generalize hz : (o.slots[0]? : Option (Option Value)) = z at key key0
  try rw [hz]
  match z, key, key0 with
  | none, _, k0 => exact fin _ ⟨0, by rw [k0 (fun _ _ q => by cases q)]; cases b <;> rfl⟩
  | some none, _, k0 => exact fin _ ⟨0, by rw [k0 (fun _ _ q => by cases q)]; cases b <;> rfl⟩
  | some (some v), key, k0 =>
    cases v with
    | int k t =>
      have e := key k t rfl
      subst e
      exact fin _ ⟨0, by cases b <;> rfl⟩
    | _ => exact fin _ ⟨0, by rw [k0 (fun _ _ q => by cases q)]; cases b <;> rfl⟩
end

/-! ### the protocol -/
/-- while the generator sleeps: what may change -/
structure Wk (o0 : OsState) (Z : List Addr) (O : List Nat) (sl sw : Shared) : Prop where
  os : sw.os = o0
  keep : ∀ b o, b ∉ Z → sl.heap.get? b = some o → sw.heap.get? b = some o
  loose : ∀ b ∈ Z, ∃ o, sw.heap.get? b = some o ∧ ∀ v, o.data ≠ .cell v
  gsame : ∀ i, i ∉ O → sw.gens[i]? = sl.gens[i]?
  gbare : ∀ i ∈ O, ∀ x, sw.gens[i]? = some x → x.bare = true
/-- what it hands out -/
structure Yd (o0 : OsState) (Z : List Addr) (sw sy : Shared) : Prop where
  os : sy.os = o0
  hold : ∀ b ∈ Z, sy.heap.get? b = sw.heap.get? b
  lim : sy.heap.NoLimit
def GoesOn (M : Model) (Φ : Code → Sem PySem.Fin → List Frame → Prop) : GenState → Prop
  | .fresh c => Φ c (M.den c) []
  | .suspended k _ c _ fs _ => Φ c (k (.send .none)) fs
  | _ => False
def BEnd (M : Model) (O : List Nat) (F : List V → Shared → Shared → Prop) (ys : List V) (sw : Shared) (n : Nat) (st : List Frame) (Ψ : Shared → Thread → Prop) : Prop :=
  (∀ i ∈ O, i < n) ∧ ∃ g k l c0 p0 st0, st = .gen g k l c0 p0 :: st0 ∧ ∀ s', n ≤ s'.gens.size → F ys sw s' → Wins M (s'.setGen g .finished) ⟨k (.returned .none), c0, p0, st0⟩ Ψ
def BYield (M : Model) (o0 : OsState) (Z : List Addr) (O : List Nat) (N : List V → GenState → Shared → Prop) (ys : List V) (sw : Shared) (n : Nat) (st : List Frame) (Ψ : Shared → Thread → Prop) : Prop :=
  (∀ i ∈ O, i < n) ∧ ∃ g k l c0 p0 st0, st = .gen g k l c0 p0 :: st0 ∧ ∀ x v s' gs', n ≤ s'.gens.size → RelV x v → Yd o0 Z sw s' → N (ys ++ [x]) gs' s' → Wins M (s'.setGen g gs') ⟨k (.yielded v), c0, p0, st0⟩ Ψ
/-- the generator in this state has handed out ys and will hand out m more; F: of all that it handed out, from the last waking to the end -/
def Alive (M : Model) (A : Around) (o0 : OsState) (Z : List Addr) (O : List Nat) (F : List V → Shared → Shared → Prop) : Nat → List V → GenState → Shared → Prop
  | 0 => fun ys gs sl => ∀ sw, Wk o0 Z O sl sw → GoesOn M (fun c t fs => RunOn M A (BEnd M O F ys sw) c t fs sw) gs
  | m + 1 => fun ys gs sl => ∀ sw, Wk o0 Z O sl sw → GoesOn M (fun c t fs => RunOn M A (BYield M o0 Z O (Alive M A o0 Z O F m) ys sw) c t fs sw) gs
/-- an index: how many are to come, what is out, the last waking -/
abbrev Ix := Nat × List V × Shared
/-- what stands below a generator's body -/
def BGen (M : Model) (A : Around) (o0 : OsState) (Z : List Addr) (O : List Nat) (F : List V → Shared → Shared → Prop) : Below Ix
  | (0, ys, sw) => BEnd M O F ys sw
  | (m + 1, ys, sw) => BYield M o0 Z O (Alive M A o0 Z O F m) ys sw
theorem BGen.old {M : Model} {A : Around} {o0 : OsState} {Z : List Addr} {O : List Nat} {F : List V → Shared → Shared → Prop} {i : Ix} {n : Nat} {st : List Frame} {Ψ : Shared → Thread → Prop} (h : BGen M A o0 Z O F i n st Ψ) : ∀ i ∈ O, i < n := by
  obtain ⟨m, ys, sw⟩ := i
  cases m
  · exact h.1
  · exact h.1
theorem alive_iff {M : Model} {A : Around} {o0 : OsState} {Z : List Addr} {O : List Nat} {F : List V → Shared → Shared → Prop} {m : Nat} {ys : List V} {gs : GenState} {sl : Shared} :
    Alive M A o0 Z O F m ys gs sl ↔ ∀ sw, Wk o0 Z O sl sw → GoesOn M (fun c t fs => RunOn M A (BGen M A o0 Z O F (m, ys, sw)) c t fs sw) gs := by
  cases m <;> rfl

/-- a waking -/
theorem big_wake {α : Type} {M : Model} {A : Around} {o0 : OsState} {Z : List Addr} {O : List Nat} {F : List V → Shared → Shared → Prop} {m : Nat} {ys : List V} {gs : GenState} {sl s : Shared} {g : Nat} {l : List Value} {k : GenResult → Sem α} {Q : α → Shared → Prop} {E : Value → Shared → Prop}
    (hg : s.gens[g]? = some gs) (hal : Alive M A o0 Z O F m ys gs sl) (hw : Wk o0 Z O sl (s.setGen g .running)) (hO : ∀ i ∈ O, i < s.gens.size)
    (hE : m = 0 → ∀ s', s.gens.size ≤ s'.gens.size → F ys (s.setGen g .running) s' → big M A (k (.returned .none)) Q E (s'.setGen g .finished))
    (hY : ∀ m', m = m' + 1 → ∀ x v s' gs', s.gens.size ≤ s'.gens.size → RelV x v → Yd o0 Z (s.setGen g .running) s' → Alive M A o0 Z O F m' (ys ++ [x]) gs' s' → big M A (k (.yielded v)) Q E (s'.setGen g gs')) :
    big M A (.resume g (.send .none) l k) Q E s := by
  intro c st p hA K J gd lv Ψ hQ hEx
  have hgo := alive_iff.mp hal _ hw
  have sz : (s.setGen g .running).gens.size = s.gens.size := setGen_size _ _ _
  have fin : ∀ (c' : Code) (t' : Sem PySem.Fin) (fs : List Frame) (p' : Pos), RunOn M A (BGen M A o0 Z O F (m, ys, s.setGen g .running)) c' t' fs (s.setGen g .running) →
      Wins M (s.setGen g .running) ⟨t', c', p', fs ++ .gen g (fun r => (k r).wrap K J gd lv) (lv l) c p :: st⟩ Ψ := fun c' t' fs p' hr => by
    refine hr s.gens.size (Nat.le_of_eq sz.symm) _ p' Ψ ?_ ?_
    · rw [of_gen]
      exact hA.wake c' p
    · cases m with
      | zero =>
        refine ⟨hO, _, _, _, _, _, _, rfl, fun s' hn hF => hE rfl s' hn hF c st p hA K J gd lv Ψ (fun a s2 p2 m q => hQ a s2 p2 ?_ q) fun a s2 p2 m q => hEx a s2 p2 ?_ q⟩
        · exact Nat.le_trans hn (by rw [← setGen_size s' g .finished]; exact m)
        · exact Nat.le_trans hn (by rw [← setGen_size s' g .finished]; exact m)
      | succ m' =>
        refine ⟨hO, _, _, _, _, _, _, rfl, fun x v s' gs' hn rv y n => hY m' rfl x v s' gs' hn rv y n c st p hA K J gd lv Ψ (fun a s2 p2 m q => hQ a s2 p2 ?_ q) fun a s2 p2 m q => hEx a s2 p2 ?_ q⟩
        · exact Nat.le_trans hn (by rw [← setGen_size s' g gs']; exact m)
        · exact Nat.le_trans hn (by rw [← setGen_size s' g gs']; exact m)
  cases gs with
  | fresh c' => exact .step (step_resume_fresh _ _ _ _ _ _ _ hg) (fin c' _ [] p hgo)
  | suspended k₀ l₀ c₀ p₀ fs cl => exact .step (step_resume_suspended _ _ _ _ _ _ _ _ hg) (fin c₀ _ fs p₀ hgo)
  | running => exact hgo.elim
  | finished => exact hgo.elim
end Yf
set_option Elab.async false
set_option linter.all false
set_option maxRecDepth 100000
set_option maxHeartbeats 1000000
/-! F6: big: calls of built-ins, next of a generator. -/
namespace Yf
open PySem PySem.Spec PyProof.Rows L2 GenW

section
variable {M : Model} {A : Around} {E : Value → Shared → Prop} {s : Shared}
theorem big_runv {c : Code} {Q : Value → Shared → Prop} (hc : bigCode M A c (fun r s' => match r with | .ok (.ret v) => Q v s' | .ok _ => False | .error e => E e s') s) : big M A (runValue c) Q E s := by
  show big M A (.call c none false [] (fun r => Sem.bind (match r with | .ok f => .pure f | .error e => .raise e) (fun f => match f with
    | .ret v => pure v
    | _ => unsupported "internal:call-without-return-value"))) Q E s
  refine big_callc (bigCode_mono hc fun r s' q => ?_) (by intro x; cases x)
  match r, q with
  | .ok (.ret v), q => exact big_pure q
  | .error e, q => exact big_raise q
theorem big_call {f : Value} {pos : List Value} {kw : List (Str × Value)} {Q : Value → Shared → Prop} (hc : bigCode M A (.call f ⟨pos, kw⟩) (fun r s' => match r with | .ok (.ret v) => Q v s' | .ok _ => False | .error e => E e s') s) :
    big M A (call f pos kw) Q E s := big_runv hc
theorem big_ok {α : Type} {a : α} {Q : α → Shared → Prop} (h : Q a s) : big M A (pure a) Q E s := big_pure h
end
section
variable {prog : Program} {w : World} {A : Around} {E : Value → Shared → Prop} {s : Shared}
theorem bigCode_builtin {id : String} {args : Args} {b : Builtin} {R : Result → Shared → Prop} (hb : entryFor table id = some b) (hp : plainId id = true)
    (h : big (model prog w) A.in1 (b args) (fun fin s' => match fin with | .done f => R (.ok f) s' | .again c' => c'.quiet = true ∧ bigCode (model prog w) A c' R s') (fun e s' => R (.error e) s') s) :
    bigCode (model prog w) A (.builtin id args) R s := by
  refine bigCode_tree ?_
  show big _ _ (match entryFor table id with | some b => b args | none => unsupported ((withoutEnding? id "#data").getD id)) _ _ s
  rw [hb, Around.under_plainId hp args]
  exact h
/-- a call of a slot's built-in -/
theorem big_entry {T : String} {name : Str} {id : String} {b : Builtin} {self : Value} {rest : List Value} {Q : Value → Shared → Prop} (h : Slot T name id) (hT : s.TypeIs self T) (hb : entryFor table id = some b)
    (hc : big (model prog w) A.in1 (b ⟨self :: rest, []⟩) (fun fin s' => ∃ v, fin = .done (.ret v) ∧ Q v s') E s) (ha : argsOk id ⟨self :: rest, []⟩) : big (model prog w) A (call (.builtin id) (self :: rest)) Q E s := by
  refine big_call (bigCode_tree ?_)
  show big _ A.in1 (do checkBuiltinCall id ⟨self :: rest, []⟩; again (.builtin id ⟨self :: rest, []⟩)) _ _ s
  refine big_bind (big_of (h.check _ _ _ _ _ _ _ _ hT ha (big_ok ⟨plainId_quiet h.plain _, bigCode_builtin hb h.plain (big_mono hc (fun fin s' _ q => ?_) fun _ _ _ q => q)⟩)))
  obtain ⟨v, rfl, hv⟩ := q
  exact hv
theorem big_special {self : Value} {T : String} {name : Str} {id : String} {Q : Option Value → Shared → Prop} (hT : s.TypeIs self T) (h : Slot T name id) (hc : big (model prog w) A (call (.builtin id) [self]) (fun v => Q (some v)) E s) :
    big (model prog w) A (callSpecial? self name) Q E s := by
  simp only [callSpecial?]
  refine big_bind (big_of (wpAny_specialOf hT h.lookup ?_))
  simp only [h.bind]
  exact big_holding (big_bind (big_ok (big_bind (big_mono hc (fun v s' _ q => big_ok q) fun _ _ _ q => q))))

/-- next of a generator that lives -/
theorem big_nextG {a : Addr} {g : Nat} {B : Around} {o0 : OsState} {Z : List Addr} {O : List Nat} {F : List V → Shared → Shared → Prop} {m : Nat} {ys : List V} {gs : GenState} {sl : Shared} {Q : Option Value → Shared → Prop} (hh : A.handled = none) (hB : B = A.in1)
    (hl : s.heap.NoLimit) (hd : A.depth < recursionLimit) (hg : IsG s.heap a g 0) (hgs : s.gens[g]? = some gs) (hal : Alive (model prog w) B o0 Z O F m ys gs sl) (hw : Wk o0 Z O sl (s.setGen g .running)) (hO : ∀ i ∈ O, i < s.gens.size)
    (hE : m = 0 → ∀ s', s.gens.size ≤ s'.gens.size → F ys (s.setGen g .running) s' → ∀ e h', StopX e h' → (∀ b o, s'.heap.get? b = some o → h'.get? b = some o) → s'.heap.objs.size ≤ h'.objs.size → E e { s'.setGen g .finished with heap := h' })
    (hY : ∀ m', m = m' + 1 → ∀ x v s' gs', s.gens.size ≤ s'.gens.size → RelV x v → Yd o0 Z (s.setGen g .running) s' → Alive (model prog w) B o0 Z O F m' (ys ++ [x]) gs' s' → Q (some v) (s'.setGen g gs')) :
    big (model prog w) A (callSpecial? (.ref a) "__next__") Q E s := by
  subst hB
  refine big_special (name := Str.ofString "__next__") hg.typeIs slot_gen_next (big_entry slot_gen_next hg.typeIs entry_gen_next ?_ (args_gen_next _))
  show big _ A.in1 (Builtin.Generator.genWake (.ref a) (.send .none)) _ _ s
  unfold Builtin.Generator.genWake
  refine big_bind (big_holding (big_of (num_rest hg ?_)))
  refine big_bind (big_of (wpAny_genState hgs ?_))
  have rest : big (model prog w) A.in1 (do
      match ← resume g (.send .none) with
      | .yielded v => ret v
      | .returned v =>
        if v == .none then raiseNew (← newExc (.type "StopIteration") [])
        rule "generator.return-value"; throw (← newExc (.type "StopIteration") [v])
      | .raised e => Builtin.Generator.genLeft (.ref a) e
      | .running => rule "generator.already-executing"; raiseError "ValueError" "generator already executing"
      | .justStarted => rule "generator.send-to-fresh"; raiseError "TypeError" "can't send non-None value to a just-started generator"
      | .finished => raiseNew (← newExc (.type "StopIteration") [])) (fun fin s' => ∃ v, fin = .done (.ret v) ∧ Q (some v) s') E s := by
    show big _ A.in1 (.resume g (.send .none) [] _) _ _ s
    refine big_wake hgs hal hw hO (fun hx s' hn hF => ?_) fun m' hx x v s' gs' hn rv y al => ?_
    · show big _ A.in1 (newExc (.type "StopIteration") [] >>= _) _ _ _
      refine big_bind (big_of ?_)
      simp only [newExc, newTuple]
      refine wpAny_bind (wpAny_newObj_type ?_ (by size_fits))
      refine wpAny_bind (m := firstArgMember _ _) (wpAny_of_eq (a := Value.none) (by first | rfl | (simp only [firstArgMember]; rfl)) ?_)
      refine wpAny_newObj_type ?_ (by size_fits)
      refine big_bind (big_of ?_)
      simp only [raiseNew]
      refine wpAny_bind (wpAny_handled ?_)
      rw [show A.in1.handled = none from hh]
      refine wpAny_throw ?_
      refine hE hx s' hn hF _ _ ⟨_, _, _, rfl, Heap.get?_push_size _ rfl, rfl, rfl, rfl⟩ (fun b o q => Heap.get?_push_of_some _ (Heap.get?_push_of_some _ q)) ?_
      rw [Heap.size_push, Heap.size_push]
      exact Nat.le_trans (Nat.le_succ _) (Nat.le_succ _)
    · exact big_ok ⟨v, rfl, hY m' hx x v s' gs' hn rv y al⟩
  cases gs with
  | running => exact (alive_iff.mp hal _ hw).elim
  | finished => exact (alive_iff.mp hal _ hw).elim
  | fresh c => exact big_bind (big_of (wpAny_roomToWake hl hd rest))
  | suspended k l c p fs cl => exact big_bind (big_of (wpAny_roomToWake hl hd rest))
end
end Yf
set_option Elab.async false
set_option linter.all false
set_option maxRecDepth 100000
set_option maxHeartbeats 2000000
/-! F7: yield, and yield from over a generator. -/
namespace Yf
open PySem PySem.Spec PyProof.Rows L2 GenW

/-- the loose objects as they stood at the last waking -/
def noObj : Obj := { cls := .none, data := .fields #[] }
def pz (Z : List Addr) (i : Ix) : List (Addr × Obj) := Z.map fun z => (z, (i.2.2.heap.get? z).getD noObj)
theorem pz_addr (Z : List Addr) (i j : Ix) : (pz Z i).map (·.1) = (pz Z j).map (·.1) := by simp [pz]
theorem mem_pz {Z : List Addr} {i : Ix} {z : Addr} (h : z ∈ Z) : (z, (i.2.2.heap.get? z).getD noObj) ∈ pz Z i := List.mem_map.mpr ⟨z, h, rfl⟩
/-- the loose objects are apart from the frame -/
def ZOk (X : Cx) (Z : List Addr) : Prop := ∀ z ∈ Z, (z ∈ X.ex ∨ X.s_0.heap.objs.size ≤ z) ∧ z ≠ X.env.locals ∧ ∀ x c, X.env.cells.lookup x = some c → c ≠ z
section
variable {X : Cx} {Z : List Addr} {O : List Nat} {ip : List (Addr × Obj)} {σ : L2.St} {H : Hp} {s s' : Shared}
theorem loose_none {i : Ix} (I : Inv X (pz Z i ++ ip) σ H s) : ∀ z ∈ Z, H z = none ∧ z ≠ X.env.locals ∧ z ∉ X.fs := fun z hz => by
  obtain ⟨_, h2, h3, h4, _⟩ := I.pin _ (List.mem_append_right _ (List.mem_append_left _ (mem_pz (i := i) hz)))
  exact ⟨h2, h3, h4⟩
theorem unz {i : Ix} (I : Inv X (pz Z i ++ ip) σ H s) : Inv X ip σ H s := I.pins_of fun p hp => I.pin p (List.mem_append_right _ (List.mem_append_right _ hp))
theorem rez {i : Ix} (I : Inv X ip σ H s) (hn : ∀ z ∈ Z, H z = none ∧ z ≠ X.env.locals ∧ z ∉ X.fs) (ho : ∀ z ∈ Z, ∃ o, s.heap.get? z = some o ∧ i.2.2.heap.get? z = some o ∧ ∀ v, o.data ≠ .cell v) : Inv X (pz Z i ++ ip) σ H s :=
  I.pins_of fun p hp => by
    rcases List.mem_append.mp hp with q | q
    · obtain ⟨z, hz, rfl⟩ := List.mem_map.mp q
      obtain ⟨o, e1, e2, hd⟩ := ho z hz
      obtain ⟨n1, n2, n3⟩ := hn z hz
      rw [e2]
      exact ⟨e1, n1, n2, n3, hd⟩
    · exact I.pin p (List.mem_append_right _ q)
/-- the loose objects and the generators' states have changed -/
theorem stir (hpn : X.pn = []) (hz : ZOk X Z) (hip : ∀ p ∈ ip, p.1 ∉ Z) (I : Inv X ip σ H s) (hn : ∀ z ∈ Z, H z = none) (os : s'.os = s.os) (keep : ∀ b o, b ∉ Z → s.heap.get? b = some o → s'.heap.get? b = some o) (hb : AllBare s'.gens) : Inv X ip σ H s' := by
  refine I.call' (ch := Z) os ⟨fun b o q _ _ hx => keep b o hx q, fun b o q _ _ hx => ⟨o.slots, keep b o hx q⟩, fun b o q n hx => n, fun b o q hx => ⟨o, keep b o hx q⟩, fun b xs q => q, fun b o u q => q, fun b ps q => ⟨#[], by rw [q]; simp⟩⟩ (fun b u q => ?_) hb fun b hb => ?_
  · have nz : ∀ c u, H c = some u → c ∉ Z := fun c u e m => by rw [hn c m] at e; cases e
    refine (I.hok b u q).stay (fun c v hc y => keep c v ?_ y) (fun _ y => y) fun _ _ y => y
    rcases hc with e | e
    · rw [e]; exact nz b u q
    · exact nz c _ e
  · obtain ⟨h1, h2, h3⟩ := hz b hb
    refine ⟨h1, h2, h3, fun p hp e => ?_⟩
    rw [hpn, List.nil_append] at hp
    exact hip p hp (by rw [e]; exact hb)
theorem hip_of {i : Ix} (h : ∀ p ∈ ip, ∀ q ∈ pz Z i, q.1 ≠ p.1) : ∀ p ∈ ip, p.1 ∉ Z := fun p hp hz => h p hp _ (mem_pz hz) rfl
theorem bare_of {o0 : OsState} (w : Wk o0 Z O s s') (hb : AllBare s.gens) : AllBare s'.gens := fun y hy => by
  obtain ⟨i, hi, e⟩ := Array.mem_iff_getElem.mp hy
  have e' : s'.gens[i]? = some y := by rw [Array.getElem?_eq_getElem hi, e]
  by_cases hO : i ∈ O
  · exact w.gbare i hO y e'
  · rw [w.gsame i hO] at e'
    exact hb y (Array.mem_of_getElem? e')
/-- woken -/
theorem woken {i j : Ix} {o0 : OsState} (hpn : X.pn = []) (h0 : o0 = X.s_0.os) (hz : ZOk X Z) (hip : ∀ p ∈ ip, p.1 ∉ Z) (hj : j.2.2 = s') (I : Inv X (pz Z i ++ ip) σ H s) (w : Wk o0 Z O s s') : Inv X (pz Z j ++ ip) σ H s' := by
  have hn := loose_none I
  refine rez (stir hpn hz hip (unz I) (fun z m => (hn z m).1) (w.os.trans (h0.trans I.os.symm)) w.keep (bare_of w I.bare)) hn fun z m => ?_
  obtain ⟨o, e, hd⟩ := w.loose z m
  exact ⟨o, e, by rw [hj]; exact e, hd⟩
theorem held {i : Ix} (I : Inv X (pz Z i ++ ip) σ H s) (hi : ∀ z ∈ Z, ∃ o, i.2.2.heap.get? z = some o) : ∀ z ∈ Z, s.heap.get? z = i.2.2.heap.get? z := fun z m => by
  obtain ⟨o, e⟩ := hi z m
  obtain ⟨h1, _⟩ := I.pin _ (List.mem_append_right _ (List.mem_append_left _ (mem_pz (i := i) m)))
  rw [e] at h1
  exact h1.trans e.symm
end

/-! ### yield -/
theorem run_bwrap2 {α β γ : Type} {M : Model} {A : Around} {B : Nat → List Frame → (Shared → Thread → Prop) → Prop} {c : Code} {fs : List Frame} {s : Shared} {m : Sem α} {f : α → Sem β} {f2 : β → Sem γ} {K : γ → Sem PySem.Fin} {J : Value → Sem PySem.Fin} {gd lv}
    (h : big M (A.over c fs) m (fun a s' => RunOn M A B c ((f a).wrap (fun b => (f2 b).wrap K J gd lv) J gd lv) fs s') (fun x s' => RunOn M A B c (J x) fs s') s) : RunOn M A B c (((m >>= f) >>= f2).wrap K J gd lv) fs s := by
  rw [Sem.bind_eq_wrap' (m >>= f) f2, Sem.wrap_wrap]
  exact run_bwrap h
section
variable {X : Cx} {A : Around} {Z : List Addr} {O : List Nat} {F : List V → Shared → Shared → Prop} {e : Expr} {yp pos : Pos}
/-- every loose object stands at the wakings -/
def Stand (Z : List Addr) (sw : Shared) : Prop := ∀ z ∈ Z, ∃ o, sw.heap.get? z = some o
theorem gst_yield {te : TE} (hpn : X.pn = []) (hz : ZOk X Z) (he : PE X e te) (hco : X.env.scope.isCoroutine = false := by rfl) (hi : interactive X.env = false := by rfl) :
    GSt X A (BGen (model X.prog X.w) A X.s_0.os Z O F) (pz Z) (.Expr (.Yield (some e) yp) pos) (fun D i σ H => Stand Z i.2.2 ∧ te σ H fun x H1 => ∃ m, i.1 = m + 1 ∧ ∀ sw', Stand Z sw' → D.nx (m, i.2.1 ++ [x], sw') σ H1) := by
  refine ⟨fun i ip c fs K J gd lv s σ H D g hip k I q => ?_⟩
  obtain ⟨hst, q⟩ := q
  rw [exec_Expr X.env _ pos hi rfl]
  have hy : ∀ v, yieldOut X.env v = yieldValue v := fun v => by simp only [yieldOut, hco, Bool.false_eq_true, if_false]
  show RunOn _ A _ c (.at pos fun _ => ((eval e X.env >>= fun v => (standAt yp >>= fun _ => yieldOut X.env v)) >>= fun x => dropValue (.Yield (some e) yp) pos x).wrap K J gd lv) fs s
  simp only [hy]
  refine run_at (run_bwrap2 ?_)
  rw [g.over]
  refine big_mono (big_of (he.run _ s σ H _ I q)) (fun v s' _ hv => ?_) fun x s' _ z => (g.nox x s' z).elim
  obtain ⟨x, H1, I1, rv, m, hxs, hnx⟩ := hv
  refine run_at ?_
  obtain ⟨xs, ys, sw⟩ := i
  obtain rfl : xs = m + 1 := hxs
  intro n hn st p Ψ hW hB
  obtain ⟨hO, g', k', l', c0, p0, st0, rfl, hY⟩ := hB
  have hsp : splitAtGen (fs ++ .gen g' k' l' c0 p0 :: st0) = some (fs, (g', k', c0, p0), st0) := by
    rw [splitAtGen_append_none _ g.split, splitAtGen_gen]; simp
  refine Wins.step (step_yield _ _ _ _ _ _ _ _ _ hsp (by simp [End.quiet, g.gd, g.guard])) ?_
  have hold := held I1 hst
  refine hY x v s' _ hn rv ⟨I1.os, hold, I1.nolimit⟩ ?_
  refine alive_iff.mpr fun sw' w => ?_
  have I2 : Inv X (pz Z (m, ys ++ [x], sw') ++ ip) σ H1 sw' := woken hpn rfl hz (hip_of hip) rfl I1 w
  exact k (m, ys ++ [x], sw') .next sw' ⟨σ, H1, I2, hnx sw' fun z m => let ⟨o, e, _⟩ := w.loose z m; ⟨o, e⟩⟩
end
end Yf
set_option Elab.async false
set_option linter.all false
set_option maxRecDepth 100000
set_option maxHeartbeats 4000000
/-! F8: yield from over a generator. -/
namespace Yf
open PySem PySem.Spec PyProof.Rows L2 GenW

theorem close_gen : ∃ v, typeLookup (.type "generator") "close" = pure (some v) := ⟨.builtin "generator.close", by rw [typeLookup_type, builtinLookup_eq_fast]; kernel_rfl⟩
/-- from a generator's making (sc) and its last waking to its end -/
def Fe (P : Program) (w : World) (o0 : OsState) (outer : List Env) (Z : List Addr) (H : Hp) (sc : Shared) (cont : List V → Hp → Prop) (ys : List V) (sw se : Shared) : Prop :=
  ∃ H', se.os = o0 ∧ AllBare se.gens ∧ Un (frs outer) Z H H' sc.heap se.heap ∧ HOk P w H' se.heap ∧ (∀ b ∈ Z, se.heap.get? b = sw.heap.get? b) ∧ (∀ b ∈ Z, H' b = none) ∧ se.heap.NoLimit ∧ cont ys H'
theorem run_old {M : Model} {A A' : Around} {o0 : OsState} {Z : List Addr} {O : List Nat} {F : List V → Shared → Shared → Prop} {i : Ix} {c : Code} {t : Sem PySem.Fin} {fs : List Frame} {s : Shared}
    (h : (∀ j ∈ O, j < s.gens.size) → RunOn M A' (BGen M A o0 Z O F i) c t fs s) : RunOn M A' (BGen M A o0 Z O F i) c t fs s := fun n hn st p Ψ hW hB =>
  h (fun j hj => Nat.lt_of_lt_of_le (hB.old j hj) hn) n hn st p Ψ hW hB
theorem run_delegate {M : Model} {A A' : Around} {o0 : OsState} {Z : List Addr} {O : List Nat} {F : List V → Shared → Shared → Prop} {m : Nat} {ys : List V} {sw : Shared} {fs : List Frame} {s : Shared} {v : Value} {l : List Value} {kk : Resume → Sem PySem.Fin} {x : V} {a : Addr} {more : List Value} {kw : List (Str × Value)}
    (hsp : splitAtGen fs = none) (hgd : fs.any Frame.guarded = false) (hnum : ∃ o, s.heap.get? a = some o ∧ o.genNumber?.isSome = true) (rv : RelV x v) (y : Yd o0 Z sw s)
    (al : ∀ sw', Wk o0 Z O s sw' → RunOn M A (BGen M A o0 Z O F (m, ys ++ [x], sw')) (.builtin "proto.yield_from" ⟨.ref a :: more, kw⟩) (kk (.send .none)) fs sw') :
    RunOn M A' (BGen M A o0 Z O F (m + 1, ys, sw)) (.builtin "proto.yield_from" ⟨.ref a :: more, kw⟩) (.yield v true l kk) fs s := by
  intro n hn st p Ψ hW hB
  obtain ⟨hO, g', k', l', c0, p0, st0, rfl, hY⟩ := hB
  have hsp2 : splitAtGen (fs ++ .gen g' k' l' c0 p0 :: st0) = some (fs, (g', k', c0, p0), st0) := by
    rw [splitAtGen_append_none _ hsp, splitAtGen_gen]; simp
  obtain ⟨o, ho, hnum⟩ := hnum
  have hush : Hush s ⟨.yield v true l kk, .builtin "proto.yield_from" ⟨.ref a :: more, kw⟩, p, fs ++ .gen g' k' l' c0 p0 :: st0⟩ := ⟨v, l, kk, a, more, kw, p, _, fs, _, st0, o, rfl, hsp2, hgd, ho, hnum⟩
  have hstep : stepK M.den M.prog M.w s ⟨.yield v true l kk, .builtin "proto.yield_from" ⟨.ref a :: more, kw⟩, p, fs ++ .gen g' k' l' c0 p0 :: st0⟩ =
      .go (s.setGen g' (.suspended kk l (.builtin "proto.yield_from" ⟨.ref a :: more, kw⟩) p fs (true || fs.any Frame.guarded))) ⟨k' (.yielded v), c0, p0, st0⟩ := by
    simp only [stepK, PySem.step, hsp2]; rfl
  refine .go (.step (.inr hush) hstep .refl) ?_
  exact hY x v s _ hn rv y (alive_iff.mpr fun sw' w => al sw' w)

section
variable {X : Cx} {A : Around} {Z : List Addr} {O : List Nat} {F : List V → Shared → Shared → Prop} {fs : List Frame} {a : Addr} {g : Nat} {r : Nat} {ys : List V} {Fi : List V → Shared → Shared → Prop}
theorem nolimit_but {h h' : Heap} {b : Addr} (hl : h.NoLimit) (hb : b ≠ cStatics) (k : ∀ c o, c ≠ b → h.get? c = some o → h'.get? c = some o) : h'.NoLimit := by
  obtain ⟨mc, hns, hnn⟩ := hl
  exact ⟨mc, hns.at' fun o e => k _ o (Ne.symm hb) e, hnn⟩
/-- the turns of «yield from» over a generator -/
theorem run_yfg (hov : A.over (.builtin "proto.yield_from" ⟨[.ref a, .bool false, .none], []⟩) fs = X.A.in1) (hsp : splitAtGen fs = none) (hgd : fs.any Frame.guarded = false) (hh : X.A.handled = none) (hd : X.A.depth < recursionLimit)
    (haZ : a ∉ Z) (hac : a ≠ cStatics) (hZc : cStatics ∉ Z) (hgO : g ∉ O)
    (hend : ∀ zs sw si sf e h', (∀ z ∈ Z, ∃ o, sw.heap.get? z = some o ∧ ∀ v, o.data ≠ .cell v) → (∀ b ∈ Z, si.heap.get? b = sw.heap.get? b) → Fi zs si sf → StopX e h' → (∀ b o, sf.heap.get? b = some o → h'.get? b = some o) → sf.heap.objs.size ≤ h'.objs.size →
      RunOn (model X.prog X.w) A (BGen (model X.prog X.w) A X.s_0.os Z O F (r, ys ++ zs, sw)) (.builtin "proto.yield_from" ⟨[.ref a, .bool false, .none], []⟩) (.pure (.done (.ret .none))) fs { sf.setGen g .finished with heap := h' }) :
    ∀ (n : Nat) (zs : List V) (sw sl s : Shared) (gs : GenState), s.gens[g]? = some gs → Alive (model X.prog X.w) X.A.in1.in1 X.s_0.os (a :: Z) (g :: O) Fi n zs gs sl → Wk X.s_0.os (a :: Z) (g :: O) sl (s.setGen g .running) →
      IsG s.heap a g 0 → s.heap.NoLimit → (∀ b ∈ Z, s.heap.get? b = sw.heap.get? b) → (∀ z ∈ Z, ∃ o, sw.heap.get? z = some o ∧ ∀ v, o.data ≠ .cell v) →
      RunOn (model X.prog X.w) A (BGen (model X.prog X.w) A X.s_0.os Z O F (n + r, ys ++ zs, sw)) (.builtin "proto.yield_from" ⟨[.ref a, .bool false, .none], []⟩)
        ((model X.prog X.w).den (.builtin "proto.yield_from" ⟨[.ref a, .bool false, .none], []⟩)) fs s := by
  intro n
  induction n with
  | zero =>
    intro zs sw sl s gs hgs hal hw hg hl hold hsw
    refine run_old fun hO => ?_
    have hgsz : g < s.gens.size := (Array.getElem?_eq_some_iff.mp hgs).1
    rw [den_yf]
    unfold Builtin.«proto.yield_from»
    try dsimp only
    refine run_bind (big_of (wpAny_pure ?_))
    try dsimp only
    refine run_bind (big_attempt (big_holding ?_))
    rw [if_neg Bool.false_ne_true, if_pos (show (Value.none == Value.none) = true from rfl), hov]
    refine big_bind (big_of (wpAny_rule ?_))
    refine big_bind ?_
    refine big_nextG hh rfl hl hd hg hgs hal hw (fun i hi => ?_) (fun _ s' hn hF e h' hS hk hsz => ?_) fun m' hm => by cases hm
    · rcases List.mem_cons.mp hi with e | e
      · rw [e]; exact hgsz
      · exact hO i e
    · have hS' := hS
      obtain ⟨x, o, vs, rfl, hoa, hcls, hdat, h5⟩ := hS
      try dsimp only
      refine run_bind (big_of (wpAny_endsTurn hoa hcls ?_))
      try dsimp only
      rw [if_pos rfl]
      first
        | refine run_bind (big_of (wpAny_rule ?_))
        | (rw [if_neg Bool.false_ne_true]; refine run_bind (big_of (wpAny_rule ?_)))
        | (rw [if_neg Bool.false_ne_true]; refine run_bind (big_of (wpAny_pure ?_)); refine run_bind (big_of (wpAny_rule ?_)))
      refine run_bind (big_of (wpAny_field hoa hdat h5 ?_))
      rw [Nat.zero_add]
      exact hend zs sw (s.setGen g .running) s' _ h' hsw (fun b hb => hold b hb) hF hS' hk hsz
  | succ n ih =>
    intro zs sw sl s gs hgs hal hw hg hl hold hsw
    refine run_old fun hO => ?_
    have hgsz : g < s.gens.size := (Array.getElem?_eq_some_iff.mp hgs).1
    rw [den_yf]
    unfold Builtin.«proto.yield_from»
    try dsimp only
    refine run_bind (big_of (wpAny_pure ?_))
    try dsimp only
    refine run_bind (big_attempt (big_holding ?_))
    rw [if_neg Bool.false_ne_true, if_pos (show (Value.none == Value.none) = true from rfl), hov]
    refine big_bind (big_of (wpAny_rule ?_))
    refine big_bind ?_
    refine big_nextG hh rfl hl hd hg hgs hal hw (fun i hi => ?_) (fun h0 => by cases h0) fun m' hm x v sy gs' hn rv y al => ?_
    · rcases List.mem_cons.mp hi with e | e
      · rw [e]; exact hgsz
      · exact hO i e
    · obtain rfl : n = m' := by omega
      refine big_ok ?_
      have hga : IsG (sy.setGen g gs').heap a g 0 := hg.same (y.hold a List.mem_cons_self)
      try dsimp only
      refine run_bind (big_of (wpAny_typeOf hga.typeIs ?_))
      try dsimp only
      obtain ⟨vc, hvc⟩ := close_gen
      first
        | (refine run_bind (big_of (wpAny_of_eq hvc ?_)); refine run_bind (big_of (wpAny_pure ?_)))
        | refine run_bind (big_of (wpAny_bind (wpAny_of_eq hvc (wpAny_pure ?_))))
        | refine run_bind (big_of (wpAny_of_eq hvc ?_))
      try dsimp only
      refine run_bind (big_of (slept_gen hga fun h3 hg3 k3 d3 => ?_))
      rw [if_pos rfl] at hg3
      have ex3 : ∀ b ∈ Z, h3.get? b = sw.heap.get? b := fun b hb => by
        obtain ⟨o, e, _⟩ := hsw b hb
        have e1 : sy.heap.get? b = some o := (y.hold b (List.mem_cons_of_mem _ hb)).trans ((hold b hb).trans e)
        rw [e]
        exact k3 b o (fun z => haZ (z ▸ hb)) e1
      have eq1 : n + 1 + r = (n + r) + 1 := by omega
      rw [eq1]
      refine run_delegate (x := x) hsp hgd hg3.num rv ⟨y.os, ex3, nolimit_but y.lim hac k3⟩ fun sw' w => ?_
      have g3' : IsG sw'.heap a g (0 + 1) := by
        obtain ⟨o, nm, qn, ho, q⟩ := hg3
        exact ⟨o, nm, qn, w.keep a o haZ ho, q⟩
      show RunOn _ A _ _ (Builtin.Generator.sleptOver (.ref a) false >>= fun _ => _) fs sw'
      refine run_bind (big_of (slept_gen g3' fun h4 hg4 k4 d4 => ?_))
      rw [if_neg Bool.false_ne_true] at hg4
      try dsimp only
      refine run_bind (big_of (wpAny_pure ?_))
      refine run_again (plainId_quiet plain_yf _) ?_
      have hgy : g < sy.gens.size := Nat.lt_of_lt_of_le hgsz hn
      have e4 : ∀ b ∈ Z, h4.get? b = sw'.heap.get? b := fun b hb => by
        obtain ⟨o, e, _⟩ := w.loose b hb
        rw [e]
        exact k4 b o (fun z => haZ (z ▸ hb)) e
      have gen4 : sw'.gens[g]? = some gs' := by
        rw [w.gsame g hgO]
        exact setGen_at hgy
      have gsz4 : g < sw'.gens.size := (Array.getElem?_eq_some_iff.mp gen4).1
      rw [List.append_assoc]
      refine ih (zs ++ [x]) sw' sy { sw' with heap := h4 } gs' gen4 al ⟨w.os, fun b o hb q => ?_, fun b hb => ?_, fun i hi => ?_, fun i hi q e => ?_⟩ hg4 ?_ e4 w.loose
      · have hba : b ≠ a := fun z => hb (by rw [z]; exact List.mem_cons_self)
        exact k4 b o hba (w.keep b o (fun z => hb (List.mem_cons_of_mem _ z)) (k3 b o hba q))
      · rcases List.mem_cons.mp hb with z | z
        · obtain ⟨o, nm, qn, ho, hc, hdt, _⟩ := hg4
          rw [z]
          exact ⟨o, ho, fun v q => by rw [hdt] at q; cases q⟩
        · obtain ⟨o, e, hnc⟩ := w.loose b z
          exact ⟨o, by show h4.get? b = _; rw [e4 b z]; exact e, hnc⟩
      · have hig : i ≠ g := fun z => hi (by rw [z]; exact List.mem_cons_self)
        have e1 : (({ sw' with heap := h4 } : Shared).setGen g .running).gens[i]? = sw'.gens[i]? := by
          show (sw'.gens.setIfInBounds g .running)[i]? = _
          rw [Array.getElem?_setIfInBounds_ne (Ne.symm hig)]
        rw [e1, w.gsame i fun z => hi (List.mem_cons_of_mem _ z)]
        show (sy.gens.setIfInBounds g gs')[i]? = _
        rw [Array.getElem?_setIfInBounds_ne (Ne.symm hig)]
      · by_cases hig : i = g
        · rw [hig] at e
          have e2 : (({ sw' with heap := h4 } : Shared).setGen g .running).gens[g]? = some .running := setGen_at (s := { sw' with heap := h4 }) gsz4
          rw [e2] at e
          cases e
          rfl
        · have e1 : (({ sw' with heap := h4 } : Shared).setGen g .running).gens[i]? = sw'.gens[i]? := by
            show (sw'.gens.setIfInBounds g .running)[i]? = _
            rw [Array.getElem?_setIfInBounds_ne (Ne.symm hig)]
          rw [e1] at e
          exact w.gbare i ((List.mem_cons.mp hi).resolve_left hig) q e
      · have l3 : h3.NoLimit := nolimit_but y.lim hac k3
        obtain ⟨mc, hns, hnn⟩ := l3
        exact nolimit_but (b := a) ⟨mc, hns.at' fun o e => w.keep _ o hZc e, hnn⟩ hac k4
end
end Yf
set_option Elab.async false
set_option linter.all false
set_option maxRecDepth 100000
set_option maxHeartbeats 4000000
/-! F9: a generator as it is made; the statement yield from. -/
namespace Yf
open PySem PySem.Spec PyProof.Rows L2 GenW

def ZFit (base : Heap) (outer : List Env) (H : Hp) (sc s' : Shared) (a z : Addr) : Prop := (z < sc.heap.objs.size ∨ s'.heap.objs.size ≤ z ∨ z = a) ∧ H z = none ∧ z ∉ frs outer ∧ base.get? z = none
/-- a generator that has not begun: it will hand out n things; cont: of these and the heap at the end -/
structure Made (P : Program) (w : World) (k : Nat) (base : Heap) (outer : List Env) (H : Hp) (sc s' : Shared) (a : Addr) (g : Nat) (n : Nat) (cont : List V → Hp → Prop) : Prop where
  young : sc.heap.objs.size ≤ a
  isg : IsG s'.heap a g 0
  os : s'.os = sc.os
  bare : AllBare s'.gens
  lim : s'.heap.NoLimit
  keep : ∀ b o, sc.heap.get? b = some o → s'.heap.get? b = some o
  gnew : sc.gens.size ≤ g
  gen : ∃ c, s'.gens[g]? = some (.fresh c) ∧ ∀ (A : Around) (Z : List Addr) (O : List Nat), Room k A → A.frames = some outer → (∀ z ∈ Z, ZFit base outer H sc s' a z) →
    Alive (model P w) A sc.os Z O (Fe P w sc.os outer Z H sc cont) n [] (.fresh c) s'
/-- an expression whose value is such a generator -/
abbrev TGn2 := L2.St → Hp → Nat → (List V → Hp → Prop) → Prop
structure PGen2 (X : Cx) (k : Nat) (e : Expr) (tg : TGn2) : Prop where
  run : ∀ (pins : List (Addr × Obj)) (s : Shared) (σ : L2.St) (H : Hp) (n : Nat) (cont : List V → Hp → Prop), Inv X pins σ H s → tg σ H n cont → wpAny (model X.prog X.w) X.A (eval e X.env)
    (fun u s' => ∃ a g H1 sc, u = .ref a ∧ s.gens.size ≤ sc.gens.size ∧ Inv X pins σ H1 sc ∧ Made X.prog X.w k X.base X.stack H1 sc s' a g n cont) X.xe s
section
variable {prog : Program} {w : World} {A : Around} {E : Value → Shared → Prop} {s : Shared} {a : Addr} {g : Nat}
theorem iter_g {n : Int} {Q : Value → Shared → Prop} (hg : IsG s.heap a g n) (h : Q (.ref a) s) : wpAny (model prog w) A (pyIter (.ref a)) Q E s := by
  refine wpAny_pyIter_slot hg.typeIs slot_gen_iter (wpAny_call_entry slot_gen_iter hg.typeIs entry_gen_iter ?_ (args_gen_iter _))
  show wpAny _ _ (ret (.ref a)) _ _ s
  exact wpAny_pure ⟨_, rfl, "generator", _, hg.typeIs, slot_gen_next.lookup, h⟩
end
theorem IsG.noCell {h : Heap} {a : Addr} {g : Nat} {n : Int} (x : IsG h a g n) : ∃ o, h.get? a = some o ∧ ∀ v, o.data ≠ .cell v := by
  obtain ⟨o, nm, qn, ho, hc, hd, _⟩ := x
  exact ⟨o, ho, fun v q => by rw [hd] at q; cases q⟩
/-- the first waking -/
theorem Made.first {P : Program} {w : World} {k : Nat} {base : Heap} {outer : List Env} {H : Hp} {sc s' : Shared} {a : Addr} {g n : Nat} {cont : List V → Hp → Prop} (m : Made P w k base outer H sc s' a g n cont) {Z : List Addr} {O : List Nat}
    (hZ : ∀ z ∈ Z, ∃ o, s'.heap.get? z = some o ∧ ∀ v, o.data ≠ .cell v) (hg : g ∈ O) : Wk sc.os Z O s' (s'.setGen g .running) := by
  obtain ⟨c, hgs, _⟩ := m.gen
  have hsz := (Array.getElem?_eq_some_iff.mp hgs).1
  refine ⟨m.os, fun b o _ q => q, hZ, fun i hi => ?_, fun i hi x e => ?_⟩
  · show (s'.gens.setIfInBounds g .running)[i]? = _
    rw [Array.getElem?_setIfInBounds_ne (fun z => hi (by rw [← z]; exact hg))]
  · exact allBare_setGen m.bare rfl x (Array.mem_of_getElem? e)
theorem room_in2 {k : Nat} {A : Around} (h : Room (k + 1) A) : Room k A.in1.in1 := ⟨h.hd, by have := h.dp; show A.depth + 3 * k + 5 < _; omega, by have := h.un; show A.units + 1 + 1 + 16 * k + 200 < _; omega⟩

section
variable {X : Cx} {A : Around} {Z : List Addr} {O : List Nat} {F : List V → Shared → Shared → Prop} {e : Expr} {yp pos : Pos} {k : Nat} {tg : TGn2}
theorem gst_yfrom (hpn : X.pn = []) (hz : ZOk X Z) (hZb : ∀ z ∈ Z, X.base.get? z = none) (hcs : cStatics ∉ Z) (he : PGen2 X k e tg) (hr : Room (k + 1) X.A) (hi : interactive X.env = false := by rfl) :
    GSt X A (BGen (model X.prog X.w) A X.s_0.os Z O F) (pz Z) (.Expr (.YieldFrom e yp) pos)
      (fun D i σ H => Stand Z i.2.2 ∧ ∃ n r, i.1 = n + r ∧ tg σ H n (fun zs H1 => ∀ sw', Stand Z sw' → D.nx (r, i.2.1 ++ zs, sw') σ H1)) := by
  refine ⟨fun i ip c fs K J gd lv s σ H D gs hip k I q => ?_⟩
  obtain ⟨hst, n, r, hnr, q⟩ := q
  refine run_old fun hO => ?_
  rw [exec_Expr X.env _ pos hi rfl]
  show RunOn _ A _ c (.at pos fun _ => ((eval e X.env >>= fun v => (standAt yp >>= fun _ => yieldFrom X.env v)) >>= fun x => dropValue (.YieldFrom e yp) pos x).wrap K J gd lv) fs s
  refine run_at (run_bwrap2 ?_)
  rw [gs.over]
  refine big_mono (big_of (he.run _ s σ H n _ I q)) (fun v s' _ hv => ?_) fun x s' _ z => (gs.nox x s' z).elim
  obtain ⟨a, g, H1, sc, rfl, hsz, I1, m⟩ := hv
  have hT := m.isg.typeIs
  refine run_at ?_
  show RunOn _ A _ c ((yieldFrom X.env (.ref a)).wrap (fun b => (dropValue (.YieldFrom e yp) pos b).wrap K J gd lv) J gd lv) fs s'
  unfold yieldFrom
  refine run_bwrap (big_of (wpAny_typeOf hT ?_))
  rw [if_neg (show ¬ ((Value.type "generator" == Value.type "coroutine") = true) by decide)]
  refine run_bwrap (big_holding (big_of (iter_g m.isg ?_)))
  refine run_call fun p => ?_
  obtain ⟨mm, ys, sw⟩ := i
  obtain rfl : mm = n + r := hnr
  have hh := hr.hd
  have lsc := I1.nolimit
  have hcz : cStatics < sc.heap.objs.size := let ⟨_, hn, _⟩ := lsc; hn.lt
  have hln := loose_none I1
  have hsw : ∀ z ∈ Z, ∃ o, sw.heap.get? z = some o ∧ ∀ v, o.data ≠ .cell v := fun z hz' => by
    obtain ⟨o, e⟩ := hst z hz'
    obtain ⟨_, _, _, _, h5⟩ := I1.pin _ (List.mem_append_right _ (List.mem_append_left _ (mem_pz (i := (n + r, ys, sw)) hz')))
    have e' : (sw.heap.get? z).getD noObj = o := by rw [e]; rfl
    exact ⟨o, e, fun v => by
      have := h5 v
      change ((sw.heap.get? z).getD noObj).data ≠ _ at this
      rw [e'] at this; exact this⟩
  have hsc : ∀ z ∈ Z, sc.heap.get? z = sw.heap.get? z := held I1 hst
  have hlt : ∀ z ∈ Z, z < sc.heap.objs.size := fun z hz' => by
    obtain ⟨o, e, _⟩ := hsw z hz'
    exact Heap.lt_size ((hsc z hz').trans e)
  have haZ : a ∉ Z := fun z => absurd (Nat.lt_of_lt_of_le (hlt a z) m.young) (Nat.lt_irrefl _)
  have hac : a ≠ cStatics := Nat.ne_of_gt (Nat.lt_of_lt_of_le hcz m.young)
  have hgO : g ∉ O := fun z => absurd (Nat.lt_of_lt_of_le (hO g z) (Nat.le_trans hsz m.gnew)) (Nat.lt_irrefl _)
  obtain ⟨cc, hgen, hal⟩ := m.gen
  have os1 : sc.os = X.s_0.os := I1.os
  have hbz : X.base.get? a = none := by
    cases q : X.base.get? a with
    | none => rfl
    | some o => exact absurd (Nat.lt_of_lt_of_le (Heap.lt_size (I1.bk a o q)) m.young) (Nat.lt_irrefl _)
  have hasm : a ∉ frs X.stack := fun hm => by
    rcases List.mem_cons.mp (I1.stkSub a hm) with z | z
    · exact absurd (Nat.lt_of_lt_of_le I1.lt (z ▸ m.young)) (Nat.lt_irrefl _)
    · exact I1.nofs m.young z
  have al0 := hal X.A.in1.in1 (a :: Z) (g :: O) (room_in2 hr) I1.ok.frames fun z hz' => by
    rcases List.mem_cons.mp hz' with y | y
    · rw [y]
      exact ⟨.inr (.inr rfl), I1.hok.fresh m.young, hasm, hbz⟩
    · obtain ⟨h1, h2, h3⟩ := hln z y
      refine ⟨.inl (hlt z y), h1, fun hm => ?_, hZb z y⟩
      rcases List.mem_cons.mp (I1.stkSub z hm) with t | t
      · exact h2 t
      · exact h3 t
  rw [os1] at al0
  have w0 : Wk X.s_0.os (a :: Z) (g :: O) s' (s'.setGen g .running) := by
    rw [← os1]
    refine m.first (fun z hz' => ?_) List.mem_cons_self
    rcases List.mem_cons.mp hz' with y | y
    · rw [y]; exact m.isg.noCell
    · obtain ⟨o, e, hd⟩ := hsw z y
      exact ⟨o, m.keep z o ((hsc z y).trans e), hd⟩
  have main := run_yfg (X := X) (A := A) (Z := Z) (O := O) (F := F) (a := a) (g := g) (r := r) (ys := ys) (Fi := Fe X.prog X.w X.s_0.os X.stack (a :: Z) H1 sc (fun zs H1 => ∀ sw', Stand Z sw' → D.nx (r, ys ++ zs, sw') σ H1))
    (fs := .ret (fun r => ((match r with | .ok f => (.pure f : Sem Flow) | .error e => .raise e).bind fun f => match f with
        | .ret v => pure v
        | _ => unsupported "internal:call-without-return-value").wrap (fun b => (dropValue (.YieldFrom e yp) pos b).wrap K J gd lv) J gd lv) none (gd false) (lv []) c p [] :: fs)
    (by rw [over_ret, gs.over, Around.under_plainId plain_yf]) (by rw [splitAtGen_ret, gs.split]; rfl) (by show (gd false || fs.any Frame.guarded) = false; rw [gs.gd, gs.guard]; rfl) hh (by have := hr.dp; omega) haZ hac hcs hgO
    (fun zs sw2 si sf e2 h' hsw2 hsi hF hS hk hsz2 => ?_) n [] sw s' s' (.fresh cc) hgen al0 w0 m.isg m.lim (fun b hb => ?_) hsw
  · rw [List.append_nil] at main
    exact main
  · refine run_leaf (.ok (.ret .none)) ?_
    obtain ⟨H', os2, bare2, un, hok, hold2, hn2, lim2, qq⟩ := hF
    have I2 : Inv X ip σ H' { sf.setGen g .finished with heap := h' } := by
      refine (unz I1).call' (ch := a :: Z) (os2.trans os1.symm) (un.trans (Un.kept hk)) (hok.kept hk) (allBare_setGen bare2 rfl) fun b hb => ?_
      have pold : ∀ p ∈ X.pn ++ ip, p.1 < sc.heap.objs.size := fun p hp => Heap.lt_size ((unz I1).pin p hp).1
      rcases List.mem_cons.mp hb with y | y
      · rw [y]
        refine ⟨.inr (Nat.le_trans I1.sz m.young), Nat.ne_of_gt (Nat.lt_of_lt_of_le I1.lt m.young), fun x cl e z => ?_, fun p hp z => ?_⟩
        · obtain ⟨v, hcell⟩ := I1.cell x cl e
          exact absurd (Nat.lt_of_lt_of_le hcell.lt (by rw [z]; exact m.young)) (Nat.lt_irrefl _)
        · exact absurd (Nat.lt_of_lt_of_le (pold p hp) (by rw [z]; exact m.young)) (Nat.lt_irrefl _)
      · obtain ⟨h1, h2, h3⟩ := hz b y
        refine ⟨h1, h2, h3, fun p hp e => ?_⟩
        rw [hpn, List.nil_append] at hp
        exact hip_of hip p hp (by rw [e]; exact y)
    have I3 : Inv X (pz Z (r, ys ++ zs, sw2) ++ ip) σ H' { sf.setGen g .finished with heap := h' } := by
      refine rez I2 (fun z hz' => ⟨hn2 z (List.mem_cons_of_mem _ hz'), (hln z hz').2⟩) fun z hz' => ?_
      obtain ⟨o, e, hd⟩ := hsw2 z hz'
      exact ⟨o, hk z o ((hold2 z (List.mem_cons_of_mem _ hz')).trans ((hsi z hz').trans e)), e, hd⟩
    exact k (r, ys ++ zs, sw2) .next _ ⟨σ, H', I3, qq sw2 fun z hz' => let ⟨o, e, _⟩ := hsw2 z hz'; ⟨o, e⟩⟩
  · obtain ⟨o, e, _⟩ := hsw b hb
    rw [e]
    exact m.keep b o ((hsc b hb).trans e)
end
end Yf
set_option Elab.async false
set_option linter.all false
set_option maxRecDepth 100000
set_option maxHeartbeats 4000000
/-! F10: a generator def by its body. -/
namespace Yf
open PySem PySem.Spec PyProof.Rows L2 GenW

/-- a def's code over its body -/
theorem run_func {prog : Program} {w : World} {A : Around} {B : Nat → List Frame → (Shared → Thread → Prop) → Prop} {fs : List Frame} {s : Shared} {env : Env} {body : List Stmt}
    (h : RunOn (model prog w) A B (.func body env) ((execs body env).wrap (fun f => .pure (.done (.ret (match f with | .ret v => v | _ => .none)))) (fun e => (leaving env e).wrap (fun _ => .raise e) .raise id id) id id) fs s) :
    RunOn (model prog w) A B (.func body env) ((model prog w).den (.func body env)) fs s := by
  show RunOn _ A B _ (.point [] fun _ => ((execs body env).onRaise (leaving env)) >>= _) fs s
  refine run_point ?_
  rw [Sem.onRaise_eq_wrap, Sem.bind_eq_wrap', Sem.wrap_wrap]
  rw [Sem.wrap_congr (execs body env) _ _ (K' := fun f => .pure (.done (.ret (match f with | .ret v => v | _ => .none)))) (H' := fun e => (leaving env e).wrap (fun _ => .raise e) .raise id id)
    (fun f => by cases f <;> rfl) (fun e => by rw [Sem.bind_eq_wrap, Sem.wrap_wrap]; rfl)]
  exact h

/-- the context of a generator's body: the loose objects may change, no exception leaves -/
def gX (P : Program) (w : World) (K : PySem.W.Frag) (mg : Str → Option Value) (base : Heap) (N : List Str) (qual : Str) (scope : Scope) (f : Addr) (cd : Value) (A : Around) (outer : List Env) (s : Shared) (H : Hp) (Z : List Addr) : Cx :=
  { gcxOf P w K mg base N qual scope f cd A outer s H (fun _ _ _ => False) [] with
    ex := Z
    xe := fun _ _ => False }
/-- a generator def's promise: the arguments, the heap, how many things come, what is wanted of them and the heap at the end -/
abbrev SpG2 := List V → Hp → Nat → (List V → Hp → Prop) → Prop
structure GFn2 (P : Program) (w : World) (K : PySem.W.Frag) (mg : Str → Option Value) (base : Heap) (k : Nat) (f : Addr) (fd : FuncData) (ps : List Str) (sp : SpG2) : Prop where
  len : ∀ vs H n Q, sp vs H n Q → vs.length = ps.length
  run : ∀ (A : Around) (outer : List Env) (s : Shared) (H : Hp) (args : Args) (us : List Value) (vs : List V) (n : Nat) (Q : List V → Hp → Prop), Room k A → Env0 P w K mg base A outer s H → BindsTo s fd args (ps.zip us) → Vals vs us → sp vs H n Q →
    codeAny (model P w) A (.call (.ref f) args) (fun r s' => ∃ a g, r = .ok (.ret (.ref a)) ∧ Made P w k base outer H s s' a g n Q) s
/-- what is told of the loose objects to a generator's body -/
structure Loose (X : Cx) (Z : List Addr) : Prop where
  ok : ZOk X Z
  base : ∀ z ∈ Z, X.base.get? z = none
  sta : cStatics ∉ Z

section
variable {P : Program} {w : World} {K : PySem.W.Frag} {mg : Str → Option Value} {base : Heap} {N ps : List Str} {qual : Str} {scope : Scope} {f : Addr} {cd : Value} {A : Around} {outer : List Env} {s s1 : Shared} {H : Hp} {Z : List Addr}
theorem inv_gX {σ : L2.St} {H' : Hp} (I : Inv (gcxOf P w K mg base N qual scope f cd A outer s H (fun _ _ _ => False) []) [] σ H' s1)
    (hL : ∀ b ∈ Z, b ≠ (envOfC qual scope s.heap.objs.size f cd).locals ∧ ∀ x c, (envOfC qual scope s.heap.objs.size f cd).cells.lookup x = some c → c ≠ b) (hb : ∀ z ∈ Z, base.get? z = none) (hf : ∀ z ∈ Z, z ∉ frs outer) :
    Inv (gX P w K mg base N qual scope f cd A outer s H Z) [] σ H' s1 := by
  refine ⟨⟨I.ok.mod, I.ok.kind, I.ok.glob, I.ok.blt, I.ok.above, I.ok.inj, I.ok.has, I.ok.cab, I.ok.hd, I.ok.frames, I.ok.stk, hL, I.ok.bs, I.ok.bsz, fun b o e hm => ?_, fun b hm => hf b hm, I.ok.funs, I.ok.frf⟩, I.os, I.bare, I.base.mono (fun _ z => z) (fun b z => absurd (show b ∈ ([] : List Addr) from z) List.not_mem_nil), I.loc, I.cell, I.free, I.freeC, I.pin, I.hok, I.len⟩
  have e' : base.get? b = some o := e
  rw [hb b hm] at e'
  cases e'
end

/-- a generator def, by its body -/
theorem gfn2_of {P : Program} {w : World} {K : PySem.W.Frag} {mg : Str → Option Value} {base : Heap} {k : Nat} {f : Addr} {name qual : Str} {params : Arguments} {body : List Stmt} {scope : Scope} {dV kV doc pm cdv ct oc : Value} {an od : Option Addr}
    {osl : Array (Option Value)} {N ps : List Str} {sp : SpG2} (lk : K.lookup f = some ⟨oc, od, .func (PySem.W.fnOf name qual params body scope dV kV doc pm an cdv ct), osl⟩) (hcd : PySem.W.codeIn K cdv qual = true) (S : GScope N ps scope)
    (len : ∀ vs H n Q, sp vs H n Q → vs.length = ps.length)
    (hbody : ∀ (A : Around) (outer : List Env) (s : Shared) (H : Hp) (vs : List V) (n : Nat) (Q : List V → Hp → Prop) (Z : List Addr) (O : List Nat) (F : List V → Shared → Shared → Prop), Room k (A.deeper (envOfC qual scope s.heap.objs.size f cdv)) → sp vs H n Q →
      Loose (gX P w K mg base N qual scope f cdv A outer s H Z) Z →
      ∃ t : TSI Ix, GSts (gX P w K mg base N qual scope f cdv A outer s H Z) A (BGen (model P w) A s.os Z O F) (pz Z) body t ∧ ∀ sw, Stand Z sw → t { nx := fun i _ H' => i.1 = 0 ∧ Stand Z i.2.2 ∧ Q i.2.1 H', rt := fun i v H' => v = .non ∧ i.1 = 0 ∧ Stand Z i.2.2 ∧ Q i.2.1 H' } (n, [], sw) (start N vs) H) :
    GFn2 P w K mg base (k + 1) f (PySem.W.fnOf name qual params body scope dV kV doc pm an cdv ct) ps sp := by
  refine ⟨len, fun A outer s H args us vs n Q hr e0 hb r hsp => ?_⟩
  have hl := len _ _ _ _ hsp
  have KX : K.In s.heap := e0.mod.kin.keeps fun b o e => (e0.bs b o e).1
  have lim : s.heap.NoLimit := e0.mod.nolimit.keeps fun b o e => (e0.bs b o e).1
  have hkind : ∀ y ∈ ps.zip us, scope.names.lookup y.1 = some .local ∨ (scope.names.lookup y.1 = some .cell ∧ ((cellsFrom (s.heap.objs.size + 1) scope.names []).lookup y.1).isSome = true) := fun ⟨nn, v⟩ hy => by
    rcases S.par nn (List.of_mem_zip hy).1 with q | q
    · exact .inl q
    · exact .inr ⟨q, PySem.W.cellsFrom_some _ _ _ (.inl q)⟩
  refine codeAny_call_generator hr.depth (KX _ _ lk) rfl S.co S.gen rfl (PySem.W.codeRec_of KX hcd) (hb _ _ _ _ ?_)
  refine wpAny_newFunctionEnv_cells S.kind hkind fun env he s1 x => ?_
  subst he
  have lim1 : s1.heap.NoLimit := lim.keeps x.toInCall.keep
  refine ⟨lim1, ?_⟩
  obtain ⟨h1, tk, es1, hk1⟩ := x.done
  have os1 : s1.os = s.os := by rw [es1]
  have gen1 : s1.gens = s.gens := by rw [es1]
  have lt1 : s.heap.objs.size < s1.heap.objs.size := x.toInCall.ns.lt
  have kp1 : ∀ b o, s.heap.get? b = some o → s1.heap.get? b = some o := x.toInCall.keep
  have I0 : Inv (gcxOf P w K mg base N qual scope f cdv A outer s H (fun _ _ _ => False) []) [] (start N vs) H s1 := inv_startG S hr.hd e0 hl r x
  have main : ∀ (go : Obj) (nm qn : Value) (tk2 : Nat), go.cls = .type "generator" → go.data = .fields #[.int s1.gens.size 0, nm, qn] → go.slots = #[] → (∀ h : Heap, (h.push go).get? h.objs.size = some go) →
      ∃ a g, (Except.ok (Flow.ret (.ref s1.heap.objs.size)) : Result) = .ok (.ret (.ref a)) ∧ Made P w (k + 1) base outer H s { s1 with gens := s1.gens.push (.fresh (.func body (envOfC qual scope s.heap.objs.size f cdv))), toks := tk2, heap := s1.heap.push go } a g n Q := by
    intro go nm qn tk2 hgc hgd0 hgs hgp
    refine ⟨s1.heap.objs.size, s1.gens.size, rfl, ?_⟩
    have kp2 : ∀ b o, s1.heap.get? b = some o → (s1.heap.push go).get? b = some o := fun b o e => Heap.get?_push_of_some _ e
    refine ⟨Nat.le_of_lt lt1, ⟨go, nm, qn, hgp _, hgc, hgd0, by unfold slotN; rw [hgs]; rfl⟩, os1, AllBare.push (by rw [gen1]; exact e0.bare) rfl, lim1.keeps kp2, fun b o e => kp2 b o (kp1 b o e), by rw [gen1]; exact Nat.le_refl _, ?_⟩
    refine ⟨_, Array.getElem?_push_size .., fun Aw Z O hrw hfr hZ => ?_⟩
    have e0w : Env0 P w K mg base Aw outer s H := ⟨hfr, e0.mod, e0.bs, e0.bsz, e0.funs, e0.frf, e0.hok, e0.bare⟩
    have I1 : Inv (gcxOf P w K mg base N qual scope f cdv Aw outer s H (fun _ _ _ => False) []) [] (start N vs) H s1 := inv_startG S hrw.hd e0w hl r x
    have hapart : ∀ b ∈ Z, b ≠ (envOfC qual scope s.heap.objs.size f cdv).locals ∧ ∀ y c, (envOfC qual scope s.heap.objs.size f cdv).cells.lookup y = some c → c ≠ b := fun b hb => by
      have low : ∀ q : Addr, s.heap.objs.size ≤ q → q < s1.heap.objs.size → q ≠ b := fun q q1 q2 z => by
        rcases (hZ b hb).1 with t | t | t
        · rw [← z] at t; exact absurd (Nat.lt_of_lt_of_le t q1) (Nat.lt_irrefl _)
        · have t' : (s1.heap.push go).objs.size ≤ b := t
          rw [Heap.size_push, ← z] at t'
          exact absurd (Nat.lt_trans q2 t') (Nat.lt_irrefl _)
        · rw [z, t] at q2; exact absurd q2 (Nat.lt_irrefl _)
      refine ⟨Ne.symm (low _ (Nat.le_refl _) lt1), fun y c e => low c ?_ ?_⟩
      · exact Nat.le_of_lt (x.above y c (PySem.mem_of_lookup e))
      · obtain ⟨v, o, ho, _⟩ := I1.cell y c e
        exact Heap.lt_size ho
    have hX : Inv (gX P w K mg base N qual scope f cdv Aw outer s H Z) [] (start N vs) H s1 := inv_gX I1 hapart (fun z hz => (hZ z hz).2.2.2) fun z hz => (hZ z hz).2.2.1
    have hzok : ZOk (gX P w K mg base N qual scope f cdv Aw outer s H Z) Z := fun z hz => ⟨.inl hz, hapart z hz⟩
    have hcz : cStatics < s.heap.objs.size := let ⟨_, hn, _⟩ := lim; hn.lt
    have hloose : Loose (gX P w K mg base N qual scope f cdv Aw outer s H Z) Z := ⟨hzok, fun z hz => (hZ z hz).2.2.2, fun hc => by
      obtain ⟨mc, ⟨o, es, ep, ho, _⟩, _⟩ := e0.mod.nolimit
      have := (hZ cStatics hc).2.2.2
      rw [ho] at this
      cases this⟩
    obtain ⟨t, ht, hq⟩ := hbody Aw outer s H vs n Q Z O (Fe P w s.os outer Z H s Q) (hrw.deeper _) hsp hloose
    refine alive_iff.mpr fun sw wk => ?_
    have hstand : Stand Z sw := fun z hz => let ⟨o, e, _⟩ := wk.loose z hz; ⟨o, e⟩
    have I2 : Inv (gX P w K mg base N qual scope f cdv Aw outer s H Z) [] (start N vs) H sw := by
      refine stir (Z := Z) rfl hzok (fun p hp => by cases hp) hX (fun z hz => (hZ z hz).2.1) (wk.os.trans os1.symm) (fun b o hb e => wk.keep b o hb (kp2 b o e)) (bare_of wk (AllBare.push (by rw [gen1]; exact e0.bare) rfl))
    have I3 : Inv (gX P w K mg base N qual scope f cdv Aw outer s H Z) (pz Z (n, [], sw) ++ []) (start N vs) H sw := by
      refine rez I2 (fun z hz => ⟨(hZ z hz).2.1, (hapart z hz).1, (hZ z hz).2.2.1⟩) fun z hz => ?_
      obtain ⟨o, e, hd⟩ := wk.loose z hz
      exact ⟨o, e, e, hd⟩
    show RunOn _ Aw _ _ ((model P w).den (.func body (envOfC qual scope s.heap.objs.size f cdv))) [] sw
    refine run_func ?_
    have fin : ∀ (i : Ix) (v : Value) (σ' : L2.St) (H' : Hp) (s' : Shared), Inv (gX P w K mg base N qual scope f cdv Aw outer s H Z) (pz Z i ++ []) σ' H' s' → v = Value.none → i.1 = 0 → Stand Z i.2.2 → Q i.2.1 H' →
        RunOn (model P w) Aw (BGen (model P w) Aw s.os Z O (Fe P w s.os outer Z H s Q) i) (.func body (envOfC qual scope s.heap.objs.size f cdv)) (leafOf (.ok (.ret v))) [] s' := fun i v σ' H' s' J ev h0 hst hQ => by
      obtain ⟨m, ys, sw'⟩ := i
      obtain rfl : m = 0 := h0
      subst ev
      intro nn hnn st p Ψ hW hB
      obtain ⟨hO, g', k', l', c0, p0, st0, rfl, hE⟩ := hB
      refine Wins.step (step_leaf_gen ..) ?_
      exact hE s' hnn ⟨H', J.os, J.bare, J.base, J.hok, held J hst, fun z hz => (loose_none J z hz).1, J.nolimit, hQ⟩
    refine ht.run (n, [], sw) [] _ [] _ _ id id sw (start N vs) H _ ⟨over_func, rfl, rfl, rfl, fun _ _ z => z⟩ (fun p hp => by cases hp) (fun i fl s' hs => ?_) I3 (hq sw hstand)
    cases fl with
    | next =>
      obtain ⟨σ', H', J, h0, hst, hQ⟩ := hs
      exact fin i .none σ' H' s' J rfl h0 hst hQ
    | brk => obtain ⟨_, _, _, q⟩ := hs; exact False.elim q
    | cont => obtain ⟨_, _, _, q⟩ := hs; exact False.elim q
    | ret u =>
      obtain ⟨v, σ', H', J, rv, ev, h0, hst, hQ⟩ := hs
      subst ev
      have eu : u = Value.none := rv
      subst eu
      exact fin i .none σ' H' s' J rfl h0 hst hQ
  exact main _ _ _ _ rfl rfl rfl fun h => Heap.get?_push_size _ rfl
end Yf
set_option Elab.async false
set_option linter.all false
set_option maxRecDepth 100000
set_option maxHeartbeats 4000000
/-! F11: list of a generator, in big. -/
namespace Yf
open PySem PySem.Spec PyProof.Rows L2 GenW

section
variable {P : Program} {w : World} {A : Around} {E : Value → Shared → Prop} {s : Shared}
theorem bigCode_builtinU {id : String} {args : Args} {b : Builtin} {R : Result → Shared → Prop} (hb : entryFor table id = some b)
    (h : big (model P w) (A.under (.builtin id args)) (b args) (fun fin s' => match fin with | .done f => R (.ok f) s' | .again c' => c'.quiet = true ∧ bigCode (model P w) A c' R s') (fun e s' => R (.error e) s') s) :
    bigCode (model P w) A (.builtin id args) R s := by
  refine bigCode_tree ?_
  show big _ _ (match entryFor table id with | some b => b args | none => unsupported ((withoutEnding? id "#data").getD id)) _ _ s
  rw [hb]
  exact h
/-- a call of list with one argument: by its __init__ -/
theorem big_callList {u : Value} {Q : Value → Shared → Prop}
    (h : big (model P w) A.in1.in1 (Builtin.«list.__init__» ⟨[.ref s.heap.objs.size, u], []⟩) (fun fin s' => match fin with
        | .done f => f = .ret .none ∧ Q (.ref s.heap.objs.size) s'
        | .again c' => c'.quiet = true ∧ bigCode (model P w) A.in1 c' (fun r s' => match r with | .ok f => f = .ret .none ∧ Q (.ref s.heap.objs.size) s' | .error e => E e s') s') E
      { s with heap := s.heap.push { cls := .type "list", data := .seq #[] } }) : big (model P w) A (call (.type "list") [u]) Q E s := by
  obtain ⟨c, tl, hmro⟩ := F.called_list.mro
  have hmade := F.called_list.made
  have hsub := F.called_list.sub
  have h1 := F.called_list.notType
  have h2 := F.called_list.canCreate
  have h3 := F.typeCall_list_1 u
  refine big_call (bigCode_tree ?_)
  show big _ _ (callAny (.type "list") _) _ _ _
  refine big_ok ⟨Code.quiet_builtin _ (by decide +kernel), bigCode_builtinU F.entry_type_call ?_⟩
  rw [Around.under_plain (weight_type_call_type "list" [u] []) rfl]
  show big _ _ (Builtin.«type.__call__» _) _ _ _
  unfold Builtin.«type.__call__»
  simp only [h1, h2, h3, hmro, hmade, Bool.false_eq_true, if_false, pure_bind, List.isEmpty_cons]
  have hS : (s.heap.push { cls := .type "list", data := .seq #[] }).get? s.heap.objs.size = some { cls := .type "list", data := .seq #[] } := Heap.get?_push_size _ rfl
  refine big_bind (big_holding (big_call (bigCode_mono (bigCode_of (code_list_new (E := E) (Q₁ := fun v s' => v = .ref s.heap.objs.size ∧ s' = { s with heap := s.heap.push { cls := .type "list", data := .seq #[] } }) u ⟨rfl, rfl⟩)) fun r s' hr => ?_)))
  match r, hr with
  | .error e, hr => exact hr
  | .ok (.ret v), hr =>
    obtain ⟨rfl, rfl⟩ := hr
    refine big_bind (big_of (wpAny_isInstance (T := "list") (b := true) ⟨_, hS, rfl⟩ hsub ?_))
    rw [if_neg (by decide)]
    have hT : Shared.TypeIs { s with heap := s.heap.push { cls := .type "list", data := .seq #[] } } (.ref s.heap.objs.size) "list" := ⟨_, hS, rfl⟩
    refine big_bind (big_holding ?_)
    simp only [callSpecial?]
    refine big_bind (big_of (wpAny_specialOf hT F.slot_list_init.lookup ?_))
    simp only [F.slot_list_init.bind]
    refine big_holding (big_bind (big_ok (big_bind (big_call (bigCode_tree ?_)))))
    show big _ A.in1.in1 (do checkBuiltinCall "list.__init__" _; again (.builtin "list.__init__" _)) _ _ _
    refine big_bind (big_of (F.slot_list_init.check _ _ _ _ _ _ _ _ hT (F.args_list_init_2 _ _) (big_ok ⟨plainId_quiet F.slot_list_init.plain _, bigCode_builtin F.entry_list_init F.slot_list_init.plain ?_⟩)))
    refine big_mono h (fun f s' _ q => ?_) fun _ _ _ q => q
    have go : ∀ s'', Q (.ref s.heap.objs.size) s'' → big (model P w) A.in1 (if (Value.none != Value.none) = true then do
                rule "type.call.init-returned-value"
                let __do_lift ← typeNameOf Value.none
                raiseErrorMade "TypeError" (toString "__init__() should return None, not '" ++ toString __do_lift ++ toString "'")
                ret (Value.ref s.heap.objs.size)
              else ret (Value.ref s.heap.objs.size)) (fun fin s' =>
                match fin with
                | Fin.done f =>
                  match (Except.ok f : Result) with
                  | Except.ok (Flow.ret v) => Q v s'
                  | Except.ok a => False
                  | Except.error e => E e s'
                | Fin.again c' =>
                  c'.quiet = true ∧
                    bigCode (model P w) A c'
                      (fun r s' =>
                        match r with
                        | Except.ok (Flow.ret v) => Q v s'
                        | Except.ok a => False
                        | Except.error e => E e s')
                      s') (fun e s' => E e s') s'' := fun s'' q => by
      rw [if_neg (by decide)]
      exact big_ok q
    cases f with
    | done f =>
      obtain ⟨rfl, q2⟩ := q
      exact big_ok (go _ q2)
    | again c' =>
      refine ⟨q.1, bigCode_mono q.2 fun r s2 q3 => ?_⟩
      match r, q3 with
      | .error e, q3 => exact q3
      | .ok f, q3 =>
        obtain ⟨rfl, q2⟩ := q3
        exact big_ok (go _ q2)

theorem Fe.young {o0 : OsState} {outer : List Env} {Z : List Addr} {H : Hp} {sc sw se : Shared} {cont : List V → Hp → Prop} {ys : List V} (hy : ∀ z ∈ Z, sc.heap.objs.size ≤ z) (h : Fe P w o0 outer Z H sc cont ys sw se) :
    ∃ H', se.os = o0 ∧ AllBare se.gens ∧ Un (frs outer) [] H H' sc.heap se.heap ∧ HOk P w H' se.heap ∧ (∀ b ∈ Z, se.heap.get? b = sw.heap.get? b) ∧ (∀ b ∈ Z, H' b = none) ∧ se.heap.NoLimit ∧ cont ys H' := by
  obtain ⟨H', h1, h2, u, h4, h5, h6, h7, h8⟩ := h
  have nz : ∀ b o, sc.heap.get? b = some o → b ∉ Z := fun b o e hz => absurd (Nat.lt_of_lt_of_le (Heap.lt_size e) (hy b hz)) (Nat.lt_irrefl _)
  exact ⟨H', h1, h2, ⟨fun b o e n f _ => u.keep b o e n f (nz b o e), fun b o e n f _ => u.slot b o e n f (nz b o e), fun b o e n _ => u.free b o e n (nz b o e), fun b o e _ => u.there b o e (nz b o e), u.tups, u.frzs, u.tbls⟩, h4, h5, h6, h7, h8⟩

/-- the loop of list's extend over a generator -/
theorem drain2 {o0 : OsState} {Fi : List V → Shared → Shared → Prop} {R : Result → Shared → Prop} {S a : Addr} {g : Nat} {res : Value} (hh : A.handled = none) (hd : A.depth < recursionLimit) (hSa : S ≠ a) (hSc : S ≠ cStatics)
    (hend : ∀ ys sw s' acc c, Fi ys sw s' → sw.heap.get? S = some (lstObj acc c) → Vals ys acc.toList → ys.length ≤ sizeLine → ∀ h', (∀ b o, s'.heap.get? b = some o → h'.get? b = some o) → R (.ok (.ret res)) { s'.setGen g .finished with heap := h' }) :
    ∀ (m : Nat) (ys : List V) (sl s : Shared) (gs : GenState) (acc : Array Value) (c : Nat), s.gens[g]? = some gs → Alive (model P w) A.in1.in1 o0 [S, a] [g] Fi m ys gs sl → Wk o0 [S, a] [g] sl (s.setGen g .running) → IsG s.heap a g 0 → s.heap.NoLimit →
      s.heap.get? S = some (lstObj acc c) → Vals ys acc.toList → ys.length + m ≤ sizeLine → bigCode (model P w) A (.builtin "list.extend.loop" ⟨[.ref S, .ref a, res], []⟩) R s := by
  intro m
  induction m with
  | zero =>
    intro ys sl s gs acc c hgs hal hw hg hl hS hv hle
    have hgsz : g < s.gens.size := (Array.getElem?_eq_some_iff.mp hgs).1
    refine bigCode_builtin F.entry_extend_loop F.plain_extend_loop ?_
    show big _ A.in1 (pyNext (.ref a) >>= _) _ _ s
    refine big_bind ?_
    unfold pyNext
    refine big_bind (big_attempt ?_)
    refine big_nextG hh rfl hl hd hg hgs hal hw (fun i hi => by rw [List.mem_singleton.mp hi]; exact hgsz) (fun _ s' hn hF e h' hSx hk hsz => ?_) fun m' hm => by cases hm
    obtain ⟨x, o, vs, rfl, hoa, hcls, hdat, h5⟩ := hSx
    try dsimp only
    refine big_bind (big_of (wpAny_isInstance (T := "StopIteration") (b := true) ⟨_, hoa, hcls⟩ isSubtype_stop ?_))
    rw [if_pos rfl]
    refine big_ok (big_ok ?_)
    exact hend ys _ s' acc c hF hS hv hle h' hk
  | succ m ih =>
    intro ys sl s gs acc c hgs hal hw hg hl hS hv hle
    have hgsz : g < s.gens.size := (Array.getElem?_eq_some_iff.mp hgs).1
    refine bigCode_builtin F.entry_extend_loop F.plain_extend_loop ?_
    show big _ A.in1 (pyNext (.ref a) >>= _) _ _ s
    refine big_bind ?_
    unfold pyNext
    refine big_bind (big_attempt ?_)
    refine big_nextG hh rfl hl hd hg hgs hal hw (fun i hi => by rw [List.mem_singleton.mp hi]; exact hgsz) (fun h0 => by cases h0) fun m' hm x v sy gs' hn rv y al => ?_
    obtain rfl : m = m' := by omega
    have hSy : (sy.setGen g gs').heap.get? S = some (lstObj acc c) := (y.hold S List.mem_cons_self).trans hS
    have hlen := hv.length
    have hasz : acc.size < sizeLine := by
      have : acc.size = ys.length := by rw [← Array.length_toList, hlen]
      omega
    refine big_ok ?_
    show big _ A.in1 (updateSeq S (·.push v) >>= _) _ _ _
    refine big_bind (big_of (wpAny_updateSeq hSy rfl ?_ (Nat.le_of_lt hasz) (by show (acc.push v).size ≤ sizeLine + 1; rw [Array.size_push]; omega)))
    refine big_ok ⟨plainId_quiet F.plain_extend_loop _, ?_⟩
    obtain ⟨c3, hS3⟩ : ∃ c3, (sy.heap.update S (Obj.mapSeq (·.push v))).get? S = some (lstObj (acc.push v) c3) := ⟨_, Heap.get?_update_self (Obj.mapSeq (·.push v)) hSy rfl⟩
    have keep3 : ∀ b o, b ≠ S → sy.heap.get? b = some o → (sy.heap.update S (Obj.mapSeq (·.push v))).get? b = some o := fun b o hbS e => (Heap.get?_update_other _ _ (Ne.symm hbS)).trans e
    have hgy : g < sy.gens.size := Nat.lt_of_lt_of_le hgsz hn
    have hga : IsG sy.heap a g 0 := hg.same (y.hold a (List.mem_cons_of_mem _ List.mem_cons_self))
    have hga3 : IsG (sy.heap.update S (Obj.mapSeq (·.push v))) a g 0 := by
      obtain ⟨o, nm, qn, ho, r⟩ := hga
      exact ⟨o, nm, qn, keep3 a o (Ne.symm hSa) ho, r⟩
    refine ih (ys ++ [x]) sy { sy.setGen g gs' with heap := sy.heap.update S (Obj.mapSeq (·.push v)) } gs' (acc.push v) c3 (setGen_at hgy) al ⟨y.os, fun b o hb q => ?_, fun b hb => ?_, fun i hi => ?_, fun i hi q e => ?_⟩ hga3 ?_ hS3 ?_ ?_
    · exact keep3 b o (fun z => hb (by rw [z]; exact List.mem_cons_self)) q
    · rcases List.mem_cons.mp hb with z | z
      · rw [z]; exact ⟨_, hS3, fun v q => by cases q⟩
      · rw [List.mem_singleton.mp z]; exact hga3.noCell
    · have hig : i ≠ g := fun z => hi (by rw [z]; exact List.mem_cons_self)
      show ((sy.gens.setIfInBounds g gs').setIfInBounds g .running)[i]? = _
      rw [Array.getElem?_setIfInBounds_ne (Ne.symm hig), Array.getElem?_setIfInBounds_ne (Ne.symm hig)]
    · rw [List.mem_singleton.mp hi] at e
      have e2 : (({ sy.setGen g gs' with heap := sy.heap.update S (Obj.mapSeq (·.push v)) } : Shared).setGen g .running).gens[g]? = some .running := setGen_at (s := { sy.setGen g gs' with heap := _ }) (by rw [show ({ sy.setGen g gs' with heap := sy.heap.update S (Obj.mapSeq (·.push v)) } : Shared).gens = (sy.setGen g gs').gens from rfl, setGen_size]; exact hgy)
      rw [e2] at e
      cases e
      rfl
    · exact nolimit_but (b := S) y.lim hSc keep3
    · rw [Array.toList_push]
      exact hv.append (.cons rv .nil)
    · rw [List.length_append]; simp only [List.length_cons, List.length_nil]; omega
end
end Yf
set_option Elab.async false
set_option linter.all false
set_option maxRecDepth 100000
set_option maxHeartbeats 4000000
/-! F12: the expression list(g); calls with arguments in big. -/
namespace Yf
open PySem PySem.Spec PyProof.Rows L2 GenW

section
variable {P : Program} {w : World} {A : Around} {E : Value → Shared → Prop} {s : Shared}
/-- list(g) -/
theorem call_list_g {base : Heap} {outer : List Env} {H : Hp} {sc : Shared} {k : Nat} {a : Addr} {g n : Nat} {cont : List V → Hp → Prop} {Q' : Value → Shared → Prop}
    (hr : Room (k + 3) A) (hfr : A.frames = some outer) (m : Made P w k base outer H sc s a g n cont) (hn : n ≤ sizeLine) (hok : HOk P w H sc.heap) (hlow : ∀ b ∈ frs outer, b < sc.heap.objs.size)
    (hbk : ∀ b o, base.get? b = some o → sc.heap.get? b = some o) (hgrow : sc.heap.objs.size ≤ s.heap.objs.size)
    (hQ : ∀ S s' acc c H' ys, s.heap.objs.size ≤ S → s'.heap.get? S = some (lstObj acc c) → Vals ys acc.toList → ys.length ≤ sizeLine → s'.os = sc.os → AllBare s'.gens → Un (frs outer) [] H H' sc.heap s'.heap → HOk P w H' s'.heap →
      H' S = none → cont ys H' → Q' (.ref S) s') :
    big (model P w) A (call (.type "list") [.ref a]) Q' E s := by
  have hg := m.isg
  have hal := m.lim
  have haS : a < s.heap.objs.size := hg.lt
  have hSa : s.heap.objs.size ≠ a := Nat.ne_of_gt haS
  have hcl : cStatics < s.heap.objs.size := let ⟨_, hn, _⟩ := m.lim; hn.lt
  have hSc : s.heap.objs.size ≠ cStatics := Nat.ne_of_gt hcl
  refine big_callList ?_
  have hS : (s.heap.push { cls := .type "list", data := .seq #[] }).get? s.heap.objs.size = some { cls := .type "list", data := .seq #[] } := Heap.get?_push_size _ rfl
  show big _ A.in1.in1 (do let old ← Builtin.List.listItems (.ref s.heap.objs.size); Builtin.List.listUpdate (.ref s.heap.objs.size) (fun _ => #[]); letGo old.toList.reverse; Builtin.List.listExtendWith (.ref s.heap.objs.size) (.ref a) .none) _ _ _
  refine big_bind (big_of ?_)
  unfold Builtin.List.listItems
  refine wpAny_bind (wpAny_seqItems hS rfl (wpAny_pure ?_))
  show big _ A.in1.in1 (updateSeq s.heap.objs.size (fun _ => #[]) >>= fun _ => letGo (#[] : Array Value).toList.reverse >>= fun _ => Builtin.List.listExtendWith (.ref s.heap.objs.size) (.ref a) .none) _ _ _
  refine big_bind (big_of (wpAny_updateSeq hS rfl ?_))
  have hS2 := Heap.get?_update_self (Obj.mapSeq (fun _ => (#[] : Array Value))) hS rfl
  refine big_bind (big_of (wpAny_letGo ?_))
  unfold Builtin.List.listExtendWith
  have up : ∀ (h : Heap) (f : Obj → Obj), (∀ b o, s.heap.get? b = some o → h.get? b = some o) → ∀ b o, s.heap.get? b = some o → (h.update s.heap.objs.size f).get? b = some o := fun h f q b o e =>
    (Heap.get?_update_other _ _ (Ne.symm (Nat.ne_of_lt (Heap.lt_size e)))).trans (q b o e)
  have k1 : ∀ b o, s.heap.get? b = some o → (s.heap.push { cls := .type "list", data := .seq #[] }).get? b = some o := fun b o e => Heap.get?_push_of_some _ e
  have k2 := up _ (Obj.mapSeq (fun _ => (#[] : Array Value))) k1
  have gty : ∀ {h : Heap}, (∀ b o, s.heap.get? b = some o → h.get? b = some o) → IsG h a g 0 := fun {h} q => by
    obtain ⟨o, nm, qn, ho, r⟩ := hg
    exact ⟨o, nm, qn, q a o ho, r⟩
  refine big_bind (big_of (wpAny_typeOf (IsG.typeIs (s := { s with heap := _ }) (gty k2)) ?_))
  have h1 : Builtin.List.listSameRef (.ref s.heap.objs.size) (.ref a) = false := by simp [Builtin.List.listSameRef, hSa]
  have h2 : (Value.type "generator" == Value.type "list") = false := by decide
  have h3 : (Value.type "generator" == Value.type "tuple") = false := by decide
  simp only [h1, h2, h3, Bool.or_false, Bool.false_eq_true, if_false]
  refine big_bind (big_of (iter_g (s := { s with heap := _ }) (gty k2) ?_))
  refine big_bind (big_holding (big_of ?_))
  unfold Builtin.List.listLengthHint
  refine wpAny_bind (wpAny_specialOf (IsG.typeIs (s := { s with heap := _ }) (gty k2)) F.gen_no_len ?_)
  show wpAny _ A.in1.in1 (specialOf (Value.ref a) (Str.ofString "__length_hint__") >>= _) _ _ _
  refine wpAny_bind (wpAny_specialOf (IsG.typeIs (s := { s with heap := _ }) (gty k2)) F.gen_no_hint ?_)
  refine wpAny_pure ?_
  show big _ A.in1.in1 (rule "list.extend.makes-room" >>= fun _ => Builtin.List.listTouch (.ref s.heap.objs.size) >>= fun _ =>
    again (.builtin "list.extend.loop" ⟨[.ref s.heap.objs.size, .ref a, .none], []⟩)) _ _ _
  refine big_bind (big_of (wpAny_rule ?_))
  refine big_bind (big_of ?_)
  show wpAny _ A.in1.in1 (updateSeq s.heap.objs.size (·.push .none) >>= fun _ => updateSeq s.heap.objs.size (·.pop)) _ _ _
  refine wpAny_bind (wpAny_updateSeq hS2 rfl ?_)
  have hS3 := Heap.get?_update_self (Obj.mapSeq (·.push Value.none)) hS2 rfl
  refine wpAny_updateSeq (hz := by seq_fits) hS3 rfl ?_
  have hS4 := Heap.get?_update_self (Obj.mapSeq (·.pop)) hS3 rfl
  have k4 := up _ (Obj.mapSeq (·.pop)) (up _ (Obj.mapSeq (·.push Value.none)) k2)
  refine big_ok ⟨plainId_quiet F.plain_extend_loop _, ?_⟩
  obtain ⟨cc, hgen, halive⟩ := m.gen
  have hgsz : g < s.gens.size := (Array.getElem?_eq_some_iff.mp hgen).1
  have hZ : ∀ z ∈ [s.heap.objs.size, a], ZFit base outer H sc s a z := fun z hz => by
    have fit : sc.heap.objs.size ≤ z → (z < sc.heap.objs.size ∨ s.heap.objs.size ≤ z ∨ z = a) → ZFit base outer H sc s a z := fun hy h => by
      refine ⟨h, hok.fresh hy, fun hm => absurd (Nat.lt_of_lt_of_le (hlow z hm) hy) (Nat.lt_irrefl _), ?_⟩
      cases q : base.get? z with
      | none => rfl
      | some o => exact absurd (Nat.lt_of_lt_of_le (Heap.lt_size (hbk z o q)) hy) (Nat.lt_irrefl _)
    rcases List.mem_cons.mp hz with y | y
    · exact fit (by rw [y]; exact hgrow) (.inr (.inl (by rw [y]; exact Nat.le_refl _)))
    · exact fit (by rw [List.mem_singleton.mp y]; exact m.young) (.inr (.inr (List.mem_singleton.mp y)))
  have young : ∀ z ∈ [s.heap.objs.size, a], sc.heap.objs.size ≤ z := fun z hz => by
    rcases List.mem_cons.mp hz with y | y
    · rw [y]; exact hgrow
    · rw [List.mem_singleton.mp y]; exact m.young
  have al0 := halive A.in1.in1.in1 [s.heap.objs.size, a] [g] ⟨hr.hd, by have := hr.dp; show A.depth + 3 * k + 5 < _; omega, by have := hr.un; show A.units + 1 + 1 + 1 + 16 * k + 200 < _; omega⟩ hfr hZ
  refine drain2 (A := A.in1) (o0 := sc.os) (S := s.heap.objs.size) (a := a) (g := g) hr.hd (by have := hr.dp; show A.depth < _; omega) hSa hSc (fun ys sw s' acc c hF hSw hv hle h' hk => ?_) n [] s _ (.fresh cc) #[] _ hgen al0 ⟨m.os, fun b o hb q => k4 b o q, fun b hb => ?_, fun i hi => ?_, fun i hi q e => ?_⟩ (gty k4) (hal.keeps k4) hS4 .nil (by simp only [List.length_nil]; omega)
  · refine ⟨rfl, ?_⟩
    obtain ⟨H', os1, hb1, un, hok1, hold, hno, lim, hc⟩ := hF.young young
    have hSs : s'.heap.get? s.heap.objs.size = some (lstObj acc c) := (hold _ List.mem_cons_self).trans hSw
    exact hQ _ _ acc c H' ys (Nat.le_refl _) (hk _ _ hSs) hv hle os1 (allBare_setGen hb1 rfl) (un.trans (Un.kept hk)) (hok1.kept hk) (hno _ List.mem_cons_self) hc
  · rcases List.mem_cons.mp hb with z | z
    · rw [z]; exact ⟨_, hS4, fun v q => by cases q⟩
    · rw [List.mem_singleton.mp z]; exact (gty k4).noCell
  · have hig : i ≠ g := fun z => hi (by rw [z]; exact List.mem_cons_self)
    show (s.gens.setIfInBounds g .running)[i]? = _
    rw [Array.getElem?_setIfInBounds_ne (Ne.symm hig)]
  · exact allBare_setGen m.bare rfl q (Array.mem_of_getElem? e)
end
end Yf
set_option Elab.async false
set_option linter.all false
set_option maxRecDepth 100000
set_option maxHeartbeats 4000000
/-! F13: list(g) as an expression; a comparison with it; generators by calls. -/
namespace Yf
open PySem PySem.Spec PyProof.Rows L2 GenW

section
variable {M : Model} {A : Around} {E : Value → Shared → Prop} {s : Shared} {env : Env}
theorem big_spliced_cons {x : Sem Value} {rest : List (Bool × Sem Value)} {Q : List Value → Shared → Prop}
    (h : big M A x (fun v s₁ => big M A (spliced rest) (fun vs s₂ => Q (v :: vs) s₂) E s₁) E s) : big M A (spliced ((false, x) :: rest)) Q E s := by
  rw [spliced]
  refine big_bind (big_mono h (fun v s₁ _ h₁ => ?_) fun _ _ _ x => x)
  simp only [Bool.false_eq_true, if_false]
  exact big_bind (big_ok (big_bind (big_holding (big_mono h₁ (fun vs s₂ _ h₂ => big_ok h₂) fun _ _ _ x => x))))
theorem big_spliced_nil {Q : List Value → Shared → Prop} (h : Q [] s) : big M A (spliced []) Q E s := big_ok h
theorem big_callWith_type1 {pos : Pos} {T : String} {x : Sem Value} {rest : List (Bool × Sem Value)} {Q : Value → Shared → Prop} (hplain : rest.any (·.1) = false)
    (h : big M A (spliced ((false, x) :: rest)) (fun vs s₁ => big M A (call (.type T) vs) Q E s₁) E s) : big M A (callWith pos (.type T) [] ((false, x) :: rest) []) Q E s := by
  have hp : (((false, x) :: rest : List (Bool × Sem Value)).any (·.1)) = false := by show (false || rest.any (·.1)) = false; rw [hplain]; rfl
  unfold callWith
  refine big_bind (big_holding ?_)
  unfold evalArgs
  show big M A (spliced ((false, x) :: rest) >>= _) _ _ s
  refine big_bind (big_mono h (fun vs s1 _ h1 => ?_) fun _ _ _ x => x)
  refine big_holding ?_
  refine big_bind (big_ok (big_bind (big_ok (big_ok ?_))))
  refine big_bind (big_of (wpAny_standAt ?_))
  simp only [hp, List.any_nil, Bool.or_false]
  refine big_bind (big_ok ?_)
  exact big_bind (big_mono h1 (fun r s₂ _ hr => big_bind (big_holding (big_of (wpAny_point (big_ok hr))))) fun _ _ _ x => x)
theorem big_Call_Name {id : Str} {p pos : Pos} {args : List Expr} {keywords : List Keyword} {Q : Value → Shared → Prop}
    (h : wpAny M A (eval (.Name id p) env) (fun f s₁ => big M A (callWith pos f [] (backTo pos (starEach args env)) (backToKw pos (keywordEach keywords env))) Q E s₁) E s) :
    big M A (eval (.Call (.Name id p) args keywords pos) env) Q E s := by
  rw [arm_eval_Call_Name']
  exact big_bind (big_of h)
theorem big_Compare1 {l op r pos whole} {Q : Bool → Shared → Prop}
    (h : big M A (eval l env) (fun a s₁ => wpAny M A (eval r env) (fun b s₂ => wpAny M A (compareOp op a b) (fun c s₃ => wpAny M A (truthy c) Q E s₃) E s₂) E s₁) E s)
    (hm : behindInMarks op r = false := by with_unfolding_all rfl) : big M A (isTrue (.Compare l [op] [r] pos) env whole) Q E s := by
  simp only [isTrue_Compare1, markedBehindIn_of_false hm]
  refine big_bind (big_mono h (fun a s1 _ h1 => big_of (fun Γ p hΓ => ?_)) fun _ _ _ x => x)
  simp only [Sem.wp_bind', Sem.wp_holding, Sem.wp_cmd_standAt, Sem.wp_operate]
  exact Sem.wp_mono M Γ _ (fun b _ s₂ h₂ => Sem.wp_mono M Γ _ (fun c p₃ s₃ h₃ => h₃ Γ p₃ hΓ)
    (fun _ _ _ h' => h') _ _ (h₂ Γ _ hΓ)) (fun _ _ _ h' => h') _ _ (h1 Γ p hΓ)
end

section
variable {X : Cx} {A : Around} {k : Nat} {e a b : Expr} {tg : TGn2} {nm : Str} {p pos : Pos} {ta tb : TE} {r : R2} {op : CmpOp}
def tListG2 (tg : TGn2) : TE := fun σ H Q => ∃ n, n ≤ sizeLine ∧ tg σ H n fun out H2 => ∀ p, H2 p = none → Q (.ref p) (upd H2 p (.lst out))
/-- list(g) -/
theorem pe2_listG (h : PGen2 X k e tg) (hr : Room (k + 3) X.A) (hg : Gl X nm) (hmg : X.mg nm = none) (hv : bootBuiltins nm = some (.type "list"))
    (hnm : nm ≠ "__name__" := by decide) (hdb : (nm == ("__debug__" : Str)) = false := by decide)
    (he : starEach [e] X.env = (false, eval e X.env) :: starEach [] X.env := by rfl) : PE2 X (.Call (.Name nm p) [e] [] pos) (tListG2 tg) := by
  refine ⟨fun pins s σ H Q I hq => ?_⟩
  obtain ⟨n, hn, hq⟩ := hq
  refine big_Call_Name (ld_blt I hg hmg hv ?_ hnm hdb)
  rw [he]
  show big _ _ (callWith pos (.type "list") [] ((false, eval e X.env) :: backTo pos (starEach [] X.env)) []) _ _ s
  refine big_callWith_type1 rfl (big_spliced_cons (big_mono (big_of (h.run pins s σ H n _ I hq)) (fun u s1 _ hm => ?_) fun _ _ _ z => z))
  obtain ⟨a, g, H1, sc, rfl, hsz, I1, m⟩ := hm
  refine big_spliced_nil ?_
  have hgrow : sc.heap.objs.size ≤ s1.heap.objs.size := Nat.le_trans m.young (Nat.le_of_lt m.isg.lt)
  refine call_list_g hr I1.ok.frames m hn I1.hok (fun b hb => ?_) (fun b o e => I1.bk b o e) hgrow fun S s' acc c H' ys q0 q1 q2 hl q3 q4 q5 q6 q7 q8 => ?_
  · rcases List.mem_cons.mp (I1.stkSub b hb) with z | z
    · rw [z]; exact I1.lt
    · cases Nat.lt_or_ge b sc.heap.objs.size with
      | inl q => exact q
      | inr q => exact absurd z (I1.nofs q)
  · exact ⟨.ref S, upd H' S (.lst ys), I1.drained (Nat.le_trans hgrow q0) hl q1 q2 .nil q3 q4 q5 q6 q7, rfl, q8 S q7⟩
/-- a comparison whose left side is such -/
theorem pt2_cmpL (ho : OpR X (compareOp op) r) (ha : PE2 X a ta) (hb : PE X b tb) (hm : behindInMarks op b = false) : PT2 X (.Compare a [op] [b] pos) (tTest (tOp r ta tb)) := by
  refine ⟨fun pins s σ H Q I h => ?_⟩
  refine big_Compare1 (big_thn (ha.run pins s σ H _ I h) fun v s1 _ ⟨x, H1, I1, r1, q1⟩ => thn (hb.run pins s1 σ H1 _ I1 q1) fun u s2 ⟨y, H2, I2, r2, q2⟩ =>
    thn (ho pins s2 σ H2 x y v u _ I2 r1 r2 q2) fun c s3 ⟨z, H3, I3, r3, k, e, q3⟩ => ?_) hm
  subst e
  cases r3
  exact wpAny_truthy_bool ⟨H3, I3, q3⟩
end
end Yf
set_option Elab.async false
set_option linter.all false
set_option maxRecDepth 100000
set_option maxHeartbeats 4000000
/-! F14: generators by calls. -/
namespace Yf
open PySem PySem.Spec PyProof.Rows L2 GenW

section
variable {X : Cx} {k : Nat} {f C : Addr} {fd : FuncData} {ps : List Str} {sp : SpG2} {dvs : List V} {ds : List Value} {x m : Str} {p pos pos' apos : Pos} {o : Expr} {ta : TE}
theorem run_gfn2 {pins : List (Addr × Obj)} {σ : L2.St} {H : Hp} {s : Shared} {us : List Value} {vs : List V} {n : Nat} {cont : List V → Hp → Prop} {E1 : Value → Shared → Prop} {n0 : Nat} (F : GFn2 X.prog X.w X.K X.mg X.base k f fd ps sp) (hr : Room k X.A) (hb : Binds X.K fd ps ds) (hd : Vals dvs ds)
    (I : Inv X pins σ H s) (r : Vals vs us) (h : sp (vs ++ dvs) H n cont) (hn0 : n0 ≤ s.gens.size) :
    wpAny (model X.prog X.w) X.A (call (.ref f) us) (fun u s' => ∃ a g H1 sc, u = .ref a ∧ n0 ≤ sc.gens.size ∧ Inv X pins σ H1 sc ∧ Made X.prog X.w k X.base X.stack H1 sc s' a g n cont) E1 s := by
  have r2 : Vals (vs ++ dvs) (us ++ ds) := r.append hd
  have hl2 : (us ++ ds).length = ps.length := by rw [← r2.length]; exact F.len _ _ _ _ h
  refine wpAny_call (codeAny_mono (F.run X.A X.stack s H ⟨us, []⟩ (us ++ ds) (vs ++ dvs) n cont hr I.env0 (hb s us I.kIn hl2) r2 h) fun r s' hq => ?_)
  obtain ⟨a, g, rfl, hm⟩ := hq
  exact ⟨a, g, H, s, rfl, hn0, I, hm⟩
def tMethG2 (C : Addr) (m : Str) (sp : SpG2) (dvs : List V) (ta : TE) (t : TA) : TGn2 := fun σ H n cont => ta σ H fun x H1 => ∃ a dx fs, x = .ref a ∧ H1 a = some (.ins C dx fs) ∧ fs.lookup m = none ∧
  t σ H1 fun vs H2 => sp (x :: (vs ++ dvs)) H2 n cont
/-- o.m() of a generator method -/
theorem pgen2_meth0 {pl : Sem Bool} (he : PE X o ta) (c : Cls X.K C) (hm : Meth X.K C m f) (F : GFn2 X.prog X.w X.K X.mg X.base k f fd ps sp) (hr : Room k X.A) (hb : Binds X.K fd ps ds) (hd : Vals dvs ds)
    (ht : eval (.Call (.Attribute o m apos) [] [] pos') X.env = (do
      let ov ← eval o X.env
      standAt apos.atName
      let (f, first) ← holding [ov] (getMethod ov m pl)
      callWith pos' f first (backTo pos' (starEach [] X.env)) (backToKw pos' (keywordEach [] X.env))) := by rfl) :
    PGen2 X k (.Call (.Attribute o m apos) [] [] pos') (tMethG2 C m sp dvs ta tNil) := by
  refine ⟨fun pins s σ H n cont I h => ?_⟩
  refine PySem.W.methodCall_KW (pl := pl) (thn (wpAny_gsz (n := s.gens.size) (Nat.le_refl _) (wpAny_mono (he.run pins s σ H _ I h) (fun u s1 z hsz => (⟨hsz, z⟩ : s.gens.size ≤ s1.gens.size ∧ _)) fun _ _ z _ => z)) fun u s1 ⟨hsz, x, H1, I1, rx, a, dx, fs, ex, ea, l, q⟩ => ?_) ht
  subst ex
  obtain rfl : u = Value.ref a := rx
  refine getmeth_ok I1 ea c hm l ?_
  exact PySem.W.callWith_K0 (first := [.ref a]) I1.kIn hm.kp (run_gfn2 (us := [.ref a]) (vs := [.ref a]) F hr hb hd I1 (.cons rfl .nil) q hsz)
def tCallG2 (sp : SpG2) (dvs : List V) (t : TA) : TGn2 := fun σ H n cont => t σ H fun vs H1 => sp (vs ++ dvs) H1 n cont
/-- f(e, ..) of a generator def -/
theorem pgen2_call {e : Expr} {es : List Expr} {t : TA} (F : GFn2 X.prog X.w X.K X.mg X.base k f fd ps sp) (hr : Room k X.A) (hg : Gl X x) (hm : X.mg x = some (.ref f)) (hk : PySem.W.keepIn X.K (.ref f) = true) (hb : Binds X.K fd ps ds) (hd : Vals dvs ds)
    (ha : PA X (e :: es) t) (hdb : (x == ("__debug__" : Str)) = false := by decide) (he : starEach (e :: es) X.env = (false, eval e X.env) :: starEach es X.env := by rfl) (hpl : (backTo pos' (starEach es X.env)).any (·.1) = false := by rfl) :
    PGen2 X k (.Call (.Name x p) (e :: es) [] pos') (tCallG2 sp dvs t) := by
  refine ⟨fun pins s σ H n cont I h => ?_⟩
  refine wpAny_Call_Name_kw (ld_glob I hg hm ?_ hdb)
  refine PySem.W.callWith_K (h₀ := X.base) I.ok.mod.kin hk (thn (wpAny_gsz (n := s.gens.size) (Nat.le_refl _) (wpAny_mono (ha.run pos' pins s σ H _ I h) (fun u s1 z hsz => (⟨hsz, z⟩ : s.gens.size ≤ s1.gens.size ∧ _)) fun _ _ z _ => z)) fun us s1 ⟨hsz, vs, H1, I1, r, q⟩ => ⟨I1.kIn, ?_⟩) he hpl
  exact run_gfn2 F hr hb hd I1 r q hsz
end
end Yf
set_option Elab.async false
set_option linter.all false
set_option maxRecDepth 100000
set_option maxHeartbeats 4000000
/-! F15: the bottom: the thread's tree, the call of the law's def by its body, the end. -/
namespace Yf
open PySem PySem.Spec PyProof.Rows L2 GenW

/-- below the thread's tree -/
def callerB : Around := { depth := 1 + claimMargin - (Code.builtin "claim.caller" {}).weight, frames := some [], guards := some [], units := 4 - (Code.builtin "claim.caller" {}).cUnits }
theorem callerB_over : callerB.over (.builtin "claim.caller" {}) [] = callerA := by
  unfold callerB callerA Around.over
  congr 1 <;> first | rfl | decide +kernel
theorem callerB_woken (c : Code) : (Ctx.of c []).Woken callerB := by
  refine ⟨⟨rfl, by show frameCount [] ≤ 1 + claimMargin - (Code.builtin "claim.caller" {}).weight; decide +kernel, fun l hl => by cases hl; rfl, fun g hg => by cases hg; rfl, ?_⟩, rfl⟩
  show unitsOf [] ≤ 4 - (Code.builtin "claim.caller" {}).cUnits
  decide +kernel
/-- the end of the thread -/
def Halts (M : Model) (R : Result → Shared → Prop) (s : Shared) (t : Thread) : Prop := ∃ r, t.calm = true ∧ stepK M.den M.prog M.w s t = .halt (outcomeOf r) s ∧ R r s
theorem halts_leaf {M : Model} {R : Result → Shared → Prop} {r : Result} {s : Shared} {c : Code} {p : Pos} (h : R r s) (hb : AllBare s.gens) : Halts M R s ⟨leafOf r, c, p, []⟩ := by
  refine ⟨r, ?_, ?_, h⟩
  · cases r <;> rfl
  · have hc := leftWithCleanup_false_of_bare hb
    cases r <;> simp [leafOf, stepK, PySem.step, finish, outcomeOf, hc]
/-- the tree, run over nothing -/
theorem thread_soft {prog : Program} {w : World} {t : Sem PySem.Fin} {s : Shared} {R : Result → Shared → Prop} (hz : s.asleep)
    (h : RunOn (model prog w) callerB (fun n st Ψ => n = s.gens.size ∧ st = [] ∧ Ψ = Halts (model prog w) R) (.builtin "claim.caller" {}) t [] s) :
    ∃ n r s' s'', runN (denote table) prog w n s ⟨t, .builtin "claim.caller" {}, default, []⟩ = .halted (outcomeOf r) s' ∧
      schedN (denote table) prog w n (.single s ⟨t, .builtin "claim.caller" {}, default, []⟩) = .halted (outcomeOf r) s' ∧ s'.forget = s''.forget ∧ R r s'' := by
  obtain ⟨s2, t2, g, r, hc, he, hR⟩ := h s.gens.size (Nat.le_refl _) [] default (Halts (model prog w) R) (callerB_woken _) ⟨rfl, rfl, rfl⟩
  obtain ⟨n, s', q1, q2, q3⟩ := go_sched g hc he (outcomeOf_ends r) s _ rfl rfl hz
  exact ⟨n, r, s', s2, q2, q1, q3, hR⟩
theorem run_halt {prog : Program} {w : World} {s s' : Shared} {R : Result → Shared → Prop} {A : Around} {c : Code} {n0 : Nat} (r : Result) (h : R r s') (hb : AllBare s'.gens) :
    RunOn (model prog w) A (fun n st Ψ => n = n0 ∧ st = [] ∧ Ψ = Halts (model prog w) R) c (leafOf r) [] s' := by
  intro n hn st p Ψ hW hB
  obtain ⟨rfl, rfl, rfl⟩ := hB
  exact .here (halts_leaf h hb)
end Yf
set_option Elab.async false
set_option linter.all false
set_option maxRecDepth 100000
set_option maxHeartbeats 4000000
/-! F16: the law's def by its body. -/
namespace Yf
open PySem PySem.Spec PyProof.Rows L2 GenW

/-- the context of the law's body: no exception leaves -/
abbrev lX (CX : CXT) (P : Program) (w : World) (K : PySem.W.Frag) (mg : Str → Option Value) (base : Heap) (N : List Str) (qual : Str) (scope : Scope) (f : Addr) (cd : Value) (s : Shared) (H : Hp) : Cx :=
  (cxOf CX P w K mg base N qual scope f cd callerA [] s H (fun _ _ _ => False)).tr [] (fun _ _ => False)

theorem under_func {A : Around} {body : List Stmt} {env : Env} : A.under (.func body env) = A.deeper env := by
  first
    | rfl
    | (obtain ⟨hd, d, fr, gs, u⟩ := A; simp [Around.under, Around.deeper, pushEnvs, pushGuards, Code.envs, Code.env?, Code.isFrame, Code.guards, Code.isGuard, Code.weight, Code.frames, Code.isCreation, Code.isCaller, Code.cUnits])

section
variable {P : Program} {w : World}
/-- the call of a def: its code over what the call stood over -/
theorem run_function {A : Around} {B : Nat → List Frame → (Shared → Thread → Prop) → Prop} {fs : List Frame} {a : Addr} {args : Args} {o : Obj} {fd : FuncData} {body : List Stmt} {s : Shared}
    {A1 : Around} (hA1 : A.over (.call (.ref a) args) fs = A1)
    (ho : s.heap.get? a = some o) (hd' : o.data = .func fd) (hco : fd.scope.isCoroutine = false) (hgen : fd.scope.isGenerator = false) (hbody : fd.body = .stmts body) (hcd : s.heap.CodeRec fd.code fd.qualname) (hr : A1.depth < recursionLimit)
    (h : wpAny (model P w) A1 (bindArgs fd args) (fun binds s₁ =>
      wpAny (model P w) A1 (newFunctionEnv fd.scope fd.globals fd.closure binds (fd.qualname ++ ".<locals>.") (some a) fd.code none fd.builtins)
        (fun env s₂ => s₂.heap.NoLimit ∧ RunOn (model P w) A B (.func body env) ((model P w).den (.func body env)) fs s₂) (fun _ _ => False) s₁) (fun _ _ => False) s) :
    RunOn (model P w) A B (.call (.ref a) args) ((model P w).den (.call (.ref a) args)) fs s := by
  subst hA1
  show RunOn _ A B _ (callAny (.ref a) args) fs s
  simp only [callAny]
  refine run_bind (big_of (wpAny_load ho ?_))
  obtain ⟨c, oc, vs, tq, hc, hoc, hdc, hq⟩ := hcd
  simp only [hd', callFunction, hco, hgen, hbody, hc]
  rw [hc] at h
  refine run_bind (m := field (.ref c) 1) (big_of (wpAny_field hoc hdc hq ?_))
  try dsimp only
  refine run_bind (big_ok ?_)
  refine run_bind (big_of (wpAny_mono h (fun binds s₁ h₁ => ?_) fun _ _ z => z.elim))
  refine run_bind (big_of (wpAny_mono h₁ (fun env s₂ h₂ => ?_) fun _ _ z => z.elim))
  refine run_bind (big_of (wpAny_enterFrame h₂.1 hr ?_))
  exact run_again rfl h₂.2

/-- the law's call, by its body -/
theorem run_law {CX : CXT} {K : PySem.W.Frag} {mg : Str → Option Value} {base : Heap} {k : Nat} {f : Addr} {nm name qual : Str} {params : Arguments} {body : List Stmt} {scope : Scope} {dV kV doc pm cdv ct oc : Value} {an od : Option Addr}
    {osl : Array (Option Value)} {N ps : List Str} {s : Shared} {H : Hp} {us : List Value} {vs : List V} {Q : VK} {B : Nat → List Frame → (Shared → Thread → Prop) → Prop}
    (lk : K.lookup f = some ⟨oc, od, .func (PySem.W.fnOf name qual params body scope dV kV doc pm an cdv ct), osl⟩) (hcd : PySem.W.codeIn K cdv qual = true) (S : FnScope N ps scope)
    (hl : vs.length = ps.length) (hr : Room (k + 1) callerA) (e0 : Env0 P w K mg base callerA [] s H) (hb : BindsTo s (PySem.W.fnOf name qual params body scope dV kV doc pm an cdv ct) ⟨us, []⟩ (ps.zip us)) (r : Vals vs us)
    (hns : s.heap.Ns mainGlobals mg) (hm : mg nm = some (.ref f))
    (hbody : ∃ t : TSI Unit, GSts (lX CX P w K mg base N qual scope f cdv s H) callerB (fun _ : Unit => B) (fun _ => []) body t ∧ t { nx := fun _ _ H' => Q .non H', rt := fun _ v H' => Q v H' } () (start N vs) H)
    (fin : ∀ u s', CE [] P w H s Q u s' → RunOn (model P w) callerB B (.builtin "claim.caller" {}) (leafOf (.ok (.ret u))) [] s') :
    RunOn (model P w) callerB B (.builtin "claim.caller" {}) (do match ← nsGet mainNs nm with
      | some f => do ret (← PySem.call f us)
      | none => unsupported "claim.caller:no-such-global") [] s := by
  refine run_bind (big_of (wpAny_nsGet hns ?_))
  rw [hm]
  have KX : K.In s.heap := e0.mod.kin.keeps fun b o e => (e0.bs b o e).1
  have lim : s.heap.NoLimit := e0.mod.nolimit.keeps fun b o e => (e0.bs b o e).1
  have hkind : ∀ y ∈ ps.zip us, scope.names.lookup y.1 = some .local ∨ (scope.names.lookup y.1 = some .cell ∧ ((cellsFrom (s.heap.objs.size + 1) scope.names []).lookup y.1).isSome = true) := fun ⟨n, v⟩ hy => by
    rcases S.par n (List.of_mem_zip hy).1 with q | q
    · exact .inl q
    · exact .inr ⟨q, PySem.W.cellsFrom_some _ _ _ (.inl q)⟩
  show RunOn _ callerB B _ (.call (.call (.ref f) ⟨us, []⟩) none false [] (fun r => Sem.bind (Sem.bind (match r with | .ok f => .pure f | .error e => .raise e) (fun f => match f with
    | .ret v => pure v
    | _ => unsupported "internal:call-without-return-value")) (fun v => ret v))) [] s
  refine run_call fun p => ?_
  have hov : ∀ (c' : Code) (kk : Result → Sem PySem.Fin) (p : Pos), callerB.over c' [.ret kk none false [] (.builtin "claim.caller" {}) p []] = callerA.under c' := fun c' kk p => by
    rw [over_ret, callerB_over]
  refine run_function (hov _ _ _) (KX _ _ lk) rfl S.co S.gen rfl (PySem.W.codeRec_of KX hcd) hr.depth (hb _ _ _ _ ?_)
  refine wpAny_newFunctionEnv_cells S.kind hkind fun env he s1 x => ?_
  subst he
  refine ⟨lim.keeps x.toInCall.keep, ?_⟩
  obtain ⟨t, ht, hq⟩ := hbody
  have I : Inv (cxOf CX P w K mg base N qual scope f cdv callerA [] s H (fun _ _ _ => False)) [] (start N vs) H s1 := inv_start S hr.hd e0 hl r x
  have I2 : Inv (lX CX P w K mg base N qual scope f cdv s H) [] (start N vs) H s1 := I.toTry (fun _ _ => False)
  refine run_func ?_
  refine ht.run () [] _ _ _ _ _ _ s1 (start N vs) H _ ⟨(hov _ _ _).trans under_func, rfl, rfl, rfl, fun _ _ z => z⟩ (fun p hp => by cases hp) (fun _ fl s' hs => ?_) I2 hq
  have done : ∀ {σ' : L2.St} {H' : Hp} {v : V} {u : Value}, Inv (lX CX P w K mg base N qual scope f cdv s H) ([] ++ []) σ' H' s' → RelV v u → Q v H' → RunOn (model P w) callerB B (.builtin "claim.caller" {}) (leafOf (.ok (.ret u))) [] s' :=
    fun {σ' H' v u} J rv q => fin u s' ⟨v, H', J.os, J.bare, J.base, J.hok, rv, q⟩
  cases fl with
  | ret u =>
    obtain ⟨v, σ', H', J, rv, q⟩ := hs
    exact run_leaf (.ok (.ret u)) (done J rv q)
  | next =>
    obtain ⟨σ', H', J, q⟩ := hs
    exact run_leaf (.ok (.ret .none)) (done (v := V.non) (u := Value.none) J rfl q)
  | brk =>
    obtain ⟨_, _, _, q⟩ := hs
    exact False.elim q
  | cont =>
    obtain ⟨_, _, _, q⟩ := hs
    exact False.elim q
end
end Yf
set_option Elab.async false
set_option linter.all false
set_option maxRecDepth 100000
set_option maxHeartbeats 1000000
/-! G0: the text by places, what is said of the heap. -/
namespace Yf
open PySem PySem.Spec PyProof.Rows L2

def top (i : Nat) : Stmt := PySem.Challenge.pw_runledger_k13_whole_closed_lists.main.body.getD i (.Pass ⟨0, 0, 0, 0⟩)
abbrev sIsInteger : Stmt := top 12
abbrev sWithin : Stmt := top 13
abbrev sIsJump : Stmt := top 14
abbrev sJumpsOf : Stmt := top 15
abbrev sCrossed : Stmt := top 16
abbrev sComeTo : Stmt := top 17
abbrev sComeFrom : Stmt := top 18
abbrev sUseful : Stmt := top 19
abbrev sRunsFrom : Stmt := top 20
abbrev sGoingOn : Stmt := top 21
abbrev sRoutine : Stmt := top 22
abbrev sPart : Stmt := top 24
abbrev sClosed : Stmt := top 25
abbrev sFeed : Stmt := top 27
abbrev sTake : Stmt := top 28
abbrev sPick : Stmt := top 29
abbrev sSteps : Stmt := top 30
abbrev sRun : Stmt := top 31
abbrev sLRoutine : Stmt := top 32
abbrev sRows : Stmt := top 33
abbrev sRests : Stmt := top 34
abbrev sLPart : Stmt := top 35
abbrev sKeeping : Stmt := top 36
abbrev sList : Stmt := top 37
abbrev sDue : Stmt := top 38
abbrev sBent : Stmt := top 39
abbrev sRefused : Stmt := top 40
abbrev sMany : Stmt := top 41
abbrev sLaw : Stmt := top 42

/-- a def that raises not, of a name of the module -/
structure Dn (K : PySem.W.Frag) (mg : Str → Option Value) (nm : Str) (st : Stmt) (ps : List Str) (f : Addr) (fd : FuncData) : Prop where
  F : Fun K nm nm st f fd
  g : mg nm = some (.ref f)
  b : Binds K fd ps []
/-- the built-in names that the text uses stand as they were -/
structure Bi (mg : Str → Option Value) : Prop where
  isinstance : mg "isinstance" = none
  int : mg "int" = none
  bool : mg "bool" = none
  tuple : mg "tuple" = none
  len : mg "len" = none
  all : mg "all" = none
  list : mg "list" = none
  zip : mg "zip" = none
  enumerate : mg "enumerate" = none
  sorted : mg "sorted" = none
  range : mg "range" = none
  max : mg "max" = none
  min : mg "min" = none
  abs : mg "abs" = none
  repr : mg "repr" = none
end Yf
set_option Elab.async false
set_option linter.all false
set_option maxRecDepth 100000
set_option maxHeartbeats 1000000
/-! G1: is_integer, within, is_jump. -/
namespace Yf
open PySem PySem.Spec PyProof.Rows L2

/-- the kinds of values that come along -/
inductive Kd (H : Hp) : V → String → Prop
  | non : Kd H .non "NoneType"
  | bl (b : Bool) : Kd H (.bl b) "bool"
  | int (i : Int) : Kd H (.int i) "int"
  | str (x : Str) : Kd H (.str x) "str"
  | lst {a : Addr} {xs : List V} (e : H a = some (.lst xs)) : Kd H (.ref a) "list"
  | tup {a : Addr} {xs : List V} (e : H a = some (.tup xs)) : Kd H (.ref a) "tuple"
theorem Kd.ty {K : PySem.W.Frag} {H : Hp} {x : V} {n : String} (k : Kd H x n) : TyX K H x (.type n) := by
  cases k with
  | non => exact .base .non
  | bl b => exact .base (.bl b)
  | int i => exact .base (.int i)
  | str z => exact .base (.str z)
  | lst e => exact .base (.lst e)
  | tup e => exact .base (.tup e)
theorem Kd.same {H H' : Hp} {x : V} {n : String} (k : Kd H x n) (s : Same H H') : Kd H' x n := by
  cases k with
  | non => exact .non
  | bl b => exact .bl b
  | int i => exact .int i
  | str z => exact .str z
  | lst e => exact .lst (s _ _ e)
  | tup e => exact .tup (s _ _ e)
def isI : V → Bool | .int _ => true | _ => false
def inR (lo hi : Int) : V → Bool | .int i => decide (lo ≤ i ∧ i ≤ hi) | _ => false
def isTup (n : String) : Bool := n == "tuple"
theorem Kd.int_ {K : PySem.W.Frag} {H : Hp} {x : V} {n : String} (k : Kd H x n) : ∃ b, PySem.W.kitOne K (.type n) (.type "int") = some b ∧
    (b = true → ∃ c, PySem.W.kitOne K (.type n) (.type "bool") = some c ∧ (!c) = isI x) ∧ (b = false → isI x = false) := by
  cases k with
  | non => exact ⟨false, kit_ty (by decide +kernel), fun h => (nomatch h), fun _ => rfl⟩
  | bl b => exact ⟨true, kit_ty (by decide +kernel), fun _ => ⟨true, kit_ty (by decide +kernel), rfl⟩, fun h => (nomatch h)⟩
  | int i => exact ⟨true, kit_ty (by decide +kernel), fun _ => ⟨false, kit_ty (by decide +kernel), rfl⟩, fun h => (nomatch h)⟩
  | str z => exact ⟨false, kit_ty (by decide +kernel), fun h => (nomatch h), fun _ => rfl⟩
  | lst e => exact ⟨false, kit_ty (by decide +kernel), fun h => (nomatch h), fun _ => rfl⟩
  | tup e => exact ⟨false, kit_ty (by decide +kernel), fun h => (nomatch h), fun _ => rfl⟩
theorem Kd.tup_ {K : PySem.W.Frag} {H : Hp} {x : V} {n : String} (k : Kd H x n) : PySem.W.kitOne K (.type n) (.type "tuple") = some (isTup n) := by
  cases k <;> exact kit_ty (by decide +kernel)

def spIsInt : Sp := fun vs H Q _ => ∃ x n, vs = [x] ∧ Kd H x n ∧ Q (.bl (isI x)) H
def spWithin : Sp := fun vs H Q _ => ∃ x n lo hi, vs = [x, .int lo, .int hi] ∧ Kd H x n ∧ Q (.bl (inR lo hi x)) H
section
variable {P : Program} {w : World} {K : PySem.W.Frag} {mg : Str → Option Value} {base : Heap}
theorem scIsInt : FnScope ["value"] ["value"] (defScope sIsInteger) := ⟨rfl, rfl, rfl, by decide +kernel, rfl, by decide +kernel, by decide +kernel⟩
theorem ok_isInt {f : Addr} {fd : FuncData} (D : Dn K mg "is_integer" sIsInteger ["value"] f fd) (B : Bi mg) : FnOk P w K mg base CX0 1 f fd ["value"] spIsInt := by
  refine D.F.ok scIsInt (fun vs H Q E h => ?_) (fun cdv A outer s H vs Q E hr h => ?_)
  · obtain ⟨x, n, rfl, _⟩ := h
    rfl
  · obtain ⟨x, n, rfl, k, q⟩ := h
    -- return isinstance(value, int) and (not isinstance(value, bool))
    refine ⟨_, pss_one (ps_ret (pe_and (pe_callB call_isi (by rfl) B.isinstance (by decide +kernel) (pa_cons (pv 0) (pa_cons (pe_bltn (v := .ty "int") (by rfl) B.int (by decide +kernel) rfl) pa_nil)))
      (pe_one (pe_not (pe_callB call_isi (by rfl) B.isinstance (by decide +kernel) (pa_cons (pv 0) (pa_cons (pe_bltn (v := .ty "bool") (by rfl) B.bool (by decide +kernel) rfl) pa_nil))))))), ?_⟩
    obtain ⟨b, hb, h1, h2⟩ := k.int_ (K := K)
    refine ⟨x, rfl, x, .ty "int", _, _, b, rfl, .ty "int", k.ty, hb, b, rfl, ?_⟩
    cases b with
    | false =>
      refine iteF ?_
      rw [h2 rfl] at q
      exact q
    | true =>
      obtain ⟨c, hc, e⟩ := h1 rfl
      refine iteT ?_
      refine ⟨x, rfl, x, .ty "bool", _, _, c, rfl, .ty "bool", k.ty, hc, c, rfl, ?_⟩
      rw [e]
      exact q
theorem scWithin : FnScope ["value", "low", "high"] ["value", "low", "high"] (defScope sWithin) := ⟨rfl, rfl, rfl, by decide +kernel, rfl, by decide +kernel, by decide +kernel⟩
theorem ok_within {f fI : Addr} {fd fdI : FuncData} (D : Dn K mg "within" sWithin ["value", "low", "high"] f fd) (DI : Dn K mg "is_integer" sIsInteger ["value"] fI fdI) (B : Bi mg) : FnOk P w K mg base CX0 2 f fd ["value", "low", "high"] spWithin := by
  have GI : FnOk P w K mg base CX0 1 fI fdI ["value"] spIsInt := ok_isInt DI B
  refine D.F.ok scWithin (fun vs H Q E h => ?_) (fun cdv A outer s H vs Q E hr h => ?_)
  · obtain ⟨x, n, lo, hi, rfl, _⟩ := h
    rfl
  · obtain ⟨x, n, lo, hi, rfl, k, q⟩ := h
    refine ⟨_, pss_one (ps_ret (pe_and (pe_call GI hr (by rfl) DI.g DI.F.kp DI.b .nil pass0 (pa_cons (pv 0) pa_nil))
      (pe_one (pe_chain op_le op_le (pv 1) (pv 0) (pv 2))))), ?_⟩
    refine ⟨x, rfl, x, n, rfl, k, isI x, rfl, ?_⟩
    cases x with
    | int i =>
      refine iteT ?_
      refine ⟨_, rfl, _, rfl, lo, i, rfl, rfl, _, rfl, ?_⟩
      by_cases h1 : lo ≤ i
      · rw [decide_eq_true h1]
        refine iteT ⟨_, rfl, i, hi, rfl, rfl, ?_⟩
        have e : inR lo hi (.int i) = decide (i ≤ hi) := by simp [inR, h1]
        rw [e] at q
        exact q
      · rw [decide_eq_false h1]
        refine iteF ?_
        have e : inR lo hi (.int i) = false := by simp [inR, h1]
        rw [e] at q
        exact q
    | _ => exact iteF q
end
end Yf
set_option Elab.async false
set_option linter.all false
set_option maxRecDepth 100000
set_option maxHeartbeats 1000000
/-! U: small helpers. -/
namespace Yf
open PySem PySem.Spec PyProof.Rows L2

theorem small {n : Nat} (h : n ≤ 1000000) : n < sizeLine := by rw [sizeLine_eq]; omega
theorem small' {n : Nat} (h : n ≤ 1000000) : n ≤ sizeLine := Nat.le_of_lt (small h)
theorem _root_.L2.Same.new {H : Hp} {p : Addr} {o : HO} (h : H p = none) : Same H (upd H p o) := fun c u e => by rw [upd_ne (ne_of_none e h)]; exact e
theorem _root_.L2.Same.put {H H1 : Hp} {p : Addr} {o : HO} (s : Same H H1) (h : H p = none) : Same H (upd H1 p o) := fun c u e => by rw [upd_ne (ne_of_none e h)]; exact s c u e
theorem take_more {α : Type} {l : List α} {i : Nat} {x : α} (h : l[i]? = some x) : l.take (i + 1) = l.take i ++ [x] := by
  obtain ⟨hi, e⟩ := List.getElem?_eq_some_iff.mp h
  rw [← e, List.take_append_getElem]
theorem acc_step {H0 H4 : Hp} {D : Addr} {xs ys : List V} {y : V} (nD : H0 D = none) (s : Same H0 H4) (h : H4 D = some (.lst xs)) (hl : xs.length < sizeLine) (e : ys = xs ++ [y]) :
    ∃ acc, H4 D = some (.lst acc) ∧ acc.length < sizeLine ∧ Same H0 (upd H4 D (.lst (acc ++ [y]))) ∧ upd H4 D (.lst (acc ++ [y])) D = some (.lst ys) :=
  ⟨xs, h, hl, s.put nD, by rw [upd_same, e]⟩
/-- b holds the tuple of these ints -/
def Tu (H : Hp) (b : Addr) (xs : List Int) : Prop := H b = some (.tup (xs.map V.int))
abbrev Tus (H : Hp) : List Addr → List (List Int) → Prop := Paired (Tu H)
/-- tuples stay -/
def TS (H H' : Hp) : Prop := ∀ b xs, H b = some (.tup xs) → H' b = some (.tup xs)
theorem _root_.L2.Same.ts {H H' : Hp} (s : Same H H') : TS H H' := fun b xs e => s b _ e
theorem TS.trans {H H1 H2 : Hp} (a : TS H H1) (b : TS H1 H2) : TS H H2 := fun c o h => b c o (a c o h)
theorem TS.refl (H : Hp) : TS H H := fun _ _ h => h
theorem TS.put {H H' : Hp} {p : Addr} {o : HO} (t : TS H H') (hp : ∀ xs, H p ≠ some (.tup xs)) : TS H (upd H' p o) := fun b xs e => by
  rw [upd_ne (fun z => hp xs (by rw [← z]; exact e))]; exact t b xs e
theorem Tus.mono {H H' : Hp} {as : List Addr} {xss : List (List Int)} (t : Tus H as xss) (s : TS H H') : Tus H' as xss := Paired.mapP t fun _ _ e => s _ _ e
theorem Paired.len {α β : Type} {F : α → β → Prop} : ∀ {l₁ : List α} {l₂ : List β}, Paired F l₁ l₂ → l₁.length = l₂.length
  | _, _, .nil => rfl
  | _, _, .cons _ t => congrArg (· + 1) (Paired.len t)
theorem Paired.get {α β : Type} {F : α → β → Prop} : ∀ {l₁ : List α} {l₂ : List β}, Paired F l₁ l₂ → ∀ {i : Nat} {a : α}, l₁[i]? = some a → ∃ b, l₂[i]? = some b ∧ F a b
  | _, _, .nil, i, a, h => by simp at h
  | _, _, .cons r t, 0, a, h => by simp at h; subst h; exact ⟨_, rfl, r⟩
  | _, _, .cons r t, i + 1, a, h => Paired.get t (by simpa using h)
theorem Paired.get' {α β : Type} {F : α → β → Prop} : ∀ {l₁ : List α} {l₂ : List β}, Paired F l₁ l₂ → ∀ {i : Nat} {b : β}, l₂[i]? = some b → ∃ a, l₁[i]? = some a ∧ F a b
  | _, _, .nil, i, a, h => by simp at h
  | _, _, .cons r t, 0, a, h => by simp at h; subst h; exact ⟨_, rfl, r⟩
  | _, _, .cons r t, i + 1, a, h => Paired.get' t (by simpa using h)
theorem Paired.app {α β : Type} {F : α → β → Prop} : ∀ {l₁ m₁ : List α} {l₂ m₂ : List β}, Paired F l₁ l₂ → Paired F m₁ m₂ → Paired F (l₁ ++ m₁) (l₂ ++ m₂)
  | _, _, _, _, .nil, h => h
  | _, _, _, _, .cons r t, h => .cons r (Paired.app t h)
theorem Paired.tk {α β : Type} {F : α → β → Prop} : ∀ {l₁ : List α} {l₂ : List β} (n : Nat), Paired F l₁ l₂ → Paired F (l₁.take n) (l₂.take n)
  | _, _, 0, _ => by simp only [List.take_zero]; exact .nil
  | _, _, n + 1, .nil => .nil
  | _, _, n + 1, .cons r t => .cons r (Paired.tk n t)
theorem Paired.dp {α β : Type} {F : α → β → Prop} : ∀ {l₁ : List α} {l₂ : List β} (n : Nat), Paired F l₁ l₂ → Paired F (l₁.drop n) (l₂.drop n)
  | _, _, 0, t => t
  | _, _, n + 1, .nil => .nil
  | _, _, n + 1, .cons r t => Paired.dp n t
/-- a holds a list of tuples of ints -/
def TL (H : Hp) (a : Addr) (xss : List (List Int)) : Prop := ∃ as, H a = some (.lst (as.map V.ref)) ∧ Tus H as xss
theorem TL.same {H H' : Hp} {a : Addr} {xss : List (List Int)} (t : TL H a xss) (s : Same H H') : TL H' a xss := let ⟨as, h, p⟩ := t; ⟨as, s _ _ h, p.mono s.ts⟩
theorem TL.stay {H H' : Hp} {a : Addr} {xss : List (List Int)} (t : TL H a xss) (s : TS H H') (k : ∀ o, H a = some o → H' a = some o) : TL H' a xss := let ⟨as, h, p⟩ := t; ⟨as, k _ h, p.mono s⟩
/-- the pair of a jump -/
def jl (p : Int × Int) : List Int := [p.1, p.2]
theorem jl_inj {p q : Int × Int} (h : jl p = jl q) : p = q := by
  obtain ⟨a, b⟩ := p; obtain ⟨c, d⟩ := q
  simp only [jl, List.cons.injEq, and_true] at h
  rw [h.1, h.2]
theorem mapInt_inj : ∀ {xs ys : List Int}, xs.map V.int = ys.map V.int → xs = ys
  | [], [], _ => rfl
  | [], _ :: _, h => by cases h
  | _ :: _, [], h => by cases h
  | x :: xs, y :: ys, h => by
    simp only [List.map_cons, List.cons.injEq, V.int.injEq] at h
    rw [h.1, mapInt_inj h.2]
/-- the deep reading -/
def tD (xs : List Int) : PyData := .tuple (xs.map PyData.int)
theorem dpAll_ints {K : PySem.W.Frag} {H : Hp} : ∀ xs : List Int, DpAll K H (xs.map V.int) (xs.map PyData.int)
  | [] => .nil
  | x :: xs => .cons (.int x) (dpAll_ints xs)
theorem Tu.dp {K : PySem.W.Frag} {H : Hp} {b : Addr} {xs : List Int} (t : Tu H b xs) : Dp K H (.ref b) (tD xs) := .tup (.inl (.inl t)) (dpAll_ints xs)
theorem Tus.dp {K : PySem.W.Frag} {H : Hp} : ∀ {as : List Addr} {xss : List (List Int)}, Tus H as xss → DpAll K H (as.map V.ref) (xss.map tD)
  | _, _, .nil => .nil
  | _, _, .cons r t => .cons (Tu.dp r) (Tus.dp t)
theorem TL.dp {K : PySem.W.Frag} {H : Hp} {a : Addr} {xss : List (List Int)} (t : TL H a xss) : Dp K H (.ref a) (.list (xss.map tD)) := let ⟨_, h, p⟩ := t; .lst (.inl (.inl h)) p.dp
/-- eqv on them -/
theorem eqv_ints : ∀ xs ys : List Int, PyData.eqvAll (xs.map PyData.int) (ys.map PyData.int) = decide (xs = ys)
  | [], [] => by simp [PyData.eqvAll]
  | [], _ :: _ => by simp [PyData.eqvAll]
  | _ :: _, [] => by simp [PyData.eqvAll]
  | x :: xs, y :: ys => by
    have ih := eqv_ints xs ys
    simp only [List.map_cons, PyData.eqvAll, PyData.eqv, ih, List.cons.injEq]
    by_cases h1 : x = y <;> by_cases h2 : xs = ys <;> simp [h1, h2]
theorem eqv_tD (xs ys : List Int) : PyData.eqv (tD xs) (tD ys) = decide (xs = ys) := by
  show PyData.eqv (.tuple _) (.tuple _) = _
  simp only [PyData.eqv]
  exact eqv_ints xs ys
theorem ints_lay : ∀ xs : List Int, PyData.canLayAll0 (xs.map PyData.int) = true
  | [] => by simp [PyData.canLayAll0]
  | x :: xs => by simp [PyData.canLayAll0, PyData.canLay0, ints_lay xs]
theorem ints_depth : ∀ xs : List Int, PyData.depthAll (xs.map PyData.int) = 0
  | [] => by simp [PyData.depthAll]
  | x :: xs => by simp [PyData.depthAll, PyData.depth, ints_depth xs]
theorem tD_lay (xs : List Int) : (tD xs).canLay0 = true := by simp only [tD, PyData.canLay0]; exact ints_lay xs
theorem tD_depth (xs : List Int) : (tD xs).depth = 1 := by simp [tD, PyData.depth, ints_depth]
theorem tDs_lay : ∀ zs : List (List Int), PyData.canLayAll0 (zs.map tD) = true
  | [] => by simp [PyData.canLayAll0]
  | z :: zs => by simp [PyData.canLayAll0, tD_lay z, tDs_lay zs]
theorem tDs_depth : ∀ zs : List (List Int), PyData.depthAll (zs.map tD) ≤ 1
  | [] => by simp [PyData.depthAll]
  | z :: zs => by
    have h1 := tDs_depth zs
    have h2 := tD_depth z
    simp only [List.map_cons, PyData.depthAll]
    omega
theorem shaped_of {d : PyData} (h1 : d.canLay0 = true) (h2 : d.depth ≤ 64) : SeqAt.shaped d = true := by
  show (d.canLay0 && decide (d.depth ≤ 64)) = true
  rw [h1, decide_eq_true h2]; rfl
theorem tD_shaped (xs : List Int) : SeqAt.shaped (tD xs) = true := shaped_of (tD_lay xs) (by rw [tD_depth]; omega)
theorem tDs_shaped (zs : List (List Int)) : SeqAt.shaped (.list (zs.map tD)) = true :=
  shaped_of (by simp only [PyData.canLay0]; exact tDs_lay zs) (by have := tDs_depth zs; simp only [PyData.depth]; omega)
theorem any_tD (x : List Int) (zs : List (List Int)) : ((zs.map tD).any fun z => PyData.eqv z (tD x)) = decide (x ∈ zs) := by
  induction zs with
  | nil => rfl
  | cons z zs ih =>
    rw [List.map_cons, List.any_cons, ih, eqv_tD]
    by_cases h : z = x <;> by_cases h2 : x ∈ zs <;> simp [h, h2, eq_comm] <;> exact fun e => absurd e.symm h
theorem eqv_tDs : ∀ xs ys : List (List Int), PyData.eqvAll (xs.map tD) (ys.map tD) = decide (xs = ys)
  | [], [] => by simp [PyData.eqvAll]
  | [], _ :: _ => by simp [PyData.eqvAll]
  | _ :: _, [] => by simp [PyData.eqvAll]
  | x :: xs, y :: ys => by
    have ih := eqv_tDs xs ys
    simp only [List.map_cons, PyData.eqvAll, ih, eqv_tD, List.cons.injEq]
    by_cases h1 : x = y <;> by_cases h2 : xs = ys <;> simp [h1, h2]
theorem eqv_lD (xs ys : List (List Int)) : PyData.eqv (.list (xs.map tD)) (.list (ys.map tD)) = decide (xs = ys) := by
  simp only [PyData.eqv]
  exact eqv_tDs xs ys
end Yf
set_option Elab.async false
set_option linter.all false
set_option maxRecDepth 100000
set_option maxHeartbeats 4000000
/-! R1: sorted(d), d a dict whose keys are pairs of ints. -/
namespace Yf
open PySem PySem.Spec PyProof.Rows L2

def pairK (p : Int × Int) : List Key := [Sum.inl p.1, Sum.inl p.2]
def pairV (p : Int × Int) : List V := [V.int p.1, V.int p.2]
theorem pairK_kV (p : Int × Int) : (pairK p).map kV = pairV p := rfl
open Classical in
/-- the pair that a value holds -/
noncomputable def kOf (H : Hp) : Value → Int × Int
  | .ref b => if h : ∃ p : Int × Int, H b = some (.tup (pairV p)) then h.choose else (0, 0)
  | _ => (0, 0)
open Classical in
theorem kOf_eq {H : Hp} {b : Addr} {p : Int × Int} (h : H b = some (.tup (pairV p))) : kOf H (.ref b) = p := by
  have hx : ∃ p : Int × Int, H b = some (.tup (pairV p)) := ⟨p, h⟩
  show (if h : ∃ p : Int × Int, H b = some (.tup (pairV p)) then h.choose else (0, 0)) = p
  rw [dif_pos hx]
  have e := hx.choose_spec
  generalize hx.choose = q at e ⊢
  have e2 : pairV p = pairV q := by injection (Option.some.inj (h.symm.trans e))
  obtain ⟨a, b⟩ := p
  obtain ⟨c, d⟩ := q
  simp only [pairV, List.cons.injEq, V.int.injEq, and_true] at e2
  rw [e2.1, e2.2]
def rSortedDT : List V → Hp → VK → Prop := fun vs H Q => ∃ (d : Addr) (kvs : List (List Key × V)) (ps : List (Int × Int)), vs = [.ref d] ∧ Rd H d (.dT kvs) ∧ kvs.map (·.1) = ps.map pairK ∧
  ∀ (qs : List (Int × Int)) (bs : List Addr) (p : Addr), qs.Perm ps → qs.Pairwise (fun a b => SrtO.lexB b a = false) → Paired (fun b q => H b = some (.tup (pairV q))) bs qs → H p = none → Q (.ref p) (upd H p (.lst (bs.map V.ref)))
theorem paired_refs {H : Hp} : ∀ {bs : List Addr} {qs : List (Int × Int)}, Paired (fun b q => H b = some (.tup (pairV q))) bs qs → (bs.map Value.ref).map (kOf H) = qs
  | _, _, .nil => rfl
  | _, _, .cons h t => by
    show kOf H _ :: (_ : List Value).map (kOf H) = _
    rw [kOf_eq h]
    exact congrArg (_ :: ·) (paired_refs t)
theorem paired_get {α β : Type} {F : α → β → Prop} : ∀ {l₁ : List α} {l₂ : List β}, Paired F l₁ l₂ → ∀ x ∈ l₁, ∃ y ∈ l₂, F x y
  | _, _, .nil, x, h => nomatch h
  | _, _, .cons r t, x, h => by
    rcases List.mem_cons.mp h with e | e
    · rw [e]; exact ⟨_, List.mem_cons_self, r⟩
    · obtain ⟨y, hy, f⟩ := paired_get t x e
      exact ⟨y, List.mem_cons_of_mem _ hy, f⟩
section
variable {X : Cx}
theorem cr_sortedDT (hc : X.calm = true) : CallR X (.builtin "sorted") rSortedDT := by
  intro pins s σ H xs us Q I r h
  obtain ⟨d, kvs, ps, rfl, hd, hks, q⟩ := h
  obtain ⟨u, rfl, rx⟩ := r.one
  cases rx
  obtain ⟨z, hs, ks, pr, o, es, ep, ho, hx, hdt, he, hn⟩ := (show ObjOk X.prog X.w H s.heap d (.dT kvs) from hd.ok I.hok)
  have l1 : es.size = ks.length := size_of_entries he
  have l2 : kvs.length = ks.length := Paired.length pr
  -- the keys' tuples
  have hbs : Paired (fun b q => H b = some (.tup (pairV q))) (ks.map fun x => x.2.1) ps := by
    clear q he hn l1 l2 z hd
    induction pr generalizing ps with
    | nil =>
      cases ps with
      | nil => exact .nil
      | cons a b => cases hks
    | cons h t ih =>
      cases ps with
      | nil => cases hks
      | cons a b =>
        rw [List.map_cons, List.map_cons] at hks
        obtain ⟨e1, e2⟩ := List.cons.inj hks
        refine .cons ?_ (ih b e2)
        have e3 := h.2.1
        rw [e1, pairK_kV] at e3
        exact e3
  refine Calls.call_function_entry PyProof.Rows.kind_sorted PyProof.Rows.plain_sorted PyProof.Rows.entry_sorted (PyProof.Rows.args_sorted1 _) ?_
  unfold Builtin.«sorted»
  refine wpAny_bind (m := checkCount "sorted" 1 1 _) (wpAny_pure ?_)
  refine wpAny_bind (PySem.W.kdu_collect (A := X.A.in1) (kdl_raw hs hx hdt) (I.ok.hd hc) ho (by omega) fun h' tk acc kp it => ?_)
  have ea : acc.toList = (ks.map fun x => x.2.1).map Value.ref := by
    have hl : acc.toList.length = ks.length := by rw [Array.length_toList, it.1]; exact l1
    apply List.ext_getElem?
    intro j
    rw [List.getElem?_map, List.getElem?_map]
    cases hj : acc.toList[j]? with
    | none =>
      have h1 := List.getElem?_eq_none_iff.mp hj
      rw [List.getElem?_eq_none (by omega)]
      all_goals rfl
    | some v =>
      obtain ⟨en, hen, hv⟩ := it.2 j v (by rw [← Array.getElem?_toList]; exact hj)
      have qe := entry_at he j
      rw [hen] at qe
      cases hb : ks[j]? with
      | none =>
        rw [hb] at qe
        exact nomatch (show some en = none from qe)
      | some b =>
        rw [hb] at qe
        have e2 : en = entryOfKey (tupleKind (mixKind X.prog X.w)) b := Option.some.inj qe
        rw [hv, e2]
        all_goals rfl
  rw [ea]
  generalize hB : (ks.map fun x => x.2.1) = bs at hbs
  have lb : bs.length = ks.length := by rw [← hB, List.length_map]
  have hz : (bs.map Value.ref).length ≤ sizeLine := by rw [List.length_map]; omega
  refine wpAny_bind (wpAny_newList ?_ hz)
  have hoL : (h'.push (seqObj "list" (bs.map Value.ref).toArray 0)).get? h'.objs.size = some (seqObj "list" (bs.map Value.ref).toArray 0) := Heap.get?_push_size _ rfl
  show wpAny _ _ _ _ _ { s with heap := h'.push (seqObj "list" (bs.map Value.ref).toArray 0), toks := tk }
  have kp2 : ∀ b o, s.heap.get? b = some o → (h'.push (seqObj "list" (bs.map Value.ref).toArray 0)).get? b = some o := fun b o e => Heap.get?_push_of_some _ (kp b o e)
  have isp : ∀ v ∈ bs.map Value.ref, Srt.IsPair s.heap v (kOf H v).1 (kOf H v).2 := fun v hv => by
    obtain ⟨b, hb, rfl⟩ := List.mem_map.mp hv
    obtain ⟨p, _, hp⟩ := paired_get hbs b hb
    rw [kOf_eq hp]
    obtain ⟨_, its2, r2, o, ho, hc, n, hd⟩ := I.hok _ _ hp
    obtain ⟨u1, u2, rfl, ri, rj⟩ := vals2 r2
    obtain ⟨t1, rfl⟩ := ri
    obtain ⟨t2, rfl⟩ := rj
    exact ⟨b, o, t1, t2, n, rfl, ho, hc, hd⟩
  refine wpAny_bind (wpAny_holding (wpAny_call_entry PyProof.Rows.slot_list_sort ⟨_, hoL, rfl⟩ PyProof.Rows.entry_list_sort
    (SrtO.list_sort_ord (SrtO.swo_lex (kOf H)) hoL hz (fun h2 => SrtO.pairs_sortableO (by omega) (fun v hv => (isp v hv).keeps fun b o e _ => kp2 b o e) fun o e => ?_) fun out hS hB2 => ⟨_, rfl, ?_⟩) (PyProof.Rows.args_list_sort _)))
  · have e' : some o = some (seqObj "list" (bs.map Value.ref).toArray 0) := e.symm.trans hoL
    cases e'
    intro c
    exact absurd (Value.type.inj c) (by decide)
  · obtain ⟨e', he'⟩ := PyProof.Rows.sortedHeap_at (vs := bs.map Value.ref) (out := out.toArray) hoL
    -- what came out
    have hr : ∀ v ∈ out, ∃ b : Addr, v = Value.ref b ∧ H b = some (.tup (pairV (kOf H v))) := fun v hv => by
      obtain ⟨b, hb, rfl⟩ := List.mem_map.mp (hB2.perm.mem_iff.mp hv)
      obtain ⟨p, _, hp⟩ := paired_get hbs b hb
      rw [kOf_eq hp]
      exact ⟨b, rfl, hp⟩
    obtain ⟨cs, hcs, hpc⟩ : ∃ cs : List Addr, out = cs.map Value.ref ∧ Paired (fun b q => H b = some (.tup (pairV q))) cs (out.map (kOf H)) := by
      clear hS hB2 he' e'
      induction out with
      | nil => exact ⟨[], rfl, .nil⟩
      | cons v vs ih =>
        obtain ⟨b, rfl, hb⟩ := hr v List.mem_cons_self
        obtain ⟨cs, e1, e2⟩ := ih fun u hu => hr u (List.mem_cons_of_mem _ hu)
        exact ⟨b :: cs, by rw [e1]; rfl, .cons hb e2⟩
    have I1 : Inv X pins σ H { s with heap := h', toks := tk } := I.kept kp
    have hlen : (cs.map V.ref).length ≤ sizeLine := by
      have e := hB2.perm.length_eq
      rw [hcs, List.length_map] at e
      rw [List.length_map, e]
      exact hz
    have nsz : h'.objs.size ≤ h'.objs.size := Nat.le_refl _
    refine wpAny_pure ⟨_, rfl, .ref h'.objs.size, upd H h'.objs.size (.lst (cs.map V.ref)), I1.laid (t' := tk) (fun b u e => ?_) (Nat.le_refl _) ⟨hlen, out, e', ?_, he'⟩, rfl, q (out.map (kOf H)) cs _ ?_ ?_ hpc (I1.hok.fresh (Nat.le_refl _))⟩
    · have hne : b ≠ h'.objs.size := Nat.ne_of_lt (Heap.lt_size e)
      exact (PyProof.Rows.sortedHeap_old hne (by rw [size_push']; exact Nat.lt_succ_of_lt (Heap.lt_size e))).trans (Heap.get?_push_of_some _ e)
    · rw [hcs]; exact vals_refs cs
    · have e := hB2.perm.map (kOf H)
      rw [paired_refs hbs] at e
      exact e
    · exact List.pairwise_map.mpr (List.Pairwise.imp (fun {a b} h => h) hS)
end
end Yf
set_option Elab.async false
set_option linter.all false
set_option maxRecDepth 100000
set_option maxHeartbeats 4000000
/-! R2: a dict comprehension whose keys are tuples of ints and texts. -/
namespace Yf
open PySem PySem.Spec PyProof.Rows L2

section
variable {X : Cx} {pins : List (Addr × Obj)} {σ : L2.St} {H : Hp} {s : Shared}
/-- the store of one entry by the comprehension -/
theorem put_entryT {E : Value → Shared → Prop} {D b : Addr} {kvs : List (List Key × V)} {k : List Key} {v : V} {r : Value} {Q : Unit → Shared → Prop} (hu : X.A.units + 1 < cLine) (I : Inv X pins σ H s)
    (hD : H D = some (.dT kvs)) (hb : H b = some (.tup (k.map kV))) (hz : kvs.length < sizeLine) (rv : RelV v r)
    (h : ∀ s', Inv X pins σ (upd H D (.dT (putK kvs k v))) s' → Q () s') : wpAny (model X.prog X.w) X.A (dictSet D (.ref b) r) Q E s := by
  obtain ⟨z, hd, xs, rel, dd⟩ := dt_of I.hok hD
  have hzx : xs.length ≤ sizeLine := by rw [← Paired.length rel]; exact z
  have hl : (putK kvs k v).length ≤ sizeLine := by have := length_putK kvs k v; omega
  refine wpAny_dictSet_heap (knd := tupleKind (mixKind X.prog X.w)) (hsz := hzx) (show X.A.units < cLine from Nat.lt_of_succ_lt hu) (key_of I.hok hb) dd fun h' dd' hs => h _ ?_
  obtain ⟨q, es, ep, hq, h2, h3, h4, _, h5⟩ := dd'
  have new : ObjOk X.prog X.w (upd H D (.dT (putK kvs k v))) h' D (.dT (putK kvs k v)) := by
    refine ⟨hl, hd, _, (rel.put k hb rv).keeps fun c ys ec => ?_, q, es, ep, hq, h2, h3, h4, h5⟩
    rw [upd_ne (ne_of ec hD (fun z => nomatch z))]
    exact ec
  exact d_write I (by rw [hD]; exact True.intro) hs ⟨q, hq⟩ new
end
section
variable {X : Cx}
/-- {k: v for .. in .. if ..}: what is asked; D the new dict -/
def tDcT (wi : TI) (g : TG) (tt : TT) (tk tv : TE) (vs : List Nat) : TE := fun σ H Q => wi σ H fun J H1 => ∀ D, H1 D = none →
  ∃ W : Nat → Nat → Hp → Prop, (∃ m, W 0 m (upd H1 D (.dT []))) ∧ ∀ i m H, W i m H →
    (J.stop i H ∧ Q (.ref D) H) ∨
    (J.go i H ∧ ∃ Nx : Hp → Prop, (∀ H', Nx H' → ∃ m', m' < m ∧ W (i + 1) m' H') ∧ ∀ x H', J.yld i H x H' →
      g x (wipe σ vs) H' fun σ2 H2 => wipe σ2 vs = wipe σ vs ∧ tt σ2 H2 fun b H3 =>
        if b = true then tk σ2 H3 fun y H4 => tv σ2 H4 fun z H5 => ∃ kvs k q, y = .ref q ∧ H5 q = some (.tup (k.map kV)) ∧ H5 D = some (.dT kvs) ∧ kvs.length < sizeLine ∧ Nx (upd H5 D (.dT (putK kvs k z)))
        else Nx H3)
/-- a part of the comprehension, wherever its block stands -/
abbrev InBlk (X : Cx) (scope : Scope) (J : Cx → Prop) : Prop := ∀ (s : Shared) (H : Hp) (C : Addr) (cl : List (Str × Addr)) (fp : List Addr), J (X.blk s H scope (compEnvC scope cl C X.env) fp)
theorem pe_dcT {kx vx tg iter : Expr} {ifs : List Expr} {scope : Scope} {own : List (Str × Nat)} {pos : Pos} {wi : TI} {g : TG} {tt : TT} {tk tv : TE} (hu : X.A.units + 1 < cLine) (hc : X.calm = true) (hN : X.N.Nodup)
    (hi : PI X tg iter wi) (ok : BlkOk X.N X.env.scope scope own) (hg : InBlk X scope fun Y => PG Y tg g) (ht : InBlk X scope fun Y => PTs Y ifs tt) (hk : InBlk X scope fun Y => PE Y kx tk) (he : InBlk X scope fun Y => PE Y vx tv)
    (hs : ∀ x, foldedSetIterable iter X.env x = pure x := by intro _; rfl) : PE X (.DictComp kx vx [⟨tg, iter, ifs, 0⟩] scope pos) (tDcT wi g tt tk tv (own.map (·.2))) := by
  refine ⟨fun pins s σ H Q I h => ?_⟩
  rw [arm_eval_DictComp]
  -- the free names of the block stand in the def's cells
  have cellsOk : ∀ y ∈ scope.names, y.2 = .free → ∃ c, X.env.cells.lookup y.1 = some c := fun y hy e =>
    (ok.free y hy e).elim (fun k => I.ok.has _ (.inl k)) fun k => I.ok.has _ (.inr k)
  have start : wpAny (model X.prog X.w) X.A (eval iter X.env) (fun v s₁ => _) X.xe s := hi.run pins s σ H _ I h
  refine wpAny_comprehension_free rfl hs (closure_ok cellsOk) ok.kind (fun y hy e => by rw [ok.uniq y hy, e]) (thn start fun xv s1 hx => thn hx fun itv s2 h2 => ?_)
  obtain ⟨it, fp, tn, J, H2, rfl, I2, T, st2, f2, q⟩ := h2
  refine wpAny_newObj_type (newEnv_comp ?_)
  generalize hD : s2.heap.objs.size = D
  have hDle : s2.heap.objs.size ≤ D := Nat.le_of_eq hD
  obtain ⟨W, ⟨m0, w0⟩, turn⟩ := q D (I2.hok.fresh hDle)
  -- the new dict
  generalize hs3 : ({ s2 with heap := s2.heap.push { cls := .type "dict", data := .dict #[] } } : Shared) = s3
  have h3 : s3.heap = s2.heap.push { cls := .type "dict", data := .dict #[] } := by rw [← hs3]
  have kp3 : ∀ b o, s2.heap.get? b = some o → s3.heap.get? b = some o := fun b o e => by rw [h3]; exact Heap.get?_push_of_some _ e
  have I3 : Inv X pins σ (upd H2 D (.dT [])) s3 := by
    rw [← hs3]
    refine I2.laid (t' := s2.toks) (fun b o e => Heap.get?_push_of_some _ e) hDle ?_
    rw [← hD]; exact dt_empty s2.heap I2.big
  have old : ∀ b ∈ fp, b < s2.heap.objs.size := fun b hb => let ⟨_, e, _⟩ := T.obj _ _ st2 b hb; Heap.lt_size e
  have f3 : ∀ b ∈ fp, FpOk X pins (upd H2 D (.dT [])) b ∧ b < s3.heap.objs.size := fun b hb =>
    ⟨⟨by rw [upd_ne (by rw [← hD]; exact Nat.ne_of_lt (old b hb))]; exact (f2 b hb).1, (f2 b hb).2⟩, by rw [h3, Heap.size_push]; exact Nat.lt_succ_of_lt (old b hb)⟩
  have st3 : tn 0 s3.heap := T.keep _ _ _ st2 fun b _ o e => kp3 b o e
  have I4 := block_start I3 ok hN f3
  show codeAny (model X.prog X.w) X.A (.compStart (.DictComp kx vx [⟨tg, iter, ifs, 0⟩] scope pos) 0 (.ref it) (.ref D)
      (compEnvC scope (cellsFrom (s3.heap.objs.size + 1) scope.names (cloFrom X.env.cells scope.names [])) s3.heap.objs.size X.env))
    (compPost (model X.prog X.w) X.A X.xe none (EP X pins σ Q) (.ref D) s3.heap.objs.size)
    { s3 with heap := pushCells (s3.heap.push { cls := .type "dict", data := .dict #[] }) scope.names }
  generalize hcl : cellsFrom (s3.heap.objs.size + 1) scope.names (cloFrom X.env.cells scope.names []) = cl at I4 ⊢
  have pg := hg s3 (upd H2 D (.dT [])) s3.heap.objs.size cl fp
  have pt := ht s3 (upd H2 D (.dT [])) s3.heap.objs.size cl fp
  have pk := hk s3 (upd H2 D (.dT [])) s3.heap.objs.size cl fp
  have pe := he s3 (upd H2 D (.dT [])) s3.heap.objs.size cl fp
  generalize hce : compEnvC scope cl s3.heap.objs.size X.env = ce at I4 pg pt pk pe ⊢
  have cL : ce.locals = s3.heap.objs.size := by rw [← hce]; rfl
  have n3 : ∀ b ∈ fp, (upd H2 D (.dT [])) b = none := fun b hb => (f3 b hb).1.1
  generalize hH3 : upd H2 D (.dT []) = H3 at I3 I4 pg pt pk pe w0 n3 f3
  -- what is wanted at the loop's end
  generalize hPost : (compPost (model X.prog X.w) X.A X.xe none (EP X pins σ Q) (.ref D) s3.heap.objs.size) = Post
  generalize hs4 : ({ s3 with heap := pushCells (s3.heap.push { cls := .type "dict", data := .dict #[] }) scope.names } : Shared) = s4 at I4 ⊢
  have st4 : tn 0 s4.heap := T.keep _ _ _ st3 fun b _ o e => by rw [← hs4]; exact pushCells_keeps _ _ _ _ (Heap.get?_push_of_some _ e)
  let Y : Cx := X.blk s3 H3 scope ce fp
  have stat : ∀ {σ' : L2.St} {H' : Hp} {s' : Shared}, Inv Y [] σ' H' s' → (∀ b ∈ fp, H' b = none) → ∀ b ∈ fp, FpOk Y [] H' b := fun {σ' H' s'} I' hn b hb =>
    ⟨hn b hb, (I'.ok.exf b hb).1, I'.ok.exfs b hb, .inl hb, fun x c e => (I'.ok.exf b hb).2 x c e, fun p hp => absurd (show p ∈ ([] : List (Addr × Obj)) ++ [] from hp) (by simp)⟩
  have loop : codeAny (model X.prog X.w) X.A (.compLoop (.DictComp kx vx [⟨tg, iter, ifs, 0⟩] scope pos) 0 (.ref it) (.ref D) ce) Post s4 := by
    refine compLoop_anyD (fun n s' => ∃ i H', Inv Y [] (wipe σ (own.map (·.2))) H' s' ∧ tn i s'.heap ∧ (∀ b ∈ fp, H' b = none) ∧ W i n H') ?_ m0 ⟨0, H3, I4, st4, n3, w0⟩
    rintro n s5 ⟨i, H5, I5, st5, n5, w5⟩
    rcases turn i n H5 w5 with ⟨stop, qq⟩ | ⟨go, Nx, hNx, step⟩
    · refine thnF (T.done Y rfl rfl rfl hc i [] s5 _ H5 (fun _ _ => False) I5 (stat I5 n5) st5 stop) fun r s6 ⟨hr, I6⟩ => ?_
      subst hr
      have I7 : Inv X pins σ H5 s6 := I3.call' (ch := fp) I6.os I6.base I6.hok I6.bare fun b hb => let f := (f3 b hb).1.2; ⟨f.2.2.1, f.1, f.2.2.2.1, f.2.2.2.2⟩
      have nC : H5 s3.heap.objs.size = none := by rw [← cL]; exact I6.free
      obtain ⟨m, hn, _⟩ := I6.loc
      have hn' : s6.heap.Ns s3.heap.objs.size m := by rw [← cL]; exact hn
      rw [← hPost]
      refine ⟨m, hn', fun h'' sb => ?_⟩
      obtain ⟨g0, g1, g2, g3, g4, g5⟩ := I3.fpOk (Nat.le_refl _) nC
      exact ⟨.ref D, H5, I7.turned (t' := s6.toks) (fun b o hb e => (sb.2 b hb).trans e) g0 g1 g3 g4 g5, rfl, qq⟩
    · refine thnF (T.item Y rfl rfl rfl hc i [] s5 _ H5 (fun _ _ => False) I5 (stat I5 n5) st5 go) fun r s6 ⟨u, hr, h6⟩ => ?_
      subst hr
      refine thnF h6 fun _ s7 ⟨x, H7, I7, r7, y7, st7, n7⟩ => ?_
      refine thnF (pg.run _ s7 _ H7 x u _ (I7.pinned (stat I7 n7) (T.obj _ _ st7)) r7 (step x H7 y7)) fun _ s8 ⟨σ8, H8, I8, hw8, q8⟩ => ?_
      refine thnF (pt.run _ s8 σ8 H8 _ I8 q8) fun b s9 ⟨H9, I9, q9⟩ => ?_
      have fin : ∀ {s' : Shared} {H' : Hp}, Inv Y ([] ++ pinsAt fp s7.heap) σ8 H' s' → Nx H' → ∃ m, m < n ∧ ∃ i H', Inv Y [] (wipe σ (own.map (·.2))) H' s' ∧ tn i s'.heap ∧ (∀ b ∈ fp, H' b = none) ∧ W i m H' := fun {s' H'} I' nx => by
        obtain ⟨m', hm, w'⟩ := hNx H' nx
        have pin' : ∀ b ∈ fp, ∀ o, s7.heap.get? b = some o → s'.heap.get? b = some o ∧ H' b = none := fun b hb o e =>
          have z := I'.pin (b, o) (List.mem_append_right _ (List.mem_append_right _ (mem_pinsAt hb e)))
          ⟨z.1, z.2.1⟩
        have hl : (wipe σ (own.map (·.2))).length = σ8.length := by rw [← hw8, wipe_length]
        have J' := (I'.unpinned (pins := [])).weak hl fun j v e => (wipe_some (by rw [← hw8] at e; exact e)).1
        exact ⟨m', hm, i + 1, H', J', T.keep _ _ _ st7 fun b hb o e => (pin' b hb o e).1, fun b hb => let ⟨o, e, _⟩ := T.obj _ _ st7 b hb; (pin' b hb o e).2, w'⟩
      cases b with
      | false =>
        rw [if_neg Bool.false_ne_true] at q9
        rw [if_neg Bool.false_ne_true]
        exact fin I9 q9
      | true =>
        rw [if_pos rfl] at q9
        rw [if_pos rfl]
        refine thnF (pk.run _ s9 σ8 H9 _ I9 q9) fun z s10 ⟨yk, H10, I10, r10, q10⟩ => ?_
        refine thnF (pe.run _ s10 σ8 H10 _ I10 q10) fun z2 s11 ⟨yv, H11, I11, r11, kvs, k, kq, ek, hkq, hD11, hz11, nx⟩ => ?_
        subst ek
        obtain rfl : z = Value.ref kq := r10
        exact put_entryT (X := Y) hu I11 hD11 hkq hz11 r11 fun s12 I12 => fin I12 nx
  exact codeAny_compStart_dict loop (T.self X.A 0 _ _ _ st4 loop)
end
end Yf
set_option Elab.async false
set_option linter.all false
set_option maxRecDepth 100000
set_option maxHeartbeats 2000000
/-! R3: x in o, x not in o, o == o2 by methods of one's own. -/
namespace Yf
open PySem PySem.Spec PyProof.Rows L2

section
variable {X : Cx} {C f : Addr} {fd : FuncData} {ps : List Str} {sp : Sp} {k : Nat} {CX : CXT} {E : XK}
/-- x in o: __contains__ of o's class C promises sp; its answer is a bool -/
def rInOwn (C : Addr) (sp : Sp) (E : XK) (neg : Bool) : R2 := fun x y H Q => ∃ a dx fs, y = V.ref a ∧ H a = some (.ins C dx fs) ∧ sp [V.ref a, x] H (fun z H' => ∃ b, z = V.bl b ∧ Q (V.bl (if neg = true then !b else b)) H') E
theorem run_containsOwn {pins : List (Addr × Obj)} {σ : L2.St} {H : Hp} {s : Shared} {x : V} {v : Value} {a dx : Addr} {fs : List (Str × V)} {Q : Bool → Hp → Prop} (m : Meth X.K C "__contains__" f) (F : FnOk X.prog X.w X.K X.mg X.base CX k f fd ps sp) (hr : Room k X.A) (hb : Binds X.K fd ps [])
    (hx : Passes CX X E) (I : Inv X pins σ H s) (rx : RelV x v) (e : H a = some (.ins C dx fs)) (h : sp [V.ref a, x] H (fun z H' => ∃ b, z = V.bl b ∧ Q b H') E) :
    wpAny (model X.prog X.w) X.A (contains (.ref a) v) (fun b s' => ∃ H', Inv X pins σ H' s' ∧ Q b H') X.xe s := by
  obtain ⟨mA, O, _, _, _, _⟩ := ins_get I.hok e
  obtain ⟨od, J, _⟩ := O.look
  unfold contains
  refine wpAny_holding (wpAny_bind (wpAny_bind (J.type.here ((PySem.W.looks_findIn I.kIn m.at_).here ?_))))
  rw [if_neg (by simp)]
  refine wpAny_bind (PySem.W.unlessNone_K I.kIn J m.at_ m.fn ?_)
  refine thn (run_fn F hr hb .nil hx I (us := [.ref a, v]) (vs := [V.ref a, x]) (.cons rfl (.cons rx .nil)) h) fun r s' ⟨z, H', I', rz, b, ez, q⟩ => ?_
  subst ez
  cases rz
  exact wpAny_truthy_bool ⟨H', I', q⟩
theorem op_inOwn (m : Meth X.K C "__contains__" f) (F : FnOk X.prog X.w X.K X.mg X.base CX k f fd ps sp) (hr : Room k X.A) (hb : Binds X.K fd ps []) (hx : Passes CX X E) : OpR X (compareOp .In) (rInOwn C sp E false) := by
  intro pins s σ H x y v u Q I rx ry h
  obtain ⟨a, dx, fs, rfl, e, q⟩ := h
  obtain rfl : u = Value.ref a := ry
  refine wpAny_bind (thn (run_containsOwn (Q := fun b H' => Q (.bl b) H') m F hr hb hx I rx e q) fun b s' ⟨H', I', q'⟩ => ?_)
  exact wpAny_pure ⟨.bl b, H', I', rfl, q'⟩
theorem op_notInOwn (m : Meth X.K C "__contains__" f) (F : FnOk X.prog X.w X.K X.mg X.base CX k f fd ps sp) (hr : Room k X.A) (hb : Binds X.K fd ps []) (hx : Passes CX X E) : OpR X (compareOp .NotIn) (rInOwn C sp E true) := by
  intro pins s σ H x y v u Q I rx ry h
  obtain ⟨a, dx, fs, rfl, e, q⟩ := h
  obtain rfl : u = Value.ref a := ry
  refine wpAny_bind (thn (run_containsOwn (Q := fun b H' => Q (.bl (!b)) H') m F hr hb hx I rx e q) fun b s' ⟨H', I', q'⟩ => ?_)
  exact wpAny_pure ⟨.bl (!b), H', I', rfl, q'⟩
/-- o == o2, two objects of the class C: its __eq__ promises sp; its answer is a bool -/
def rEqOwn (C : Addr) (sp : Sp) (E : XK) : R2 := fun x y H Q => ∃ a dx fs b dy gs, x = V.ref a ∧ y = V.ref b ∧ H a = some (.ins C dx fs) ∧ H b = some (.ins C dy gs) ∧ sp [V.ref a, V.ref b] H (fun z H' => ∃ b, z = V.bl b ∧ Q (V.bl b) H') E
theorem op_eqOwn (m : Meth X.K C "__eq__" f) (F : FnOk X.prog X.w X.K X.mg X.base CX k f fd ps sp) (hr : Room k X.A) (hb : Binds X.K fd ps []) (hx : Passes CX X E) : OpR X (compareOp .Eq) (rEqOwn C sp E) := by
  intro pins s σ H x y v u Q I rx ry h
  obtain ⟨a, dx, fs, b, dy, gs, rfl, rfl, e, e2, q⟩ := h
  obtain rfl : v = Value.ref a := rx
  obtain rfl : u = Value.ref b := ry
  obtain ⟨mA, O, _, _, _, _⟩ := ins_get I.hok e
  obtain ⟨od, J, _⟩ := O.look
  obtain ⟨mB, O2, _, _, _, _⟩ := ins_get I.hok e2
  obtain ⟨od2, J2, _⟩ := O2.look
  obtain ⟨mL, hL, _⟩ := I.loc
  show wpAny _ _ (richCompare .Eq (.ref a) (.ref b)) _ _ _
  refine PySem.W.cmp_K (tb := .ref C) hr.units0 ⟨hL, fun b o z => I.bk b o z, Nat.le_trans I.ok.bsz I.ok.above⟩ I.ok.mod.kin J J2.type ?_ m.at_ m.fn ?_
  · show ((Value.ref C == Value.ref C) || _) = true
    simp
  refine thn (run_fn F hr hb .nil hx I (us := [.ref a, .ref b]) (vs := [V.ref a, V.ref b]) (.cons rfl (.cons rfl .nil)) q) fun r s' ⟨z, H', I', rz, c, ez, q'⟩ => ?_
  subst ez
  cases rz
  exact ⟨.bl c, H', I', rfl, q'⟩
end
end Yf
set_option Elab.async false
set_option linter.all false
set_option maxRecDepth 100000
set_option maxHeartbeats 2000000
/-! R4: t.index(n), t a tuple of ints. -/
namespace Yf
open PySem PySem.Spec PyProof.Rows L2

theorem flat_ints (ns : List Int) : (ns.map V.int).all flatV = true := by
  rw [List.all_map]
  exact List.all_eq_true.mpr fun _ _ => rfl
theorem eqU_int (a b : Int) (t : Tok) : eqU (.int a) (.int b t) = decide (b = a) := by
  show eqV (.int b) (.int a) = _
  simp only [eqV]
  cases h : (b == a) <;> simp_all
/-- the first place of z in ns, which holds it -/
def rTupIndexI (K : PySem.W.Frag) : V → List V → Hp → VK → Prop := fun x xs H Q => ∃ (p : Addr) (ns : List Int) (z : Int), x = V.ref p ∧ xs = [V.int z] ∧ SqT K H p (ns.map V.int) ∧ z ∈ ns ∧ Q (.int ((ns.idxOf z : Nat) : Int)) H
theorem mt_tup_indexI {X : Cx} : MtR X "tuple.index" (rTupIndexI X.K) := by
  intro pins s σ H x xs v us Q I rx rs h
  obtain ⟨p, ns, z, rfl, rfl, hq, hz, q⟩ := h
  cases rx
  obtain ⟨u, rfl, t, rfl⟩ := vals1 rs
  obtain ⟨its, r, pl, hsz⟩ := I.tuple hq
  obtain ⟨⟨cls, dd, dt, sl⟩, ho, hc, n, hd⟩ := pl
  simp only at hc hd
  subst hc hd
  have lenI : its.toArray.size = ns.length := by rw [List.size_toArray, ← r.length, List.length_map]
  have hj : ns.idxOf z < ns.length := List.idxOf_lt_length_iff.mpr hz
  have cell : ∀ (m : Nat) (hm : m < its.toArray.size) (hm' : m < ns.length), ∃ t', its.toArray[m] = Value.int ns[m] t' := fun m hm hm' => by
    obtain ⟨w, hw, t', hw'⟩ := r.get (i := m) (x := .int ns[m]) (by simp [hm'])
    refine ⟨t', ?_⟩
    have e := (List.getElem?_eq_some_iff.mp hw).2
    rw [← hw', ← e]
    simp
  refine call_meets PySem.F.slot_tuple_index ⟨_, ho, rfl⟩ PySem.F.entry_tuple_index (PySem.F.args_tuple_index_2 _ _) (TI.tuple_indexAt p its.toArray n dd sl (.int z t) (eqU (.int z)) (ns.idxOf z) (by rw [lenI]; exact hj) ?_ ?_)
    ⟨ho, fun w hw => mem_eqAt (x := .int z) ⟨t, rfl⟩ rfl r (flat_ints ns) w (by simpa using hw), ⟨.int ((ns.idxOf z : Nat) : Int), H, I.tok _, ⟨_, rfl⟩, q⟩⟩
  · obtain ⟨t', h2⟩ := cell _ (by rw [lenI]; exact hj) hj
    rw [h2, eqU_int]
    exact decide_eq_true (List.getElem_idxOf hj)
  · intro m hm hmj
    obtain ⟨t', h2⟩ := cell m hm (by rw [← lenI]; exact hm)
    rw [h2, eqU_int]
    exact decide_eq_false (fun e => by
      have := List.not_of_lt_findIdx (p := fun y => y == z) (xs := ns) (i := m) hmj
      simp [e] at this)
end Yf
set_option Elab.async false
set_option linter.all false
set_option maxRecDepth 100000
set_option maxHeartbeats 2000000
/-! R5: tuple(range(a, b, c)). -/
namespace Yf
open PySem PySem.Spec PyProof.Rows L2

section
variable {X : Cx}
def stepV (i c : Int) (n : Nat) : List V := (List.range n).map fun (k : Nat) => V.int (i + (k : Int) * c)
def tTupR3 (ta : TA) : TE := fun σ H Q => ta σ H fun vs H1 => ∃ (i j c : Int) (n : Nat), vs = [.int i, .int j, .int c] ∧ RgC i j c n ∧ n ≤ 2 ^ 24 ∧ ∀ q, H1 q = none → Q (.ref q) (upd H1 q (.tup (stepV i c n)))
theorem pe_tupR3 {a b c : Expr} {ta : TA} {p p2 pos pos2 : Pos} (hc : X.calm = true) (hgt : Gl X "tuple") (hmt : X.mg "tuple" = none) (hg : Gl X "range") (hm : X.mg "range" = none) (ha : PA X [a, b, c] ta)
    (hs : starEach [a, b, c] X.env = (false, eval a X.env) :: starEach [b, c] X.env := by rfl) (hpl : (backTo pos2 (starEach [b, c] X.env)).any (·.1) = false := by rfl)
    (na : starEach [.Call (.Name "range" p2) [a, b, c] [] pos2] X.env = (false, eval (.Call (.Name "range" p2) [a, b, c] [] pos2) X.env) :: starEach [] X.env := by rfl) :
    PE X (.Call (.Name "tuple" p) [.Call (.Name "range" p2) [a, b, c] [] pos2] [] pos) (tTupR3 ta) := by
  refine ⟨fun pins s σ H Q I h => ?_⟩
  refine Call_ (ld_blt I hgt hmt boot_tuple (PyProof.Rows.callWith_type1 (args_cons ?_ na) na))
  refine Call_ (ld_blt I hg hm boot_range (PyProof.Rows.callWith_type1 (thn (ha.run pos2 pins s σ H _ I h) fun us s1 ⟨vs, H1, I1, r1, q1⟩ => ?_) hs hpl))
  obtain ⟨i, j, k, n, e, ⟨c0, c1, c2, c3⟩, hn, q⟩ := q1
  subst e
  obtain ⟨u1, us1, rfl, r, rr⟩ : ∃ u us', us = u :: us' ∧ RelV (.int i) u ∧ Vals [.int j, .int k] us' := by cases r1 with | cons r rr => exact ⟨_, _, rfl, r, rr⟩
  obtain ⟨u2, u3, rfl, r', r''⟩ := vals2 rr
  obtain ⟨t, rfl⟩ := r
  obtain ⟨t', rfl⟩ := r'
  obtain ⟨t'', rfl⟩ := r''
  refine call_range_3 c0 ?_ (.inl (PyProof.noPylong_small c1))
  refine args_nil ?_
  have I2 : Inv X pins σ H1 { s1 with heap := s1.heap.push { cls := .type "range", data := .fields #[.int i t, .int j t', .int k t''] } } := I1.kept (t' := s1.toks) fun b o e => Heap.get?_push_of_some _ e
  refine call_tuple_range (n := n) (I2.ok.hd hc) (IsRange.new ..) c2 c3 hn fun h' tk acc hk hi => ?_
  have I3 : Inv X pins σ H1 { s1 with heap := h', toks := tk } := I2.kept hk
  have rv : Vals (stepV i k n) acc.toList := by
    have e : acc.toList.length = n := by rw [Array.length_toList]; exact hi.1
    unfold stepV
    rw [← e]
    exact vals_of_get acc.toList _ fun j u hj => hi.2 j u (by rw [← hj, Array.getElem?_toList])
  refine ⟨.ref h'.objs.size, upd H1 h'.objs.size (.tup (stepV i k n)), I3.laid (t' := tk) (fun c o e => Heap.get?_push_of_some _ e) (Nat.le_refl _) ⟨?_, acc.toList, rv, ?_⟩, rfl, q _ (I3.hok.fresh (Nat.le_refl _))⟩
  · unfold stepV; rw [List.length_map, List.length_range, sizeLine_eq]; omega
  · rw [Array.toArray_toList]; exact IsTup.new _ _
end
end Yf
set_option Elab.async false
set_option linter.all false
set_option maxRecDepth 100000
set_option maxHeartbeats 2000000
/-! R6: repr of nested data; defs that are called where no guard stands. -/
namespace Yf
open PySem PySem.Spec PyProof.Rows L2

section
variable {X : Cx}
def rRepr (K : PySem.W.Frag) : List V → Hp → VK → Prop := fun vs H Q => ∃ x d, vs = [x] ∧ Dp K H x d ∧ d.showable = true ∧ d.hasDict = false ∧ d.depth ≤ 8 ∧ d.shown.length ≤ sizeLine ∧ Q (.str d.shown) H
theorem call_reprD (hg : X.A.guards = some []) (hu : X.A.units + 64 < cLine) : CallR X (.builtin "repr") (rRepr X.K) := by
  intro pins s σ H vs us Q I r h
  obtain ⟨x, d, rfl, hd, hs, hnd, hdp, hl, q⟩ := h
  obtain ⟨u, rfl, rx⟩ := vals1 r
  have tail : ∀ (h' : Heap) (t tk : Tok), (∀ b o, s.heap.get? b = some o → h'.get? b = some o) → EP X pins σ Q (.str d.shown t) { s with heap := h', toks := tk } := fun h' t tk hk =>
    ⟨.str d.shown, H, I.kept (t' := tk) hk, ⟨t, rfl⟩, q⟩
  have big : ∀ a : Addr, u = .ref a → wpAny (model X.prog X.w) X.A (call (.builtin "repr") [u]) (EP X pins σ Q) X.xe s := fun a e => by
    obtain ⟨as, rd⟩ := Dp.reads I d x u hd rx
    subst e
    exact repr_of_reads' rd hs (PyData.noDict_hsm hnd) hg (by omega) (fun _ _ e => e) (fun h' t tk hk => tail h' t tk hk) hl
  cases hd with
  | non =>
    cases rx
    exact PySem.P.repr_of_none (tail s.heap _ _ fun _ _ e => e)
  | bl b =>
    cases rx
    exact PySem.P.repr_of_bool (tail s.heap _ _ fun _ _ e => e)
  | int i =>
    obtain ⟨t, rfl⟩ := rx
    have hlog : i.natAbs.log2 < 1920 := by simpa [PyData.showable] using hs
    exact PySem.P.repr_of_int hlog (tail s.heap _ _ fun _ _ e => e)
  | str z =>
    obtain ⟨t, rfl⟩ := rx
    exact PySem.P.repr_of_str (tail s.heap _ _ fun _ _ e => e) hl
  | lst h1 h2 => exact big _ rx
  | tup h1 h2 => exact big _ rx
end

/-- a def's promise where no guard stands -/
structure FnG (P : Program) (w : World) (K : PySem.W.Frag) (mg : Str → Option Value) (base : Heap) (CX : CXT) (k : Nat) (f : Addr) (fd : FuncData) (ps : List Str) (sp : Sp) : Prop where
  len : ∀ vs H Q E, sp vs H Q E → vs.length = ps.length
  run : ∀ (A : Around) (outer : List Env) (s : Shared) (H : Hp) (args : Args) (us : List Value) (vs : List V) (Q : VK) (E : XK), A.guards = some [] → Room k A → Env0 P w K mg base A outer s H → BindsTo s fd args (ps.zip us) → Vals vs us → sp vs H Q E →
    codeAny (model P w) A (.call (.ref f) args) (CR CX outer P w H s Q E) s
theorem fnG_of {CX : CXT} {P : Program} {w : World} {K : PySem.W.Frag} {mg : Str → Option Value} {base : Heap} {k : Nat} {f : Addr} {name qual : Str} {params : Arguments} {body : List Stmt} {scope : Scope} {dV kV doc pm cdv ct oc : Value} {an od : Option Addr}
    {osl : Array (Option Value)} {N ps : List Str} {sp : Sp} (lk : K.lookup f = some ⟨oc, od, .func (PySem.W.fnOf name qual params body scope dV kV doc pm an cdv ct), osl⟩) (hcd : PySem.W.codeIn K cdv qual = true) (S : FnScope N ps scope)
    (len : ∀ vs H Q E, sp vs H Q E → vs.length = ps.length)
    (hbody : ∀ (A : Around) (outer : List Env) (s : Shared) (H : Hp) (vs : List V) (Q : VK) (E : XK), (A.deeper (envOfC qual scope s.heap.objs.size f cdv)).guards = some [] → Room k (A.deeper (envOfC qual scope s.heap.objs.size f cdv)) → sp vs H Q E →
      ∃ t, PSs (cxOf CX P w K mg base N qual scope f cdv A outer s H E) body t ∧ t { nx := fun _ H' => Q .non H', rt := Q } (start N vs) H) :
    FnG P w K mg base CX (k + 1) f (PySem.W.fnOf name qual params body scope dV kV doc pm an cdv ct) ps sp := by
  refine ⟨len, fun A outer s H args us vs Q E hgd hr e0 hb r hsp => ?_⟩
  -- the same def as a promise for this one around: its body's reading holds here
  have KX : K.In s.heap := e0.mod.kin.keeps fun b o e => (e0.bs b o e).1
  have lim : s.heap.NoLimit := e0.mod.nolimit.keeps fun b o e => (e0.bs b o e).1
  have hkind : ∀ y ∈ ps.zip us, scope.names.lookup y.1 = some .local ∨ (scope.names.lookup y.1 = some .cell ∧ ((cellsFrom (s.heap.objs.size + 1) scope.names []).lookup y.1).isSome = true) := fun y hy =>
    (S.par y.1 (List.of_mem_zip (a := y.1) (b := y.2) hy).1).elim .inl fun q => .inr ⟨q, PySem.W.cellsFrom_some _ _ _ (.inl q)⟩
  refine codeAny_call_function hr.depth (KX _ _ lk) rfl S.co S.gen rfl (PySem.W.codeRec_of KX hcd) (hb _ _ _ _ (wpAny_newFunctionEnv_cells S.kind hkind fun env he s1 x => ?_))
  subst he
  refine ⟨lim.keeps x.toInCall.keep, codeAny_func ?_⟩
  obtain ⟨t, ht, hq⟩ := hbody A outer s H vs Q E hgd (hr.deeper _) hsp
  have I : Inv (cxOf CX P w K mg base N qual scope f cdv A outer s H E) [] (start N vs) H s1 := inv_start S hr.hd e0 (len _ _ _ _ hsp) r x
  refine wpAny_mono (ht.run [] s1 (start N vs) H _ I hq) (fun fl s' hs => ?_) fun e s' hs => hs
  cases fl with
  | ret u => obtain ⟨v, σ', H', J, rv, q⟩ := hs; exact ⟨v, H', J.os, J.bare, J.base, J.hok, rv, q⟩
  | next => obtain ⟨σ', H', J, q⟩ := hs; exact ⟨V.non, H', J.os, J.bare, J.base, J.hok, rfl, q⟩
  | brk => obtain ⟨_, _, _, q⟩ := hs; exact False.elim q
  | cont => obtain ⟨_, _, _, q⟩ := hs; exact False.elim q

section
variable {X : Cx} {CX : CXT} {k : Nat} {f : Addr} {fd : FuncData} {ps : List Str} {sp : Sp} {E : XK} {x : Str} {p pos : Pos} {e : Expr} {es : List Expr} {t : TA}
theorem pe_callG (F : FnG X.prog X.w X.K X.mg X.base CX k f fd ps sp) (hgd : X.A.guards = some []) (hr : Room k X.A) (hg : Gl X x) (hm : X.mg x = some (.ref f)) (hk : PySem.W.keepIn X.K (.ref f) = true) (hb : Binds X.K fd ps []) (hx : Passes CX X E)
    (ha : PA X (e :: es) t) (hdb : (x == ("__debug__" : Str)) = false := by decide) (he : starEach (e :: es) X.env = (false, eval e X.env) :: starEach es X.env := by rfl) (hpl : (backTo pos (starEach es X.env)).any (·.1) = false := by rfl) :
    PE X (.Call (.Name x p) (e :: es) [] pos) (tCall sp [] E t) := by
  refine ⟨fun pins s σ H Q I h => ?_⟩
  refine wpAny_Call_Name_kw (ld_glob I hg hm ?_ hdb)
  refine PySem.W.callWith_K (h₀ := X.base) I.ok.mod.kin hk (thn (ha.run pos pins s σ H _ I h) fun us s1 ⟨vs, H1, I1, r, q⟩ => ⟨I1.kIn, ?_⟩) he hpl
  have q : sp (vs ++ []) H1 Q E := q
  rw [List.append_nil] at q
  have hl : us.length = ps.length := by rw [← r.length]; exact F.len _ _ _ _ q
  have hbt := hb s1 us I1.kIn (by rw [List.append_nil]; exact hl)
  rw [List.append_nil] at hbt
  refine wpAny_call (codeAny_mono (F.run X.A X.stack s1 H1 ⟨us, []⟩ us vs Q E hgd hr I1.env0 hbt r q) fun r s' hq => ?_)
  cases r with
  | error e => exact hx pins σ H1 s1 e s' I1 hq
  | ok fl =>
    cases fl with
    | ret u => exact I1.after hq
    | next => exact False.elim hq
    | brk => exact False.elim hq
    | cont => exact False.elim hq
end
end Yf
set_option Elab.async false
set_option linter.all false
set_option maxRecDepth 100000
set_option maxHeartbeats 4000000
/-! R7: list(zip(s, t)), s and t tuples. -/
namespace Yf
open PySem PySem.Spec PyProof.Rows L2 RZ

/-- a zip of two tuples behind k turns (its pairs still live) -/
structure ZS (h : Heap) (z TI TO i1 i2 l1 l2 : Addr) (xs ys : Array Value) (k : Nat) : Prop where
  st : (IsZip h z TI TO .none ∧ ∃ a b, PySem.IsPair h TO a b) ∨ ∃ T f oT, IsZipHeld h z TI TO T f ∧ h.get? T = some oT ∧ T ≠ z ∧ T ≠ i1 ∧ T ≠ i2
  ti : PySem.IsPair h TI (.ref i1) (.ref i2)
  a1 : h.IsTupleIter i1 l1 k
  a2 : h.IsTupleIter i2 l2 k
  t1 : h.IsTuple l1 xs
  t2 : h.IsTuple l2 ys
  ot : ∃ o, h.get? TO = some o
theorem ZS.keep {h h' : Heap} {z TI TO i1 i2 l1 l2 : Addr} {xs ys : Array Value} {k : Nat} (s : ZS h z TI TO i1 i2 l1 l2 xs ys k) (kp : ∀ b o, h.get? b = some o → h'.get? b = some o) : ZS h' z TI TO i1 i2 l1 l2 xs ys k := by
  obtain ⟨st, ti, a1, a2, t1, t2, oo, ho⟩ := s
  refine ⟨?_, kp _ _ ti, a1.at fun o e => kp _ o e, a2.at fun o e => kp _ o e, t1.at fun o e => kp _ o e, t2.at fun o e => kp _ o e, oo, kp _ _ ho⟩
  rcases st with ⟨hz, a, b, hp⟩ | ⟨T, f, oT, hz, hT, n⟩
  · exact .inl ⟨kp _ _ hz, a, b, kp _ _ hp⟩
  · exact .inr ⟨T, f, oT, kp _ _ hz, kp _ _ hT, n⟩
section
variable {prog : Program} {w : World} {A : Around} {E : Value → Shared → Prop} {s : Shared} {z TI TO i1 i2 l1 l2 : Addr} {xs ys : Array Value} {k : Nat}
theorem zs_type (S : ZS s.heap z TI TO i1 i2 l1 l2 xs ys k) : s.TypeIs (.ref z) "zip" := by
  rcases S.st with ⟨hz, _⟩ | ⟨T, f, oT, hz, _⟩
  · exact ⟨_, hz, rfl⟩
  · exact ⟨_, hz, rfl⟩
/-- an item, where a pair is out -/
theorem zs_heldItem {T : Addr} {f : Bool} {oT : Obj} {x y : Value} {Q : Value → Shared → Prop} (D : ZipApart z TI TO i1 i2 l1 l2) (hz : IsZipHeld s.heap z TI TO T f) (hT : s.heap.get? T = some oT) (hTI : PySem.IsPair s.heap TI (.ref i1) (.ref i2))
    (h1 : s.heap.IsTupleIter i1 l1 k) (h2 : s.heap.IsTupleIter i2 l2 k) (hl1 : s.heap.IsTuple l1 xs) (hl2 : s.heap.IsTuple l2 ys) (hx : xs[k]? = some x) (hy : ys[k]? = some y)
    (hQ : ∀ h', IsZipHeld h' z TI TO T true → h'.IsTupleIter i1 l1 (k + 1) → h'.IsTupleIter i2 l2 (k + 1) → PySem.IsPair h' s.heap.objs.size x y → h'.objs.size = s.heap.objs.size + 1 →
      (∀ c o, c ≠ z → c ≠ i1 → c ≠ i2 → s.heap.get? c = some o → h'.get? c = some o) → Q (.ref s.heap.objs.size) { s with heap := h' }) :
    wpAny (model prog w) A (Builtin.«zip.__next__» ⟨[.ref z], []⟩) (fun fin s' => ∃ v, fin = .done (.ret v) ∧ Q v s') E s := by
  show wpAny _ _ (field (.ref z) 2 >>= _) _ _ _
  refine wpAny_bind (wpAny_field hz rfl (x := .bool false) rfl ?_)
  show wpAny _ _ (field (.ref z) 3 >>= _) _ _ _
  refine wpAny_bind (wpAny_field hz rfl (x := .ref TI) rfl (wpAny_bind (wpAny_seqItems hTI rfl ?_)))
  show wpAny _ _ (Builtin.SmallTypes.ownedTupleIsFree (.ref z) >>= _) _ _ _
  refine wpAny_bind (wpAny_tupleHeld_zip hz hT fun ha hza hsa => ?_)
  rw [if_neg Bool.false_ne_true]
  refine wpAny_bind ?_
  rw [← Array.forIn_toList]
  simp only [List.forIn_cons, List.forIn_nil]
  refine wpAny_bind (wpAny_bind (wpAny_holding ?_))
  show wpAny _ _ (Builtin.SmallTypes.nextOf (.ref i1) >>= _) _ _ _
  refine wpAny_bind (nextOf_tuple_item (s := { s with heap := ha }) (h1.extBut hsa.extBut D.i1z) (hl1.extBut hsa.extBut D.l1z) hx fun hb h1b hsb => wpAny_pure (wpAny_pure ?_))
  refine wpAny_bind (wpAny_bind (wpAny_holding ?_))
  show wpAny _ _ (Builtin.SmallTypes.nextOf (.ref i2) >>= _) _ _ _
  refine wpAny_bind (nextOf_tuple_item (s := { s with heap := hb }) ((h2.extBut hsa.extBut D.i2z).extBut hsb.extBut D.i12.symm) ((hl2.extBut hsa.extBut D.l2z).extBut hsb.extBut D.l2i1) hy fun hc h2c hsc => wpAny_pure (wpAny_pure (wpAny_pure ?_)))
  show wpAny _ _ (newTuple [x, y] >>= _) _ _ _
  refine wpAny_bind (wpAny_newTuple (wpAny_pure ⟨_, rfl, ?_⟩))
  have size : hc.objs.size = s.heap.objs.size := by rw [hsc.1, hsb.1, hsa.1]
  have hzc : IsZipHeld hc z TI TO T true := hsc.extBut _ _ D.i2z.symm (hsb.extBut _ _ D.i1z.symm hza)
  have kc : ∀ c o, c ≠ z → c ≠ i1 → c ≠ i2 → s.heap.get? c = some o → hc.get? c = some o := fun c o c1 c2 c3 e => hsc.extBut _ _ c3 (hsb.extBut _ _ c2 (hsa.extBut _ _ c1 e))
  have h1c : hc.IsTupleIter i1 l1 (k + 1) := h1b.extBut hsc.extBut D.i12
  show Q (.ref hc.objs.size) _
  have hp : PySem.IsPair (hc.push { cls := .type "tuple", data := .seq #[x, y] }) hc.objs.size x y := Heap.get?_push_size _ rfl
  have hz4 : (hc.push { cls := .type "tuple", data := .seq #[x, y] }).objs.size = hc.objs.size + 1 := Heap.size_push ..
  rw [size] at hp hz4 ⊢
  exact hQ _ (Heap.get?_push_of_some _ hzc) (h1c.at fun o e => Heap.get?_push_of_some _ e) (h2c.at fun o e => Heap.get?_push_of_some _ e) hp hz4 fun c o c1 c2 c3 e => Heap.get?_push_of_some _ (kc c o c1 c2 c3 e)
/-- the end, where a pair is out -/
theorem zs_heldEnd {T : Addr} {f : Bool} {oT : Obj} {Q : PySem.Fin → Shared → Prop} (hh : A.handled = none) (D : ZipApart z TI TO i1 i2 l1 l2) (hz : IsZipHeld s.heap z TI TO T f) (hT : s.heap.get? T = some oT) (hTI : PySem.IsPair s.heap TI (.ref i1) (.ref i2))
    (h1 : s.heap.IsTupleIter i1 l1 k) (h2 : s.heap.IsTupleIter i2 l2 k) (hl1 : s.heap.IsTuple l1 xs) (hl2 : s.heap.IsTuple l2 ys) (hend : xs[k]? = none ∨ ys[k]? = none)
    (hE : ∀ h' e, (∀ c o, c ≠ z → c ≠ i1 → c ≠ i2 → s.heap.get? c = some o → h'.get? c = some o) → (∃ o, h'.get? e = some o ∧ o.cls = .type "StopIteration") → E (.ref e) { s with heap := h' }) :
    wpAny (model prog w) A (Builtin.«zip.__next__» ⟨[.ref z], []⟩) Q E s := by
  show wpAny _ _ (field (.ref z) 2 >>= _) _ _ _
  refine wpAny_bind (wpAny_field hz rfl (x := .bool false) rfl ?_)
  show wpAny _ _ (field (.ref z) 3 >>= _) _ _ _
  refine wpAny_bind (wpAny_field hz rfl (x := .ref TI) rfl (wpAny_bind (wpAny_seqItems hTI rfl ?_)))
  show wpAny _ _ (Builtin.SmallTypes.ownedTupleIsFree (.ref z) >>= _) _ _ _
  refine wpAny_bind (wpAny_tupleHeld_zip hz hT fun ha hza hsa => ?_)
  rw [if_neg Bool.false_ne_true]
  refine wpAny_bind ?_
  rw [← Array.forIn_toList]
  simp only [List.forIn_cons, List.forIn_nil]
  refine wpAny_bind (wpAny_bind (wpAny_holding ?_))
  show wpAny _ _ (Builtin.SmallTypes.nextOf (.ref i1) >>= _) _ _ _
  cases hx : xs[k]? with
  | none =>
    exact wpAny_bind (nextOf_tuple_end (s := { s with heap := ha }) hh (h1.extBut hsa.extBut D.i1z) (hl1.extBut hsa.extBut D.l1z) hx fun hb e hsb he => hE hb e (fun c o c1 c2 _ x => hsb _ _ c2 (hsa.extBut _ _ c1 x)) he)
  | some x =>
    have hy : ys[k]? = none := hend.resolve_left (by rw [hx]; exact fun z => by cases z)
    refine wpAny_bind (nextOf_tuple_item (s := { s with heap := ha }) (h1.extBut hsa.extBut D.i1z) (hl1.extBut hsa.extBut D.l1z) hx fun hb h1b hsb => wpAny_pure (wpAny_pure ?_))
    refine wpAny_bind (wpAny_bind (wpAny_holding ?_))
    show wpAny _ _ (Builtin.SmallTypes.nextOf (.ref i2) >>= _) _ _ _
    exact wpAny_bind (nextOf_tuple_end (s := { s with heap := hb }) hh ((h2.extBut hsa.extBut D.i2z).extBut hsb.extBut D.i12.symm) ((hl2.extBut hsa.extBut D.l2z).extBut hsb.extBut D.l2i1) hy fun hc e hsc he =>
      hE hc e (fun c o c1 c2 c3 x => hsc _ _ c3 (hsb.extBut _ _ c2 (hsa.extBut _ _ c1 x))) he)
theorem zs_next {x y : Value} {Q : Option Value → Shared → Prop} (D : ZipApart z TI TO i1 i2 l1 l2) (S : ZS s.heap z TI TO i1 i2 l1 l2 xs ys k) (hx : xs[k]? = some x) (hy : ys[k]? = some y)
    (hQ : ∀ h', ZS h' z TI TO i1 i2 l1 l2 xs ys (k + 1) → PySem.IsPair h' s.heap.objs.size x y → h'.objs.size = s.heap.objs.size + 1 → (∀ c o, c ≠ z → c ≠ TO → c ≠ i1 → c ≠ i2 → s.heap.get? c = some o → h'.get? c = some o) → Q (some (.ref s.heap.objs.size)) { s with heap := h' }) :
    wpAny (model prog w) A (pyNext (.ref z)) Q E s := by
  have hT := zs_type S
  have lt : ∀ {b : Addr} {o : Obj}, s.heap.get? b = some o → b < s.heap.objs.size := fun e => Heap.lt_size e
  obtain ⟨st, ti, a1, a2, t1, t2, oo, ho⟩ := S
  have zlt : z < s.heap.objs.size := by obtain ⟨o, ho, _⟩ := hT; exact lt ho
  have i1lt : i1 < s.heap.objs.size := by obtain ⟨o, ho, _⟩ := a1; exact lt ho
  have i2lt : i2 < s.heap.objs.size := by obtain ⟨o, ho, _⟩ := a2; exact lt ho
  have tup : ∀ {h' : Heap} {l : Addr} {vs : Array Value}, s.heap.IsTuple l vs → l ≠ z → l ≠ TO → l ≠ i1 → l ≠ i2 → (∀ c o, c ≠ z → c ≠ TO → c ≠ i1 → c ≠ i2 → s.heap.get? c = some o → h'.get? c = some o) → h'.IsTuple l vs := fun t n1 n2 n3 n4 kp => t.at fun o e => kp _ o n1 n2 n3 n4 e
  rcases st with ⟨hz, a, b, hp⟩ | ⟨T, f, oT, hz, hTT, n1, n2, n3⟩
  · refine pyNext_zipT_item D hz ti hp a1 a2 t1 t2 hx hy fun h' b1 b2 b3 b4 b5 b6 kp => hQ h' ⟨.inr ⟨s.heap.objs.size, false, _, b1, b5, Nat.ne_of_gt zlt, Nat.ne_of_gt i1lt, Nat.ne_of_gt i2lt⟩, kp _ _ D.TIz D.TITO D.TIi1 D.TIi2 ti, b3, b4, tup t1 D.l1z D.l1TO D.l1i1 D.l1i2 kp, tup t2 D.l2z D.l2TO D.l2i1 D.l2i2 kp, _, b2⟩ b5 b6 kp
  · unfold pyNext
    refine wpAny_bind (wpAny_attempt (wpAny_callSpecial?_slot (name := Str.ofString "__next__") hT F.slot_zip_next (wpAny_call_entry F.slot_zip_next hT F.entry_zip_next
      (zs_heldItem D hz hTT ti a1 a2 t1 t2 hx hy fun h' b1 b3 b4 b5 b6 kp => wpAny_pure (hQ h' ⟨.inr ⟨T, true, oT, b1, kp _ _ n1 n2 n3 hTT, n1, n2, n3⟩, kp _ _ D.TIz D.TIi1 D.TIi2 ti, b3, b4, ?_, ?_, oo, kp _ _ D.TOz D.TOi1 D.TOi2 ho⟩ b5 b6 fun c o c1 _ c3 c4 e => kp c o c1 c3 c4 e)) (F.args_zip_next_1 _))))
    · exact t1.at fun o e => kp _ o D.l1z D.l1i1 D.l1i2 e
    · exact t2.at fun o e => kp _ o D.l2z D.l2i1 D.l2i2 e
theorem zs_end {Q : Option Value → Shared → Prop} (hh : A.handled = none) (D : ZipApart z TI TO i1 i2 l1 l2) (S : ZS s.heap z TI TO i1 i2 l1 l2 xs ys k) (hend : xs[k]? = none ∨ ys[k]? = none)
    (hQ : ∀ h', (∀ c o, c ≠ z → c ≠ TO → c ≠ i1 → c ≠ i2 → s.heap.get? c = some o → h'.get? c = some o) → Q none { s with heap := h' }) : wpAny (model prog w) A (pyNext (.ref z)) Q E s := by
  have hT := zs_type S
  obtain ⟨st, ti, a1, a2, t1, t2, oo, ho⟩ := S
  rcases st with ⟨hz, a, b, hp⟩ | ⟨T, f, oT, hz, hTT, n1, n2, n3⟩
  · exact pyNext_zipT_end hh D hz ti hp a1 a2 t1 t2 hend hQ
  · unfold pyNext
    refine wpAny_bind (wpAny_attempt (wpAny_callSpecial?_slot (name := Str.ofString "__next__") hT F.slot_zip_next (wpAny_call_entry F.slot_zip_next hT F.entry_zip_next
      (zs_heldEnd hh D hz hTT ti a1 a2 t1 t2 hend fun h' e kp he => ?_) (F.args_zip_next_1 _))))
    obtain ⟨o, ho, hc⟩ := he
    refine wpAny_bind (wpAny_isInstance (T := "StopIteration") (b := true) ⟨o, ho, hc⟩ isSubtype_stop ?_)
    exact wpAny_pure (hQ _ fun c o c1 _ c3 c4 e => kp c o c1 c3 c4 e)
end
end Yf
set_option Elab.async false
set_option linter.all false
set_option maxRecDepth 100000
set_option maxHeartbeats 4000000
/-! R8: list(zip(s, t)) as an expression. -/
namespace Yf
open PySem PySem.Spec PyProof.Rows L2 RZ GenW

/-- the pairs that stand at Ts -/
structure Prs (h : Heap) (lo : Nat) (av : List Addr) (Ts : List Addr) (xs ys : Array Value) : Prop where
  nd : Ts.Nodup
  nw : ∀ T ∈ Ts, lo ≤ T ∧ T ∉ av
  ix : ∀ (j : Nat) (T : Addr), Ts[j]? = some T → ∃ x y, xs[j]? = some x ∧ ys[j]? = some y ∧ PySem.IsPair h T x y
section
variable {prog : Program} {w : World} {A : Around} {E : Value → Shared → Prop} {z TI TO i1 i2 l1 l2 : Addr} {xs ys : Array Value} {R : Result → Shared → Prop}
theorem drainZ {s0 : Shared} {S : Addr} {res : Value} (hh : A.handled = none) (D : ZipApart z TI TO i1 i2 l1 l2) (hz : ∀ b ∈ [S, z, TO, i1, i2], s0.heap.objs.size ≤ b) (hS : S ≠ z ∧ S ≠ TO ∧ S ≠ i1 ∧ S ≠ i2)
    (hSo : S ≠ TI ∧ S ≠ l1 ∧ S ≠ l2) (hn : xs.size ≤ sizeLine)
    (hend : ∀ (h' : Heap) (acc : Array Value) (c : Nat) (Ts : List Addr), h'.get? S = some (lstObj acc c) → acc.toList = Ts.map Value.ref → Ts.length = min xs.size ys.size → Prs h' s0.heap.objs.size [S, z, TO, i1, i2] Ts xs ys → (∀ b o, s0.heap.get? b = some o → h'.get? b = some o) → R (.ok (.ret res)) { s0 with heap := h' }) :
    ∀ (m k : Nat) (h : Heap) (acc : Array Value) (c : Nat) (Ts : List Addr), m + k = min xs.size ys.size → ZS h z TI TO i1 i2 l1 l2 xs ys k → h.get? S = some (lstObj acc c) → acc.toList = Ts.map Value.ref → Ts.length = k →
      Prs h s0.heap.objs.size [S, z, TO, i1, i2] Ts xs ys → (∀ b o, s0.heap.get? b = some o → h.get? b = some o) → codeAny (model prog w) A (.builtin "list.extend.loop" ⟨[.ref S, .ref z, res], []⟩) R { s0 with heap := h } := by
  have out : ∀ {b : Addr} {o : Obj}, s0.heap.get? b = some o → b ∉ [S, z, TO, i1, i2] := fun {b o} e hm => absurd (Nat.lt_of_lt_of_le (Heap.lt_size e) (hz b hm)) (Nat.lt_irrefl _)
  have not4 : ∀ {b : Addr}, b ∉ [S, z, TO, i1, i2] → b ≠ S ∧ b ≠ z ∧ b ≠ TO ∧ b ≠ i1 ∧ b ≠ i2 := fun h => by simpa using h
  have cong : ∀ {h h' : Heap} {Ts : List Addr}, Prs h s0.heap.objs.size [S, z, TO, i1, i2] Ts xs ys → (∀ b o, b ∉ [S, z, TO, i1, i2] → h.get? b = some o → h'.get? b = some o) → Prs h' s0.heap.objs.size [S, z, TO, i1, i2] Ts xs ys := fun P kp =>
    ⟨P.nd, P.nw, fun j T e => let ⟨x, y, e1, e2, p⟩ := P.ix j T e; ⟨x, y, e1, e2, kp _ _ (P.nw T (List.mem_of_getElem? e)).2 p⟩⟩
  intro m
  induction m with
  | zero =>
    intro k h acc c Ts hmk Z hS1 hacc hl P kp
    refine codeAny_builtin F.entry_extend_loop ?_
    rw [Around.under_plainId F.plain_extend_loop _]
    show wpAny _ A.in1 (pyNext (.ref z) >>= _) _ _ { s0 with heap := h }
    refine wpAny_bind (zs_end (A := A.in1) hh D Z ?_ fun h' kp' => ?_)
    · have hk : k = min xs.size ys.size := by omega
      rcases Nat.le_total xs.size ys.size with q | q
      · left; rw [Array.getElem?_eq_none]; omega
      · right; rw [Array.getElem?_eq_none]; omega
    · refine wpAny_pure (hend h' acc c Ts (kp' _ _ hS.1 hS.2.1 hS.2.2.1 hS.2.2.2 hS1) hacc (by omega) (cong P fun b o hb e => ?_) fun b o e => ?_)
      · obtain ⟨_, n1, n2, n3, n4⟩ := not4 hb
        exact kp' b o n1 n2 n3 n4 e
      · obtain ⟨_, n1, n2, n3, n4⟩ := not4 (out e)
        exact kp' b o n1 n2 n3 n4 (kp b o e)
  | succ m ih =>
    intro k h acc c Ts hmk Z hS1 hacc hl P kp
    refine codeAny_builtin F.entry_extend_loop ?_
    rw [Around.under_plainId F.plain_extend_loop _]
    show wpAny _ A.in1 (pyNext (.ref z) >>= _) _ _ { s0 with heap := h }
    have k1 : k < xs.size := by omega
    have k2 : k < ys.size := by omega
    refine wpAny_bind (zs_next (A := A.in1) (s := { s0 with heap := h }) D Z (Array.getElem?_eq_getElem k1) (Array.getElem?_eq_getElem k2) fun h' Z' p hsz kp' => ?_)
    have hS' : h'.get? S = some (lstObj acc c) := kp' _ _ hS.1 hS.2.1 hS.2.2.1 hS.2.2.2 hS1
    have hal : acc.size = k := by rw [← Array.length_toList, hacc, List.length_map, hl]
    have hT : s0.heap.objs.size ≤ h.objs.size := by
      rcases Nat.lt_or_ge h.objs.size s0.heap.objs.size with q | q
      · exact absurd (Nat.lt_of_lt_of_le (Nat.lt_of_lt_of_le (Heap.lt_size hS1) (Nat.le_of_lt q)) (hz S List.mem_cons_self)) (Nat.lt_irrefl _)
      · exact q
    have fresh : h.objs.size ∉ [S, z, TO, i1, i2] := fun hm => by
      have lt : ∀ {b : Addr} {o : Obj}, h.get? b = some o → b ≠ h.objs.size := fun e => Nat.ne_of_lt (Heap.lt_size e)
      obtain ⟨st, ti, a1, a2, t1, t2, oo, ho⟩ := Z
      obtain ⟨zo, hzo⟩ : ∃ o, h.get? z = some o := by rcases st with ⟨q, _⟩ | ⟨_, _, _, q, _⟩ <;> exact ⟨_, q⟩
      have zTO : TO < h.objs.size := Heap.lt_size ho
      obtain ⟨_, q1, _⟩ := a1
      obtain ⟨_, q2, _⟩ := a2
      simp only [List.mem_cons, List.not_mem_nil, or_false] at hm
      rcases hm with e | e | e | e | e
      · exact lt hS1 e.symm
      · exact lt hzo e.symm
      · exact Nat.ne_of_lt zTO e.symm
      · exact lt q1 e.symm
      · exact lt q2 e.symm
    show wpAny _ A.in1 (updateSeq S (·.push (.ref h.objs.size)) >>= _) _ _ { s0 with heap := h' }
    refine wpAny_bind (wpAny_updateSeq hS' rfl (wpAny_pure ⟨plainId_quiet F.plain_extend_loop _, ?_⟩) (by omega) (by show (acc.push _).size ≤ sizeLine + 1; rw [Array.size_push]; omega))
    obtain ⟨c3, hS3⟩ : ∃ c3, (h'.update S (Obj.mapSeq (·.push (.ref h.objs.size)))).get? S = some (lstObj (acc.push (.ref h.objs.size)) c3) := ⟨_, Heap.get?_update_self (Obj.mapSeq (·.push (.ref h.objs.size))) hS' rfl⟩
    have kp3 : ∀ b o, b ≠ S → h'.get? b = some o → (h'.update S (Obj.mapSeq (·.push (.ref h.objs.size)))).get? b = some o := fun b o hb e => (Heap.get?_update_other _ _ (Ne.symm hb)).trans e
    refine ih (k + 1) _ (acc.push (.ref h.objs.size)) c3 (Ts ++ [h.objs.size]) (by omega) ?_ hS3 ?_ (by rw [List.length_append, hl]; rfl) ?_ fun b o e => ?_
    · obtain ⟨st, ti, a1, a2, t1, t2, oo, ho⟩ := Z'
      have n1 : ∀ {b}, S ≠ b → b ≠ S := fun q => Ne.symm q
      refine ⟨?_, kp3 _ _ (n1 hSo.1) ti, a1.at fun o e => kp3 _ o (n1 hS.2.2.1) e, a2.at fun o e => kp3 _ o (n1 hS.2.2.2) e, t1.at fun o e => kp3 _ o (n1 hSo.2.1) e, t2.at fun o e => kp3 _ o (n1 hSo.2.2) e, oo, kp3 _ _ (n1 hS.2.1) ho⟩
      rcases st with ⟨q, a, b, p'⟩ | ⟨T, f, oT, q, hTT, m1, m2, m3⟩
      · exact .inl ⟨kp3 _ _ (n1 hS.1) q, a, b, kp3 _ _ (n1 hS.2.1) p'⟩
      · by_cases hTS : T = S
        · exact .inr ⟨T, f, _, kp3 _ _ (n1 hS.1) q, by rw [hTS]; exact hS3, m1, m2, m3⟩
        · exact .inr ⟨T, f, oT, kp3 _ _ (n1 hS.1) q, kp3 _ _ hTS hTT, m1, m2, m3⟩
    · rw [Array.toList_push, hacc, List.map_append]; rfl
    · have P' := cong P fun b o hb e => by
        obtain ⟨n0, n1, n2, n3, n4⟩ := not4 hb
        exact kp3 b o n0 (kp' b o n1 n2 n3 n4 e)
      have lt : ∀ T ∈ Ts, T < h.objs.size := fun T hm => by
        obtain ⟨j, hj⟩ := List.mem_iff_getElem?.mp hm
        obtain ⟨x, y, _, _, q⟩ := P.ix j T hj
        exact Heap.lt_size q
      refine ⟨List.nodup_append.mpr ⟨P.nd, by simp, fun a ha b hb => ?_⟩, fun T hm => ?_, fun j T hj => ?_⟩
      · rw [List.mem_singleton.mp hb]
        exact Nat.ne_of_lt (lt a ha)
      · rcases List.mem_append.mp hm with q | q
        · exact P.nw T q
        · rw [List.mem_singleton.mp q]; exact ⟨hT, fresh⟩
      · rw [List.getElem?_append] at hj
        split at hj
        · exact P'.ix j T hj
        · rename_i hjn
          have hj0 : j = k := by
            have : j - Ts.length < 1 := by
              have := (List.getElem?_eq_some_iff.mp hj).1
              simpa using this
            omega
          rw [hj0, hl, Nat.sub_self] at hj
          cases hj
          rw [hj0]
          exact ⟨_, _, Array.getElem?_eq_getElem k1, Array.getElem?_eq_getElem k2, kp3 _ _ (fun e => fresh (by rw [e]; exact List.mem_cons_self)) p⟩
    · obtain ⟨n0, n1, n2, n3, n4⟩ := not4 (out e)
      exact kp3 b o n0 (kp' b o n1 n2 n3 n4 (kp b o e))
end
end Yf
set_option Elab.async false
set_option linter.all false
set_option maxRecDepth 100000
set_option maxHeartbeats 4000000
/-! R9: list(zip(s, t)): the rule. -/
namespace Yf
open PySem PySem.Spec PyProof.Rows L2 RZ GenW

theorem zip_no_len : typeLookup (.type "zip") "__len__" = pure none := by rw [typeLookup_type, builtinLookup_eq_fast]; kernel_rfl
theorem zip_no_hint : typeLookup (.type "zip") "__length_hint__" = pure none := by rw [typeLookup_type, builtinLookup_eq_fast]; kernel_rfl
section
variable {prog : Program} {w : World} {A : Around} {E : Value → Shared → Prop} {s : Shared}
theorem call_list_zip {s0 : Shared} {h : Heap} {z TI TO i1 i2 l1 l2 : Addr} {xs ys : Array Value} {Q : Value → Shared → Prop} (hh : A.handled = none) (D : ZipApart z TI TO i1 i2 l1 l2) (Z : ZS h z TI TO i1 i2 l1 l2 xs ys 0) (hz : IsZip h z TI TO .none)
    (hlo : ∀ b ∈ [z, TO, i1, i2], s0.heap.objs.size ≤ b) (hn : xs.size ≤ sizeLine) (kp0 : ∀ b o, s0.heap.get? b = some o → h.get? b = some o) (hgrow : s0.heap.objs.size ≤ h.objs.size)
    (hQ : ∀ h' acc c Ts, h'.get? h.objs.size = some (lstObj acc c) → acc.toList = Ts.map Value.ref → Ts.length = min xs.size ys.size → Prs h' s0.heap.objs.size [h.objs.size, z, TO, i1, i2] Ts xs ys → (∀ b o, s0.heap.get? b = some o → h'.get? b = some o) →
      Q (.ref h.objs.size) { s0 with heap := h' }) : wpAny (model prog w) A (call (.type "list") [.ref z]) Q E { s0 with heap := h } := by
  have lt : ∀ {b : Addr} {o : Obj}, h.get? b = some o → b < h.objs.size := fun e => Heap.lt_size e
  have zlt : z < h.objs.size := lt hz
  have hSz : h.objs.size ≠ z := Nat.ne_of_gt zlt
  refine callType_codes (Q₁ := fun obj s₁ => obj = .ref h.objs.size ∧ s₁ = { s0 with heap := h.push { cls := .type "list", data := .seq #[] } }) F.called_list (F.typeCall_list_1 _) F.entry_list_init
    (code_list_new (s := { s0 with heap := h }) _ ⟨rfl, rfl⟩) fun obj s₁ h₁ => ?_
  obtain ⟨rfl, rfl⟩ := h₁
  have hS : (h.push { cls := .type "list", data := .seq #[] }).get? h.objs.size = some { cls := .type "list", data := .seq #[] } := Heap.get?_push_size _ rfl
  refine ⟨⟨_, hS, rfl⟩, F.args_list_init_2 _ _, ?_⟩
  show wpAny _ A.in1.in1 (do let old ← Builtin.List.listItems (.ref h.objs.size); Builtin.List.listUpdate (.ref h.objs.size) (fun _ => #[]); letGo old.toList.reverse; Builtin.List.listExtendWith (.ref h.objs.size) (.ref z) .none) _ _ _
  refine wpAny_bind ?_
  unfold Builtin.List.listItems
  refine wpAny_bind (wpAny_seqItems hS rfl (wpAny_pure ?_))
  show wpAny _ A.in1.in1 (updateSeq h.objs.size (fun _ => #[]) >>= fun _ => letGo (#[] : Array Value).toList.reverse >>= fun _ => Builtin.List.listExtendWith (.ref h.objs.size) (.ref z) .none) _ _ _
  refine wpAny_bind (wpAny_updateSeq hS rfl ?_)
  have hS2 := Heap.get?_update_self (Obj.mapSeq (fun _ => (#[] : Array Value))) hS rfl
  refine wpAny_bind (wpAny_letGo ?_)
  unfold Builtin.List.listExtendWith
  have up : ∀ (h1 : Heap) (f : Obj → Obj), (∀ b o, h.get? b = some o → h1.get? b = some o) → ∀ b o, h.get? b = some o → (h1.update h.objs.size f).get? b = some o := fun h1 f q b o e =>
    (Heap.get?_update_other _ _ (Nat.ne_of_gt (lt e))).trans (q b o e)
  have k1 : ∀ b o, h.get? b = some o → (h.push { cls := .type "list", data := .seq #[] }).get? b = some o := fun b o e => Heap.get?_push_of_some _ e
  have k2 := up _ (Obj.mapSeq (fun _ => (#[] : Array Value))) k1
  have zt : ∀ {h1 : Heap}, (∀ b o, h.get? b = some o → h1.get? b = some o) → Shared.TypeIs { s0 with heap := h1 } (.ref z) "zip" := fun q => ⟨_, q _ _ hz, rfl⟩
  refine wpAny_bind (wpAny_typeOf (zt k2) ?_)
  have h1 : Builtin.List.listSameRef (.ref h.objs.size) (.ref z) = false := by simp [Builtin.List.listSameRef, hSz]
  have h2 : (Value.type "zip" == Value.type "list") = false := by decide
  have h3 : (Value.type "zip" == Value.type "tuple") = false := by decide
  simp only [h1, h2, h3, Bool.or_false, Bool.false_eq_true, if_false]
  refine wpAny_bind (wpAny_pyIter_zip (s := { s0 with heap := _ }) (k2 _ _ hz) ?_)
  refine wpAny_bind (wpAny_holding ?_)
  unfold Builtin.List.listLengthHint
  refine wpAny_bind (wpAny_specialOf (zt k2) zip_no_len ?_)
  show wpAny _ A.in1.in1 (specialOf (Value.ref z) (Str.ofString "__length_hint__") >>= _) _ _ _
  refine wpAny_bind (wpAny_specialOf (zt k2) zip_no_hint (wpAny_pure ?_))
  show wpAny _ A.in1.in1 (rule "list.extend.makes-room" >>= fun _ => Builtin.List.listTouch (.ref h.objs.size) >>= fun _ =>
    again (.builtin "list.extend.loop" ⟨[.ref h.objs.size, .ref z, .none], []⟩)) _ _ _
  refine wpAny_bind (wpAny_rule (wpAny_bind ?_))
  show wpAny _ A.in1.in1 (updateSeq h.objs.size (·.push .none) >>= fun _ => updateSeq h.objs.size (·.pop)) _ _ _
  refine wpAny_bind (wpAny_updateSeq hS2 rfl ?_)
  have hS3 := Heap.get?_update_self (Obj.mapSeq (·.push Value.none)) hS2 rfl
  refine wpAny_updateSeq (hz := by seq_fits) hS3 rfl ?_
  have hS4 := Heap.get?_update_self (Obj.mapSeq (·.pop)) hS3 rfl
  have k4 := up _ (Obj.mapSeq (·.pop)) (up _ (Obj.mapSeq (·.push Value.none)) k2)
  refine wpAny_pure ⟨plainId_quiet F.plain_extend_loop _, ?_⟩
  obtain ⟨st, ti, ⟨o1, q1, _⟩, ⟨o2, q2, _⟩, ⟨o3, q3, _⟩, ⟨o4, q4, _⟩, oo, ho⟩ := id Z
  refine drainZ (s0 := s0) (A := A.in1) hh D (fun b hb => ?_) ⟨hSz, Nat.ne_of_gt (lt ho), Nat.ne_of_gt (lt q1), Nat.ne_of_gt (lt q2)⟩ ⟨Nat.ne_of_gt (lt ti), Nat.ne_of_gt (lt q3), Nat.ne_of_gt (lt q4)⟩ hn
    (fun h' acc c Ts a1 a2 a3 a4 a5 => ⟨rfl, hQ h' acc c Ts a1 a2 a3 a4 a5⟩) (min xs.size ys.size) 0 _ #[] _ [] rfl (Z.keep k4) hS4 rfl rfl ⟨List.nodup_nil, fun T hT => (by cases hT), fun j T hT => (by simp at hT)⟩ fun b o e => k4 b o (kp0 b o e)
  rcases List.mem_cons.mp hb with e | e
  · rw [e]; exact hgrow
  · exact hlo b e
end
section
variable {X : Cx}
def tListZip (K : PySem.W.Frag) (ta : TA) : TE := fun σ H Q => ta σ H fun vs H1 => ∃ a b xs ys, vs = [V.ref a, V.ref b] ∧ SqT K H1 a xs ∧ SqT K H1 b ys ∧
  ∀ (H' : Hp) (p : Addr) (Ts : List Addr), Same H1 H' → H1 p = none → (∀ T ∈ Ts, H1 T = none) → H' p = some (.lst (Ts.map V.ref)) → Paired (fun T (q : V × V) => H' T = some (.tup [q.1, q.2])) Ts (xs.zip ys) → Q (.ref p) H'
theorem paired_ix {α β : Type} {F : α → β → Prop} : ∀ {l₁ : List α} {l₂ : List β}, l₁.length = l₂.length → (∀ (j : Nat) a b, l₁[j]? = some a → l₂[j]? = some b → F a b) → Paired F l₁ l₂
  | [], [], _, _ => .nil
  | [], _ :: _, h, _ => by simp at h
  | _ :: _, [], h, _ => by simp at h
  | a :: l₁, b :: l₂, h, f => .cons (f 0 a b rfl rfl) (paired_ix (by simpa using h) fun j x y e1 e2 => f (j + 1) x y (by simpa using e1) (by simpa using e2))
theorem pe_listZip {e1 e2 : Expr} {ta : TA} {p p2 pos pos2 : Pos} (hc : X.calm = true) (hgl : Gl X "list") (hml : X.mg "list" = none) (hg : Gl X "zip") (hm : X.mg "zip" = none) (ha : PA X [e1, e2] ta)
    (hs : starEach [e1, e2] X.env = (false, eval e1 X.env) :: starEach [e2] X.env := by rfl) (hpl : (backTo pos2 (starEach [e2] X.env)).any (·.1) = false := by rfl)
    (na : starEach [.Call (.Name "zip" p2) [e1, e2] [] pos2] X.env = (false, eval (.Call (.Name "zip" p2) [e1, e2] [] pos2) X.env) :: starEach [] X.env := by rfl) :
    PE X (.Call (.Name "list" p) [.Call (.Name "zip" p2) [e1, e2] [] pos2] [] pos) (tListZip X.K ta) := by
  refine ⟨fun pins s σ H Q I h => ?_⟩
  refine Call_ (ld_blt I hgl hml boot_list (PyProof.Rows.callWith_type1 (args_cons ?_ na) na))
  refine Call_ (ld_blt I hg hm PyProof.Rows.boot_zip (PyProof.Rows.callWith_type1 (thn (ha.run pos2 pins s σ H _ I h) fun us s1 ⟨vs, H1, I1, r1, q1⟩ => ?_) hs hpl))
  obtain ⟨a, b, xs, ys, rfl, hqx, hqy, q⟩ := q1
  obtain ⟨u1, u2, rfl, ra, rb⟩ := vals2 r1
  obtain rfl : u1 = Value.ref a := ra
  obtain rfl : u2 = Value.ref b := rb
  obtain ⟨its, rv, p1, hz1⟩ := I1.tuple hqx
  obtain ⟨its2, rv2, p2', hz2⟩ := I1.tuple hqy
  obtain ⟨o1, ho1, _⟩ := id p1
  obtain ⟨o2, ho2, _⟩ := id p2'
  have T1 : s1.heap.IsTuple a its.toArray := p1
  have T2 : s1.heap.IsTuple b its2.toArray := p2'
  refine call_zipT T1 T2 fun h' hz hTI hTO h1 h2 hsz hk => args_nil ?_
  have D := zipApart_new (n := s1.heap.objs.size) (Heap.lt_size ho1) (Heap.lt_size ho2)
  have Z : ZS h' (s1.heap.objs.size + 4) (s1.heap.objs.size + 2) (s1.heap.objs.size + 3) s1.heap.objs.size (s1.heap.objs.size + 1) a b its.toArray its2.toArray 0 :=
    ⟨.inl ⟨hz, _, _, hTO⟩, hTI, h1, h2, T1.at fun o e => hk _ o e, T2.at fun o e => hk _ o e, _, hTO⟩
  have hln : its.toArray.size ≤ sizeLine := by rw [List.size_toArray, ← rv.length]; exact hz1
  refine call_list_zip (s0 := s1) (I1.ok.hd hc) D Z hz (fun c hcm => ?_) hln hk (by omega) fun h2 acc c Ts hS hacc hlen P kp => ?_
  · have e' : c = s1.heap.objs.size + 4 ∨ c = s1.heap.objs.size + 3 ∨ c = s1.heap.objs.size ∨ c = s1.heap.objs.size + 1 := by simpa using hcm
    rcases e' with e | e | e | e <;> rw [e]
    · exact Nat.le_add_right _ _
    · exact Nat.le_add_right _ _
    · exact Nat.le_refl _
    · exact Nat.le_add_right _ _
  · have hp0 : s1.heap.objs.size ≤ h'.objs.size := by omega
    have hvl : (Ts.map V.ref).length ≤ sizeLine := by rw [List.length_map, hlen]; omega
    have fp : H1 h'.objs.size = none := I1.hok.fresh hp0
    have rvT : Vals (Ts.map V.ref) acc.toList := by rw [hacc]; exact vals_refs Ts
    have I2 : Inv X pins σ (upd H1 h'.objs.size (.lst (Ts.map V.ref))) { s1 with heap := h2 } := I1.laid (t' := s1.toks) kp hp0 ⟨hvl, acc.toList, c, rvT, by rw [Array.toArray_toList]; exact hS⟩
    have hTn : ∀ T ∈ Ts, T ≠ h'.objs.size := fun T hT e => (P.nw T hT).2 (by rw [e]; exact List.mem_cons_self)
    obtain ⟨H3, I3, g, qt⟩ := DX.takeT (tk := s1.toks) (P := fun T vs => ∀ j, Ts[j]? = some T → ∃ x y, xs[j]? = some x ∧ ys[j]? = some y ∧ vs = [x, y]) I1 Ts _ I2 P.nd fun T hT => by
      obtain ⟨j, hj⟩ := List.mem_iff_getElem?.mp hT
      obtain ⟨u, v, e1, e2, pr⟩ := P.ix j T hj
      obtain ⟨x, ex, rx⟩ : ∃ x, xs[j]? = some x ∧ RelV x u := by
        have hj1 : j < its.length := by simpa using (Array.getElem?_eq_some_iff.mp e1).1
        have hjx : j < xs.length := by rw [rv.length]; exact hj1
        obtain ⟨u', hu', r'⟩ := rv.get (i := j) (x := xs[j]) (List.getElem?_eq_getElem hjx)
        have : u' = u := by
          have e3 : its[j]? = some u := by simpa using e1
          rw [hu'] at e3; exact Option.some.inj e3
        exact ⟨xs[j], List.getElem?_eq_getElem hjx, this ▸ r'⟩
      obtain ⟨y, ey, ry⟩ : ∃ y, ys[j]? = some y ∧ RelV y v := by
        have hj1 : j < its2.length := by simpa using (Array.getElem?_eq_some_iff.mp e2).1
        have hjx : j < ys.length := by rw [rv2.length]; exact hj1
        obtain ⟨u', hu', r'⟩ := rv2.get (i := j) (x := ys[j]) (List.getElem?_eq_getElem hjx)
        have : u' = v := by
          have e3 : its2[j]? = some v := by simpa using e2
          rw [hu'] at e3; exact Option.some.inj e3
        exact ⟨ys[j], List.getElem?_eq_getElem hjx, this ▸ r'⟩
      refine ⟨(P.nw T hT).1, by rw [upd_ne (hTn T hT)]; exact I1.hok.fresh (P.nw T hT).1, [x, y], fun j' hj' => ?_, fun H2 => ⟨by rw [sizeLine_eq]; show 2 ≤ 16777216; omega, [u, v], .cons rx (.cons ry .nil), ⟨_, pr, rfl, 0, rfl⟩⟩⟩
      have : j' = j := (List.getElem?_inj (List.getElem?_eq_some_iff.mp hj').1 P.nd).mp (hj'.trans hj.symm)
      subst this
      exact ⟨x, y, ex, ey, rfl⟩
    refine ⟨.ref h'.objs.size, H3, I3, rfl, q H3 h'.objs.size Ts (fun c o e => g c o (by rw [upd_ne (ne_of_none e fp)]; exact e)) fp (fun T hT => I1.hok.fresh (P.nw T hT).1) (g _ _ upd_same) (paired_ix ?_ fun j T xy e1 e2 => ?_)⟩
    · rw [hlen, List.length_zip, List.size_toArray, List.size_toArray, ← rv.length, ← rv2.length]
    · obtain ⟨vs, hv, hH⟩ := qt T (List.mem_of_getElem? e1)
      obtain ⟨x, y, ex, ey, rfl⟩ := hv j e1
      have e3 := List.getElem?_zip_eq_some.mp e2
      rw [ex, ey] at e3
      obtain ⟨c1, c2⟩ := e3
      cases c1
      cases c2
      exact hH
end
end Yf
set_option Elab.async false
set_option linter.all false
set_option maxRecDepth 100000
set_option maxHeartbeats 2000000
/-! R10: tuples that are known to have no dict (locked from the start): how they are made, how a method of theirs is called. -/
namespace Yf
open PySem PySem.Spec PyProof.Rows L2

/-- at b stands a tuple of xs, an object without a dict -/
def FTv (H : Hp) (b : Addr) (xs : List V) : Prop := ∃ o, H b = some (.frz o (.tup xs)) ∧ o.dict = none
theorem FTv.sq {K : PySem.W.Frag} {H : Hp} {b : Addr} {xs : List V} (f : FTv H b xs) : SqT K H b xs := let ⟨o, h, _⟩ := f; .inl (.inr ⟨o, h⟩)
theorem FTv.same {H H' : Hp} {b : Addr} {xs : List V} (f : FTv H b xs) (s : Same H H') : FTv H' b xs := let ⟨o, h, d⟩ := f; ⟨o, s _ _ h, d⟩
section
variable {X : Cx}
/-- the making of one: the object is a plain tuple -/
theorem Inv.laidF {pins : List (Addr × Obj)} {σ : L2.St} {H : Hp} {s : Shared} {h' : Heap} {t' : Tok} {b : Addr} {xs : List V} {its : List Value} {n : Nat} (I : Inv X pins σ H s) (kp : ∀ c o, s.heap.get? c = some o → h'.get? c = some o) (hb : s.heap.objs.size ≤ b)
    (hl : xs.length ≤ sizeLine) (rv : Vals xs its) (ho : h'.get? b = some { cls := .type "tuple", data := .seq its.toArray n }) : ∃ o, o.dict = none ∧ Inv X pins σ (upd H b (.frz o (.tup xs))) { s with heap := h', toks := t' } :=
  ⟨_, rfl, I.laid (t' := t') kp hb ⟨ho, hl, its, rv, ⟨_, ho, rfl, n, rfl⟩⟩⟩
/-- (a, b, ..) -/
def tTupF (t : TA) : TE := fun σ H Q => t σ H fun xs H1 => xs.length ≤ sizeLine ∧ ∀ p o, H1 p = none → o.dict = none → Q (.ref p) (upd H1 p (.frz o (.tup xs)))
theorem pe_tupF {es : List Expr} {t : TA} {x1 : Nat} {pos : Pos} (h : PA X es t) : PE X (.Tuple es x1 pos) (tTupF t) := by
  refine ⟨fun pins s σ H Q I hq => ?_⟩
  refine wpAny_Tuple_spliced (thn (h.run pos pins s σ H _ I hq) fun us s1 ⟨xs, H1, I1, r, z, q⟩ => ⟨by rw [← r.length]; exact z, ?_⟩)
  obtain ⟨o, hd, I2⟩ := Inv.laidF (t' := s1.toks) (h' := s1.heap.push { cls := .type "tuple", data := .seq us.toArray }) I1 (fun b u e => Heap.get?_push_of_some _ e) (Nat.le_refl _) z r (Heap.get?_push_size _ rfl)
  exact ⟨.ref s1.heap.objs.size, _, I2, rfl, q _ o (I1.hok.fresh (Nat.le_refl _)) hd⟩
/-- s + t, neither empty -/
def rCatF (K : PySem.W.Frag) : R2 := fun x y H Q => ∃ a b xs ys, x = V.ref a ∧ y = V.ref b ∧ SqT K H a xs ∧ SqT K H b ys ∧ xs ≠ [] ∧ ys ≠ [] ∧ xs.length + ys.length ≤ sizeLine ∧ ∀ p o, H p = none → o.dict = none → Q (.ref p) (upd H p (.frz o (.tup (xs ++ ys))))
theorem op_catF : OpR X (binaryOp .Add) (rCatF X.K) := by
  intro pins s σ H x y v u Q I rx ry h
  obtain ⟨a, b, xs, ys, rfl, rfl, ha, hb, hx, hy, hz, q⟩ := h
  cases rx
  cases ry
  obtain ⟨its, r1, p1, _⟩ := I.tuple ha
  obtain ⟨its2, r2, p2, _⟩ := I.tuple hb
  refine HT.cat_tup p1 p2 (fun z => hx (r1.nil_iff.mp z)) (fun z => absurd (r2.nil_iff.mp z) hy) (fun z => ?_) (by rw [← r1.length, ← r2.length]; exact hz)
  obtain ⟨o, hd, I2⟩ := Inv.laidF (t' := s.toks) (xs := xs ++ ys) (its := its ++ its2) (n := 0) (h' := s.heap.push { cls := .type "tuple", data := .seq (its ++ its2).toArray }) I (fun b u e => Heap.get?_push_of_some _ e) (Nat.le_refl _) (by rw [List.length_append]; exact hz) (r1.append r2) (Heap.get?_push_size _ rfl)
  have e : its.toArray ++ its2.toArray = (its ++ its2).toArray := by simp
  first
    | exact ⟨.ref s.heap.objs.size, _, I2, rfl, q _ o (I.hok.fresh (Nat.le_refl _)) hd⟩
    | (rw [e]; exact ⟨.ref s.heap.objs.size, _, I2, rfl, q _ o (I.hok.fresh (Nat.le_refl _)) hd⟩)
/-- tuple(range(a, b)) -/
def tTupRgF (te : L2.St → Hp → (Int → Int → Hp → Prop) → Prop) : TE := fun σ H Q => te σ H fun a b H1 => RgOk a b ∧ ∀ q o, H1 q = none → o.dict = none → Q (.ref q) (upd H1 q (.frz o (.tup (rgV a b))))
theorem pe_tupRgF {e : Expr} {te : L2.St → Hp → (Int → Int → Hp → Prop) → Prop} {p pos : Pos} (hc : X.calm = true) (hg : Gl X "tuple") (hm : X.mg "tuple" = none) (he : PRg X e te) (na : starEach [e] X.env = (false, eval e X.env) :: starEach [] X.env := by rfl) : PE X (.Call (.Name "tuple" p) [e] [] pos) (tTupRgF te) := by
  refine ⟨fun pins s σ H Q I h => ?_⟩
  refine Call_ (ld_blt I hg hm boot_tuple (PyProof.Rows.callWith_type1 (args_cons (thn (he pins s σ H _ I h) fun x s1 ⟨r, a, b, t, u, v, H1, ex, hr, I1, ok, q⟩ => args_nil ?_) na) na))
  subst ex
  obtain ⟨b1, b2, b3, b4, b5⟩ := ok
  refine call_tuple_range (n := (b - a).toNat) (I1.ok.hd hc) hr (small_one b1 b2 b3 b4) (rangeSize_nat a b) b5 fun h' tk acc hk hi => ?_
  have I2 : Inv X pins σ H1 { s1 with heap := h', toks := tk } := I1.kept hk
  obtain ⟨o, hd, I3⟩ := Inv.laidF (t' := tk) (n := 0) (h' := h'.push { cls := .type "tuple", data := .seq acc }) I2 (fun c o e => Heap.get?_push_of_some _ e) (Nat.le_refl _) (by rw [rgV_length, sizeLine_eq]; omega) (vals_rg hi) (by rw [Array.toArray_toList]; exact Heap.get?_push_size _ rfl)
  exact ⟨.ref h'.objs.size, _, I3, rfl, q _ o (I2.hok.fresh (Nat.le_refl _)) hd⟩
/-- the call of a method of such a tuple -/
def tBMF (r : V → List V → Hp → VK → Prop) (to : TE) (t : TA) : TE := fun σ H Q => to σ H fun x H1 => (∃ a xs, x = V.ref a ∧ FTv H1 a xs) ∧ t σ H1 fun xs H2 => r x xs H2 Q
theorem pe_bmF {o e : Expr} {es : List Expr} {to : TE} {t : TA} {name : Str} {apos cpos : Pos} {id : String} {r : V → List V → Hp → VK → Prop} (pa : PlainAttrs "tuple") (slot : Slot "tuple" name id) (hty : typeOf (.builtin id) = pure (.type "method_descriptor")) (hm : MtR X id r) (ho : PE X o to) (ha : PA X (e :: es) t)
    (hbase : attributeBase o name X.env (eval o X.env) = eval o X.env := by rfl)
    (hfew : ((backTo cpos (starEach (e :: es) X.env)).all (fun x => !x.1) && (backToKw cpos (keywordEach [] X.env)).all (fun x => x.1.isSome)
      && decide ((e :: es).length + ([] : List Keyword).length + (if ([] : List Keyword).isEmpty then 0 else 1) < 30)) = true := by rfl)
    (hline : (apos.endLine == cpos.line) = true := by rfl) (hs : starEach (e :: es) X.env = (false, eval e X.env) :: starEach es X.env := by rfl) (hplain : (backTo cpos (starEach es X.env)).any (·.1) = false := by rfl) :
    PE X (.Call (.Attribute o name apos) (e :: es) [] cpos) (tBMF r to t) := by
  refine ⟨fun pins s σ H Q I h => ?_⟩
  refine wpAny_Call_method_late hbase hfew hline rfl (thn (ho.run pins s σ H _ I h) fun v s1 ⟨x, H1, I1, r1, ⟨a, xs, ex, f⟩, q1⟩ => ?_)
  subst ex
  obtain rfl : v = Value.ref a := r1
  obtain ⟨ob, hob, hd⟩ := f
  obtain ⟨he, _, its, _, ob', he', hc', _⟩ := (show ObjOk X.prog X.w H1 s1.heap a (.frz ob (.tup xs)) from I1.hok a _ hob)
  rw [he] at he'
  cases he'
  refine ⟨"tuple", id, pa, slot, hty, ⟨ob, he, hc'⟩, fun b e => by cases e; exact ⟨ob, he, hd⟩, ?_⟩
  have hA := ha.run cpos pins s1 σ H1 _ I1 q1
  rw [hs] at hA ⊢
  refine Calls.callWith_builtin (by show (false || (backTo cpos (starEach es X.env)).any (·.1)) = false; rw [hplain] <;> rfl) (Calls.evalArgs_plain ?_)
  exact thn hA fun us s2 ⟨vs, H2, I2, r2, q2⟩ => hm pins s2 σ H2 (V.ref a) vs (.ref a) us Q I2 rfl r2 q2
end
end Yf
set_option Elab.async false
set_option linter.all false
set_option maxRecDepth 100000
set_option maxHeartbeats 2000000
/-! R11: a dict whose keys are such tuples of ints, its values True. -/
namespace Yf
open PySem PySem.Spec PyProof.Rows L2

def kdX (xs : List (List Int × Addr)) : List (List Key × Addr × Value) := xs.map fun p => (p.1.map Sum.inl, p.2, .bool true)
theorem kdX_keys (xs : List (List Int × Addr)) : (kdX xs).map (·.1) = (xs.map (·.1)).map fun r => r.map Sum.inl := by simp [kdX, List.map_map, Function.comp_def]
theorem mapInl_inj {r q : List Int} (h : r.map (Sum.inl : Int → Key) = q.map Sum.inl) : r = q := by
  induction r generalizing q with
  | nil => cases q with
    | nil => rfl
    | cons b q => cases h
  | cons a r ih => cases q with
    | nil => cases h
    | cons b q =>
      simp only [List.map_cons, List.cons.injEq, Sum.inl.injEq] at h
      rw [h.1, ih h.2]
/-- the dict at a, entry by entry -/
def KDp (P : Program) (w : World) (a : Addr) (xs : List (List Int × Addr)) (h : Heap) : Prop :=
  ∃ o es ep, h.get? a = some o ∧ o.ExactDict ∧ o.data = .dict es ep ∧ es.toList = (kdX xs).map (entryOfKey (tupleKind (mixKind P w))) ∧ (xs.map (·.1)).Nodup ∧ (a == sysModules) = false ∧ xs.length ≤ sizeLine
def KD (P : Program) (w : World) (a : Addr) (xs : List (List Int × Addr)) : HO := .ext (KDp P w a xs)
theorem kd_ok {P : Program} {w : World} {a : Addr} {xs : List (List Int × Addr)} {H : Hp} {h : Heap} (k : KDp P w a xs h) : ObjOk P w H h a (KD P w a xs) :=
  ⟨k, let ⟨o, _, _, e, _⟩ := k; ⟨o, e⟩, fun h1 h2 ⟨o, es, ep, e, r⟩ kp => ⟨o, es, ep, kp o e, r⟩⟩
/-- the tuples of the keys -/
def FT (H : Hp) (b : Addr) (r : List Int) : Prop := FTv H b (r.map V.int)
theorem _root_.L2.Same.ft {H H' : Hp} (s : Same H H') {b : Addr} {r : List Int} (f : FT H b r) : FT H' b r := FTv.same f s
theorem FT.ne {H : Hp} {a b : Addr} {r : List Int} {o : HO} (f : FT H b r) (h : H a = some o) (hn : ∀ u v, o ≠ .frz u v) : b ≠ a := fun e => by
  obtain ⟨u, hu, _⟩ := f
  rw [e, h] at hu
  exact hn _ _ (Option.some.inj hu)
section
variable {X : Cx} {pins : List (Addr × Obj)} {σ : L2.St} {H : Hp} {s : Shared}
theorem key_sq {b : Addr} {r : List Int} (I : Inv X pins σ H s) (h : SqT X.K H b (r.map V.int)) : (tupleKind (mixKind X.prog X.w)).is s.heap (r.map Sum.inl) b := by
  obtain ⟨its, rv, ⟨o, h1, h2, n, h3⟩, _⟩ := I.tuple h
  have rv' : Vals ((r.map (Sum.inl : Int → Key)).map kV) its := by rw [List.map_map]; exact rv
  exact ⟨o, its.toArray, n, h1, h2, h3, by simpa using items_are rv'⟩
/-- the keys' tuples stand -/
abbrev Keys (H : Hp) (xs : List (List Int × Addr)) : Prop := ∀ p ∈ xs, FT H p.2 p.1
theorem kd_dict {a : Addr} {xs : List (List Int × Addr)} (I : Inv X pins σ H s) (k : KDp X.prog X.w a xs s.heap) (ks : Keys H xs) : s.heap.DictOfH (tupleKind (mixKind X.prog X.w)) a (kdX xs) := by
  obtain ⟨o, es, ep, e, hx, hd, he, hn, _⟩ := k
  refine ⟨o, es, ep, e, hx, hd, he, fun x hm => ?_, ?_⟩
  · obtain ⟨p, hp, rfl⟩ := List.mem_map.mp hm
    exact key_sq I (FTv.sq (ks p hp))
  · rw [kdX_keys]
    exact List.Pairwise.map _ (fun {a b} (hne : a ≠ b) => fun z => hne (mapInl_inj z)) hn
theorem kd_at {xs : List (List Int × Addr)} {r : List Int} : (atKey (kdX xs) (r.map Sum.inl)).isSome = decide (r ∈ xs.map (·.1)) := by
  induction xs with
  | nil => rfl
  | cons p xs ih =>
    have e : atKey (kdX (p :: xs)) (r.map Sum.inl) = if (p.1.map Sum.inl : List Key) = r.map Sum.inl then some (p.2, .bool true) else atKey (kdX xs) (r.map Sum.inl) := by
      unfold atKey kdX
      simp only [List.map_cons, List.find?_cons]
      by_cases h : (p.1.map Sum.inl : List Key) = r.map Sum.inl
      · rw [if_pos h]; simp [h]
      · rw [if_neg h]; simp [h]
    rw [e]
    by_cases h : p.1 = r
    · rw [if_pos (by rw [h])]
      simp [h]
    · rw [if_neg (fun z => h (mapInl_inj z)), ih]
      simp [List.mem_cons, Ne.symm h, eq_comm]
      try (intro z; exact absurd z.symm h)
/-- an entry more, where the key is new -/
def addK (xs : List (List Int × Addr)) (r : List Int) (b : Addr) : List (List Int × Addr) := if r ∈ xs.map (·.1) then xs else xs ++ [(r, b)]
theorem kd_stored (xs : List (List Int × Addr)) (r : List Int) (b : Addr) : storedH (kdX xs) (r.map Sum.inl) b (.bool true) = kdX (addK xs r b) := by
  unfold storedH addK
  rw [kd_at]
  by_cases h : r ∈ xs.map (·.1)
  · rw [if_pos h, decide_eq_true h, if_pos rfl]
    unfold kdX
    rw [List.map_map]
    refine List.map_congr_left fun p _ => ?_
    show (if (p.1.map Sum.inl : List Key) = r.map Sum.inl then _ else _) = _
    split <;> rfl
  · rw [if_neg h, decide_eq_false h, if_neg Bool.false_ne_true]
    unfold kdX
    rw [List.map_append]
    rfl
theorem addK_le (xs : List (List Int × Addr)) (r : List Int) (b : Addr) : (addK xs r b).length ≤ xs.length + 1 := by
  unfold addK
  split
  · omega
  · simp
/-- d[t] = True -/
def rSetKD (P : Program) (w : World) (K : PySem.W.Frag) : TSet := fun o i v H Q => ∃ a xs b r, o = V.ref a ∧ i = V.ref b ∧ v = V.bl true ∧ H a = some (KD P w a xs) ∧ Keys H xs ∧ SqT K H b (r.map V.int) ∧ xs.length < sizeLine ∧ Q (upd H a (KD P w a (addK xs r b)))
theorem set_KD (hu : X.A.units + 1 < cLine) : PSet X (rSetKD X.prog X.w X.K) := by
  intro pins s σ H o i v ov iv u Q I ro ri rv h
  obtain ⟨a, xs, b, r, rfl, rfl, rfl, ha, hk, hb, hz, q⟩ := h
  obtain rfl : ov = Value.ref a := ro
  obtain rfl : iv = Value.ref b := ri
  obtain rfl : u = Value.bool true := rv
  have k : KDp X.prog X.w a xs s.heap := (show ObjOk X.prog X.w H s.heap a (KD X.prog X.w a xs) from I.hok a _ ha).1
  have hsys : (a == sysModules) = false := let ⟨_, _, _, _, _, _, _, _, z, _⟩ := k; z
  have hlen : (kdX xs).length ≤ sizeLine := by unfold kdX; rw [List.length_map]; omega
  refine wpAny_setItem_heap (hsz := hlen) (tupleKind_room_in1 hu) (key_sq I hb) (kd_dict I k hk) fun h' dd' hs => ?_
  rw [kd_stored] at dd'
  obtain ⟨q', es, ep, hq, h2, h3, h4, _, h5⟩ := dd'
  have new : KDp X.prog X.w a (addK xs r b) h' := by
    refine ⟨q', es, ep, hq, h2, h3, h4, ?_, hsys, by have := addK_le xs r b; omega⟩
    rw [kdX_keys] at h5
    exact List.Pairwise.imp (fun {x y} hne e => hne (by rw [e])) (List.pairwise_map.mp h5)
  exact ⟨_, d_write I (by rw [ha]; exact True.intro) hs ⟨q', hq⟩ (kd_ok new), q⟩
/-- {} -/
def tDNewKD (P : Program) (w : World) : TE := fun _ H Q => ∀ p, H p = none → Q (.ref p) (upd H p (KD P w p []))
theorem pe_dnewKD {pos : Pos} : PE X (.Dict [] [] pos) (tDNewKD X.prog X.w) := by
  refine ⟨fun pins s σ H Q I h => ?_⟩
  refine wpAny_Dict_empty ⟨.ref s.heap.objs.size, _, I.laid (a := s.heap.objs.size) (o := KD X.prog X.w s.heap.objs.size []) (t' := s.toks) (fun _ _ q => Heap.get?_push_of_some _ q) (Nat.le_refl _) (kd_ok ?_), rfl, h _ (I.hok.fresh (Nat.le_refl _))⟩
  obtain ⟨_, hsys, xs, pr, o, es, ep, e, hx, hd, he, _⟩ := (show ObjOk X.prog X.w H (s.heap.push { cls := .type "dict", data := .dict #[] }) s.heap.objs.size (.dT []) from dt_empty s.heap I.big)
  cases pr
  exact ⟨o, es, ep, e, hx, hd, he, List.nodup_nil, hsys, Nat.zero_le _⟩
/-- the dict, locked or not -/
def HasKD (P : Program) (w : World) (H : Hp) (a : Addr) (xs : List (List Int × Addr)) : Prop := H a = some (KD P w a xs) ∨ ∃ o, H a = some (.frz o (KD P w a xs))
theorem HasKD.get {a : Addr} {xs : List (List Int × Addr)} (I : Inv X pins σ H s) (h : HasKD X.prog X.w H a xs) : KDp X.prog X.w a xs s.heap := by
  rcases h with h | ⟨o, h⟩
  · exact (show ObjOk X.prog X.w H s.heap a (KD X.prog X.w a xs) from I.hok a _ h).1
  · exact (show ObjOk X.prog X.w H s.heap a (.frz o (KD X.prog X.w a xs)) from I.hok a _ h).2.1
def rInKD (P : Program) (w : World) (K : PySem.W.Frag) (neg : Bool) : R2 := fun x y H Q => ∃ a xs b r, x = V.ref b ∧ y = V.ref a ∧ HasKD P w H a xs ∧ Keys H xs ∧ SqT K H b (r.map V.int) ∧ Q (.bl (if neg = true then !decide (r ∈ xs.map (·.1)) else decide (r ∈ xs.map (·.1)))) H
theorem op_notInKD (hu : X.A.units + 1 < cLine) : OpR X (compareOp .NotIn) (rInKD X.prog X.w X.K true) := by
  intro pins s σ H x y v u Q I rx ry h
  obtain ⟨a, xs, b, r, rfl, rfl, ha, hk, hb, q⟩ := h
  obtain rfl : v = Value.ref b := rx
  obtain rfl : u = Value.ref a := ry
  have k := HasKD.get I ha
  have hsys : (a == sysModules) = false := let ⟨_, _, _, _, _, _, _, _, z, _⟩ := k; z
  refine wpAny_notIn_heap (tupleKind_room_in1 hu) (key_sq I hb) hsys (kd_dict I k hk) ?_
  rw [kd_at]
  exact ⟨.bl (!decide (r ∈ xs.map Prod.fst)), H, I.tok _, rfl, q⟩
/-- the keys of the locked dict -/
def Itf (P : Program) (w : World) (d : Addr) (o : Obj) (xs : List (List Int × Addr)) : It :=
  ⟨fun i H => H d = some (.frz o (KD P w d xs)) ∧ i < xs.length, fun i H x H' => H' = H ∧ ∃ p, xs[i]? = some p ∧ x = .ref p.2, fun i H => H d = some (.frz o (KD P w d xs)) ∧ xs.length ≤ i⟩
theorem kd_frz {d : Addr} {o : Obj} {xs : List (List Int × Addr)} (I : Inv X pins σ H s) (h : H d = some (.frz o (KD X.prog X.w d xs))) :
    (d == sysModules) = false ∧ s.heap.get? d = some o ∧ o.ExactDict ∧ ∃ (es : Array DictEntry) (ep : Nat), o.data = .dict es ep ∧ es.size = xs.length ∧ ∀ (i : Nat) (p : List Int × Addr), xs[i]? = some p → ∃ en : DictEntry, es[i]? = some en ∧ en.key = .ref p.2 := by
  obtain ⟨hd, ⟨o', es, ep, e, hx, hdt, he, _, hsys, _⟩, _⟩ := (show ObjOk X.prog X.w H s.heap d (.frz o (KD X.prog X.w d xs)) from I.hok d _ h)
  rw [hd] at e
  cases e
  have l1 : es.size = (kdX xs).length := size_of_entries he
  refine ⟨hsys, hd, hx, es, ep, hdt, by rw [l1]; unfold kdX; rw [List.length_map], fun i p hp => ?_⟩
  have q := entry_at he i
  have e2 : (kdX xs)[i]? = some (p.1.map Sum.inl, p.2, .bool true) := by unfold kdX; rw [List.getElem?_map, hp]; rfl
  rw [e2] at q
  exact ⟨_, q, rfl⟩
end
theorem turn_KD {P : Program} {w : World} {K : PySem.W.Frag} {tg : Expr} {d : Addr} {o : Obj} {es : Array DictEntry} {ep : Nat} {xs : List (List Int × Addr)} (it : Addr) (hod : o.data = .dict es ep) :
    Turn P w K tg (Itf P w d o xs) [it] it (fun i h => h.IsKeyIter it d i xs.length ep) where
  mem := List.mem_singleton.mpr rfl
  obj := fun i h st b hb => by
    rw [List.mem_singleton.mp hb]
    obtain ⟨oi, e, c, dd⟩ := st
    exact ⟨oi, e, fun v z => by rw [dd] at z; cases z⟩
  keep := fun i h h' st k => st.at fun oi e => k it (List.mem_singleton.mpr rfl) oi e
  item := by
    intro X hP hw hK hc i pins s σ H E I hf st hg
    subst hP hw hK
    obtain ⟨hd, hi⟩ := hg
    obtain ⟨f0, f1, f2, f3, f4, f5⟩ := hf it (List.mem_singleton.mpr rfl)
    obtain ⟨hs, hgd, hx, es', ep', hdt, hsz, ent⟩ := kd_frz I hd
    obtain ⟨rfl, rfl⟩ := dict_ep hod hdt
    obtain ⟨en, hen, hkey⟩ := ent i xs[i] (List.getElem?_eq_getElem hi)
    refine next_key_item st hgd hdt hsz hen fun h' st' sb => ?_
    have I1 : Inv X pins σ H { s with heap := h' } := I.turned (t' := s.toks) (fun b ob hb e => (sb.2 b hb).trans e) f0 f1 f3 f4 f5
    obtain ⟨oi, e, c, dd⟩ := id st'
    exact ⟨en.key, rfl, go_of (s := { s with heap := h' }) e c dd (by decide) ⟨.ref xs[i].2, H, I1, hkey, ⟨rfl, xs[i], List.getElem?_eq_getElem hi, rfl⟩, st', fun b hb => (hf b hb).1⟩⟩
  done := by
    intro X hP hw hK hc i pins s σ H E I hf st hg
    subst hP hw hK
    obtain ⟨hd, hi⟩ := hg
    obtain ⟨f0, f1, f2, f3, f4, f5⟩ := hf it (List.mem_singleton.mpr rfl)
    obtain ⟨hs, hgd, hx, es', ep', hdt, hsz, ent⟩ := kd_frz I hd
    obtain ⟨rfl, rfl⟩ := dict_ep hod hdt
    exact next_key_end (I.ok.hd hc) st hgd hdt hsz hi fun h' eb => ⟨rfl, I.turned (t' := s.toks) (fun b ob hb e => eb b ob hb e) f0 f1 f3 f4 f5⟩
  self := fun A i s Q E st h => wpAny_pyIter_keyiter st h
section
variable {X : Cx}
def iKD (P : Program) (w : World) (td : TE) : TI := fun σ H R => td σ H fun x H1 => ∃ d o xs, x = V.ref d ∧ H1 d = some (.frz o (KD P w d xs)) ∧ R (Itf P w d o xs) H1
theorem pi_KD {tg e : Expr} {td : TE} (he : PE X e td) : PI X tg e (iKD X.prog X.w td) := by
  refine ⟨fun pins s σ H R I h => thn (he.run pins s σ H _ I h) fun u s1 ⟨x, H1, I1, rx, d, o, xs, ex, hd, q⟩ => ?_⟩
  subst ex
  obtain rfl : u = Value.ref d := rx
  obtain ⟨hs, hgd, hx, es, ep, hdt, hsz, ent⟩ := kd_frz I1 hd
  refine iter_keys hs hgd hx hdt (pi_one (tk := s1.toks) I1 _ (turn_KD _ hdt) ⟨_, Heap.get?_push_size _ rfl, rfl, ?_⟩ q)
  rw [hsz] <;> rfl
end
theorem walk_KD {P : Program} {w : World} {d : Addr} {o : Obj} {xs : List (List Int × Addr)} : Walk (Itf P w d o xs) xs.length (fun H => H d = some (.frz o (KD P w d xs))) (fun i H x H' => H' = H ∧ ∃ p, xs[i]? = some p ∧ x = .ref p.2) :=
  ⟨fun _ _ hi q => ⟨q, hi⟩, fun _ q => ⟨q, Nat.le_refl _⟩, fun _ _ _ _ _ _ y => y⟩
end Yf
set_option Elab.async false
set_option linter.all false
set_option maxRecDepth 100000
set_option maxHeartbeats 1000000
/-! U2: data whose repr is short. -/
namespace Yf
open PySem PySem.Spec PyProof.Rows L2

structure Nice (d : PyData) : Prop where
  s : d.showable = true
  n : d.hasDict = false
  p : d.depth ≤ 2
  l : d.leavesShort 8 = true
  w : d.weight ≤ 600
def sm (i : Int) : Bool := decide (0 ≤ i ∧ i ≤ 8)
theorem sm_int {i : Int} (h0 : 0 ≤ i) (h8 : i ≤ 8) : (PyData.int i).showable = true ∧ (PyData.int i).leavesShort 8 = true ∧ (PyData.int i).weight ≤ 4 := by
  have : i = 0 ∨ i = 1 ∨ i = 2 ∨ i = 3 ∨ i = 4 ∨ i = 5 ∨ i = 6 ∨ i = 7 ∨ i = 8 := by omega
  rcases this with h | h | h | h | h | h | h | h | h <;> subst h <;> decide +kernel
theorem ints_nice : ∀ (xs : List Int), (∀ x ∈ xs, 0 ≤ x ∧ x ≤ 8) → PyData.showableAll (xs.map PyData.int) = true ∧ PyData.hasDictAll (xs.map PyData.int) = false ∧ PyData.leavesShortAll 8 (xs.map PyData.int) = true ∧ PyData.weightAll (xs.map PyData.int) ≤ 5 * xs.length
  | [], _ => by simp [PyData.showableAll, PyData.hasDictAll, PyData.leavesShortAll, PyData.weightAll]
  | x :: xs, h => by
    obtain ⟨a, b, c, d⟩ := ints_nice xs fun y hy => h y (List.mem_cons_of_mem _ hy)
    obtain ⟨e, f, g⟩ := sm_int (h x List.mem_cons_self).1 (h x List.mem_cons_self).2
    refine ⟨?_, ?_, ?_, ?_⟩
    · simp only [List.map_cons, PyData.showableAll, e, a, Bool.and_self]
    · simp only [List.map_cons, PyData.hasDictAll, PyData.hasDict, b, Bool.or_self]
    · simp only [List.map_cons, PyData.leavesShortAll, f, c, Bool.and_self]
    · simp only [List.map_cons, PyData.weightAll, List.length_cons]; omega
theorem nice_tD {xs : List Int} (h : ∀ x ∈ xs, 0 ≤ x ∧ x ≤ 8) (hl : xs.length ≤ 101) : Nice (tD xs) := by
  obtain ⟨a, b, c, d⟩ := ints_nice xs h
  exact ⟨by simp only [tD, PyData.showable]; exact a, by simp only [tD, PyData.hasDict]; exact b, by rw [tD_depth]; omega, by simp only [tD, PyData.leavesShort]; exact c, by simp only [tD, PyData.weight]; omega⟩
theorem nice_all : ∀ {ds : List PyData}, (∀ d ∈ ds, Nice d) → PyData.showableAll ds = true ∧ PyData.hasDictAll ds = false ∧ PyData.depthAll ds ≤ 2 ∧ PyData.leavesShortAll 8 ds = true ∧ PyData.weightAll ds ≤ 601 * ds.length
  | [], _ => by simp [PyData.showableAll, PyData.hasDictAll, PyData.leavesShortAll, PyData.weightAll, PyData.depthAll]
  | x :: xs, h => by
    obtain ⟨a, b, b2, c, d⟩ := nice_all (ds := xs) fun y hy => h y (List.mem_cons_of_mem _ hy)
    have N := h x List.mem_cons_self
    have w := N.w
    have dp := N.p
    refine ⟨?_, ?_, ?_, ?_, ?_⟩
    · simp only [PyData.showableAll, N.s, a, Bool.and_self]
    · simp only [PyData.hasDictAll, N.n, b, Bool.or_self]
    · simp only [PyData.depthAll]; omega
    · simp only [PyData.leavesShortAll, N.l, c, Bool.and_self]
    · simp only [PyData.weightAll, List.length_cons]; omega
/-- what repr asks -/
structure Rp (d : PyData) : Prop where
  s : d.showable = true
  n : d.hasDict = false
  p : d.depth ≤ 8
  l : d.shown.length ≤ sizeLine
theorem Nice.rp {d : PyData} (n : Nice d) : Rp d := ⟨n.s, n.n, by have := n.p; omega, by
  have h := PyData.shown_le 8 (by decide) d n.l
  have w := n.w
  exact small' (by omega)⟩
theorem nice_list {ds : List PyData} (h : ∀ d ∈ ds, Nice d) (hl : ds.length ≤ 20) : Rp (.list ds) := by
  obtain ⟨a, b, c, e, f⟩ := nice_all h
  refine ⟨by simp only [PyData.showable]; exact a, by simp only [PyData.hasDict]; exact b, by simp only [PyData.depth]; omega, ?_⟩
  have g := PyData.shown_le 8 (by decide) (.list ds) (by simp only [PyData.leavesShort]; exact e)
  simp only [PyData.weight] at g
  exact small' (by omega)
end Yf
set_option Elab.async false
set_option linter.all false
set_option maxRecDepth 100000
set_option maxHeartbeats 1000000
/-! G2: is_jump, jumps_of, crossed. -/
namespace Yf
open PySem PySem.Spec PyProof.Rows L2

def jv (b : Int) : List V → Bool
  | [.int u, .int v] => decide (0 ≤ u ∧ u < v ∧ v ≤ b - 1)
  | _ => false
theorem inR_yes {lo hi : Int} {x : V} (h : inR lo hi x = true) : ∃ i, x = .int i ∧ lo ≤ i ∧ i ≤ hi := by
  cases x with
  | int i => exact ⟨i, rfl, by simpa [inR] using h⟩
  | _ => cases h
theorem jv_no {b : Int} {x y : V} (h : ([x, y].map (inR 0 (b - 1))).all id = false) : jv b [x, y] = false := by
  cases q : jv b [x, y] with
  | false => rfl
  | true =>
    cases x <;> cases y <;> simp only [jv, Bool.false_eq_true] at q
    simp only [List.map, List.all, inR, id, Bool.and_true, Bool.and_eq_false_iff, decide_eq_false_iff_not, decide_eq_true_eq] at h q
    omega
theorem jv_yes {b : Int} {x y : V} (h : ([x, y].map (inR 0 (b - 1))).all id = true) : ∃ u v, x = .int u ∧ y = .int v ∧ jv b [x, y] = decide (u < v) := by
  simp only [List.map, List.all, id, Bool.and_true, Bool.and_eq_true] at h
  obtain ⟨u, rfl, h1⟩ := inR_yes h.1
  obtain ⟨v, rfl, h2⟩ := inR_yes h.2
  refine ⟨u, v, rfl, rfl, ?_⟩
  show decide (0 ≤ u ∧ u < v ∧ v ≤ b - 1) = decide (u < v)
  exact decide_eq_decide.mpr (by omega)
theorem jv_len {b : Int} {xs : List V} (h : xs.length ≠ 2) : jv b xs = false := by
  unfold jv
  split
  · exact absurd rfl h
  · rfl
def spIsJump : Sp := fun vs H Q _ => ∃ x n b, vs = [x, .int b] ∧ Kd H x n ∧ (isTup n = false → ∀ H', Same H H' → Q (.bl false) H') ∧
  ∀ a xs, x = .ref a → H a = some (.tup xs) → (∀ y ∈ xs, ∃ m, Kd H y m) ∧ ∀ H', Same H H' → Q (.bl (jv b xs)) H'
section
variable {P : Program} {w : World} {K : PySem.W.Frag} {mg : Str → Option Value} {base : Heap}
theorem scIsJump : FnScope ["value", "blocks", "block"] ["value", "blocks"] (defScope sIsJump) := ⟨rfl, rfl, rfl, by decide +kernel, rfl, by decide +kernel, by decide +kernel⟩
theorem ok_isJump {f fW : Addr} {fd fdW : FuncData} (D : Dn K mg "is_jump" sIsJump ["value", "blocks"] f fd) (GW : FnOk P w K mg base CX0 2 fW fdW ["value", "low", "high"] spWithin)
    (DW : Dn K mg "within" sWithin ["value", "low", "high"] fW fdW) (B : Bi mg) : FnOk P w K mg base CX0 3 f fd ["value", "blocks"] spIsJump := by
  refine D.F.ok scIsJump (fun vs H Q E h => ?_) (fun cdv A outer s H vs Q E hr h => ?_)
  · obtain ⟨x, n, b, rfl, _⟩ := h
    rfl
  · obtain ⟨x, n, b, rfl, k, q0, q1⟩ := h
    refine ⟨_, pss_cons (ps_if (PW.pt (pw_or (pt_not (pt_val (pe_callB call_isi (by rfl) B.isinstance (by decide +kernel) (pa_cons (pv 0) (pa_cons (pe_bltn (v := .ty "tuple") (by rfl) B.tuple (by decide +kernel) rfl) pa_nil)))))
          (pw_or1 (pt_cmpR op_ne (pe_callB call_len_seq (by rfl) B.len PySem.boot_len (pa_cons (pv 0) pa_nil)) pe_int (nomark _))))) (pss_one (ps_ret pe_bl)) pss_nil)
      (pss_one (ps_ret (pe_and (pe_callB (cr_all rfl) (by rfl) B.all (by decide +kernel) (pa_cons
          (pe_lc (own := [("block", 2)]) (g := gName 2) rfl scIsJump.nd (pi_tup (pv 0)) (blkOk_by (N := ["value", "blocks", "block"]) (sc := defScope sIsJump) (by decide +kernel))
            (fun _ _ _ _ _ => pg_name (i := 2) scIsJump.nd rfl (Or.inl rfl)) (fun _ _ _ _ _ => pts_nil)
            (fun _ _ _ _ _ => pe_call GW hr (by rfl) DW.g DW.F.kp DW.b .nil pass0 (pa_cons (pv 2) (pa_cons pe_int (pa_cons (pe_op op_sub (pv 1) pe_int) pa_nil))))) pa_nil))
        (pe_one (pe_cmpR op_lt (pe_ix ix_tup (pv 0) pe_int (fun _ _ => rfl)) (pe_ix ix_tup (pv 0) pe_int (fun _ _ => rfl)) (nomark _)))))), ?_⟩
    refine ⟨x, rfl, x, .ty "tuple", _, _, isTup n, rfl, .ty "tuple", k.ty, k.tup_, _, rfl, ?_⟩
    cases k with
    | @tup a xs ea =>
      obtain ⟨hk, q1⟩ := q1 a xs rfl ea
      refine iteF ?_
      refine ⟨_, rfl, a, xs, rfl, .inr (.inl (.inl ea)), rfl, _, rfl, ?_⟩
      by_cases h2 : xs.length = 2
      · have e2 : (!decide ((V.int (xs.length : Int)) = V.int 2)) = false := by rw [h2]; decide
        rw [e2]
        refine iteF ?_
        obtain ⟨x, y, rfl⟩ : ∃ x y, xs = [x, y] := match xs, h2 with | [x, y], _ => ⟨x, y, rfl⟩
        -- the list of answers
        refine ⟨_, rfl, a, rfl, ⟨_, .inl (.inl ea)⟩, fun L hL => ?_⟩
        have nLa : a ≠ L := ne_of_none ea hL
        refine lc_it (walk_tup (xs := [x, y])) (fun i H' => Same H H' ∧ H' L = some (.lst ((([x, y].take i).map (inR 0 (b - 1))).map V.bl)))
          ⟨fun c o e => by rw [upd_ne (ne_of_none e hL)]; exact e, upd_same⟩ (fun i H' _ h => .inl (.inl (h.1 _ _ ea))) ?_ ?_
        · rintro i y' H1 H2 hi ⟨s1, hL1⟩ ⟨rfl, hy⟩
          have hmem : y' ∈ [x, y] := List.mem_of_getElem? hy
          obtain ⟨m, km⟩ := hk y' hmem
          refine ⟨rfl, y', rfl, _, rfl, _, _, rfl, rfl, y', m, 0, b - 1, rfl, km.same s1, acc_step hL s1 hL1 (small (by simp only [List.length_map, List.length_take, List.length_cons, List.length_nil]; omega)) ?_⟩
          rw [take_more hy, List.map_append, List.map_append]
          rfl
        · rintro H1 ⟨s1, hL1⟩
          refine ⟨L, ([x, y].map (inR 0 (b - 1))), rfl, .inl (.inl hL1), _, rfl, ?_⟩
          cases hb : ([x, y].map (inR 0 (b - 1))).all id with
          | false =>
            refine iteF ?_
            rw [jv_no hb] at q1
            exact q1 H1 s1
          | true =>
            obtain ⟨u, v, rfl, rfl, ej⟩ := jv_yes hb
            rw [ej] at q1
            refine iteT ?_
            have ea1 : SqT K H1 a [V.int u, V.int v] := .inl (.inl (s1 _ _ ea))
            exact ⟨_, rfl, a, _, _, _, rfl, rfl, ea1, rfl, _, rfl, a, _, _, _, rfl, rfl, ea1, rfl, u, v, rfl, rfl, q1 H1 s1⟩
      · have e2 : (!decide ((V.int (xs.length : Int)) = V.int 2)) = true := by
          rw [decide_eq_false]; · rfl
          intro z
          injection z with z
          omega
        rw [e2]
        refine iteT ?_
        rw [jv_len h2] at q1
        exact q1 H (Same.refl H)
    | _ => exact iteT (q0 rfl H (Same.refl H))
end
end Yf
set_option Elab.async false
set_option linter.all false
set_option maxRecDepth 100000
set_option maxHeartbeats 1000000
/-! G3: jumps_of, crossed. -/
namespace Yf
open PySem PySem.Spec PyProof.Rows L2

theorem _root_.L2.Same.seqT {K : PySem.W.Frag} {H H' : Hp} {a : Addr} {xs : List V} (s : Same H H') (h : SqT K H a xs) : SqT K H' a xs := by
  rcases h with (h | ⟨o, h⟩) | h
  · exact .inl (.inl (s _ _ h))
  · exact .inl (.inr ⟨o, s _ _ h⟩)
  · exact .inr h
/-- the pairs of neighbours -/
def prs (xs : List V) : List (V × V) := xs.zip xs.tail
theorem cutV_tail (xs : List V) : cutV xs (some 1) none = xs.tail := by
  unfold cutV
  rw [show (some (1 : Int)) = some ((1 : Nat) : Int) from rfl, HT.sIx_nat, HT.sIx_none]
  cases xs with
  | nil => rfl
  | cons x r => simp
def spJumpsOf : Sp := fun vs H Q _ => ∃ a xs, vs = [.ref a] ∧ Rd H a (.tup xs) ∧ xs.length ≤ 1000 ∧
  ∀ (H' : Hp) (p : Addr) (Ts : List Addr), Same H H' → H p = none → H' p = some (.lst (Ts.map V.ref)) → Paired (fun T (q : V × V) => H' T = some (.tup [q.1, q.2])) Ts (prs xs) → Q (.ref p) H'
section
variable {P : Program} {w : World} {K : PySem.W.Frag} {mg : Str → Option Value} {base : Heap}
theorem scJumpsOf : FnScope ["run"] ["run"] (defScope sJumpsOf) := ⟨rfl, rfl, rfl, by decide +kernel, rfl, by decide +kernel, by decide +kernel⟩
theorem ok_jumpsOf {f : Addr} {fd : FuncData} (D : Dn K mg "jumps_of" sJumpsOf ["run"] f fd) (B : Bi mg) : FnOk P w K mg base CX0 1 f fd ["run"] spJumpsOf := by
  refine D.F.ok scJumpsOf (fun vs H Q E h => ?_) (fun cdv A outer s H vs Q E hr h => ?_)
  · obtain ⟨a, xs, rfl, _⟩ := h
    rfl
  · obtain ⟨a, xs, rfl, ea, hl, q⟩ := h
    refine ⟨_, pss_one (ps_ret (pe_listZip rfl (by rfl) B.list (by rfl) B.zip (pa_cons (pv 0) (pa_cons (pe_slice sl_tupA (pv 0) (po_some pe_int) po_none) pa_nil)))), ?_⟩
    refine ⟨_, rfl, _, rfl, 1, rfl, a, xs, rfl, (.inl ea), fun hf => ?_, fun hf p hp => ?_⟩
    · -- run[1:] of the empty tuple is the tuple itself
      have h0 : xs = [] := by
        have e := hf.1
        rw [show (some (1 : Int)) = some ((1 : Nat) : Int) from rfl, HT.sIx_nat] at e
        cases xs with
        | nil => rfl
        | cons x r => simp at e
      subst h0
      exact ⟨a, a, [], [], rfl, (.inl ea), (.inl ea), fun H' p Ts s1 hp _ hL hP => q H' p Ts s1 hp hL hP⟩
    · rw [cutV_tail]
      refine ⟨a, p, xs, xs.tail, rfl, L2.Same.seqT (L2.Same.new hp) (.inl ea), .inl (.inl upd_same), fun H' p' Ts s1 hp' _ hL hP => q H' p' Ts ((L2.Same.new hp).trans s1) (Same.free (L2.Same.new hp) hp') hL hP⟩
end
def cutI (xs : List Int) (lo hi : Option Int) : List Int := (xs.drop (HT.sIx xs.length 0 lo)).take (HT.sIx xs.length xs.length hi - HT.sIx xs.length 0 lo)
theorem cutI_V (xs : List Int) (lo hi : Option Int) : cutV (xs.map V.int) lo hi = (cutI xs lo hi).map V.int := by
  unfold cutV cutI
  rw [List.length_map, List.map_take, List.map_drop]
theorem sIx_le (n d : Nat) (o : Option Int) (h : d ≤ n) (ho : ∀ v, o = some v → v ≤ n ∨ 0 ≤ v) : HT.sIx n d o ≤ n ∨ True := .inr trivial
/-- at b stands a tuple of these ints, tracked or locked -/
def TR (H : Hp) (b : Addr) (xs : List Int) : Prop := Rd H b (.tup (xs.map V.int))
theorem TR.same {H H' : Hp} {a : Addr} {xs : List Int} (h : TR H a xs) (s : Same H H') : TR H' a xs := by
  rcases h with h | ⟨o, h⟩
  · exact .inl (s _ _ h)
  · exact .inr ⟨o, s _ _ h⟩
theorem TR.sq {K : PySem.W.Frag} {H : Hp} {b : Addr} {xs : List Int} (t : TR H b xs) : SqT K H b (xs.map V.int) := .inl t
theorem Tu.tr {H : Hp} {b : Addr} {xs : List Int} (t : Tu H b xs) : TR H b xs := .inl t
theorem FT.tr {H : Hp} {b : Addr} {xs : List Int} (t : FT H b xs) : TR H b xs := let ⟨o, h, _⟩ := t; .inr ⟨o, h⟩
theorem slA_tu {K : PySem.W.Frag} {H : Hp} {a : Addr} {xs : List Int} {lo hi : Option Int} {Q : VK} (ha : TR H a xs) (q : ∀ H' p, Same H H' → TR H' p (cutI xs lo hi) → Q (.ref p) H') : rSlA K (.ref a) lo hi H Q := by
  refine ⟨a, xs.map V.int, rfl, ha.sq, fun hf => q H a (Same.refl H) ?_, fun hf p hp => q _ p (L2.Same.new hp) ?_⟩
  · rw [List.length_map] at hf
    have e : cutI xs lo hi = xs := by
      unfold cutI
      rw [hf.1, hf.2, List.drop_zero, Nat.sub_zero, List.take_length]
    rw [e]; exact ha
  · refine .inl ?_
    rw [upd_same, cutI_V]
theorem catA_tu {K : PySem.W.Frag} {H : Hp} {a b : Addr} {xs ys : List Int} {Q : VK} (ha : TR H a xs) (hb : TR H b ys) (hl : xs.length + ys.length ≤ 100000) (q : ∀ H' p, Same H H' → TR H' p (xs ++ ys) → Q (.ref p) H') :
    rCatA K (.ref a) (.ref b) H Q := by
  refine ⟨a, b, xs.map V.int, ys.map V.int, rfl, rfl, ha.sq, hb.sq, by rw [List.length_map, List.length_map]; exact small' (by omega), fun h0 => q H b (Same.refl H) ?_, fun h0 h1 => q H a (Same.refl H) ?_, fun _ _ p hp => q _ p (L2.Same.new hp) ?_⟩
  · rw [List.map_eq_nil_iff.mp h0, List.nil_append]; exact hb
  · rw [List.map_eq_nil_iff.mp h1, List.append_nil]; exact ha
  · refine .inl ?_
    rw [upd_same, List.map_append]
section
variable {P : Program} {w : World} {K : PySem.W.Frag} {mg : Str → Option Value} {base : Heap}
/-- first[:i] + second[j:] where i, j are the block's places -/
def crossM (f s : List Int) (x : Int) : List Int := f.take (f.idxOf x) ++ s.drop (s.idxOf x)
theorem cutI_to (xs : List Int) (n : Nat) (h : n ≤ xs.length) : cutI xs none (some (n : Int)) = xs.take n := by
  unfold cutI
  rw [HT.sIx_nat, HT.sIx_none, List.drop_zero, Nat.sub_zero, Nat.min_eq_left h]
theorem cutI_from (xs : List Int) (n : Nat) (h : n ≤ xs.length) : cutI xs (some (n : Int)) none = xs.drop n := by
  unfold cutI
  rw [HT.sIx_nat, HT.sIx_none, Nat.min_eq_left h, List.take_of_length_le (by rw [List.length_drop]; exact Nat.le_refl _)]
def spCrossed : Sp := fun vs H Q _ => ∃ a b x f s, vs = [.ref a, .ref b, .int x] ∧ FT H a f ∧ FT H b s ∧ x ∈ f ∧ x ∈ s ∧ f.length ≤ 1000 ∧ s.length ≤ 1000 ∧
  ∀ (H' : Hp) (p c d : Addr), Same H H' → H' p = some (.tup [.ref c, .ref d]) → TR H' c (crossM f s x) → Q (.ref p) H'
theorem scCrossed : FnScope ["first", "second", "block", "one", "other"] ["first", "second", "block"] (defScope sCrossed) := ⟨rfl, rfl, rfl, by decide +kernel, rfl, by decide +kernel, by decide +kernel⟩
theorem ok_crossed {f : Addr} {fd : FuncData} (D : Dn K mg "crossed" sCrossed ["first", "second", "block"] f fd) : FnOk P w K mg base CX0 1 f fd ["first", "second", "block"] spCrossed := by
  refine D.F.ok scCrossed (fun vs H Q E h => ?_) (fun cdv A outer s H vs Q E hr h => ?_)
  · obtain ⟨a, b, x, f, s, rfl, _⟩ := h
    rfl
  · obtain ⟨a, b, x, fs, ss, rfl, ha, hb, hx, hy, l1, l2, q⟩ := h
    refine ⟨_, pss_cons (by exact ps_par (i := 3) (j := 4) rfl scCrossed.nd rfl rfl (by decide) rfl rfl (by exact pa_cons (pe_bmF PySem.F.plainAttrs_tuple PySem.F.slot_tuple_index PySem.F.type_tuple_index mt_tup_indexI (pv 0) (pa_cons (pv 2) pa_nil)) (pa_cons (pe_bmF PySem.F.plainAttrs_tuple PySem.F.slot_tuple_index PySem.F.type_tuple_index mt_tup_indexI (pv 1) (pa_cons (pv 2) pa_nil)) pa_nil)) (by rfl))
      (pss_one (ps_ret (pe_tup (pa_cons (pe_op op_catA (pe_slice sl_tupA (pv 0) po_none (po_some (pv 3))) (pe_slice sl_tupA (pv 1) (po_some (pv 4)) po_none))
        (pa_cons (pe_op op_catA (pe_slice sl_tupA (pv 1) po_none (po_some (pv 4))) (pe_slice sl_tupA (pv 0) (po_some (pv 3)) po_none)) pa_nil))))), ?_⟩
    have ta : SqT K H a (fs.map V.int) := FTv.sq ha
    have tb : SqT K H b (ss.map V.int) := FTv.sq hb
    refine ⟨_, rfl, ⟨a, _, rfl, ha⟩, _, rfl, a, fs, x, rfl, rfl, ta, hx, _, rfl, ⟨b, _, rfl, hb⟩, _, rfl, b, ss, x, rfl, rfl, tb, hy, _, _, rfl, ?_⟩
    have i1 : fs.idxOf x ≤ fs.length := Nat.le_of_lt (List.idxOf_lt_length_iff.mpr hx)
    have i2 : ss.idxOf x ≤ ss.length := Nat.le_of_lt (List.idxOf_lt_length_iff.mpr hy)
    have k1 : (fs.take (fs.idxOf x)).length + (ss.drop (ss.idxOf x)).length ≤ 100000 := by rw [List.length_take, List.length_drop]; omega
    have k2 : (ss.take (ss.idxOf x)).length + (fs.drop (fs.idxOf x)).length ≤ 100000 := by rw [List.length_take, List.length_drop]; omega
    refine ⟨_, rfl, _, rfl, _, rfl, slA_tu ha.tr fun H1 p1 s1 t1 => ?_⟩
    refine ⟨_, rfl, _, rfl, _, rfl, ?_⟩
    dsimp only [tNoPart]
    refine slA_tu (hb.tr.same s1) fun H2 p2 s2 t2 => ?_
    rw [cutI_to _ _ i1] at t1
    rw [cutI_from _ _ i2] at t2
    refine catA_tu (t1.same s2) t2 k1 fun H3 p3 s3 t3 => ?_
    have s13 := (s1.trans s2).trans s3
    refine ⟨_, rfl, _, rfl, _, rfl, slA_tu (hb.tr.same s13) fun H4 p4 s4 t4 => ?_⟩
    refine ⟨_, rfl, _, rfl, _, rfl, ?_⟩
    dsimp only [tNoPart]
    refine slA_tu (ha.tr.same (s13.trans s4)) fun H5 p5 s5 t5 => ?_
    rw [cutI_to _ _ i2] at t4
    rw [cutI_from _ _ i1] at t5
    refine catA_tu (t4.same s5) t5 k2 fun H6 p6 s6 t6 => ?_
    refine ⟨by show 2 ≤ sizeLine; decide, fun p hp => ?_⟩
    have s46 := (s4.trans s5).trans s6
    exact q _ p p3 p6 ((s13.trans s46).put (Same.free (s13.trans s46) hp)) upd_same (t3.same (s46.put (Same.free s46 hp)))
end
end Yf
set_option Elab.async false
set_option linter.all false
set_option maxRecDepth 100000
set_option maxHeartbeats 1000000
/-! G4: a Routine; __contains__. -/
namespace Yf
open PySem PySem.Spec PyProof.Rows L2

abbrev mRInit : Stmt := inClass sRoutine 0
abbrev mREq : Stmt := inClass sRoutine 5
abbrev mRContains : Stmt := inClass sRoutine 6
abbrev mRIsRun : Stmt := inClass sRoutine 9
abbrev Jp := Int × Int
/-- the fields of a Routine -/
def fR (b : Int) (rl d : Addr) : List (Str × V) := [("blocks", .int b), ("rows", .ref rl), ("there", .ref d)]
theorem fR_blocks (b : Int) (rl d : Addr) : (fR b rl d).lookup ("blocks" : Str) = some (.int b) := by simp [fR, List.lookup]
theorem fR_rows (b : Int) (rl d : Addr) : (fR b rl d).lookup ("rows" : Str) = some (.ref rl) := by
  have e : (("rows" : Str) == "blocks") = false := by decide +kernel
  simp [fR, List.lookup, e]
theorem fR_there (b : Int) (rl d : Addr) : (fR b rl d).lookup ("there" : Str) = some (.ref d) := by
  have e : (("there" : Str) == "blocks") = false := by decide +kernel
  have e2 : (("there" : Str) == "rows") = false := by decide +kernel
  simp [fR, List.lookup, e, e2]
theorem fR_no (b : Int) (rl d : Addr) {m : Str} (h1 : (m == "blocks") = false) (h2 : (m == "rows") = false) (h3 : (m == "there") = false) : (fR b rl d).lookup m = none := by simp [fR, List.lookup, h1, h2, h3]
/-- jumps in a list, in a dict -/
def JL (H : Hp) (a : Addr) (js : List Jp) : Prop := TL H a (js.map jl)
def JD (H : Hp) (d : Addr) (js : List Jp) : Prop := ∃ kvs, H d = some (.dT kvs) ∧ kvs.map (·.1) = js.map pairK
structure RAt (C : Addr) (H : Hp) (a : Addr) (b : Int) (js : List Jp) : Prop where
  ob : ∃ dx rl d, H a = some (.ins C dx (fR b rl d)) ∧ JL H rl js ∧ JD H d js
theorem RAt.same {C : Addr} {H H' : Hp} {a : Addr} {b : Int} {js : List Jp} (r : RAt C H a b js) (s : Same H H') : RAt C H' a b js := by
  obtain ⟨dx, rl, d, h, l, kvs, hd, e⟩ := r.ob
  exact ⟨dx, rl, d, s _ _ h, l.same s, kvs, s _ _ hd, e⟩
/-- the jumps of b blocks -/
def Okj (b : Int) (js : List Jp) : Prop := ∀ p ∈ js, 0 ≤ p.1 ∧ p.1 < p.2 ∧ p.2 ≤ b - 1
def hasJ (js : List Jp) : List V → Bool
  | [.int u, .int v] => decide ((u, v) ∈ js)
  | _ => false
theorem pairK_inj {p q : Jp} (z : pairK p = pairK q) : p = q := by
  obtain ⟨a, b⟩ := p
  obtain ⟨c, d⟩ := q
  simp only [pairK, List.cons.injEq, Sum.inl.injEq, and_true] at z
  rw [z.1, z.2]
theorem dT_has {kvs : List (List Key × V)} {js : List Jp} (e : kvs.map (·.1) = js.map pairK) (p : Jp) : (valV kvs (pairK p)).isSome = decide (p ∈ js) := by
  unfold valV
  induction kvs generalizing js with
  | nil =>
    cases js with
    | nil => rfl
    | cons a js => cases e
  | cons q r ih =>
    cases js with
    | nil => cases e
    | cons a js =>
      simp only [List.map_cons, List.cons.injEq] at e
      by_cases h : a = p
      · have hq : q.1 = pairK p := by rw [e.1, h]
        simp [List.find?_cons, hq, h]
      · have hq : ¬ q.1 = pairK p := fun z => h (pairK_inj (e.1.symm.trans z))
        have hp : ¬ p = a := fun z => h z.symm
        have i := ih e.2
        simp only [List.find?_cons, hq, decide_false, List.mem_cons, hp, false_or]
        exact i
/-- what the text has made of the class Routine -/
structure RC (K : PySem.W.Frag) (C : Addr) : Prop where
  cl : Cls K C
  nB : NoAttr K C "blocks"
  nR : NoAttr K C "rows"
  nT : NoAttr K C "there"
/-- a method -/
structure Mn (K : PySem.W.Frag) (C : Addr) (nm qual : Str) (st : Stmt) (ps : List Str) (f : Addr) (fd : FuncData) : Prop where
  F : Fun K nm qual st f fd
  m : Meth K C nm f
  b : Binds K fd ps []
def spRIn (C : Addr) : Sp := fun vs H Q _ => ∃ a x b js n, vs = [.ref a, x] ∧ RAt C H a b js ∧ Okj b js ∧ Kd H x n ∧ (isTup n = false → ∀ H', Same H H' → Q (.bl false) H') ∧
  ∀ c xs, x = .ref c → H c = some (.tup xs) → (∀ y ∈ xs, ∃ m, Kd H y m) ∧ ∀ H', Same H H' → Q (.bl (hasJ js xs)) H'
theorem hasJ_of {b : Int} {js : List Jp} {xs : List V} (ok : Okj b js) (h : jv b xs = false) : hasJ js xs = false := by
  unfold hasJ
  split
  · rename_i u v
    refine decide_eq_false fun hm => ?_
    have := ok _ hm
    simp [jv] at h
    omega
  · rfl
theorem jv_ints {b : Int} {xs : List V} (h : jv b xs = true) : ∃ u v, xs = [.int u, .int v] := by
  unfold jv at h
  split at h
  · exact ⟨_, _, rfl⟩
  · cases h
section
variable {P : Program} {w : World} {K : PySem.W.Frag} {mg : Str → Option Value} {base : Heap}
theorem scRIn : FnScope ["self", "x"] ["self", "x"] (defScope mRContains) := ⟨rfl, rfl, rfl, by decide +kernel, rfl, by decide +kernel, by decide +kernel⟩
theorem ok_RIn {C f fJ : Addr} {fd fdJ : FuncData} (D : Mn K C "__contains__" "Routine.__contains__" mRContains ["self", "x"] f fd) (T : RC K C) (GJ : FnOk P w K mg base CX0 3 fJ fdJ ["value", "blocks"] spIsJump)
    (DJ : Dn K mg "is_jump" sIsJump ["value", "blocks"] fJ fdJ) : FnOk P w K mg base CX0 4 f fd ["self", "x"] (spRIn C) := by
  refine D.F.ok scRIn (fun vs H Q E h => ?_) (fun cdv A outer s H vs Q E hr h => ?_)
  · obtain ⟨a, x, b, js, n, rfl, _⟩ := h
    rfl
  · obtain ⟨a, x, b, js, n, rfl, R, ok, k, q0, q1⟩ := h
    have hu := hu_of hr
    refine ⟨_, pss_one (ps_ret (pe_and (pe_call GJ hr (by rfl) DJ.g DJ.F.kp DJ.b .nil pass0 (pa_cons (pv 1) (pa_cons (pe_fld (pv 0) rfl) pa_nil)))
      (pe_one (pe_cmp (pc_din hu (pv 1) (pe_fld (pv 0) rfl)))))), ?_⟩
    obtain ⟨dx, rl, d, ha, hl, kvs, hd, ek⟩ := R.ob
    refine ⟨x, rfl, _, rfl, a, C, dx, _, _, rfl, ha, T.cl, T.nB, fR_blocks _ _ _, x, n, b, rfl, k, fun hn H' s1 => ⟨false, rfl, iteF (q0 hn H' s1)⟩, fun c xs ex ec => ?_⟩
    obtain ⟨hk, q2⟩ := q1 c xs ex ec
    refine ⟨hk, fun H' s1 => ⟨jv b xs, rfl, ?_⟩⟩
    cases hj : jv b xs with
    | false =>
      refine iteF ?_
      rw [hasJ_of ok hj] at q2
      exact q2 H' s1
    | true =>
      refine iteT ?_
      obtain ⟨u, v, rfl⟩ := jv_ints hj
      subst ex
      refine ⟨_, rfl, _, rfl, a, C, dx, _, _, rfl, s1 _ _ ha, T.cl, T.nT, fR_there _ _ _, d, _, rfl, DGet.t (k := pairK (u, v)) (s1 _ _ hd) (s1 _ _ ec), ?_⟩
      rw [dT_has ek]
      exact q2 H' s1
end
end Yf
set_option Elab.async false
set_option linter.all false
set_option maxRecDepth 100000
set_option maxHeartbeats 1000000
/-! G5: is_run. -/
namespace Yf
open PySem PySem.Spec PyProof.Rows L2

/-- the kinds, a tuple may be locked -/
inductive KdR (H : Hp) : V → String → Prop
  | kd {x : V} {n : String} (k : Kd H x n) : KdR H x n
  | ft {a : Addr} {o : Obj} {xs : List V} (e : H a = some (.frz o (.tup xs))) : KdR H (.ref a) "tuple"
theorem KdR.ty {K : PySem.W.Frag} {H : Hp} {x : V} {n : String} (k : KdR H x n) : TyX K H x (.type n) := by
  cases k with
  | kd k => exact k.ty
  | ft e => exact .fTuple e
theorem KdR.tup_ {K : PySem.W.Frag} {H : Hp} {x : V} {n : String} (k : KdR H x n) : PySem.W.kitOne K (.type n) (.type "tuple") = some (isTup n) := by
  cases k with
  | kd k => exact k.tup_
  | ft e => exact kit_ty (by decide +kernel)
theorem KdR.same {H H' : Hp} {x : V} {n : String} (k : KdR H x n) (s : Same H H') : KdR H' x n := by
  cases k with
  | kd k => exact .kd (k.same s)
  | ft e => exact .ft (s _ _ e)
/-- a run of b blocks along js -/
def rnv (b : Int) (js : List Jp) (xs : List V) : Bool := decide (2 ≤ xs.length) && ((prs xs).all fun q => hasJ js [q.1, q.2]) && match xs.head?, xs.getLast? with
  | some (.int u), some (.int v) => decide (u = 0) && decide (v = b - 1)
  | _, _ => false
theorem hasJ_ints {js : List Jp} {x y : V} (h : hasJ js [x, y] = true) : ∃ u v, x = .int u ∧ y = .int v := by
  cases x <;> cases y <;> simp [hasJ] at h
  exact ⟨_, _, rfl, rfl⟩
theorem prs_cons (x y : V) (r : List V) : prs (x :: y :: r) = (x, y) :: prs (y :: r) := rfl
theorem prs_ints {js : List Jp} : ∀ {xs : List V}, 2 ≤ xs.length → ((prs xs).all fun q => hasJ js [q.1, q.2]) = true → ∃ r : List Int, xs = r.map V.int
  | [], h, _ => by simp at h
  | [_], h, _ => by simp at h
  | [x, y], _, h => by
    rw [prs_cons, List.all_cons, Bool.and_eq_true] at h
    obtain ⟨u, v, rfl, rfl⟩ := hasJ_ints h.1
    exact ⟨[u, v], rfl⟩
  | x :: y :: z :: r, _, h => by
    rw [prs_cons, List.all_cons, Bool.and_eq_true] at h
    obtain ⟨u, v, rfl, rfl⟩ := hasJ_ints h.1
    obtain ⟨q, e⟩ := prs_ints (xs := .int v :: z :: r) (by simp) h.2
    exact ⟨u :: q, by rw [e]; rfl⟩
def spIsRun (C : Addr) : Sp := fun vs H Q _ => ∃ a x b js n, vs = [.ref a, x] ∧ RAt C H a b js ∧ Okj b js ∧ KdR H x n ∧ (isTup n = false → ∀ H', Same H H' → Q (.bl false) H') ∧
  ∀ c xs, x = .ref c → Rd H c (.tup xs) → xs.length ≤ 1000 ∧ (∀ y ∈ xs, ∃ m, Kd H y m) ∧ ∀ H', Same H H' → Q (.bl (rnv b js xs)) H'
section
variable {P : Program} {w : World} {K : PySem.W.Frag} {mg : Str → Option Value} {base : Heap}
theorem scIsRun : FnScope ["self", "value", "jump"] ["self", "value"] (defScope mRIsRun) := ⟨rfl, rfl, rfl, by decide +kernel, rfl, by decide +kernel, by decide +kernel⟩
theorem ok_isRun {C f fI fJ : Addr} {fd fdI fdJ : FuncData} (D : Mn K C "is_run" "Routine.is_run" mRIsRun ["self", "value"] f fd) (T : RC K C) (GI : FnOk P w K mg base CX0 4 fI fdI ["self", "x"] (spRIn C)) (DI : Mn K C "__contains__" "Routine.__contains__" mRContains ["self", "x"] fI fdI)
    (GJ : FnOk P w K mg base CX0 1 fJ fdJ ["run"] spJumpsOf) (DJ : Dn K mg "jumps_of" sJumpsOf ["run"] fJ fdJ) (B : Bi mg) : FnOk P w K mg base CX0 5 f fd ["self", "value"] (spIsRun C) := by
  refine D.F.ok scIsRun (fun vs H Q E h => ?_) (fun cdv A outer s H vs Q E hr h => ?_)
  · obtain ⟨a, x, b, js, n, rfl, _⟩ := h
    rfl
  · obtain ⟨a, x, b, js, n, rfl, R, ok, k, q0, q1⟩ := h
    refine ⟨_, pss_cons (ps_if (PW.pt (pw_or (pt_not (pt_val (pe_callB call_isi (by rfl) B.isinstance (by decide +kernel) (pa_cons (pv 1) (pa_cons (pe_bltn (v := .ty "tuple") (by rfl) B.tuple (by decide +kernel) rfl) pa_nil)))))
          (pw_or1 (pt_cmpR op_lt (pe_callB call_len_seq (by rfl) B.len PySem.boot_len (pa_cons (pv 1) pa_nil)) pe_int (nomark _))))) (pss_one (ps_ret pe_bl)) pss_nil)
      (pss_cons (ps_if (pt_not (pt_val (pe_callB (cr_all rfl) (by rfl) B.all (by decide +kernel) (pa_cons
          (pe_lc (own := [("jump", 2)]) (g := gName 2) rfl scIsRun.nd (pi_list (pe_call GJ (hr.mono (by decide)) (by rfl) DJ.g DJ.F.kp DJ.b .nil pass0 (pa_cons (pv 1) pa_nil))) (blkOk_by (N := ["self", "value", "jump"]) (sc := defScope mRIsRun) (by decide +kernel))
            (fun _ _ _ _ _ => pg_name (i := 2) scIsRun.nd rfl (Or.inl rfl)) (fun _ _ _ _ _ => pts_nil)
            (fun _ _ _ _ _ => pe_cmpR (op_inOwn DI.m GI hr DI.b pass0) (pv 2) (pv 0) (by with_unfolding_all rfl))) pa_nil)))) (pss_one (ps_ret pe_bl)) pss_nil)
      (pss_one (ps_ret (pe_and (pe_cmpR op_eq (pe_ix ix_tup (pv 1) pe_int (fun _ _ => rfl)) pe_int (nomark _))
        (pe_one (pe_cmpR op_eq (pe_ix ix_tup (pv 1) (pe_un un_neg pe_int) (fun _ _ => rfl)) (pe_op op_sub (pe_fld (pv 0) rfl) pe_int) (nomark _))))))), ?_⟩
    obtain ⟨dx, rl, d, ha, _⟩ := id R.ob
    refine ⟨x, rfl, x, .ty "tuple", _, _, isTup n, rfl, .ty "tuple", k.ty, k.tup_, _, rfl, ?_⟩
    cases hn : isTup n with
    | false => exact iteT (q0 hn H (Same.refl H))
    | true =>
      refine iteF ?_
      obtain ⟨c, xs, rfl, hc⟩ : ∃ c xs, x = .ref c ∧ Rd H c (.tup xs) := by
        cases k with
        | kd k =>
          cases k with
          | tup e => exact ⟨_, _, rfl, .inl e⟩
          | _ => cases hn
        | ft e => exact ⟨_, _, rfl, .inr ⟨_, e⟩⟩
      obtain ⟨hlen, hk, q2⟩ := q1 c xs rfl hc
      refine ⟨_, rfl, c, xs, rfl, .inr (.inl hc), _, _, rfl, rfl, _, rfl, ?_⟩
      by_cases h2 : xs.length < 2
      · have e2 : decide ((xs.length : Int) < 2) = true := decide_eq_true (by omega)
        rw [e2]
        refine iteT ?_
        have e3 : rnv b js xs = false := by unfold rnv; rw [decide_eq_false (by omega)]; rfl
        rw [e3] at q2
        exact q2 H (Same.refl H)
      · have e2 : decide ((xs.length : Int) < 2) = false := decide_eq_false (by omega)
        rw [e2]
        refine iteF ?_
        refine ⟨_, rfl, c, xs, rfl, hc, hlen, fun H1 p Ts s1 hp hL hP => ⟨p, rfl, ⟨_, .inl (.inl hL)⟩, fun L hLn => ?_⟩⟩
        have lP : Ts.length = (prs xs).length := Paired.len hP
        have hH : H L = none := Same.free s1 hLn
        refine lc_it (walk_list (xs := Ts.map V.ref)) (fun i H2 => Same H1 H2 ∧ H2 L = some (.lst (((prs xs).take i).map fun q => V.bl (hasJ js [q.1, q.2]))))
          ⟨L2.Same.new hLn, upd_same⟩ (fun i H2 _ h => .inl (.inl (h.1 _ _ hL))) ?_ ?_
        · rintro i y' H2 H3 hi ⟨s2, hL2⟩ ⟨rfl, hy⟩
          rw [List.getElem?_map] at hy
          obtain ⟨T', hT, ey⟩ := Option.map_eq_some_iff.mp hy
          subst ey
          obtain ⟨q, hq, hTq⟩ := Paired.get hP hT
          have hmem : q ∈ prs xs := List.mem_of_getElem? hq
          have m1 : q.1 ∈ xs := (List.of_mem_zip (a := q.1) (b := q.2) hmem).1
          have m2 : q.2 ∈ xs := List.mem_of_mem_tail (List.of_mem_zip (a := q.1) (b := q.2) hmem).2
          have e3 : H3 T' = some (.tup [q.1, q.2]) := s2 _ _ hTq
          refine ⟨rfl, _, rfl, _, rfl, a, dx, _, rfl, s2 _ _ (s1 _ _ ha), a, _, b, js, "tuple", rfl, R.same (s1.trans s2), ok, .tup e3, fun z => (by cases z), fun c' xs' ec hc' => ?_⟩
          cases ec
          rw [e3] at hc'
          cases hc'
          refine ⟨fun y hy => ?_, fun H4 s4 => ⟨_, rfl, ?_⟩⟩
          · have hyx : y ∈ xs := by
              rcases List.mem_cons.mp hy with e | e
              · rw [e]; exact m1
              · rw [List.mem_singleton.mp e]; exact m2
            obtain ⟨m, km⟩ := hk y hyx
            exact ⟨m, km.same (s1.trans s2)⟩
          · rw [if_neg Bool.false_ne_true]
            refine acc_step hLn (s2.trans s4) (s4 _ _ hL2) (small ?_) ?_
            · rw [List.length_map, List.length_take, prs, List.length_zip, List.length_tail]; omega
            · rw [take_more hq, List.map_append]; rfl
        · rintro H2 ⟨s2, hL2⟩
          rw [List.length_map, lP, List.take_length] at hL2
          have hL3 : H2 L = some (.lst (((prs xs).map fun q => hasJ js [q.1, q.2]).map V.bl)) := by rw [hL2, List.map_map]; rfl
          refine ⟨L, _, rfl, .inl (.inl hL3), _, rfl, ?_⟩
          have hall : ((prs xs).map fun q => hasJ js [q.1, q.2]).all id = (prs xs).all fun q => hasJ js [q.1, q.2] := by rw [List.all_map]; rfl
          rw [hall]
          cases hb : (prs xs).all fun q => hasJ js [q.1, q.2] with
          | false =>
            refine iteT ?_
            have e3 : rnv b js xs = false := by unfold rnv; rw [hb, Bool.and_false, Bool.false_and]
            rw [e3] at q2
            exact q2 H2 (s1.trans s2)
          | true =>
            refine iteF ?_
            obtain ⟨r, er⟩ := prs_ints (by omega) hb
            subst er
            obtain ⟨u, r', rfl⟩ : ∃ u r', r = u :: r' := by
              cases r with
              | nil => simp at h2
              | cons u r' => exact ⟨u, r', rfl⟩
            have hlast : ((u :: r').map V.int)[(u :: r').length - 1]? = some (V.int ((u :: r').getLast (by simp))) := by
              rw [List.getElem?_map, ← List.getLast?_eq_getElem?, List.getLast?_eq_some_getLast (by simp)]; rfl
            have hc2 : SqT K H2 c ((u :: r').map V.int) := L2.Same.seqT (s1.trans s2) (.inl hc)
            have e3 : rnv b js ((u :: r').map V.int) = (decide (u = 0) && decide ((u :: r').getLast (by simp) = b - 1)) := by
              unfold rnv
              rw [hb, decide_eq_true (by omega), Bool.true_and, Bool.true_and]
              have g1 : ((u :: r').map V.int).head? = some (V.int u) := rfl
              have g2 : ((u :: r').map V.int).getLast? = some (V.int ((u :: r').getLast (by simp))) := by
                rw [List.getLast?_eq_getElem?, List.length_map]; exact hlast
              rw [g1, g2]
            rw [e3] at q2
            have at0 : atI ((u :: r').map V.int) ((0 : Nat) : Int) = some (V.int u) := atI_nat rfl
            have atL : atI ((u :: r').map V.int) (-1) = some (V.int ((u :: r').getLast (by simp))) := by
              unfold atI ixN
              rw [if_neg (by decide), if_pos (by rw [List.length_map]; simp only [List.length_cons]; omega)]
              have e : (-1 + (((u :: r').map V.int).length : Int)).toNat = (u :: r').length - 1 := by rw [List.length_map]; omega
              rw [e]
              exact hlast
            refine ⟨_, rfl, c, _, ((0 : Nat) : Int), V.int u, rfl, rfl, hc2, at0, rfl, _, rfl, ?_⟩
            have ed : decide (V.int u = V.int 0) = decide (u = 0) := decide_eq_decide.mpr ⟨fun z => by injection z, fun z => by rw [z]⟩
            rw [ed]
            cases hu0 : decide (u = 0) with
            | false =>
              refine iteF ?_
              rw [hu0, Bool.false_and] at q2
              exact q2 H2 (s1.trans s2)
            | true =>
              refine iteT ?_
              rw [hu0, Bool.true_and] at q2
              have ed2 : decide (V.int ((u :: r').getLast (by simp)) = V.int (b - 1)) = decide ((u :: r').getLast (by simp) = b - 1) := decide_eq_decide.mpr ⟨fun z => by injection z, fun z => by rw [z]⟩
              refine ⟨_, rfl, _, rfl, c, _, -1, _, rfl, rfl, hc2, atL, _, rfl, a, C, dx, _, _, rfl, (s1.trans s2) _ _ ha, T.cl, T.nB, fR_blocks _ _ _, _, _, rfl, rfl, rfl, ?_⟩
              rw [ed2]
              exact q2 H2 (s1.trans s2)
end
end Yf
set_option Elab.async false
set_option linter.all false
set_option maxRecDepth 100000
set_option maxHeartbeats 1000000
/-! G6: Routine(blocks, jumps). -/
namespace Yf
open PySem PySem.Spec PyProof.Rows L2

/-- a statement that is never reached -/
theorem ps_dead {X : Cx} {st : Stmt} : PS X st (fun _ _ _ => False) := ⟨fun _ _ _ _ _ _ h => h.elim⟩
/-- a comprehension of a dict over a walk -/
theorem dcT_it {J : It} {n : Nat} {G : Hp → Prop} {Y : Nat → Hp → V → Hp → Prop} (w : Walk J n G Y) {g : TG} {tt : TT} {tk tv : TE} {vs : List Nat} {σ : L2.St} {H1 : Hp} {D : Addr} {Qd : Hp → Prop} (Pv : Nat → Hp → Prop) (h0 : Pv 0 (upd H1 D (.dT []))) (hG : ∀ i H, i ≤ n → Pv i H → G H)
    (hs : ∀ i x H H', i < n → Pv i H → Y i H x H' → g x (wipe σ vs) H' fun σ2 H2 => wipe σ2 vs = wipe σ vs ∧ tt σ2 H2 fun b H3 =>
      if b = true then tk σ2 H3 fun y H4 => tv σ2 H4 fun z H5 => ∃ kvs k q, y = V.ref q ∧ H5 q = some (.tup (k.map kV)) ∧ H5 D = some (.dT kvs) ∧ kvs.length < sizeLine ∧ Pv (i + 1) (upd H5 D (.dT (putK kvs k z))) else Pv (i + 1) H3) (hd : ∀ H, Pv n H → Qd H) :
    ∃ W : Nat → Nat → Hp → Prop, (∃ m, W 0 m (upd H1 D (.dT []))) ∧ ∀ i m H, W i m H →
      (J.stop i H ∧ Qd H) ∨ (J.go i H ∧ ∃ Nx : Hp → Prop, (∀ H', Nx H' → ∃ m', m' < m ∧ W (i + 1) m' H') ∧ ∀ x H', J.yld i H x H' → g x (wipe σ vs) H' fun σ2 H2 => wipe σ2 vs = wipe σ vs ∧ tt σ2 H2 fun b H3 =>
        if b = true then tk σ2 H3 fun y H4 => tv σ2 H4 fun z H5 => ∃ kvs k q, y = V.ref q ∧ H5 q = some (.tup (k.map kV)) ∧ H5 D = some (.dT kvs) ∧ kvs.length < sizeLine ∧ Nx (upd H5 D (.dT (putK kvs k z))) else Nx H3) := by
  refine ⟨fun i m H => m = n - i ∧ i ≤ n ∧ Pv i H, ⟨n, by simp, Nat.zero_le _, h0⟩, ?_⟩
  rintro i m H ⟨rfl, hi, p⟩
  by_cases hlt : i < n
  · exact .inr ⟨w.goes i H hlt (hG i H hi p), Pv (i + 1), fun H' p' => ⟨n - (i + 1), by omega, rfl, hlt, p'⟩, fun x H' y => hs i x H H' hlt p (w.yields i H x H' hlt (hG i H hi p) y)⟩
  · obtain rfl : i = n := by omega
    exact .inl ⟨w.stops H (hG _ H hi p), hd H p⟩
theorem map_at {α β : Type} {f : α → β} {l : List α} {i : Nat} {y : β} (h : (l.map f)[i]? = some y) : ∃ x, l[i]? = some x ∧ y = f x := by
  rw [List.getElem?_map] at h
  obtain ⟨x, hx, e⟩ := Option.map_eq_some_iff.mp h
  exact ⟨x, hx, e.symm⟩
/-- the pairs in order -/
def SrtJ (qs : List Jp) : Prop := qs.Pairwise fun a b => SrtO.lexB b a = false
theorem fR_one (b : Int) : putF "blocks" (.int b) [] = [(("blocks" : Str), V.int b)] := rfl
theorem fR_two (b : Int) (r : Addr) : putF "rows" (.ref r) (putF "blocks" (.int b) []) = [(("blocks" : Str), V.int b), ("rows", .ref r)] := by
  have e : ¬ ("blocks" : Str) = "rows" := by decide +kernel
  show (if ("blocks" : Str) = "rows" then _ else _) = _
  rw [if_neg e]; rfl
theorem fR_put (b : Int) (r d : Addr) : putF "there" (.ref d) (putF "rows" (.ref r) (putF "blocks" (.int b) [])) = fR b r d := by
  have e : ¬ ("blocks" : Str) = "there" := by decide +kernel
  have e2 : ¬ ("rows" : Str) = "there" := by decide +kernel
  rw [fR_two]
  show (if ("blocks" : Str) = "there" then _ else (("blocks" : Str), V.int b) :: (if ("rows" : Str) = "there" then _ else _)) = _
  rw [if_neg e, if_neg e2]; rfl
theorem pairedJ {H H' : Hp} : ∀ {bs : List Addr} {qs : List Jp}, Paired (fun b q => H b = some (.tup (pairV q))) bs qs → TS H H' → Tus H' bs (qs.map jl)
  | _, _, .nil, _ => .nil
  | _, _, .cons h t, s => .cons (s _ _ h) (pairedJ t s)
def spRInit (C : Addr) : Sp := fun vs H Q _ => ∃ p dx b l js, vs = [.ref p, .int b, .ref l] ∧ H p = some (.ins C dx []) ∧ 2 ≤ b ∧ b ≤ 40 ∧ JL H l js ∧ js.Nodup ∧ Okj b js ∧ js.length ≤ 120 ∧
  ∀ (H' : Hp) (qs : List Jp), qs.Perm js → SrtJ qs → RAt C H' p b qs → (∀ c o, H c = some o → c ≠ p → H' c = some o) → Q .non H'
section
variable {P : Program} {w : World} {K : PySem.W.Frag} {mg : Str → Option Value} {base : Heap}
theorem scRInit : FnScope ["self", "blocks", "jumps", "known", "at", "jump"] ["self", "blocks", "jumps"] (defScope mRInit) := ⟨rfl, rfl, rfl, by decide +kernel, rfl, by decide +kernel, by decide +kernel⟩
theorem ok_RInit {C f fW fJ : Addr} {fd fdW fdJ : FuncData} (D : Mn K C "__init__" "Routine.__init__" mRInit ["self", "blocks", "jumps"] f fd) (T : RC K C) (GW : FnOk P w K mg base CX0 2 fW fdW ["value", "low", "high"] spWithin) (DW : Dn K mg "within" sWithin ["value", "low", "high"] fW fdW)
    (GJ : FnOk P w K mg base CX0 3 fJ fdJ ["value", "blocks"] spIsJump) (DJ : Dn K mg "is_jump" sIsJump ["value", "blocks"] fJ fdJ) (B : Bi mg) (mb : ∃ t, mg "MOST_BLOCKS" = some (.int 40 t)) (mj : ∃ t, mg "MOST_JUMPS" = some (.int 120 t)) :
    FnOk P w K mg base CX0 4 f fd ["self", "blocks", "jumps"] (spRInit C) := by
  refine D.F.ok scRInit (fun vs H Q E h => ?_) (fun cdv A outer s H vs Q E hr h => ?_)
  · obtain ⟨p, dx, b, l, js, rfl, _⟩ := h
    rfl
  · obtain ⟨p, dx, b, l, js, rfl, hp, b2, b40, hl, nd, ok, h120, q⟩ := h
    have hu := hu_of hr
    obtain ⟨t40, mb⟩ := mb
    obtain ⟨t120, mj⟩ := mj
    refine ⟨_, pss_cons (ps_if (pt_not (pt_val (pe_call GW (hr.mono (by decide)) (by rfl) DW.g DW.F.kp DW.b .nil pass0 (pa_cons (pv 1) (pa_cons pe_int (pa_cons (pe_glob (v := .int 40) (by rfl) mb ⟨_, rfl⟩) pa_nil)))))) (pss_one ps_dead) pss_nil)
      (pss_cons (ps_set (i := 3) scRInit.nd rfl (.inl rfl) pe_dnewT)
      (pss_cons (ps_for PassesOwn.never rfl (pi_enum (by rfl) B.enumerate (pa_cons (pv 2) pa_nil)) (pg_tup rfl (pgs_cons (pg_name (i := 4) scRInit.nd rfl (.inl rfl)) (pgs_cons (pg_name (i := 5) scRInit.nd rfl (.inl rfl)) pgs_nil)))
        (pss_cons (ps_if (PW.pt (pw_or (pt_not (pt_val (pe_call GJ hr (by rfl) DJ.g DJ.F.kp DJ.b .nil pass0 (pa_cons (pv 5) (pa_cons (pv 1) pa_nil))))) (pw_or1 (pt_cmp (pc_din hu (pv 5) (pv 3)))))) (pss_one ps_dead) pss_nil)
        (pss_one (ps_dput hu (pv 3) (pv 5) pe_bl rfl))))
      (pss_cons (ps_if (pt_cmpR op_gt (pe_callB call_len_dT (by rfl) B.len PySem.boot_len (pa_cons (pv 3) pa_nil)) (pe_glob (v := .int 120) (by rfl) mj ⟨_, rfl⟩) (nomark _)) (pss_one ps_dead) pss_nil)
      (pss_cons (ps_fld (pv 0) (pv 1) rfl)
      (pss_cons (ps_fld (pv 0) (pe_callB (cr_sortedDT rfl) (by rfl) B.sorted (by decide +kernel) (pa_cons (pv 3) pa_nil)) rfl)
      (pss_one (ps_fld (pv 0) (pe_dcT (own := [("jump", 5)]) (g := gName 5) hu rfl scRInit.nd (pi_list (pe_fld (pv 0) rfl)) (blkOk_by (N := ["self", "blocks", "jumps", "known", "at", "jump"]) (sc := defScope mRInit) (by decide +kernel))
        (fun _ _ _ _ _ => pg_name (i := 5) scRInit.nd rfl (Or.inl rfl)) (fun _ _ _ _ _ => pts_nil) (fun _ _ _ _ _ => pv 5) (fun _ _ _ _ _ => pe_bl)) rfl))))))), ?_⟩
    have e1 : inR 2 40 (.int b) = true := decide_eq_true ⟨b2, b40⟩
    refine ⟨_, rfl, .int b, "int", 2, 40, rfl, .int b, _, rfl, ?_⟩
    rw [e1]
    refine iteF ?_
    intro d hd
    have s0 : Same H (upd H d (.dT [])) := L2.Same.new hd
    obtain ⟨as, hls, hps⟩ := hl
    have las : as.length = js.length := by rw [Paired.len hps, List.length_map]
    refine ⟨_, rfl, l, as.map V.ref, rfl, .inl (.inl (s0 _ _ hls)), for_it (walk_enum (xs := as.map V.ref)) (fun i σ H2 => ∃ v4 v5 : Option V, σ = [some (.ref p), some (.int b), some (.ref l), some (.ref d), v4, v5] ∧ Same H H2 ∧ JD H2 d (js.take i))
      ⟨none, none, rfl, s0, [], upd_same, rfl⟩ (fun i σ H2 _ ⟨_, _, _, s2, _⟩ => s2.seq (.inl (.inl hls))) ?_ ?_⟩
    · rintro i x σ H2 H3 hi ⟨v4, v5, rfl, s2, kvs, hkd, hkk⟩ ⟨T', x0, y0, rfl, hT, rfl, h1, h2⟩
      cases h1
      obtain ⟨c, hc, rfl⟩ := map_at h2
      obtain ⟨xs, hxs, hcx⟩ := Paired.get hps hc
      obtain ⟨j, hj, rfl⟩ := map_at hxs
      have s3 : Same H2 (upd H2 T' (.tup [.int (i : Nat), .ref c])) := L2.Same.new hT
      have ok' := ok j (List.mem_of_getElem? hj)
      have hc3 : (upd H2 T' (.tup [.int (i : Nat), .ref c])) c = some (.tup (pairV j)) := (s2.trans s3) _ _ hcx
      refine ⟨T', _, rfl, .inl (.inl upd_same), rfl, _, _, rfl, _, _, rfl, rfl, ?_⟩
      refine ⟨_, rfl, _, rfl, .ref c, "tuple", b, rfl, .tup hc3, fun z => (by cases z), fun a' xs' ea hx => ?_⟩
      cases ea
      rw [hc3] at hx
      cases hx
      refine ⟨fun y hy => ?_, fun H4 s4 => ⟨_, rfl, ?_⟩⟩
      · simp only [pairV, List.mem_cons, List.not_mem_nil, or_false] at hy
        rcases hy with rfl | rfl
        · exact ⟨_, .int _⟩
        · exact ⟨_, .int _⟩
      · have ej : jv b (pairV j) = true := by show decide (0 ≤ j.1 ∧ j.1 < j.2 ∧ j.2 ≤ b - 1) = true; exact decide_eq_true ok'
        rw [ej]
        refine iteF ?_
        have hd4 := (s3.trans s4) _ _ hkd
        refine ⟨_, rfl, _, rfl, d, _, rfl, DGet.t (k := pairK j) hd4 (s4 _ _ hc3), _, rfl, ?_⟩
        rw [dT_has hkk]
        have hnot : j ∉ js.take i := fun hm => by
          obtain ⟨i', hi', e⟩ := List.mem_take_iff_getElem.mp hm
          have hj2 := (List.getElem?_eq_some_iff.mp hj)
          obtain ⟨hlt, e3⟩ := hj2
          have := (List.getElem_inj (h₀ := by omega) (h₁ := hlt) nd).mp (e.trans e3.symm)
          omega
        rw [decide_eq_false hnot]
        refine iteF ?_
        have hnone : valV kvs (pairK j) = none := by
          cases e : valV kvs (pairK j) with
          | none => rfl
          | some v =>
            have := dT_has hkk j
            rw [e, decide_eq_false hnot] at this
            cases this
        have hkl : kvs.length = (js.take i).length := by
          have e := congrArg List.length hkk
          rw [List.length_map, List.length_map] at e
          exact e
        have npd : ∀ c o, H c = some o → c ≠ d := fun c o e => ne_of_none e hd
        refine ⟨_, rfl, _, rfl, d, _, rfl, DPut.t (k := pairK j) hd4 (s4 _ _ hc3) (small (by rw [hkl, List.length_take]; omega)), _, _, rfl, fun c' o' e => ?_, _, upd_same, ?_⟩
        · rw [upd_ne (npd c' o' e)]
          exact ((s2.trans s3).trans s4) _ _ e
        · rw [putK_new _ hnone, List.map_append, hkk, take_more hj, List.map_append]; rfl
    · rintro σ H2 ⟨v4, v5, rfl, s2, kvs, hkd, hkk⟩
      rw [List.length_map, las, List.take_length] at hkk
      have hkl : kvs.length = js.length := by
        have e := congrArg List.length hkk
        rw [List.length_map, List.length_map] at e
        exact e
      refine ⟨_, rfl, d, kvs, rfl, hkd, _, _, rfl, rfl, _, rfl, ?_⟩
      have e5 : decide ((120 : Int) < ((kvs.length : Nat) : Int)) = false := decide_eq_false (by omega)
      rw [e5]
      refine iteF ?_
      have npd : p ≠ d := ne_of_none hp hd
      refine ⟨_, rfl, _, rfl, p, C, dx, [], rfl, s2 _ _ hp, T.cl, T.nB, (by show 0 < 1000; decide), ?_⟩
      have hd3 : (upd H2 p (.ins C dx (putF "blocks" (.int b) []))) d = some (.dT kvs) := by rw [upd_ne npd.symm]; exact hkd
      refine ⟨_, rfl, d, kvs, js, rfl, .inl hd3, hkk, fun qs bs r hperm hsrt hpb hr => ?_⟩
      have npr : p ≠ r := fun z => by rw [← z, upd_same] at hr; cases hr
      refine ⟨_, rfl, p, C, dx, _, rfl, (by rw [upd_ne npr, upd_same]), T.cl, T.nR, (by show 1 < 1000; decide), ?_⟩
      have lk : (putF "rows" (.ref r) (putF "blocks" (.int b) [])).lookup ("rows" : Str) = some (.ref r) := by rw [lookup_putF, if_pos rfl]
      generalize hH4 : upd (upd (upd H2 p (.ins C dx (putF "blocks" (.int b) []))) r (.lst (bs.map V.ref))) p (.ins C dx (putF "rows" (.ref r) (putF "blocks" (.int b) []))) = H4
      have h4p : H4 p = some (.ins C dx (putF "rows" (.ref r) (putF "blocks" (.int b) []))) := by rw [← hH4, upd_same]
      have h4r : H4 r = some (.lst (bs.map V.ref)) := by rw [← hH4, upd_ne npr.symm, upd_same]
      have h4o : ∀ c o, c ≠ p → H2 c = some o → H4 c = some o := fun c o hc e => by
        rw [← hH4, upd_ne hc, upd_ne (fun z => by rw [← z, upd_ne hc, e] at hr; cases hr), upd_ne hc]; exact e
      have hpb4 : Tus H4 bs (qs.map jl) := pairedJ hpb fun c xs e => by
        have hcp : c ≠ p := fun z => by rw [z, upd_same] at e; cases e
        rw [upd_ne hcp] at e
        exact h4o _ _ hcp e
      refine ⟨_, rfl, p, C, dx, _, _, rfl, h4p, T.cl, T.nR, lk, r, rfl, ⟨_, .inl (.inl h4r)⟩, fun e he => ?_⟩
      have lbs : bs.length = qs.length := by rw [Paired.len hpb4, List.length_map]
      have ndq : qs.Nodup := (List.Perm.nodup_iff hperm).mpr nd
      have s4 : ∀ {H' : Hp}, Same H4 H' → Tus H' bs (qs.map jl) := fun s => hpb4.mono s.ts
      have npe : e ≠ p := fun z => by rw [z, h4p] at he; cases he
      have nre : e ≠ r := fun z => by rw [z, h4r] at he; cases he
      refine dcT_it (walk_list (xs := bs.map V.ref)) (fun i H5 => Same H4 H5 ∧ ∃ kv5, H5 e = some (.dT kv5) ∧ kv5.map (·.1) = (qs.take i).map pairK) ⟨L2.Same.new he, [], upd_same, rfl⟩ (fun i H5 _ hh => .inl (.inl (hh.1 _ _ h4r))) ?_ ?_
      · rintro i x H5 H6 hi ⟨s5, kv5, hkv, hk5⟩ ⟨rfl, hx⟩
        obtain ⟨c, hc, rfl⟩ := map_at hx
        obtain ⟨xs, hxs, hcx⟩ := Paired.get hpb4 hc
        obtain ⟨j, hj, rfl⟩ := map_at hxs
        have hkl : kv5.length = (qs.take i).length := by
          have e := congrArg List.length hk5
          rw [List.length_map, List.length_map] at e
          exact e
        have hnot : j ∉ qs.take i := fun hm => by
          obtain ⟨i', hi', e⟩ := List.mem_take_iff_getElem.mp hm
          obtain ⟨hlt, e3⟩ := List.getElem?_eq_some_iff.mp hj
          have := (List.getElem_inj (h₀ := by omega) (h₁ := hlt) ndq).mp (e.trans e3.symm)
          omega
        have hnone : valV kv5 (pairK j) = none := by
          cases e : valV kv5 (pairK j) with
          | none => rfl
          | some v =>
            have := dT_has hk5 j
            rw [e, decide_eq_false hnot] at this
            cases this
        have hql : qs.length ≤ 120 := by rw [hperm.length_eq]; exact h120
        refine ⟨rfl, _, rfl, kv5, pairK j, c, rfl, s5 _ _ hcx, hkv, small (by rw [hkl, List.length_take]; omega), fun c' o' e' => ?_, _, upd_same, ?_⟩
        · rw [upd_ne (ne_of_none e' he)]; exact s5 _ _ e'
        · rw [putK_new _ hnone, List.map_append, hk5, take_more hj, List.map_append]; rfl
      · rintro H5 ⟨s5, kv5, hkv, hk5⟩
        rw [List.length_map, lbs, List.take_length] at hk5
        refine ⟨_, rfl, p, C, dx, _, rfl, s5 _ _ h4p, T.cl, T.nT, (by rw [fR_two]; show 2 < 1000; decide), ?_⟩
        rw [fR_put]
        refine q _ qs hperm hsrt ⟨⟨dx, r, e, upd_same, ⟨bs, ?_, ?_⟩, kv5, ?_, hk5⟩⟩ fun c o hc ncp => ?_
        · rw [upd_ne npr.symm]; exact s5 _ _ h4r
        · refine (s4 s5).mono fun c xs ec => ?_
          rw [upd_ne (fun z => by rw [z, s5 _ _ h4p] at ec; cases ec)]; exact ec
        · rw [upd_ne npe]; exact hkv
        · rw [upd_ne ncp]
          exact s5 _ _ (h4o c o ncp (s2 _ _ hc))
end
end Yf
set_option Elab.async false
set_option linter.all false
set_option maxRecDepth 100000
set_option maxHeartbeats 1000000
/-! G7: come_to, come_from, useful_jumps. -/
namespace Yf
open PySem PySem.Spec PyProof.Rows L2

def reach (F : List Int) (js : List Jp) : List Int := js.foldl (fun F p => if p.1 ∈ F then p.2 :: F else F) F
def back (F : List Int) (js : List Jp) : List Int := js.foldl (fun F p => if p.2 ∈ F then p.1 :: F else F) F
/-- a dict whose keys are the ints of F -/
def ID (H : Hp) (d : Addr) (n : Nat) (F : List Int) : Prop := ∃ kvs : List (Key × V), H d = some (.dK kvs) ∧ kvs.length ≤ n ∧ ∀ x : Int, (valV kvs (Sum.inl x : Key)).isSome = decide (x ∈ F)
theorem Paired.rev {α β : Type} {F : α → β → Prop} : ∀ {l₁ : List α} {l₂ : List β}, Paired F l₁ l₂ → Paired F l₁.reverse l₂.reverse
  | _, _, .nil => .nil
  | _, _, .cons r t => by rw [List.reverse_cons, List.reverse_cons]; exact Paired.app (Paired.rev t) (.cons r .nil)
theorem id_one {H : Hp} {d : Addr} (z : Int) : ID (upd H d (.dK (mergeK [] [((Sum.inl z : Key), V.bl true)]))) d 1 [z] := by
  refine ⟨_, upd_same, ?_, fun x => ?_⟩
  · exact length_putK [] (Sum.inl z : Key) (.bl true)
  · show (valV (putK [] (Sum.inl z : Key) (.bl true)) (Sum.inl x)).isSome = _
    rw [valV_put, valV_nil]
    by_cases h : x = z
    · rw [if_pos (by rw [h]), decide_eq_true (by rw [h]; exact List.mem_singleton.mpr rfl)]; rfl
    · rw [if_neg (fun e => h (Sum.inl.inj e)), decide_eq_false (fun e => h (List.mem_singleton.mp e))]; rfl
theorem id_put {H : Hp} {d : Addr} {n : Nat} {F : List Int} {kvs : List (Key × V)} (i : ID H d n F) (h : H d = some (.dK kvs)) (z : Int) : ID (upd H d (.dK (putK kvs (Sum.inl z : Key) (.bl true)))) d (n + 1) (z :: F) := by
  obtain ⟨kvs', h1, h2, h3⟩ := i
  rw [h] at h1
  cases h1
  refine ⟨_, upd_same, ?_, fun x => ?_⟩
  · have := length_putK kvs (Sum.inl z : Key) (.bl true); omega
  · rw [valV_put]
    by_cases hx : x = z
    · rw [if_pos (by rw [hx]), decide_eq_true (by rw [hx]; exact List.mem_cons_self)]; rfl
    · rw [if_neg (fun e => hx (Sum.inl.inj e)), h3]
      refine decide_eq_decide.mpr ⟨fun m => List.mem_cons_of_mem _ m, fun m => (List.mem_cons.mp m).resolve_left hx⟩
def spComeTo : Sp := fun vs H Q _ => ∃ b l js, vs = [.int b, .ref l] ∧ JL H l js ∧ js.length ≤ 1000 ∧ ∀ (H' : Hp) (p : Addr), Same H H' → ID H' p 1001 (reach [0] js) → Q (.ref p) H'
def spComeFrom : Sp := fun vs H Q _ => ∃ b l js, vs = [.int b, .ref l] ∧ JL H l js ∧ js.length ≤ 1000 ∧ ∀ (H' : Hp) (p : Addr), Same H H' → ID H' p 1001 (back [b - 1] js.reverse) → Q (.ref p) H'
section
variable {P : Program} {w : World} {K : PySem.W.Frag} {mg : Str → Option Value} {base : Heap}
theorem scComeTo : FnScope ["blocks", "jumps", "found", "u", "v"] ["blocks", "jumps"] (defScope sComeTo) := ⟨rfl, rfl, rfl, by decide +kernel, rfl, by decide +kernel, by decide +kernel⟩
theorem ok_comeTo {f : Addr} {fd : FuncData} (D : Dn K mg "come_to" sComeTo ["blocks", "jumps"] f fd) : FnOk P w K mg base CX0 1 f fd ["blocks", "jumps"] spComeTo := by
  refine D.F.ok scComeTo (fun vs H Q E h => ?_) (fun cdv A outer s H vs Q E hr h => ?_)
  · obtain ⟨b, l, js, rfl, _⟩ := h
    rfl
  · obtain ⟨b, l, js, rfl, hl, hlen, q⟩ := h
    have hu := hu_of hr
    refine ⟨_, pss_cons (ps_set (i := 2) scComeTo.nd rfl (.inl rfl) (pe_disp (pps_cons pe_int pe_bl pps_nil) rfl rfl (by simp) (by decide)))
      (pss_cons (ps_for PassesOwn.never rfl (pi_list (pv 1)) (pg_tup rfl (pgs_cons (pg_name (i := 3) scComeTo.nd rfl (.inl rfl)) (pgs_cons (pg_name (i := 4) scComeTo.nd rfl (.inl rfl)) pgs_nil)))
        (pss_one (ps_if (pt_cmp (pc_din hu (pv 3) (pv 2))) (pss_one (ps_dput hu (pv 2) (pv 4) pe_bl rfl)) pss_nil)))
      (pss_one (ps_ret (pv 2)))), ?_⟩
    intro d hd
    refine ⟨upd_same, [(Sum.inl 0, .bl true)], rfl, (by decide), ?_⟩
    generalize hH1 : upd (upd H d (.dK [])) d (.dK (mergeK [] [((Sum.inl 0 : Key), V.bl true)])) = H1
    have s1 : Same H H1 := by rw [← hH1]; exact (L2.Same.new hd).put hd
    have i1 : ID H1 d 1 [0] := by
      rw [← hH1]
      exact id_one 0
    obtain ⟨as, hla, hps⟩ := hl
    have las : as.length = js.length := by rw [Paired.len hps, List.length_map]
    refine ⟨_, rfl, l, rfl, ⟨_, .inl (.inl (s1 _ _ hla))⟩, for_it (walk_list (xs := as.map V.ref)) (fun i σ H2 => ∃ v3 v4 : Option V, σ = [some (.int b), some (.ref l), some (.ref d), v3, v4] ∧ Same H H2 ∧ ID H2 d (i + 1) (reach [0] (js.take i)))
      ⟨none, none, rfl, s1, i1⟩ (fun i σ H2 _ ⟨_, _, _, s2, _⟩ => .inl (.inl (s2 _ _ hla))) ?_ ?_⟩
    · rintro i x σ H2 H3 hi ⟨v3, v4, rfl, s2, hid⟩ ⟨rfl, hx⟩
      obtain ⟨c, hc, rfl⟩ := map_at hx
      obtain ⟨xs, hxs, hcx⟩ := Paired.get hps hc
      obtain ⟨j, hj, rfl⟩ := map_at hxs
      have hil : i < js.length := (List.getElem?_eq_some_iff.mp hj).1
      have hstep : reach [0] (js.take (i + 1)) = if j.1 ∈ reach [0] (js.take i) then j.2 :: reach [0] (js.take i) else reach [0] (js.take i) := by
        unfold reach
        rw [take_more hj, List.foldl_append]; rfl
      refine ⟨c, _, rfl, .inl (.inl (s2 _ _ hcx)), rfl, _, _, rfl, _, _, rfl, rfl, ?_⟩
      obtain ⟨kvs, hkd, hkl, hkk⟩ := id hid
      refine ⟨_, rfl, _, rfl, d, _, rfl, DGet.k (k := Sum.inl j.1) hkd, _, rfl, ?_⟩
      rw [hkk]
      by_cases hm : j.1 ∈ reach [0] (js.take i)
      · rw [decide_eq_true hm]
        refine iteT ?_
        refine ⟨_, rfl, _, rfl, d, _, rfl, DPut.k (k := Sum.inl j.2) hkd (small (by omega)), _, _, rfl, s2.put hd, ?_⟩
        rw [hstep, if_pos hm]
        exact id_put hid hkd j.2
      · rw [decide_eq_false hm]
        refine iteF ?_
        refine ⟨_, _, rfl, s2, ?_⟩
        rw [hstep, if_neg hm]
        obtain ⟨kvs, h1, h2, h3⟩ := hid
        exact ⟨kvs, h1, by omega, h3⟩
    · rintro σ H2 ⟨v3, v4, rfl, s2, hid⟩
      rw [List.length_map, las, List.take_length] at hid
      obtain ⟨kvs, h1, h2, h3⟩ := hid
      exact ⟨_, rfl, q H2 d s2 ⟨kvs, h1, by omega, h3⟩⟩
theorem scComeFrom : FnScope ["blocks", "jumps", "found", "u", "v"] ["blocks", "jumps"] (defScope sComeFrom) := ⟨rfl, rfl, rfl, by decide +kernel, rfl, by decide +kernel, by decide +kernel⟩
theorem ok_comeFrom {f : Addr} {fd : FuncData} (D : Dn K mg "come_from" sComeFrom ["blocks", "jumps"] f fd) : FnOk P w K mg base CX0 1 f fd ["blocks", "jumps"] spComeFrom := by
  refine D.F.ok scComeFrom (fun vs H Q E h => ?_) (fun cdv A outer s H vs Q E hr h => ?_)
  · obtain ⟨b, l, js, rfl, _⟩ := h
    rfl
  · obtain ⟨b, l, js, rfl, hl, hlen, q⟩ := h
    have hu := hu_of hr
    refine ⟨_, pss_cons (ps_set (i := 2) scComeFrom.nd rfl (.inl rfl) (pe_disp (pps_cons (pe_op op_sub (pv 0) pe_int) pe_bl pps_nil) rfl rfl (by simp) (by decide)))
      (pss_cons (ps_for PassesOwn.never rfl (pi_list (pe_revL (pv 1))) (pg_tup rfl (pgs_cons (pg_name (i := 3) scComeFrom.nd rfl (.inl rfl)) (pgs_cons (pg_name (i := 4) scComeFrom.nd rfl (.inl rfl)) pgs_nil)))
        (pss_one (ps_if (pt_cmp (pc_din hu (pv 4) (pv 2))) (pss_one (ps_dput hu (pv 2) (pv 3) pe_bl rfl)) pss_nil)))
      (pss_one (ps_ret (pv 2)))), ?_⟩
    intro d hd
    refine ⟨_, rfl, _, _, rfl, rfl, upd_same, [(Sum.inl (b - 1), .bl true)], rfl, (by show 1 ≤ 15; decide), ?_⟩
    generalize hH1 : upd (upd H d (.dK [])) d (.dK (mergeK [] [((Sum.inl (b - 1) : Key), V.bl true)])) = H1
    have s1 : Same H H1 := by rw [← hH1]; exact (L2.Same.new hd).put hd
    have i1 : ID H1 d 1 [b - 1] := by
      rw [← hH1]
      exact id_one (b - 1)
    obtain ⟨as, hla, hps⟩ := hl
    have las : as.length = js.length := by rw [Paired.len hps, List.length_map]
    refine ⟨_, rfl, l, _, rfl, .inl (.inl (s1 _ _ hla)), fun l2 hl2 => ?_⟩
    have s2 := L2.Same.new (o := .lst (as.map V.ref).reverse) hl2
    have hrev : (as.map V.ref).reverse = as.reverse.map V.ref := by rw [List.map_reverse]
    have hps2 : Tus H as.reverse (js.reverse.map jl) := by rw [List.map_reverse]; exact Paired.rev hps
    have hdl : d ≠ l2 := by
      obtain ⟨kvs, h1, _⟩ := i1
      exact ne_of_none h1 hl2
    refine ⟨l2, rfl, ⟨_, .inl (.inl upd_same)⟩, for_it (walk_list (xs := as.reverse.map V.ref)) (fun i σ H2 => ∃ v3 v4 : Option V, σ = [some (.int b), some (.ref l), some (.ref d), v3, v4] ∧ Same H H2 ∧ H2 l2 = some (.lst (as.reverse.map V.ref)) ∧ ID H2 d (i + 1) (back [b - 1] (js.reverse.take i)))
      ⟨none, none, rfl, s1.trans s2, by rw [upd_same, hrev], ?_⟩ (fun i σ H2 _ ⟨_, _, _, _, h2, _⟩ => .inl (.inl h2)) ?_ ?_⟩
    · obtain ⟨kvs, h1, h2, h3⟩ := i1
      exact ⟨kvs, s2 _ _ h1, h2, h3⟩
    · rintro i x σ H2 H3 hi ⟨v3, v4, rfl, s2, hl2', hid⟩ ⟨rfl, hx⟩
      obtain ⟨c, hc, rfl⟩ := map_at hx
      obtain ⟨xs, hxs, hcx⟩ := Paired.get hps2 hc
      obtain ⟨j, hj, rfl⟩ := map_at hxs
      have hil : i < js.length := by have := (List.getElem?_eq_some_iff.mp hj).1; rwa [List.length_reverse] at this
      have hstep : back [b - 1] (js.reverse.take (i + 1)) = if j.2 ∈ back [b - 1] (js.reverse.take i) then j.1 :: back [b - 1] (js.reverse.take i) else back [b - 1] (js.reverse.take i) := by
        unfold back
        rw [take_more hj, List.foldl_append]; rfl
      refine ⟨c, _, rfl, .inl (.inl (s2 _ _ hcx)), rfl, _, _, rfl, _, _, rfl, rfl, ?_⟩
      obtain ⟨kvs, hkd, hkl, hkk⟩ := id hid
      refine ⟨_, rfl, _, rfl, d, _, rfl, DGet.k (k := Sum.inl j.2) hkd, _, rfl, ?_⟩
      rw [hkk]
      by_cases hm : j.2 ∈ back [b - 1] (js.reverse.take i)
      · rw [decide_eq_true hm]
        refine iteT ?_
        refine ⟨_, rfl, _, rfl, d, _, rfl, DPut.k (k := Sum.inl j.1) hkd (small (by omega)), _, _, rfl, s2.put hd, by rw [upd_ne hdl.symm]; exact hl2', ?_⟩
        rw [hstep, if_pos hm]
        exact id_put hid hkd j.1
      · rw [decide_eq_false hm]
        refine iteF ?_
        refine ⟨_, _, rfl, s2, hl2', ?_⟩
        rw [hstep, if_neg hm]
        obtain ⟨kvs, h1, h2, h3⟩ := hid
        exact ⟨kvs, h1, by omega, h3⟩
    · rintro σ H2 ⟨v3, v4, rfl, s2, _, hid⟩
      rw [List.length_map, List.length_reverse, las, ← List.length_reverse (as := js), List.take_length] at hid
      obtain ⟨kvs, h1, h2, h3⟩ := hid
      exact ⟨_, rfl, q H2 d s2 ⟨kvs, h1, by rw [List.length_reverse] at h2; omega, h3⟩⟩
end
end Yf
set_option Elab.async false
set_option linter.all false
set_option maxRecDepth 100000
set_option maxHeartbeats 1000000
/-! G8: useful_jumps, going_on. -/
namespace Yf
open PySem PySem.Spec PyProof.Rows L2

def usefulM (b : Int) (js ks : List Jp) : List Jp := ks.filter fun p => decide (p.1 ∈ reach [0] js) && decide (p.2 ∈ back [b - 1] js.reverse)
def spUseful : Sp := fun vs H Q _ => ∃ b l js, vs = [.int b, .ref l] ∧ JL H l js ∧ js.length ≤ 1000 ∧ ∀ (H' : Hp) (p : Addr), Same H H' → JL H' p (usefulM b js js) → Q (.ref p) H'
theorem ix_tupK {X : Cx} (K : PySem.W.Frag) (h : X.K = K) : IxR X (rIxT K) := h ▸ ix_tup
theorem jl_push {H : Hp} {L c : Addr} {bs : List Addr} {ks : List Jp} {j : Jp} (h : H L = some (.lst (bs.map V.ref))) (p : Tus H bs (ks.map jl)) (hc : Tu H c (jl j)) : JL (upd H L (.lst (bs.map V.ref ++ [V.ref c]))) L (ks ++ [j]) := by
  have ts : TS H (upd H L (.lst (bs.map V.ref ++ [V.ref c]))) := TS.put (TS.refl H) (fun xs e => by rw [h] at e; cases e)
  refine ⟨bs ++ [c], by rw [upd_same, List.map_append]; rfl, ?_⟩
  rw [List.map_append]
  exact Paired.app (p.mono ts) (.cons (ts _ _ hc) .nil)
theorem filter_more {α : Type} {l : List α} {i : Nat} {x : α} (f : α → Bool) (h : l[i]? = some x) : (l.take (i + 1)).filter f = (l.take i).filter f ++ if f x = true then [x] else [] := by
  rw [take_more h, List.filter_append, List.filter_cons, List.filter_nil]
section
variable {P : Program} {w : World} {K : PySem.W.Frag} {mg : Str → Option Value} {base : Heap}
theorem scUseful : FnScope ["blocks", "jumps", "ahead", "behind", "jump"] ["blocks", "jumps"] (defScope sUseful) := ⟨rfl, rfl, rfl, by decide +kernel, rfl, by decide +kernel, by decide +kernel⟩
theorem ok_useful {f fT fF : Addr} {fd fdT fdF : FuncData} (D : Dn K mg "useful_jumps" sUseful ["blocks", "jumps"] f fd) (GT : FnOk P w K mg base CX0 1 fT fdT ["blocks", "jumps"] spComeTo) (DT : Dn K mg "come_to" sComeTo ["blocks", "jumps"] fT fdT)
    (GF : FnOk P w K mg base CX0 1 fF fdF ["blocks", "jumps"] spComeFrom) (DF : Dn K mg "come_from" sComeFrom ["blocks", "jumps"] fF fdF) : FnOk P w K mg base CX0 2 f fd ["blocks", "jumps"] spUseful := by
  refine D.F.ok scUseful (fun vs H Q E h => ?_) (fun cdv A outer s H vs Q E hr h => ?_)
  · obtain ⟨b, l, js, rfl, _⟩ := h
    rfl
  · obtain ⟨b, l, js, rfl, hl, hlen, q⟩ := h
    have hu := hu_of hr
    refine ⟨_, pss_cons (ps_asg (pe_tup (pa_cons (pe_call GT hr (by rfl) DT.g DT.F.kp DT.b .nil pass0 (pa_cons (pv 0) (pa_cons (pv 1) pa_nil))) (pa_cons (pe_call GF hr (by rfl) DF.g DF.F.kp DF.b .nil pass0 (pa_cons (pv 0) (pa_cons (pv 1) pa_nil))) pa_nil)))
        (pg_tup rfl (pgs_cons (pg_name (i := 2) scUseful.nd rfl (.inr rfl)) (pgs_cons (pg_name (i := 3) scUseful.nd rfl (.inr rfl)) pgs_nil))))
      (pss_one (ps_ret (pe_lc (own := [("jump", 4)]) (g := gName 4) rfl scUseful.nd (pi_list (pv 1)) (blkOk_by (N := ["blocks", "jumps", "ahead", "behind", "jump"]) (sc := defScope sUseful) (by decide +kernel))
        (fun _ _ _ _ _ => pg_name (i := 4) scUseful.nd rfl (Or.inl rfl))
        (fun _ _ _ _ _ => pts_one (by exact (PW.pt (pw_and (pt_cmp (pc_din hu (pe_ix (ix_tupK K rfl) (pv 4) pe_int (fun _ _ => rfl)) (pv 2))) (pw_and1 (pt_cmp (pc_din hu (pe_ix (ix_tupK K rfl) (pv 4) pe_int (fun _ _ => rfl)) (pv 3))))))))
        (fun _ _ _ _ _ => pv 4)))), ?_⟩
    obtain ⟨as, hla, hps⟩ := id hl
    have las : as.length = js.length := by rw [Paired.len hps, List.length_map]
    refine ⟨_, rfl, _, rfl, b, l, js, rfl, hl, hlen, fun H1 d1 s1 i1 => ?_⟩
    refine ⟨_, rfl, _, rfl, b, l, js, rfl, hl.same s1, hlen, fun H2 d2 s2 i2 => ?_⟩
    have s12 := s1.trans s2
    have i1' : ID H2 d1 1001 (reach [0] js) := let ⟨kvs, e1, e2⟩ := i1; ⟨kvs, s2 _ _ e1, e2⟩
    refine ⟨by show 2 ≤ sizeLine; decide, fun p hp => ?_⟩
    have s3 : Same H2 (upd H2 p (.tup [.ref d1, .ref d2])) := L2.Same.new hp
    refine ⟨p, _, rfl, .inl (.inl upd_same), rfl, _, _, rfl, _, _, rfl, rfl, ?_⟩
    have s13 := s12.trans s3
    refine ⟨_, rfl, l, rfl, ⟨_, .inl (.inl (s13 _ _ hla))⟩, fun L hLn => ?_⟩
    generalize upd H2 p (.tup [.ref d1, .ref d2]) = H3 at *
    obtain ⟨kv1, a1, a2, a3⟩ := i1'
    obtain ⟨kv2, b1, b2, b3⟩ := id i2
    refine lc_it (walk_list (xs := as.map V.ref)) (fun i H4 => Same H3 H4 ∧ JL H4 L (usefulM b js (js.take i)))
      ⟨L2.Same.new hLn, [], upd_same, .nil⟩ (fun i H4 _ hh => .inl (.inl (hh.1 _ _ (s13 _ _ hla)))) ?_ ?_
    · rintro i y' H4 H5 hi ⟨s4, bs, hbs, hpb⟩ ⟨rfl, hy⟩
      obtain ⟨c, hc, rfl⟩ := map_at hy
      obtain ⟨xs, hxs, hcx⟩ := Paired.get hps hc
      obtain ⟨j, hj, rfl⟩ := map_at hxs
      have hil : i < js.length := (List.getElem?_eq_some_iff.mp hj).1
      have hc4 := s4 _ _ (s13 _ _ hcx)
      have hus : usefulM b js (js.take (i + 1)) = usefulM b js (js.take i) ++ if (decide (j.1 ∈ reach [0] js) && decide (j.2 ∈ back [b - 1] js.reverse)) = true then [j] else [] := by
        exact filter_more _ hj
      have hno : L ≠ c := fun z => by rw [← z] at hc4; rw [hbs] at hc4; cases hc4
      refine ⟨rfl, _, rfl, c, _, ((0 : Nat) : Int), .int j.1, rfl, rfl, .inl (.inl hc4), atI_nat rfl, _, rfl, d1, _, rfl, DGet.k (k := Sum.inl j.1) (s4 _ _ (s3 _ _ a1)), ?_⟩
      rw [a3]
      cases h1 : decide (j.1 ∈ reach [0] js) with
      | false =>
        rw [h1] at hus
        refine ⟨_, rfl, iteF (iteF ?_)⟩
        refine ⟨s4, ?_⟩
        rw [hus, if_neg (by simp), List.append_nil]
        exact ⟨bs, hbs, hpb⟩
      | true =>
        rw [h1] at hus
        refine ⟨_, rfl, iteT ?_⟩
        refine ⟨_, rfl, c, _, ((1 : Nat) : Int), .int j.2, rfl, rfl, .inl (.inl hc4), atI_nat rfl, _, rfl, d2, _, rfl, DGet.k (k := Sum.inl j.2) (s4 _ _ (s3 _ _ b1)), ?_⟩
        rw [b3]
        cases h2 : decide (j.2 ∈ back [b - 1] js.reverse) with
        | false =>
          rw [h2] at hus
          refine ⟨_, rfl, iteF ?_⟩
          refine ⟨s4, ?_⟩
          rw [hus, if_neg (by simp), List.append_nil]
          exact ⟨bs, hbs, hpb⟩
        | true =>
          rw [h2] at hus
          refine ⟨_, rfl, iteT ?_⟩
          refine ⟨_, rfl, ?_⟩
          have hbl : bs.length ≤ 1000 := by
            rw [Paired.len hpb, List.length_map]
            exact Nat.le_trans (List.length_filter_le _ _) (by rw [List.length_take]; omega)
          refine ⟨_, hbs, small (by rw [List.length_map]; omega), s4.put hLn, ?_⟩
          rw [hus, if_pos (by simp)]
          exact jl_push hbs hpb hc4
    · rintro H4 ⟨s4, hL4⟩
      rw [List.length_map, las, List.take_length] at hL4
      exact q H4 L (s13.trans s4) hL4
end
end Yf
set_option Elab.async false
set_option linter.all false
set_option maxRecDepth 100000
set_option maxHeartbeats 1000000
/-! G9: going_on. -/
namespace Yf
open PySem PySem.Spec PyProof.Rows L2

/-- the jumps that leave x -/
def outsM (js : List Jp) (x : Int) : List Jp := js.filter fun p => decide (p.1 = x)
/-- a dict: to each block the list of the jumps that leave it; its lists are young against H0 -/
structure GDk (n : Nat) (H0 H : Hp) (kvs : List (Key × V)) (js : List Jp) : Prop where
  len : kvs.length ≤ n
  no : ∀ x : Int, valV kvs (Sum.inl x : Key) = none → outsM js x = []
  yes : ∀ (x : Int) (v : V), valV kvs (Sum.inl x : Key) = some v → ∃ l, v = .ref l ∧ JL H l (outsM js x) ∧ H0 l = none
  inj : ∀ (x y : Int) (l : Addr), valV kvs (Sum.inl x : Key) = some (.ref l) → valV kvs (Sum.inl y : Key) = some (.ref l) → x = y
def GD (n : Nat) (H0 H : Hp) (d : Addr) (js : List Jp) : Prop := ∃ kvs : List (Key × V), H d = some (.dK kvs) ∧ GDk n H0 H kvs js
theorem outsM_more {js : List Jp} {j : Jp} (x : Int) : outsM (js ++ [j]) x = outsM js x ++ if j.1 = x then [j] else [] := by
  unfold outsM
  rw [List.filter_append, List.filter_cons, List.filter_nil]
  by_cases h : j.1 = x <;> simp [h]
theorem gd_put {n : Nat} {H0 H : Hp} {d p : Addr} {kvs : List (Key × V)} {ks : List Jp} {x : Int} (g : GDk n H0 H kvs ks) (hd : H d = some (.dK kvs)) (hx : valV kvs (Sum.inl x : Key) = none) (hp : H p = none) (hp0 : H0 p = none) :
    GDk (n + 1) H0 (upd (upd H p (.lst [])) d (.dK (putK kvs (Sum.inl x : Key) (.ref p)))) (putK kvs (Sum.inl x : Key) (.ref p)) ks := by
  have npd : p ≠ d := fun z => by rw [z, hd] at hp; cases hp
  have st : ∀ c o, H c = some o → c ≠ d → (upd (upd H p (.lst [])) d (.dK (putK kvs (Sum.inl x : Key) (.ref p)))) c = some o := fun c o e hc => by
    rw [upd_ne hc, upd_ne (fun z => by rw [z, hp] at e; cases e)]; exact e
  have ts : TS H (upd (upd H p (.lst [])) d (.dK (putK kvs (Sum.inl x : Key) (.ref p)))) := fun b xs e => st b _ e (fun z => by rw [z, hd] at e; cases e)
  refine ⟨?_, fun y hy => ?_, fun y v hy => ?_, fun y z l hy hz => ?_⟩
  · have := length_putK kvs (Sum.inl x : Key) (.ref p); have := g.len; omega
  · rw [valV_put] at hy
    by_cases h : (Sum.inl y : Key) = Sum.inl x
    · rw [if_pos h] at hy; cases hy
    · rw [if_neg h] at hy; exact g.no y hy
  · rw [valV_put] at hy
    by_cases h : (Sum.inl y : Key) = Sum.inl x
    · rw [if_pos h] at hy
      cases hy
      refine ⟨p, rfl, ?_, hp0⟩
      rw [show y = x from Sum.inl.inj h, g.no x hx]
      exact ⟨[], by rw [upd_ne npd, upd_same]; rfl, .nil⟩
    · rw [if_neg h] at hy
      obtain ⟨l, e, j, h0⟩ := g.yes y v hy
      obtain ⟨as, ha, _⟩ := id j
      exact ⟨l, e, j.stay ts (fun o e => st l o e (fun z => by rw [z, hd] at ha; cases ha)), h0⟩
  · have old : ∀ (t : Int), valV kvs (Sum.inl t : Key) = some (.ref p) → False := fun t ht => by
      obtain ⟨l, e, ⟨as, ha, _⟩, _⟩ := g.yes t _ ht
      cases e
      rw [hp] at ha
      cases ha
    rw [valV_put] at hy hz
    by_cases h : (Sum.inl y : Key) = Sum.inl x
    · rw [if_pos h] at hy
      cases hy
      by_cases h2 : (Sum.inl z : Key) = Sum.inl x
      · exact (Sum.inl.inj h).trans (Sum.inl.inj h2).symm
      · rw [if_neg h2] at hz
        exact (old _ hz).elim
    · rw [if_neg h] at hy
      by_cases h2 : (Sum.inl z : Key) = Sum.inl x
      · rw [if_pos h2] at hz
        cases hz
        exact (old _ hy).elim
      · rw [if_neg h2] at hz
        exact g.inj y z l hy hz
theorem gd_app {n : Nat} {H0 H : Hp} {l c : Addr} {kvs : List (Key × V)} {ks : List Jp} {j : Jp} {xs : List V} (g : GDk n H0 H kvs ks) (hx : valV kvs (Sum.inl j.1 : Key) = some (.ref l)) (hc : Tu H c (jl j)) (hl : H l = some (.lst xs)) :
    GDk n H0 (upd H l (.lst (xs ++ [.ref c]))) kvs (ks ++ [j]) := by
  have st : ∀ c o, H c = some o → c ≠ l → (upd H l (.lst (xs ++ [.ref c]))) c = some o := fun c o e hc => by rw [upd_ne hc]; exact e
  have ts : TS H (upd H l (.lst (xs ++ [.ref c]))) := TS.put (TS.refl H) (fun xs e => by rw [hl] at e; cases e)
  refine ⟨g.len, fun y hy => ?_, fun y v hy => ?_, g.inj⟩
  · rw [outsM_more, g.no y hy, if_neg (fun z => by rw [z, hy] at hx; cases hx)]; rfl
  · obtain ⟨l', e, h1, h0⟩ := g.yes y v hy
    refine ⟨l', e, ?_, h0⟩
    subst e
    rw [outsM_more]
    by_cases h : j.1 = y
    · rw [if_pos h]
      rw [h, hy] at hx
      cases hx
      obtain ⟨as, ha, hp⟩ := h1
      rw [hl] at ha
      cases ha
      exact jl_push hl hp hc
    · rw [if_neg h, List.append_nil]
      have nl : l' ≠ l := fun z => h (g.inj _ _ l hx (by rw [← z]; exact hy))
      exact h1.stay ts (fun o e => by rw [upd_ne nl]; exact e)
def spGoingOn : Sp := fun vs H Q _ => ∃ l js, vs = [.ref l] ∧ JL H l js ∧ js.length ≤ 1000 ∧ ∀ (H' : Hp) (p : Addr), Same H H' → GD 1000 H H' p js → Q (.ref p) H'
section
variable {P : Program} {w : World} {K : PySem.W.Frag} {mg : Str → Option Value} {base : Heap}
theorem scGoingOn : FnScope ["jumps", "found", "jump"] ["jumps"] (defScope sGoingOn) := ⟨rfl, rfl, rfl, by decide +kernel, rfl, by decide +kernel, by decide +kernel⟩
theorem ok_goingOn {f : Addr} {fd : FuncData} (D : Dn K mg "going_on" sGoingOn ["jumps"] f fd) : FnOk P w K mg base CX0 1 f fd ["jumps"] spGoingOn := by
  refine D.F.ok scGoingOn (fun vs H Q E h => ?_) (fun cdv A outer s H vs Q E hr h => ?_)
  · obtain ⟨l, js, rfl, _⟩ := h
    rfl
  · obtain ⟨l, js, rfl, hl, hlen, q⟩ := h
    have hu := hu_of hr
    refine ⟨_, pss_cons (ps_set (i := 1) scGoingOn.nd rfl (.inl rfl) pe_dnewK)
      (pss_cons (ps_for PassesOwn.never rfl (pi_list (pv 0)) (pg_name (i := 2) scGoingOn.nd rfl (.inl rfl))
        (pss_cons (ps_if (pt_cmp (pc_dnotin hu (pe_ix (ix_tupK K rfl) (pv 2) pe_int (fun _ _ => rfl)) (pv 1))) (pss_one (ps_dput hu (pv 1) (pe_ix (ix_tupK K rfl) (pv 2) pe_int (fun _ _ => rfl)) (pe_lst pa_nil) rfl)) pss_nil)
        (pss_one (ps_expr (pe_bm PySem.F.plainAttrs_list PySem.F.slot_list_append PySem.F.type_list_append (by exact mt_append) (pe_dget hu (pv 1) (pe_ix (ix_tupK K rfl) (pv 2) pe_int (fun _ _ => rfl)) (fun _ _ => rfl)) (pa_cons (pv 2) pa_nil))))))
      (pss_one (ps_ret (pv 1)))), ?_⟩
    intro d hd
    obtain ⟨as, hla, hps⟩ := id hl
    have las : as.length = js.length := by rw [Paired.len hps, List.length_map]
    have s1 : Same H (upd H d (.dK [])) := L2.Same.new hd
    refine ⟨_, rfl, l, rfl, ⟨_, .inl (.inl (s1 _ _ hla))⟩, for_it (walk_list (xs := as.map V.ref)) (fun i σ H2 => ∃ v2 : Option V, σ = [some (.ref l), some (.ref d), v2] ∧ Same H H2 ∧ GD i H H2 d (js.take i))
      ⟨none, rfl, s1, [], upd_same, Nat.le_refl _, fun _ _ => rfl, fun x v e => (by cases e), fun x y l e => (by cases e)⟩ (fun i σ H2 _ ⟨_, _, s2, _⟩ => .inl (.inl (s2 _ _ hla))) ?_ ?_⟩
    · rintro i x σ H2 H3 hi ⟨v2, rfl, s2, kvs, hkd, g⟩ ⟨rfl, hx⟩
      obtain ⟨c, hc, rfl⟩ := map_at hx
      obtain ⟨xs, hxs, hcx⟩ := Paired.get hps hc
      obtain ⟨j, hj, rfl⟩ := map_at hxs
      have hil : i < js.length := (List.getElem?_eq_some_iff.mp hj).1
      have hc3 := s2 _ _ hcx
      refine ⟨_, rfl, c, _, ((0 : Nat) : Int), .int j.1, rfl, rfl, .inl (.inl hc3), atI_nat rfl, _, rfl, d, _, rfl, DGet.k (k := Sum.inl j.1) hkd, _, rfl, ?_⟩
      cases hv : valV kvs (Sum.inl j.1 : Key) with
      | none =>
        refine iteT ?_
        refine ⟨?_, fun p hp => ?_⟩
        · show 0 ≤ sizeLine; exact Nat.zero_le _
        have hp0 : H p = none := Same.free s2 hp
        have npd : p ≠ d := fun z => by rw [z, hkd] at hp; cases hp
        have hkd4 : (upd H3 p (.lst [])) d = some (.dK kvs) := by rw [upd_ne npd.symm]; exact hkd
        have hc4 : (upd H3 p (.lst [])) c = some (.tup ((jl j).map V.int)) := by rw [upd_ne (fun z => by rw [← z, hc3] at hp; cases hp)]; exact hc3
        have hkl := g.len
        refine ⟨_, rfl, _, rfl, c, _, ((0 : Nat) : Int), .int j.1, rfl, rfl, .inl (.inl hc4), atI_nat rfl, d, _, rfl, DPut.k (k := Sum.inl j.1) hkd4 (small (by omega)), ?_⟩
        have g5 := gd_put g hkd hv hp hp0
        have s5 : Same H (upd (upd H3 p (.lst [])) d (.dK (putK kvs (Sum.inl j.1 : Key) (.ref p)))) := (s2.put hp0).put hd
        have hx5 : valV (putK kvs (Sum.inl j.1 : Key) (.ref p)) (Sum.inl j.1 : Key) = some (.ref p) := by rw [valV_put, if_pos rfl]
        have hd5 : (upd (upd H3 p (.lst [])) d (.dK (putK kvs (Sum.inl j.1 : Key) (.ref p)))) d = some (.dK (putK kvs (Sum.inl j.1 : Key) (.ref p))) := upd_same
        generalize upd (upd H3 p (.lst [])) d (.dK (putK kvs (Sum.inl j.1 : Key) (.ref p))) = H5 at *
        generalize putK kvs (Sum.inl j.1 : Key) (.ref p) = kv5 at *
        obtain ⟨la, hla5⟩ : ∃ la : List V, H5 p = some (.lst la) ∧ la.length ≤ 1000 := by
          obtain ⟨l', e, ⟨bs, hb, hp⟩, _⟩ := GDk.yes g5 _ _ hx5
          cases e
          refine ⟨_, hb, ?_⟩
          rw [List.length_map, Paired.len hp, List.length_map]
          exact Nat.le_trans (List.length_filter_le _ _) (by rw [List.length_take]; omega)
        have hc5 := s5 _ _ hcx
        have nld : p ≠ d := fun z => by rw [z, hd5] at hla5; cases hla5.1
        have nH : H p = none := by
          obtain ⟨l', e, _, h0⟩ := GDk.yes g5 _ _ hx5
          cases e
          exact h0
        refine ⟨_, rfl, _, rfl, c, _, ((0 : Nat) : Int), .int j.1, rfl, rfl, .inl (.inl hc5), atI_nat rfl, d, .ref p, rfl, ?_, .inl ⟨rfl, _, .inl (.inl hla5.1)⟩, _, rfl, p, la, .ref c, rfl, rfl, hla5.1, small (by omega), _, rfl, Same.put s5 nH, kv5, by rw [upd_ne nld.symm]; exact hd5, ?_⟩
        · have := DGet.k (k := Sum.inl j.1) hd5
          rw [hx5] at this
          exact this
        · rw [take_more hj]
          exact gd_app g5 hx5 hc5 hla5.1
      | some v =>
        refine iteF ?_
        obtain ⟨l2, e2, _⟩ := g.yes _ _ hv
        subst e2
        have g5 : GDk (i + 1) H H3 kvs (js.take i) := ⟨by have := g.len; omega, g.no, g.yes, g.inj⟩
        obtain ⟨la, hla5⟩ : ∃ la : List V, H3 l2 = some (.lst la) ∧ la.length ≤ 1000 := by
          obtain ⟨l', e, ⟨bs, hb, hp⟩, _⟩ := GDk.yes g5 _ _ hv
          cases e
          refine ⟨_, hb, ?_⟩
          rw [List.length_map, Paired.len hp, List.length_map]
          exact Nat.le_trans (List.length_filter_le _ _) (by rw [List.length_take]; omega)
        have hc5 := s2 _ _ hcx
        have nld : l2 ≠ d := fun z => by rw [z, hkd] at hla5; cases hla5.1
        have nH : H l2 = none := by
          obtain ⟨l', e, _, h0⟩ := GDk.yes g5 _ _ hv
          cases e
          exact h0
        refine ⟨_, rfl, _, rfl, c, _, ((0 : Nat) : Int), .int j.1, rfl, rfl, .inl (.inl hc5), atI_nat rfl, d, .ref l2, rfl, ?_, .inl ⟨rfl, _, .inl (.inl hla5.1)⟩, _, rfl, l2, la, .ref c, rfl, rfl, hla5.1, small (by omega), _, rfl, Same.put s2 nH, kvs, by rw [upd_ne nld.symm]; exact hkd, ?_⟩
        · have := DGet.k (k := Sum.inl j.1) hkd
          rw [hv] at this
          exact this
        · rw [take_more hj]
          exact gd_app g5 hv hc5 hla5.1
    · rintro σ H2 ⟨v2, rfl, s2, kvs, hkd, g⟩
      rw [List.length_map, las, List.take_length] at g
      exact ⟨_, rfl, q H2 d s2 ⟨kvs, hkd, by have := g.len; omega, g.no, g.yes, g.inj⟩⟩
end
end Yf
set_option Elab.async false
set_option linter.all false
set_option maxRecDepth 100000
set_option maxHeartbeats 1000000
/-! G10: runs_from. -/
namespace Yf
open PySem PySem.Spec PyProof.Rows L2 GenW

/-- a for over a walk, by an index -/
theorem for_itI {ι : Type} {J : It} {n : Nat} {G : Hp → Prop} {Y : Nat → Hp → V → Hp → Prop} (w : Walk J n G Y) {g : TG} {tb : TSI ι} {D : EndsI ι} {i : ι} {σ : L2.St} {H : Hp} (Pv : ι → Nat → L2.St → Hp → Prop) (h0 : Pv i 0 σ H) (hG : ∀ a j σ H, j ≤ n → Pv a j σ H → G H)
    (hs : ∀ a j x σ H H', j < n → Pv a j σ H → Y j H x H' → g x σ H' fun σ2 H2 => tb { D with nx := fun a' => Pv a' (j + 1), ct := fun a' => Pv a' (j + 1), bk := D.nx } a σ2 H2) (hd : ∀ a σ H, Pv a n σ H → D.nx a σ H) :
    ∃ W : ι → Nat → Nat → L2.St → Hp → Prop, (∃ m, W i 0 m σ H) ∧ ∀ a j m σ H, W a j m σ H →
      (J.stop j H ∧ D.nx a σ H) ∨ (J.go j H ∧ ∃ N : ι → L2.St → Hp → Prop, (∀ a' σ' H', N a' σ' H' → ∃ m', m' < m ∧ W a' (j + 1) m' σ' H') ∧ ∀ x H', J.yld j H x H' → g x σ H' fun σ2 H2 => tb { D with nx := N, ct := N, bk := D.nx } a σ2 H2) := by
  refine ⟨fun a j m σ H => m = n - j ∧ j ≤ n ∧ Pv a j σ H, ⟨n, by simp, Nat.zero_le _, h0⟩, ?_⟩
  rintro a j m σ H ⟨rfl, hi, p⟩
  have q := hG a j σ H hi p
  by_cases hlt : j < n
  · exact .inr ⟨w.goes j H hlt q, fun a' => Pv a' (j + 1), fun a' σ' H' p' => ⟨n - (j + 1), by omega, rfl, hlt, p'⟩, fun x H' y => hs a j x σ H H' hlt p (w.yields j H x H' hlt q y)⟩
  · obtain rfl : j = n := by omega
    exact .inl ⟨w.stops H q, hd a σ H p⟩
/-- a generator def, by the words about it -/
theorem gfn2_fun {P : Program} {w : World} {K : PySem.W.Frag} {mg : Str → Option Value} {base : Heap} {k : Nat} {x qual : Str} {st : Stmt} {f : Addr} {fd : FuncData} {N ps : List Str} {sp : SpG2} (F : Fun K x qual st f fd) (S : GScope N ps (defScope st))
    (len : ∀ vs H n Q, sp vs H n Q → vs.length = ps.length)
    (hbody : ∀ (cdv : Value) (A : Around) (outer : List Env) (s : Shared) (H : Hp) (vs : List V) (n : Nat) (Q : List V → Hp → Prop) (Z : List Addr) (O : List Nat) (F : List V → Shared → Shared → Prop), Room k (A.deeper (envOfC qual (defScope st) s.heap.objs.size f cdv)) → sp vs H n Q →
      Loose (gX P w K mg base N qual (defScope st) f cdv A outer s H Z) Z →
      ∃ t : TSI Ix, GSts (gX P w K mg base N qual (defScope st) f cdv A outer s H Z) A (BGen (model P w) A s.os Z O F) (pz Z) (defBody st) t ∧ ∀ sw, Stand Z sw → t { nx := fun i _ H' => i.1 = 0 ∧ Stand Z i.2.2 ∧ Q i.2.1 H', rt := fun i v H' => v = .non ∧ i.1 = 0 ∧ Stand Z i.2.2 ∧ Q i.2.1 H' } (n, [], sw) (start N vs) H) :
    GFn2 P w K mg base (k + 1) f fd ps sp := by
  obtain ⟨oc, od, kV, doc, pm, an, cdv, ct, osl, rfl, lk, hcd⟩ := F.ex
  exact gfn2_of lk hcd S len fun A outer s H vs n Q Z O F => hbody cdv A outer s H vs n Q Z O F

def tYf (Z : List Addr) (tg : TGn2) : TSI Ix := fun D i σ H => Stand Z i.2.2 ∧ ∃ n r, i.1 = n + r ∧ tg σ H n (fun zs H1 => ∀ sw', Stand Z sw' → D.nx (r, i.2.1 ++ zs, sw') σ H1)
theorem gst_yf {X : Cx} {A : Around} {Z : List Addr} {O : List Nat} {F : List V → Shared → Shared → Prop} {e : Expr} {yp pos : Pos} {k : Nat} {tg : TGn2} (hpn : X.pn = []) (hz : ZOk X Z) (hZb : ∀ z ∈ Z, X.base.get? z = none) (hcs : cStatics ∉ Z) (he : PGen2 X k e tg) (hr : Room (k + 1) X.A) (hi : interactive X.env = false := by rfl) :
    GSt X A (BGen (model X.prog X.w) A X.s_0.os Z O F) (pz Z) (.Expr (.YieldFrom e yp) pos) (tYf Z tg) := gst_yfrom hpn hz hZb hcs he hr hi
def tYl (Z : List Addr) (te : TE) : TSI Ix := fun D i σ H => Stand Z i.2.2 ∧ te σ H fun x H1 => ∃ m, i.1 = m + 1 ∧ ∀ sw', Stand Z sw' → D.nx (m, i.2.1 ++ [x], sw') σ H1
theorem gst_yl {X : Cx} {A : Around} {Z : List Addr} {O : List Nat} {F : List V → Shared → Shared → Prop} {e : Expr} {yp pos : Pos} {te : TE} (hpn : X.pn = []) (hz : ZOk X Z) (he : PE X e te) (hco : X.env.scope.isCoroutine = false := by rfl) (hi : interactive X.env = false := by rfl) :
    GSt X A (BGen (model X.prog X.w) A X.s_0.os Z O F) (pz Z) (.Expr (.Yield (some e) yp) pos) (tYl Z te) := gst_yield hpn hz he hco hi
/-- the ways from x to last, without x -/
def pathsM (js : List Jp) (last : Int) : Nat → Int → List (List Int)
  | 0, _ => []
  | d + 1, x => (if x = last then [[]] else []) ++ (outsM js x).flatMap fun j => (pathsM js last d j.2).map (j.2 :: ·)
/-- a dict of the jumps that leave, as it is read -/
def GR (H : Hp) (d : Addr) (js : List Jp) : Prop := ∃ kvs : List (Key × V), H d = some (.dK kvs) ∧ (∀ x : Int, valV kvs (Sum.inl x : Key) = none → outsM js x = []) ∧
  ∀ (x : Int) (v : V), valV kvs (Sum.inl x : Key) = some v → ∃ l, v = .ref l ∧ JL H l (outsM js x)
theorem GD.gr {n : Nat} {H0 H : Hp} {d : Addr} {js : List Jp} (g : GD n H0 H d js) : GR H d js := let ⟨kvs, h, k⟩ := g; ⟨kvs, h, k.no, fun x v e => let ⟨l, a, b, _⟩ := k.yes x v e; ⟨l, a, b⟩⟩
theorem GR.same {H H' : Hp} {d : Addr} {js : List Jp} (g : GR H d js) (s : Same H H') : GR H' d js := let ⟨kvs, h, k1, k2⟩ := g; ⟨kvs, s _ _ h, k1, fun x v e => let ⟨l, a, b⟩ := k2 x v e; ⟨l, a, b.same s⟩⟩
def spRunsFrom (d : Nat) : SpG2 := fun vs H n Q => d ≠ 0 ∧ ∃ g last b js bg x, vs = [.ref g, .int last, .ref b] ∧ GR H g js ∧ js.length ≤ 1000 ∧ (∀ j ∈ js, j.1 < j.2 ∧ j.2 ≤ last) ∧ TR H b bg ∧ bg.getLast? = some x ∧ bg.length + d ≤ 1000 ∧ last - x < (d : Int) ∧ n = (pathsM js last d x).length ∧
  ∀ (H' : Hp) (as : List Addr), Same H H' → Paired (TR H') as ((pathsM js last d x).map (bg ++ ·)) → Q (as.map V.ref) H'
theorem atI_last {xs : List V} {z : V} (h : xs.getLast? = some z) : atI xs (-1) = some z := by
  have bne : xs ≠ [] := fun e => by rw [e] at h; cases h
  have hpos : 0 < xs.length := List.length_pos_iff.mpr bne
  unfold atI ixN
  rw [if_neg (by decide), if_pos (by omega)]
  have e : (-1 + (xs.length : Int)).toNat = xs.length - 1 := by omega
  rw [e]
  show xs[xs.length - 1]? = some z
  rw [← List.getLast?_eq_getElem?, h]
section
variable {P : Program} {w : World} {K : PySem.W.Frag} {mg : Str → Option Value} {base : Heap}
theorem scRunsFrom : GScope ["going", "last", "beginning", "jump"] ["going", "last", "beginning"] (defScope sRunsFrom) := ⟨rfl, rfl, rfl, by decide +kernel, rfl, by decide +kernel, by decide +kernel⟩
theorem ok_runsFrom {f : Addr} {fd : FuncData} (D : Dn K mg "runs_from" sRunsFrom ["going", "last", "beginning"] f fd) : ∀ d, GFn2 P w K mg base (2 * d + 2) f fd ["going", "last", "beginning"] (spRunsFrom d) := by
  intro d
  induction d with
  | zero => exact ⟨fun vs H n Q h => absurd rfl h.1, fun A outer s H args us vs n Q hr e0 hb r h => absurd rfl h.1⟩
  | succ d ih =>
    refine gfn2_fun D.F scRunsFrom (fun vs H n Q h => ?_) (fun cdv A outer s H vs n Q Z O F hr h L => ?_)
    · obtain ⟨_, g, last, b, js, bg, x, rfl, _⟩ := h
      rfl
    · obtain ⟨_, g, last, b, js, bg, x, rfl, hg, hjl, hjs, hb, hbx, hbl, hfu, rfl, q⟩ := h
      have hu := hu_of hr
      have bne : bg ≠ [] := fun z => by rw [z] at hbx; cases hbx
      have atL : atI (bg.map V.int) (-1) = some (V.int x) := atI_last (by rw [List.getLast?_map, hbx]; rfl)
      obtain ⟨y0, hy0⟩ : ∃ y0 : List (List Int), y0 = if x = last then [[]] else [] := ⟨_, rfl⟩
      have hpM : pathsM js last (d + 1) x = y0 ++ (outsM js x).flatMap fun j => (pathsM js last d j.2).map (j.2 :: ·) := by rw [hy0]; rfl
      obtain ⟨u, hu2, hq⟩ : ∃ u : TSI Ix, GSts (gX P w K mg base ["going", "last", "beginning", "jump"] "runs_from" (defScope sRunsFrom) f cdv A outer s H Z) A (BGen (model P w) A s.os Z O F) (pz Z) ((defBody sRunsFrom).drop 1) u ∧
          ∀ (yas : List Addr) (sw : Shared), Stand Z sw → Paired (TR H) yas (y0.map (bg ++ ·)) → u { nx := fun i _ H' => i.1 = 0 ∧ Stand Z i.2.2 ∧ Q i.2.1 H', rt := fun i v H' => v = .non ∧ i.1 = 0 ∧ Stand Z i.2.2 ∧ Q i.2.1 H' }
            (((outsM js x).flatMap fun j => (pathsM js last d j.2).map (j.2 :: ·)).length, yas.map V.ref, sw) (start ["going", "last", "beginning", "jump"] [.ref g, .int last, .ref b]) H := by
        refine ⟨_, (gsts_one (gst_for (pz_addr Z) rfl (pi_list (pe_dget2 hu (pv 0) (pe_ix (ix_tupK K rfl) (pv 2) (pe_un un_neg pe_int) (fun _ _ => rfl)) (pe_lst pa_nil) ⟨rfl, rfl, rfl, rfl⟩)) (pg_name (i := 3) scRunsFrom.nd rfl (.inl rfl))
          (gsts_one (gst_yf rfl L.ok L.base L.sta (pgen2_call ih (hr.mono (by omega)) (by rfl) D.g D.F.kp D.b .nil (pa_cons (pv 0) (pa_cons (pv 1) (pa_cons (pe_op op_catA (pv 2) (pe_tup (pa_cons (pe_ix (ix_tupK K rfl) (pv 3) pe_int (fun _ _ => rfl)) pa_nil))) pa_nil)))) hr)))), fun yas sw hst hyas => ?_⟩
        obtain ⟨kvs, hkd, hno, hyes⟩ := hg
        refine ⟨_, rfl, g, rfl, .inl ⟨kvs, .inl hkd⟩, _, rfl, _, rfl, b, _, -1, .int x, rfl, rfl, hb.sq, atL, ?_, fun p hp => ?_⟩
        · show 0 ≤ sizeLine; exact Nat.zero_le _
        have s1 : Same H (upd H p (.lst [])) := L2.Same.new hp
        obtain ⟨l, el, hl⟩ : ∃ l, (valV kvs (Sum.inl x : Key)).getD (.ref p) = .ref l ∧ JL (upd H p (.lst [])) l (outsM js x) := by
          cases hv : valV kvs (Sum.inl x : Key) with
          | none => exact ⟨p, rfl, by rw [hno x hv]; exact ⟨[], upd_same, .nil⟩⟩
          | some v =>
            obtain ⟨l, e, j⟩ := hyes x v hv
            exact ⟨l, e, j.same s1⟩
        refine ⟨_, DGet.k (k := Sum.inl x) (s1 _ _ hkd), l, el, ?_⟩
        generalize upd H p (.lst []) = H1 at *
        obtain ⟨as, hla, hps⟩ := id hl
        have las : as.length = (outsM js x).length := by rw [Paired.len hps, List.length_map]
        refine ⟨⟨_, .inl (.inl hla)⟩, ?_⟩
        refine for_itI (D := { nx := fun i _ H' => i.1 = 0 ∧ Stand Z i.2.2 ∧ Q i.2.1 H', rt := fun i v H' => v = .non ∧ i.1 = 0 ∧ Stand Z i.2.2 ∧ Q i.2.1 H' }) (walk_list (xs := as.map V.ref)) (fun (a : Ix) i σ H2 => ∃ v3 : Option V, σ = [some (.ref g), some (.int last), some (.ref b), v3] ∧ Same H1 H2 ∧ Stand Z a.2.2 ∧
          a.1 = (((outsM js x).drop i).flatMap fun j => (pathsM js last d j.2).map (j.2 :: ·)).length ∧ ∃ yas : List Addr, a.2.1 = yas.map V.ref ∧ Paired (TR H2) yas ((y0 ++ ((outsM js x).take i).flatMap fun j => (pathsM js last d j.2).map (j.2 :: ·)).map (bg ++ ·)))
          ⟨none, rfl, Same.refl _, hst, rfl, yas, rfl, ?_⟩ (fun a i σ H2 _ ⟨_, _, s2, _⟩ => .inl (.inl (s2 _ _ hla))) ?_ ?_
        · rw [List.take_zero, List.flatMap_nil, List.append_nil]
          exact Paired.mapP hyas fun _ _ t => t.same s1
        · rintro ⟨m, ys, sw2⟩ i y σ H2 H3 hi ⟨v3, rfl, s2, hst2, hm, yas2, rfl, hpy⟩ ⟨rfl, hy⟩
          obtain ⟨c, hc, rfl⟩ := map_at hy
          obtain ⟨xs, hxs, hcx⟩ := Paired.get hps hc
          obtain ⟨j, hj, rfl⟩ := map_at hxs
          have hmem : j ∈ outsM js x := List.mem_of_getElem? hj
          have hj1 : j.1 = x := by
            have := (List.mem_filter.mp hmem).2
            exact of_decide_eq_true this
          have hjj := hjs j (List.mem_filter.mp hmem).1
          have hdrop : (outsM js x).drop i = j :: (outsM js x).drop (i + 1) := by
            obtain ⟨hlt, e⟩ := List.getElem?_eq_some_iff.mp hj
            rw [← e, List.drop_eq_getElem_cons hlt]
          rw [hdrop, List.flatMap_cons, List.length_append] at hm
          have s12 := s1.trans s2
          have hc3 := s2 _ _ hcx
          refine ⟨hst2, _, _, hm, _, rfl, _, rfl, _, rfl, _, rfl, c, _, ((1 : Nat) : Int), .int j.2, rfl, rfl, .inl (.inl hc3), atI_nat rfl, ?_, fun p2 hp2 => ?_⟩
          · show 1 ≤ sizeLine; decide
          have s3 : Same H3 (upd H3 p2 (.tup [.int j.2])) := L2.Same.new hp2
          refine catA_tu (ys := [j.2]) (hb.same (s12.trans s3)) (.inl upd_same) (by simp only [List.length_singleton]; omega) fun H4 b2 s4 t4 => ?_
          have s14 := (s12.trans s3).trans s4
          refine ⟨by omega, g, last, b2, js, bg ++ [j.2], j.2, rfl, GR.same ⟨kvs, hkd, hno, hyes⟩ s14, hjl, hjs, t4, by simp, by rw [List.length_append, List.length_singleton]; omega, by omega, by rw [List.length_map], fun H5 as2 s5 hp5 sw3 hst3 => ?_⟩
          refine ⟨_, rfl, (((s2.trans s3).trans s4).trans s5), hst3, rfl, yas2 ++ as2, by rw [List.map_append], ?_⟩
          rw [take_more hj, List.flatMap_append, ← List.append_assoc, List.map_append]
          refine Paired.app (Paired.mapP hpy fun _ _ t => t.same ((s3.trans s4).trans s5)) ?_
          rw [List.flatMap_cons, List.flatMap_nil, List.append_nil, List.map_map]
          have e : (pathsM js last d j.2).map ((fun z => bg ++ z) ∘ fun z => j.2 :: z) = (pathsM js last d j.2).map (fun z => (bg ++ [j.2]) ++ z) := List.map_congr_left fun z _ => by simp
          rw [e]
          exact hp5
        · rintro ⟨m, ys, sw2⟩ σ H2 ⟨v3, rfl, s2, hst2, hm, yas2, rfl, hpy⟩
          rw [List.length_map, las, List.drop_length] at hm
          rw [List.length_map, las, List.take_length] at hpy
          refine ⟨hm, hst2, q H2 yas2 (s1.trans s2) ?_⟩
          rw [hpM]
          exact hpy
      refine ⟨_, gsts_cons (pz_addr Z) (gst_if (PT.big (pt_cmpR op_eq (pe_ix (ix_tupK K rfl) (pv 2) (pe_un un_neg pe_int) (fun _ _ => rfl)) (pv 1) (nomark _))) (gsts_one (gst_yl rfl L.ok (pv 2))) gsts_nil) hu2, fun sw hst => ?_⟩
      refine ⟨_, rfl, _, rfl, b, _, -1, .int x, rfl, rfl, hb.sq, atL, _, rfl, rfl, _, rfl, ?_⟩
      have ed : decide (V.int x = V.int last) = decide (x = last) := decide_eq_decide.mpr ⟨fun z => by injection z, fun z => by rw [z]⟩
      rw [ed]
      by_cases hx : x = last
      · rw [decide_eq_true hx]
        rw [if_pos hx] at hy0
        refine iteT ⟨hst, _, rfl, _, ?_, fun sw' hst' => hq [b] sw' hst' ?_⟩
        · rw [hpM, hy0]; simp [Nat.add_comm]
        · rw [hy0]
          exact .cons (by show TR H b (bg ++ []); rw [List.append_nil]; exact hb) .nil
      · rw [decide_eq_false hx]
        rw [if_neg hx] at hy0
        refine iteF ?_
        have := hq [] sw hst (by rw [hy0]; exact .nil)
        rw [hpM, hy0]
        exact this
end
end Yf
set_option Elab.async false
set_option linter.all false
set_option maxRecDepth 100000
set_option maxHeartbeats 1000000
/-! G11: Part(routine, jumps). -/
namespace Yf
open PySem PySem.Spec PyProof.Rows L2

abbrev mPInit : Stmt := inClass sPart 0
abbrev mPJumps : Stmt := inClass sPart 2
abbrev mPEq : Stmt := inClass sPart 6
abbrev mPKept : Stmt := inClass sPart 14
def fP (r d u : Addr) : List (Str × V) := [("routine", .ref r), ("allowed", .ref d), ("useful", .ref u)]
theorem fP_routine (r d u : Addr) : (fP r d u).lookup ("routine" : Str) = some (.ref r) := by simp [fP, List.lookup]
theorem fP_allowed (r d u : Addr) : (fP r d u).lookup ("allowed" : Str) = some (.ref d) := by
  have e : (("allowed" : Str) == "routine") = false := by decide +kernel
  simp [fP, List.lookup, e]
theorem fP_useful (r d u : Addr) : (fP r d u).lookup ("useful" : Str) = some (.ref u) := by
  have e : (("useful" : Str) == "routine") = false := by decide +kernel
  have e2 : (("useful" : Str) == "allowed") = false := by decide +kernel
  simp [fP, List.lookup, e, e2]
structure PC (K : PySem.W.Frag) (C : Addr) : Prop where
  cl : Cls K C
  nR : NoAttr K C "routine"
  nA : NoAttr K C "allowed"
  nU : NoAttr K C "useful"
structure PAt (C CR : Addr) (H : Hp) (p r : Addr) (b : Int) (rows al : List Jp) : Prop where
  ob : ∃ dx d u, H p = some (.ins C dx (fP r d u)) ∧ RAt CR H r b rows ∧ JD H d al ∧ JL H u (usefulM b al al)
/-- a dict whose keys are these jumps -/
def TD (H : Hp) (d : Addr) (n : Nat) (ks : List Jp) : Prop := ∃ kvs, H d = some (.dT kvs) ∧ kvs.length ≤ n ∧ ∀ p : Jp, (valV kvs (pairK p)).isSome = decide (p ∈ ks)
theorem td_put {H : Hp} {d : Addr} {n : Nat} {ks : List Jp} {kvs : List (List Key × V)} (hn : kvs.length ≤ n) (h : ∀ p : Jp, (valV kvs (pairK p)).isSome = decide (p ∈ ks)) (j : Jp) : TD (upd H d (.dT (putK kvs (pairK j) (.bl true)))) d (n + 1) (ks ++ [j]) := by
  refine ⟨_, upd_same, ?_, fun p => ?_⟩
  · have := length_putK kvs (pairK j) (.bl true); omega
  · rw [valV_put]
    by_cases e : pairK p = pairK j
    · rw [if_pos e, decide_eq_true (by rw [pairK_inj e]; simp)]; rfl
    · rw [if_neg e, h]
      have ne : p ≠ j := fun z => e (by rw [z])
      refine decide_eq_decide.mpr ?_
      simp [ne]
theorem isKeys_tus {H : Hp} : ∀ {kvs : List (List Key × V)} {bs : List Addr} {js : List Jp}, kvs.map (·.1) = js.map pairK → IsKeys H kvs bs → Tus H bs (js.map jl)
  | [], _, [], _, .nil => .nil
  | [], _, _ :: _, e, _ => by cases e
  | kv :: r, _, [], e, _ => by cases e
  | kv :: r, _, j :: js, e, .cons (b := b) h t => by
    simp only [List.map_cons, List.cons.injEq] at e
    refine .cons ?_ (isKeys_tus e.2 t)
    show H b = some (.tup ((jl j).map V.int))
    rw [h, e.1]; rfl
/-- all but p stays -/
def But (p : Addr) (H H' : Hp) : Prop := ∀ c o, H c = some o → c ≠ p → H' c = some o
theorem But.trans {p : Addr} {H H1 H2 : Hp} (a : But p H H1) (b : But p H1 H2) : But p H H2 := fun c o e n => b c o (a c o e n) n
theorem _root_.L2.Same.but {p : Addr} {H H' : Hp} (s : Same H H') : But p H H' := fun c o e _ => s c o e
theorem But.put {p : Addr} {H : Hp} {o : HO} : But p H (upd H p o) := fun c u e n => by rw [upd_ne n]; exact e
theorem But.tus {p C dx : Addr} {fs : List (Str × V)} {H H' : Hp} (s : But p H H') (hp : H p = some (.ins C dx fs)) {as : List Addr} {xss : List (List Int)} (t : Tus H as xss) : Tus H' as xss :=
  t.mono fun b xs e => s b _ e (fun z => by rw [z, hp] at e; cases e)
theorem But.jl {p C dx : Addr} {fs : List (Str × V)} {H H' : Hp} (s : But p H H') (hp : H p = some (.ins C dx fs)) {l : Addr} {js : List Jp} (t : JL H l js) : JL H' l js :=
  let ⟨as, h, q⟩ := t; ⟨as, s _ _ h (fun z => by rw [z, hp] at h; cases h), s.tus hp q⟩
theorem But.jd {p C dx : Addr} {fs : List (Str × V)} {H H' : Hp} (s : But p H H') (hp : H p = some (.ins C dx fs)) {l : Addr} {js : List Jp} (t : JD H l js) : JD H' l js :=
  let ⟨kvs, h, q⟩ := t; ⟨kvs, s _ _ h (fun z => by rw [z, hp] at h; cases h), q⟩
theorem But.rAt {p C CR dx r : Addr} {fs : List (Str × V)} {b : Int} {js : List Jp} {H H' : Hp} (s : But p H H') (hp : H p = some (.ins C dx fs)) (n : r ≠ p) (R : RAt CR H r b js) : RAt CR H' r b js :=
  let ⟨dy, rl, d, h, l, kd⟩ := R.ob; ⟨dy, rl, d, s _ _ h n, s.jl hp l, s.jd hp kd⟩
theorem fP_one (r : Addr) : putF "routine" (.ref r) [] = [(("routine" : Str), V.ref r)] := rfl
theorem fP_two (r d : Addr) : putF "allowed" (.ref d) (putF "routine" (.ref r) []) = [(("routine" : Str), V.ref r), ("allowed", .ref d)] := by
  have e : ¬ ("routine" : Str) = "allowed" := by decide +kernel
  show (if ("routine" : Str) = "allowed" then _ else _) = _
  rw [if_neg e]; rfl
theorem fP_put (r d u : Addr) : putF "useful" (.ref u) (putF "allowed" (.ref d) (putF "routine" (.ref r) [])) = fP r d u := by
  have e : ¬ ("routine" : Str) = "useful" := by decide +kernel
  have e2 : ¬ ("allowed" : Str) = "useful" := by decide +kernel
  rw [fP_two]
  show (if ("routine" : Str) = "useful" then _ else (("routine" : Str), V.ref r) :: (if ("allowed" : Str) = "useful" then _ else _)) = _
  rw [if_neg e, if_neg e2]; rfl
theorem jd_len {kvs : List (List Key × V)} {js : List Jp} (e : kvs.map (·.1) = js.map pairK) : kvs.length = js.length := by
  have := congrArg List.length e
  rwa [List.length_map, List.length_map] at this
theorem jd_new {kvs : List (List Key × V)} {js : List Jp} {j : Jp} (e : kvs.map (·.1) = js.map pairK) (hn : j ∉ js) : valV kvs (pairK j) = none := by
  have := dT_has e j
  rw [decide_eq_false hn] at this
  cases h : valV kvs (pairK j) with
  | none => rfl
  | some v => rw [h] at this; cases this
theorem nd_take {α : Type} {l : List α} {i : Nat} {x : α} (nd : l.Nodup) (h : l[i]? = some x) : x ∉ l.take i := fun hm => by
  obtain ⟨i', hi', e⟩ := List.mem_take_iff_getElem.mp hm
  obtain ⟨hlt, e3⟩ := List.getElem?_eq_some_iff.mp h
  have := (List.getElem_inj (h₀ := by omega) (h₁ := hlt) nd).mp (e.trans e3.symm)
  omega
def spPInit (C CR : Addr) : Sp := fun vs H Q _ => ∃ p dx r b rows l js, vs = [.ref p, .ref r, .ref l] ∧ H p = some (.ins C dx []) ∧ RAt CR H r b rows ∧ Okj b rows ∧ rows.Nodup ∧ rows.length ≤ 120 ∧ JL H l js ∧ js.length ≤ 100000 ∧ (∀ j ∈ js, j ∈ rows) ∧
  ∀ (H' : Hp), PAt C CR H' p r b rows (rows.filter fun q => decide (q ∈ js)) → (∀ c o, H c = some o → c ≠ p → H' c = some o) → Q .non H'
section
variable {P : Program} {w : World} {K : PySem.W.Frag} {mg : Str → Option Value} {base : Heap}
theorem scPInit : FnScope ["self", "routine", "jumps", "named", "jump"] ["self", "routine", "jumps"] (defScope mPInit) := ⟨rfl, rfl, rfl, by decide +kernel, rfl, by decide +kernel, by decide +kernel⟩
theorem ok_PInit {C CR f fI fU : Addr} {fd fdI fdU : FuncData} (D : Mn K C "__init__" "Part.__init__" mPInit ["self", "routine", "jumps"] f fd) (T : PC K C) (TR : RC K CR)
    (GI : FnOk P w K mg base CX0 4 fI fdI ["self", "x"] (spRIn CR)) (DI : Mn K CR "__contains__" "Routine.__contains__" mRContains ["self", "x"] fI fdI)
    (GU : FnOk P w K mg base CX0 2 fU fdU ["blocks", "jumps"] spUseful) (DU : Dn K mg "useful_jumps" sUseful ["blocks", "jumps"] fU fdU) (B : Bi mg) : FnOk P w K mg base CX0 5 f fd ["self", "routine", "jumps"] (spPInit C CR) := by
  refine D.F.ok scPInit (fun vs H Q E h => ?_) (fun cdv A outer s H vs Q E hr h => ?_)
  · obtain ⟨p, dx, r, b, rows, l, js, rfl, _⟩ := h
    rfl
  · obtain ⟨p, dx, r, b, rows, l, js, rfl, hp, R, ok, nd, h120, hl, hjl, hin, q⟩ := h
    have hu := hu_of hr
    refine ⟨_, pss_cons (ps_set (i := 3) scPInit.nd rfl (.inr rfl) pe_dnewT)
      (pss_cons (ps_for PassesOwn.never rfl (pi_list (pv 2)) (pg_name (i := 4) scPInit.nd rfl (.inl rfl))
        (pss_cons (ps_if (pt_cmpR (op_notInOwn DI.m GI hr DI.b pass0) (pv 4) (pv 1) (by with_unfolding_all rfl)) (pss_one ps_dead) pss_nil)
        (pss_one (ps_dput hu (pv 3) (pv 4) pe_bl rfl))))
      (pss_cons (ps_fld (pv 0) (pv 1) rfl)
      (pss_cons (ps_fld (pv 0) (pe_dcT (own := [("jump", 4)]) (g := gName 4) hu rfl scPInit.nd (pi_list (pe_fld (pv 1) rfl)) (blkOk_by (N := ["self", "routine", "jumps", "named", "jump"]) (sc := defScope mPInit) (by decide +kernel))
        (fun _ _ _ _ _ => pg_name (i := 4) scPInit.nd rfl (Or.inl rfl)) (fun _ _ _ _ _ => pts_one (by exact (pt_cmp (pc_din hu (pv 4) (pv 3))))) (fun _ _ _ _ _ => pv 4) (fun _ _ _ _ _ => pe_bl)) rfl)
      (pss_one (ps_fld (pv 0) (pe_call GU (hr.mono (by decide)) (by rfl) DU.g DU.F.kp DU.b .nil pass0 (pa_cons (pe_fld (pv 1) rfl) (pa_cons (pe_callTy (call_list_dT rfl) (by rfl) B.list (by decide +kernel) (pa_cons (pe_fld (pv 0) rfl) pa_nil)) pa_nil))) rfl))))), ?_⟩
    intro d hd
    have s0 : Same H (upd H d (.dT [])) := L2.Same.new hd
    obtain ⟨as, hls, hps⟩ := id hl
    have las : as.length = js.length := by rw [Paired.len hps, List.length_map]
    refine ⟨_, rfl, l, rfl, ⟨_, .inl (.inl (s0 _ _ hls))⟩, for_it (walk_list (xs := as.map V.ref)) (fun i σ H2 => ∃ v4 : Option V, σ = [some (.ref p), some (.ref r), some (.ref l), some (.ref d), v4] ∧ Same H H2 ∧ TD H2 d i (js.take i))
      ⟨none, rfl, s0, [], upd_same, Nat.le_refl _, fun _ => rfl⟩ (fun i σ H2 _ ⟨_, _, s2, _⟩ => .inl (.inl (s2 _ _ hls))) ?_ ?_⟩
    · rintro i x σ H2 H3 hi ⟨v4, rfl, s2, kvs, hkd, hkl, hkk⟩ ⟨rfl, hx⟩
      obtain ⟨c, hc, rfl⟩ := map_at hx
      obtain ⟨xs, hxs, hcx⟩ := Paired.get hps hc
      obtain ⟨j, hj, rfl⟩ := map_at hxs
      have hil : i < js.length := (List.getElem?_eq_some_iff.mp hj).1
      have hjr := hin j (List.mem_of_getElem? hj)
      have hc3 : H3 c = some (.tup (pairV j)) := s2 _ _ hcx
      obtain ⟨dy, rl, rd, hr2, _⟩ := (R.same s2).ob
      refine ⟨_, rfl, _, rfl, r, dy, _, rfl, hr2, r, .ref c, b, rows, "tuple", rfl, R.same s2, ok, .tup hc3, fun z => (by cases z), fun c' xs' ec hc' => ?_⟩
      cases ec
      rw [hc3] at hc'
      cases hc'
      refine ⟨fun y hy => ?_, fun H4 s4 => ⟨_, rfl, _, rfl, ?_⟩⟩
      · simp only [pairV, List.mem_cons, List.not_mem_nil, or_false] at hy
        rcases hy with rfl | rfl
        · exact ⟨_, .int _⟩
        · exact ⟨_, .int _⟩
      · have eh : hasJ rows (pairV j) = true := by show decide (j ∈ rows) = true; exact decide_eq_true hjr
        rw [eh]
        refine iteF ?_
        have hkd4 := s4 _ _ hkd
        refine ⟨_, rfl, _, rfl, d, _, rfl, DPut.t (k := pairK j) hkd4 (s4 _ _ hc3) (Nat.lt_of_le_of_lt (Nat.le_trans hkl (by omega : i ≤ 100000)) (small (by omega))), _, rfl, Same.put (s2.trans s4) hd, ?_⟩
        rw [take_more hj]
        exact td_put hkl hkk j
    · rintro σ H2 ⟨v4, rfl, s2, kvs, hkd, hkl, hkk⟩
      rw [List.length_map, las, List.take_length] at hkk
      obtain ⟨dyr, rl0, rd0, hr0, _⟩ := R.ob
      have hp2 := s2 _ _ hp
      have npr : r ≠ p := fun z => by
        rw [z, hp] at hr0
        simp [fR] at hr0
      refine ⟨_, rfl, _, rfl, p, C, dx, [], rfl, hp2, T.cl, T.nR, (by show 0 < 1000; decide), ?_⟩
      have bt3 : But p H2 (upd H2 p (.ins C dx (putF "routine" (.ref r) []))) := But.put
      have hp3 : (upd H2 p (.ins C dx (putF "routine" (.ref r) []))) p = some (.ins C dx (putF "routine" (.ref r) [])) := upd_same
      generalize upd H2 p (.ins C dx (putF "routine" (.ref r) [])) = H3 at *
      have R3 : RAt CR H3 r b rows := bt3.rAt hp2 npr (R.same s2)
      have hkd3 : H3 d = some (.dT kvs) := bt3 _ _ hkd (fun z => by rw [z, hp2] at hkd; cases hkd)
      obtain ⟨dy, rl, rd, hr3, hrl3, hrd3⟩ := id R3.ob
      obtain ⟨rs, hrs, hprs⟩ := id hrl3
      have lrs : rs.length = rows.length := by rw [Paired.len hprs, List.length_map]
      refine ⟨_, rfl, r, CR, dy, _, _, rfl, hr3, TR.cl, TR.nR, fR_rows _ _ _, rl, rfl, ⟨_, .inl (.inl hrs)⟩, fun e he => ?_⟩
      refine dcT_it (walk_list (xs := rs.map V.ref)) (fun i H4 => Same H3 H4 ∧ JD H4 e ((rows.take i).filter fun q => decide (q ∈ js))) ⟨L2.Same.new he, [], upd_same, rfl⟩ (fun i H4 _ hh => .inl (.inl (hh.1 _ _ hrs))) ?_ ?_
      · rintro i x H4 H5 hi ⟨s4, kv4, hk4, ek4⟩ ⟨rfl, hx⟩
        obtain ⟨c, hc, rfl⟩ := map_at hx
        obtain ⟨xs, hxs, hcx⟩ := Paired.get hprs hc
        obtain ⟨j, hj, rfl⟩ := map_at hxs
        have hc5 : H5 c = some (.tup (pairV j)) := s4 _ _ hcx
        refine ⟨rfl, _, rfl, _, rfl, d, _, rfl, DGet.t (k := pairK j) (s4 _ _ hkd3) hc5, _, rfl, ?_⟩
        rw [hkk, filter_more _ hj]
        cases hm : decide (j ∈ js) with
        | false =>
          refine iteF ⟨s4, kv4, hk4, ?_⟩
          rw [if_neg Bool.false_ne_true, List.append_nil]; exact ek4
        | true =>
          refine iteT ?_
          have hnot : j ∉ (rows.take i).filter fun q => decide (q ∈ js) := fun z => nd_take nd hj (List.mem_filter.mp z).1
          refine ⟨_, rfl, kv4, pairK j, c, rfl, hc5, hk4, small ?_, Same.put s4 he, _, upd_same, ?_⟩
          · rw [jd_len ek4]
            have := List.length_filter_le (fun q => decide (q ∈ js)) (rows.take i)
            rw [List.length_take] at this
            omega
          · rw [putK_new _ (jd_new ek4 hnot), List.map_append, ek4, if_pos rfl, List.map_append]; rfl
      · rintro H4 ⟨s4, kv4, hk4, ek4⟩
        rw [List.length_map, lrs, List.take_length] at ek4
        have hp4 := s4 _ _ hp3
        have R4 := R3.same s4
        generalize hal : (rows.filter fun q => decide (q ∈ js)) = al at *
        refine ⟨_, rfl, p, C, dx, _, rfl, hp4, T.cl, T.nA, (by rw [fP_one]; show 1 < 1000; decide), ?_⟩
        have npe : e ≠ p := fun z => by rw [z, hp4] at hk4; cases hk4
        have bt5 : But p H4 (upd H4 p (.ins C dx (putF "allowed" (.ref e) (putF "routine" (.ref r) [])))) := But.put
        have hp5 : (upd H4 p (.ins C dx (putF "allowed" (.ref e) (putF "routine" (.ref r) [])))) p = some (.ins C dx (putF "allowed" (.ref e) (putF "routine" (.ref r) []))) := upd_same
        generalize upd H4 p (.ins C dx (putF "allowed" (.ref e) (putF "routine" (.ref r) []))) = H5 at *
        have R5 := bt5.rAt hp4 npr R4
        have hk5 := bt5 _ _ hk4 npe
        obtain ⟨dz, rl5, rd5, hr5, _⟩ := id R5.ob
        have lk : (putF "allowed" (.ref e) (putF "routine" (.ref r) [])).lookup ("allowed" : Str) = some (.ref e) := by rw [lookup_putF, if_pos rfl]
        refine ⟨_, rfl, r, CR, dz, _, _, rfl, hr5, TR.cl, TR.nB, fR_blocks _ _ _, _, rfl, p, C, dx, _, _, rfl, hp5, T.cl, T.nA, lk, e, kv4, rfl, .inl hk5, fun l2 bs hl2 hkeys => ?_⟩
        have s6 : Same H5 (upd H5 l2 (.lst (bs.map V.ref))) := L2.Same.new hl2
        have hJ6 : JL (upd H5 l2 (.lst (bs.map V.ref))) l2 al := ⟨bs, upd_same, (isKeys_tus ek4 hkeys).mono s6.ts⟩
        generalize upd H5 l2 (.lst (bs.map V.ref)) = H6 at *
        refine ⟨b, l2, al, rfl, hJ6, ?_, fun H7 u s7 hu7 => ?_⟩
        · rw [← hal]; exact Nat.le_trans (List.length_filter_le _ _) (by omega)
        have s67 := s6.trans s7
        have hp7 := s67 _ _ hp5
        refine ⟨_, rfl, p, C, dx, _, rfl, hp7, T.cl, T.nU, (by rw [fP_two]; show 2 < 1000; decide), ?_⟩
        rw [fP_put]
        have bt8 : But p H7 (upd H7 p (.ins C dx (fP r e u))) := But.put
        have hk7 := s67 _ _ hk5
        refine q _ ⟨dx, e, u, upd_same, bt8.rAt hp7 npr (R5.same s67), ⟨kv4, bt8 _ _ hk7 npe, ek4⟩, bt8.jl hp7 hu7⟩ fun c o hc nc => ?_
        exact bt8 c o (s67.but (p := p) c o (bt5 c o (s4.but (p := p) c o (bt3 c o (s2.but (p := p) c o hc nc) nc) nc) nc) nc) nc
end
end Yf
set_option Elab.async false
set_option linter.all false
set_option maxRecDepth 100000
set_option maxHeartbeats 1000000
/-! G12: equality of routines and of parts; a part's jumps and kept runs. -/
namespace Yf
open PySem PySem.Spec PyProof.Rows L2 GenW

theorem jl_map_inj : ∀ {xs ys : List Jp}, xs.map jl = ys.map jl → xs = ys
  | [], [], _ => rfl
  | [], _ :: _, h => by cases h
  | _ :: _, [], h => by cases h
  | x :: xs, y :: ys, h => by
    simp only [List.map_cons, List.cons.injEq] at h
    rw [jl_inj h.1, jl_map_inj h.2]
theorem eqv_JL (xs ys : List Jp) : PyData.eqv (.list ((xs.map jl).map tD)) (.list ((ys.map jl).map tD)) = decide (xs = ys) := by
  rw [eqv_lD]
  exact decide_eq_decide.mpr ⟨jl_map_inj, fun e => by rw [e]⟩
/-- what isinstance asks of an own class -/
structure InC (K : PySem.W.Frag) (C : Addr) : Prop where
  cl : Cls K C
  ha : PySem.W.findIn K (.ref C) "__class__" = some (some (.builtin "object.__class__"))
  hn : PySem.W.specialIn K (.builtin "object.__class__") "__get__" = some (some (.builtin "getset_descriptor.__get__"))
  htk : PySem.W.takesIn K (.builtin "object.__class__") = some true
  hm : PySem.W.mroIn K C (.type "object") = some true
  me : PySem.W.kitOne K (.ref C) (.ref C) = some true
theorem InC.isi {K : PySem.W.Frag} {C a dx : Addr} {fs : List (Str × V)} {H : Hp} {Q : VK} (c : InC K C) (ha : H a = some (.ins C dx fs)) (q : Q (.bl true) H) : rIsi K [.ref a, .ref C] H Q :=
  ⟨_, _, _, _, true, rfl, .own C, .base (TyOf.ins ha c.cl c.ha c.hn c.htk c.hm), c.me, q⟩
def spREq (C : Addr) : Sp := fun vs H Q _ => ∃ a a' b b' js js', vs = [.ref a, .ref a'] ∧ RAt C H a b js ∧ RAt C H a' b' js' ∧ ∀ H', Same H H' → Q (.bl (decide (b = b') && decide (js = js'))) H'
def spPEq (C CR : Addr) : Sp := fun vs H Q _ => ∃ p p' r r' b b' rows rows' al al', vs = [.ref p, .ref p'] ∧ PAt C CR H p r b rows al ∧ PAt C CR H p' r' b' rows' al' ∧
  ∀ H', Same H H' → Q (.bl ((decide (b = b') && decide (rows = rows')) && decide (usefulM b al al = usefulM b' al' al'))) H'
def spPJumps (C CR : Addr) : Sp := fun vs H Q _ => ∃ p r b rows al, vs = [.ref p] ∧ PAt C CR H p r b rows al ∧ ∀ H' l, Same H H' → JL H' l al → Q (.ref l) H'
def spKept (C CR : Addr) : SpG2 := fun vs H n Q => ∃ p r b rows al, vs = [.ref p] ∧ PAt C CR H p r b rows al ∧ Okj b al ∧ al.length ≤ 120 ∧ b ≤ 8 ∧ n = (pathsM (usefulM b al al) (b - 1) 8 0).length ∧
  ∀ (H' : Hp) (as : List Addr), Same H H' → Paired (TR H') as ((pathsM (usefulM b al al) (b - 1) 8 0).map (0 :: ·)) → Q (as.map V.ref) H'
section
variable {P : Program} {w : World} {K : PySem.W.Frag} {mg : Str → Option Value} {base : Heap}
theorem scREq : FnScope ["self", "other"] ["self", "other"] (defScope mREq) := ⟨rfl, rfl, rfl, by decide +kernel, rfl, by decide +kernel, by decide +kernel⟩
theorem ok_REq {C f : Addr} {fd : FuncData} (D : Mn K C "__eq__" "Routine.__eq__" mREq ["self", "other"] f fd) (T : RC K C) (IC : InC K C) (mC : mg "Routine" = some (.ref C)) (B : Bi mg) : FnOk P w K mg base CX0 1 f fd ["self", "other"] (spREq C) := by
  refine D.F.ok scREq (fun vs H Q E h => ?_) (fun cdv A outer s H vs Q E hr h => ?_)
  · obtain ⟨a, a', b, b', js, js', rfl, _⟩ := h
    rfl
  · obtain ⟨a, a', b, b', js, js', rfl, R, R', q⟩ := h
    refine ⟨_, pss_one (ps_ret (pe_and (pe_callB (call_isi) (by rfl) B.isinstance (by decide +kernel) (pa_cons (pv 1) (pa_cons (pe_glob (v := .ref C) (by rfl) mC rfl) pa_nil)))
      (pe_and (pe_cmpR op_eq (pe_fld (pv 0) rfl) (pe_fld (pv 1) rfl) (nomark _)) (pe_one (pe_cmpR (op_eqD hr.units) (pe_fld (pv 0) rfl) (pe_fld (pv 1) rfl) (nomark _)))))), ?_⟩
    obtain ⟨dx, rl, d, ha, hl, _⟩ := R.ob
    obtain ⟨dx', rl', d', ha', hl', _⟩ := R'.ob
    refine ⟨_, rfl, _, _, _, _, true, rfl, .own C, .base (TyOf.ins ha' IC.cl IC.ha IC.hn IC.htk IC.hm), IC.me, true, rfl, iteT ?_⟩
    refine ⟨_, rfl, a, C, dx, _, _, rfl, ha, T.cl, T.nB, fR_blocks _ _ _, _, rfl, a', C, dx', _, _, rfl, ha', T.cl, T.nB, fR_blocks _ _ _, rfl, _, rfl, ?_⟩
    have ed : decide (V.int b = V.int b') = decide (b = b') := decide_eq_decide.mpr ⟨fun z => by injection z, fun z => by rw [z]⟩
    rw [ed]
    cases h1 : decide (b = b') with
    | false =>
      refine iteF ?_
      rw [h1] at q
      exact q H (Same.refl H)
    | true =>
      refine iteT ?_
      rw [h1, Bool.true_and] at q
      refine ⟨_, rfl, a, C, dx, _, _, rfl, ha, T.cl, T.nR, fR_rows _ _ _, _, rfl, a', C, dx', _, _, rfl, ha', T.cl, T.nR, fR_rows _ _ _, _, _, hl.dp, hl'.dp, tDs_shaped _, tDs_shaped _, ?_⟩
      rw [eqv_JL]
      exact q H (Same.refl H)
theorem scPEq : FnScope ["self", "other"] ["self", "other"] (defScope mPEq) := ⟨rfl, rfl, rfl, by decide +kernel, rfl, by decide +kernel, by decide +kernel⟩
theorem ok_PEq {C CR f fE : Addr} {fd fdE : FuncData} (D : Mn K C "__eq__" "Part.__eq__" mPEq ["self", "other"] f fd) (T : PC K C) (IC : InC K C) (mC : mg "Part" = some (.ref C)) (B : Bi mg)
    (GE : FnOk P w K mg base CX0 1 fE fdE ["self", "other"] (spREq CR)) (DE : Mn K CR "__eq__" "Routine.__eq__" mREq ["self", "other"] fE fdE) : FnOk P w K mg base CX0 2 f fd ["self", "other"] (spPEq C CR) := by
  refine D.F.ok scPEq (fun vs H Q E h => ?_) (fun cdv A outer s H vs Q E hr h => ?_)
  · obtain ⟨p, p', r, r', b, b', rows, rows', al, al', rfl, _⟩ := h
    rfl
  · obtain ⟨p, p', r, r', b, b', rows, rows', al, al', rfl, R, R', q⟩ := h
    refine ⟨_, pss_one (ps_ret (pe_and (pe_callB (call_isi) (by rfl) B.isinstance (by decide +kernel) (pa_cons (pv 1) (pa_cons (pe_glob (v := .ref C) (by rfl) mC rfl) pa_nil)))
      (pe_and (pe_cmpR (op_eqOwn DE.m GE hr DE.b pass0) (pe_fld (pv 0) rfl) (pe_fld (pv 1) rfl) (nomark _)) (pe_one (pe_cmpR (op_eqD hr.units) (pe_fld (pv 0) rfl) (pe_fld (pv 1) rfl) (nomark _)))))), ?_⟩
    obtain ⟨dx, d, u, ha, hr1, _, hl⟩ := R.ob
    obtain ⟨dx', d', u', ha', hr1', _, hl'⟩ := R'.ob
    obtain ⟨ex, _, _, hi, _⟩ := id hr1.ob
    obtain ⟨ex', _, _, hi', _⟩ := id hr1'.ob
    refine ⟨_, rfl, _, _, _, _, true, rfl, .own C, .base (TyOf.ins ha' IC.cl IC.ha IC.hn IC.htk IC.hm), IC.me, true, rfl, iteT ?_⟩
    refine ⟨_, rfl, p, C, dx, _, _, rfl, ha, T.cl, T.nR, fP_routine _ _ _, _, rfl, p', C, dx', _, _, rfl, ha', T.cl, T.nR, fP_routine _ _ _, r, ex, _, r', ex', _, rfl, rfl, hi, hi', r, r', b, b', rows, rows', rfl, hr1, hr1', fun H1 s1 => ⟨_, rfl, _, rfl, ?_⟩⟩
    cases h1 : (decide (b = b') && decide (rows = rows')) with
    | false =>
      refine iteF ?_
      rw [h1] at q
      exact q H1 s1
    | true =>
      refine iteT ?_
      rw [h1, Bool.true_and] at q
      refine ⟨_, rfl, p, C, dx, _, _, rfl, s1 _ _ ha, T.cl, T.nU, fP_useful _ _ _, _, rfl, p', C, dx', _, _, rfl, s1 _ _ ha', T.cl, T.nU, fP_useful _ _ _, _, _, (hl.same s1).dp, (hl'.same s1).dp, tDs_shaped _, tDs_shaped _, ?_⟩
      rw [eqv_JL]
      exact q H1 s1
theorem scPJumps : FnScope ["self"] ["self"] (defScope mPJumps) := ⟨rfl, rfl, rfl, by decide +kernel, rfl, by decide +kernel, by decide +kernel⟩
theorem ok_PJumps {C CR f : Addr} {fd : FuncData} (F : Fun K "jumps" "Part.jumps" mPJumps f fd) (T : PC K C) (B : Bi mg) : FnOk P w K mg base CX0 1 f fd ["self"] (spPJumps C CR) := by
  refine F.ok scPJumps (fun vs H Q E h => ?_) (fun cdv A outer s H vs Q E hr h => ?_)
  · obtain ⟨p, r, b, rows, al, rfl, _⟩ := h
    rfl
  · obtain ⟨p, r, b, rows, al, rfl, R, q⟩ := h
    refine ⟨_, pss_one (ps_ret (pe_callTy (call_list_dT rfl) (by rfl) B.list (by decide +kernel) (pa_cons (pe_fld (pv 0) rfl) pa_nil))), ?_⟩
    obtain ⟨dx, d, u, ha, hr1, ⟨kvs, hk, ek⟩, hl⟩ := R.ob
    refine ⟨_, rfl, p, C, dx, _, _, rfl, ha, T.cl, T.nA, fP_allowed _ _ _, d, kvs, rfl, .inl hk, fun l bs hl hb => ?_⟩
    exact q _ l (L2.Same.new hl) ⟨bs, upd_same, (isKeys_tus ek hb).mono (L2.Same.new hl).ts⟩
theorem scKept : GScope ["self"] ["self"] (defScope mPKept) := ⟨rfl, rfl, rfl, by decide +kernel, rfl, by decide +kernel, by decide +kernel⟩
theorem ok_kept {C CR f fG fR' : Addr} {fd fdG fdR : FuncData} (F : Fun K "kept_runs" "Part.kept_runs" mPKept f fd) (T : PC K C) (TR : RC K CR) (GG : FnOk P w K mg base CX0 1 fG fdG ["jumps"] spGoingOn) (DG : Dn K mg "going_on" sGoingOn ["jumps"] fG fdG)
    (GR' : GFn2 P w K mg base 18 fR' fdR ["going", "last", "beginning"] (spRunsFrom 8)) (DR : Dn K mg "runs_from" sRunsFrom ["going", "last", "beginning"] fR' fdR) : GFn2 P w K mg base 20 f fd ["self"] (spKept C CR) := by
  refine gfn2_fun F scKept (fun vs H n Q h => ?_) (fun cdv A outer s H vs n Q Z O F hr h L => ?_)
  · obtain ⟨p, r, b, rows, al, rfl, _⟩ := h
    rfl
  · obtain ⟨p, r, b, rows, al, rfl, R, ok, h120, b8, rfl, q⟩ := h
    refine ⟨_, gsts_one (gst_yf rfl L.ok L.base L.sta (pgen2_call GR' (hr.mono (by decide)) (by rfl) DR.g DR.F.kp DR.b .nil (pa_cons (pe_call GG (hr.mono (by decide)) (by rfl) DG.g DG.F.kp DG.b .nil pass0 (pa_cons (pe_fld (pv 0) rfl) pa_nil))
      (pa_cons (pe_op op_sub (pe_fld (pe_fld (pv 0) rfl) rfl) pe_int) (pa_cons (pe_tup (pa_cons pe_int pa_nil)) pa_nil)))) hr), fun sw hst => ?_⟩
    obtain ⟨dx, d, u, ha, hr1, _, hl⟩ := R.ob
    obtain ⟨ex, _, _, hi, _⟩ := id hr1.ob
    have hul : (usefulM b al al).length ≤ 120 := Nat.le_trans (List.length_filter_le _ _) h120
    refine ⟨hst, _, 0, (Nat.add_zero _).symm, _, rfl, p, C, dx, _, _, rfl, ha, T.cl, T.nU, fP_useful _ _ _, u, _, rfl, hl, by omega, fun H1 g s1 hg => ?_⟩
    refine ⟨_, rfl, p, C, dx, _, _, rfl, s1 _ _ ha, T.cl, T.nR, fP_routine _ _ _, r, CR, ex, _, _, rfl, s1 _ _ hi, TR.cl, TR.nB, fR_blocks _ _ _, _, _, rfl, rfl, ?_, fun t ht => ?_⟩
    · show 1 ≤ sizeLine; decide
    have s2 : Same H1 (upd H1 t (.tup [.int 0])) := L2.Same.new ht
    refine ⟨by decide, g, b - 1, t, usefulM b al al, [0], 0, rfl, hg.gr.same s2, by omega, fun j hj => ?_, .inl upd_same, rfl, by decide, by omega, rfl, fun H3 as s3 hp sw2 hst2 => ⟨rfl, hst2, ?_⟩⟩
    · have := ok j (List.mem_filter.mp hj).1
      omega
    · exact q H3 as ((s1.trans s2).trans s3) hp
end
end Yf
set_option Elab.async false
set_option linter.all false
set_option maxRecDepth 100000
set_option maxHeartbeats 1000000
/-! G13: NoRun(run); closed. -/
namespace Yf
open PySem PySem.Spec PyProof.Rows L2

abbrev sNoRun : Stmt := top 7
abbrev mNRInit : Stmt := inClass sNoRun 0
def spNRInit (C : Addr) : Sp := fun vs H Q _ => ∃ a x, vs = [.ref a, x] ∧ H a = some (exo a C none) ∧ ∀ dx, H dx = none → dx ≠ a → Q .non (upd (upd H dx (exd dx [(("run" : Str), x)])) a (exo a C (some dx)))
/-- what is asked of the class NoRun -/
structure NR (K : PySem.W.Frag) (mg : Str → Option Value) (C f : Addr) (fd : FuncData) : Prop where
  F : Fun K "__init__" "NoRun.__init__" mNRInit f fd
  b : Binds K fd ["self", "run"] []
  T : OexC K C
  no : PySem.W.findIn K (.ref C) "run" = some none
  iC : PySem.W.findIn K (.ref C) "__init__" = some (some (.ref f))
  tI : PySem.W.typeIn K (.ref f) = some (.type "function")
  g : mg "NoRun" = some (.ref C)
theorem pi_listK {X : Cx} {tg l : Expr} {tl : TE} (K : PySem.W.Frag) (h : X.K = K) (hl : PE X l tl) : PI X tg l (iList K tl) := h ▸ pi_list hl
theorem KdR.back {H H' : Hp} {v : V} {n : String} {c : Addr} {xs : List V} (k : KdR H v n) (s : Same H H') (ev : v = .ref c) (h : Rd H' c (.tup xs)) : Rd H c (.tup xs) := by
  subst ev
  cases k with
  | kd k =>
    cases k with
    | lst e =>
      have e' := s _ _ e
      rcases h with h | ⟨o, h⟩
      · rw [e'] at h; cases h
      · rw [e'] at h; cases h
    | tup e =>
      have e' := s _ _ e
      rcases h with h | ⟨o, h⟩
      · rw [e'] at h; cases h; exact .inl e
      · rw [e'] at h; cases h
  | ft e =>
    have e' := s _ _ e
    rcases h with h | ⟨o, h⟩
    · rw [e'] at h; cases h
    · rw [e'] at h; cases h; exact .inr ⟨_, e⟩
def addL (xs : List (List Int)) (r : List Int) : List (List Int) := if r ∈ xs then xs else xs ++ [r]
def firstsM (runs : List (List Int)) : List (List Int) := runs.foldl addL []
theorem addK_map (ks : List (List Int × Addr)) (r : List Int) (b : Addr) : (addK ks r b).map (·.1) = addL (ks.map (·.1)) r := by
  unfold addK addL
  split
  · rfl
  · rw [List.map_append]; rfl
theorem addK_keys {H : Hp} {ks : List (List Int × Addr)} {r : List Int} {b : Addr} (k : Keys H ks) (h : FT H b r) : Keys H (addK ks r b) := by
  unfold addK
  split
  · exact k
  · intro p hp
    rcases List.mem_append.mp hp with hp | hp
    · exact k p hp
    · rw [List.mem_singleton.mp hp]; exact h
theorem firsts_more {runs : List (List Int)} {i : Nat} {r : List Int} (h : runs[i]? = some r) : firstsM (runs.take (i + 1)) = addL (firstsM (runs.take i)) r := by
  unfold firstsM
  rw [take_more h, List.foldl_append]; rfl
theorem firsts_mem (runs : List (List Int)) : ∀ r ∈ firstsM runs, r ∈ runs := by
  have : ∀ (rs acc : List (List Int)), ∀ r ∈ rs.foldl addL acc, r ∈ acc ∨ r ∈ rs := by
    intro rs
    induction rs with
    | nil => intro acc r h; exact .inl h
    | cons a rs ih =>
      intro acc r h
      rcases ih _ r h with h | h
      · unfold addL at h
        split at h
        · exact .inl h
        · rcases List.mem_append.mp h with h | h
          · exact .inl h
          · exact .inr (by rw [List.mem_singleton.mp h]; exact List.mem_cons_self)
      · exact .inr (List.mem_cons_of_mem _ h)
  intro r h
  rcases this runs [] r h with h | h
  · cases h
  · exact h
theorem firsts_len (runs : List (List Int)) : (firstsM runs).length ≤ runs.length := by
  have : ∀ (rs acc : List (List Int)), (rs.foldl addL acc).length ≤ acc.length + rs.length := by
    intro rs
    induction rs with
    | nil => intro acc; simp
    | cons a rs ih =>
      intro acc
      have h := ih (addL acc a)
      have h2 : (addL acc a).length ≤ acc.length + 1 := by
        unfold addL
        split
        · omega
        · simp
      rw [List.foldl_cons, List.length_cons]
      omega
  have := this runs []
  unfold firstsM
  simpa using this
/-- the first breach: in the order of the loops -/
def breachB (xs : List (List Int)) (f s : List Int) (x : Int) : Bool := decide (x ∈ s) && !decide (crossM f s x ∈ xs)
def openB (xs : List (List Int)) (f s : List Int) (bs : List Int) : Option (List Int × List Int × Int) := bs.findSome? fun x => if breachB xs f s x = true then some (f, s, x) else none
def openS (xs : List (List Int)) (f : List Int) (ss : List (List Int)) : Option (List Int × List Int × Int) := ss.findSome? fun s => openB xs f s f
def openF (xs fs : List (List Int)) : Option (List Int × List Int × Int) := fs.findSome? fun f => openS xs f xs
theorem findSome_more {α β : Type} {l : List α} {i : Nat} {x : α} {g : α → Option β} (h : l[i]? = some x) (h0 : (l.take i).findSome? g = none) : (l.take (i + 1)).findSome? g = g x := by
  rw [take_more h, List.findSome?_append, h0]
  simp
theorem findSome_all {α β : Type} {l : List α} {i : Nat} {x : α} {g : α → Option β} {y : β} (h : l[i]? = some x) (h0 : (l.take i).findSome? g = none) (hx : g x = some y) : l.findSome? g = some y := by
  have e := findSome_more h h0
  rw [hx] at e
  conv => lhs; rw [← List.take_append_drop (i + 1) l]
  rw [List.findSome?_append, e]; rfl
/-- the pairs of neighbours of ints -/
def stepsM (r : List Int) : List Jp := r.zip r.tail
def ResOpen (H : Hp) (p : Addr) (f s : List Int) (x : Int) : Prop := ∃ a b, H p = some (.tup [.str "open", .ref a, .ref b, .int x]) ∧ FT H a f ∧ FT H b s
def ResPart (C CR : Addr) (H : Hp) (p r : Addr) (b : Int) (rows al : List Jp) : Prop := ∃ q, H p = some (.tup [.str "part", .ref q]) ∧ PAt C CR H q r b rows al
def ClosedRes (C CR : Addr) (H : Hp) (p r : Addr) (b : Int) (rows : List Jp) (runs : List (List Int)) : Prop :=
  match openF (firstsM runs) (firstsM runs) with
  | some (f, s, x) => ResOpen H p f s x
  | none => ResPart C CR H p r b rows (rows.filter fun q => decide (q ∈ (firstsM runs).flatMap stepsM))
theorem inV_ints (x : Int) (s : List Int) : inV (.int x) (s.map V.int) = decide (x ∈ s) := by
  unfold inV
  induction s with
  | nil => rfl
  | cons a s ih =>
    rw [List.map_cons, List.any_cons, ih]
    have e : eqV (.int a) (.int x) = decide (a = x) := rfl
    rw [e]
    by_cases h : a = x
    · rw [decide_eq_true h, Bool.true_or]
      exact (decide_eq_true (by rw [h]; exact List.mem_cons_self)).symm
    · rw [decide_eq_false h, Bool.false_or]
      refine decide_eq_decide.mpr ⟨fun m => List.mem_cons_of_mem _ m, fun m => (List.mem_cons.mp m).resolve_left (fun z => h z.symm)⟩
theorem prs_map (q : List Int) : prs (q.map V.int) = (stepsM q).map fun j => (V.int j.1, V.int j.2) := by
  unfold prs stepsM
  rw [← List.map_tail, List.zip_map]; rfl
theorem rnv_steps {b : Int} {rows : List Jp} {q : List Int} (h : rnv b rows (q.map V.int) = true) : ∀ j ∈ stepsM q, j ∈ rows := by
  unfold rnv at h
  rw [Bool.and_eq_true, Bool.and_eq_true] at h
  have h2 := h.1.2
  rw [prs_map, List.all_map, List.all_eq_true] at h2
  intro j hj
  exact of_decide_eq_true (h2 j hj)
theorem stepsM_len (q : List Int) : (stepsM q).length ≤ q.length := by
  unfold stepsM
  rw [List.length_zip]
  omega
theorem walkW {J : It} {n : Nat} {G : Hp → Prop} {Y : Nat → Hp → V → Hp → Prop} (w : Walk J n G Y) {S : (Hp → Prop) → V → Hp → Prop} {Hs : Hp} {Z : Hp → Prop} (Pv : Nat → Hp → Prop) (h0 : Pv 0 Hs) (hG : ∀ i H, i ≤ n → Pv i H → G H)
    (hs : ∀ i x H H', i < n → Pv i H → Y i H x H' → S (Pv (i + 1)) x H') (hd : ∀ H, Pv n H → Z H) :
    ∃ W : Nat → Nat → Hp → Prop, (∃ m, W 0 m Hs) ∧ ∀ i m H, W i m H → (J.stop i H ∧ Z H) ∨ (J.go i H ∧ ∃ Nx : Hp → Prop, (∀ H', Nx H' → ∃ m', m' < m ∧ W (i + 1) m' H') ∧ ∀ x H', J.yld i H x H' → S Nx x H') := by
  refine ⟨fun i m H => m = n - i ∧ i ≤ n ∧ Pv i H, ⟨n, by simp, Nat.zero_le _, h0⟩, ?_⟩
  rintro i m H ⟨rfl, hi, p⟩
  have q := hG i H hi p
  by_cases hlt : i < n
  · exact .inr ⟨w.goes i H hlt q, Pv (i + 1), fun H' p' => ⟨n - (i + 1), by omega, rfl, hlt, p'⟩, fun x H' y => hs i x H H' hlt p (w.yields i H x H' hlt q y)⟩
  · obtain rfl : i = n := by omega
    exact .inl ⟨w.stops H q, hd H p⟩
theorem PAt.same {C CR : Addr} {H H' : Hp} {p r : Addr} {b : Int} {rows al : List Jp} (h : PAt C CR H p r b rows al) (s : Same H H') : PAt C CR H' p r b rows al := by
  obtain ⟨dx, d, u, h1, h2, ⟨kvs, h3, e3⟩, h4⟩ := h.ob
  exact ⟨dx, d, u, s _ _ h1, h2.same s, ⟨kvs, s _ _ h3, e3⟩, h4.same s⟩
theorem flatMap_le {α β : Type} {f : α → List β} {c : Nat} : ∀ {l : List α}, (∀ x ∈ l, (f x).length ≤ c) → (l.flatMap f).length ≤ c * l.length
  | [], _ => by simp
  | x :: l, h => by
    have h1 := h x List.mem_cons_self
    have h2 := flatMap_le (l := l) fun y hy => h y (List.mem_cons_of_mem _ hy)
    rw [List.flatMap_cons, List.length_append, List.length_cons, Nat.mul_succ]
    omega
/-- runs of the routine, in a list, with what follows them -/
def FLs (H : Hp) (as : List Addr) (runs : List (List Int)) : Prop := Paired (FT H) as runs
theorem FLs.same {H H' : Hp} {as : List Addr} {runs : List (List Int)} (f : FLs H as runs) (s : Same H H') : FLs H' as runs := Paired.mapP f fun _ _ h => s.ft h
def Bad (H : Hp) (b : Int) (rows : List Jp) (v : V) : Prop := ∃ n, KdR H v n ∧ ∀ c xs, v = .ref c → Rd H c (.tup xs) → xs.length ≤ 1000 ∧ (∀ y ∈ xs, ∃ m, Kd H y m) ∧ rnv b rows xs = false
def spClosed (C CR CN : Addr) : Sp := fun vs H Q E => ∃ r b rows l as runs tail, vs = [.ref r, .ref l] ∧ RAt CR H r b rows ∧ Okj b rows ∧ rows.Nodup ∧ rows.length ≤ 120 ∧ H l = some (.lst (as.map V.ref ++ tail)) ∧ FLs H as runs ∧ runs.length ≤ 100 ∧
  (∀ q ∈ runs, q.length ≤ 100 ∧ rnv b rows (q.map V.int) = true) ∧
  ((tail = [] ∧ ∀ H' p, Same H H' → ClosedRes C CR H' p r b rows runs → Q (.ref p) H') ∨
    ∃ v t, tail = v :: t ∧ Bad H b rows v ∧ ∀ H' d, Same H H' → H' d = some (.xd [(("run" : Str), v)]) → E (.ref CN) (some d) H')
section
variable {P : Program} {w : World} {K : PySem.W.Frag} {mg : Str → Option Value} {base : Heap}
theorem scNRInit : FnScope ["self", "run"] ["self", "run"] (defScope mNRInit) := ⟨rfl, rfl, rfl, by decide +kernel, rfl, by decide +kernel, by decide +kernel⟩
theorem ok_NRInit {C f : Addr} {fd : FuncData} (D : NR K mg C f fd) : FnOk P w K mg base CX0 1 f fd ["self", "run"] (spNRInit C) := by
  refine D.F.ok scNRInit (fun vs H Q E h => ?_) (fun cdv A outer s H vs Q E hr h => ?_)
  · obtain ⟨a, x, rfl, _⟩ := h
    rfl
  · obtain ⟨a, x, rfl, ha, q⟩ := h
    refine ⟨_, pss_one (ps_ost (pv 0) (pv 1) rfl), ?_⟩
    exact ⟨_, rfl, _, rfl, a, C, rfl, D.T, D.no, .inl ⟨ha, fun dx n ne => q dx n ne⟩⟩
theorem scClosed : FnScope ["routine", "runs", "known", "run", "first", "second", "block", "jump"] ["routine", "runs"] (defScope sClosed) := ⟨rfl, rfl, rfl, by decide +kernel, rfl, by decide +kernel, by decide +kernel⟩
theorem ok_closed {C CR CN f fI fJ fG fP fN fp : Addr} {fd fdI fdJ fdG fdP fdN : FuncData} (D : Dn K mg "closed" sClosed ["routine", "runs"] f fd) (T : RC K CR) (N : NR K mg CN fN fdN)
    (GI : FnOk P w K mg base CX0 5 fI fdI ["self", "value"] (spIsRun CR)) (DI : Mn K CR "is_run" "Routine.is_run" mRIsRun ["self", "value"] fI fdI)
    (GJ : FnOk P w K mg base CX0 1 fJ fdJ ["run"] spJumpsOf) (DJ : Dn K mg "jumps_of" sJumpsOf ["run"] fJ fdJ)
    (GG : FnOk P w K mg base CX0 1 fG fdG ["first", "second", "block"] spCrossed) (DG : Dn K mg "crossed" sCrossed ["first", "second", "block"] fG fdG)
    (GP : FnOk P w K mg base CX0 5 fP fdP ["self", "routine", "jumps"] (spPInit C CR)) (DP : Mn K C "__init__" "Part.__init__" mPInit ["self", "routine", "jumps"] fP fdP) (MP : Mk K C fP) (gP : mg "Part" = some (.ref C)) :
    FnOk P w K mg base (L2.CX P w) 7 f fd ["routine", "runs"] (spClosed C CR CN) := by
  refine D.F.okX scClosed (fun vs H Q E h => ?_) (fun cdv A outer s H vs Q E hr h => ?_)
  · obtain ⟨r, b, rows, l, as, runs, tail, rfl, _⟩ := h
    rfl
  · obtain ⟨r, b, rows, l, as, runs, tail, rfl, R, ok, nd, h120, hl, hf, hrl, hv, q⟩ := h
    have hu := hu_of hr
    refine ⟨_, pss_cons (ps_set (i := 2) scClosed.nd rfl (.inl rfl) pe_dnewKD)
      (pss_cons (ps_for (passes_of rfl) rfl (pi_list (pv 1)) (pg_name (i := 3) scClosed.nd rfl (.inl rfl))
        (pss_cons (ps_if (pt_not (pt_val (pe_meth (pv 0) T.cl DI.m GI (hr.mono (by decide)) DI.b .nil pass0 (pa_cons (pv 3) pa_nil))))
          (pss_one (ps_raise rfl (takes_of rfl rfl rfl rfl) (pmk_oex N.T N.iC N.tI (ok_NRInit N) (hr.mono (by decide)) N.b .nil pass0 (by rfl) N.g (pa_cons (pv 3) pa_nil)))) pss_nil)
        (pss_one (ps_asg pe_bl (pg_sub (pv 2) (pv 3) (set_KD hu))))))
      (pss_cons (ps_lock (ps_for (passes_of rfl) rfl (pi_KD (pv 2)) (pg_name (i := 4) scClosed.nd rfl (.inl rfl))
        (pss_one (ps_for (passes_of rfl) rfl (pi_KD (pv 2)) (pg_name (i := 5) scClosed.nd rfl (.inl rfl))
          (pss_one (ps_for (passes_of rfl) rfl (pi_tup (pv 4)) (pg_name (i := 6) scClosed.nd rfl (.inl rfl))
            (pss_one (ps_if (PW.pt (pw_and (pt_cmpR op_in_seq (pv 6) (pv 5) (by with_unfolding_all rfl)) (pw_and1 (pt_cmpR (op_notInKD hu)
              (pe_ix (ix_tupK K rfl) (pe_call GG (hr.mono (by decide)) (by rfl) DG.g DG.F.kp DG.b .nil pass0 (pa_cons (pv 4) (pa_cons (pv 5) (pa_cons (pv 6) pa_nil)))) pe_int (fun _ _ => rfl)) (pv 2) (by with_unfolding_all rfl)))))
              (pss_one (ps_ret (pe_tup (pa_cons pe_str (pa_cons (pv 4) (pa_cons (pv 5) (pa_cons (pv 6) pa_nil))))))) pss_nil))))))))
      (pss_one (ps_ret (pe_tup (pa_cons pe_str (pa_cons (pe_make MP GP (hr.mono (by decide)) (by rfl) gP DP.b .nil pass0 (pa_cons (pv 0) (pa_cons
        (pe_lock (pe_lc2 (own := [("run", 3), ("jump", 7)]) (vs1 := [7]) (g := gName 3) (g1 := gName 7) rfl scClosed.nd (pi_KD (pv 2)) (blkOk_by (N := ["routine", "runs", "known", "run", "first", "second", "block", "jump"]) (sc := defScope sClosed) (by decide +kernel)) (by decide)
          (fun _ _ _ _ _ => pg_name (i := 3) scClosed.nd rfl (Or.inl rfl)) (fun _ _ _ _ _ => pts_nil)
          (fun _ _ _ _ _ => by exact pi_listK K rfl (pe_call GJ (hr.mono (by decide)) (by rfl) DJ.g DJ.F.kp DJ.b .nil pass0 (pa_cons (pv 3) pa_nil)))
          (fun _ _ _ _ _ => pg_name (i := 7) scClosed.nd rfl (Or.inl rfl)) (fun _ _ _ _ _ => pts_nil)
          (fun _ _ _ _ _ => pv 7))) pa_nil))) pa_nil))))))), ?_⟩
    intro d hd
    have s0 : Same H (upd H d (KD P w d [])) := L2.Same.new hd
    have nasl : as.length = runs.length := Paired.len hf
    obtain ⟨dxr, rl, rd, hr0, _⟩ := id R.ob
    have lkI : (fR b rl rd).lookup ("is_run" : Str) = none := fR_no b rl rd (by decide +kernel) (by decide +kernel) (by decide +kernel)
    refine ⟨_, rfl, l, rfl, ⟨_, .inl (.inl (s0 _ _ hl))⟩, for_it (walk_list (xs := as.map V.ref ++ tail)) (fun i σ H2 => ∃ v3 : Option V, σ = [some (.ref r), some (.ref l), some (.ref d), v3, none, none, none, none] ∧ Same H H2 ∧ i ≤ as.length ∧ ∃ ks, H2 d = some (KD P w d ks) ∧ Keys H2 ks ∧ ks.map (·.1) = firstsM (runs.take i))
      ⟨none, rfl, s0, Nat.zero_le _, [], upd_same, fun p hp => (by cases hp), rfl⟩ (fun i σ H2 _ ⟨_, _, s2, _⟩ => .inl (.inl (s2 _ _ hl))) ?_ ?_⟩
    · rintro i x σ H2 H3 hi ⟨v3, rfl, s2, hia, ks, hks, hkk, hkf⟩ ⟨rfl, hx⟩
      by_cases hlt : i < as.length
      · rw [List.getElem?_append_left (by rw [List.length_map]; exact hlt)] at hx
        obtain ⟨c, hc, rfl⟩ := map_at hx
        obtain ⟨rn, hrn, hct⟩ := Paired.get hf hc
        have hrm := List.mem_of_getElem? hrn
        have hct2 := s2.ft hct
        obtain ⟨oc, hoc, hod⟩ := id hct2
        refine ⟨_, rfl, r, dxr, _, rfl, s2 _ _ hr0, lkI, _, rfl, r, .ref c, b, rows, "tuple", rfl, R.same s2, ok, .ft hoc, fun z => (by cases z), fun c' xs ec hxs => ?_⟩
        cases ec
        have exs : xs = rn.map V.int := by
          rcases hxs with e | ⟨o2, e⟩
          · rw [hoc] at e; cases e
          · rw [hoc] at e; cases e; rfl
        subst exs
        refine ⟨by rw [List.length_map]; have := (hv rn hrm).1; omega, fun y hy => ?_, fun H4 s4 => ⟨_, rfl, ?_⟩⟩
        · obtain ⟨z, _, rfl⟩ := List.mem_map.mp hy
          exact ⟨_, .int z⟩
        rw [(hv rn hrm).2]
        refine iteF ?_
        have hk4 := s4 _ _ hks
        have kl : ks.length ≤ 100 := by
          have := congrArg List.length hkf
          rw [List.length_map] at this
          have h2 := firsts_len (runs.take i)
          rw [List.length_take] at h2
          omega
        refine ⟨_, rfl, _, rfl, d, ks, c, rn, rfl, rfl, rfl, hk4, fun p hp => s4.ft (hkk p hp), FTv.sq (s4.ft hct2), small (by omega), _, rfl, Same.put (s2.trans s4) hd, hlt, addK ks rn c, upd_same, ?_, ?_⟩
        · have hput : ∀ b' rr, FT H3 b' rr → FT (upd H4 d (KD P w d (addK ks rn c))) b' rr := fun b' rr h => by
            have h4 := s4.ft h
            obtain ⟨o', e', d'⟩ := h4
            exact ⟨o', by rw [upd_ne (fun z => by rw [z, hk4] at e'; cases e')]; exact e', d'⟩
          exact addK_keys (fun p hp => hput _ _ (hkk p hp)) (hput _ _ hct2)
        · rw [addK_map, hkf, firsts_more hrn]
      · have hie : i = as.length := by omega
        subst hie
        rcases q with ⟨et, _⟩ | ⟨v, t, et, ⟨n, kd, hbad⟩, q⟩
        · rw [et, List.append_nil, List.length_map] at hi; omega
        rw [et, List.getElem?_append_right (by rw [List.length_map]; exact Nat.le_refl _), List.length_map, Nat.sub_self] at hx
        obtain rfl : v = x := by simpa using hx
        have rai : ∀ H4 a dx, Same H3 H4 → H4 a = none → (upd H4 a (exo a CN none)) dx = none → dx ≠ a → E (.ref CN) (some dx) (upd (del (upd (upd (upd H4 a (exo a CN none)) dx (exd dx [(("run" : Str), v)])) a (exo a CN (some dx))) a) dx (.xd [(("run" : Str), v)])) := fun H4 a dx s4 ha hdx nda => by
          have h4d : H4 dx = none := by rw [upd_ne nda] at hdx; exact hdx
          have s24 := s2.trans s4
          refine q _ dx (fun c o e => ?_) upd_same
          have nca : c ≠ a := fun z => by rw [z, Same.free s24 ha] at e; cases e
          have ncd : c ≠ dx := fun z => by rw [z, Same.free s24 h4d] at e; cases e
          rw [upd_ne ncd, del_ne nca, upd_ne nca, upd_ne ncd, upd_ne nca]
          exact s24 _ _ e
        refine ⟨_, rfl, r, dxr, _, rfl, s2 _ _ hr0, lkI, _, rfl, r, v, b, rows, n, rfl, R.same s2, ok, kd.same s2, fun hn H4 s4 => ⟨_, rfl, iteT ?_⟩, fun c xs ec hxs => ?_⟩
        · refine ⟨_, rfl, by show 1 ≤ 1000; decide, fun a ha => ⟨a, v, rfl, upd_same, fun dx hdx nda => ⟨rfl, dx, _, upd_same, by rw [upd_ne nda, upd_same], ?_, rai H4 a dx s4 ha hdx nda⟩⟩⟩
          rw [upd_ne nda] at hdx; exact hdx
        · obtain ⟨z1, z2, z3⟩ := hbad c xs ec (kd.back s2 ec hxs)
          refine ⟨z1, fun y hy => let ⟨m, km⟩ := z2 y hy; ⟨m, km.same s2⟩, fun H4 s4 => ⟨_, rfl, ?_⟩⟩
          rw [z3]
          refine iteT ?_
          refine ⟨_, rfl, by show 1 ≤ 1000; decide, fun a ha => ⟨a, v, rfl, upd_same, fun dx hdx nda => ⟨rfl, dx, _, upd_same, by rw [upd_ne nda, upd_same], ?_, rai H4 a dx s4 ha hdx nda⟩⟩⟩
          rw [upd_ne nda] at hdx; exact hdx
    · rintro σ H2 ⟨v3, rfl, s2, hia, ks, hks, hkk, hkf⟩
      have et : tail = [] := by
        rw [List.length_append, List.length_map] at hia
        exact List.length_eq_zero_iff.mp (by omega)
      subst et
      have q : ∀ H' p, Same H H' → ClosedRes C CR H' p r b rows runs → Q (.ref p) H' := by
        rcases q with ⟨_, q⟩ | ⟨v, t, e, _⟩
        · exact q
        · cases e
      rw [List.length_append, List.length_map, List.length_nil, Nat.add_zero, nasl, List.take_length] at hkf
      have hfm := firsts_mem runs
      have hfl := firsts_len runs
      have hcr : ∀ H' p, ClosedRes C CR H' p r b rows runs = match openF (firstsM runs) (firstsM runs) with
          | some (f, s, x) => ResOpen H' p f s x
          | none => ResPart C CR H' p r b rows (rows.filter fun q => decide (q ∈ (firstsM runs).flatMap stepsM)) := fun _ _ => rfl
      generalize ClosedRes C CR = CRes at hcr q
      generalize hfs : firstsM runs = fs at *
      have hk0 : ∀ p ∈ ks, p.1 ∈ runs := fun p hp => hfm _ (by rw [← hkf]; exact List.mem_map_of_mem hp)
      have ksl : ks.length = fs.length := by rw [← hkf, List.length_map]
      refine ⟨d, _, hks, trivial, fun od => ?_⟩
      have sd : ∀ {H' : Hp} {o : HO}, Same H H' → Same H (upd H' d o) := fun s => s.put hd
      have hk3 : (upd H2 d (.frz od (KD P w d ks))) d = some (.frz od (KD P w d ks)) := upd_same
      have hkk3 : Keys (upd H2 d (.frz od (KD P w d ks))) ks := fun p hp => by
        obtain ⟨o', e', d'⟩ := hkk p hp
        exact ⟨o', by rw [upd_ne (fun z => by rw [z, hks] at e'; cases e')]; exact e', d'⟩
      have s3 : Same H (upd H2 d (.frz od (KD P w d ks))) := sd s2
      generalize upd H2 d (.frz od (KD P w d ks)) = H3 at *
      have fwd : ∀ (f s : List Int) (x : Int), openF fs fs = some (f, s, x) → ∀ H4 a1 a2, Same H3 H4 → FT H4 a1 f → FT H4 a2 s → ∀ p, H4 p = none → Q (.ref p) (upd (upd H4 p (.tup [.str "open", .ref a1, .ref a2, .int x])) d (KD P w d ks)) := fun f s x ho H4 a1 a2 s4 f1 f2 p hp => by
        have hd4 := s4 _ _ hk3
        have npd : p ≠ d := fun z => by rw [z, hd4] at hp; cases hp
        refine q _ p (sd ((s3.trans s4).put (Same.free (s3.trans s4) hp))) ?_
        rw [hcr, ho]
        refine ⟨a1, a2, by rw [upd_ne npd, upd_same], ?_, ?_⟩
        · obtain ⟨o', e', d'⟩ := f1
          exact ⟨o', by rw [upd_ne (fun z => by rw [z, hd4] at e'; cases e'; ), upd_ne (fun z => by rw [z, hp] at e'; cases e')]; exact e', d'⟩
        · obtain ⟨o', e', d'⟩ := f2
          exact ⟨o', by rw [upd_ne (fun z => by rw [z, hd4] at e'; cases e'), upd_ne (fun z => by rw [z, hp] at e'; cases e')]; exact e', d'⟩
      refine ⟨_, rfl, d, od, ks, rfl, hk3, for_it walk_KD (fun i σ H4 => ∃ v4 v5 v6 : Option V, σ = [some (.ref r), some (.ref l), some (.ref d), v3, v4, v5, v6, none] ∧ Same H3 H4 ∧ (fs.take i).findSome? (fun f => openS fs f fs) = none)
        ⟨none, none, none, rfl, Same.refl _, rfl⟩ (fun i σ H4 _ ⟨_, _, _, _, s4, _⟩ => s4 _ _ hk3) ?_ ?_⟩
      · rintro i x σ H4 H5 hi ⟨v4, v5, v6, rfl, s4, hno⟩ ⟨rfl, p1, hp1, rfl⟩
        have hm1 : fs[i]? = some p1.1 := by rw [← hkf, List.getElem?_map, hp1]; rfl
        have hP1 := List.mem_of_getElem? hp1
        have hl1 := hv _ (hk0 _ hP1)
        refine ⟨_, rfl, d, od, ks, rfl, s4 _ _ hk3, for_it walk_KD (fun j σ H6 => ∃ v5 v6 : Option V, σ = [some (.ref r), some (.ref l), some (.ref d), v3, some (.ref p1.2), v5, v6, none] ∧ Same H3 H6 ∧ (fs.take j).findSome? (fun s => openB fs p1.1 s p1.1) = none)
          ⟨v5, v6, rfl, s4, rfl⟩ (fun j σ H6 _ ⟨_, _, _, s6, _⟩ => s6 _ _ hk3) ?_ ?_⟩
        · rintro j x σ H6 H7 hj ⟨w5, w6, rfl, s6, hno2⟩ ⟨rfl, p2, hp2, rfl⟩
          have hm2 : fs[j]? = some p2.1 := by rw [← hkf, List.getElem?_map, hp2]; rfl
          have hP2 := List.mem_of_getElem? hp2
          have hl2 := hv _ (hk0 _ hP2)
          refine ⟨_, rfl, p1.2, rfl, ⟨_, FTv.sq (s6.ft (hkk3 _ hP1))⟩, for_it (walk_tup (xs := p1.1.map V.int)) (fun k σ H8 => ∃ v6 : Option V, σ = [some (.ref r), some (.ref l), some (.ref d), v3, some (.ref p1.2), some (.ref p2.2), v6, none] ∧ Same H3 H8 ∧ (p1.1.take k).findSome? (fun x => if breachB fs p1.1 p2.1 x = true then some (p1.1, p2.1, x) else none) = none)
            ⟨w6, rfl, s6, rfl⟩ (fun k σ H8 _ ⟨_, _, s8, _⟩ => FTv.sq (s8.ft (hkk3 _ hP1))) ?_ ?_⟩
          · rintro k x σ H8 H9 hk ⟨u6, rfl, s8, hno3⟩ ⟨rfl, hx⟩
            obtain ⟨z, hz, rfl⟩ := map_at hx
            have hf1 := s8.ft (hkk3 _ hP1)
            have hf2 := s8.ft (hkk3 _ hP2)
            refine ⟨_, rfl, _, rfl, p2.2, p2.1.map V.int, rfl, .inr (FTv.sq hf2), rfl, flat_ints _, _, rfl, ?_⟩
            have e1 : (if false = true then !inV (.int z) (p2.1.map V.int) else inV (.int z) (p2.1.map V.int)) = decide (z ∈ p2.1) := by rw [if_neg Bool.false_ne_true, inV_ints]
            rw [e1]
            by_cases hz2 : z ∈ p2.1
            · rw [decide_eq_true hz2]
              refine iteT ?_
              refine ⟨_, rfl, _, rfl, _, rfl, p1.2, p2.2, z, p1.1, p2.1, rfl, hf1, hf2, List.mem_of_getElem? hz, hz2, by omega, by omega, fun H10 t c dd s10 ht hc => ?_⟩
              have s810 := s8.trans s10
              refine ⟨t, _, ((0 : Nat) : Int), .ref c, rfl, rfl, .inl (.inl ht), atI_nat rfl, _, rfl, d, ks, c, _, rfl, rfl, .inr ⟨od, s810 _ _ hk3⟩, fun q hq => s810.ft (hkk3 _ hq), hc.sq, _, rfl, ?_⟩
              have e2 : (if true = true then !decide (crossM p1.1 p2.1 z ∈ ks.map (·.1)) else decide (crossM p1.1 p2.1 z ∈ ks.map (·.1))) = !decide (crossM p1.1 p2.1 z ∈ fs) := by rw [if_pos rfl, hkf]
              rw [e2]
              have eb : breachB fs p1.1 p2.1 z = !decide (crossM p1.1 p2.1 z ∈ fs) := by unfold breachB; rw [decide_eq_true hz2, Bool.true_and]
              cases hb : (!decide (crossM p1.1 p2.1 z ∈ fs)) with
              | true =>
                refine iteT ?_
                rw [hb] at eb
                refine ⟨_, rfl, _, rfl, _, rfl, ?_, fun pt hpt => ?_⟩
                · show 4 ≤ sizeLine; decide
                have ho : openF fs fs = some (p1.1, p2.1, z) := findSome_all hm1 hno (findSome_all hm2 hno2 (findSome_all hz hno3 (by rw [if_pos eb])))
                refine ⟨?_, fwd _ _ _ ho H10 p1.2 p2.2 s810 (s810.ft (hkk3 _ hP1)) (s810.ft (hkk3 _ hP2)) pt hpt⟩
                have hd10 := s810 _ _ hk3
                rw [upd_ne (fun z => by rw [← z, hd10] at hpt; cases hpt)]; exact hd10
              | false =>
                refine iteF ?_
                rw [hb] at eb
                refine ⟨_, rfl, s810, ?_⟩
                rw [findSome_more hz hno3, if_neg (by rw [eb]; exact Bool.false_ne_true)]
            · rw [decide_eq_false hz2]
              refine iteF (iteF ?_)
              refine ⟨_, rfl, s8, ?_⟩
              rw [findSome_more hz hno3, if_neg (by unfold breachB; rw [decide_eq_false hz2, Bool.false_and]; exact Bool.false_ne_true)]
          · rintro σ H8 ⟨u6, rfl, s8, hno3⟩
            rw [List.length_map, List.take_length] at hno3
            refine ⟨_, _, rfl, s8, ?_⟩
            rw [findSome_more hm2 hno2]
            exact hno3
        · rintro σ H6 ⟨w5, w6, rfl, s6, hno2⟩
          rw [ksl, List.take_length] at hno2
          refine ⟨_, _, _, rfl, s6, ?_⟩
          rw [findSome_more hm1 hno]
          exact hno2
      · rintro σ H4 ⟨v4, v5, v6, rfl, s4, hno⟩
        rw [ksl, List.take_length] at hno
        have hd4 := s4 _ _ hk3
        refine ⟨hd4, ?_⟩
        have s5 : Same H (upd H4 d (KD P w d ks)) := sd (s3.trans s4)
        have hk5 : (upd H4 d (KD P w d ks)) d = some (KD P w d ks) := upd_same
        have kmv : ∀ {H' : Hp} {o o' : HO}, H' d = some o → (∀ u v, o ≠ .frz u (.tup v)) → Keys H' ks → Keys (upd H' d o') ks := fun {H' o o'} h1 h2 h p hp => by
          obtain ⟨o2, e2, d2⟩ := h p hp
          exact ⟨o2, by rw [upd_ne (fun z => by rw [z, h1] at e2; exact h2 _ _ (Option.some.inj e2))]; exact e2, d2⟩
        have hkk5 : Keys (upd H4 d (KD P w d ks)) ks := kmv hd4 (fun u v e => by cases e) fun p hp => s4.ft (hkk3 p hp)
        generalize upd H4 d (KD P w d ks) = H5 at *
        refine ⟨_, rfl, d, _, hk5, trivial, fun od2 => ?_⟩
        have s6 : Same H (upd H5 d (.frz od2 (KD P w d ks))) := sd s5
        have hk6 : (upd H5 d (.frz od2 (KD P w d ks))) d = some (.frz od2 (KD P w d ks)) := upd_same
        have hkk6 : Keys (upd H5 d (.frz od2 (KD P w d ks))) ks := kmv hk5 (fun u v e => by cases e) hkk5
        generalize upd H5 d (.frz od2 (KD P w d ks)) = H6 at *
        refine ⟨_, rfl, d, od2, ks, rfl, hk6, fun L hL => ?_⟩
        refine walkW walk_KD (fun i H7 => Same H6 H7 ∧ JL H7 L ((fs.take i).flatMap stepsM)) ⟨L2.Same.new hL, [], upd_same, .nil⟩ (fun i H7 _ hh => hh.1 _ _ hk6) ?_ ?_
        · rintro i x H7 H8 hi ⟨s7, hJ⟩ ⟨rfl, p1, hp1, rfl⟩
          have hm1 : fs[i]? = some p1.1 := by rw [← hkf, List.getElem?_map, hp1]; rfl
          have hP1 := List.mem_of_getElem? hp1
          have hl1 := hv _ (hk0 _ hP1)
          obtain ⟨oc, hoc, _⟩ := s7.ft (hkk6 _ hP1)
          refine ⟨rfl, _, rfl, p1.2, _, rfl, .inr ⟨oc, hoc⟩, by rw [List.length_map]; omega, fun H9 t Ts s9 ht hT hP => ⟨t, rfl, ⟨_, .inl (.inl hT)⟩, ?_⟩⟩
          have lTs : Ts.length = (stepsM p1.1).length := by rw [Paired.len hP, prs_map, List.length_map]
          have ntL : t ≠ L := fun z => by
            obtain ⟨bs, hb, _⟩ := hJ
            rw [← z, ht] at hb
            cases hb
          refine walkW (walk_list (xs := Ts.map V.ref)) (fun j H10 => Same H6 H10 ∧ TS H9 H10 ∧ H10 t = some (.lst (Ts.map V.ref)) ∧ JL H10 L ((fs.take i).flatMap stepsM ++ (stepsM p1.1).take j)) ⟨s7.trans s9, TS.refl _, hT, by rw [List.take_zero, List.append_nil]; exact hJ.same s9⟩ (fun j H10 _ hh => .inl (.inl hh.2.2.1)) ?_ ?_
          · rintro j x H10 H11 hj ⟨s10, t10, hT10, bs, hbs, hpb⟩ ⟨rfl, hx⟩
            obtain ⟨c, hc, rfl⟩ := map_at hx
            obtain ⟨q0, hq0, hcq⟩ := Paired.get hP hc
            rw [prs_map] at hq0
            obtain ⟨j0, hj0, rfl⟩ := map_at hq0
            have hbl : bs.length ≤ 100000 := by
              rw [Paired.len hpb, List.length_map, List.length_append]
              have h1 : ((fs.take i).flatMap stepsM).length ≤ 100 * (fs.take i).length := flatMap_le fun q hq => Nat.le_trans (stepsM_len q) (hv q (hfm q (List.mem_of_mem_take hq))).1
              have h2 := stepsM_len p1.1
              rw [List.length_take] at h1 ⊢
              omega
            have hcT : Tu H11 c (jl j0) := t10 _ _ hcq
            refine ⟨rfl, _, rfl, bs.map V.ref, hbs, small (by rw [List.length_map]; omega), s10.put hL, TS.put t10 (fun xs e => by rw [t10 _ _ e] at hbs; cases hbs), by rw [upd_ne ntL]; exact hT10, ?_⟩
            rw [take_more hj0, ← List.append_assoc]
            exact jl_push hbs hpb hcT
          · rintro H10 ⟨s10, t10, hT10, hJ10⟩
            rw [List.length_map, lTs, List.take_length] at hJ10
            refine ⟨s10, ?_⟩
            rw [take_more hm1, List.flatMap_append, List.flatMap_cons, List.flatMap_nil, List.append_nil]
            exact hJ10
        · rintro H7 ⟨s7, hJ⟩
          rw [ksl, List.take_length] at hJ
          have hd7 := s7 _ _ hk6
          refine ⟨hd7, ?_⟩
          have s8 : Same H (upd H7 d (KD P w d ks)) := sd (s6.trans s7)
          have hJ8 : JL (upd H7 d (KD P w d ks)) L (fs.flatMap stepsM) := by
            refine hJ.stay (fun b xs e => ?_) (fun o e => ?_)
            · rw [upd_ne (fun z => by rw [z, hd7] at e; cases e)]; exact e
            · obtain ⟨bs, hb, _⟩ := hJ
              rw [upd_ne (fun z => by rw [z, hd7] at hb; cases hb)]; exact e
          generalize upd H7 d (KD P w d ks) = H8 at *
          intro x dx hx hdx ndx
          have s9 : Same H8 (upd (upd H8 dx (.own x)) x (.ins C dx [])) := (L2.Same.new hdx).put hx
          have hx9 : (upd (upd H8 dx (.own x)) x (.ins C dx [])) x = some (.ins C dx []) := upd_same
          generalize upd (upd H8 dx (.own x)) x (.ins C dx []) = H9 at *
          refine ⟨x, dx, r, b, rows, L, fs.flatMap stepsM, rfl, hx9, R.same (s8.trans s9), ok, nd, h120, hJ8.same s9, ?_, fun j hj => ?_, ?_⟩
          · have h1 : (fs.flatMap stepsM).length ≤ 100 * fs.length := flatMap_le fun q hq => Nat.le_trans (stepsM_len q) (hv q (hfm q hq)).1
            omega
          · obtain ⟨q0, hq0, hj0⟩ := List.mem_flatMap.mp hj
            exact rnv_steps (hv q0 (hfm q0 hq0)).2 j hj0
          · intro H10 pat but
            refine ⟨rfl, by show 2 ≤ sizeLine; decide, fun p hp => ?_⟩
            have s10 : Same H H10 := fun c o e => but c o ((s8.trans s9) c o e) (fun z => by rw [z, Same.free s8 hx] at e; cases e)
            refine q _ p (s10.put (Same.free s10 hp)) ?_
            rw [hcr, show openF fs fs = none from hno]
            exact ⟨x, upd_same, pat.same (L2.Same.new hp)⟩
end
end Yf
set_option Elab.async false
set_option linter.all false
set_option maxRecDepth 100000
set_option maxHeartbeats 1000000
/-! G14: the feed, take, pick, steps. -/
namespace Yf
open PySem PySem.Spec PyProof.Rows L2

def Ft (H : Hp) (f : Addr) : Prop := ∃ d s : Int, H f = some (.lst [.int d, .int s])
theorem ix_listK {X : Cx} (K : PySem.W.Frag) (h : X.K = K) : IxR X (rIxL K) := h ▸ ix_list
/-- the feed moves on, else all stays -/
structure Mv (f : Addr) (H H' : Hp) : Prop where
  a : Ft H f
  b : Ft H' f
  s : But f H H'
theorem Mv.trans {f : Addr} {H H1 H2 : Hp} (x : Mv f H H1) (y : Mv f H1 H2) : Mv f H H2 := ⟨x.a, y.b, x.s.trans y.s⟩
theorem Ft.same {f : Addr} {H H' : Hp} (h : Ft H f) (s : Same H H') : Ft H' f := let ⟨d, t, e⟩ := h; ⟨d, t, s _ _ e⟩
theorem Ft.mv {f : Addr} {H H' : Hp} (h : Ft H f) (s : Same H H') : Mv f H H' := ⟨h, h.same s, s.but⟩
theorem Mv.then {f : Addr} {H H1 H2 : Hp} (x : Mv f H H1) (s : Same H1 H2) : Mv f H H2 := x.trans (x.b.mv s)
theorem Mv.at {f c : Addr} {H H' : Hp} {o : HO} (m : Mv f H H') (h : H c = some o) (n : ∀ d s : Int, o ≠ .lst [.int d, .int s]) : H' c = some o :=
  m.s _ _ h fun z => by obtain ⟨d, s, e⟩ := m.a; rw [z, e] at h; exact n d s (Option.some.inj h).symm
theorem Mv.free {f c : Addr} {H H' : Hp} (m : Mv f H H') (h : H' c = none) : H c = none := by
  cases e : H c with
  | none => rfl
  | some o =>
    by_cases z : c = f
    · obtain ⟨d, s, e2⟩ := m.b
      rw [z, e2] at h; cases h
    · rw [m.s _ _ e z] at h; cases h
theorem Mv.ts {f : Addr} {H H' : Hp} (m : Mv f H H') : TS H H' := fun b xs e => m.at e (fun d s z => by cases z)
theorem refs_ne (as : List Addr) (d s : Int) : HO.lst (as.map V.ref) ≠ .lst [.int d, .int s] := fun z => by
  injection z with z
  cases as with
  | nil => cases z
  | cons a as => cases z
theorem Mv.tl {f l : Addr} {H H' : Hp} {xss : List (List Int)} (m : Mv f H H') (t : TL H l xss) : TL H' l xss := let ⟨as, h, p⟩ := t; ⟨as, m.at h (refs_ne as), p.mono m.ts⟩
theorem Mv.jl {f l : Addr} {H H' : Hp} {js : List Jp} (m : Mv f H H') (t : JL H l js) : JL H' l js := m.tl t
theorem Mv.ft {f b : Addr} {H H' : Hp} {r : List Int} (m : Mv f H H') (t : FT H b r) : FT H' b r := let ⟨o, h, d⟩ := t; ⟨o, m.at h (fun d s z => by cases z), d⟩
theorem Mv.fls {f : Addr} {H H' : Hp} {as : List Addr} {rs : List (List Int)} (m : Mv f H H') (t : FLs H as rs) : FLs H' as rs := Paired.mapP t fun _ _ h => m.ft h
theorem Mv.rAt {f C a : Addr} {H H' : Hp} {b : Int} {js : List Jp} (m : Mv f H H') (t : RAt C H a b js) : RAt C H' a b js := by
  obtain ⟨dx, rl, d, h, hl, kvs, hd, e⟩ := t.ob
  exact ⟨dx, rl, d, m.at h (fun d s z => by cases z), m.jl hl, kvs, m.at hd (fun d s z => by cases z), e⟩
/-- a list of runs -/
def FL (H : Hp) (l : Addr) (rs : List (List Int)) : Prop := ∃ as, H l = some (.lst (as.map V.ref)) ∧ FLs H as rs
theorem FL.same {H H' : Hp} {l : Addr} {rs : List (List Int)} (t : FL H l rs) (s : Same H H') : FL H' l rs := let ⟨as, h, p⟩ := t; ⟨as, s _ _ h, p.same s⟩
theorem Mv.fl {f l : Addr} {H H' : Hp} {rs : List (List Int)} (m : Mv f H H') (t : FL H l rs) : FL H' l rs := let ⟨as, h, p⟩ := t; ⟨as, m.at h (refs_ne as), m.fls p⟩
def spTake : Sp := fun vs H Q _ => ∃ f m, vs = [.ref f, .int m] ∧ Ft H f ∧ 0 < m ∧ m < 1000000 ∧ ∀ (H' : Hp) (i : Int), Mv f H H' → 0 ≤ i → i < m → Q (.int i) H'
def spPick : Sp := fun vs H Q _ => ∃ f l xs, vs = [.ref f, .ref l] ∧ Ft H f ∧ H l = some (.lst xs) ∧ (∀ d s : Int, HO.lst xs ≠ .lst [.int d, .int s]) ∧ xs ≠ [] ∧ xs.length < 1000000 ∧ ∀ (H' : Hp) (x : V), Mv f H H' → x ∈ xs → Q x H'
def spFeed (K : PySem.W.Frag) : Sp := fun vs H Q _ => ∃ a, ∃ (cs : List Int), ∃ k : Nat, vs = [.ref a, .int k] ∧ SqL K H a (cs.map V.int) ∧ ∀ (H' : Hp) (p : Addr), Same H H' → H p = none → Ft H' p → Q (.ref p) H'
def spSteps : Sp := fun vs H Q _ => ∃ a q, vs = [.ref a] ∧ TR H a q ∧ q ≠ [] ∧ q.length ≤ 1000 ∧ ∀ (H' : Hp) (p : Addr), Same H H' → H p = none → JL H' p (stepsM q) → Q (.ref p) H'
section
variable {P : Program} {w : World} {K : PySem.W.Frag} {mg : Str → Option Value} {base : Heap}
theorem scTake : FnScope ["_law_feed_here", "_law_many", "_law_digit"] ["_law_feed_here", "_law_many"] (defScope sTake) := ⟨rfl, rfl, rfl, by decide +kernel, rfl, by decide +kernel, by decide +kernel⟩
theorem ok_take {f : Addr} {fd : FuncData} (D : Dn K mg "_law_take" sTake ["_law_feed_here", "_law_many"] f fd) (B : Bi mg) : FnOk P w K mg base CX0 1 f fd ["_law_feed_here", "_law_many"] spTake := by
  refine D.F.ok scTake (fun vs H Q E h => ?_) (fun cdv A outer s H vs Q E hr h => ?_)
  · obtain ⟨f, m, rfl, _⟩ := h
    rfl
  · obtain ⟨f, m, rfl, ⟨d, t, hf⟩, m0, m1, q⟩ := h
    refine ⟨_, pss_cons (ps_if (pt_cmpR op_gt (pe_ix (ix_listK K rfl) (pv 0) pe_int (fun _ _ => rfl)) pe_int (nomark _))
        (pss_cons (ps_set (i := 2) scTake.nd rfl (.inl rfl) (pe_op op_mod (pe_callTy call_int1 (by rfl) B.int (by decide +kernel) (pa_cons (pe_ix (ix_listK K rfl) (pv 0) pe_int (fun _ _ => rfl)) pa_nil)) (pv 1)))
        (pss_cons (ps_asg (pe_op op_fdiv (pe_ix (ix_listK K rfl) (pv 0) pe_int (fun _ _ => rfl)) (pv 1)) (pg_sub (pv 0) pe_int set_list))
        (pss_one (ps_ret (pv 2))))) pss_nil)
      (pss_cons (ps_asg (pe_op op_mod (pe_callTy call_int1 (by rfl) B.int (by decide +kernel) (pa_cons (pe_op op_add (pe_op op_mul (pe_ix (ix_listK K rfl) (pv 0) pe_int (fun _ _ => rfl)) pe_int) pe_int) pa_nil)) pe_int) (pg_sub (pv 0) pe_int set_list))
      (pss_one (ps_ret (pe_op op_mod (pe_callTy call_int1 (by rfl) B.int (by decide +kernel) (pa_cons (pe_op op_fdiv (pe_ix (ix_listK K rfl) (pv 0) pe_int (fun _ _ => rfl)) pe_int) pa_nil)) (pv 1))))), ?_⟩
    have mv : ∀ (d' t' : Int), Mv f H (upd H f (.lst [.int d', .int t'])) := fun d' t' => ⟨⟨d, t, hf⟩, ⟨d', t', upd_same⟩, But.put⟩
    refine ⟨_, rfl, f, _, ((0 : Nat) : Int), .int d, rfl, rfl, .inl (.inl hf), atI_nat rfl, d, 0, rfl, rfl, _, rfl, ?_⟩
    by_cases hd : 0 < d
    · rw [decide_eq_true hd]
      refine iteT ?_
      refine ⟨_, rfl, f, _, ((0 : Nat) : Int), .int d, rfl, rfl, .inl (.inl hf), atI_nat rfl, .inl ⟨d, rfl, _, rfl, d, m, rfl, rfl, m0, ?_⟩⟩
      refine ⟨_, rfl, f, _, ((0 : Nat) : Int), .int d, rfl, rfl, .inl (.inl hf), atI_nat rfl, _, rfl, d, m, rfl, rfl, ⟨m0, by omega⟩, _, rfl, f, _, 0, 0, rfl, rfl, hf, rfl, ?_⟩
      exact ⟨_, rfl, q _ _ (mv _ _) (Int.emod_nonneg _ (by omega)) (Int.emod_lt_of_pos _ m0)⟩
    · rw [decide_eq_false hd]
      refine iteF ?_
      refine ⟨_, rfl, f, _, ((1 : Nat) : Int), .int t, rfl, rfl, .inl (.inl hf), atI_nat rfl, t, 6364136223846793005, rfl, rfl, .inr (by decide), _, 1442695040888963407, rfl, rfl, .inl ⟨_, rfl, _, 2305843009213693951, rfl, rfl, (by show (0 : Int) < 2305843009213693951; decide), ?_⟩⟩
      refine ⟨_, rfl, f, _, 1, 1, rfl, rfl, hf, rfl, ?_⟩
      refine ⟨_, rfl, f, _, ((1 : Nat) : Int), .int _, rfl, rfl, .inl (.inl upd_same), atI_nat rfl, _, 65536, rfl, rfl, ⟨by decide, by decide⟩, .inl ⟨_, rfl, _, rfl, _, m, rfl, rfl, m0, ?_⟩⟩
      exact q _ _ (mv _ _) (Int.emod_nonneg _ (by omega)) (Int.emod_lt_of_pos _ m0)
theorem scPick : FnScope ["_law_feed_here", "_law_some"] ["_law_feed_here", "_law_some"] (defScope sPick) := ⟨rfl, rfl, rfl, by decide +kernel, rfl, by decide +kernel, by decide +kernel⟩
theorem ok_pick {f fT : Addr} {fd fdT : FuncData} (D : Dn K mg "_law_pick" sPick ["_law_feed_here", "_law_some"] f fd) (GT : FnOk P w K mg base CX0 1 fT fdT ["_law_feed_here", "_law_many"] spTake) (DT : Dn K mg "_law_take" sTake ["_law_feed_here", "_law_many"] fT fdT) (B : Bi mg) :
    FnOk P w K mg base CX0 2 f fd ["_law_feed_here", "_law_some"] spPick := by
  refine D.F.ok scPick (fun vs H Q E h => ?_) (fun cdv A outer s H vs Q E hr h => ?_)
  · obtain ⟨f, l, xs, rfl, _⟩ := h
    rfl
  · obtain ⟨f, l, xs, rfl, hf, hl, hn, hx, hz, q⟩ := h
    refine ⟨_, pss_one (ps_ret (pe_ix (ix_listK K rfl) (pv 1) (pe_call GT hr (by rfl) DT.g DT.F.kp DT.b .nil pass0 (pa_cons (pv 0) (pa_cons (pe_callB call_len_seq (by rfl) B.len PySem.boot_len (pa_cons (pv 1) pa_nil)) pa_nil))) (fun _ _ => rfl))), ?_⟩
    have hpos : 0 < xs.length := List.length_pos_iff.mpr hx
    refine ⟨_, rfl, _, rfl, _, rfl, l, xs, rfl, .inl (.inl (.inl hl)), f, _, rfl, hf, by omega, by omega, fun H' i m h0 h1 => ?_⟩
    have hi : i.toNat < xs.length := by omega
    refine ⟨l, xs, i, xs[i.toNat], rfl, rfl, .inl (.inl (m.at hl hn)), ?_, q H' _ m (List.getElem_mem hi)⟩
    have e : ((i.toNat : Nat) : Int) = i := by omega
    have z := atI_nat (List.getElem?_eq_getElem hi)
    rw [e] at z
    exact z
theorem scSteps : FnScope ["_law_run_here", "_law_k"] ["_law_run_here"] (defScope sSteps) := ⟨rfl, rfl, rfl, by decide +kernel, rfl, by decide +kernel, by decide +kernel⟩
theorem stepsM_at {q : List Int} {i : Nat} (h : i + 1 < q.length) : (stepsM q)[i]? = some (q[i]'(by omega), q[i + 1]) := by
  unfold stepsM
  rw [List.getElem?_zip_eq_some]
  exact ⟨List.getElem?_eq_getElem (by omega), by rw [List.getElem?_tail]; exact List.getElem?_eq_getElem h⟩
theorem ok_steps {f : Addr} {fd : FuncData} (D : Dn K mg "_law_steps" sSteps ["_law_run_here"] f fd) (B : Bi mg) : FnOk P w K mg base CX0 1 f fd ["_law_run_here"] spSteps := by
  refine D.F.ok scSteps (fun vs H Q E h => ?_) (fun cdv A outer s H vs Q E hr h => ?_)
  · obtain ⟨a, q, rfl, _⟩ := h
    rfl
  · obtain ⟨a, q, rfl, ha, hne, hql, k⟩ := h
    refine ⟨_, pss_one (ps_ret (pe_lc (own := [("_law_k", 1)]) (g := gName 1) rfl scSteps.nd (pi_range1 (by rfl) B.range (pa_cons (pe_op op_sub (pe_callB call_len_seq (by rfl) B.len PySem.boot_len (pa_cons (pv 0) pa_nil)) pe_int) pa_nil)) (blkOk_by (N := ["_law_run_here", "_law_k"]) (sc := defScope sSteps) (by decide +kernel))
      (fun _ _ _ _ _ => pg_name (i := 1) scSteps.nd rfl (Or.inl rfl)) (fun _ _ _ _ _ => pts_nil)
      (fun _ _ _ _ _ => by exact (pe_tup (pa_cons (pe_ix (ix_tupK K rfl) (pv 0) (pv 1) (fun _ _ => rfl)) (pa_cons (pe_ix (ix_tupK K rfl) (pv 0) (pe_op op_add (pv 1) pe_int) (fun _ _ => rfl)) pa_nil)))))), ?_⟩
    have hpos : 0 < q.length := List.length_pos_iff.mpr hne
    have hml : (q.map V.int).length = q.length := List.length_map ..
    refine ⟨_, rfl, a, _, rfl, .inr ha.sq, _, _, rfl, rfl, _, rfl, by omega, by omega, fun L hL => ?_⟩
    have hn : ((((q.map V.int).length : Nat) : Int) - 1).toNat = q.length - 1 := by omega
    rw [hn]
    refine lc_it (walk_range (lo := 0) (n := q.length - 1)) (fun i H2 => Same H H2 ∧ JL H2 L ((stepsM q).take i)) ⟨L2.Same.new hL, [], upd_same, .nil⟩ (fun _ _ _ _ => trivial) ?_ ?_
    · rintro i x H2 H3 hi ⟨s2, bs, hbs, hpb⟩ ⟨rfl, rfl⟩
      have ha2 := ha.same s2
      have e0 : (0 : Int) + (i : Nat) = ((i : Nat) : Int) := by omega
      have e1 : (0 : Int) + (i : Nat) + 1 = ((i + 1 : Nat) : Int) := by omega
      have g0 : atI (q.map V.int) (0 + (i : Nat)) = some (V.int (q[i]'(by omega))) := by
        rw [e0]
        exact atI_nat (by rw [List.getElem?_map, List.getElem?_eq_getElem (by omega)]; rfl)
      have g1 : atI (q.map V.int) (0 + (i : Nat) + 1) = some (V.int (q[i + 1]'(by omega))) := by
        rw [e1]
        exact atI_nat (by rw [List.getElem?_map, List.getElem?_eq_getElem (by omega)]; rfl)
      refine ⟨rfl, _, rfl, _, rfl, a, _, _, _, rfl, rfl, ha2.sq, g0, _, rfl, _, rfl, _, _, rfl, rfl, a, _, _, _, rfl, rfl, ha2.sq, g1, ?_, fun p hp => ?_⟩
      · show 2 ≤ sizeLine; decide
      have npL : p ≠ L := fun z => by rw [z, hbs] at hp; cases hp
      have s3 : Same H3 (upd H3 p (.tup [.int q[i], .int q[i + 1]])) := L2.Same.new hp
      have hb3 := s3 _ _ hbs
      refine ⟨_, hb3, small ?_, Same.put (s2.trans s3) hL, ?_⟩
      · rw [List.length_map, Paired.len hpb, List.length_map, List.length_take]; omega
      · rw [take_more (stepsM_at (by omega))]
        exact jl_push hb3 (hpb.mono s3.ts) (j := (q[i], q[i + 1])) upd_same
    · rintro H2 ⟨s2, hJ⟩
      have hl : (stepsM q).length ≤ q.length - 1 := by
        unfold stepsM
        rw [List.length_zip, List.length_tail]; omega
      rw [List.take_of_length_le hl] at hJ
      exact k H2 L s2 hL hJ
end
end Yf
set_option Elab.async false
set_option linter.all false
set_option maxRecDepth 100000
set_option maxHeartbeats 1000000
/-! G15: feed, run. -/
namespace Yf
open PySem PySem.Spec PyProof.Rows L2

/-- what stands between two statements, said once -/
def tMid (t u : L2.TS) : L2.TS := fun D σ H => ∃ M : L2.St → Hp → Prop, t { D with nx := M } σ H ∧ ∀ σ' H', M σ' H' → u D σ' H'
theorem pss_mid {X : Cx} {st : Stmt} {rest : List Stmt} {t u : L2.TS} (a : PS X st t) (b : PSs X rest u) : PSs X (st :: rest) (tMid t u) := ⟨fun pins s σ H D I ⟨M, hm, hu⟩ => wpAny_execs_cons (thn (a.run pins s σ H { D with nx := M } I hm) fun f s1 q => by
  cases f with
  | next => exact let ⟨σ', H', I', q⟩ := q; b.run pins s1 σ' H' D I' (hu σ' H' q)
  | ret v => exact q
  | brk => exact q
  | cont => exact q)⟩
/-- a way that a run may take: rising, within the blocks -/
def Rise (b : Int) (q : List Int) : Prop := q ≠ [] ∧ q.Pairwise (· < ·) ∧ ∀ x ∈ q, 0 ≤ x ∧ x ≤ b - 1
def spLRun : Sp := fun vs H Q _ => ∃ f b, vs = [.ref f, .int b] ∧ Ft H f ∧ 2 ≤ b ∧ b ≤ 8 ∧ ∀ (H' : Hp) (p : Addr) (q : List Int), Mv f H H' → H p = none → TR H' p q → q.length ≤ 8 → Rise b q → Q (.ref p) H'
section
variable {P : Program} {w : World} {K : PySem.W.Frag} {mg : Str → Option Value} {base : Heap}
theorem scFeed : FnScope ["_law_script", "_law_k", "_law_cell", "_law_digits", "_law_state"] ["_law_script", "_law_k"] (defScope sFeed) := ⟨rfl, rfl, rfl, by decide +kernel, rfl, by decide +kernel, by decide +kernel⟩
theorem ok_feed {f : Addr} {fd : FuncData} (D : Dn K mg "_law_feed" sFeed ["_law_script", "_law_k"] f fd) (B : Bi mg) : FnOk P w K mg base CX0 1 f fd ["_law_script", "_law_k"] (spFeed K) := by
  refine D.F.ok scFeed (fun vs H Q E h => ?_) (fun cdv A outer s H vs Q E hr h => ?_)
  · obtain ⟨a, cs, k, rfl, _⟩ := h
    rfl
  · obtain ⟨a, cs, k, rfl, ha, q⟩ := h
    refine ⟨_, pss_mid (ps_set (i := 2) scFeed.nd rfl (.inl rfl) (pe_ifExp (pt_cmpR op_lt (pv 1) (pe_callB call_len_seq (by rfl) B.len PySem.boot_len (pa_cons (pv 0) pa_nil)) (nomark _))
        (pe_ix (ix_listK K rfl) (pv 0) (pv 1) (fun _ _ => rfl)) (pe_op op_add (pe_op op_mul pe_int (pv 1)) pe_int)))
      (pss_cons (ps_set (i := 3) scFeed.nd rfl (.inl rfl) (pe_callB (call_max2 rfl) (by rfl) B.max (by decide +kernel) (pa_cons pe_int (pa_cons (pe_op op_sub (pe_callB call_abs (by rfl) B.abs (by decide +kernel) (pa_cons (pv 2) pa_nil)) (pe_op op_pow pe_int pe_int)) pa_nil))))
      (pss_cons (ps_set (i := 4) scFeed.nd rfl (.inl rfl) (pe_op op_mod (pe_callTy call_int1 (by rfl) B.int (by decide +kernel) (pa_cons (pe_op op_add (pe_op op_add (pe_op op_mul (pv 2) pe_int) (pe_op op_mul pe_int (pv 1))) pe_int) pa_nil)) pe_int))
      (pss_one (ps_ret (pe_lst (pa_cons (pv 3) (pa_cons (pv 4) pa_nil))))))), ?_⟩
    have hml : (cs.map V.int).length = cs.length := List.length_map ..
    refine ⟨fun σ H' => H' = H ∧ ∃ c : Int, σ = [some (.ref a), some (.int k), some (.int c), none, none], ?_, ?_⟩
    · refine ⟨_, rfl, _, rfl, a, _, rfl, .inl ha, _, _, rfl, rfl, _, rfl, ?_⟩
      by_cases hk : k < cs.length
      · rw [decide_eq_true (by omega)]
        refine iteT ?_
        refine ⟨_, rfl, _, rfl, a, _, _, _, rfl, rfl, ha, atI_nat (by rw [List.getElem?_map, List.getElem?_eq_getElem hk]; rfl), rfl, _, rfl⟩
      · rw [decide_eq_false (by omega)]
        refine iteF ?_
        exact ⟨_, rfl, 61, k, rfl, rfl, .inl (by decide), _, 17, rfl, rfl, rfl, _, rfl⟩
    · rintro σ H' ⟨rfl, c, rfl⟩
      refine ⟨_, rfl, c, rfl, 10, 18, rfl, rfl, ⟨by decide, by decide, by decide⟩, _, _, rfl, rfl, 0, _, rfl, ?_⟩
      refine ⟨_, rfl, c, _, rfl, rfl, .inr (by decide), _, rfl, 7919, k, rfl, rfl, .inl (by decide), _, _, rfl, rfl, _, _, rfl, rfl, .inl ⟨_, rfl, _, 2305843009213693951, rfl, rfl, (by show (0 : Int) < 2305843009213693951; decide), ?_⟩⟩
      refine ⟨_, rfl, _, rfl, by show 2 ≤ sizeLine; decide, fun p hp => ?_⟩
      exact q _ p (L2.Same.new hp) hp ⟨_, _, upd_same⟩
theorem _root_.Yf.Mv.put {f p : Addr} {H H1 : Hp} {o : HO} (m : Mv f H H1) (h : H p = none) : Mv f H (upd H1 p o) := by
  have nfp : f ≠ p := fun z => by obtain ⟨d, s, e⟩ := m.a; rw [z, h] at e; cases e
  refine ⟨m.a, ?_, fun c u e n => by rw [upd_ne (ne_of_none e h)]; exact m.s c u e n⟩
  obtain ⟨d, s, e⟩ := m.b
  exact ⟨d, s, by rw [upd_ne nfp]; exact e⟩
theorem rise_of {b : Int} {ys : List Int} (h2 : 2 ≤ b) (h : ys.Pairwise (· < ·)) (hy : ∀ y ∈ ys, 1 ≤ y ∧ y < b - 1) : Rise b ([0] ++ ys ++ [b - 1]) := by
  refine ⟨by simp, ?_, fun x hx => ?_⟩
  · refine List.pairwise_append.mpr ⟨List.pairwise_append.mpr ⟨List.pairwise_singleton _ _, h, fun a ha y hyy => ?_⟩, List.pairwise_singleton _ _, fun a ha y hyy => ?_⟩
    · rw [List.mem_singleton.mp ha]; have := hy y hyy; omega
    · rw [List.mem_singleton.mp hyy]
      rcases List.mem_append.mp ha with ha | ha
      · rw [List.mem_singleton.mp ha]; omega
      · exact (hy a ha).2
  · rcases List.mem_append.mp hx with hx | hx
    · rcases List.mem_append.mp hx with hx | hx
      · rw [List.mem_singleton.mp hx]; omega
      · have := hy x hx; omega
    · rw [List.mem_singleton.mp hx]; omega
theorem scLRun : FnScope ["_law_feed_here", "_law_blocks", "_law_bar", "_law_b"] ["_law_feed_here", "_law_blocks"] (defScope sRun) := ⟨rfl, rfl, rfl, by decide +kernel, rfl, by decide +kernel, by decide +kernel⟩
theorem ok_lrun {f fT : Addr} {fd fdT : FuncData} (D : Dn K mg "_law_run" sRun ["_law_feed_here", "_law_blocks"] f fd) (GT : FnOk P w K mg base CX0 1 fT fdT ["_law_feed_here", "_law_many"] spTake) (DT : Dn K mg "_law_take" sTake ["_law_feed_here", "_law_many"] fT fdT) (B : Bi mg) :
    FnOk P w K mg base CX0 2 f fd ["_law_feed_here", "_law_blocks"] spLRun := by
  refine D.F.ok scLRun (fun vs H Q E h => ?_) (fun cdv A outer s H vs Q E hr h => ?_)
  · obtain ⟨f, b, rfl, _⟩ := h
    rfl
  · obtain ⟨f, b, rfl, hf, b2, b8, q⟩ := h
    refine ⟨_, pss_cons (ps_set (i := 2) scLRun.nd rfl (.inr rfl) (pe_op op_add pe_int (pe_call GT hr (by rfl) DT.g DT.F.kp DT.b .nil pass0 (pa_cons (pv 0) (pa_cons pe_int pa_nil)))))
      (pss_one (ps_ret (pe_callTy call_tuple_of (by rfl) B.tuple (by decide +kernel) (pa_cons (pe_op op_cat (pe_op op_cat (pe_lst (pa_cons pe_int pa_nil))
        (pe_lc (own := [("_law_b", 3)]) (g := gName 3) rfl scLRun.nd (pi_range2 (by rfl) B.range (pa_cons pe_int (pa_cons (pe_op op_sub (pv 1) pe_int) pa_nil))) (blkOk_by (N := ["_law_feed_here", "_law_blocks", "_law_bar", "_law_b"]) (sc := defScope sRun) (by decide +kernel))
          (fun _ _ _ _ _ => pg_name (i := 3) scLRun.nd rfl (Or.inl rfl))
          (fun _ _ _ _ _ => pts_one (by exact (pt_cmpR op_ge (pe_call GT hr (by rfl) DT.g DT.F.kp DT.b .nil pass0 (pa_cons (pv 0) (pa_cons pe_int pa_nil))) (pv 2) (nomark _))))
          (fun _ _ _ _ _ => pv 3))) (pe_lst (pa_cons (pe_op op_sub (pv 1) pe_int) pa_nil))) pa_nil)))), ?_⟩
    refine ⟨_, rfl, f, 3, rfl, hf, by decide, by decide, fun H1 t m1 t0 t3 => ⟨1, t, rfl, rfl, ?_⟩⟩
    refine ⟨by show 1 ≤ sizeLine; decide, fun p1 hp1 => ?_⟩
    have m2 := m1.then (L2.Same.new (o := .lst [.int 0]) hp1)
    have h1p : (upd H1 p1 (.lst [.int 0])) p1 = some (.lst [.int 0]) := upd_same
    have hf1p : H p1 = none := m1.free hp1
    generalize upd H1 p1 (.lst [.int 0]) = H2 at *
    refine ⟨_, rfl, _, 1, rfl, rfl, _, _, rfl, by omega, fun L hL => ?_⟩
    have hn : (b - 1 - 1).toNat = (b - 2).toNat := by omega
    have nLf : L ≠ f := fun z => by obtain ⟨d, s, e⟩ := m2.b; rw [← z, hL] at e; cases e
    have np1L : p1 ≠ L := fun z => by rw [z, hL] at h1p; cases h1p
    refine lc_it (walk_range (lo := 1) (n := (b - 1 - 1).toNat)) (fun i H3 => Mv f H2 H3 ∧ ∃ ys : List Int, H3 L = some (.lst (ys.map V.int)) ∧ ys.Pairwise (· < ·) ∧ (∀ y ∈ ys, 1 ≤ y ∧ y < 1 + (i : Int)) ∧ ys.length ≤ i)
      ⟨m2.b.mv (L2.Same.new hL), [], upd_same, .nil, fun y hy => (by cases hy), Nat.zero_le _⟩ (fun _ _ _ _ => trivial) ?_ ?_
    · rintro i x H3 H4 hi ⟨m3, ys, hLy, hpw, hby, hyl⟩ ⟨rfl, rfl⟩
      refine ⟨rfl, _, rfl, f, 4, rfl, m3.b, by decide, by decide, fun H5 u m5 u0 u4 => ⟨_, rfl, u, 1 + t, rfl, rfl, _, rfl, ?_⟩⟩
      have hL5 : H5 L = some (.lst (ys.map V.int)) := m5.s _ _ hLy nLf
      have m35 := m3.trans m5
      by_cases hb : 1 + t ≤ u
      · rw [decide_eq_true hb]
        refine iteT ⟨_, rfl, _, hL5, small (by rw [List.length_map]; omega), m35.put hL, ys ++ [1 + (i : Int)], by rw [upd_same, List.map_append]; rfl, ?_, ?_, ?_⟩
        · refine List.pairwise_append.mpr ⟨hpw, List.pairwise_singleton _ _, fun a ha y hy => ?_⟩
          rw [List.mem_singleton.mp hy]; exact (hby a ha).2
        · intro y hy
          rcases List.mem_append.mp hy with hy | hy
          · have := hby y hy; omega
          · rw [List.mem_singleton.mp hy]; omega
        · rw [List.length_append, List.length_singleton]; omega
      · rw [decide_eq_false hb]
        refine iteF ⟨m35, ys, hL5, hpw, fun y hy => ?_, by omega⟩
        have := hby y hy; omega
    · rintro H3 ⟨m3, ys, hLy, hpw, hby, hyl⟩
      have h3p : H3 p1 = some (.lst [.int 0]) := m3.at h1p (fun d s z => by cases z)
      refine ⟨p1, L, _, _, rfl, rfl, h3p, hLy, small' (by rw [List.length_map, List.length_singleton]; omega), fun p2 hp2 => ?_⟩
      have s4 : Same H3 (upd H3 p2 (.lst ([.int 0] ++ ys.map V.int))) := L2.Same.new hp2
      refine ⟨_, rfl, b, 1, rfl, rfl, by show 1 ≤ sizeLine; decide, fun p3 hp3 => ?_⟩
      have n23 : p2 ≠ p3 := fun z => by rw [z, upd_same] at hp3; cases hp3
      refine ⟨p2, p3, _, _, rfl, rfl, by rw [upd_ne n23, upd_same], upd_same, small' (by simp only [List.length_append, List.length_map, List.length_singleton]; omega), fun p4 hp4 => ?_⟩
      refine ⟨p4, _, rfl, .inl ⟨.inl (.inl upd_same), fun p5 hp5 => ?_⟩⟩
      have mm : Mv f H H3 := m2.trans m3
      have s34 : Same H3 (upd (upd (upd (upd H3 p2 (.lst ([.int 0] ++ ys.map V.int))) p3 (.lst [.int (b - 1)])) p4 (.lst (([.int 0] ++ ys.map V.int) ++ [.int (b - 1)]))) p5 (.tup (([.int 0] ++ ys.map V.int) ++ [.int (b - 1)]))) :=
        ((s4.trans (L2.Same.new hp3)).trans (L2.Same.new hp4)).trans (L2.Same.new hp5)
      have hf5 : H p5 = none := mm.free (Same.free (((s4.trans (L2.Same.new hp3)).trans (L2.Same.new hp4))) hp5)
      refine q _ p5 ([0] ++ ys ++ [b - 1]) (mm.then s34) hf5 (.inl ?_) ?_ (rise_of b2 hpw fun y hy => ?_)
      · rw [upd_same, List.map_append, List.map_append]; rfl
      · rw [List.length_append, List.length_append, List.length_singleton, List.length_singleton]; omega
      · have := hby y hy; omega
end
end Yf
set_option Elab.async false
set_option linter.all false
set_option maxRecDepth 100000
set_option maxHeartbeats 1000000
/-! G16: rows. -/
namespace Yf
open PySem PySem.Spec PyProof.Rows L2

theorem op_inDK {X : Cx} (K : PySem.W.Frag) (h : X.K = K) (hu : X.A.units + 65 < cLine) : OpR X (compareOp .In) (rInD K) := h ▸ op_inD hu
def rowU (b : Int) (js : List Jp) (u : Int) (n : Nat) : List Jp := ((List.range n).map fun i : Nat => (u, u + 1 + (i : Int))).filter fun j => decide (j ∈ js)
def rowsN (b : Int) (js : List Jp) (n : Nat) : List Jp := (List.range n).flatMap fun u : Nat => rowU b js (u : Int) (b - ((u : Int) + 1)).toNat
def rowsM (b : Int) (js : List Jp) : List Jp := rowsN b js b.toNat
theorem any_jl (j : Jp) (js : List Jp) : (((js.map jl).map tD).any fun z => PyData.eqv z (tD (jl j))) = decide (j ∈ js) := by
  rw [any_tD]
  refine decide_eq_decide.mpr ⟨fun h => ?_, fun h => List.mem_map_of_mem h⟩
  obtain ⟨k, hk, e⟩ := List.mem_map.mp h
  rw [← jl_inj e]; exact hk
theorem rowU_more (b : Int) (js : List Jp) (u : Int) (n : Nat) : rowU b js u (n + 1) = rowU b js u n ++ if decide ((u, u + 1 + (n : Int)) ∈ js) = true then [(u, u + 1 + (n : Int))] else [] := by
  unfold rowU
  rw [List.range_succ, List.map_append, List.filter_append, List.map_cons, List.map_nil, List.filter_cons, List.filter_nil]
theorem rowU_len (b : Int) (js : List Jp) (u : Int) (n : Nat) : (rowU b js u n).length ≤ n := by
  unfold rowU
  exact Nat.le_trans (List.length_filter_le _ _) (by rw [List.length_map, List.length_range]; exact Nat.le_refl _)
theorem rowsN_more (b : Int) (js : List Jp) (n : Nat) : rowsN b js (n + 1) = rowsN b js n ++ rowU b js (n : Int) (b - ((n : Int) + 1)).toNat := by
  unfold rowsN
  rw [List.range_succ, List.flatMap_append, List.flatMap_cons, List.flatMap_nil, List.append_nil]
theorem rowsN_len (b : Int) (js : List Jp) (n : Nat) (h : b ≤ 40) : (rowsN b js n).length ≤ 40 * n := by
  induction n with
  | zero => exact Nat.le_refl _
  | succ n ih =>
    rw [rowsN_more, List.length_append]
    have := rowU_len b js (n : Int) (b - ((n : Int) + 1)).toNat
    omega
def spRows : Sp := fun vs H Q _ => ∃ b l js, vs = [.int b, .ref l] ∧ JL H l js ∧ 0 ≤ b ∧ b ≤ 40 ∧ js.length ≤ 1000 ∧ ∀ (H' : Hp) (p : Addr), Same H H' → H p = none → JL H' p (rowsM b js) → Q (.ref p) H'
section
variable {P : Program} {w : World} {K : PySem.W.Frag} {mg : Str → Option Value} {base : Heap}
theorem scRows : FnScope ["_law_blocks", "_law_jumps", "_law_found", "_law_u", "_law_v"] ["_law_blocks", "_law_jumps"] (defScope sRows) := ⟨rfl, rfl, rfl, by decide +kernel, rfl, by decide +kernel, by decide +kernel⟩
theorem ok_rows {f : Addr} {fd : FuncData} (D : Dn K mg "_law_rows" sRows ["_law_blocks", "_law_jumps"] f fd) (B : Bi mg) : FnOk P w K mg base CX0 1 f fd ["_law_blocks", "_law_jumps"] spRows := by
  refine D.F.ok scRows (fun vs H Q E h => ?_) (fun cdv A outer s H vs Q E hr h => ?_)
  · obtain ⟨b, l, js, rfl, _⟩ := h
    rfl
  · obtain ⟨b, l, js, rfl, hl, b0, b40, hjl, q⟩ := h
    have hu := hu_of hr
    have hu65 : (A.deeper (envOfC "_law_rows" (defScope sRows) s.heap.objs.size f cdv)).units + 65 < cLine := by
      have := hr.un; omega
    refine ⟨_, pss_cons (ps_set (i := 2) scRows.nd rfl (.inl rfl) (pe_lst pa_nil))
      (pss_cons (ps_for PassesOwn.never rfl (pi_range1 (by rfl) B.range (pa_cons (pv 0) pa_nil)) (pg_name (i := 3) scRows.nd rfl (.inr rfl))
        (pss_one (ps_set (i := 2) scRows.nd rfl (.inl rfl) (pe_op op_cat (pv 2) (pe_lc (own := [("_law_v", 4)]) (g := gName 4) rfl scRows.nd (pi_range2 (by rfl) B.range (pa_cons (pe_op op_add (pv 3) pe_int) (pa_cons (pv 0) pa_nil))) (blkOk_by (N := ["_law_blocks", "_law_jumps", "_law_found", "_law_u", "_law_v"]) (sc := defScope sRows) (by decide +kernel))
          (fun _ _ _ _ _ => pg_name (i := 4) scRows.nd rfl (Or.inl rfl))
          (fun _ _ _ _ _ => pts_one (by exact (pt_cmpR (op_inDK K rfl hu65) (pe_tup (pa_cons (pv 3) (pa_cons (pv 4) pa_nil))) (pv 1) (by with_unfolding_all rfl))))
          (fun _ _ _ _ _ => pe_tup (pa_cons (pv 3) (pa_cons (pv 4) pa_nil))))))))
      (pss_one (ps_ret (pv 2)))), ?_⟩
    refine ⟨Nat.zero_le _, fun p0 hp0 => ?_⟩
    refine ⟨_, rfl, b, rfl, by omega, by omega, for_it (walk_range (lo := 0) (n := b.toNat)) (fun i σ H2 => ∃ (p : Addr) (v3 : Option V), σ = [some (.int b), some (.ref l), some (.ref p), v3, none] ∧ Same H H2 ∧ H p = none ∧ JL H2 p (rowsN b js i))
      ⟨p0, none, rfl, L2.Same.new hp0, hp0, [], upd_same, .nil⟩ (fun _ _ _ _ _ => trivial) ?_ ?_⟩
    · rintro i x σ H2 H3 hi ⟨p, v3, rfl, s2, hp, hJ⟩ ⟨rfl, hx⟩
      have e0 : (0 : Int) + (i : Nat) = (i : Int) := by omega
      obtain rfl : x = V.int (i : Int) := by rw [hx]; show V.int (0 + (i : Nat)) = _; rw [e0]
      refine ⟨_, rfl, _, rfl, i, 1, rfl, rfl, _, rfl, _, b, rfl, by omega, fun L hL => ?_⟩
      have hn : (b - ((i : Int) + 1)).toNat ≤ 40 := by omega
      have hLH : H L = none := Same.free s2 hL
      refine lc_it (walk_range (lo := (i : Int) + 1) (n := (b - ((i : Int) + 1)).toNat)) (fun k H4 => Same H3 H4 ∧ JL H4 L (rowU b js i k)) ⟨L2.Same.new hL, [], upd_same, .nil⟩ (fun _ _ _ _ => trivial) ?_ ?_
      · rintro k x H4 H5 hk ⟨s4, bs, hbs, hpb⟩ ⟨rfl, rfl⟩
        refine ⟨rfl, _, rfl, _, rfl, by show 2 ≤ sizeLine; decide, fun t ht => ?_⟩
        have s5 : Same H5 (upd H5 t (.tup [.int (i : Int), .int ((i : Int) + 1 + (k : Nat))])) := L2.Same.new ht
        have hT5 : Tu (upd H5 t (.tup [.int (i : Int), .int ((i : Int) + 1 + (k : Nat))])) t (jl ((i : Int), (i : Int) + 1 + (k : Nat))) := upd_same
        generalize upd H5 t (.tup [.int (i : Int), .int ((i : Int) + 1 + (k : Nat))]) = H6 at *
        have s26 := (s2.trans s4).trans s5
        refine ⟨_, rfl, _, _, hT5.dp, (hl.same s26).dp, tD_shaped _, tDs_shaped _, _, rfl, ?_⟩
        rw [any_jl, rowU_more]
        have hb6 := s5 _ _ hbs
        have hp6 := hpb.mono s5.ts
        cases hm : decide (((i : Int), (i : Int) + 1 + (k : Nat)) ∈ js) with
        | false =>
          refine iteF ⟨s4.trans s5, bs, hb6, ?_⟩
          rw [if_neg Bool.false_ne_true, List.append_nil]
          exact hp6
        | true =>
          refine iteT ?_
          refine ⟨_, rfl, _, rfl, by show 2 ≤ sizeLine; decide, fun t2 ht2 => ?_⟩
          have s7 : Same H6 (upd H6 t2 (.tup [.int (i : Int), .int ((i : Int) + 1 + (k : Nat))])) := L2.Same.new ht2
          have hb7 := s7 _ _ hb6
          refine ⟨_, hb7, small ?_, Same.put ((s4.trans s5).trans s7) hL, ?_⟩
          · rw [List.length_map, Paired.len hp6, List.length_map]
            have := rowU_len b js (i : Int) k
            omega
          · rw [if_pos rfl]
            exact jl_push hb7 (hp6.mono s7.ts) (j := ((i : Int), (i : Int) + 1 + (k : Nat))) upd_same
      · rintro H4 ⟨s4, bs, hbs, hpb⟩
        obtain ⟨cs, hcs, hpc⟩ := hJ.same s4
        have hlen : cs.length + bs.length ≤ 100000 := by
          rw [Paired.len hpc, Paired.len hpb, List.length_map, List.length_map]
          have h1 := rowsN_len b js i b40
          have h2 := rowU_len b js (i : Int) (b - ((i : Int) + 1)).toNat
          omega
        refine ⟨p, L, _, _, rfl, rfl, hcs, hbs, small' (by rw [List.length_map, List.length_map]; omega), fun p2 hp2 => ?_⟩
        have s24 := s2.trans s4
        have s5 : Same H4 (upd H4 p2 (.lst (cs.map V.ref ++ bs.map V.ref))) := L2.Same.new hp2
        refine ⟨p2, _, rfl, s24.trans s5, Same.free s24 hp2, cs ++ bs, by rw [upd_same, List.map_append], ?_⟩
        rw [rowsN_more, List.map_append]
        exact Paired.app (hpc.mono s5.ts) (hpb.mono s5.ts)
    · rintro σ H2 ⟨p, v3, rfl, s2, hp, hJ⟩
      exact ⟨_, rfl, q H2 p s2 hp hJ⟩
end
end Yf
set_option Elab.async false
set_option linter.all false
set_option maxRecDepth 100000
set_option maxHeartbeats 1000000
/-! G17: rests. -/
namespace Yf
open PySem PySem.Spec PyProof.Rows L2

theorem op_catFK {X : Cx} (K : PySem.W.Frag) (h : X.K = K) : OpR X (binaryOp .Add) (rCatF K) := h ▸ op_catF
def restsM (js : List Jp) (last : Int) : Nat → Int → List (List Int)
  | 0, _ => []
  | d + 1, x => if x = last then [[last]] else (List.range (last - x).toNat).flatMap fun i : Nat => if decide ((x, x + 1 + (i : Int)) ∈ js) = true then (restsM js last d (x + 1 + (i : Int))).map (x :: ·) else []
def restsN (js : List Jp) (last : Int) (d : Nat) (x : Int) (n : Nat) : List (List Int) := (List.range n).flatMap fun i : Nat => if decide ((x, x + 1 + (i : Int)) ∈ js) = true then (restsM js last d (x + 1 + (i : Int))).map (x :: ·) else []
theorem restsN_more (js : List Jp) (last : Int) (d : Nat) (x : Int) (n : Nat) : restsN js last d x (n + 1) = restsN js last d x n ++ if decide ((x, x + 1 + (n : Int)) ∈ js) = true then (restsM js last d (x + 1 + (n : Int))).map (x :: ·) else [] := by
  unfold restsN
  rw [List.range_succ, List.flatMap_append, List.flatMap_cons, List.flatMap_nil, List.append_nil]
theorem rests_mem (js : List Jp) (last : Int) : ∀ (d : Nat) (x : Int), ∀ r ∈ restsM js last d x, r ≠ [] ∧ r.length ≤ d
  | 0, x, r, h => by cases h
  | d + 1, x, r, h => by
    unfold restsM at h
    split at h
    · rw [List.mem_singleton.mp h]
      exact ⟨by simp, by simp⟩
    · obtain ⟨i, _, h⟩ := List.mem_flatMap.mp h
      split at h
      · obtain ⟨r', hr', rfl⟩ := List.mem_map.mp h
        have := rests_mem js last d _ r' hr'
        exact ⟨by simp, by simp only [List.length_cons]; omega⟩
      · cases h
theorem restsN_len (js : List Jp) (last : Int) (d : Nat) (x : Int) (h : ∀ y, x < y → y ≤ last → (restsM js last d y).length ≤ 2 ^ (last - y).toNat) : ∀ n : Nat, n ≤ (last - x).toNat → (restsN js last d x n).length + 2 ^ ((last - x).toNat - n) ≤ 2 ^ (last - x).toNat := by
  intro n
  induction n with
  | zero => intro _; simp [restsN]
  | succ n ih =>
    intro hn
    have i := ih (by omega)
    rw [restsN_more, List.length_append]
    have e1 : (last - x).toNat - n = (last - (x + 1 + (n : Int))).toNat + 1 := by omega
    have e2 : (last - x).toNat - (n + 1) = (last - (x + 1 + (n : Int))).toNat := by omega
    rw [e1, Nat.pow_succ] at i
    rw [e2]
    have hh := h (x + 1 + (n : Int)) (by omega) (by omega)
    split
    · rw [List.length_map]; omega
    · rw [List.length_nil]; omega
theorem rests_len (js : List Jp) (last : Int) : ∀ (d : Nat) (x : Int), x ≤ last → (restsM js last d x).length ≤ 2 ^ (last - x).toNat
  | 0, x, _ => by simp [restsM]
  | d + 1, x, h => by
    unfold restsM
    split
    · exact Nat.one_le_two_pow
    · have := restsN_len js last d x (fun y _ hy => rests_len js last d y hy) (last - x).toNat (Nat.le_refl _)
      unfold restsN at this
      exact Nat.le_trans (Nat.le_add_right _ _) this
def spRests (d : Nat) : Sp := fun vs H Q _ => d ≠ 0 ∧ ∃ x last l js, vs = [.int x, .int last, .ref l] ∧ JL H l js ∧ js.length ≤ 1000 ∧ x ≤ last ∧ last - x < (d : Int) ∧ last - x ≤ 9 ∧ 0 ≤ x ∧ last ≤ 100 ∧ d ≤ 100 ∧
  ∀ (H' : Hp) (p : Addr), Same H H' → H p = none → FL H' p (restsM js last d x) → Q (.ref p) H'
section
variable {P : Program} {w : World} {K : PySem.W.Frag} {mg : Str → Option Value} {base : Heap}
theorem scRests : FnScope ["_law_block", "_law_last", "_law_jumps", "_law_found", "_law_v", "_law_rest"] ["_law_block", "_law_last", "_law_jumps"] (defScope sRests) := ⟨rfl, rfl, rfl, by decide +kernel, rfl, by decide +kernel, by decide +kernel⟩
theorem ok_rests {f : Addr} {fd : FuncData} (D : Dn K mg "_law_rests" sRests ["_law_block", "_law_last", "_law_jumps"] f fd) (B : Bi mg) : ∀ d, FnOk P w K mg base CX0 (d + 1) f fd ["_law_block", "_law_last", "_law_jumps"] (spRests d) := by
  intro d
  induction d with
  | zero => exact ⟨fun _ _ _ _ h => absurd rfl h.1, by intros; rename_i h; exact absurd rfl h.1⟩
  | succ d ih =>
    refine D.F.ok scRests (fun vs H Q E h => ?_) (fun cdv A outer s H vs Q E hr h => ?_)
    · obtain ⟨_, x, last, l, js, rfl, _⟩ := h
      rfl
    · obtain ⟨_, x, last, l, js, rfl, hl, hjl, hxl, hd, h9, x0, l100, d100, q⟩ := h
      have hu := hu_of hr
      have hu65 : (A.deeper (envOfC "_law_rests" (defScope sRests) s.heap.objs.size f cdv)).units + 65 < cLine := by
        have := hr.un; omega
      refine ⟨_, pss_cons (ps_if (pt_cmpR op_eq (pv 0) (pv 1) (nomark _)) (pss_one (ps_ret (pe_lst (pa_cons (pe_tupF (pa_cons (pv 1) pa_nil)) pa_nil)))) pss_nil)
        (pss_cons (ps_set (i := 3) scRests.nd rfl (.inl rfl) (pe_lst pa_nil))
        (pss_cons (ps_for PassesOwn.never rfl (pi_range2 (by rfl) B.range (pa_cons (pe_op op_add (pv 0) pe_int) (pa_cons (pe_op op_add (pv 1) pe_int) pa_nil))) (pg_name (i := 4) scRests.nd rfl (.inl rfl))
          (pss_one (ps_if (pt_cmpR (op_inDK K rfl hu65) (pe_tup (pa_cons (pv 0) (pa_cons (pv 4) pa_nil))) (pv 2) (by with_unfolding_all rfl))
            (pss_one (ps_set (i := 3) scRests.nd rfl (.inl rfl) (pe_op op_cat (pv 3) (pe_lc (own := [("_law_rest", 5)]) (g := gName 5) rfl scRests.nd
              (pi_list (pe_call ih (hr.mono (by omega)) (by rfl) D.g D.F.kp D.b .nil pass0 (pa_cons (pv 4) (pa_cons (pv 1) (pa_cons (pv 2) pa_nil))))) (blkOk_by (N := ["_law_block", "_law_last", "_law_jumps", "_law_found", "_law_v", "_law_rest"]) (sc := defScope sRests) (by decide +kernel))
              (fun _ _ _ _ _ => pg_name (i := 5) scRests.nd rfl (Or.inl rfl)) (fun _ _ _ _ _ => pts_nil)
              (fun _ _ _ _ _ => by exact (pe_op (op_catFK K rfl) (pe_tup (pa_cons (pv 0) pa_nil)) (pv 5))))))) pss_nil)))
        (pss_one (ps_ret (pv 3))))), ?_⟩
      refine ⟨_, rfl, _, rfl, rfl, _, rfl, ?_⟩
      have ed : decide (V.int x = V.int last) = decide (x = last) := decide_eq_decide.mpr ⟨fun z => by injection z, fun z => by rw [z]⟩
      rw [ed]
      by_cases hx : x = last
      · rw [decide_eq_true hx]
        refine iteT ?_
        refine ⟨_, rfl, by show 1 ≤ sizeLine; decide, fun p o hp ho => ⟨by show 1 ≤ sizeLine; decide, fun p2 hp2 => ?_⟩⟩
        have s1 : Same H (upd H p (.frz o (.tup [.int last]))) := L2.Same.new hp
        have s2 := L2.Same.new (o := .lst [.ref p]) hp2
        refine q _ p2 (s1.trans s2) (Same.free s1 hp2) ⟨[p], upd_same, ?_⟩
        unfold restsM
        rw [if_pos hx]
        exact .cons (s2.ft ⟨o, upd_same, ho⟩) .nil
      · rw [decide_eq_false hx]
        refine iteF ?_
        have hrM : restsM js last (d + 1) x = restsN js last d x (last - x).toNat := by
          show (if x = last then _ else _) = _
          rw [if_neg hx]; rfl
        rw [hrM] at q
        have hRl : ∀ y, x < y → y ≤ last → (restsM js last d y).length ≤ 2 ^ (last - y).toNat := fun y _ hy => rests_len js last d y hy
        have p9 : 2 ^ (last - x).toNat ≤ 512 := by
          have : 2 ^ (last - x).toNat ≤ 2 ^ 9 := Nat.pow_le_pow_right (by decide) (by omega)
          exact this
        refine ⟨Nat.zero_le _, fun p0 hp0 => ?_⟩
        have hn : (last + 1 - (x + 1)).toNat = (last - x).toNat := by omega
        refine ⟨_, rfl, x, 1, rfl, rfl, _, rfl, last, 1, rfl, rfl, _, _, rfl, by omega, ?_⟩
        rw [hn]
        refine for_it (walk_range (lo := x + 1) (n := (last - x).toNat)) (fun i σ H2 => ∃ (p : Addr) (v4 : Option V), σ = [some (.int x), some (.int last), some (.ref l), some (.ref p), v4, none] ∧ Same H H2 ∧ H p = none ∧ FL H2 p (restsN js last d x i))
          ⟨p0, none, rfl, L2.Same.new hp0, hp0, [], upd_same, .nil⟩ (fun _ _ _ _ _ => trivial) ?_ ?_
        · rintro i y σ H2 H3 hi ⟨p, v4, rfl, s2, hp, hF⟩ ⟨rfl, rfl⟩
          refine ⟨_, rfl, _, rfl, by show 2 ≤ sizeLine; decide, fun t ht => ?_⟩
          have s3 : Same H3 (upd H3 t (.tup [.int x, .int (x + 1 + (i : Nat))])) := L2.Same.new ht
          have hT3 : Tu (upd H3 t (.tup [.int x, .int (x + 1 + (i : Nat))])) t (jl (x, x + 1 + (i : Nat))) := upd_same
          generalize upd H3 t (.tup [.int x, .int (x + 1 + (i : Nat))]) = H4 at *
          have s24 := s2.trans s3
          refine ⟨_, rfl, _, _, hT3.dp, (hl.same s24).dp, tD_shaped _, tDs_shaped _, _, rfl, ?_⟩
          rw [any_jl]
          have hFl := restsN_len js last d x hRl (i + 1) (by omega)
          rw [restsN_more]
          rw [restsN_more, List.length_append] at hFl
          cases hm : decide ((x, x + 1 + (i : Int)) ∈ js) with
          | false =>
            refine iteF ⟨p, _, rfl, s24, hp, ?_⟩
            rw [if_neg Bool.false_ne_true, List.append_nil]
            exact hF.same s3
          | true =>
            rw [hm, if_pos rfl, List.length_map] at hFl
            rw [if_pos rfl]
            refine iteT ?_
            have hl1 : (restsN js last d x i).length + (restsM js last d (x + 1 + (i : Int))).length ≤ 512 := by
              have := Nat.le_trans (Nat.le_add_right _ _) hFl
              omega
            refine ⟨_, rfl, _, rfl, _, rfl, _, rfl, by omega, _, last, l, js, rfl, hl.same s24, hjl, by omega, by omega, by omega, by omega, l100, by omega, fun H5 L1 s5 hL1 hF5 => ?_⟩
            obtain ⟨as, has, hfs⟩ := hF5
            have las : as.length = (restsM js last d (x + 1 + (i : Int))).length := Paired.len hfs
            refine ⟨L1, rfl, ⟨_, .inl (.inl has)⟩, fun L hL => ?_⟩
            have s25 := s24.trans s5
            refine lc_it (walk_list (xs := as.map V.ref)) (fun k H6 => Same H5 H6 ∧ FL H6 L (((restsM js last d (x + 1 + (i : Int))).take k).map (x :: ·))) ⟨L2.Same.new hL, [], upd_same, .nil⟩ (fun k H6 _ hh => .inl (.inl (hh.1 _ _ has))) ?_ ?_
            · rintro k y H6 H7 hk ⟨s6, bs, hbs, hpb⟩ ⟨rfl, hy⟩
              obtain ⟨c, hc, rfl⟩ := map_at hy
              obtain ⟨r, hr1, hcr⟩ := Paired.get hfs hc
              obtain ⟨rne, rle⟩ := rests_mem js last d _ r (List.mem_of_getElem? hr1)
              have hc7 := s6.ft hcr
              refine ⟨rfl, _, rfl, by show 1 ≤ sizeLine; decide, fun t1 ht1 => ?_⟩
              have s8 : Same H7 (upd H7 t1 (.tup [.int x])) := L2.Same.new ht1
              refine ⟨_, rfl, t1, c, _, _, rfl, rfl, .inl (.inl upd_same), FTv.sq (s8.ft hc7), by simp, by simpa using rne, small' (by simp only [List.length_singleton, List.length_map]; omega), fun t2 o ht2 ho => ?_⟩
              have s9 := L2.Same.new (o := .frz o (.tup ([.int x] ++ r.map V.int))) ht2
              have s79 := s8.trans s9
              have hb9 := s79 _ _ hbs
              have hft2 : FT (upd (upd H7 t1 (.tup [.int x])) t2 (.frz o (.tup ([.int x] ++ r.map V.int)))) t2 (x :: r) := ⟨o, upd_same, ho⟩
              refine ⟨_, hb9, small ?_, Same.put (s6.trans s79) hL, bs ++ [t2], by rw [upd_same, List.map_append]; rfl, ?_⟩
              · rw [List.length_map, Paired.len hpb, List.length_map, List.length_take]; omega
              · rw [take_more hr1, List.map_append]
                have st : ∀ b' r', FT (upd (upd H7 t1 (.tup [.int x])) t2 (.frz o (.tup ([.int x] ++ r.map V.int)))) b' r' → FT (upd (upd (upd H7 t1 (.tup [.int x])) t2 (.frz o (.tup ([.int x] ++ r.map V.int)))) L (.lst (bs.map V.ref ++ [.ref t2]))) b' r' := fun b' r' ⟨o', e', d'⟩ =>
                  ⟨o', by rw [upd_ne (fun z => by rw [z, hb9] at e'; cases e')]; exact e', d'⟩
                exact Paired.app (Paired.mapP (FLs.same hpb s79) fun _ _ h => st _ _ h) (.cons (st _ _ hft2) .nil)
            · rintro H6 ⟨s6, bs, hbs, hpb⟩
              rw [List.length_map, las, List.take_length] at hpb
              obtain ⟨cs, hcs, hpc⟩ := hF.same ((s3.trans s5).trans s6)
              have hlen : cs.length + bs.length ≤ 512 := by
                rw [Paired.len hpc, Paired.len hpb, List.length_map]; omega
              refine ⟨p, L, _, _, rfl, rfl, hcs, hbs, small' (by rw [List.length_map, List.length_map]; omega), fun p2 hp2 => ?_⟩
              have s26 := s25.trans s6
              have s7 : Same H6 (upd H6 p2 (.lst (cs.map V.ref ++ bs.map V.ref))) := L2.Same.new hp2
              refine ⟨p2, _, rfl, s26.trans s7, Same.free s26 hp2, cs ++ bs, by rw [upd_same, List.map_append], ?_⟩
              exact Paired.app (FLs.same hpc s7) (FLs.same hpb s7)
        · rintro σ H2 ⟨p, v4, rfl, s2, hp, hF⟩
          exact ⟨_, rfl, q H2 p s2 hp hF⟩
end
end Yf
set_option Elab.async false
set_option linter.all false
set_option maxRecDepth 100000
set_option maxHeartbeats 1000000
/-! G18: keeping. -/
namespace Yf
open PySem PySem.Spec PyProof.Rows L2

theorem op_notInDK {X : Cx} (K : PySem.W.Frag) (h : X.K = K) (hu : X.A.units + 65 < cLine) : OpR X (compareOp .NotIn) (rNotInD K) := h ▸ op_notInD hu
theorem op_eqDK {X : Cx} (K : PySem.W.Frag) (h : X.K = K) (hu : X.A.units + 64 < cLine) : OpR X (compareOp .Eq) (rEqD K) := h ▸ op_eqD hu
def scKeep1 : Scope := ⟨.function, [(".0", .local), ("_law_run_here", .local), ("_law_steps", .globalImplicit), ("_law_jumps", .cell)], false, false, []⟩
/-- runs as the law draws them: not empty, short -/
def Shortly (rs : List (List Int)) : Prop := rs.length ≤ 1000 ∧ ∀ r ∈ rs, r ≠ [] ∧ r.length ≤ 100
def spKeeping : Sp := fun vs H Q _ => ∃ l j rs js, vs = [.ref l, .ref j] ∧ FL H l rs ∧ JL H j js ∧ js.length ≤ 100000 ∧ Shortly rs ∧ ∀ (H' : Hp) (p : Addr) (ks : List (List Int)), Same H H' → H p = none → FL H' p ks → (∀ r ∈ ks, r ∈ rs) → ks.length ≤ rs.length → Q (.ref p) H'
section
variable {P : Program} {w : World} {K : PySem.W.Frag} {mg : Str → Option Value} {base : Heap}
theorem scKeeping : FnScope ["_law_runs", "_law_jumps", "_law_run_here", "_law_jump"] ["_law_runs", "_law_jumps"] (defScope sKeeping) := ⟨rfl, rfl, rfl, by decide +kernel, rfl, by decide +kernel, by decide +kernel⟩
theorem ok_keeping {f fS : Addr} {fd fdS : FuncData} (D : Dn K mg "_law_keeping" sKeeping ["_law_runs", "_law_jumps"] f fd) (GS : FnOk P w K mg base CX0 1 fS fdS ["_law_run_here"] spSteps) (DS : Dn K mg "_law_steps" sSteps ["_law_run_here"] fS fdS) (B : Bi mg) :
    FnOk P w K mg base CX0 2 f fd ["_law_runs", "_law_jumps"] spKeeping := by
  refine D.F.ok scKeeping (fun vs H Q E h => ?_) (fun cdv A outer s H vs Q E hr h => ?_)
  · obtain ⟨l, j, rs, js, rfl, _⟩ := h
    rfl
  · obtain ⟨l, j, rs, js, rfl, hl, hj, hjl, ⟨hrl, hrs⟩, q⟩ := h
    have hu := hu_of hr
    have hu65 : (A.deeper (envOfC "_law_keeping" (defScope sKeeping) s.heap.objs.size f cdv)).units + 65 < cLine := by
      have := hr.un; omega
    refine ⟨_, pss_one (ps_ret (pe_lc (own := [("_law_run_here", 2)]) (g := gName 2) rfl scKeeping.nd (pi_list (pv 0)) (blkOk_by (N := ["_law_runs", "_law_jumps", "_law_run_here", "_law_jump"]) (sc := defScope sKeeping) (by decide +kernel))
      (fun _ _ _ _ _ => pg_name (i := 2) scKeeping.nd rfl (by first | exact Or.inl rfl | exact Or.inr (Or.inl rfl) | exact Or.inr rfl))
      (fun _ _ _ _ _ => pts_one (by exact (pt_cmpR (op_eqDK K rfl hr.units) (pe_lc (own := [("_law_jump", 3)]) (g := gName 3) rfl scKeeping.nd
          (pi_listK K rfl (pe_call GS hr (by rfl) DS.g DS.F.kp DS.b .nil pass0 (pa_cons (pv 2) pa_nil))) (blkOk_by (N := ["_law_runs", "_law_jumps", "_law_run_here", "_law_jump"]) (sc := scKeep1) (by decide +kernel))
          (fun _ _ _ _ _ => pg_name (i := 3) scKeeping.nd rfl (Or.inl rfl))
          (fun _ _ _ _ _ => pts_one (by exact (pt_cmpR (op_notInDK K rfl hu65) (pv 3) (pv 1) (by with_unfolding_all rfl))))
          (fun _ _ _ _ _ => pv 3)) (pe_lst pa_nil) (nomark _))))
      (fun _ _ _ _ _ => pv 2))), ?_⟩
    obtain ⟨as, has, hfs⟩ := id hl
    have las : as.length = rs.length := Paired.len hfs
    refine ⟨_, rfl, l, rfl, ⟨_, .inl (.inl has)⟩, fun L hL => ?_⟩
    refine lc_it (walk_list (xs := as.map V.ref)) (fun k H2 => Same H H2 ∧ ∃ ks, FL H2 L ks ∧ (∀ r ∈ ks, r ∈ rs) ∧ ks.length ≤ k) ⟨L2.Same.new hL, [], ⟨[], upd_same, .nil⟩, fun r hr => (by cases hr), Nat.le_refl _⟩ (fun k H2 _ hh => .inl (.inl (hh.1 _ _ has))) ?_ ?_
    · rintro k y H2 H3 hk ⟨s2, ks, ⟨bs, hbs, hpb⟩, hks, hkl⟩ ⟨rfl, hy⟩
      obtain ⟨c, hc, rfl⟩ := map_at hy
      obtain ⟨r, hr1, hcr⟩ := Paired.get hfs hc
      have hrm := List.mem_of_getElem? hr1
      obtain ⟨rne, rle⟩ := hrs r hrm
      have hc3 := s2.ft hcr
      have nLH := hL
      refine ⟨rfl, _, rfl, c, r, rfl, hc3.tr, rne, by omega, fun H4 j1 s4 hj1 hJ4 => ⟨j1, rfl, ?_⟩⟩
      obtain ⟨ts, hts, hpt⟩ := id hJ4
      have lts : ts.length = (stepsM r).length := by rw [Paired.len hpt, List.length_map]
      refine ⟨⟨_, .inl (.inl hts)⟩, fun L2' hL2 => ?_⟩
      have s24 := s2.trans s4
      have hb4 := s4 _ _ hbs
      refine lc_it (walk_list (xs := ts.map V.ref)) (fun m H5 => Same H4 H5 ∧ ∃ zs, JL H5 L2' zs ∧ zs.length ≤ m) ⟨L2.Same.new hL2, [], ⟨[], upd_same, .nil⟩, Nat.le_refl _⟩ (fun m H5 _ hh => .inl (.inl (hh.1 _ _ hts))) ?_ ?_
      · rintro m y H5 H6 hm ⟨s5, zs, ⟨us, hus, hpu⟩, hzl⟩ ⟨rfl, hy⟩
        obtain ⟨c2, hc2, rfl⟩ := map_at hy
        obtain ⟨x2, hx2, hcx⟩ := Paired.get hpt hc2
        obtain ⟨j2, hj2, rfl⟩ := map_at hx2
        have hc6 : Tu H6 c2 (jl j2) := s5.ts _ _ hcx
        refine ⟨rfl, _, rfl, _, rfl, _, _, hc6.dp, (hj.same (s24.trans s5)).dp, tD_shaped _, tDs_shaped _, _, rfl, ?_⟩
        cases hb : (!(((js.map jl).map tD).any fun z => PyData.eqv z (tD (jl j2)))) with
        | false => exact iteF ⟨s5, zs, ⟨us, hus, hpu⟩, by omega⟩
        | true =>
          refine iteT ⟨_, rfl, _, hus, small ?_, Same.put s5 hL2, zs ++ [j2], jl_push hus hpu hc6, by rw [List.length_append, List.length_singleton]; omega⟩
          rw [List.length_map, Paired.len hpu, List.length_map]
          have := stepsM_len r
          rw [List.length_map, lts] at hm
          omega
      · rintro H5 ⟨s5, zs, hJz, hzl⟩
        refine ⟨Nat.zero_le _, fun e he => ?_⟩
        have s6 : Same H5 (upd H5 e (.lst [])) := L2.Same.new he
        refine ⟨_, .list (([] : List (List Int)).map tD), (hJz.same s6).dp, .lst (.inl (.inl upd_same)) .nil, tDs_shaped _, tDs_shaped _, _, rfl, ?_⟩
        have s26 := (s4.trans s5).trans s6
        have hb6 := s26 _ _ hbs
        have hp6 := FLs.same hpb s26
        generalize upd H5 e (.lst []) = H6 at *
        cases hb : PyData.eqv (.list ((zs.map jl).map tD)) (.list (([] : List (List Int)).map tD)) with
        | false => exact iteF ⟨s2.trans s26, ks, ⟨bs, hb6, hp6⟩, hks, by omega⟩
        | true =>
          have hc7 := s26.ft hc3
          have st : ∀ b' r', FT H6 b' r' → FT (upd H6 L (.lst (bs.map V.ref ++ [.ref c]))) b' r' := fun b' r' ⟨o', e', d'⟩ =>
            ⟨o', by rw [upd_ne (fun z => by rw [z, hb6] at e'; cases e')]; exact e', d'⟩
          refine iteT ⟨_, rfl, _, hb6, small ?_, Same.put (s2.trans s26) hL, ks ++ [r], ⟨bs ++ [c], by rw [upd_same, List.map_append]; rfl, ?_⟩, fun r' hr' => ?_, by rw [List.length_append, List.length_singleton]; omega⟩
          · rw [List.length_map, Paired.len hp6]
            rw [List.length_map] at hk
            omega
          · exact Paired.app (Paired.mapP hp6 fun _ _ h => st _ _ h) (.cons (st _ _ hc7) .nil)
          · rcases List.mem_append.mp hr' with h | h
            · exact hks r' h
            · rw [List.mem_singleton.mp h]; exact hrm
    · rintro H2 ⟨s2, ks, hF, hks, hkl⟩
      rw [List.length_map, las] at hkl
      exact q H2 L ks s2 hL hF hks hkl
end
end Yf
set_option Elab.async false
set_option linter.all false
set_option maxRecDepth 100000
set_option maxHeartbeats 1000000
/-! G19: due. -/
namespace Yf
open PySem PySem.Spec PyProof.Rows L2

theorem TR.dp {K : PySem.W.Frag} {H : Hp} {b : Addr} {xs : List Int} (t : TR H b xs) : Dp K H (.ref b) (tD xs) := .tup t.sq (dpAll_ints xs)
theorem FLs.dp {K : PySem.W.Frag} {H : Hp} : ∀ {as : List Addr} {rs : List (List Int)}, FLs H as rs → DpAll K H (as.map V.ref) (rs.map tD)
  | _, _, .nil => .nil
  | _, _, .cons r t => .cons (FT.tr r).dp (FLs.dp t)
theorem FL.dp {K : PySem.W.Frag} {H : Hp} {l : Addr} {rs : List (List Int)} (t : FL H l rs) : Dp K H (.ref l) (.list (rs.map tD)) := let ⟨_, h, p⟩ := t; .lst (.inl (.inl h)) p.dp
theorem FT.upd {H : Hp} {l b : Addr} {o o' : HO} {r : List Int} (h : FT H b r) (hl : H l = some o) (n : ∀ u v, o ≠ .frz u (.tup v)) : FT (upd H l o') b r :=
  let ⟨u, e, d⟩ := h; ⟨u, by rw [upd_ne (fun z => by rw [z, hl] at e; exact n _ _ (Option.some.inj e))]; exact e, d⟩
theorem fl_push {H : Hp} {l c : Addr} {as : List Addr} {rs : List (List Int)} {r : List Int} (h : H l = some (.lst (as.map V.ref))) (p : FLs H as rs) (hc : FT H c r) : FL (upd H l (.lst (as.map V.ref ++ [V.ref c]))) l (rs ++ [r]) :=
  ⟨as ++ [c], by rw [upd_same, List.map_append]; rfl, Paired.app (Paired.mapP p fun _ _ t => FT.upd t h (fun _ _ z => by cases z)) (.cons (FT.upd hc h (fun _ _ z => by cases z)) .nil)⟩
def spDue : Sp := fun vs H Q _ => ∃ l rs, vs = [.ref l] ∧ FL H l rs ∧ Shortly rs ∧ (∀ f s x, openF (firstsM rs) (firstsM rs) = some (f, s, x) → ∀ H' p, Same H H' → ResOpen H' p f s x → Q (.ref p) H') ∧ (openF (firstsM rs) (firstsM rs) = none → ∀ H', Same H H' → Q .non H')
section
variable {P : Program} {w : World} {K : PySem.W.Frag} {mg : Str → Option Value} {base : Heap}
theorem scDue : FnScope ["_law_runs", "_law_firsts", "_law_run_here", "_law_one", "_law_other", "_law_block", "_law_made"] ["_law_runs"] (defScope sDue) := ⟨rfl, rfl, rfl, by decide +kernel, rfl, by decide +kernel, by decide +kernel⟩
theorem ok_due {f : Addr} {fd : FuncData} (D : Dn K mg "_law_due" sDue ["_law_runs"] f fd) : FnOk P w K mg base CX0 1 f fd ["_law_runs"] spDue := by
  refine D.F.ok scDue (fun vs H Q E h => ?_) (fun cdv A outer s H vs Q E hr h => ?_)
  · obtain ⟨l, rs, rfl, _⟩ := h
    rfl
  · obtain ⟨l, rs, rfl, hl, ⟨hrl, hrs⟩, q1, q2⟩ := h
    have hu := hu_of hr
    have hu65 : (A.deeper (envOfC "_law_due" (defScope sDue) s.heap.objs.size f cdv)).units + 65 < cLine := by
      have := hr.un; omega
    refine ⟨_, pss_cons (ps_set (i := 1) scDue.nd rfl (.inl rfl) (pe_lst pa_nil))
      (pss_cons (ps_for PassesOwn.never rfl (pi_list (pv 0)) (pg_name (i := 2) scDue.nd rfl (.inl rfl))
        (pss_one (ps_if (pt_cmpR (op_notInDK K rfl hu65) (pv 2) (pv 1) (by with_unfolding_all rfl))
          (pss_one (ps_expr (pe_bm PySem.F.plainAttrs_list PySem.F.slot_list_append PySem.F.type_list_append (by exact mt_append) (pv 1) (pa_cons (pv 2) pa_nil)))) pss_nil)))
      (pss_cons (ps_for PassesOwn.never rfl (pi_list (pv 1)) (pg_name (i := 3) scDue.nd rfl (.inl rfl))
        (pss_one (ps_for PassesOwn.never rfl (pi_list (pv 1)) (pg_name (i := 4) scDue.nd rfl (.inl rfl))
          (pss_one (ps_for PassesOwn.never rfl (pi_tup (pv 3)) (pg_name (i := 5) scDue.nd rfl (.inl rfl))
            (pss_one (ps_if (pt_cmpR op_in_seq (pv 5) (pv 4) (by with_unfolding_all rfl))
              (pss_cons (ps_set (i := 6) scDue.nd rfl (.inl rfl) (pe_op op_catA
                (pe_slice sl_tupA (pv 3) po_none (po_some (pe_bmF PySem.F.plainAttrs_tuple PySem.F.slot_tuple_index PySem.F.type_tuple_index mt_tup_indexI (pv 3) (pa_cons (pv 5) pa_nil))))
                (pe_slice sl_tupA (pv 4) (po_some (pe_bmF PySem.F.plainAttrs_tuple PySem.F.slot_tuple_index PySem.F.type_tuple_index mt_tup_indexI (pv 4) (pa_cons (pv 5) pa_nil))) po_none)))
              (pss_one (ps_if (pt_cmpR (op_notInDK K rfl hu65) (pv 6) (pv 1) (by with_unfolding_all rfl)) (pss_one (ps_ret (pe_tup (pa_cons pe_str (pa_cons (pv 3) (pa_cons (pv 4) (pa_cons (pv 5) pa_nil))))))) pss_nil))) pss_nil)))))))
      (pss_one (ps_ret pe_non)))), ?_⟩
    obtain ⟨as, has, hfs⟩ := id hl
    have las : as.length = rs.length := Paired.len hfs
    refine ⟨Nat.zero_le _, fun p0 hp0 => ?_⟩
    have s1 : Same H (upd H p0 (.lst [])) := L2.Same.new hp0
    refine ⟨_, rfl, l, rfl, ⟨_, .inl (.inl (s1 _ _ has))⟩, for_it (walk_list (xs := as.map V.ref)) (fun i σ H2 => ∃ v2 : Option V, σ = [some (.ref l), some (.ref p0), v2, none, none, none, none] ∧ Same H H2 ∧ FL H2 p0 (firstsM (rs.take i)))
      ⟨none, rfl, s1, [], upd_same, .nil⟩ (fun i σ H2 _ ⟨_, _, s2, _⟩ => .inl (.inl (s2 _ _ has))) ?_ ?_⟩
    · rintro i x σ H2 H3 hi ⟨v2, rfl, s2, hF⟩ ⟨rfl, hx⟩
      obtain ⟨c, hc, rfl⟩ := map_at hx
      obtain ⟨r, hr1, hcr⟩ := Paired.get hfs hc
      have hc3 := s2.ft hcr
      refine ⟨_, rfl, _, rfl, _, _, (FT.tr hc3).dp, hF.dp, tD_shaped _, tDs_shaped _, _, rfl, ?_⟩
      rw [any_tD, firsts_more hr1]
      have hfl := firsts_len (rs.take i)
      rw [List.length_take] at hfl
      obtain ⟨bs, hbs, hpb⟩ := id hF
      by_cases hm : r ∈ firstsM (rs.take i)
      · rw [decide_eq_true hm]
        refine iteF ⟨_, rfl, s2, ?_⟩
        unfold addL
        rw [if_pos hm]; exact hF
      · rw [decide_eq_false hm]
        refine iteT ?_
        have hbl : bs.length ≤ 1000 := by rw [Paired.len hpb]; omega
        refine ⟨_, rfl, .inl ⟨rfl, _, .inl (.inl hbs)⟩, _, rfl, p0, _, .ref c, rfl, rfl, hbs, small (by rw [List.length_map]; omega), _, rfl, Same.put s2 hp0, ?_⟩
        unfold addL
        rw [if_neg hm]
        exact fl_push hbs hpb hc3
    · rintro σ H2 ⟨v2, rfl, s2, hF⟩
      rw [List.length_map, las, List.take_length] at hF
      have hfm := firsts_mem rs
      generalize hfs' : firstsM rs = fs at *
      obtain ⟨bs, hbs, hpb⟩ := id hF
      have lbs : bs.length = fs.length := Paired.len hpb
      refine ⟨_, rfl, p0, rfl, ⟨_, .inl (.inl hbs)⟩, for_it (walk_list (xs := bs.map V.ref)) (fun i σ H4 => ∃ v3 v4 v5 v6 : Option V, σ = [some (.ref l), some (.ref p0), v2, v3, v4, v5, v6] ∧ Same H2 H4 ∧ (fs.take i).findSome? (fun f => openS fs f fs) = none)
        ⟨none, none, none, none, rfl, Same.refl _, rfl⟩ (fun i σ H4 _ ⟨_, _, _, _, _, s4, _⟩ => .inl (.inl (s4 _ _ hbs))) ?_ ?_⟩
      · rintro i x σ H4 H5 hi ⟨v3, v4, v5, v6, rfl, s4, hno⟩ ⟨rfl, hx⟩
        obtain ⟨a1, ha1, rfl⟩ := map_at hx
        obtain ⟨f1, hm1, hf1⟩ := Paired.get hpb ha1
        have hl1 := hrs f1 (hfm _ (List.mem_of_getElem? hm1))
        refine ⟨_, rfl, p0, rfl, ⟨_, .inl (.inl (s4 _ _ hbs))⟩, for_it (walk_list (xs := bs.map V.ref)) (fun j σ H6 => ∃ v4 v5 v6 : Option V, σ = [some (.ref l), some (.ref p0), v2, some (.ref a1), v4, v5, v6] ∧ Same H2 H6 ∧ (fs.take j).findSome? (fun s => openB fs f1 s f1) = none)
          ⟨v4, v5, v6, rfl, s4, rfl⟩ (fun j σ H6 _ ⟨_, _, _, _, s6, _⟩ => .inl (.inl (s6 _ _ hbs))) ?_ ?_⟩
        · rintro j x σ H6 H7 hj ⟨w4, w5, w6, rfl, s6, hno2⟩ ⟨rfl, hx⟩
          obtain ⟨a2, ha2, rfl⟩ := map_at hx
          obtain ⟨f2, hm2, hf2⟩ := Paired.get hpb ha2
          have hl2 := hrs f2 (hfm _ (List.mem_of_getElem? hm2))
          refine ⟨_, rfl, a1, rfl, ⟨_, FTv.sq (s6.ft hf1)⟩, for_it (walk_tup (xs := f1.map V.int)) (fun k σ H8 => ∃ v5 v6 : Option V, σ = [some (.ref l), some (.ref p0), v2, some (.ref a1), some (.ref a2), v5, v6] ∧ Same H2 H8 ∧ (f1.take k).findSome? (fun x => if breachB fs f1 f2 x = true then some (f1, f2, x) else none) = none)
            ⟨w5, w6, rfl, s6, rfl⟩ (fun k σ H8 _ ⟨_, _, _, s8, _⟩ => FTv.sq (s8.ft hf1)) ?_ ?_⟩
          · rintro k x σ H8 H9 hk ⟨u5, u6, rfl, s8, hno3⟩ ⟨rfl, hx⟩
            obtain ⟨z, hz, rfl⟩ := map_at hx
            have g1 := s8.ft hf1
            have g2 := s8.ft hf2
            refine ⟨_, rfl, _, rfl, a2, f2.map V.int, rfl, .inr (FTv.sq g2), rfl, flat_ints _, _, rfl, ?_⟩
            have e1 : (if false = true then !inV (.int z) (f2.map V.int) else inV (.int z) (f2.map V.int)) = decide (z ∈ f2) := by rw [if_neg Bool.false_ne_true, inV_ints]
            rw [e1]
            by_cases hz2 : z ∈ f2
            · rw [decide_eq_true hz2]
              refine iteT ?_
              have hz1 := List.mem_of_getElem? hz
              have i1 : f1.idxOf z ≤ f1.length := Nat.le_of_lt (List.idxOf_lt_length_iff.mpr hz1)
              have i2 : f2.idxOf z ≤ f2.length := Nat.le_of_lt (List.idxOf_lt_length_iff.mpr hz2)
              refine ⟨_, rfl, _, rfl, ⟨a1, _, rfl, g1⟩, _, rfl, a1, f1, z, rfl, rfl, FTv.sq g1, hz1, _, rfl, slA_tu (FT.tr g1) fun H10 p1 s10 t1 => ?_⟩
              refine ⟨_, rfl, _, rfl, ⟨a2, _, rfl, s10.ft g2⟩, _, rfl, a2, f2, z, rfl, rfl, FTv.sq (s10.ft g2), hz2, _, rfl, ?_⟩
              dsimp only [tNoPart]
              refine slA_tu (FT.tr (s10.ft g2)) fun H11 p2 s11 t2 => ?_
              rw [cutI_to _ _ i1] at t1
              rw [cutI_from _ _ i2] at t2
              refine catA_tu (t1.same s11) t2 (by rw [List.length_take, List.length_drop]; omega) fun H12 p3 s12 t3 => ?_
              have s812 := (s8.trans s10).trans (s11.trans s12)
              refine ⟨_, rfl, _, rfl, _, _, TR.dp (xs := crossM f1 f2 z) t3, (hF.same s812).dp, tD_shaped _, tDs_shaped _, _, rfl, ?_⟩
              rw [any_tD]
              have eb : breachB fs f1 f2 z = !decide (crossM f1 f2 z ∈ fs) := by unfold breachB; rw [decide_eq_true hz2, Bool.true_and]
              cases hb : (!decide (crossM f1 f2 z ∈ fs)) with
              | true =>
                refine iteT ?_
                rw [hb] at eb
                refine ⟨_, rfl, _, rfl, _, rfl, by show 4 ≤ sizeLine; decide, fun pt hpt => ?_⟩
                have ho : openF fs fs = some (f1, f2, z) := findSome_all hm1 hno (findSome_all hm2 hno2 (findSome_all hz hno3 (by rw [if_pos eb])))
                have s13 := L2.Same.new (o := .tup [.str "open", .ref a1, .ref a2, .int z]) hpt
                exact q1 _ _ _ ho _ pt ((s2.trans s812).trans s13) ⟨a1, a2, upd_same, (s812.trans s13).ft hf1, (s812.trans s13).ft hf2⟩
              | false =>
                refine iteF ?_
                rw [hb] at eb
                refine ⟨_, _, rfl, s812, ?_⟩
                rw [findSome_more hz hno3, if_neg (by rw [eb]; exact Bool.false_ne_true)]
            · rw [decide_eq_false hz2]
              refine iteF ?_
              refine ⟨_, _, rfl, s8, ?_⟩
              rw [findSome_more hz hno3, if_neg (by unfold breachB; rw [decide_eq_false hz2, Bool.false_and]; exact Bool.false_ne_true)]
          · rintro σ H8 ⟨u5, u6, rfl, s8, hno3⟩
            rw [List.length_map, List.take_length] at hno3
            refine ⟨_, _, _, rfl, s8, ?_⟩
            rw [findSome_more hm2 hno2]
            exact hno3
        · rintro σ H6 ⟨w4, w5, w6, rfl, s6, hno2⟩
          rw [List.length_map, lbs, List.take_length] at hno2
          refine ⟨_, _, _, _, rfl, s6, ?_⟩
          rw [findSome_more hm1 hno]
          exact hno2
      · rintro σ H4 ⟨v3, v4, v5, v6, rfl, s4, hno⟩
        rw [List.length_map, lbs, List.take_length] at hno
        exact q2 hno H4 (s2.trans s4)
end
end Yf
set_option Elab.async false
set_option linter.all false
set_option maxRecDepth 100000
set_option maxHeartbeats 1000000
/-! G20: part. -/
namespace Yf
open PySem PySem.Spec PyProof.Rows L2

theorem op_neDK {X : Cx} (K : PySem.W.Frag) (h : X.K = K) (hu : X.A.units + 64 < cLine) : OpR X (compareOp .NotEq) (rNeD K) := h ▸ op_neD hu
def spLPart : Sp := fun vs H Q _ => ∃ f a l js rs, vs = [.ref f, .ref a, .ref l] ∧ Ft H f ∧ JL H a js ∧ js.length ≤ 1000 ∧ FL H l rs ∧ Shortly rs ∧ ∀ (H' : Hp) (p : Addr) (ks : List Jp), Mv f H H' → JL H' p ks → ks.length ≤ 1000 → Q (.ref p) H'
section
variable {P : Program} {w : World} {K : PySem.W.Frag} {mg : Str → Option Value} {base : Heap}
theorem scLPart : FnScope ["_law_feed_here", "_law_rows_here", "_law_runs", "_law_case", "_law_found", "_law_turn", "_law_bar", "_law_jump"] ["_law_feed_here", "_law_rows_here", "_law_runs"] (defScope sLPart) := ⟨rfl, rfl, rfl, by decide +kernel, rfl, by decide +kernel, by decide +kernel⟩
theorem ok_lpart {f fT fP fS : Addr} {fd fdT fdP fdS : FuncData} (D : Dn K mg "_law_part" sLPart ["_law_feed_here", "_law_rows_here", "_law_runs"] f fd) (GT : FnOk P w K mg base CX0 1 fT fdT ["_law_feed_here", "_law_many"] spTake) (DT : Dn K mg "_law_take" sTake ["_law_feed_here", "_law_many"] fT fdT)
    (GP : FnOk P w K mg base CX0 2 fP fdP ["_law_feed_here", "_law_some"] spPick) (DP : Dn K mg "_law_pick" sPick ["_law_feed_here", "_law_some"] fP fdP) (GS : FnOk P w K mg base CX0 1 fS fdS ["_law_run_here"] spSteps) (DS : Dn K mg "_law_steps" sSteps ["_law_run_here"] fS fdS) (B : Bi mg) :
    FnOk P w K mg base CX0 3 f fd ["_law_feed_here", "_law_rows_here", "_law_runs"] spLPart := by
  refine D.F.ok scLPart (fun vs H Q E h => ?_) (fun cdv A outer s H vs Q E hr h => ?_)
  · obtain ⟨f, a, l, js, rs, rfl, _⟩ := h
    rfl
  · obtain ⟨g, a, l, js, rs, rfl, hf, ha, hjl, hl, ⟨hrl, hrs⟩, q⟩ := h
    have hu := hu_of hr
    have hu65 : (A.deeper (envOfC "_law_part" (defScope sLPart) s.heap.objs.size f cdv)).units + 65 < cLine := by
      have := hr.un; omega
    have hr1 := hr.mono (show 1 ≤ 2 by decide)
    refine ⟨_, pss_cons (ps_asg (pe_tup (pa_cons (pe_call GT hr1 (by rfl) DT.g DT.F.kp DT.b .nil pass0 (pa_cons (pv 0) (pa_cons pe_int pa_nil))) (pa_cons (pe_lst pa_nil) pa_nil))) (pg_tup rfl (pgs_cons (pg_name (i := 3) scLPart.nd rfl (.inl rfl)) (pgs_cons (pg_name (i := 4) scLPart.nd rfl (.inr rfl)) pgs_nil))))
      (pss_cons (ps_if (pt_cmpR op_eq (pv 3) pe_int (nomark _))
        (pss_one (ps_ret (pe_call GP hr (by rfl) DP.g DP.F.kp DP.b .nil pass0 (pa_cons (pv 0) (pa_cons (pe_lst (pa_cons (pe_lst pa_nil) (pa_cons (pe_callTy call_list_of (by rfl) B.list (by decide +kernel) (pa_cons (pv 1) pa_nil)) pa_nil))) pa_nil))))) pss_nil)
      (pss_mid (ps_if (PW.pt (pw_and (pt_cmpR op_lt (pv 3) pe_int (nomark _)) (pw_and1 (pt_cmpR (op_neDK K rfl hr.units) (pv 2) (pe_lst pa_nil) (nomark _)))))
        (pss_cons (ps_for PassesOwn.never rfl (pi_range1 (by rfl) B.range (pa_cons (pe_op op_add pe_int (pe_call GT hr1 (by rfl) DT.g DT.F.kp DT.b .nil pass0 (pa_cons (pv 0) (pa_cons pe_int pa_nil)))) pa_nil)) (pg_name (i := 5) scLPart.nd rfl (.inl rfl))
          (pss_one (ps_set (i := 4) scLPart.nd rfl (.inr rfl) (pe_op op_cat (pv 4) (pe_call GS hr1 (by rfl) DS.g DS.F.kp DS.b .nil pass0 (pa_cons (pe_call GP hr (by rfl) DP.g DP.F.kp DP.b .nil pass0 (pa_cons (pv 0) (pa_cons (pv 2) pa_nil))) pa_nil))))))
        (pss_one (ps_ret (pe_lc (own := [("_law_jump", 7)]) (g := gName 7) rfl scLPart.nd (pi_list (pv 1)) (blkOk_by (N := ["_law_feed_here", "_law_rows_here", "_law_runs", "_law_case", "_law_found", "_law_turn", "_law_bar", "_law_jump"]) (sc := defScope sLPart) (by decide +kernel))
          (fun _ _ _ _ _ => pg_name (i := 7) scLPart.nd rfl (Or.inl rfl)) (fun _ _ _ _ _ => pts_one (by exact (pt_cmpR (op_inDK K rfl hu65) (pv 7) (pv 4) (by with_unfolding_all rfl)))) (fun _ _ _ _ _ => pv 7))))) pss_nil)
      (pss_cons (ps_set (i := 6) scLPart.nd rfl (.inr rfl) (pe_op op_add pe_int (pe_call GT hr1 (by rfl) DT.g DT.F.kp DT.b .nil pass0 (pa_cons (pv 0) (pa_cons pe_int pa_nil)))))
      (pss_one (ps_ret (pe_lc (own := [("_law_jump", 7)]) (g := gName 7) rfl scLPart.nd (pi_list (pv 1)) (blkOk_by (N := ["_law_feed_here", "_law_rows_here", "_law_runs", "_law_case", "_law_found", "_law_turn", "_law_bar", "_law_jump"]) (sc := defScope sLPart) (by decide +kernel))
          (fun _ _ _ _ _ => pg_name (i := 7) scLPart.nd rfl (Or.inl rfl)) (fun _ _ _ _ _ => pts_one (by exact (pt_cmpR op_ge (pe_call GT hr1 (by rfl) DT.g DT.F.kp DT.b .nil pass0 (pa_cons (pv 0) (pa_cons pe_int pa_nil))) (pv 6) (nomark _)))) (fun _ _ _ _ _ => pv 7))))))), ?_⟩
    refine ⟨_, rfl, g, 6, rfl, hf, by decide, by decide, fun H1 c m1 c0 c6 => ⟨Nat.zero_le _, fun p0 hp0 => ⟨by show 2 ≤ sizeLine; decide, fun t ht => ?_⟩⟩⟩
    have s2 : Same H1 (upd H1 p0 (.lst [])) := L2.Same.new hp0
    have hp2 : (upd H1 p0 (.lst [])) p0 = some (.lst []) := upd_same
    generalize upd H1 p0 (.lst []) = H2 at *
    have s3 : Same H2 (upd H2 t (.tup [.int c, .ref p0])) := L2.Same.new ht
    refine ⟨t, _, rfl, .inl (.inl upd_same), rfl, _, _, rfl, _, _, rfl, rfl, ?_⟩
    have hp3 := s3 _ _ hp2
    have m3 : Mv g H (upd H2 t (.tup [.int c, .ref p0])) := (m1.then s2).then s3
    have hpH : H p0 = none := m1.free hp0
    generalize upd H2 t (.tup [.int c, .ref p0]) = H3 at *
    obtain ⟨as, has, hps⟩ := id ha
    have las : as.length = js.length := by rw [Paired.len hps, List.length_map]
    have has3 := m3.at has (refs_ne as)
    have hps3 := hps.mono m3.ts
    refine ⟨_, rfl, rfl, _, rfl, ?_⟩
    have ed : decide (V.int c = V.int 0) = decide (c = 0) := decide_eq_decide.mpr ⟨fun z => by injection z, fun z => by rw [z]⟩
    rw [ed]
    by_cases hc0 : c = 0
    · rw [decide_eq_true hc0]
      refine iteT ?_
      refine ⟨_, rfl, Nat.zero_le _, fun p1 hp1 => ⟨_, rfl, a, _, rfl, .inl (.inl (.inl ((L2.Same.new hp1) _ _ has3))), fun p2 hp2' => ⟨by show 2 ≤ sizeLine; decide, fun p4 hp4 => ?_⟩⟩⟩
      have s4 : Same H3 (upd H3 p1 (.lst [])) := L2.Same.new hp1
      have e4 : (upd H3 p1 (.lst [])) p1 = some (.lst []) := upd_same
      generalize upd H3 p1 (.lst []) = H4 at *
      have s5 : Same H4 (upd H4 p2 (.lst (as.map V.ref))) := L2.Same.new hp2'
      have e5 : (upd H4 p2 (.lst (as.map V.ref))) p2 = some (.lst (as.map V.ref)) := upd_same
      generalize upd H4 p2 (.lst (as.map V.ref)) = H5 at *
      have s6 : Same H5 (upd H5 p4 (.lst [.ref p1, .ref p2])) := L2.Same.new hp4
      have e6 : (upd H5 p4 (.lst [.ref p1, .ref p2])) p4 = some (.lst [.ref p1, .ref p2]) := upd_same
      generalize upd H5 p4 (.lst [.ref p1, .ref p2]) = H6 at *
      have m6 : Mv g H H6 := ((m3.then s4).then s5).then s6
      refine ⟨g, p4, _, rfl, m6.b, e6, (fun d s z => by cases z), by simp, (by show 2 < 1000000; decide), fun H7 x m7 hx => ?_⟩
      have ts : TS H3 H7 := (((s4.trans s5).trans s6).ts).trans m7.ts
      rcases List.mem_cons.mp hx with rfl | hx
      · exact q H7 p1 [] (m6.trans m7) ⟨[], m7.at ((s5.trans s6) _ _ e4) (fun d s z => by cases z), .nil⟩ (Nat.zero_le _)
      · rw [List.mem_singleton.mp hx]
        exact q H7 p2 js (m6.trans m7) ⟨as, m7.at (s6 _ _ e5) (refs_ne as), hps3.mono ts⟩ hjl
    · rw [decide_eq_false hc0]
      refine iteF ?_
      refine ⟨fun σ H' => σ = [some (.ref g), some (.ref a), some (.ref l), some (.int c), some (.ref p0), none, none, none] ∧ Mv g H H', ?_, ?_⟩
      · refine ⟨_, rfl, _, _, rfl, rfl, _, rfl, ?_⟩
        by_cases hc3 : c < 3
        · rw [decide_eq_true hc3]
          refine iteT ?_
          refine ⟨_, rfl, Nat.zero_le _, fun e he => ?_⟩
          have s4 : Same H3 (upd H3 e (.lst [])) := L2.Same.new he
          have e4 : (upd H3 e (.lst [])) e = some (.lst []) := upd_same
          generalize upd H3 e (.lst []) = H4 at *
          have m4 := m3.then s4
          have hF4 := m4.fl hl
          refine ⟨_, .list (([] : List (List Int)).map tD), hF4.dp, .lst (.inl (.inl e4)) .nil, tDs_shaped _, tDs_shaped _, _, rfl, ?_⟩
          rw [eqv_lD]
          by_cases hrn : rs = []
          · rw [decide_eq_true hrn]
            exact iteF ⟨rfl, m4⟩
          · rw [decide_eq_false hrn]
            refine iteT ?_
            refine ⟨_, rfl, g, 3, rfl, m4.b, by decide, by decide, fun H5 n m5 n0 n3 => ⟨1, n, rfl, rfl, 1 + n, rfl, by omega, by omega, ?_⟩⟩
            have m45 := m4.trans m5
            have hp5 : H5 p0 = some (.lst []) := m5.at (s4 _ _ hp3) (fun d s z => by cases z)
            refine for_it (walk_range (lo := 0) (n := (1 + n).toNat)) (fun i σ H6 => ∃ (p : Addr) (v5 : Option V) (zs : List Jp), σ = [some (.ref g), some (.ref a), some (.ref l), some (.int c), some (.ref p), v5, none, none] ∧ Mv g H H6 ∧ JL H6 p zs ∧ zs.length ≤ 100 * i)
              ⟨p0, none, [], rfl, m45, ⟨[], hp5, .nil⟩, Nat.le_refl _⟩ (fun _ _ _ _ _ => trivial) ?_ ?_
            · rintro i x σ H6 H7 hi ⟨p, v5, zs, rfl, m6, hJ, hzl⟩ ⟨rfl, rfl⟩
              obtain ⟨ls, hls, hlf⟩ := m6.fl hl
              refine ⟨_, rfl, _, rfl, _, rfl, g, l, _, rfl, m6.b, hls, refs_ne ls, ?_, ?_, fun H8 y m8 hy => ?_⟩
              · intro z
                have := Paired.len hlf
                have z' := congrArg List.length z
                rw [List.length_map] at z'
                exact hrn (List.length_eq_zero_iff.mp (by rw [← this]; exact z'))
              · rw [List.length_map, Paired.len hlf]; omega
              · obtain ⟨b, hb, rfl⟩ := List.mem_map.mp hy
                obtain ⟨k, hk⟩ := List.mem_iff_getElem?.mp hb
                obtain ⟨r, hr1, hcr⟩ := Paired.get hlf hk
                obtain ⟨rne, rle⟩ := hrs r (List.mem_of_getElem? hr1)
                refine ⟨b, r, rfl, FT.tr (m8.ft hcr), rne, by omega, fun H9 p9 s9 hp9 hJ9 => ?_⟩
                obtain ⟨us, hus, hpu⟩ := (m8.jl hJ).same s9
                obtain ⟨ws, hws, hpw⟩ := id hJ9
                have hsl := stepsM_len r
                have hul : us.length ≤ 100 * i := by rw [Paired.len hpu, List.length_map]; exact hzl
                have hwl : ws.length ≤ 100 := by rw [Paired.len hpw, List.length_map]; omega
                refine ⟨p, p9, _, _, rfl, rfl, hus, hws, small' (by rw [List.length_map, List.length_map]; omega), fun p10 hp10 => ?_⟩
                have s10 : Same H9 (upd H9 p10 (.lst (us.map V.ref ++ ws.map V.ref))) := L2.Same.new hp10
                refine ⟨p10, _, zs ++ stepsM r, rfl, ((m6.trans m8).then s9).then s10, ⟨us ++ ws, by rw [upd_same, List.map_append], ?_⟩, by rw [List.length_append]; omega⟩
                rw [List.map_append]
                exact Paired.app (hpu.mono s10.ts) (hpw.mono s10.ts)
            · rintro σ H6 ⟨p, v5, zs, rfl, m6, hJ, hzl⟩
              have has6 := m6.at has (refs_ne as)
              have hps6 := hps.mono m6.ts
              refine ⟨_, rfl, a, rfl, ⟨_, .inl (.inl has6)⟩, fun L hL => ?_⟩
              refine lc_it (walk_list (xs := as.map V.ref)) (fun k H7 => Same H6 H7 ∧ ∃ ks, JL H7 L ks ∧ ks.length ≤ k) ⟨L2.Same.new hL, [], ⟨[], upd_same, .nil⟩, Nat.le_refl _⟩ (fun k H7 _ hh => .inl (.inl (hh.1 _ _ has6))) ?_ ?_
              · rintro k y H7 H8 hk ⟨s7, ks, ⟨us, hus, hpu⟩, hkl⟩ ⟨rfl, hy⟩
                obtain ⟨c2, hc2, rfl⟩ := map_at hy
                obtain ⟨x2, hx2, hcx⟩ := Paired.get hps6 hc2
                obtain ⟨j2, hj2, rfl⟩ := map_at hx2
                have hc8 : Tu H8 c2 (jl j2) := s7.ts _ _ hcx
                refine ⟨rfl, _, rfl, _, rfl, _, _, hc8.dp, (hJ.same s7).dp, tD_shaped _, tDs_shaped _, _, rfl, ?_⟩
                cases hb : (((zs.map jl).map tD).any fun z => PyData.eqv z (tD (jl j2))) with
                | false => exact iteF ⟨s7, ks, ⟨us, hus, hpu⟩, by omega⟩
                | true =>
                  refine iteT ⟨_, rfl, _, hus, small ?_, Same.put s7 hL, ks ++ [j2], jl_push hus hpu hc8, by rw [List.length_append, List.length_singleton]; omega⟩
                  rw [List.length_map, Paired.len hpu, List.length_map]
                  rw [List.length_map] at hk
                  omega
              · rintro H7 ⟨s7, ks, hJk, hkl⟩
                rw [List.length_map] at hkl
                exact q H7 L ks (m6.then s7) hJk (by omega)
        · rw [decide_eq_false hc3]
          exact iteF (iteF ⟨rfl, m3⟩)
      · rintro σ H4 ⟨rfl, m4⟩
        refine ⟨_, rfl, g, 3, rfl, m4.b, by decide, by decide, fun H5 n m5 n0 n3 => ⟨1, n, rfl, rfl, ?_⟩⟩
        have m45 := m4.trans m5
        have has5 := m45.at has (refs_ne as)
        have hps5 := hps.mono m45.ts
        refine ⟨_, rfl, a, rfl, ⟨_, .inl (.inl has5)⟩, fun L hL => ?_⟩
        have nLg : L ≠ g := fun z => by obtain ⟨d, s, e⟩ := m5.b; rw [← z, hL] at e; cases e
        refine lc_it (walk_list (xs := as.map V.ref)) (fun k H7 => Mv g H5 H7 ∧ ∃ ks, JL H7 L ks ∧ ks.length ≤ k) ⟨m5.b.mv (L2.Same.new hL), [], ⟨[], upd_same, .nil⟩, Nat.le_refl _⟩ (fun k H7 _ hh => .inl (.inl (hh.1.at has5 (refs_ne as)))) ?_ ?_
        · rintro k y H7 H8 hk ⟨m7, ks, hJk, hkl⟩ ⟨rfl, hy⟩
          obtain ⟨c2, hc2, rfl⟩ := map_at hy
          obtain ⟨x2, hx2, hcx⟩ := Paired.get hps5 hc2
          obtain ⟨j2, hj2, rfl⟩ := map_at hx2
          refine ⟨rfl, _, rfl, g, 4, rfl, m7.b, by decide, by decide, fun H9 u m9 u0 u4 => ⟨_, rfl, u, 1 + n, rfl, rfl, _, rfl, ?_⟩⟩
          have m79 := m7.trans m9
          obtain ⟨us, hus, hpu⟩ := m9.jl hJk
          have hc9 : Tu H9 c2 (jl j2) := m79.ts _ _ hcx
          cases hb : decide (1 + n ≤ u) with
          | false => exact iteF ⟨m79, ks, ⟨us, hus, hpu⟩, by omega⟩
          | true =>
            refine iteT ⟨_, rfl, _, hus, small ?_, m79.put hL, ks ++ [j2], jl_push hus hpu hc9, by rw [List.length_append, List.length_singleton]; omega⟩
            rw [List.length_map, Paired.len hpu, List.length_map]
            rw [List.length_map] at hk
            omega
        · rintro H7 ⟨m7, ks, hJk, hkl⟩
          rw [List.length_map] at hkl
          exact q H7 L ks (m45.trans m7) hJk (by omega)
end
end Yf
set_option Elab.async false
set_option linter.all false
set_option maxRecDepth 100000
set_option maxHeartbeats 1000000
/-! G21: list. -/
namespace Yf
open PySem PySem.Spec PyProof.Rows L2

/-- a list of at most n of these runs -/
def FM (H : Hp) (l : Addr) (rs : List (List Int)) (n : Nat) : Prop := ∃ as : List Addr, H l = some (.lst (as.map V.ref)) ∧ as.length ≤ n ∧ ∀ a ∈ as, ∃ r ∈ rs, FT H a r
theorem Paired.pick {H : Hp} {rs : List (List Int)} : ∀ {as : List Addr}, (∀ a ∈ as, ∃ r ∈ rs, FT H a r) → ∃ ks, FLs H as ks ∧ ∀ r ∈ ks, r ∈ rs
  | [], _ => ⟨[], .nil, fun r h => by cases h⟩
  | a :: as, h => by
    obtain ⟨r, hr, f⟩ := h a List.mem_cons_self
    obtain ⟨ks, hk, hm⟩ := Paired.pick (as := as) fun b hb => h b (List.mem_cons_of_mem _ hb)
    refine ⟨r :: ks, .cons f hk, fun r' h' => ?_⟩
    rcases List.mem_cons.mp h' with rfl | h'
    · exact hr
    · exact hm r' h'
theorem FM.fl {H : Hp} {l : Addr} {rs : List (List Int)} {n : Nat} (h : FM H l rs n) : ∃ ks, FL H l ks ∧ (∀ r ∈ ks, r ∈ rs) ∧ ks.length ≤ n := by
  obtain ⟨as, ha, hn, hm⟩ := h
  obtain ⟨ks, hk, hr⟩ := Paired.pick hm
  exact ⟨ks, ⟨as, ha, hk⟩, hr, by rw [← Paired.len hk]; exact hn⟩
theorem fls_mem {H : Hp} {as : List Addr} {ks : List (List Int)} (h : FLs H as ks) : ∀ a ∈ as, ∃ r ∈ ks, FT H a r := fun a ha => by
  obtain ⟨i, hi⟩ := List.mem_iff_getElem?.mp ha
  obtain ⟨r, hr, f⟩ := Paired.get h hi
  exact ⟨r, List.mem_of_getElem? hr, f⟩
theorem FM.mv {f l : Addr} {H H' : Hp} {rs : List (List Int)} {n : Nat} (m : Mv f H H') (h : FM H l rs n) : FM H' l rs n := let ⟨as, ha, hn, hm⟩ := h; ⟨as, m.at ha (refs_ne as), hn, fun a ha => let ⟨r, hr, t⟩ := hm a ha; ⟨r, hr, m.ft t⟩⟩
theorem FM.same {l : Addr} {H H' : Hp} {rs : List (List Int)} {n : Nat} (h : FM H l rs n) (s : Same H H') : FM H' l rs n := let ⟨as, ha, hn, hm⟩ := h; ⟨as, s _ _ ha, hn, fun a ha => let ⟨r, hr, t⟩ := hm a ha; ⟨r, hr, s.ft t⟩⟩
/-- the list is written anew -/
theorem FM.put {l : Addr} {H : Hp} {o : HO} {rs : List (List Int)} {bs : List Addr} (n : Nat) (hl : H l = some o) (no : ∀ u v, o ≠ .frz u (.tup v)) (hn : bs.length ≤ n) (hm : ∀ a ∈ bs, ∃ r ∈ rs, FT H a r) : FM (upd H l (.lst (bs.map V.ref))) l rs n :=
  ⟨bs, upd_same, hn, fun a ha => let ⟨r, hr, t⟩ := hm a ha; ⟨r, hr, FT.upd t hl no⟩⟩
theorem seqIx {i : Int} {n : Nat} (h0 : 0 ≤ i) (h1 : i < (n : Int)) : seqIndex? i n = some i.toNat := by
  simp [seqIndex?, show ¬ i < 0 by omega, h0, h1]
theorem erase_map {α β : Type} (f : α → β) : ∀ (l : List α) (k : Nat), (l.map f).eraseIdx k = (l.eraseIdx k).map f
  | [], _ => rfl
  | _ :: _, 0 => rfl
  | x :: l, k + 1 => by simp [List.eraseIdx_cons_succ, erase_map f l k]
def spList : Sp := fun vs H Q _ => ∃ f a l js rs, vs = [.ref f, .ref a, .ref l] ∧ Ft H f ∧ JL H a js ∧ js.length ≤ 1000 ∧ FL H l rs ∧ Shortly rs ∧ ∀ (H' : Hp) (p : Addr) (ks : List (List Int)), Mv f H H' → H p = none → FL H' p ks → (∀ r ∈ ks, r ∈ rs) → ks.length ≤ 11 → Q (.ref p) H'
section
variable {P : Program} {w : World} {K : PySem.W.Frag} {mg : Str → Option Value} {base : Heap}
theorem scList : FnScope ["_law_feed_here", "_law_rows_here", "_law_runs", "_law_case", "_law_found", "_law_some", "_law_run_here", "_law_turn"] ["_law_feed_here", "_law_rows_here", "_law_runs"] (defScope sList) := ⟨rfl, rfl, rfl, by decide +kernel, rfl, by decide +kernel, by decide +kernel⟩
theorem ok_list {f fT fP fK fA : Addr} {fd fdT fdP fdK fdA : FuncData} (D : Dn K mg "_law_list" sList ["_law_feed_here", "_law_rows_here", "_law_runs"] f fd) (GT : FnOk P w K mg base CX0 1 fT fdT ["_law_feed_here", "_law_many"] spTake) (DT : Dn K mg "_law_take" sTake ["_law_feed_here", "_law_many"] fT fdT)
    (GP : FnOk P w K mg base CX0 2 fP fdP ["_law_feed_here", "_law_some"] spPick) (DP : Dn K mg "_law_pick" sPick ["_law_feed_here", "_law_some"] fP fdP) (GK : FnOk P w K mg base CX0 2 fK fdK ["_law_runs", "_law_jumps"] spKeeping) (DK : Dn K mg "_law_keeping" sKeeping ["_law_runs", "_law_jumps"] fK fdK)
    (GA : FnOk P w K mg base CX0 3 fA fdA ["_law_feed_here", "_law_rows_here", "_law_runs"] spLPart) (DA : Dn K mg "_law_part" sLPart ["_law_feed_here", "_law_rows_here", "_law_runs"] fA fdA) (B : Bi mg) :
    FnOk P w K mg base CX0 4 f fd ["_law_feed_here", "_law_rows_here", "_law_runs"] spList := by
  refine D.F.ok scList (fun vs H Q E h => ?_) (fun cdv A outer s H vs Q E hr h => ?_)
  · obtain ⟨f, a, l, js, rs, rfl, _⟩ := h
    rfl
  · obtain ⟨g, a, l, js, rs, rfl, hf, ha, hjl, hl, ⟨hrl, hrs⟩, q⟩ := h
    have hu := hu_of hr
    have hr1 := hr.mono (show 1 ≤ 3 by decide)
    have hr2 := hr.mono (show 2 ≤ 3 by decide)
    refine ⟨_, pss_cons (by exact ps_par (i := 3) (j := 4) rfl scList.nd rfl rfl (by decide) rfl rfl (by exact pa_cons (pe_call GT hr1 (by rfl) DT.g DT.F.kp DT.b .nil pass0 (pa_cons (pv 0) (pa_cons pe_int pa_nil))) (pa_cons (pe_lst pa_nil) pa_nil)) (by rfl))
      (pss_mid (ps_if (pt_cmpR op_lt (pv 3) pe_int (nomark _))
        (pss_cons (ps_set (i := 5) scList.nd rfl (.inl rfl) (pe_slice sl_list (pe_call GK hr2 (by rfl) DK.g DK.F.kp DK.b .nil pass0 (pa_cons (pv 2) (pa_cons (pe_call GA hr (by rfl) DA.g DA.F.kp DA.b .nil pass0 (pa_cons (pv 0) (pa_cons (pv 1) (pa_cons (pv 2) pa_nil)))) pa_nil))) po_none (po_some pe_int)))
        (pss_mid (ps_if (PW.pt (pw_and (pt_cmpR op_eq (pv 3) pe_int (nomark _)) (pw_and1 (pt_cmpR (op_neDK K rfl hr.units) (pv 5) (pe_lst pa_nil) (nomark _)))))
          (pss_one (ps_expr (pe_bm PySem.F.plainAttrs_list PySem.F.slot_list_pop PySem.F.type_list_pop (by exact mt_popAt) (pv 5) (pa_cons (pe_call GT hr1 (by rfl) DT.g DT.F.kp DT.b .nil pass0 (pa_cons (pv 0) (pa_cons (pe_callB call_len_seq (by rfl) B.len PySem.boot_len (pa_cons (pv 5) pa_nil)) pa_nil))) pa_nil)))) pss_nil)
        (pss_one (ps_if (PW.pt (pw_and (pt_cmpR op_eq (pv 3) pe_int (nomark _)) (pw_and1 (pt_cmpR (op_neDK K rfl hr.units) (pv 2) (pe_lst pa_nil) (nomark _)))))
          (pss_one (ps_expr (pe_bm PySem.F.plainAttrs_list PySem.F.slot_list_append PySem.F.type_list_append (by exact mt_append) (pv 5) (pa_cons (pe_call GP hr2 (by rfl) DP.g DP.F.kp DP.b .nil pass0 (pa_cons (pv 0) (pa_cons (pv 2) pa_nil))) pa_nil)))) pss_nil))))
        (pss_one (ps_setLc (i := 5) (own := [("_law_turn", 7)]) (g := gName 7) rfl scList.nd rfl rfl rfl (pi_range1 (by rfl) B.range (pa_cons (pe_ifExp (pt_cmpR (op_neDK K rfl hr.units) (pv 2) (pe_lst pa_nil) (nomark _)) (pe_call GT hr1 (by rfl) DT.g DT.F.kp DT.b .nil pass0 (pa_cons (pv 0) (pa_cons pe_int pa_nil))) pe_int) pa_nil))
          (blkOk_by (N := ["_law_feed_here", "_law_rows_here", "_law_runs", "_law_case", "_law_found", "_law_some", "_law_run_here", "_law_turn"]) (sc := defScope sList) (by decide +kernel))
          (fun _ _ _ _ _ => pg_name (i := 7) scList.nd rfl (Or.inl rfl)) (fun _ _ _ _ _ => pts_nil) (fun _ _ _ _ _ => by exact (pe_call GP hr2 (by rfl) DP.g DP.F.kp DP.b .nil pass0 (pa_cons (pv 0) (pa_cons (pv 2) pa_nil)))))))
      (pss_cons (ps_for PassesOwn.never rfl (pi_list (pv 5)) (pg_name (i := 6) scList.nd rfl (.inl rfl))
        (pss_one (ps_expr (pe_bm PySem.F.plainAttrs_list PySem.F.slot_list_insert PySem.F.type_list_insert (by exact mt_insert) (pv 4) (pa_cons (pe_call GT hr1 (by rfl) DT.g DT.F.kp DT.b .nil pass0 (pa_cons (pv 0) (pa_cons (pe_op op_add (pe_callB call_len_seq (by rfl) B.len PySem.boot_len (pa_cons (pv 4) pa_nil)) pe_int) pa_nil))) (pa_cons (pv 6) pa_nil))))))
      (pss_one (ps_ret (pv 4))))), ?_⟩
    refine ⟨_, rfl, g, 5, rfl, hf, by decide, by decide, fun H1 c m1 c0 c5 => ⟨Nat.zero_le _, fun p0 hp0 => ⟨_, _, rfl, ?_⟩⟩⟩
    have s2 : Same H1 (upd H1 p0 (.lst [])) := L2.Same.new hp0
    have hp2 : (upd H1 p0 (.lst [])) p0 = some (.lst []) := upd_same
    have hpH : H p0 = none := m1.free hp0
    have m2 : Mv g H (upd H1 p0 (.lst [])) := m1.then s2
    generalize upd H1 p0 (.lst []) = H2 at *
    have nlp : ∀ {H' : Hp} {p : Addr}, H' p0 = some (.lst []) → H' p = none → p ≠ p0 := fun e n z => by rw [z, e] at n; cases n
    refine ⟨fun σ H' => ∃ p5 : Addr, σ = [some (.ref g), some (.ref a), some (.ref l), some (.int c), some (.ref p0), some (.ref p5), none, none] ∧ Mv g H H' ∧ H' p0 = some (.lst []) ∧ p5 ≠ p0 ∧ FM H' p5 rs 11, ?_, ?_⟩
    · refine ⟨_, rfl, _, _, rfl, rfl, _, rfl, ?_⟩
      by_cases hc3 : c < 3
      · rw [decide_eq_true hc3]
        refine iteT ?_
        refine ⟨_, rfl, _, rfl, _, rfl, _, rfl, g, a, l, js, rs, rfl, m2.b, m2.jl ha, hjl, m2.fl hl, ⟨hrl, hrs⟩, fun H3 pj ks m3 hJ hkl => ⟨l, pj, rs, ks, rfl, (m2.trans m3).fl hl, hJ, by omega, ⟨hrl, hrs⟩, fun H4 p4 ks2 s4 hp4 hF4 hks hkl2 => ?_⟩⟩
        have m4 := (m2.trans m3).then s4
        have e4 : H4 p0 = some (.lst []) := s4 _ _ (m3.at hp2 (fun d s z => by cases z))
        obtain ⟨bs, hbs, hpb⟩ := id hF4
        refine ⟨_, rfl, p4, _, rfl, .inl (.inl hbs), fun p6 hp6 => ?_⟩
        have s5 := L2.Same.new (o := .lst (cutV (bs.map V.ref) none (some 10))) hp6
        have hcut : cutV (bs.map V.ref) none (some 10) = (bs.take 10).map V.ref := by
          unfold cutV
          rw [show (some (10 : Int)) = some ((10 : Nat) : Int) from rfl, HT.sIx_nat, HT.sIx_none, List.drop_zero, List.map_take, Nat.sub_zero, List.length_map]
          by_cases hle : 10 ≤ bs.length
          · rw [Nat.min_eq_left hle]
          · rw [Nat.min_eq_right (by omega), List.take_of_length_le (by rw [List.length_map]; exact Nat.le_refl _), List.take_of_length_le (by rw [List.length_map]; omega)]
        have hF6 : FM (upd H4 p6 (.lst (cutV (bs.map V.ref) none (some 10)))) p6 rs 10 := by
          rw [hcut]
          refine ⟨bs.take 10, upd_same, by rw [List.length_take]; omega, fun b hb => ?_⟩
          obtain ⟨r, hr, f⟩ := fls_mem hpb b (List.mem_of_mem_take hb)
          refine ⟨r, hks r hr, ?_⟩
          have := s5.ft f
          rw [hcut] at this
          exact this
        have m6 := m4.then s5
        have n6 := nlp e4 hp6
        have e6 := s5 _ _ e4
        generalize upd H4 p6 (.lst (cutV (bs.map V.ref) none (some 10))) = H6 at *
        refine ⟨fun σ H' => σ = [some (.ref g), some (.ref a), some (.ref l), some (.int c), some (.ref p0), some (.ref p6), none, none] ∧ Mv g H H' ∧ H' p0 = some (.lst []) ∧ FM H' p6 rs 10, ?_, ?_⟩
        · refine ⟨_, rfl, rfl, _, rfl, ?_⟩
          cases hc1 : decide (V.int c = V.int 1) with
          | false => exact iteF (iteF ⟨rfl, m6, e6, hF6⟩)
          | true =>
            refine iteT ⟨_, rfl, Nat.zero_le _, fun e he => ?_⟩
            have s7 := L2.Same.new (o := .lst []) he
            have e7 : (upd H6 e (.lst [])) e = some (.lst []) := upd_same
            generalize upd H6 e (.lst []) = H7 at *
            have m7 := m6.then s7
            have hF7 := hF6.same s7
            obtain ⟨as, has, hal, ham⟩ := id hF7
            obtain ⟨k7, hk7, _, _⟩ := hF7.fl
            refine ⟨_, .list (([] : List (List Int)).map tD), hk7.dp, .lst (.inl (.inl e7)) .nil, tDs_shaped _, tDs_shaped _, _, rfl, ?_⟩
            rw [eqv_lD]
            by_cases hkn : k7 = []
            · rw [decide_eq_true hkn]
              exact iteF ⟨rfl, m7, s7 _ _ e6, hF7⟩
            · rw [decide_eq_false hkn]
              have hne : as ≠ [] := fun z => hkn (by
                obtain ⟨as', ha', hp'⟩ := hk7
                rw [has, z] at ha'
                cases as' with
                | nil => cases hp'; rfl
                | cons x y => cases ha')
              have hpos : 0 < as.length := List.length_pos_iff.mpr hne
              refine iteT ⟨_, rfl, .inl ⟨rfl, _, .inl (.inl has)⟩, _, rfl, _, rfl, p6, _, rfl, .inl (.inl (.inl has)), g, _, rfl, m7.b, by rw [List.length_map]; omega, by rw [List.length_map]; omega, fun H8 i m8 i0 i1 => ?_⟩
              rw [List.length_map] at i1
              have has8 := m8.at has (refs_ne as)
              have hiN : i.toNat < as.length := by omega
              refine ⟨p6, _, i, i.toNat, .ref as[i.toNat], rfl, rfl, has8, by omega, by omega, ?_, by rw [List.getElem?_map, List.getElem?_eq_getElem hiN]; rfl, ?_⟩
              · rw [List.length_map]
                exact seqIx i0 i1
              · have e8 := m8.at (s7 _ _ e6) (fun d s z => by cases z)
                refine ⟨rfl, ?_, by rw [upd_ne n6.symm]; exact e8, ?_⟩
                · exact (m7.trans m8).put (m4.free hp6)
                · rw [erase_map]
                  exact FM.put 10 has8 (fun _ _ z => by cases z) (Nat.le_trans (len_erase _ _) hal) fun b hb => let ⟨r, hr, f⟩ := ham b (List.mem_of_mem_eraseIdx hb); ⟨r, hr, m8.ft f⟩
        · rintro σ H7 ⟨rfl, m7, e7, hF7⟩
          have up : FM H7 p6 rs 11 := let ⟨as, h1, h2, h3⟩ := hF7; ⟨as, h1, by omega, h3⟩
          refine ⟨_, rfl, rfl, _, rfl, ?_⟩
          cases hc2 : decide (V.int c = V.int 2) with
          | false => exact iteF (iteF ⟨p6, rfl, m7, e7, n6, up⟩)
          | true =>
            refine iteT ⟨_, rfl, Nat.zero_le _, fun e he => ?_⟩
            have s8 := L2.Same.new (o := .lst []) he
            have e8 : (upd H7 e (.lst [])) e = some (.lst []) := upd_same
            generalize upd H7 e (.lst []) = H8 at *
            have m8 := m7.then s8
            have hl8 := m8.fl hl
            refine ⟨_, .list (([] : List (List Int)).map tD), hl8.dp, .lst (.inl (.inl e8)) .nil, tDs_shaped _, tDs_shaped _, _, rfl, ?_⟩
            rw [eqv_lD]
            by_cases hrn : rs = []
            · rw [decide_eq_true hrn]
              exact iteF ⟨p6, rfl, m8, s8 _ _ e7, n6, up.same s8⟩
            · rw [decide_eq_false hrn]
              obtain ⟨ls, hls, hlf⟩ := id hl8
              obtain ⟨as, has, hal, ham⟩ := hF7.same s8
              refine iteT ⟨_, rfl, .inl ⟨rfl, _, .inl (.inl has)⟩, _, rfl, _, rfl, g, l, _, rfl, m8.b, hls, refs_ne ls, ?_, ?_, fun H9 y m9 hy => ?_⟩
              · intro z
                have := Paired.len hlf
                have z' := congrArg List.length z
                rw [List.length_map] at z'
                exact hrn (List.length_eq_zero_iff.mp (by rw [← this]; exact z'))
              · rw [List.length_map, Paired.len hlf]; omega
              · obtain ⟨b, hb, rfl⟩ := List.mem_map.mp hy
                have has9 := m9.at has (refs_ne as)
                have e9 := m9.at (s8 _ _ e7) (fun d s z => by cases z)
                refine ⟨p6, _, .ref b, rfl, rfl, has9, small (by rw [List.length_map]; omega), p6, rfl, (m8.trans m9).put (m4.free hp6), by rw [upd_ne n6.symm]; exact e9, n6, ?_⟩
                have em : as.map V.ref ++ [V.ref b] = (as ++ [b]).map V.ref := by rw [List.map_append]; rfl
                rw [em]
                refine FM.put 11 has9 (fun _ _ z => by cases z) (by rw [List.length_append, List.length_singleton]; omega) fun x hx => ?_
                rcases List.mem_append.mp hx with hx | hx
                · obtain ⟨r, hr, f⟩ := ham x hx
                  exact ⟨r, hr, m9.ft f⟩
                · rw [List.mem_singleton.mp hx]
                  obtain ⟨r, hr, f⟩ := fls_mem hlf b hb
                  exact ⟨r, hr, m9.ft f⟩
      · rw [decide_eq_false hc3]
        refine iteF ?_
        refine ⟨_, rfl, Nat.zero_le _, fun e he => ?_⟩
        have s3 := L2.Same.new (o := .lst []) he
        have e3 : (upd H2 e (.lst [])) e = some (.lst []) := upd_same
        generalize upd H2 e (.lst []) = H3 at *
        have m3 := m2.then s3
        have hl3 := m3.fl hl
        have hp3 := s3 _ _ hp2
        refine ⟨_, .list (([] : List (List Int)).map tD), hl3.dp, .lst (.inl (.inl e3)) .nil, tDs_shaped _, tDs_shaped _, _, rfl, ?_⟩
        rw [eqv_lD]
        by_cases hrn : rs = []
        · rw [decide_eq_true hrn]
          refine iteF ⟨0, rfl, by decide, by decide, fun L hL => ?_⟩
          have nL := nlp hp3 hL
          have hLH := m3.free hL
          refine lc_it (walk_range (lo := 0) (n := (0 : Int).toNat)) (fun k H4 => Mv g H H4 ∧ H4 p0 = some (.lst []) ∧ FM H4 L rs k) ⟨m3.then (L2.Same.new hL), by rw [upd_ne nL.symm]; exact hp3, [], upd_same, Nat.le_refl _, fun a h => (by cases h)⟩ (fun _ _ _ _ => trivial) ?_ ?_
          · rintro k y H4 H5 hk
            exact absurd hk (Nat.not_lt_zero _)
          · rintro H4 ⟨m4, e4, as, h1, h2, h3⟩
            exact ⟨L, rfl, m4, e4, nL, as, h1, Nat.le_trans h2 (by decide), h3⟩
        · rw [decide_eq_false hrn]
          refine iteT ⟨_, rfl, g, 5, rfl, m3.b, by decide, by decide, fun H4 n m4 n0 n5 => ⟨n, rfl, by omega, by omega, fun L hL => ?_⟩⟩
          have m34 := m3.trans m4
          have hp4 := m4.at hp3 (fun d s z => by cases z)
          have nL := nlp hp4 hL
          have hLH := m34.free hL
          refine lc_it (walk_range (lo := 0) (n := n.toNat)) (fun k H5 => Mv g H H5 ∧ H5 p0 = some (.lst []) ∧ FM H5 L rs k) ⟨m34.then (L2.Same.new hL), by rw [upd_ne nL.symm]; exact hp4, [], upd_same, Nat.le_refl _, fun a h => (by cases h)⟩ (fun _ _ _ _ => trivial) ?_ ?_
          · rintro k y H5 H6 hk ⟨m5, e5, hF5⟩ ⟨rfl, rfl⟩
            obtain ⟨ls, hls, hlf⟩ := m5.fl hl
            refine ⟨rfl, _, rfl, _, rfl, g, l, _, rfl, m5.b, hls, refs_ne ls, ?_, ?_, fun H7 y m7 hy => ?_⟩
            · intro z
              have := Paired.len hlf
              have z' := congrArg List.length z
              rw [List.length_map] at z'
              exact hrn (List.length_eq_zero_iff.mp (by rw [← this]; exact z'))
            · rw [List.length_map, Paired.len hlf]; omega
            · obtain ⟨b, hb, rfl⟩ := List.mem_map.mp hy
              obtain ⟨as, has, hal, ham⟩ := hF5.mv m7
              have e7 := m7.at e5 (fun d s z => by cases z)
              refine ⟨_, has, small (by rw [List.length_map]; omega), (m5.trans m7).put hLH, by rw [upd_ne nL.symm]; exact e7, ?_⟩
              have em : as.map V.ref ++ [V.ref b] = (as ++ [b]).map V.ref := by rw [List.map_append]; rfl
              rw [em]
              refine FM.put (k + 1) has (fun _ _ z => by cases z) (by rw [List.length_append, List.length_singleton]; omega) fun x hx => ?_
              rcases List.mem_append.mp hx with hx | hx
              · exact ham x hx
              · rw [List.mem_singleton.mp hx]
                obtain ⟨r, hr, f⟩ := fls_mem hlf b hb
                exact ⟨r, hr, m7.ft f⟩
          · rintro H5 ⟨m5, e5, as, h1, h2, h3⟩
            exact ⟨L, rfl, m5, e5, nL, as, h1, Nat.le_trans h2 (by omega), h3⟩
    · rintro σ H3 ⟨p5, rfl, m3, e3, n5, hF⟩
      obtain ⟨as, has, hal, ham⟩ := id hF
      refine ⟨_, rfl, p5, rfl, ⟨_, .inl (.inl has)⟩, for_it (walk_list (xs := as.map V.ref)) (fun i σ H4 => ∃ v6 : Option V, σ = [some (.ref g), some (.ref a), some (.ref l), some (.int c), some (.ref p0), some (.ref p5), v6, none] ∧ Mv g H H4 ∧ FM H4 p0 rs i ∧ H4 p5 = some (.lst (as.map V.ref)) ∧ ∀ b ∈ as, ∃ r ∈ rs, FT H4 b r)
        ⟨none, rfl, m3, ⟨[], e3, Nat.le_refl _, fun a h => (by cases h)⟩, has, ham⟩ (fun i σ H4 _ ⟨_, _, _, _, h5, _⟩ => .inl (.inl h5)) ?_ ?_⟩
      · rintro i x σ H4 H5 hi ⟨v6, rfl, m4, hF4, h5, h5m⟩ ⟨rfl, hx⟩
        obtain ⟨b, hb, rfl⟩ := map_at hx
        obtain ⟨cs, hcs, hcl, hcm⟩ := id hF4
        rw [List.length_map] at hi
        refine ⟨_, rfl, .inl ⟨rfl, _, .inl (.inl hcs)⟩, _, rfl, _, rfl, p0, _, rfl, .inl (.inl (.inl hcs)), _, 1, rfl, rfl, g, _, rfl, m4.b, by omega, by rw [List.length_map]; omega, fun H6 k m6 k0 k1 => ⟨_, rfl, ?_⟩⟩
        rw [List.length_map] at k1
        have hc6 := m6.at hcs (refs_ne cs)
        have h56 := m6.at h5 (refs_ne as)
        refine ⟨p0, _, k, .ref b, rfl, rfl, hc6, small (by rw [List.length_map]; omega), k0, by omega, _, rfl, (m4.trans m6).put hpH, ?_, by rw [upd_ne n5]; exact h56, fun y hy => ?_⟩
        · have em : (cs.map V.ref).take k.toNat ++ [V.ref b] ++ (cs.map V.ref).drop k.toNat = (cs.take k.toNat ++ [b] ++ cs.drop k.toNat).map V.ref := by
            rw [List.map_append, List.map_append, List.map_take, List.map_drop]; rfl
          rw [em]
          refine FM.put (i + 1) hc6 (fun _ _ z => by cases z) (by simp only [List.length_append, List.length_take, List.length_drop, List.length_singleton]; omega) fun y hy => ?_
          rcases List.mem_append.mp hy with hy | hy
          · rcases List.mem_append.mp hy with hy | hy
            · obtain ⟨r, hr, f⟩ := hcm y (List.mem_of_mem_take hy)
              exact ⟨r, hr, m6.ft f⟩
            · rw [List.mem_singleton.mp hy]
              obtain ⟨r, hr, f⟩ := h5m b (List.mem_of_getElem? hb)
              exact ⟨r, hr, m6.ft f⟩
          · obtain ⟨r, hr, f⟩ := hcm y (List.mem_of_mem_drop hy)
            exact ⟨r, hr, m6.ft f⟩
        · obtain ⟨r, hr, f⟩ := h5m y hy
          exact ⟨r, hr, FT.upd (m6.ft f) hc6 (fun _ _ z => by cases z)⟩
      · rintro σ H4 ⟨v6, rfl, m4, hF4, _, _⟩
        obtain ⟨ks, hk, hkm, hkl⟩ := hF4.fl
        rw [List.length_map] at hkl
        exact ⟨_, rfl, q H4 p0 ks m4 hpH hk hkm (by omega)⟩
end
end Yf
set_option Elab.async false
set_option linter.all false
set_option maxRecDepth 100000
set_option maxHeartbeats 1000000
/-! G22: routine. -/
namespace Yf
open PySem PySem.Spec PyProof.Rows L2

theorem rise_ok {b : Int} {q : List Int} (h : Rise b q) : Okj b (stepsM q) ∧ (stepsM q).Nodup := by
  obtain ⟨_, hp, hb⟩ := h
  have hl : (stepsM q).length ≤ q.length - 1 := by
    unfold stepsM
    rw [List.length_zip, List.length_tail]; omega
  have at_ : ∀ (i : Nat) (hi : i < (stepsM q).length), ∃ h1 : i + 1 < q.length, (stepsM q)[i] = (q[i]'(by omega), q[i + 1]) := fun i hi => by
    have h1 : i + 1 < q.length := by omega
    have := stepsM_at h1
    rw [List.getElem?_eq_getElem hi] at this
    exact ⟨h1, Option.some.inj this⟩
  have lt_ : ∀ (i j : Nat) (hi : i < q.length) (hj : j < q.length), i < j → q[i] < q[j] := fun i j hi hj hij => List.pairwise_iff_getElem.mp hp i j hi hj hij
  refine ⟨fun p hp' => ?_, ?_⟩
  · obtain ⟨i, hi, e⟩ := List.mem_iff_getElem.mp hp'
    obtain ⟨h1, e2⟩ := at_ i hi
    rw [e2] at e
    subst e
    have a := hb _ (List.getElem_mem (l := q) (n := i) (by omega))
    have c := hb _ (List.getElem_mem (l := q) (n := i + 1) h1)
    have d := lt_ i (i + 1) (by omega) h1 (by omega)
    exact ⟨a.1, d, c.2⟩
  · refine List.pairwise_iff_getElem.mpr fun i j hi hj hij e => ?_
    obtain ⟨h1, e1⟩ := at_ i hi
    obtain ⟨h2, e2⟩ := at_ j hj
    rw [e1, e2] at e
    have := lt_ i j (by omega) (by omega) hij
    have e3 := congrArg Prod.fst e
    simp only at e3
    omega
def spRoutine : Sp := fun vs H Q _ => ∃ f, vs = [.ref f, .int 8] ∧ Ft H f ∧ ∀ (H' : Hp) (p l : Addr) (b : Int) (js : List Jp), Mv f H H' → H' p = some (.lst [.int b, .ref l]) → 2 ≤ b → b ≤ 8 → JL H' l js → js.Nodup → Okj b js → js.length ≤ 120 → Q (.ref p) H'
section
variable {P : Program} {w : World} {K : PySem.W.Frag} {mg : Str → Option Value} {base : Heap}
theorem scRoutine : FnScope ["_law_feed_here", "_law_most", "_law_blocks", "_law_found", "_law_turn", "_law_u", "_law_jump"] ["_law_feed_here", "_law_most"] (defScope sLRoutine) := ⟨rfl, rfl, rfl, by decide +kernel, rfl, by decide +kernel, by decide +kernel⟩
theorem ok_lroutine {f fT fP fR fS : Addr} {fd fdT fdP fdR fdS : FuncData} (D : Dn K mg "_law_routine" sLRoutine ["_law_feed_here", "_law_most"] f fd) (GT : FnOk P w K mg base CX0 1 fT fdT ["_law_feed_here", "_law_many"] spTake) (DT : Dn K mg "_law_take" sTake ["_law_feed_here", "_law_many"] fT fdT)
    (GP : FnOk P w K mg base CX0 2 fP fdP ["_law_feed_here", "_law_some"] spPick) (DP : Dn K mg "_law_pick" sPick ["_law_feed_here", "_law_some"] fP fdP) (GR : FnOk P w K mg base CX0 2 fR fdR ["_law_feed_here", "_law_blocks"] spLRun) (DR : Dn K mg "_law_run" sRun ["_law_feed_here", "_law_blocks"] fR fdR)
    (GS : FnOk P w K mg base CX0 1 fS fdS ["_law_run_here"] spSteps) (DS : Dn K mg "_law_steps" sSteps ["_law_run_here"] fS fdS) (B : Bi mg) :
    FnOk P w K mg base CX0 3 f fd ["_law_feed_here", "_law_most"] spRoutine := by
  refine D.F.ok scRoutine (fun vs H Q E h => ?_) (fun cdv A outer s H vs Q E hr h => ?_)
  · obtain ⟨f, rfl, _⟩ := h
    rfl
  · obtain ⟨g, rfl, hf, q⟩ := h
    have hu := hu_of hr
    have hu65 : (A.deeper (envOfC "_law_routine" (defScope sLRoutine) s.heap.objs.size f cdv)).units + 65 < cLine := by
      have := hr.un; omega
    have hr1 := hr.mono (show 1 ≤ 2 by decide)
    refine ⟨_, pss_cons (ps_asg (pe_tup (pa_cons (pe_op op_add pe_int (pe_call GT hr1 (by rfl) DT.g DT.F.kp DT.b .nil pass0 (pa_cons (pv 0) (pa_cons (pe_op op_sub (pv 1) pe_int) pa_nil)))) (pa_cons (pe_lst pa_nil) pa_nil))) (pg_tup rfl (pgs_cons (pg_name (i := 2) scRoutine.nd rfl (.inl rfl)) (pgs_cons (pg_name (i := 3) scRoutine.nd rfl (.inr rfl)) pgs_nil))))
      (pss_mid (ps_for PassesOwn.never rfl (pi_range1 (by rfl) B.range (pa_cons (pe_call GP hr (by rfl) DP.g DP.F.kp DP.b .nil pass0 (pa_cons (pv 0) (pa_cons (pe_lst (pa_cons pe_int (pa_cons pe_int (pa_cons pe_int (pa_cons pe_int (pa_cons pe_int (pa_cons pe_int (pa_cons pe_int (pa_cons pe_int pa_nil))))))))) pa_nil))) pa_nil)) (pg_name (i := 4) scRoutine.nd rfl (.inl rfl))
        (pss_one (ps_set (i := 3) scRoutine.nd rfl (.inr rfl) (pe_op op_cat (pv 3) (pe_lc (own := [("_law_jump", 6)]) (g := gName 6) rfl scRoutine.nd
          (pi_list (pe_call GS hr1 (by rfl) DS.g DS.F.kp DS.b .nil pass0 (pa_cons (pe_call GR hr (by rfl) DR.g DR.F.kp DR.b .nil pass0 (pa_cons (pv 0) (pa_cons (pv 2) pa_nil))) pa_nil)))
          (blkOk_by (N := ["_law_feed_here", "_law_most", "_law_blocks", "_law_found", "_law_turn", "_law_u", "_law_jump"]) (sc := defScope sLRoutine) (by decide +kernel))
          (fun _ _ _ _ _ => pg_name (i := 6) scRoutine.nd rfl (Or.inl rfl)) (fun _ _ _ _ _ => pts_one (by exact (pt_cmpR (op_notInDK K rfl hu65) (pv 6) (pv 3) (by with_unfolding_all rfl)))) (fun _ _ _ _ _ => pv 6))))))
      (pss_cons (ps_for PassesOwn.never rfl (pi_range1 (by rfl) B.range (pa_cons (pe_call GT hr1 (by rfl) DT.g DT.F.kp DT.b .nil pass0 (pa_cons (pv 0) (pa_cons pe_int pa_nil))) pa_nil)) (pg_name (i := 4) scRoutine.nd rfl (.inl rfl))
        (pss_cons (ps_set (i := 5) scRoutine.nd rfl (.inl rfl) (pe_call GT hr1 (by rfl) DT.g DT.F.kp DT.b .nil pass0 (pa_cons (pv 0) (pa_cons (pe_op op_sub (pv 2) pe_int) pa_nil))))
        (pss_cons (ps_set (i := 6) scRoutine.nd rfl (.inl rfl) (pe_tup (pa_cons (pv 5) (pa_cons (pe_op op_add (pe_op op_add (pv 5) pe_int) (pe_call GT hr1 (by rfl) DT.g DT.F.kp DT.b .nil pass0 (pa_cons (pv 0) (pa_cons (pe_op op_sub (pe_op op_sub (pv 2) pe_int) (pv 5)) pa_nil)))) pa_nil))))
        (pss_one (ps_if (pt_cmpR (op_notInDK K rfl hu65) (pv 6) (pv 3) (by with_unfolding_all rfl))
          (pss_one (ps_expr (pe_bm PySem.F.plainAttrs_list PySem.F.slot_list_insert PySem.F.type_list_insert (by exact mt_insert) (pv 3) (pa_cons (pe_call GT hr1 (by rfl) DT.g DT.F.kp DT.b .nil pass0 (pa_cons (pv 0) (pa_cons (pe_op op_add (pe_callB call_len_seq (by rfl) B.len PySem.boot_len (pa_cons (pv 3) pa_nil)) pe_int) pa_nil))) (pa_cons (pv 6) pa_nil))))) pss_nil))))
      )
      (pss_one (ps_ret (pe_lst (pa_cons (pv 2) (pa_cons (pv 3) pa_nil))))))), ?_⟩
    refine ⟨_, rfl, _, rfl, 8, 1, rfl, rfl, g, 7, rfl, hf, by decide, by decide, fun H1 c m1 c0 c7 => ⟨2, c, rfl, rfl, Nat.zero_le _, fun p0 hp0 => ⟨by show 2 ≤ sizeLine; decide, fun t ht => ?_⟩⟩⟩
    obtain ⟨b, hb⟩ : ∃ b : Int, b = 2 + c := ⟨_, rfl⟩
    have eb : (fun i j => V.int (i + j)) 2 c = V.int b := by show V.int (2 + c) = _; rw [hb]
    rw [eb]
    have s2 : Same H1 (upd H1 p0 (.lst [])) := L2.Same.new hp0
    have hp2 : (upd H1 p0 (.lst [])) p0 = some (.lst []) := upd_same
    generalize upd H1 p0 (.lst []) = H2 at *
    have s3 : Same H2 (upd H2 t (.tup [.int b, .ref p0])) := L2.Same.new ht
    refine ⟨t, _, rfl, .inl (.inl upd_same), rfl, _, _, rfl, _, _, rfl, rfl, ?_⟩
    have hp3 := s3 _ _ hp2
    have m3 : Mv g H (upd H2 t (.tup [.int b, .ref p0])) := (m1.then s2).then s3
    have hpH : H p0 = none := m1.free hp0
    generalize upd H2 t (.tup [.int b, .ref p0]) = H3 at *
    refine ⟨fun σ H' => ∃ (p : Addr) (v4 : Option V) (zs : List Jp), σ = [some (.ref g), some (.int 8), some (.int b), some (.ref p), v4, none, none] ∧ Mv g H H' ∧ H p = none ∧ JL H' p zs ∧ zs.Nodup ∧ Okj b zs ∧ zs.length ≤ 35, ?_, ?_⟩
    · refine ⟨_, rfl, by show 8 ≤ sizeLine; decide, fun pl hpl => ?_⟩
      have s4 := L2.Same.new (o := .lst [.int 0, .int 1, .int 2, .int 2, .int 3, .int 3, .int 4, .int 5]) hpl
      have m4 := m3.then s4
      refine ⟨g, pl, _, rfl, m4.b, upd_same, (fun d s z => by cases z), by simp, (by show 8 < 1000000; decide), fun H5 x m5 hx => ?_⟩
      obtain ⟨n, rfl, n0, n5⟩ : ∃ n : Int, x = .int n ∧ 0 ≤ n ∧ n ≤ 5 := by
        simp only [List.mem_cons, List.not_mem_nil, or_false] at hx
        rcases hx with h | h | h | h | h | h | h | h <;> exact ⟨_, h, by decide, by decide⟩
      have m45 := m4.trans m5
      have e5 := m5.at (s4 _ _ hp3) (fun d s z => by cases z)
      refine ⟨n, rfl, by omega, by omega, for_it (walk_range (lo := 0) (n := n.toNat)) (fun i σ H' => ∃ (p : Addr) (v4 : Option V) (zs : List Jp), σ = [some (.ref g), some (.int 8), some (.int b), some (.ref p), v4, none, none] ∧ Mv g H H' ∧ H p = none ∧ JL H' p zs ∧ zs.Nodup ∧ Okj b zs ∧ zs.length ≤ 7 * i)
        ⟨p0, none, [], rfl, m45, hpH, ⟨[], e5, .nil⟩, List.nodup_nil, fun p hp => (by cases hp), Nat.le_refl _⟩ (fun _ _ _ _ _ => trivial) ?_ ?_⟩
      · rintro i x σ H6 H7 hi ⟨p, v4, zs, rfl, m6, hp, hJ, hnd, hok, hzl⟩ ⟨rfl, rfl⟩
        refine ⟨_, rfl, _, rfl, _, rfl, g, b, rfl, m6.b, by omega, by omega, fun H8 pr q8 m8 hpr tq ql rise => ⟨pr, q8, rfl, tq, rise.1, by omega, fun H9 ps s9 hps hJ9 => ⟨ps, rfl, ?_⟩⟩⟩
        obtain ⟨os8, nd8⟩ := rise_ok rise
        have sl := stepsM_len q8
        have sl7 : (stepsM q8).length ≤ 7 := by
          have : (stepsM q8).length ≤ q8.length - 1 := by
            unfold stepsM
            rw [List.length_zip, List.length_tail]; omega
          omega
        obtain ⟨as, has, hps9⟩ := id hJ9
        have las : as.length = (stepsM q8).length := by rw [Paired.len hps9, List.length_map]
        refine ⟨⟨_, .inl (.inl has)⟩, fun L hL => ?_⟩
        have m9 := (m6.trans m8).then s9
        have hJz : JL H9 p zs := (m8.jl hJ).same s9
        refine lc_it (walk_list (xs := as.map V.ref)) (fun k H10 => Same H9 H10 ∧ JL H10 L (((stepsM q8).take k).filter fun j => !decide (j ∈ zs))) ⟨L2.Same.new hL, [], upd_same, .nil⟩ (fun k H10 _ hh => .inl (.inl (hh.1 _ _ has))) ?_ ?_
        · rintro k y H10 H11 hk ⟨s10, us, hus, hpu⟩ ⟨rfl, hy⟩
          obtain ⟨c2, hc2, rfl⟩ := map_at hy
          obtain ⟨x2, hx2, hcx⟩ := Paired.get hps9 hc2
          obtain ⟨j2, hj2, rfl⟩ := map_at hx2
          have hc11 : Tu H11 c2 (jl j2) := s10.ts _ _ hcx
          refine ⟨rfl, _, rfl, _, rfl, _, _, hc11.dp, (hJz.same s10).dp, tD_shaped _, tDs_shaped _, _, rfl, ?_⟩
          rw [any_jl, filter_more _ hj2]
          cases hbq : (!decide (j2 ∈ zs)) with
          | false =>
            refine iteF ⟨s10, us, hus, ?_⟩
            rw [if_neg Bool.false_ne_true, List.append_nil]; exact hpu
          | true =>
            refine iteT ⟨_, rfl, _, hus, small ?_, Same.put s10 hL, ?_⟩
            · rw [List.length_map, Paired.len hpu, List.length_map]
              have := List.length_filter_le (fun j => !decide (j ∈ zs)) ((stepsM q8).take k)
              rw [List.length_take] at this
              omega
            · rw [if_pos rfl]; exact jl_push hus hpu hc11
        · rintro H10 ⟨s10, us, hus, hpu⟩
          rw [List.length_map, las, List.take_length] at hpu
          obtain ⟨cs, hcs, hpc⟩ := hJz.same s10
          have fl := List.length_filter_le (fun j => !decide (j ∈ zs)) (stepsM q8)
          have hcl : cs.length = zs.length := by rw [Paired.len hpc, List.length_map]
          have hul : us.length ≤ 7 := by rw [Paired.len hpu, List.length_map]; omega
          have hi5 : i < 5 := by omega
          refine ⟨p, L, _, _, rfl, rfl, hcs, hus, small' (by rw [List.length_map, List.length_map]; omega), fun p2 hp2' => ?_⟩
          have m10 := m9.then s10
          have s11 := L2.Same.new (o := .lst (cs.map V.ref ++ us.map V.ref)) hp2'
          refine ⟨p2, _, zs ++ (stepsM q8).filter (fun j => !decide (j ∈ zs)), rfl, m10.then s11, m10.free hp2', ⟨cs ++ us, by rw [upd_same, List.map_append], ?_⟩, ?_, ?_, ?_⟩
          · rw [List.map_append]
            exact Paired.app (hpc.mono s11.ts) (hpu.mono s11.ts)
          · refine List.nodup_append.mpr ⟨hnd, nd8.filter _, fun x hx y hy e => ?_⟩
            have := (List.mem_filter.mp hy).2
            rw [← e, decide_eq_true hx] at this
            cases this
          · intro x hx
            rcases List.mem_append.mp hx with hx | hx
            · exact hok x hx
            · exact os8 x (List.mem_filter.mp hx).1
          · rw [List.length_append]; omega
      · rintro σ H6 ⟨p, v4, zs, rfl, m6, hp, hJ, hnd, hok, hzl⟩
        exact ⟨p, v4, zs, rfl, m6, hp, hJ, hnd, hok, by omega⟩
    · rintro σ H4 ⟨p, v4, zs, rfl, m4, hp, hJ, hnd, hok, hzl⟩
      refine ⟨_, rfl, g, 4, rfl, m4.b, by decide, by decide, fun H5 n m5 n0 n4 => ⟨n, rfl, by omega, by omega, for_it (walk_range (lo := 0) (n := n.toNat)) (fun i σ H' => ∃ v4 v5 v6 : Option V, σ = [some (.ref g), some (.int 8), some (.int b), some (.ref p), v4, v5, v6] ∧ Mv g H H' ∧ ∃ zs : List Jp, JL H' p zs ∧ zs.Nodup ∧ Okj b zs ∧ zs.length ≤ 35 + i)
        ⟨v4, none, none, rfl, m4.trans m5, zs, m5.jl hJ, hnd, hok, by omega⟩ (fun _ _ _ _ _ => trivial) ?_ ?_⟩⟩
      · rintro i x σ H6 H7 hi ⟨w4, w5, w6, rfl, m6, ys, hJy, ynd, yok, yl⟩ ⟨rfl, rfl⟩
        refine ⟨_, rfl, _, rfl, b, 1, rfl, rfl, g, _, rfl, m6.b, by omega, by omega, fun H8 u m8 u0 u1 => ?_⟩
        refine ⟨_, rfl, _, rfl, u, 1, rfl, rfl, _, rfl, _, rfl, b, 1, rfl, rfl, _, rfl, _, u, rfl, rfl, g, _, rfl, m8.b, by omega, by omega, fun H9 v m9 v0 v1 => ⟨_, v, rfl, rfl, by show 2 ≤ sizeLine; decide, fun t2 ht2 => ?_⟩⟩
        have s10 : Same H9 (upd H9 t2 (.tup [.int u, .int (u + 1 + v)])) := L2.Same.new ht2
        have e10 : Tu (upd H9 t2 (.tup [.int u, .int (u + 1 + v)])) t2 (jl (u, u + 1 + v)) := upd_same
        have m10 := ((m6.trans m8).trans m9).then s10
        have hJ10 : JL (upd H9 t2 (.tup [.int u, .int (u + 1 + v)])) p ys := ((m8.trans m9).jl hJy).same s10
        generalize upd H9 t2 (.tup [.int u, .int (u + 1 + v)]) = H10 at *
        refine ⟨_, rfl, _, rfl, _, _, e10.dp, hJ10.dp, tD_shaped _, tDs_shaped _, _, rfl, ?_⟩
        rw [any_jl]
        by_cases hm : (u, u + 1 + v) ∈ ys
        · rw [decide_eq_true hm]
          exact iteF ⟨_, _, _, rfl, m10, ys, hJ10, ynd, yok, by omega⟩
        · rw [decide_eq_false hm]
          obtain ⟨cs, hcs, hpc⟩ := id hJ10
          have hcl : cs.length = ys.length := by rw [Paired.len hpc, List.length_map]
          have hn4 : i < 4 := by omega
          refine iteT ⟨_, rfl, .inl ⟨rfl, _, .inl (.inl hcs)⟩, _, rfl, _, rfl, p, _, rfl, .inl (.inl (.inl hcs)), _, 1, rfl, rfl, g, _, rfl, m10.b, by omega, by rw [List.length_map]; omega, fun H11 k m11 k0 k1 => ⟨_, rfl, ?_⟩⟩
          rw [List.length_map] at k1
          have hc11 := m11.at hcs (refs_ne cs)
          refine ⟨p, _, k, .ref t2, rfl, rfl, hc11, small (by rw [List.length_map]; omega), k0, by omega, _, _, _, rfl, (m10.trans m11).put hp, ys.take k.toNat ++ [(u, u + 1 + v)] ++ ys.drop k.toNat, ?_, ?_, ?_, ?_⟩
          · have em : (cs.map V.ref).take k.toNat ++ [V.ref t2] ++ (cs.map V.ref).drop k.toNat = (cs.take k.toNat ++ [t2] ++ cs.drop k.toNat).map V.ref := by
              rw [List.map_append, List.map_append, List.map_take, List.map_drop]; rfl
            rw [em]
            have ts : TS H11 (upd H11 p (.lst ((cs.take k.toNat ++ [t2] ++ cs.drop k.toNat).map V.ref))) := TS.put (TS.refl _) (fun xs e => by rw [hc11] at e; cases e)
            have hp11 : Tus H11 cs (ys.map jl) := hpc.mono m11.ts
            refine ⟨_, upd_same, ?_⟩
            refine Tus.mono ?_ ts
            rw [List.map_append, List.map_append, List.map_take, List.map_drop]
            exact Paired.app (Paired.app (Paired.tk _ hp11) (.cons (m11.ts _ _ e10) .nil)) (Paired.dp _ hp11)
          · have pm : (ys.take k.toNat ++ [(u, u + 1 + v)] ++ ys.drop k.toNat).Perm ((u, u + 1 + v) :: ys) := by
              rw [List.append_assoc]
              refine (List.perm_middle (l₁ := ys.take k.toNat) (l₂ := ys.drop k.toNat)).trans ?_
              rw [List.take_append_drop]
            exact (List.Perm.nodup_iff pm).mpr (List.nodup_cons.mpr ⟨hm, ynd⟩)
          · intro y hy
            rcases List.mem_append.mp hy with hy | hy
            · rcases List.mem_append.mp hy with hy | hy
              · exact yok y (List.mem_of_mem_take hy)
              · rw [List.mem_singleton.mp hy]
                refine ⟨u0, ?_, ?_⟩
                · show u < u + 1 + v; omega
                · show u + 1 + v ≤ b - 1; omega
            · exact yok y (List.mem_of_mem_drop hy)
          · simp only [List.length_append, List.length_take, List.length_drop, List.length_singleton]; omega
      · rintro σ H6 ⟨w4, w5, w6, rfl, m6, ys, hJy, ynd, yok, yl⟩
        refine ⟨_, rfl, _, rfl, by show 2 ≤ sizeLine; decide, fun pr hpr => ?_⟩
        have s7 := L2.Same.new (o := .lst [.int b, .ref p]) hpr
        exact q _ pr p b ys (m6.then s7) upd_same (by omega) (by omega) (hJy.same s7) ynd yok (by omega)
end
end Yf
set_option Elab.async false
set_option linter.all false
set_option maxRecDepth 100000
set_option maxHeartbeats 1000000
/-! G23: bent. -/
namespace Yf
open PySem PySem.Spec PyProof.Rows L2

def spBent : Sp := fun vs H Q _ => ∃ f b a r, vs = [.ref f, .int b, .ref a] ∧ Ft H f ∧ TR H a r ∧ 2 ≤ r.length ∧ r.length ≤ 100 ∧ 1 ≤ b ∧ b ≤ 9 ∧ (∀ x ∈ r, 0 ≤ x ∧ x ≤ 8) ∧ ∀ (H' : Hp) (p : Addr) (r' : List Int), Mv f H H' → H p = none → H' p = some (.tup (r'.map V.int)) → r'.length ≤ 101 → (∀ x ∈ r', 0 ≤ x ∧ x ≤ 8) → Q (.ref p) H'
section
variable {P : Program} {w : World} {K : PySem.W.Frag} {mg : Str → Option Value} {base : Heap}
theorem scBent : FnScope ["_law_feed_here", "_law_blocks", "_law_run_here", "_law_found", "_law_at", "_law_case"] ["_law_feed_here", "_law_blocks", "_law_run_here"] (defScope sBent) := ⟨rfl, rfl, rfl, by decide +kernel, rfl, by decide +kernel, by decide +kernel⟩
theorem ok_bent {f fT : Addr} {fd fdT : FuncData} (D : Dn K mg "_law_bent" sBent ["_law_feed_here", "_law_blocks", "_law_run_here"] f fd) (GT : FnOk P w K mg base CX0 1 fT fdT ["_law_feed_here", "_law_many"] spTake) (DT : Dn K mg "_law_take" sTake ["_law_feed_here", "_law_many"] fT fdT) (B : Bi mg) :
    FnOk P w K mg base CX0 2 f fd ["_law_feed_here", "_law_blocks", "_law_run_here"] spBent := by
  refine D.F.ok scBent (fun vs H Q E h => ?_) (fun cdv A outer s H vs Q E hr h => ?_)
  · obtain ⟨f, b, a, r, rfl, _⟩ := h
    rfl
  · obtain ⟨g, b, a, r, rfl, hf, ha, r2, r100, b1, b9, rb, q⟩ := h
    have hu := hu_of hr
    refine ⟨_, pss_cons (ps_set (i := 3) scBent.nd rfl (.inl rfl) (pe_callTy call_list_of (by rfl) B.list (by decide +kernel) (pa_cons (pv 2) pa_nil)))
      (pss_cons (by exact ps_par (i := 4) (j := 5) rfl scBent.nd rfl rfl (by decide) rfl rfl (by exact pa_cons (pe_op op_add pe_int (pe_call GT hr (by rfl) DT.g DT.F.kp DT.b .nil pass0 (pa_cons (pv 0) (pa_cons (pe_callB (call_max2 rfl) (by rfl) B.max (by decide +kernel) (pa_cons pe_int (pa_cons (pe_op op_sub (pe_callB call_len_seq (by rfl) B.len PySem.boot_len (pa_cons (pv 2) pa_nil)) pe_int) pa_nil))) pa_nil)))) (pa_cons (pe_call GT hr (by rfl) DT.g DT.F.kp DT.b .nil pass0 (pa_cons (pv 0) (pa_cons pe_int pa_nil))) pa_nil)) (by rfl))
      (pss_mid (ps_if (PW.pt (pw_or (pt_cmpR op_eq (pv 5) pe_int (nomark _)) (pw_or1 (pt_cmpR op_lt (pe_callB call_len_seq (by rfl) B.len PySem.boot_len (pa_cons (pv 2) pa_nil)) pe_int (nomark _)))))
        (pss_one (ps_expr (pe_bm PySem.F.plainAttrs_list PySem.F.slot_list_insert PySem.F.type_list_insert (by exact mt_insert) (pv 3) (pa_cons (pv 4) (pa_cons (pe_call GT hr (by rfl) DT.g DT.F.kp DT.b .nil pass0 (pa_cons (pv 0) (pa_cons (pv 1) pa_nil))) pa_nil)))))
        (pss_one (ps_if (pt_cmpR op_eq (pv 5) pe_int (nomark _))
          (pss_one (ps_expr (pe_bm PySem.F.plainAttrs_list PySem.F.slot_list_pop PySem.F.type_list_pop (by exact mt_popAt) (pv 3) (pa_cons (pv 4) pa_nil))))
          (pss_one (ps_asg (pe_call GT hr (by rfl) DT.g DT.F.kp DT.b .nil pass0 (pa_cons (pv 0) (pa_cons (pv 1) pa_nil))) (pg_sub (pv 3) (pv 4) set_list))))))
      (pss_one (ps_ret (pe_callTy call_tuple_of (by rfl) B.tuple (by decide +kernel) (pa_cons (pv 3) pa_nil)))))), ?_⟩
    have hml : (r.map V.int).length = r.length := List.length_map ..
    refine ⟨_, rfl, a, _, rfl, .inr ha.sq, fun p0 hp0 => ?_⟩
    have npg : p0 ≠ g := fun z => by obtain ⟨d, s, e⟩ := hf; rw [z, e] at hp0; cases hp0
    have s1 : Same H (upd H p0 (.lst (r.map V.int))) := L2.Same.new hp0
    have e1 : (upd H p0 (.lst (r.map V.int))) p0 = some (.lst (r.map V.int)) := upd_same
    have m1 : Mv g H (upd H p0 (.lst (r.map V.int))) := hf.mv s1
    generalize upd H p0 (.lst (r.map V.int)) = H1 at *
    have mTR : ∀ {H' : Hp}, Mv g H H' → TR H' a r := fun m => by
      rcases ha with e | ⟨o, e⟩
      · exact .inl (m.at e (fun d s z => by cases z))
      · exact .inr ⟨o, m.at e (fun d s z => by cases z)⟩
    refine ⟨_, rfl, _, rfl, a, _, rfl, .inr (mTR m1).sq, _, 2, rfl, rfl, 1, _, rfl, ?_⟩
    obtain ⟨mx, hmx, mx1, mx2, mx3⟩ : ∃ mx : Int, mx = (if (((r.map V.int).length : Nat) : Int) - 2 > 1 then (((r.map V.int).length : Nat) : Int) - 2 else 1) ∧ 1 ≤ mx ∧ mx ≤ 100 ∧ (3 ≤ r.length → mx ≤ (r.length : Int) - 2) := by
      refine ⟨_, rfl, ?_, ?_, ?_⟩
      · split <;> omega
      · split <;> omega
      · intro h3; split <;> omega
    rw [← hmx]
    refine ⟨g, mx, rfl, m1.b, by omega, by omega, fun H2 i m2 i0 i1 => ⟨1, i, rfl, rfl, _, rfl, g, 3, rfl, m2.b, by decide, by decide, fun H3 c m3 c0 c3 => ⟨_, _, rfl, ?_⟩⟩⟩
    have m03 := (m1.trans m2).trans m3
    have e3 : H3 p0 = some (.lst (r.map V.int)) := (m2.trans m3).s _ _ e1 npg
    refine ⟨fun σ H' => ∃ (r' : List Int) (v4 v5 : Option V), σ = [some (.ref g), some (.int b), some (.ref a), some (.ref p0), v4, v5] ∧ Mv g H H' ∧ H' p0 = some (.lst (r'.map V.int)) ∧ r'.length ≤ 101 ∧ ∀ x ∈ r', 0 ≤ x ∧ x ≤ 8, ?_, ?_⟩
    · have ins : ∀ (H4 : Hp) (v : Int), Mv g H3 H4 → 0 ≤ v → v < b → H4 p0 = some (.lst (r.map V.int)) ∧ ∃ r' : List Int, (r.map V.int).take (1 + i).toNat ++ [V.int v] ++ (r.map V.int).drop (1 + i).toNat = r'.map V.int ∧ r'.length ≤ 101 ∧ ∀ x ∈ r', 0 ≤ x ∧ x ≤ 8 := fun H4 v m4 v0 v1 => by
        refine ⟨m4.s _ _ e3 npg, r.take (1 + i).toNat ++ [v] ++ r.drop (1 + i).toNat, ?_, ?_, fun x hx => ?_⟩
        · rw [List.map_append, List.map_append, List.map_take, List.map_drop]; rfl
        · simp only [List.length_append, List.length_take, List.length_drop, List.length_singleton]; omega
        · rcases List.mem_append.mp hx with hx | hx
          · rcases List.mem_append.mp hx with hx | hx
            · exact rb x (List.mem_of_mem_take hx)
            · rw [List.mem_singleton.mp hx]; omega
          · exact rb x (List.mem_of_mem_drop hx)
      refine ⟨_, rfl, rfl, _, rfl, ?_⟩
      cases hc0 : decide (V.int c = V.int 0) with
      | true =>
        refine iteT (iteT ?_)
        refine ⟨_, rfl, .inl ⟨rfl, _, .inl (.inl e3)⟩, _, rfl, _, rfl, _, rfl, g, b, rfl, m3.b, by omega, by omega, fun H4 v m4 v0 v1 => ?_⟩
        obtain ⟨e4, r', er, hl⟩ := ins H4 v m4 v0 v1
        refine ⟨p0, _, 1 + i, .int v, rfl, rfl, e4, small (by omega), by omega, by omega, ?_⟩
        rw [er]
        exact ⟨r', _, _, rfl, (m03.trans m4).put hp0, upd_same, hl⟩
      | false =>
        refine iteF ?_
        refine ⟨_, rfl, a, _, rfl, .inr (mTR m03).sq, _, 3, rfl, rfl, _, rfl, ?_⟩
        by_cases h3 : r.length < 3
        · rw [decide_eq_true (by omega)]
          refine iteT ?_
          refine ⟨_, rfl, .inl ⟨rfl, _, .inl (.inl e3)⟩, _, rfl, _, rfl, _, rfl, g, b, rfl, m3.b, by omega, by omega, fun H4 v m4 v0 v1 => ?_⟩
          obtain ⟨e4, r', er, hl⟩ := ins H4 v m4 v0 v1
          refine ⟨p0, _, 1 + i, .int v, rfl, rfl, e4, small (by omega), by omega, by omega, ?_⟩
          rw [er]
          exact ⟨r', _, _, rfl, (m03.trans m4).put hp0, upd_same, hl⟩
        · rw [decide_eq_false (by omega)]
          refine iteF ?_
          have hk : (1 + i).toNat < r.length := by have := mx3 (by omega); omega
          refine ⟨_, rfl, rfl, _, rfl, ?_⟩
          cases hc1 : decide (V.int c = V.int 1) with
          | true =>
            refine iteT ?_
            refine ⟨_, rfl, .inl ⟨rfl, _, .inl (.inl e3)⟩, _, rfl, p0, _, 1 + i, (1 + i).toNat, .int r[(1 + i).toNat], rfl, rfl, e3, by omega, by omega, seqIx (by omega) (by omega), by rw [List.getElem?_map, List.getElem?_eq_getElem hk]; rfl, ?_⟩
            rw [erase_map]
            exact ⟨_, _, _, rfl, m03.put hp0, upd_same, Nat.le_trans (len_erase _ _) (by omega), fun x hx => rb x (List.mem_of_mem_eraseIdx hx)⟩
          | false =>
            refine iteF ?_
            refine ⟨_, rfl, _, rfl, g, b, rfl, m3.b, by omega, by omega, fun H4 v m4 v0 v1 => ?_⟩
            have e4 := m4.s _ _ e3 npg
            refine ⟨_, rfl, _, rfl, p0, _, 1 + i, (1 + i).toNat, rfl, rfl, e4, ?_, ?_⟩
            · unfold ixN
              rw [if_pos (by omega), if_pos (by omega)]
            · rw [← List.map_set]
              refine ⟨_, _, _, rfl, (m03.trans m4).put hp0, upd_same, by rw [List.length_set]; omega, fun x hx => ?_⟩
              rcases List.mem_or_eq_of_mem_set hx with hx | hx
              · exact rb x hx
              · rw [hx]; omega
    · rintro σ H4 ⟨r', v4, v5, rfl, m4, e4, hl, hb⟩
      refine ⟨_, rfl, p0, _, rfl, .inl ⟨.inl (.inl e4), fun p hp => ?_⟩⟩
      exact q _ p r' (m4.then (L2.Same.new hp)) (m4.free hp) upd_same hl hb
end
end Yf
set_option Elab.async false
set_option linter.all false
set_option maxRecDepth 100000
set_option maxHeartbeats 1000000
/-! M1: plain facts: the rows, the rests, the exchanges. -/
namespace Yf
open PySem PySem.Spec PyProof.Rows L2

theorem flatMap_congr_mem {α β : Type} {f g : α → List β} : ∀ {l : List α}, (∀ a ∈ l, f a = g a) → l.flatMap f = l.flatMap g
  | [], _ => rfl
  | a :: l, h => by rw [List.flatMap_cons, List.flatMap_cons, h a List.mem_cons_self, flatMap_congr_mem fun b hb => h b (List.mem_cons_of_mem _ hb)]
/-- strictly before -/
def ltJ (a b : Jp) : Prop := a.1 < b.1 ∨ (a.1 = b.1 ∧ a.2 < b.2)
theorem ltJ_irr {a : Jp} : ¬ ltJ a a := by
  rintro (h | ⟨_, h⟩)
  · omega
  · omega
theorem ltJ_asym {a b : Jp} (h : ltJ a b) (g : ltJ b a) : False := by
  unfold ltJ at h g
  omega
theorem strict_eq : ∀ {xs ys : List Jp}, xs.Pairwise ltJ → ys.Pairwise ltJ → (∀ p, p ∈ xs ↔ p ∈ ys) → xs = ys
  | [], [], _, _, _ => rfl
  | [], y :: ys, _, _, h => nomatch (h y).mpr List.mem_cons_self
  | x :: xs, [], _, _, h => nomatch (h x).mp List.mem_cons_self
  | x :: xs, y :: ys, hx, hy, h => by
    rw [List.pairwise_cons] at hx hy
    obtain rfl : x = y := by
      rcases List.mem_cons.mp ((h x).mp List.mem_cons_self) with e | e
      · exact e
      · rcases List.mem_cons.mp ((h y).mpr List.mem_cons_self) with e2 | e2
        · exact e2.symm
        · exact (ltJ_asym (hx.1 _ e2) (hy.1 _ e)).elim
    have ne : ∀ {l : List Jp} {p : Jp}, (∀ q ∈ l, ltJ x q) → p ∈ l → p ≠ x := fun a m e => ltJ_irr (e ▸ a _ m)
    rw [strict_eq hx.2 hy.2 fun p => ⟨fun m => (List.mem_cons.mp ((h p).mp (List.mem_cons_of_mem _ m))).resolve_left (ne hx.1 m), fun m => (List.mem_cons.mp ((h p).mpr (List.mem_cons_of_mem _ m))).resolve_left (ne hy.1 m)⟩]
theorem srt_strict {qs : List Jp} (h : SrtJ qs) (nd : qs.Nodup) : qs.Pairwise ltJ := by
  refine (List.Pairwise.and h nd).imp fun {a b} hh => ?_
  obtain ⟨h1, h2⟩ := hh
  unfold SrtO.lexB at h1
  unfold ltJ
  split at h1
  · next e =>
    have h3 : ¬ b.2 < a.2 := of_decide_eq_false h1
    refine .inr ⟨e.symm, ?_⟩
    have : a.2 ≠ b.2 := fun z => h2 (Prod.ext e.symm z)
    omega
  · next e =>
    have h3 : ¬ b.1 < a.1 := of_decide_eq_false h1
    exact .inl (by omega)
theorem rowsM_mem {b : Int} {js : List Jp} (ok : Okj b js) (p : Jp) : p ∈ rowsM b js ↔ p ∈ js := by
  unfold rowsM rowsN rowU
  constructor
  · intro h
    obtain ⟨u, _, h⟩ := List.mem_flatMap.mp h
    exact of_decide_eq_true (List.mem_filter.mp h).2
  · intro h
    obtain ⟨h1, h2, h3⟩ := ok p h
    refine List.mem_flatMap.mpr ⟨p.1.toNat, List.mem_range.mpr (by omega), List.mem_filter.mpr ⟨List.mem_map.mpr ⟨(p.2 - p.1 - 1).toNat, List.mem_range.mpr (by omega), ?_⟩, decide_eq_true h⟩⟩
    refine Prod.ext ?_ ?_
    · show ((p.1.toNat : Nat) : Int) = p.1
      omega
    · show ((p.1.toNat : Nat) : Int) + 1 + (((p.2 - p.1 - 1).toNat : Nat) : Int) = p.2
      omega
theorem rowsM_strict (b : Int) (js : List Jp) : (rowsM b js).Pairwise ltJ := by
  unfold rowsM rowsN
  rw [List.pairwise_flatMap]
  refine ⟨fun u _ => ?_, ?_⟩
  · unfold rowU
    refine List.Pairwise.filter _ ?_
    rw [List.pairwise_map]
    refine List.pairwise_lt_range.imp fun {i j} h => .inr ⟨rfl, ?_⟩
    show (u : Int) + 1 + (i : Int) < (u : Int) + 1 + (j : Int)
    omega
  · refine List.pairwise_lt_range.imp fun {u v} h x hx y hy => .inl ?_
    have e : ∀ {w : Nat} {z : Jp}, z ∈ rowU b js (w : Int) (b - ((w : Int) + 1)).toNat → z.1 = (w : Int) := fun {w z} m => by
      unfold rowU at m
      obtain ⟨i, _, e⟩ := List.mem_map.mp (List.mem_filter.mp m).1
      rw [← e]
    rw [e hx, e hy]
    omega
/-- the rows of a routine are what the law draws up -/
theorem srt_rows {b : Int} {js qs : List Jp} (ok : Okj b js) (nd : js.Nodup) (hp : qs.Perm js) (hs : SrtJ qs) : qs = rowsM b js :=
  strict_eq (srt_strict hs (hp.nodup_iff.mpr nd)) (rowsM_strict b js) fun p => (hp.mem_iff).trans (rowsM_mem ok p).symm
theorem rowsM_ok {b : Int} {js : List Jp} (ok : Okj b js) : Okj b (rowsM b js) := fun p h => ok p ((rowsM_mem ok p).mp h)
theorem rowsM_nodup (b : Int) (js : List Jp) : (rowsM b js).Nodup := by
  unfold List.Nodup
  exact (rowsM_strict b js).imp fun {a c} h e => by
    rw [e] at h
    exact ltJ_irr h
/-- rests of a sorted list of jumps by ways -/
theorem flat_filter {α β : Type} (p : α → Bool) (f : α → List β) : ∀ l : List α, (l.filter p).flatMap f = l.flatMap fun a => if p a = true then f a else []
  | [] => rfl
  | a :: l => by
    rw [List.filter_cons, List.flatMap_cons, ← flat_filter p f l]
    split
    · rw [List.flatMap_cons]
    · rfl
theorem outs_range {js : List Jp} {last x : Int} (st : js.Pairwise ltJ) (ok : ∀ j ∈ js, j.1 < j.2 ∧ j.2 ≤ last) : outsM js x = ((List.range (last - x).toNat).map fun i : Nat => (x, x + 1 + (i : Int))).filter fun j => decide (j ∈ js) := by
  refine strict_eq (st.filter _) (List.Pairwise.filter _ ?_) fun p => ⟨fun h => ?_, fun h => ?_⟩
  · rw [List.pairwise_map]
    refine List.pairwise_lt_range.imp fun {i j} h => .inr ⟨rfl, ?_⟩
    show x + 1 + (i : Int) < x + 1 + (j : Int)
    omega
  · unfold outsM at h
    obtain ⟨h1, h2⟩ := List.mem_filter.mp h
    have e : p.1 = x := of_decide_eq_true h2
    obtain ⟨h3, h4⟩ := ok p h1
    refine List.mem_filter.mpr ⟨List.mem_map.mpr ⟨(p.2 - x - 1).toNat, List.mem_range.mpr (by omega), Prod.ext e.symm ?_⟩, decide_eq_true h1⟩
    show x + 1 + (((p.2 - x - 1).toNat : Nat) : Int) = p.2
    omega
  · obtain ⟨h1, h2⟩ := List.mem_filter.mp h
    obtain ⟨i, _, e⟩ := List.mem_map.mp h1
    unfold outsM
    exact List.mem_filter.mpr ⟨of_decide_eq_true h2, decide_eq_true (by rw [← e])⟩
theorem paths_rests {js : List Jp} {last : Int} (st : js.Pairwise ltJ) (ok : ∀ j ∈ js, j.1 < j.2 ∧ j.2 ≤ last) : ∀ (d : Nat) (x : Int), (pathsM js last d x).map (x :: ·) = restsM js last d x
  | 0, x => rfl
  | d + 1, x => by
    unfold pathsM restsM
    by_cases e : x = last
    · subst e
      rw [if_pos rfl, if_pos rfl]
      have : outsM js x = [] := by
        unfold outsM
        refine List.filter_eq_nil_iff.mpr fun p hp => ?_
        have := ok p hp
        intro h
        have := of_decide_eq_true h
        omega
      rw [this]; rfl
    · rw [if_neg e, if_neg e, List.nil_append, outs_range st ok, flat_filter, List.map_flatMap, List.flatMap_map]
      refine congrArg (fun g => List.flatMap g _) (funext fun i => ?_)
      have ih := paths_rests st ok d (x + 1 + (i : Int))
      by_cases hm : (x, x + 1 + (i : Int)) ∈ js
      · rw [if_pos (decide_eq_true hm), if_pos (decide_eq_true hm), ← ih, List.map_map]
        try rfl
      · rw [if_neg (by rw [decide_eq_false hm]; exact Bool.false_ne_true), if_neg (by rw [decide_eq_false hm]; exact Bool.false_ne_true)]
        try rfl
/-- what a rest is -/
theorem rests_is {js : List Jp} {last : Int} : ∀ (d : Nat) (x : Int), x ≤ last → ∀ r ∈ restsM js last d x, r.Pairwise (· < ·) ∧ r.head? = some x ∧ r.getLast? = some last ∧ (∀ y ∈ r, x ≤ y ∧ y ≤ last) ∧ ∀ j ∈ stepsM r, j ∈ js
  | 0, x, _, r, h => by cases h
  | d + 1, x, hx, r, h => by
    unfold restsM at h
    split at h
    · next e =>
      rw [List.mem_singleton.mp h]
      refine ⟨List.pairwise_singleton _ _, by rw [e]; rfl, rfl, fun y hy => ?_, fun j hj => ?_⟩
      · rw [List.mem_singleton.mp hy]; omega
      · cases hj
    · next e =>
      obtain ⟨i, hi, h⟩ := List.mem_flatMap.mp h
      have hi := List.mem_range.mp hi
      split at h
      · next hm =>
        obtain ⟨q, hq, rfl⟩ := List.mem_map.mp h
        obtain ⟨p1, p2, p3, p4, p5⟩ := rests_is d (x + 1 + (i : Int)) (by omega) q hq
        cases q with
        | nil => cases p2
        | cons z q =>
          obtain rfl : z = x + 1 + (i : Int) := Option.some.inj p2
          refine ⟨List.pairwise_cons.mpr ⟨fun y hy => ?_, p1⟩, rfl, by rw [List.getLast?_cons_cons]; exact p3, fun y hy => ?_, fun j hj => ?_⟩
          · have := (p4 y hy).1; omega
          · rcases List.mem_cons.mp hy with rfl | hy
            · omega
            · have := p4 y hy; omega
          · rcases List.mem_cons.mp (show j ∈ (x, x + 1 + (i : Int)) :: stepsM ((x + 1 + (i : Int)) :: q) from hj) with rfl | hj
            · exact of_decide_eq_true hm
            · exact p5 j hj
      · cases h
theorem filter_flat {α β : Type} (p : β → Bool) (f : α → List β) : ∀ l : List α, (l.flatMap f).filter p = l.flatMap fun a => (f a).filter p
  | [] => rfl
  | a :: l => by rw [List.flatMap_cons, List.filter_append, filter_flat p f l, List.flatMap_cons]
/-- fewer jumps: the rests that keep to them -/
theorem rests_sub {js ks : List Jp} {last : Int} (sub : ∀ j ∈ ks, j ∈ js) : ∀ (d : Nat) (x : Int), x ≤ last → restsM ks last d x = (restsM js last d x).filter fun r => decide (∀ j ∈ stepsM r, j ∈ ks)
  | 0, x, _ => rfl
  | d + 1, x, hx => by
    by_cases e : x = last
    · have e1 : ∀ js : List Jp, restsM js last (d + 1) x = [[last]] := fun js => by unfold restsM; rw [if_pos e]
      rw [e1, e1, List.filter_cons, if_pos (decide_eq_true (fun j hj => by cases hj))]; rfl
    · unfold restsM
      rw [if_neg e, if_neg e, filter_flat]
      refine flatMap_congr_mem fun i hi => ?_
      have hi := List.mem_range.mp hi
      by_cases hj : (x, x + 1 + (i : Int)) ∈ js
      · rw [if_pos (decide_eq_true hj), List.filter_map]
        have key : ((restsM js last d (x + 1 + (i : Int))).filter ((fun r => decide (∀ j ∈ stepsM r, j ∈ ks)) ∘ (x :: ·))) = if decide ((x, x + 1 + (i : Int)) ∈ ks) = true then restsM ks last d (x + 1 + (i : Int)) else [] := by
          rw [rests_sub sub d (x + 1 + (i : Int)) (by omega)]
          have hd : ∀ r ∈ restsM js last d (x + 1 + (i : Int)), ((∀ j ∈ stepsM (x :: r), j ∈ ks) ↔ ((x, x + 1 + (i : Int)) ∈ ks ∧ ∀ j ∈ stepsM r, j ∈ ks)) := fun r hr => by
            obtain ⟨_, p2, _⟩ := rests_is d _ (by omega) r hr
            cases r with
            | nil => cases p2
            | cons z r =>
              obtain rfl : z = x + 1 + (i : Int) := Option.some.inj p2
              exact List.forall_mem_cons
          by_cases hk : (x, x + 1 + (i : Int)) ∈ ks
          · rw [if_pos (decide_eq_true hk)]
            refine List.filter_congr fun r hr => decide_eq_decide.mpr ?_
            exact (hd r hr).trans ⟨fun h => h.2, fun h => ⟨hk, h⟩⟩
          · rw [if_neg (by rw [decide_eq_false hk]; exact Bool.false_ne_true)]
            refine List.filter_eq_nil_iff.mpr fun r hr h => hk ?_
            exact ((hd r hr).mp (of_decide_eq_true h)).1
        rw [key]
        split
        · rfl
        · rfl
      · have hk : ¬ (x, x + 1 + (i : Int)) ∈ ks := fun m => hj (sub _ m)
        rw [decide_eq_false hj, decide_eq_false hk]
        rfl
theorem reach_mono {js : List Jp} : ∀ {F : List Int} {x : Int}, x ∈ F → x ∈ reach F js := by
  induction js with
  | nil => exact fun h => h
  | cons p js ih =>
    intro F x h
    refine ih (F := if p.1 ∈ F then p.2 :: F else F) ?_
    split
    · exact List.mem_cons_of_mem _ h
    · exact h
theorem reach_or {js : List Jp} : ∀ {F : List Int} {x : Int}, x ∈ reach F js → x ∈ F ∨ ∃ p ∈ js, p.2 = x := by
  induction js with
  | nil => exact fun h => .inl h
  | cons p js ih =>
    intro F x h
    rcases ih (F := if p.1 ∈ F then p.2 :: F else F) h with h | ⟨q, hq, e⟩
    · split at h
      · rcases List.mem_cons.mp h with h | h
        · exact .inr ⟨p, List.mem_cons_self, h.symm⟩
        · exact .inl h
      · exact .inl h
    · exact .inr ⟨q, List.mem_cons_of_mem _ hq, e⟩
theorem reach_step {js : List Jp} (st : js.Pairwise ltJ) (ok : ∀ j ∈ js, j.1 < j.2) {F : List Int} {j : Jp} (hj : j ∈ js) (h : j.1 ∈ reach F js) : j.2 ∈ reach F js := by
  obtain ⟨a, c, rfl⟩ := List.append_of_mem hj
  have e : reach F (a ++ j :: c) = reach (if j.1 ∈ reach F a then j.2 :: reach F a else reach F a) c := by
    unfold reach
    rw [List.foldl_append]; rfl
  have hin : j.1 ∈ reach F a := by
    rw [show reach F (a ++ j :: c) = reach (reach F a) (j :: c) by unfold reach; rw [List.foldl_append]] at h
    rcases reach_or h with h | ⟨p, hp, e⟩
    · exact h
    · have o := ok p (List.mem_append_right _ hp)
      have : j.1 ≤ p.1 := by
        rcases List.mem_cons.mp hp with rfl | hp
        · exact Int.le_refl _
        · have := (List.pairwise_cons.mp (List.pairwise_append.mp st).2.1).1 p hp
          unfold ltJ at this
          omega
      omega
  rw [e, if_pos hin]
  exact reach_mono List.mem_cons_self
theorem back_mono {js : List Jp} : ∀ {F : List Int} {x : Int}, x ∈ F → x ∈ back F js := by
  induction js with
  | nil => exact fun h => h
  | cons p js ih =>
    intro F x h
    refine ih (F := if p.2 ∈ F then p.1 :: F else F) ?_
    split
    · exact List.mem_cons_of_mem _ h
    · exact h
theorem back_or {js : List Jp} : ∀ {F : List Int} {x : Int}, x ∈ back F js → x ∈ F ∨ ∃ p ∈ js, p.1 = x := by
  induction js with
  | nil => exact fun h => .inl h
  | cons p js ih =>
    intro F x h
    rcases ih (F := if p.2 ∈ F then p.1 :: F else F) h with h | ⟨q, hq, e⟩
    · split at h
      · rcases List.mem_cons.mp h with h | h
        · exact .inr ⟨p, List.mem_cons_self, h.symm⟩
        · exact .inl h
      · exact .inl h
    · exact .inr ⟨q, List.mem_cons_of_mem _ hq, e⟩
theorem back_step {js : List Jp} (st : js.Pairwise ltJ) (ok : ∀ j ∈ js, j.1 < j.2) {F : List Int} {j : Jp} (hj : j ∈ js) (h : j.2 ∈ back F js.reverse) : j.1 ∈ back F js.reverse := by
  obtain ⟨a, c, rfl⟩ := List.append_of_mem hj
  have er : (a ++ j :: c).reverse = c.reverse ++ j :: a.reverse := by simp
  have e2 : back F (c.reverse ++ j :: a.reverse) = back (back F c.reverse) (j :: a.reverse) := by unfold back; rw [List.foldl_append]
  rw [er] at h ⊢
  have hin : j.2 ∈ back F c.reverse := by
    rw [e2] at h
    rcases back_or h with h | ⟨p, hp, e⟩
    · exact h
    · have oj := ok j (List.mem_append_right _ List.mem_cons_self)
      have : p.1 ≤ j.1 := by
        rcases List.mem_cons.mp hp with rfl | hp
        · exact Int.le_refl _
        · have := (List.pairwise_append.mp st).2.2 p (List.mem_reverse.mp hp) j List.mem_cons_self
          unfold ltJ at this
          omega
      omega
  have e3 : back F (c.reverse ++ j :: a.reverse) = back (if j.2 ∈ back F c.reverse then j.1 :: back F c.reverse else back F c.reverse) a.reverse := by
    rw [e2]; rfl
  rw [e3, if_pos hin]
  exact back_mono List.mem_cons_self
/-- the jumps of a chain from a reached block are reached -/
theorem chain_reach {js : List Jp} (st : js.Pairwise ltJ) (ok : ∀ j ∈ js, j.1 < j.2) {F : List Int} : ∀ {r : List Int}, (∀ x, r.head? = some x → x ∈ reach F js) → (∀ j ∈ stepsM r, j ∈ js) → ∀ j ∈ stepsM r, j.1 ∈ reach F js
  | [], _, _, j, hj => by cases hj
  | [x], _, _, j, hj => by cases hj
  | x :: y :: r, h0, hs, j, hj => by
    have hs' : ∀ j ∈ (x, y) :: stepsM (y :: r), j ∈ js := hs
    rcases List.mem_cons.mp (show j ∈ (x, y) :: stepsM (y :: r) from hj) with rfl | hj
    · exact h0 x rfl
    · refine chain_reach st ok (r := y :: r) (fun z hz => ?_) (fun j hj => hs' j (List.mem_cons_of_mem _ hj)) j hj
      obtain rfl : y = z := Option.some.inj hz
      exact reach_step st ok (hs' _ List.mem_cons_self) (h0 x rfl)
theorem chain_back {js : List Jp} (st : js.Pairwise ltJ) (ok : ∀ j ∈ js, j.1 < j.2) {F : List Int} : ∀ {r : List Int}, (∀ x, r.getLast? = some x → x ∈ back F js.reverse) → (∀ j ∈ stepsM r, j ∈ js) → (∀ j ∈ stepsM r, j.2 ∈ back F js.reverse) ∧ (∀ x, r.head? = some x → x ∈ back F js.reverse)
  | [], _, _ => ⟨fun j hj => (by cases hj), fun x h => (by cases h)⟩
  | [x], h0, _ => ⟨fun j hj => (by cases hj), fun y h => h0 y h⟩
  | x :: y :: r, h0, hs => by
    have hs' : ∀ j ∈ (x, y) :: stepsM (y :: r), j ∈ js := hs
    obtain ⟨h1, h2⟩ := chain_back st ok (r := y :: r) (fun z hz => h0 z (by rw [List.getLast?_cons_cons]; exact hz)) (fun j hj => hs' j (List.mem_cons_of_mem _ hj))
    refine ⟨fun j hj => ?_, fun z hz => ?_⟩
    · rcases List.mem_cons.mp (show j ∈ (x, y) :: stepsM (y :: r) from hj) with rfl | hj
      · exact h2 y rfl
      · exact h1 j hj
    · obtain rfl : x = z := Option.some.inj hz
      exact back_step st ok (hs' _ List.mem_cons_self) (h2 y rfl)
theorem steps_split : ∀ {s : List Int} {x y : Int}, (x, y) ∈ stepsM s → ∃ C E, s = C ++ x :: y :: E
  | [], _, _, h => by cases h
  | [_], _, _, h => by cases h
  | a :: c :: s, x, y, h => by
    rcases List.mem_cons.mp (show (x, y) ∈ (a, c) :: stepsM (c :: s) from h) with e | h
    · cases e
      exact ⟨[], s, rfl⟩
    · obtain ⟨C, E, e⟩ := steps_split h
      exact ⟨a :: C, E, by rw [e]; rfl⟩
theorem steps_mem : ∀ (A : List Int) (x y : Int) (B : List Int), (x, y) ∈ stepsM (A ++ x :: y :: B)
  | [], x, y, B => List.mem_cons_self
  | [a], x, y, B => List.mem_cons_of_mem _ List.mem_cons_self
  | a :: c :: A, x, y, B => List.mem_cons_of_mem _ (steps_mem (c :: A) x y B)
theorem idx_mid {A : List Int} {x : Int} {B : List Int} (h : x ∉ A) : (A ++ x :: B).idxOf x = A.length := by
  rw [List.idxOf_append, if_neg h, List.idxOf_cons_self]
  simp
theorem cross_mid {A B C D : List Int} {x : Int} (h1 : x ∉ A) (h2 : x ∉ C) : crossM (A ++ x :: B) (C ++ x :: D) x = A ++ x :: D := by
  unfold crossM
  rw [idx_mid h1, idx_mid h2, List.take_left, List.drop_left]
theorem not_before {A : List Int} {x : Int} {B : List Int} (h : (A ++ x :: B).Pairwise (· < ·)) : x ∉ A := fun m => by
  have := (List.pairwise_append.mp h).2.2 x m x List.mem_cons_self
  omega
/-- all exchanges there: what is made of the jumps is there -/
theorem cross_all {S : List (List Int)} {last : Int} (hS : ∀ s ∈ S, s.Pairwise (· < ·) ∧ s.head? = some 0 ∧ s.getLast? = some last) (cl : ∀ f ∈ S, ∀ s ∈ S, ∀ x ∈ f, x ∈ s → crossM f s x ∈ S)
    {r : List Int} (hr : r.Pairwise (· < ·)) (h0 : r.head? = some 0) (hl : r.getLast? = some last) (h2 : 2 ≤ r.length) (hs : ∀ j ∈ stepsM r, j ∈ S.flatMap stepsM) : r ∈ S := by
  have go : ∀ (B A : List Int) (x : Int) (D : List Int), r = A ++ x :: B → A ++ x :: D ∈ S → r ∈ S := by
    intro B
    induction B with
    | nil =>
      intro A x D e hm
      obtain ⟨i1, _, i3⟩ := hS _ hm
      have ex : x = last := by
        rw [e, List.getLast?_append] at hl
        simpa using hl
      cases D with
      | nil => rw [e]; exact hm
      | cons y D =>
        exfalso
        have hlm : last ∈ y :: D := by
          rw [List.getLast?_append, List.getLast?_cons_cons] at i3
          cases hq : (y :: D).getLast? with
          | none => simp at hq
          | some z =>
            rw [hq] at i3
            have : z = last := by simpa using i3
            rw [← this]
            exact List.mem_of_getLast? hq
        have := (List.pairwise_cons.mp (List.pairwise_append.mp i1).2.1).1 last hlm
        omega
    | cons y B ih =>
      intro A x D e hm
      have hxy : (x, y) ∈ S.flatMap stepsM := hs _ (by rw [e]; exact steps_mem A x y B)
      obtain ⟨s', hs', hx⟩ := List.mem_flatMap.mp hxy
      obtain ⟨C, E, e'⟩ := steps_split hx
      have n1 : x ∉ A := not_before (hS _ hm).1
      have n2 : x ∉ C := not_before (e' ▸ (hS _ hs').1)
      have hc := cl _ hm _ hs' x (by simp) (by rw [e']; simp)
      rw [e', cross_mid n1 n2] at hc
      exact ih (A ++ [x]) y E (by rw [e]; simp) (by simpa using hc)
  match r, h0, h2, hs, go with
  | [a], _, h2, _, _ => simp at h2
  | a :: y :: r, h0, _, hs, go =>
    obtain ⟨s', hs', _⟩ := List.mem_flatMap.mp (hs (a, y) List.mem_cons_self)
    obtain ⟨_, i2, _⟩ := hS _ hs'
    cases s' with
    | nil => cases i2
    | cons z D =>
      have e1 : z = 0 := Option.some.inj i2
      have e2 : a = 0 := Option.some.inj h0
      refine go (y :: r) [] a D rfl ?_
      rw [e2, ← e1]
      exact hs'
theorem addL_mem {xs : List (List Int)} {r q : List Int} : q ∈ addL xs r ↔ q ∈ xs ∨ q = r := by
  unfold addL
  split
  · next h => exact ⟨.inl, fun h' => h'.elim id fun e => e ▸ h⟩
  · rw [List.mem_append, List.mem_singleton]
theorem firsts_iff (runs : List (List Int)) (r : List Int) : r ∈ firstsM runs ↔ r ∈ runs := by
  have : ∀ (rs acc : List (List Int)), r ∈ rs.foldl addL acc ↔ r ∈ acc ∨ r ∈ rs := by
    intro rs
    induction rs with
    | nil => intro acc; simp
    | cons a rs ih =>
      intro acc
      rw [List.foldl_cons, ih, addL_mem, List.mem_cons, or_assoc]
  have h := this runs []
  unfold firstsM
  simpa using h
theorem open_none {xs : List (List Int)} (h : openF xs xs = none) : ∀ f ∈ xs, ∀ s ∈ xs, ∀ x ∈ f, x ∈ s → crossM f s x ∈ xs := by
  intro f hf s hs x hx hxs
  have h1 := List.findSome?_eq_none_iff.mp h f hf
  have h2 := List.findSome?_eq_none_iff.mp h1 s hs
  have h3 := List.findSome?_eq_none_iff.mp h2 x hx
  by_cases hc : crossM f s x ∈ xs
  · exact hc
  · exfalso
    have : breachB xs f s x = true := by unfold breachB; rw [decide_eq_true hxs, decide_eq_false hc]; rfl
    simp only [this] at h3
    cases h3
/-- the runs of the part of a list with all exchanges are the runs in the list -/
theorem kept_eq {b : Int} {rows : List Jp} {some_ : List (List Int)} {d : Nat} (b2 : 2 ≤ b) (ok : Okj b rows) (st : rows.Pairwise ltJ) (hm : ∀ r ∈ some_, r ∈ restsM rows (b - 1) d 0)
    (ho : openF (firstsM some_) (firstsM some_) = none) :
    (pathsM (usefulM b (rows.filter fun q => decide (q ∈ (firstsM some_).flatMap stepsM)) (rows.filter fun q => decide (q ∈ (firstsM some_).flatMap stepsM))) (b - 1) d 0).map (0 :: ·) = (restsM rows (b - 1) d 0).filter fun r => decide (r ∈ some_) := by
  generalize hal : (rows.filter fun q => decide (q ∈ (firstsM some_).flatMap stepsM)) = al
  have als : al.Pairwise ltJ := hal ▸ st.filter _
  have alr : ∀ j ∈ al, j ∈ rows := fun j hj => (List.mem_filter.mp (hal ▸ hj)).1
  have alo : ∀ j ∈ al, j.1 < j.2 := fun j hj => (ok j (alr j hj)).2.1
  have us : (usefulM b al al).Pairwise ltJ := als.filter _
  have ua : ∀ j ∈ usefulM b al al, j ∈ al := fun j hj => (List.mem_filter.mp hj).1
  rw [paths_rests us fun j hj => ⟨alo j (ua j hj), (ok j (alr j (ua j hj))).2.2⟩, rests_sub (js := rows) (fun j hj => alr j (ua j hj)) d 0 (by omega)]
  refine List.filter_congr fun r hr => decide_eq_decide.mpr ?_
  obtain ⟨p1, p2, p3, p4, p5⟩ := rests_is d 0 (by omega) r hr
  constructor
  · intro h
    have len : 2 ≤ r.length := by
      match r, p2, p3 with
      | [x], p2, p3 =>
        have e1 : x = 0 := Option.some.inj p2
        have e2 : x = b - 1 := Option.some.inj p3
        omega
      | _ :: _ :: _, _, _ => simp
    refine (firsts_iff some_ r).mp (cross_all (last := b - 1) (fun s hs => ?_) (open_none ho) p1 p2 p3 len fun j hj => ?_)
    · obtain ⟨q1, q2, q3, _⟩ := rests_is d 0 (by omega) s (hm s ((firsts_iff _ _).mp hs))
      exact ⟨q1, q2, q3⟩
    · have := ua j (h j hj)
      rw [← hal] at this
      exact of_decide_eq_true (List.mem_filter.mp this).2
  · intro h j hj
    have ina : ∀ j ∈ stepsM r, j ∈ al := fun j hj => by
      rw [← hal]
      exact List.mem_filter.mpr ⟨p5 j hj, decide_eq_true (List.mem_flatMap.mpr ⟨r, (firsts_iff _ _).mpr h, hj⟩)⟩
    refine List.mem_filter.mpr ⟨ina j hj, ?_⟩
    rw [decide_eq_true (chain_reach als alo (F := [0]) (fun x hx => ?_) ina j hj), decide_eq_true ((chain_back als alo (F := [b - 1]) (fun x hx => ?_) ina).1 j hj)]
    · rfl
    · rw [p3] at hx
      obtain rfl : b - 1 = x := Option.some.inj hx
      exact back_mono List.mem_cons_self
    · rw [p2] at hx
      obtain rfl : 0 = x := Option.some.inj hx
      exact reach_mono List.mem_cons_self
/-- the jumps of the firsts are the jumps of all -/
theorem firsts_steps {some_ : List (List Int)} {rows : List Jp} : (rows.filter fun q => decide (q ∈ (firstsM some_).flatMap stepsM)) = rows.filter fun q => decide (q ∈ some_.flatMap stepsM) :=
  List.filter_congr fun q _ => decide_eq_decide.mpr ⟨fun h => let ⟨r, a, c⟩ := List.mem_flatMap.mp h; List.mem_flatMap.mpr ⟨r, (firsts_iff _ _).mp a, c⟩, fun h => let ⟨r, a, c⟩ := List.mem_flatMap.mp h; List.mem_flatMap.mpr ⟨r, (firsts_iff _ _).mpr a, c⟩⟩
theorem rests_len8 {js : List Jp} {last : Int} {d : Nat} {x : Int} {r : List Int} (h : r ∈ restsM js last d x) : r.length ≤ d := (rests_mem js last d x r h).2
theorem rests_two {js : List Jp} {b : Int} {d : Nat} (b2 : 2 ≤ b) {r : List Int} (h : r ∈ restsM js (b - 1) d 0) : 2 ≤ r.length := by
  obtain ⟨_, p2, p3, _⟩ := rests_is d 0 (by omega) r h
  match r, p2, p3 with
  | [x], p2, p3 =>
    have e1 : x = 0 := Option.some.inj p2
    have e2 : x = b - 1 := Option.some.inj p3
    omega
  | _ :: _ :: _, _, _ => simp
theorem rests_rnv {js : List Jp} {b : Int} {d : Nat} (b2 : 2 ≤ b) {r : List Int} (h : r ∈ restsM js (b - 1) d 0) : rnv b js (r.map V.int) = true := by
  obtain ⟨_, p2, p3, _, p5⟩ := rests_is d 0 (by omega) r h
  have two := rests_two b2 h
  unfold rnv
  rw [prs_map, List.all_map, List.head?_map, List.getLast?_map, p2, p3, List.length_map, decide_eq_true two, Bool.true_and, Bool.and_eq_true]
  refine ⟨List.all_eq_true.mpr fun j hj => decide_eq_true (p5 j hj), ?_⟩
  show (decide ((0 : Int) = 0) && decide (b - 1 = b - 1)) = true
  rw [decide_eq_true rfl, decide_eq_true rfl]; rfl
end Yf
set_option Elab.async false
set_option linter.all false
set_option maxRecDepth 100000
set_option maxHeartbeats 1000000
/-! G24: refused. -/
namespace Yf
open PySem PySem.Spec PyProof.Rows L2

theorem call_reprDK {X : Cx} (K : PySem.W.Frag) (h : X.K = K) (hg : X.A.guards = some []) (hu : X.A.units + 64 < cLine) : CallR X (.builtin "repr") (rRepr K) := h ▸ call_reprD hg hu
/-- an atom of the bad things, its reading -/
def atV : V → Bool
  | .non => true
  | .bl _ => true
  | .int i => decide (0 ≤ i ∧ i ≤ 8)
  | _ => false
def atD : V → PyData
  | .bl b => .bool b
  | .int i => .int i
  | _ => .none
theorem atV_kd {H : Hp} {v : V} (h : atV v = true) : ∃ m, Kd H v m := by
  cases v <;> simp [atV] at h
  · exact ⟨_, .non⟩
  · exact ⟨_, .bl _⟩
  · exact ⟨_, .int _⟩
theorem atV_dp {K : PySem.W.Frag} {H : Hp} {v : V} (h : atV v = true) : Dp K H v (atD v) := by
  cases v <;> simp [atV] at h
  · exact .non
  · exact .bl _
  · exact .int _
theorem atV_all {K : PySem.W.Frag} {H : Hp} : ∀ {xs : List V}, xs.all atV = true → DpAll K H xs (xs.map atD)
  | [], _ => .nil
  | x :: xs, h => by
    rw [List.all_cons, Bool.and_eq_true] at h
    exact .cons (atV_dp h.1) (atV_all h.2)
theorem at_nice : ∀ {xs : List V}, xs.all atV = true → PyData.showableAll (xs.map atD) = true ∧ PyData.hasDictAll (xs.map atD) = false ∧ PyData.leavesShortAll 8 (xs.map atD) = true ∧ PyData.weightAll (xs.map atD) ≤ 5 * xs.length ∧ PyData.depthAll (xs.map atD) = 0
  | [], _ => by simp [PyData.showableAll, PyData.hasDictAll, PyData.leavesShortAll, PyData.weightAll, PyData.depthAll]
  | x :: xs, h => by
    rw [List.all_cons, Bool.and_eq_true] at h
    obtain ⟨a, b, c, d, e⟩ := at_nice h.2
    have one : (atD x).showable = true ∧ (atD x).hasDict = false ∧ (atD x).leavesShort 8 = true ∧ (atD x).weight ≤ 4 ∧ (atD x).depth = 0 := by
      have hx := h.1
      cases x <;> simp [atV] at hx
      · simp [atD, PyData.showable, PyData.hasDict, PyData.leavesShort, PyData.weight, PyData.depth]
      · simp [atD, PyData.showable, PyData.hasDict, PyData.leavesShort, PyData.weight, PyData.depth]
      · obtain ⟨p, q, r⟩ := sm_int hx.1 hx.2
        exact ⟨p, by simp only [atD, PyData.hasDict], q, r, by simp only [atD, PyData.depth]⟩
    obtain ⟨p, q, r, t, u⟩ := one
    refine ⟨?_, ?_, ?_, ?_, ?_⟩
    · simp only [List.map_cons, PyData.showableAll, p, a, Bool.and_self]
    · simp only [List.map_cons, PyData.hasDictAll, q, b, Bool.or_self]
    · simp only [List.map_cons, PyData.leavesShortAll, r, c, Bool.and_self]
    · simp only [List.map_cons, PyData.weightAll, List.length_cons]; omega
    · simp only [List.map_cons, PyData.depthAll]; omega
theorem rnv_two {b : Int} {rows : List Jp} {x y : V} (h : hasJ rows [x, y] = false) : rnv b rows [x, y] = false := by
  unfold rnv
  rw [show prs [x, y] = [(x, y)] from rfl, List.all_cons, h]; simp
theorem rnv_short {b : Int} {rows : List Jp} {xs : List V} (h : xs.length < 2) : rnv b rows xs = false := by
  unfold rnv
  rw [decide_eq_false (by omega)]; simp
theorem rnv_len {b : Int} {rows : List Jp} {xs : List V} (h : rnv b rows xs = true) : 2 ≤ xs.length := by
  unfold rnv at h
  rw [Bool.and_eq_true, Bool.and_eq_true] at h
  exact of_decide_eq_true h.1.1
theorem dpAll_app {K : PySem.W.Frag} {H : Hp} : ∀ {xs : List V} {ds : List PyData} {ys : List V} {es : List PyData}, DpAll K H xs ds → DpAll K H ys es → DpAll K H (xs ++ ys) (ds ++ es)
  | _, _, _, _, .nil, b => b
  | _, _, _, _, .cons h t, b => .cons h (dpAll_app t b)
/-- a thing that is no run of the routine -/
inductive PB (g : Addr) (b : Int) (rows : List Jp) (H : Hp) : V → Prop
  | non : PB g b rows H .non
  | zero : PB g b rows H (.int 0)
  | str : PB g b rows H (.str "01")
  | lst {t : Addr} (n : t ≠ g) (e : H t = some (.lst [.int 0, .int 1])) : PB g b rows H (.ref t)
  | tup {t : Addr} {xs : List V} (e : H t = some (.tup xs)) (a : xs.all atV = true) (r : rnv b rows xs = false) (l : xs.length ≤ 101) : PB g b rows H (.ref t)
  | nest {t u : Addr} (e : H t = some (.tup [.ref u])) (d : H u = some (.tup [.int 0, .int 1])) : PB g b rows H (.ref t)
theorem PB.mv {g : Addr} {b : Int} {rows : List Jp} {H H' : Hp} {v : V} (h : PB g b rows H v) (m : Mv g H H') : PB g b rows H' v := by
  cases h with
  | non => exact .non
  | zero => exact .zero
  | str => exact .str
  | lst n e => exact .lst n (m.s _ _ e n)
  | tup e a r l => exact .tup (m.at e (fun _ _ z => by cases z)) a r l
  | nest e d => exact .nest (m.at e (fun _ _ z => by cases z)) (m.at d (fun _ _ z => by cases z))
theorem PB.same {g : Addr} {b : Int} {rows : List Jp} {H H' : Hp} {v : V} (h : PB g b rows H v) (s : Same H H') : PB g b rows H' v := by
  cases h with
  | non => exact .non
  | zero => exact .zero
  | str => exact .str
  | lst n e => exact .lst n (s _ _ e)
  | tup e a r l => exact .tup (s _ _ e) a r l
  | nest e d => exact .nest (s _ _ e) (s _ _ d)
theorem PB.bad {g : Addr} {b : Int} {rows : List Jp} {H : Hp} {v : V} (h : PB g b rows H v) : Bad H b rows v := by
  cases h with
  | non => exact ⟨_, .kd .non, fun c xs e => by cases e⟩
  | zero => exact ⟨_, .kd (.int _), fun c xs e => by cases e⟩
  | str => exact ⟨_, .kd (.str _), fun c xs e => by cases e⟩
  | lst n e => exact ⟨_, .kd (.lst e), fun c xs ec h => by
      cases ec
      rcases h with h | ⟨o, h⟩
      · rw [e] at h; cases h
      · rw [e] at h; cases h⟩
  | tup e a r l => exact ⟨_, .kd (.tup e), fun c xs ec h => by
      cases ec
      rcases h with h | ⟨o, h⟩
      · rw [e] at h
        cases h
        exact ⟨by omega, fun y hy => atV_kd (List.all_eq_true.mp a y hy), r⟩
      · rw [e] at h; cases h⟩
  | nest e d => exact ⟨_, .kd (.tup e), fun c xs ec h => by
      cases ec
      rcases h with h | ⟨o, h⟩
      · rw [e] at h
        cases h
        exact ⟨by show 1 ≤ 1000; decide, fun y hy => by rw [List.mem_singleton.mp hy]; exact ⟨_, .tup d⟩, by simp [rnv]⟩
      · rw [e] at h; cases h⟩
theorem PB.dp {K : PySem.W.Frag} {g : Addr} {b : Int} {rows : List Jp} {H : Hp} {v : V} (h : PB g b rows H v) : ∃ d, (∀ {H'}, Same H H' → Dp K H' v d) ∧ Nice d := by
  cases h with
  | non => exact ⟨_, fun _ => .non, by decide +kernel, by decide +kernel, by decide +kernel, by decide +kernel, by decide +kernel⟩
  | zero => exact ⟨_, fun _ => .int 0, by decide +kernel, by decide +kernel, by decide +kernel, by decide +kernel, by decide +kernel⟩
  | str => exact ⟨_, fun _ => .str "01", by decide +kernel, by decide +kernel, by decide +kernel, by decide +kernel, by decide +kernel⟩
  | lst n e => exact ⟨_, fun s => .lst (.inl (.inl (s _ _ e))) (.cons (.int 0) (.cons (.int 1) .nil)), by decide +kernel, by decide +kernel, by decide +kernel, by decide +kernel, by decide +kernel⟩
  | tup e a r l =>
    obtain ⟨p, q, s, t, u⟩ := at_nice a
    exact ⟨_, fun ss => .tup (.inl (.inl (ss _ _ e))) (atV_all a), by simp only [PyData.showable]; exact p, by simp only [PyData.hasDict]; exact q, by simp only [PyData.depth]; omega, by simp only [PyData.leavesShort]; exact s, by simp only [PyData.weight]; omega⟩
  | nest e d => exact ⟨_, fun s => .tup (.inl (.inl (s _ _ e))) (.cons (.tup (.inl (.inl (s _ _ d))) (.cons (.int 0) (.cons (.int 1) .nil))) .nil), by decide +kernel, by decide +kernel, by decide +kernel, by decide +kernel, by decide +kernel⟩
/-- the drawn runs -/
def Drawn (b : Int) (rows : List Jp) (rs : List (List Int)) : Prop := rs.length ≤ 11 ∧ ∀ q ∈ rs, q.length ≤ 10 ∧ rnv b rows (q.map V.int) = true ∧ ∀ x ∈ q, 0 ≤ x ∧ x ≤ b - 1
def spRefused (CR : Addr) : Sp := fun vs H Q _ => ∃ f r b rows l rs, vs = [.ref f, .ref r, .int b, .ref l] ∧ Ft H f ∧ RAt CR H r b rows ∧ Okj b rows ∧ rows.Nodup ∧ rows.length ≤ 120 ∧ 2 ≤ b ∧ b ≤ 8 ∧ FL H l rs ∧ Drawn b rows rs ∧ ∀ H', Mv f H H' → Q (.bl true) H'
section
variable {P : Program} {w : World} {K : PySem.W.Frag} {mg : Str → Option Value} {base : Heap}
theorem scRefused : FnScope ["_law_feed_here", "_law_routine_here", "_law_blocks", "_law_runs", "_law_some", "_law_bent_here", "_law_bad", "_law_spoiled", "_law_shown", "e"] ["_law_feed_here", "_law_routine_here", "_law_blocks", "_law_runs"] (defScope sRefused) := ⟨rfl, rfl, rfl, by decide +kernel, rfl, by decide +kernel, by decide +kernel⟩
theorem fnG_fun {CX : CXT} {x qual : Str} {st : Stmt} {f : Addr} {fd : FuncData} {N ps : List Str} {k : Nat} {sp : Sp} (F : Fun K x qual st f fd) (S : FnScope N ps (defScope st)) (len : ∀ vs H Q E, sp vs H Q E → vs.length = ps.length)
    (hbody : ∀ (cdv : Value) (A : Around) (outer : List Env) (s : Shared) (H : Hp) (vs : List V) (Q : VK) (E : XK), (A.deeper (envOfC qual (defScope st) s.heap.objs.size f cdv)).guards = some [] → Room k (A.deeper (envOfC qual (defScope st) s.heap.objs.size f cdv)) → sp vs H Q E →
      ∃ t, PSs (cxOf CX P w K mg base N qual (defScope st) f cdv A outer s H E) (defBody st) t ∧ t { nx := fun _ H' => Q .non H', rt := Q } (start N vs) H) : FnG P w K mg base CX (k + 1) f fd ps sp := by
  obtain ⟨oc, od, kV, doc, pm, an, cdv, ct, osl, rfl, lk, hcd⟩ := F.ex
  exact fnG_of lk hcd S len fun A outer s H vs Q E hg hr hsp => hbody cdv A outer s H vs Q E hg hr hsp
theorem ok_refused {C CR CN f fT fP fB fI fC fN : Addr} {fd fdT fdP fdB fdI fdC fdN : FuncData} (D : Dn K mg "_law_refused" sRefused ["_law_feed_here", "_law_routine_here", "_law_blocks", "_law_runs"] f fd) (T : RC K CR) (N : NR K mg CN fN fdN) (XN : XfC K CN) (hex : PySem.W.exmOne K (.ref CN) (.ref CN) = some true)
    (GT : FnOk P w K mg base CX0 1 fT fdT ["_law_feed_here", "_law_many"] spTake) (DT : Dn K mg "_law_take" sTake ["_law_feed_here", "_law_many"] fT fdT)
    (GP : FnOk P w K mg base CX0 2 fP fdP ["_law_feed_here", "_law_some"] spPick) (DP : Dn K mg "_law_pick" sPick ["_law_feed_here", "_law_some"] fP fdP)
    (GB : FnOk P w K mg base CX0 2 fB fdB ["_law_feed_here", "_law_blocks", "_law_run_here"] spBent) (DB : Dn K mg "_law_bent" sBent ["_law_feed_here", "_law_blocks", "_law_run_here"] fB fdB)
    (GI : FnOk P w K mg base CX0 5 fI fdI ["self", "value"] (spIsRun CR)) (DI : Mn K CR "is_run" "Routine.is_run" mRIsRun ["self", "value"] fI fdI)
    (GC : FnOk P w K mg base (L2.CX P w) 7 fC fdC ["routine", "runs"] (spClosed C CR CN)) (DC : Dn K mg "closed" sClosed ["routine", "runs"] fC fdC) (B : Bi mg) :
    FnG P w K mg base CX0 8 f fd ["_law_feed_here", "_law_routine_here", "_law_blocks", "_law_runs"] (spRefused CR) := by
  refine fnG_fun D.F scRefused (fun vs H Q E h => ?_) (fun cdv A outer s H vs Q E hgd hr h => ?_)
  · obtain ⟨f, r, b, rows, l, rs, rfl, _⟩ := h
    rfl
  · obtain ⟨g, r, b, rows, l, rs, rfl, hf, R, ok, nd, h120, b2, b8, hl, hD, q⟩ := h
    have hr1 := hr.mono (show 1 ≤ 7 by decide)
    have hr2 := hr.mono (show 2 ≤ 7 by decide)
    refine ⟨_, pss_cons (ps_set (i := 4) scRefused.nd rfl (.inl rfl) (pe_lst (pa_cons pe_non (pa_cons pe_int (pa_cons (pe_tup pa_nil) (pa_cons (pe_tup (pa_cons pe_int pa_nil)) (pa_cons pe_str (pa_cons (pe_lst (pa_cons pe_int (pa_cons pe_int pa_nil))) (pa_cons (pe_tup (pa_cons pe_int (pa_cons pe_non pa_nil))) (pa_cons (pe_tup (pa_cons pe_int (pa_cons pe_int pa_nil))) (pa_cons (pe_tup (pa_cons pe_int (pa_cons (pv 2) pa_nil))) (pa_cons (pe_tup (pa_cons pe_bl (pa_cons pe_bl pa_nil))) (pa_cons (pe_tup (pa_cons (pe_tup (pa_cons pe_int (pa_cons pe_int pa_nil))) pa_nil)) pa_nil)))))))))))))
      (pss_cons (ps_set (i := 5) scRefused.nd rfl (.inl rfl) (pe_call GB hr2 (by rfl) DB.g DB.F.kp DB.b .nil pass0 (pa_cons (pv 0) (pa_cons (pv 2) (pa_cons (pe_call GP hr2 (by rfl) DP.g DP.F.kp DP.b .nil pass0 (pa_cons (pv 0) (pa_cons (pe_op op_cat (pv 3) (pe_lst (pa_cons (pe_tupF (pa_cons pe_int (pa_cons (pe_op op_sub (pv 2) pe_int) pa_nil))) pa_nil))) pa_nil))) pa_nil)))))
      (pss_mid (ps_set (i := 6) scRefused.nd rfl (.inl rfl) (pe_call GP hr2 (by rfl) DP.g DP.F.kp DP.b .nil pass0 (pa_cons (pv 0) (pa_cons (pe_ifExp (pt_val (pe_meth (pv 1) T.cl DI.m GI (hr.mono (by decide)) DI.b .nil pass0 (pa_cons (pv 5) pa_nil))) (pv 4) (pe_op op_cat (pv 4) (pe_op op_rep (pe_lst (pa_cons (pv 5) pa_nil)) pe_int))) pa_nil))))
      (pss_cons (ps_set (i := 7) scRefused.nd rfl (.inl rfl) (pe_callTy call_list_of (by rfl) B.list (by decide +kernel) (pa_cons (pv 3) pa_nil)))
      (pss_cons (ps_expr (pe_bm PySem.F.plainAttrs_list PySem.F.slot_list_insert PySem.F.type_list_insert (by exact mt_insert) (pv 7) (pa_cons (pe_call GT hr1 (by rfl) DT.g DT.F.kp DT.b .nil pass0 (pa_cons (pv 0) (pa_cons (pe_op op_add (pe_callB call_len_seq (by rfl) B.len PySem.boot_len (pa_cons (pv 3) pa_nil)) pe_int) pa_nil))) (pa_cons (pv 6) pa_nil))))
      (pss_cons (ps_expr (pe_bm PySem.F.plainAttrs_list PySem.F.slot_list_append PySem.F.type_list_append (by exact mt_append) (pv 7) (pa_cons pe_non pa_nil)))
      (pss_cons (ps_set (i := 8) scRefused.nd rfl (.inl rfl) (pe_callB (call_reprDK K rfl hgd hr.units) (by rfl) B.repr (by decide +kernel) (pa_cons (pv 7) pa_nil)))
      (pss_cons (ps_try_as (i := 9) (tb := fun W => tDrop (tCallS (spClosed C CR CN) (WE W) (tCons (tVar 1) (tCons (tVar 7) tNil)))) (ts := fun a cls d => tRet (tAndV (tOp rEq (tCB (rRepr K) (tCons (tXf a cls d CN "run" (tVar 9)) tNil)) (tCB (rRepr K) (tCons (tVar 6) tNil))) (tOp rEq (tCB (rRepr K) (tCons (tVar 7) tNil)) (tVar 8)))) (Wout := fun _ _ _ _ => False) rfl rfl scRefused.nd rfl rfl ⟨rfl, by decide, Or.inl N.g⟩ takes0
          (fun W pn xe tk _ => pss_one (ps_expr (by exact (pe_callS GC (hr.mono (by decide)) rfl DC.g DC.F.kp DC.b (fun σ => passAt tk σ) (by exact (pa_cons (pv 1) (pa_cons (pv 7) pa_nil)))))))
          (fun a oe cls d pn hz hfl => pss_one (ps_ret (pe_and (pe_cmpR op_eq (pe_callB (call_reprDK K rfl (by exact hgd) (by exact hr.units)) (by rfl) B.repr (by decide +kernel) (pa_cons (pe_xf XN N.no hz hfl (pv 9)) pa_nil)) (pe_callB (call_reprDK K rfl (by exact hgd) (by exact hr.units)) (by rfl) B.repr (by decide +kernel) (pa_cons (pv 6) pa_nil)) (nomark _))
            (pe_one (pe_cmpR op_eq (pe_callB (call_reprDK K rfl (by exact hgd) (by exact hr.units)) (by rfl) B.repr (by decide +kernel) (pa_cons (pv 7) pa_nil)) (pv 8) (nomark _)))))))
      (pss_one (ps_ret pe_bl))))))))), ?_⟩
    refine ⟨by show 0 ≤ sizeLine; decide, fun t1 h1 => ?_⟩
    have s1 : Same H (upd H t1 (.tup [])) := L2.Same.new h1
    have e1 : (upd H t1 (.tup [])) t1 = some (.tup []) := upd_same
    have f1 : H t1 = none := h1
    generalize upd H t1 (.tup []) = H1 at *
    refine ⟨by show 1 ≤ sizeLine; decide, fun t2 h2 => ?_⟩
    have s2 : Same H1 (upd H1 t2 (.tup [.int 0])) := L2.Same.new h2
    have e2 : (upd H1 t2 (.tup [.int 0])) t2 = some (.tup [.int 0]) := upd_same
    have f2 : H1 t2 = none := h2
    generalize upd H1 t2 (.tup [.int 0]) = H2 at *
    refine ⟨by show 2 ≤ sizeLine; decide, fun t3 h3 => ?_⟩
    have s3 : Same H2 (upd H2 t3 (.lst [.int 0, .int 1])) := L2.Same.new h3
    have e3 : (upd H2 t3 (.lst [.int 0, .int 1])) t3 = some (.lst [.int 0, .int 1]) := upd_same
    have f3 : H2 t3 = none := h3
    generalize upd H2 t3 (.lst [.int 0, .int 1]) = H3 at *
    refine ⟨by show 2 ≤ sizeLine; decide, fun t4 h4 => ?_⟩
    have s4 : Same H3 (upd H3 t4 (.tup [.int 0, .non])) := L2.Same.new h4
    have e4 : (upd H3 t4 (.tup [.int 0, .non])) t4 = some (.tup [.int 0, .non]) := upd_same
    have f4 : H3 t4 = none := h4
    generalize upd H3 t4 (.tup [.int 0, .non]) = H4 at *
    refine ⟨by show 2 ≤ sizeLine; decide, fun t5 h5 => ?_⟩
    have s5 : Same H4 (upd H4 t5 (.tup [.int 0, .int 0])) := L2.Same.new h5
    have e5 : (upd H4 t5 (.tup [.int 0, .int 0])) t5 = some (.tup [.int 0, .int 0]) := upd_same
    have f5 : H4 t5 = none := h5
    generalize upd H4 t5 (.tup [.int 0, .int 0]) = H5 at *
    refine ⟨_, rfl, by show 2 ≤ sizeLine; decide, fun t6 h6 => ?_⟩
    have s6 : Same H5 (upd H5 t6 (.tup [.int 0, .int b])) := L2.Same.new h6
    have e6 : (upd H5 t6 (.tup [.int 0, .int b])) t6 = some (.tup [.int 0, .int b]) := upd_same
    have f6 : H5 t6 = none := h6
    generalize upd H5 t6 (.tup [.int 0, .int b]) = H6 at *
    refine ⟨by show 2 ≤ sizeLine; decide, fun t7 h7 => ?_⟩
    have s7 : Same H6 (upd H6 t7 (.tup [.bl false, .bl true])) := L2.Same.new h7
    have e7 : (upd H6 t7 (.tup [.bl false, .bl true])) t7 = some (.tup [.bl false, .bl true]) := upd_same
    have f7 : H6 t7 = none := h7
    generalize upd H6 t7 (.tup [.bl false, .bl true]) = H7 at *
    refine ⟨by show 2 ≤ sizeLine; decide, fun t8 h8 => ?_⟩
    have s8 : Same H7 (upd H7 t8 (.tup [.int 0, .int 1])) := L2.Same.new h8
    have e8 : (upd H7 t8 (.tup [.int 0, .int 1])) t8 = some (.tup [.int 0, .int 1]) := upd_same
    have f8 : H7 t8 = none := h8
    generalize upd H7 t8 (.tup [.int 0, .int 1]) = H8 at *
    refine ⟨by show 1 ≤ sizeLine; decide, fun t9 h9 => ?_⟩
    have s9 : Same H8 (upd H8 t9 (.tup [.ref t8])) := L2.Same.new h9
    have e9 : (upd H8 t9 (.tup [.ref t8])) t9 = some (.tup [.ref t8]) := upd_same
    have f9 : H8 t9 = none := h9
    generalize upd H8 t9 (.tup [.ref t8]) = H9 at *
    refine ⟨by show 11 ≤ sizeLine; decide, fun t10 h10 => ?_⟩
    have s10 : Same H9 (upd H9 t10 (.lst [.non, .int 0, .ref t1, .ref t2, .str "01", .ref t3, .ref t4, .ref t5, .ref t6, .ref t7, .ref t9])) := L2.Same.new h10
    have e10 : (upd H9 t10 (.lst [.non, .int 0, .ref t1, .ref t2, .str "01", .ref t3, .ref t4, .ref t5, .ref t6, .ref t7, .ref t9])) t10 = some (.lst [.non, .int 0, .ref t1, .ref t2, .str "01", .ref t3, .ref t4, .ref t5, .ref t6, .ref t7, .ref t9]) := upd_same
    have f10 : H9 t10 = none := h10
    generalize upd H9 t10 (.lst [.non, .int 0, .ref t1, .ref t2, .str "01", .ref t3, .ref t4, .ref t5, .ref t6, .ref t7, .ref t9]) = H10 at *
    have c9 := s10
    have c8 := s9.trans c9
    have c7 := s8.trans c8
    have c6 := s7.trans c7
    have c5 := s6.trans c6
    have c4 := s5.trans c5
    have c3 := s4.trans c4
    have c2 := s3.trans c3
    have c1 := s2.trans c2
    have c0 := s1.trans c1
    have n3 : t3 ≠ g := fun z => by
      obtain ⟨d, t, e⟩ := hf
      have e' := (s1.trans s2) _ _ e
      rw [← z, f3] at e'
      cases e'
    have nr : ∀ v : Int, (0, v) ∈ rows → 0 < v ∧ v ≤ b - 1 := fun v hv => ⟨(ok _ hv).2.1, (ok _ hv).2.2⟩
    have bads : ∀ v ∈ ([.non, .int 0, .ref t1, .ref t2, .str "01", .ref t3, .ref t4, .ref t5, .ref t6, .ref t7, .ref t9] : List V), PB g b rows H10 v := by
      intro v hv
      simp only [List.mem_cons, List.not_mem_nil, or_false] at hv
      rcases hv with rfl | rfl | rfl | rfl | rfl | rfl | rfl | rfl | rfl | rfl | rfl
      · exact .non
      · exact .zero
      · exact .tup (c1 _ _ e1) rfl (rnv_short (by decide)) (by decide)
      · exact .tup (c2 _ _ e2) rfl (rnv_short (by decide)) (by decide)
      · exact .str
      · exact .lst n3 (c3 _ _ e3)
      · exact .tup (c4 _ _ e4) rfl (rnv_two rfl) (by decide)
      · refine .tup (c5 _ _ e5) rfl (rnv_two (decide_eq_false fun h => ?_)) (by decide)
        have := nr 0 h
        omega
      · refine .tup (c6 _ _ e6) ?_ (rnv_two (decide_eq_false fun h => ?_)) (by show 2 ≤ 101; decide)
        · show (decide ((0 : Int) ≤ 0 ∧ (0 : Int) ≤ 8) && (decide (0 ≤ b ∧ b ≤ 8) && true)) = true
          rw [decide_eq_true (show 0 ≤ b ∧ b ≤ 8 by omega)]; rfl
        · have := nr b h
          omega
      · exact .tup (c7 _ _ e7) rfl (rnv_two rfl) (by decide)
      · exact .nest (c9 _ _ e9) (c8 _ _ e8)
    have lit : ([.non, .int 0, .ref t1, .ref t2, .str "01", .ref t3, .ref t4, .ref t5, .ref t6, .ref t7, .ref t9] : List V).length = 11 := rfl
    generalize ([.non, .int 0, .ref t1, .ref t2, .str "01", .ref t3, .ref t4, .ref t5, .ref t6, .ref t7, .ref t9] : List V) = some_ at *
    have litn : ∀ d t : Int, HO.lst some_ ≠ .lst [.int d, .int t] := fun d t z => by
      injection z with z
      rw [z] at lit
      simp at lit
    have m10 : Mv g H H10 := hf.mv c0
    obtain ⟨ls, hls, hlf⟩ := m10.fl hl
    have lls : ls.length = rs.length := Paired.len hlf
    have hD1 := hD.1
    -- bent_here
    refine ⟨_, rfl, _, rfl, _, rfl, _, rfl, _, rfl, b, 1, rfl, rfl, by show 2 ≤ sizeLine; decide, fun t o ht ho => ⟨by show 1 ≤ sizeLine; decide, fun u hu2 => ?_⟩⟩
    have s11 : Same H10 (upd H10 t (.frz o (.tup [.int 0, .int (b - 1)]))) := L2.Same.new ht
    have e11 : FT (upd H10 t (.frz o (.tup [.int 0, .int (b - 1)]))) t [0, b - 1] := ⟨o, upd_same, ho⟩
    generalize upd H10 t (.frz o (.tup [.int 0, .int (b - 1)])) = H11 at *
    have s12 : Same H11 (upd H11 u (.lst [.ref t])) := L2.Same.new hu2
    have e12 : (upd H11 u (.lst [.ref t])) u = some (.lst [.ref t]) := upd_same
    generalize upd H11 u (.lst [.ref t]) = H12 at *
    have s1012 := s11.trans s12
    refine ⟨l, u, _, _, rfl, rfl, s1012 _ _ hls, e12, ?_, fun p hp => ?_⟩
    · show (ls.map V.ref).length + 1 ≤ sizeLine
      exact small (by rw [List.length_map]; omega)
    have em : ls.map V.ref ++ [V.ref t] = (ls ++ [t]).map V.ref := by rw [List.map_append]; rfl
    rw [em]
    have s13 : Same H12 (upd H12 p (.lst ((ls ++ [t]).map V.ref))) := L2.Same.new hp
    have e13 : (upd H12 p (.lst ((ls ++ [t]).map V.ref))) p = some (.lst ((ls ++ [t]).map V.ref)) := upd_same
    generalize upd H12 p (.lst ((ls ++ [t]).map V.ref)) = H13 at *
    have s1013 := s1012.trans s13
    have m13 : Mv g H H13 := m10.then s1013
    refine ⟨g, p, _, rfl, m13.b, e13, refs_ne _, by simp, by rw [List.length_map, List.length_append, List.length_singleton]; omega, fun H14 y m14 hy => ?_⟩
    obtain ⟨c, hc, rfl⟩ := List.mem_map.mp hy
    obtain ⟨q0, hq0, q2, q100, qb⟩ : ∃ q0, FT H14 c q0 ∧ 2 ≤ q0.length ∧ q0.length ≤ 100 ∧ ∀ x ∈ q0, 0 ≤ x ∧ x ≤ 8 := by
      rcases List.mem_append.mp hc with hc | hc
      · obtain ⟨q0, hq, f⟩ := fls_mem hlf c hc
        obtain ⟨d1, d2, d3⟩ := hD.2 q0 hq
        have := rnv_len d2
        rw [List.length_map] at this
        exact ⟨q0, m14.ft (s1013.ft f), this, by omega, fun x hx => by have := d3 x hx; omega⟩
      · rw [List.mem_singleton.mp hc]
        refine ⟨[0, b - 1], m14.ft ((s12.trans s13).ft e11), by show 2 ≤ 2; decide, by show 2 ≤ 100; decide, fun x hx => ?_⟩
        rcases List.mem_cons.mp hx with rfl | hx
        · omega
        · rw [List.mem_singleton.mp hx]; omega
    refine ⟨g, b, c, q0, rfl, m14.b, hq0.tr, q2, q100, by omega, by omega, qb, fun H15 p5 r' m15 hp5 e15 rl rb => ?_⟩
    have m1015 := ((m10.b.mv s1013).trans m14).trans m15
    have m15' : Mv g H H15 := m10.trans m1015
    have e10' : H15 t10 = some (.lst some_) := m1015.at e10 litn
    have bads' : ∀ v ∈ some_, PB g b rows H15 v := fun v hv => (bads v hv).mv m1015
    -- the bad thing
    refine ⟨fun σ H' => ∃ v, σ = [some (.ref g), some (.ref r), some (.int b), some (.ref l), some (.ref t10), some (.ref p5), some v, none, none, none] ∧ Mv g H H' ∧ PB g b rows H' v, ?_, ?_⟩
    · obtain ⟨dxr, rlr, rdr, hr0, _⟩ := id (m15'.rAt R).ob
      have lkI : (fR b rlr rdr).lookup ("is_run" : Str) = none := fR_no b rlr rdr (by decide +kernel) (by decide +kernel) (by decide +kernel)
      refine ⟨_, rfl, _, rfl, r, dxr, _, rfl, hr0, lkI, _, rfl, r, .ref p5, b, rows, _, rfl, m15'.rAt R, ok, .kd (.tup e15), fun hn => (by cases hn), fun c' xs ec hxs => ?_⟩
      cases ec
      obtain rfl : r'.map V.int = xs := by
        rcases hxs with h | ⟨o', h⟩
        · rw [e15] at h; cases h; rfl
        · rw [e15] at h; cases h
      refine ⟨by rw [List.length_map]; omega, fun y hy => ?_, fun H16 s16 => ⟨_, rfl, ?_⟩⟩
      · obtain ⟨i, _, rfl⟩ := List.mem_map.mp hy
        exact ⟨_, .int i⟩
      have m16 : Mv g H H16 := m15'.then s16
      cases hrn : rnv b rows (r'.map V.int) with
      | true =>
        refine iteT ⟨_, rfl, g, t10, some_, rfl, m16.b, s16 _ _ e10', litn, ?_, by omega, fun H17 v m17 hv => ⟨v, rfl, m16.trans m17, ((bads' v hv).same s16).mv m17⟩⟩
        intro z
        rw [z] at lit
        cases lit
      | false =>
        refine iteF ⟨_, rfl, _, rfl, by show 1 ≤ sizeLine; decide, fun a ha => ?_⟩
        have s17 : Same H16 (upd H16 a (.lst [.ref p5])) := L2.Same.new ha
        have e17 : (upd H16 a (.lst [.ref p5])) a = some (.lst [.ref p5]) := upd_same
        generalize upd H16 a (.lst [.ref p5]) = H17 at *
        refine ⟨a, 5, _, rfl, rfl, e17, by decide, by decide, by show 1 * 5 ≤ sizeLine; decide, fun a2 ha2 => ?_⟩
        have erep : (List.replicate (5 : Int).toNat ([V.ref p5] : List V)).flatten = [.ref p5, .ref p5, .ref p5, .ref p5, .ref p5] := rfl
        rw [erep]
        have s18 : Same H17 (upd H17 a2 (.lst [.ref p5, .ref p5, .ref p5, .ref p5, .ref p5])) := L2.Same.new ha2
        have e18 : (upd H17 a2 (.lst [.ref p5, .ref p5, .ref p5, .ref p5, .ref p5])) a2 = some (.lst [.ref p5, .ref p5, .ref p5, .ref p5, .ref p5]) := upd_same
        generalize upd H17 a2 (.lst [.ref p5, .ref p5, .ref p5, .ref p5, .ref p5]) = H18 at *
        have s1518 := (s16.trans s17).trans s18
        refine ⟨t10, a2, _, _, rfl, rfl, s1518 _ _ e10', e18, small (by rw [lit]; simp), fun a3 ha3 => ?_⟩
        have hall : ∀ v ∈ some_ ++ ([.ref p5, .ref p5, .ref p5, .ref p5, .ref p5] : List V), PB g b rows H15 v := by
          intro v hv
          rcases List.mem_append.mp hv with hv | hv
          · exact bads' v hv
          · have : v = .ref p5 := by simpa using hv
            rw [this]
            refine .tup e15 ?_ hrn (by rw [List.length_map]; exact rl)
            rw [List.all_map, List.all_eq_true]
            exact fun x hx => decide_eq_true (rb x hx)
        have lall : (some_ ++ ([.ref p5, .ref p5, .ref p5, .ref p5, .ref p5] : List V)).length = 16 := by rw [List.length_append, lit]; rfl
        generalize some_ ++ ([.ref p5, .ref p5, .ref p5, .ref p5, .ref p5] : List V) = all_ at *
        have s19 : Same H18 (upd H18 a3 (.lst all_)) := L2.Same.new ha3
        have e19 : (upd H18 a3 (.lst all_)) a3 = some (.lst all_) := upd_same
        generalize upd H18 a3 (.lst all_) = H19 at *
        have s1519 := s1518.trans s19
        have m19 : Mv g H H19 := m15'.then s1519
        refine ⟨g, a3, all_, rfl, m19.b, e19, fun d t z => ?_, ?_, by omega, fun H20 v m20 hv => ⟨v, rfl, m19.trans m20, ((hall v hv).same s1519).mv m20⟩⟩
        · injection z with z
          rw [z] at lall
          simp at lall
        · intro z
          rw [z] at lall
          cases lall
    · rintro σ H20 ⟨v, rfl, m20, hv⟩
      obtain ⟨ms, hms, hmf⟩ := m20.fl hl
      have lms : ms.length = rs.length := Paired.len hmf
      -- spoiled
      refine ⟨_, rfl, l, _, rfl, .inl (.inl (.inl hms)), fun p7 hp7 => ?_⟩
      have s21 : Same H20 (upd H20 p7 (.lst (ms.map V.ref))) := L2.Same.new hp7
      have e21 : (upd H20 p7 (.lst (ms.map V.ref))) p7 = some (.lst (ms.map V.ref)) := upd_same
      generalize upd H20 p7 (.lst (ms.map V.ref)) = H21 at *
      have m21 := m20.b.mv s21
      refine ⟨_, rfl, .inl ⟨rfl, _, .inl (.inl e21)⟩, _, rfl, _, rfl, l, _, rfl, .inl (.inl (.inl (s21 _ _ hms))), _, 1, rfl, rfl, g, _, rfl, m21.b, by omega, by rw [List.length_map]; omega, fun H22 k m22 k0 k1 => ⟨_, rfl, ?_⟩⟩
      rw [List.length_map] at k1
      have e22 := m22.at e21 (refs_ne ms)
      have m22' := m21.trans m22
      refine ⟨p7, _, k, v, rfl, rfl, e22, small (by rw [List.length_map]; omega), k0, by omega, ?_⟩
      have m23 : Mv g H20 (upd H22 p7 (.lst ((ms.map V.ref).take k.toNat ++ [v] ++ (ms.map V.ref).drop k.toNat))) := m22'.put hp7
      have e23 : (upd H22 p7 (.lst ((ms.map V.ref).take k.toNat ++ [v] ++ (ms.map V.ref).drop k.toNat))) p7 = some (.lst ((ms.map V.ref).take k.toNat ++ [v] ++ (ms.map V.ref).drop k.toNat)) := upd_same
      generalize upd H22 p7 (.lst ((ms.map V.ref).take k.toNat ++ [v] ++ (ms.map V.ref).drop k.toNat)) = H23 at *
      refine ⟨_, rfl, .inl ⟨rfl, _, .inl (.inl e23)⟩, p7, _, .non, rfl, rfl, e23, small (by simp only [List.length_append, List.length_take, List.length_drop, List.length_map, List.length_singleton]; omega), ?_⟩
      have eL : (ms.map V.ref).take k.toNat ++ [v] ++ (ms.map V.ref).drop k.toNat ++ [V.non] = (ms.take k.toNat).map V.ref ++ v :: ((ms.drop k.toNat).map V.ref ++ [V.non]) := by
        rw [List.map_take, List.map_drop]; simp
      rw [eL]
      have m24 : Mv g H20 (upd H23 p7 (.lst ((ms.take k.toNat).map V.ref ++ v :: ((ms.drop k.toNat).map V.ref ++ [V.non])))) := m23.put hp7
      have e24 : (upd H23 p7 (.lst ((ms.take k.toNat).map V.ref ++ v :: ((ms.drop k.toNat).map V.ref ++ [V.non])))) p7 = some (.lst ((ms.take k.toNat).map V.ref ++ v :: ((ms.drop k.toNat).map V.ref ++ [V.non]))) := upd_same
      generalize upd H23 p7 (.lst ((ms.take k.toNat).map V.ref ++ v :: ((ms.drop k.toNat).map V.ref ++ [V.non]))) = H24 at *
      have hf24 : FLs H24 ms rs := m24.fls hmf
      have hv24 : PB g b rows H24 v := hv.mv m24
      obtain ⟨dv, hdv, nv⟩ := hv24.dp (K := K)
      have hfT : FLs H24 (ms.take k.toNat) (rs.take k.toNat) := Paired.tk _ hf24
      have hfD : ∃ ks, FLs H24 (ms.drop k.toNat) ks ∧ (∀ x ∈ ks, x ∈ rs) ∧ ks.length ≤ 11 := by
        obtain ⟨ks, h1, h2⟩ := Paired.pick (H := H24) (rs := rs) (as := ms.drop k.toNat) fun a ha => fls_mem hf24 a (List.mem_of_mem_drop ha)
        exact ⟨ks, h1, h2, by rw [← Paired.len h1, List.length_drop]; omega⟩
      obtain ⟨ks, hks, hkm, hkl⟩ := hfD
      have hdp : ∀ {H' : Hp}, Same H24 H' → Dp K H' (.ref p7) (.list ((rs.take k.toNat).map tD ++ dv :: (ks.map tD ++ [PyData.none]))) := fun s => .lst (.inl (.inl (s _ _ e24))) (dpAll_app (hfT.same s).dp (.cons (hdv s) (dpAll_app (hks.same s).dp (.cons .non .nil))))
      have nq : ∀ q ∈ rs, Nice (tD q) := fun q hq => by
        obtain ⟨d1, d2, d3⟩ := hD.2 q hq
        exact nice_tD (fun x hx => by have := d3 x hx; omega) (by omega)
      have hRp : Rp (.list ((rs.take k.toNat).map tD ++ dv :: (ks.map tD ++ [PyData.none]))) := by
        refine nice_list (fun d hd => ?_) ?_
        · rcases List.mem_append.mp hd with hd | hd
          · obtain ⟨q, hq, rfl⟩ := List.mem_map.mp hd
            exact nq q (List.mem_of_mem_take hq)
          · rcases List.mem_cons.mp hd with rfl | hd
            · exact nv
            · rcases List.mem_append.mp hd with hd | hd
              · obtain ⟨q, hq, rfl⟩ := List.mem_map.mp hd
                exact nq q (hkm q hq)
              · rw [List.mem_singleton.mp hd]
                exact ⟨by decide +kernel, by decide +kernel, by decide +kernel, by decide +kernel, by decide +kernel⟩
        · have l1 := Paired.len hks
          rw [List.length_drop] at l1
          simp only [List.length_append, List.length_map, List.length_take, List.length_cons, List.length_nil]
          omega
      generalize PyData.list ((rs.take k.toNat).map tD ++ dv :: (ks.map tD ++ [PyData.none])) = D24 at *
      refine ⟨_, rfl, .ref p7, D24, rfl, hdp (Same.refl _), hRp.s, hRp.n, hRp.p, hRp.l, ?_⟩
      have m024 := m20.trans m24
      refine ⟨_, rfl, _, rfl, r, b, rows, p7, ms.take k.toNat, rs.take k.toNat, _, rfl, m024.rAt R, ok, nd, h120, e24, hfT, by rw [List.length_take]; omega, fun q hq => ?_, .inr ⟨v, _, rfl, hv24.bad, fun H25 d s25 hd => ⟨true, hex, fun _ a ha => ?_, fun h => (nomatch h)⟩⟩⟩
      · obtain ⟨d1, d2, _⟩ := hD.2 q (List.mem_of_mem_take hq)
        exact ⟨by omega, d2⟩
      · have nvr := nv.rp
        refine ⟨_, rfl, rfl, rfl, d, _, v, rfl, hd, rfl, v, dv, rfl, hdv s25, nvr.s, nvr.n, nvr.p, nvr.l, _, rfl, v, dv, rfl, hdv s25, nvr.s, nvr.n, nvr.p, nvr.l, rfl, _, rfl, ?_⟩
        rw [decide_eq_true rfl]
        refine iteT ⟨_, rfl, .ref p7, D24, rfl, hdp s25, hRp.s, hRp.n, hRp.p, hRp.l, _, rfl, rfl, ?_⟩
        rw [decide_eq_true rfl]
        exact q _ (m024.then s25)
end
end Yf
set_option Elab.async false
set_option linter.all false
set_option maxRecDepth 100000
set_option maxHeartbeats 1000000
/-! G25: many_right. -/
namespace Yf
open PySem PySem.Spec PyProof.Rows L2

theorem pi_tupK {X : Cx} {tg l : Expr} {tl : TE} (K : PySem.W.Frag) (h : X.K = K) (hl : PE X l tl) : PI X tg l (iTup K tl) := h ▸ pi_tup hl
theorem cat_jl {H : Hp} {a b : Addr} {js ks : List Jp} {Q : VK} (ha : JL H a js) (hb : JL H b ks) (hl : js.length + ks.length ≤ 100000) (q : ∀ (p : Addr) (H' : Hp), Same H H' → H p = none → JL H' p (js ++ ks) → Q (.ref p) H') : rCat (.ref a) (.ref b) H Q := by
  obtain ⟨cs, hcs, hpc⟩ := ha
  obtain ⟨ds, hds, hpd⟩ := hb
  refine ⟨a, b, _, _, rfl, rfl, hcs, hds, small' (by rw [List.length_map, List.length_map, Paired.len hpc, Paired.len hpd, List.length_map, List.length_map]; omega), fun p hp => ?_⟩
  have s := L2.Same.new (o := .lst (cs.map V.ref ++ ds.map V.ref)) hp
  refine q p _ s hp ⟨cs ++ ds, by rw [upd_same, List.map_append], ?_⟩
  rw [List.map_append]
  exact Paired.app (hpc.mono s.ts) (hpd.mono s.ts)
theorem cat_fl {H : Hp} {a b : Addr} {js ks : List (List Int)} {Q : VK} (ha : FL H a js) (hb : FL H b ks) (hl : js.length + ks.length ≤ 100000) (q : ∀ (p : Addr) (H' : Hp), Same H H' → H p = none → FL H' p (js ++ ks) → Q (.ref p) H') : rCat (.ref a) (.ref b) H Q := by
  obtain ⟨cs, hcs, hpc⟩ := ha
  obtain ⟨ds, hds, hpd⟩ := hb
  refine ⟨a, b, _, _, rfl, rfl, hcs, hds, small' (by rw [List.length_map, List.length_map, Paired.len hpc, Paired.len hpd]; omega), fun p hp => ?_⟩
  have s := L2.Same.new (o := .lst (cs.map V.ref ++ ds.map V.ref)) hp
  exact q p _ s hp ⟨cs ++ ds, by rw [upd_same, List.map_append], Paired.app (hpc.same s) (hpd.same s)⟩
/-- a routine is made -/
theorem mkR {CR l : Addr} {H : Hp} {b : Int} {js : List Jp} {Q : Addr → Hp → Prop} {E : XK} (b2 : 2 ≤ b) (b40 : b ≤ 40) (hl : JL H l js) (nd : js.Nodup) (ok : Okj b js) (h120 : js.length ≤ 120)
    (q : ∀ (x : Addr) (H' : Hp), Same H H' → H x = none → RAt CR H' x b (rowsM b js) → (rowsM b js).length ≤ 120 → Q x H') : ∀ x dx, H x = none → H dx = none → dx ≠ x → spRInit CR [.ref x, .int b, .ref l] (upd (upd H dx (.own x)) x (.ins CR dx [])) (fun v H2 => v = .non ∧ Q x H2) E := by
  intro x dx hx hdx ndx
  have s0 : Same H (upd (upd H dx (.own x)) x (.ins CR dx [])) := (L2.Same.new hdx).put hx
  refine ⟨x, dx, b, l, js, rfl, upd_same, b2, b40, hl.same s0, nd, ok, h120, fun H' qs hp hs R but => ⟨rfl, ?_⟩⟩
  have e := srt_rows ok nd hp hs
  subst e
  exact q x H' (fun c o e => but c o (s0 _ _ e) (fun z => by rw [z, hx] at e; cases e)) hx R (by rw [hp.length_eq]; exact h120)
/-- a part is made -/
theorem mkP {C CR l r : Addr} {H : Hp} {b : Int} {rows js : List Jp} {Q : Addr → Hp → Prop} {E : XK} (R : RAt CR H r b rows) (ok : Okj b rows) (nd : rows.Nodup) (h120 : rows.length ≤ 120) (hl : JL H l js) (hj : js.length ≤ 100000) (hin : ∀ j ∈ js, j ∈ rows)
    (q : ∀ (x : Addr) (H' : Hp), Same H H' → H x = none → PAt C CR H' x r b rows (rows.filter fun q => decide (q ∈ js)) → Q x H') : ∀ x dx, H x = none → H dx = none → dx ≠ x → spPInit C CR [.ref x, .ref r, .ref l] (upd (upd H dx (.own x)) x (.ins C dx [])) (fun v H2 => v = .non ∧ Q x H2) E := by
  intro x dx hx hdx ndx
  have s0 : Same H (upd (upd H dx (.own x)) x (.ins C dx [])) := (L2.Same.new hdx).put hx
  exact ⟨x, dx, r, b, rows, l, js, rfl, upd_same, R.same s0, ok, nd, h120, hl.same s0, hj, hin, fun H' P but => ⟨rfl, q x H' (fun c o e => but c o (s0 _ _ e) (fun z => by rw [z, hx] at e; cases e)) hx P⟩⟩
theorem clo {C CR CN r l : Addr} {H : Hp} {b : Int} {rows : List Jp} {runs : List (List Int)} {Q : VK} {E : XK} (R : RAt CR H r b rows) (ok : Okj b rows) (nd : rows.Nodup) (h120 : rows.length ≤ 120) (hl : FL H l runs) (h100 : runs.length ≤ 100)
    (hv : ∀ q ∈ runs, q.length ≤ 100 ∧ rnv b rows (q.map V.int) = true) (q : ∀ H' p, Same H H' → ClosedRes C CR H' p r b rows runs → Q (.ref p) H') : spClosed C CR CN [.ref r, .ref l] H Q E := by
  obtain ⟨as, has, hp⟩ := hl
  exact ⟨r, b, rows, l, as, runs, [], rfl, R, ok, nd, h120, by rw [List.append_nil]; exact has, hp, h100, hv, .inl ⟨rfl, q⟩⟩
def dOpen (f s : List Int) (x : Int) : PyData := .tuple [.str "open", tD f, tD s, .int x]
theorem ResOpen.dp {K : PySem.W.Frag} {H : Hp} {p : Addr} {f s : List Int} {x : Int} (h : ResOpen H p f s x) : Dp K H (.ref p) (dOpen f s x) := by
  obtain ⟨a, b, e, fa, fb⟩ := h
  exact .tup (.inl (.inl e)) (.cons (.str "open") (.cons fa.tr.dp (.cons fb.tr.dp (.cons (.int x) .nil))))
theorem ResOpen.same {H H' : Hp} {p : Addr} {f s : List Int} {x : Int} (h : ResOpen H p f s x) (ss : Same H H') : ResOpen H' p f s x := by
  obtain ⟨a, b, e, fa, fb⟩ := h
  exact ⟨a, b, ss _ _ e, ss.ft fa, ss.ft fb⟩
theorem dOpen_shaped (f s : List Int) (x : Int) : SeqAt.shaped (dOpen f s x) = true :=
  shaped_of (by simp [dOpen, PyData.canLay0, PyData.canLayAll0, tD_lay]; decide +kernel) (by simp [dOpen, PyData.depth, PyData.depthAll, tD_depth])
theorem dOpen_self (f s : List Int) (x : Int) : PyData.eqv (dOpen f s x) (dOpen f s x) = true := by
  unfold dOpen
  simp [PyData.eqv, PyData.eqvAll, eqv_tD]
theorem rnv_congr {b : Int} {js ks : List Jp} (h : ∀ p, p ∈ js ↔ p ∈ ks) (xs : List V) : rnv b js xs = rnv b ks xs := by
  have e : hasJ js = hasJ ks := by
    funext ys
    unfold hasJ
    split
    · exact decide_eq_decide.mpr (h _)
    · rfl
  unfold rnv
  rw [e]
/-- the given lists -/
def stK (u : Int) (k : Nat) : List Jp := ((List.range k).map fun i : Nat => (u, u + 1 + (i : Int))).filter fun j => decide (j.2 < 40)
theorem stK_more (u : Int) (k : Nat) : stK u (k + 1) = stK u k ++ if decide (u + 1 + (k : Int) < 40) = true then [(u, u + 1 + (k : Int))] else [] := by
  unfold stK
  rw [List.range_succ, List.map_append, List.filter_append, List.map_cons, List.map_nil, List.filter_cons, List.filter_nil]
theorem stK_len (u : Int) (k : Nat) : (stK u k).length ≤ k := by
  unfold stK
  exact Nat.le_trans (List.length_filter_le _ _) (by rw [List.length_map, List.length_range]; exact Nat.le_refl _)
def stN (n : Nat) : List Jp := (List.range n).flatMap fun u : Nat => stK (u : Int) 2
theorem stN_more (n : Nat) : stN (n + 1) = stN n ++ stK (n : Int) 2 := by
  unfold stN
  rw [List.range_succ, List.flatMap_append, List.flatMap_cons, List.flatMap_nil, List.append_nil]
theorem stN_len (n : Nat) : (stN n).length ≤ 2 * n := by
  induction n with
  | zero => exact Nat.le_refl _
  | succ n ih =>
    rw [stN_more, List.length_append]
    have := stK_len (n : Int) 2
    omega
theorem cut_take (as : List Addr) (n : Nat) (h : n ≤ as.length) : cutV (as.map V.ref) none (some (n : Int)) = (as.take n).map V.ref := by
  unfold cutV
  rw [HT.sIx_nat, HT.sIx_none, List.drop_zero, List.map_take, Nat.sub_zero, List.length_map, Nat.min_eq_left h]
def r40 : List Int := (List.range ((40 : Int) - 0).toNat).map fun i : Nat => (0 : Int) + (i : Nat)
def r20 : List Int := ((List.range 20).map fun k : Nat => (0 : Int) + (k : Int) * 2) ++ [39]
def r21 : List Int := [0] ++ (List.range 20).map fun k : Nat => (1 : Int) + (k : Int) * 2
theorem r40_rg : rgV 0 40 = r40.map V.int := by unfold rgV r40; rw [List.map_map]; rfl
theorem r20_st : stepV 0 2 20 ++ [V.int 39] = r20.map V.int := by unfold stepV r20; rw [List.map_append, List.map_map]; rfl
theorem r21_st : [V.int 0] ++ stepV 1 2 20 = r21.map V.int := by unfold stepV r21; rw [List.map_append, List.map_map]; rfl
theorem st_nd : (stN 39).Nodup := by decide +kernel
theorem st_ok : Okj 40 (stN 39) := by unfold Okj; decide +kernel
theorem st_len : (stN 39).length ≤ 120 := by decide +kernel
theorem st_rnv : ∀ q ∈ [r40, r20, r21], q.length ≤ 100 ∧ rnv 40 (stN 39) (q.map V.int) = true := by decide +kernel
theorem st_open : openF (firstsM [r40, r20, r21]) (firstsM [r40, r20, r21]) = some (r40, r20, 2) := by decide +kernel
def prU (u : Int) : List Jp := [(u, u + 2), (u, u + 3), (u + 1, u + 2), (u + 1, u + 3)]
def prN (n : Nat) : List Jp := [(0, 1), (0, 2), (7, 9), (8, 9)] ++ (([1, 3, 5] : List Int).take n).flatMap prU
theorem prN_more {n : Nat} {u : Int} (h : ([1, 3, 5] : List Int)[n]? = some u) : prN (n + 1) = prN n ++ prU u := by
  unfold prN
  rw [take_more h, List.flatMap_append, List.flatMap_cons, List.flatMap_nil, List.append_nil, List.append_assoc]
theorem prN_len (n : Nat) : (prN n).length ≤ 4 + 4 * n := by
  unfold prN
  have := flatMap_le (f := prU) (c := 4) (l := ([1, 3, 5] : List Int).take n) (fun x _ => Nat.le_refl 4)
  rw [List.length_take] at this
  rw [List.length_append]
  have h4 : ([(0, 1), (0, 2), (7, 9), (8, 9)] : List Jp).length = 4 := rfl
  rw [h4]
  omega
theorem pr_nd : (prN 3).Nodup := by decide +kernel
theorem pr_ok : Okj 10 (prN 3) := by unfold Okj; decide +kernel
def rs16 : List (List Int) := restsM (prN 3) 9 10 0
theorem rs_len : rs16.length = 16 := by decide +kernel
theorem rs_rnv : ∀ q ∈ rs16.take 15, q.length ≤ 100 ∧ rnv 10 (prN 3) (q.map V.int) = true := by decide +kernel
theorem rs_short : Shortly (rs16.take 15) := by unfold Shortly; decide +kernel
theorem rs_open : (openF (firstsM (rs16.take 15)) (firstsM (rs16.take 15))).isSome = true := by decide +kernel
def saU (u : Int) : List Jp := [(0, u), (u, 39)]
def saN (n : Nat) : List Jp := (List.range n).flatMap fun i : Nat => saU (1 + (i : Int))
theorem saN_more (n : Nat) : saN (n + 1) = saN n ++ saU (1 + (n : Int)) := by
  unfold saN
  rw [List.range_succ, List.flatMap_append, List.flatMap_cons, List.flatMap_nil, List.append_nil]
theorem saN_len (n : Nat) : (saN n).length ≤ 2 * n := by
  induction n with
  | zero => exact Nat.le_refl _
  | succ n ih =>
    rw [saN_more, List.length_append]
    have : (saU (1 + (n : Int))).length = 2 := rfl
    omega
theorem sa_nd : (saN 38).Nodup := by decide +kernel
theorem sa_ok : Okj 40 (saN 38) := by unfold Okj; decide +kernel
def srN (n : Nat) : List (List Int) := (List.range n).map fun i : Nat => [0, 1 + (i : Int), 39]
def sr40 : List (List Int) := srN 38 ++ [[0, 1, 39], [0, 38, 39]]
theorem sr_rnv : ∀ q ∈ sr40, q.length ≤ 100 ∧ rnv 40 (saN 38) (q.map V.int) = true := by decide +kernel
theorem sr_steps : ∀ j ∈ saN 38, j ∈ (firstsM sr40).flatMap stepsM := by decide +kernel
theorem sr_open : openF (firstsM sr40) (firstsM sr40) = none := by decide +kernel
end Yf
set_option Elab.async false
set_option linter.all false
set_option maxRecDepth 100000
set_option maxHeartbeats 1000000
/-! G26: many_right. -/
namespace Yf
open PySem PySem.Spec PyProof.Rows L2

def spMany : Sp := fun vs H Q _ => vs = [] ∧ ∀ H', Same H H' → Q (.bl true) H'
section
variable {P : Program} {w : World} {K : PySem.W.Frag} {mg : Str → Option Value} {base : Heap}
abbrev nMany : List Str := ["_law_steps_here", "_law_u", "_law_some", "_law_pairs", "_law_star", "_law_told", "_law_v"]
theorem scMany : FnScope nMany [] (defScope sMany) := ⟨rfl, rfl, rfl, by decide +kernel, rfl, by decide +kernel, by decide +kernel⟩
theorem ok_many {C CR CN f fI fP fC fS fD fE : Addr} {fd fdI fdP fdC fdS fdD fdE : FuncData} (D : Dn K mg "_law_many_right" sMany [] f fd) (T : RC K CR) (B : Bi mg)
    (GI : FnOk P w K mg base CX0 4 fI fdI ["self", "blocks", "jumps"] (spRInit CR)) (DI : Mn K CR "__init__" "Routine.__init__" mRInit ["self", "blocks", "jumps"] fI fdI) (MR : Mk K CR fI) (gR : mg "Routine" = some (.ref CR))
    (GP : FnOk P w K mg base CX0 5 fP fdP ["self", "routine", "jumps"] (spPInit C CR)) (DP : Mn K C "__init__" "Part.__init__" mPInit ["self", "routine", "jumps"] fP fdP) (MP : Mk K C fP) (gP : mg "Part" = some (.ref C))
    (GC : FnOk P w K mg base (L2.CX P w) 7 fC fdC ["routine", "runs"] (spClosed C CR CN)) (DC : Dn K mg "closed" sClosed ["routine", "runs"] fC fdC)
    (GS : FnOk P w K mg base CX0 11 fS fdS ["_law_block", "_law_last", "_law_jumps"] (spRests 10)) (DS : Dn K mg "_law_rests" sRests ["_law_block", "_law_last", "_law_jumps"] fS fdS)
    (GD : FnOk P w K mg base CX0 1 fD fdD ["_law_runs"] spDue) (DD : Dn K mg "_law_due" sDue ["_law_runs"] fD fdD)
    (GE : FnOk P w K mg base CX0 2 fE fdE ["self", "other"] (spPEq C CR)) (DE : Mn K C "__eq__" "Part.__eq__" mPEq ["self", "other"] fE fdE) :
    FnOk P w K mg base CX0 12 f fd [] spMany := by
  refine D.F.ok scMany (fun vs H Q E h => ?_) (fun cdv A outer s H vs Q E hr h => ?_)
  · obtain ⟨rfl, _⟩ := h
    rfl
  · obtain ⟨rfl, q⟩ := h
    have hu := hu_of hr
    have hr7 := hr.mono (show 7 ≤ 11 by decide)
    refine ⟨_, pss_cons (ps_set (i := 0) scMany.nd rfl (.inl rfl) (pe_lst pa_nil))
      (pss_cons (ps_for PassesOwn.never rfl (pi_range1 (by rfl) B.range (pa_cons pe_int pa_nil)) (pg_name (i := 1) scMany.nd rfl (.inr rfl))
        (pss_one (ps_set (i := 0) scMany.nd rfl (.inl rfl) (pe_op op_cat (pv 0) (pe_lc (own := [("_law_v", 6)]) (g := gName 6) rfl scMany.nd (pi_tup (pe_tup (pa_cons (pe_op op_add (pv 1) pe_int) (pa_cons (pe_op op_add (pv 1) pe_int) pa_nil)))) (blkOk_by (N := nMany) (sc := defScope sMany) (by decide +kernel))
          (fun _ _ _ _ _ => pg_name (i := 6) scMany.nd rfl (Or.inl rfl))
          (fun _ _ _ _ _ => pts_one (by exact (pt_cmpR op_lt (pv 6) pe_int (nomark _))))
          (fun _ _ _ _ _ => pe_tup (pa_cons (pv 1) (pa_cons (pv 6) pa_nil))))))))
      (pss_cons (ps_set (i := 2) scMany.nd rfl (.inl rfl) (pe_lst (pa_cons (pe_tupRgF (by rfl) (by rfl) B.tuple (prg_1 (by rfl) B.range pe_int)) (pa_cons (pe_op op_catF (pe_tupR3 (by rfl) (by rfl) B.tuple (by rfl) B.range (pa_cons pe_int (pa_cons pe_int (pa_cons pe_int pa_nil)))) (pe_tup (pa_cons pe_int pa_nil)))
          (pa_cons (pe_op op_catF (pe_tup (pa_cons pe_int pa_nil)) (pe_tupR3 (by rfl) (by rfl) B.tuple (by rfl) B.range (pa_cons pe_int (pa_cons pe_int (pa_cons pe_int pa_nil))))) pa_nil)))))
      (pss_cons (ps_if (pt_cmpR (op_neDK K rfl hr.units) (pe_call GC hr7 (by rfl) DC.g DC.F.kp DC.b .nil passL (pa_cons (pe_make MR GI (hr.mono (by decide)) (by rfl) gR DI.b .nil pass0 (pa_cons pe_int (pa_cons (pv 0) pa_nil))) (pa_cons (pv 2) pa_nil)))
          (pe_tup (pa_cons pe_str (pa_cons (pe_ix ix_list (pv 2) pe_int (fun _ _ => rfl)) (pa_cons (pe_ix ix_list (pv 2) pe_int (fun _ _ => rfl)) (pa_cons pe_int pa_nil))))) (by with_unfolding_all rfl)) (pss_one (ps_ret pe_bl)) pss_nil)
      (pss_cons (ps_set (i := 3) scMany.nd rfl (.inl rfl) (pe_lst (pa_cons (pe_tup (pa_cons pe_int (pa_cons pe_int pa_nil))) (pa_cons (pe_tup (pa_cons pe_int (pa_cons pe_int pa_nil))) (pa_cons (pe_tup (pa_cons pe_int (pa_cons pe_int pa_nil))) (pa_cons (pe_tup (pa_cons pe_int (pa_cons pe_int pa_nil))) pa_nil))))))
      (pss_cons (ps_for PassesOwn.never rfl (pi_tup (pe_tup (pa_cons pe_int (pa_cons pe_int (pa_cons pe_int pa_nil))))) (pg_name (i := 1) scMany.nd rfl (.inr rfl))
        (pss_one (ps_set (i := 3) scMany.nd rfl (.inl rfl) (pe_op op_cat (pv 3) (pe_lst (pa_cons (pe_tup (pa_cons (pv 1) (pa_cons (pe_op op_add (pv 1) pe_int) pa_nil))) (pa_cons (pe_tup (pa_cons (pv 1) (pa_cons (pe_op op_add (pv 1) pe_int) pa_nil)))
          (pa_cons (pe_tup (pa_cons (pe_op op_add (pv 1) pe_int) (pa_cons (pe_op op_add (pv 1) pe_int) pa_nil))) (pa_cons (pe_tup (pa_cons (pe_op op_add (pv 1) pe_int) (pa_cons (pe_op op_add (pv 1) pe_int) pa_nil))) pa_nil)))))))))
      (pss_cons (ps_set (i := 2) scMany.nd rfl (.inl rfl) (pe_call GS hr (by rfl) DS.g DS.F.kp DS.b .nil pass0 (pa_cons pe_int (pa_cons pe_int (pa_cons (pv 3) pa_nil)))))
      (pss_cons (ps_if (PW.pt (pw_or (pt_cmpR op_ne (pe_callB call_len_seq (by rfl) B.len PySem.boot_len (pa_cons (pv 2) pa_nil)) pe_int (nomark _))
          (pw_or1 (pt_cmpR (op_neDK K rfl hr.units) (pe_call GC hr7 (by rfl) DC.g DC.F.kp DC.b .nil passL (pa_cons (pe_make MR GI (hr.mono (by decide)) (by rfl) gR DI.b .nil pass0 (pa_cons pe_int (pa_cons (pv 3) pa_nil))) (pa_cons (pe_slice sl_list (pv 2) po_none (po_some pe_int)) pa_nil)))
            (pe_call GD (hr.mono (by decide)) (by rfl) DD.g DD.F.kp DD.b .nil pass0 (pa_cons (pe_slice sl_list (pv 2) po_none (po_some pe_int)) pa_nil)) (by with_unfolding_all rfl))))) (pss_one (ps_ret pe_bl)) pss_nil)
      (pss_cons (ps_set (i := 4) scMany.nd rfl (.inl rfl) (pe_lst pa_nil))
      (pss_cons (ps_for PassesOwn.never rfl (pi_range2 (by rfl) B.range (pa_cons pe_int (pa_cons pe_int pa_nil))) (pg_name (i := 1) scMany.nd rfl (.inr rfl))
        (pss_one (ps_set (i := 4) scMany.nd rfl (.inl rfl) (pe_op op_cat (pv 4) (pe_lst (pa_cons (pe_tup (pa_cons pe_int (pa_cons (pv 1) pa_nil))) (pa_cons (pe_tup (pa_cons (pv 1) (pa_cons pe_int pa_nil))) pa_nil)))))))
      (pss_cons (ps_set (i := 2) scMany.nd rfl (.inl rfl) (pe_op op_cat (pe_lc (own := [("_law_u", 1)]) (g := gName 1) rfl scMany.nd (pi_range2 (by rfl) B.range (pa_cons pe_int (pa_cons pe_int pa_nil))) (blkOk_by (N := nMany) (sc := defScope sMany) (by decide +kernel))
          (fun _ _ _ _ _ => pg_name (i := 1) scMany.nd rfl (Or.inl rfl)) (fun _ _ _ _ _ => pts_nil) (fun _ _ _ _ _ => by exact pe_tupF (pa_cons pe_int (pa_cons (pv 1) (pa_cons pe_int pa_nil)))))
          (pe_lst (pa_cons (pe_tupF (pa_cons pe_int (pa_cons pe_int (pa_cons pe_int pa_nil)))) (pa_cons (pe_tupF (pa_cons pe_int (pa_cons pe_int (pa_cons pe_int pa_nil)))) pa_nil)))))
      (pss_cons (ps_set (i := 5) scMany.nd rfl (.inl rfl) (pe_call GC hr7 (by rfl) DC.g DC.F.kp DC.b .nil passL (pa_cons (pe_make MR GI (hr.mono (by decide)) (by rfl) gR DI.b .nil pass0 (pa_cons pe_int (pa_cons (pv 4) pa_nil))) (pa_cons (pv 2) pa_nil))))
      (pss_one (ps_ret (pe_and (pe_cmpR op_eq (pe_ix ix_tup (pv 5) pe_int (fun _ _ => rfl)) pe_str (nomark _)) (pe_and (pe_cmpR (op_eqOwn DE.m GE (hr.mono (by decide)) DE.b pass0) (pe_ix ix_tup (pv 5) pe_int (fun _ _ => rfl))
          (pe_make MP GP (hr.mono (by decide)) (by rfl) gP DP.b .nil pass0 (pa_cons (pe_make MR GI (hr.mono (by decide)) (by rfl) gR DI.b .nil pass0 (pa_cons pe_int (pa_cons (pv 4) pa_nil))) (pa_cons (pv 4) pa_nil))) (nomark _))
          (pe_one (pe_cmpR op_eq (pe_callB call_len_seq (by rfl) B.len PySem.boot_len (pa_cons (pv 2) pa_nil)) pe_int (nomark _)))))))))))))))))), ?_⟩
    refine ⟨Nat.zero_le _, fun p0 hp0 => ⟨39, rfl, by decide, by decide, for_it (walk_range (lo := 0) (n := (39 : Int).toNat)) (fun i σ H2 => ∃ (p : Addr) (v1 : Option V), σ = [some (.ref p), v1, none, none, none, none, none] ∧ Same H H2 ∧ H p = none ∧ JL H2 p (stN i))
      ⟨p0, none, rfl, L2.Same.new hp0, hp0, [], upd_same, .nil⟩ (fun _ _ _ _ _ => trivial) ?_ ?_⟩⟩
    · rintro i x σ H2 H3 hi ⟨p, v1, rfl, s2, hp, hJ⟩ ⟨rfl, hx⟩
      have e0 : (0 : Int) + (i : Nat) = (i : Int) := by omega
      obtain rfl : x = V.int (i : Int) := by rw [hx]; show V.int (0 + (i : Nat)) = _; rw [e0]
      have hi : i < 39 := hi
      refine ⟨_, rfl, _, rfl, (i : Int), 1, rfl, rfl, _, rfl, (i : Int), 2, rfl, rfl, by show 2 ≤ sizeLine; decide, fun t ht => ?_⟩
      have s3 : Same H3 (upd H3 t (.tup [.int ((i : Int) + 1), .int ((i : Int) + 2)])) := L2.Same.new ht
      have e3 : (upd H3 t (.tup [.int ((i : Int) + 1), .int ((i : Int) + 2)])) t = some (.tup [.int ((i : Int) + 1), .int ((i : Int) + 2)]) := upd_same
      generalize upd H3 t (.tup [.int ((i : Int) + 1), .int ((i : Int) + 2)]) = H4 at *
      refine ⟨t, rfl, ⟨_, .inl (.inl e3)⟩, fun L hL => ?_⟩
      refine lc_it (walk_tup (xs := [.int ((i : Int) + 1), .int ((i : Int) + 2)])) (fun k H5 => Same H4 H5 ∧ JL H5 L (stK (i : Int) k)) ⟨L2.Same.new hL, [], upd_same, .nil⟩ (fun k H5 _ hh => .inl (.inl (hh.1 _ _ e3))) ?_ ?_
      · rintro k y H5 H6 hk ⟨s5, bs, hbs, hpb⟩ ⟨rfl, hy⟩
        obtain rfl : y = V.int ((i : Int) + 1 + (k : Nat)) := by
          match k, hk, hy with
          | 0, _, hy => rw [← Option.some.inj hy]; show V.int ((i : Int) + 1) = V.int ((i : Int) + 1 + ((0 : Nat) : Int)); congr 1
          | 1, _, hy => rw [← Option.some.inj hy]; show V.int ((i : Int) + 2) = V.int ((i : Int) + 1 + ((1 : Nat) : Int)); congr 1
        refine ⟨rfl, _, rfl, _, 40, rfl, rfl, _, rfl, ?_⟩
        rw [stK_more]
        cases hm : decide ((i : Int) + 1 + (k : Int) < 40) with
        | false =>
          refine iteF ⟨s5, bs, hbs, ?_⟩
          rw [if_neg Bool.false_ne_true, List.append_nil]
          exact hpb
        | true =>
          refine iteT ?_
          refine ⟨_, rfl, _, rfl, by show 2 ≤ sizeLine; decide, fun t2 ht2 => ?_⟩
          have s7 : Same H6 (upd H6 t2 (.tup [.int (i : Int), .int ((i : Int) + 1 + (k : Nat))])) := L2.Same.new ht2
          have hb7 := s7 _ _ hbs
          refine ⟨_, hb7, small ?_, Same.put (s5.trans s7) hL, ?_⟩
          · rw [List.length_map, Paired.len hpb, List.length_map]
            have := stK_len (i : Int) k
            have hk2 : k < 2 := hk
            omega
          · rw [if_pos rfl]
            exact jl_push hb7 (hpb.mono s7.ts) (j := ((i : Int), (i : Int) + 1 + (k : Nat))) upd_same
      · rintro H5 ⟨s5, hJ5⟩
        have s25 := (s2.trans s3).trans s5
        refine cat_jl (hJ.same (s3.trans s5)) hJ5 ?_ fun p2 H6 s6 hp2 hJ6 => ?_
        · have h1 := stN_len i
          have h2 := stK_len (i : Int) 2
          have h3 : (stK (i : Int) [V.int ((i : Int) + 1), V.int ((i : Int) + 2)].length).length ≤ 2 := h2
          omega
        · exact ⟨p2, _, rfl, s25.trans s6, Same.free s25 hp2, by rw [stN_more]; exact hJ6⟩
    rintro σ H2 ⟨p, v1, rfl, s2, hp, hJ⟩
    have hJ : JL H2 p (stN 39) := hJ
    refine ⟨40, rfl, RgOk.of_le (by decide) (by decide) (by decide) (by decide), fun q1 o1 hq1 ho1 => ?_⟩
    have s3 : Same H2 (upd H2 q1 (.frz o1 (.tup (rgV 0 40)))) := L2.Same.new hq1
    have f3 : FT (upd H2 q1 (.frz o1 (.tup (rgV 0 40)))) q1 r40 := ⟨o1, by rw [upd_same, r40_rg], ho1⟩
    generalize upd H2 q1 (.frz o1 (.tup (rgV 0 40))) = H3 at *
    refine ⟨0, 39, 2, 20, rfl, ⟨by decide, by decide, by decide +kernel, by decide +kernel⟩, by decide, fun q2 hq2 => ⟨by show 1 ≤ sizeLine; decide, fun t2 ht2 => ?_⟩⟩
    have s4 : Same H3 (upd H3 q2 (.tup (stepV 0 2 20))) := L2.Same.new hq2
    have e4 : (upd H3 q2 (.tup (stepV 0 2 20))) q2 = some (.tup (stepV 0 2 20)) := upd_same
    generalize upd H3 q2 (.tup (stepV 0 2 20)) = H4 at *
    have s5 : Same H4 (upd H4 t2 (.tup [.int 39])) := L2.Same.new ht2
    have e5 : (upd H4 t2 (.tup [.int 39])) t2 = some (.tup [.int 39]) := upd_same
    generalize upd H4 t2 (.tup [.int 39]) = H5 at *
    have l20 : (stepV 0 2 20).length = 20 := rfl
    refine ⟨q2, t2, _, _, rfl, rfl, .inl (.inl (s5 _ _ e4)), .inl (.inl e5), fun z => (by rw [z] at l20; cases l20), fun z => (by cases z), by rw [l20]; show 21 ≤ sizeLine; decide, fun q3 o3 hq3 ho3 => ?_⟩
    have s6 : Same H5 (upd H5 q3 (.frz o3 (.tup (stepV 0 2 20 ++ [.int 39])))) := L2.Same.new hq3
    have f6 : FT (upd H5 q3 (.frz o3 (.tup (stepV 0 2 20 ++ [.int 39])))) q3 r20 := ⟨o3, by rw [upd_same, r20_st], ho3⟩
    generalize upd H5 q3 (.frz o3 (.tup (stepV 0 2 20 ++ [.int 39]))) = H6 at *
    refine ⟨by show 1 ≤ sizeLine; decide, fun t3 ht3 => ⟨1, 40, 2, 20, rfl, ⟨by decide, by decide, by decide +kernel, by decide +kernel⟩, by decide, fun q4 hq4 => ?_⟩⟩
    have s7 : Same H6 (upd H6 t3 (.tup [.int 0])) := L2.Same.new ht3
    have e7 : (upd H6 t3 (.tup [.int 0])) t3 = some (.tup [.int 0]) := upd_same
    generalize upd H6 t3 (.tup [.int 0]) = H7 at *
    have s8 : Same H7 (upd H7 q4 (.tup (stepV 1 2 20))) := L2.Same.new hq4
    have e8 : (upd H7 q4 (.tup (stepV 1 2 20))) q4 = some (.tup (stepV 1 2 20)) := upd_same
    generalize upd H7 q4 (.tup (stepV 1 2 20)) = H8 at *
    have l21 : (stepV 1 2 20).length = 20 := rfl
    refine ⟨t3, q4, _, _, rfl, rfl, .inl (.inl (s8 _ _ e7)), .inl (.inl e8), fun z => (by cases z), fun z => (by rw [z] at l21; cases l21), by rw [l21]; show 21 ≤ sizeLine; decide, fun q5 o5 hq5 ho5 => ?_⟩
    have s9 : Same H8 (upd H8 q5 (.frz o5 (.tup ([.int 0] ++ stepV 1 2 20)))) := L2.Same.new hq5
    have f9 : FT (upd H8 q5 (.frz o5 (.tup ([.int 0] ++ stepV 1 2 20)))) q5 r21 := ⟨o5, by rw [upd_same, r21_st], ho5⟩
    generalize upd H8 q5 (.frz o5 (.tup ([.int 0] ++ stepV 1 2 20))) = H9 at *
    refine ⟨by show 3 ≤ sizeLine; decide, fun p2 hp2 => ?_⟩
    have s69 := (s7.trans s8).trans s9
    have s39 := ((s4.trans s5).trans s6).trans s69
    have s10 : Same H9 (upd H9 p2 (.lst [.ref q1, .ref q3, .ref q5])) := L2.Same.new hp2
    have hF10 : FL (upd H9 p2 (.lst [.ref q1, .ref q3, .ref q5])) p2 [r40, r20, r21] := ⟨[q1, q3, q5], upd_same, .cons ((s39.trans s10).ft f3) (.cons ((s69.trans s10).ft f6) (.cons (s10.ft f9) .nil))⟩
    have e10 : (upd H9 p2 (.lst [.ref q1, .ref q3, .ref q5])) p2 = some (.lst [.ref q1, .ref q3, .ref q5]) := upd_same
    have f31 := (s39.trans s10).ft f3
    have f61 := (s69.trans s10).ft f6
    generalize upd H9 p2 (.lst [.ref q1, .ref q3, .ref q5]) = H10 at *
    have s0 : Same H H10 := ((s2.trans s3).trans s39).trans s10
    have hJ10 : JL H10 p (stN 39) := hJ.same ((s3.trans s39).trans s10)
    -- the first closed
    refine ⟨_, rfl, mkR (by decide) (by decide) hJ10 st_nd st_ok st_len fun x H11 s11 hx R11 hl11 => ?_⟩
    obtain ⟨as11, has11, hp11⟩ := hF10.same s11
    refine ⟨_, rfl, x, 40, _, p2, as11, _, [], rfl, R11, rowsM_ok st_ok, rowsM_nodup _ _, hl11, by rw [List.append_nil]; exact has11, hp11, by show 3 ≤ 100; decide, fun q hq => ?_, .inl ⟨rfl, fun H12 p3 s12 hcr => ?_⟩⟩
    · obtain ⟨a1, a2⟩ := st_rnv q hq
      exact ⟨a1, by rw [rnv_congr (rowsM_mem st_ok)]; exact a2⟩
    have hro : ResOpen H12 p3 r40 r20 2 := by
      unfold ClosedRes at hcr
      rw [st_open] at hcr
      exact hcr
    have s1012 := s11.trans s12
    have e12 := s1012 _ _ e10
    refine ⟨_, rfl, p2, _, 0, .ref q1, rfl, rfl, .inl (.inl e12), rfl, _, rfl, p2, _, 1, .ref q3, rfl, rfl, .inl (.inl e12), rfl, by show 4 ≤ sizeLine; decide, fun t4 ht4 => ?_⟩
    have s13 : Same H12 (upd H12 t4 (.tup [.str "open", .ref q1, .ref q3, .int 2])) := L2.Same.new ht4
    have hro2 : ResOpen (upd H12 t4 (.tup [.str "open", .ref q1, .ref q3, .int 2])) t4 r40 r20 2 := ⟨q1, q3, upd_same, (s1012.trans s13).ft f31, (s1012.trans s13).ft f61⟩
    generalize upd H12 t4 (.tup [.str "open", .ref q1, .ref q3, .int 2]) = H13 at *
    refine ⟨_, _, (hro.same s13).dp, hro2.dp, dOpen_shaped _ _ _, dOpen_shaped _ _ _, _, rfl, ?_⟩
    rw [dOpen_self]
    refine iteF ?_
    have s013 : Same H H13 := (s0.trans s1012).trans s13
    -- the pairs
    refine ⟨by show 2 ≤ sizeLine; decide, fun t5 ht5 => ?_⟩
    have s14 : Same H13 (upd H13 t5 (.tup [.int 0, .int 1])) := L2.Same.new ht5
    have e14 : Tu (upd H13 t5 (.tup [.int 0, .int 1])) t5 (jl (0, 1)) := upd_same
    generalize upd H13 t5 (.tup [.int 0, .int 1]) = H14 at *
    refine ⟨by show 2 ≤ sizeLine; decide, fun t6 ht6 => ?_⟩
    have s15 : Same H14 (upd H14 t6 (.tup [.int 0, .int 2])) := L2.Same.new ht6
    have e15 : Tu (upd H14 t6 (.tup [.int 0, .int 2])) t6 (jl (0, 2)) := upd_same
    generalize upd H14 t6 (.tup [.int 0, .int 2]) = H15 at *
    refine ⟨by show 2 ≤ sizeLine; decide, fun t7 ht7 => ?_⟩
    have s16 : Same H15 (upd H15 t7 (.tup [.int 7, .int 9])) := L2.Same.new ht7
    have e16 : Tu (upd H15 t7 (.tup [.int 7, .int 9])) t7 (jl (7, 9)) := upd_same
    generalize upd H15 t7 (.tup [.int 7, .int 9]) = H16 at *
    refine ⟨by show 2 ≤ sizeLine; decide, fun t8 ht8 => ?_⟩
    have s17 : Same H16 (upd H16 t8 (.tup [.int 8, .int 9])) := L2.Same.new ht8
    have e17 : Tu (upd H16 t8 (.tup [.int 8, .int 9])) t8 (jl (8, 9)) := upd_same
    generalize upd H16 t8 (.tup [.int 8, .int 9]) = H17 at *
    refine ⟨by show 4 ≤ sizeLine; decide, fun p4 hp4 => ?_⟩
    have s18 : Same H17 (upd H17 p4 (.lst [.ref t5, .ref t6, .ref t7, .ref t8])) := L2.Same.new hp4
    have hJ18 : JL (upd H17 p4 (.lst [.ref t5, .ref t6, .ref t7, .ref t8])) p4 (prN 0) := ⟨[t5, t6, t7, t8], upd_same, .cons ((((s15.trans s16).trans s17).trans s18).ts _ _ e14) (.cons (((s16.trans s17).trans s18).ts _ _ e15) (.cons ((s17.trans s18).ts _ _ e16) (.cons (s18.ts _ _ e17) .nil)))⟩
    generalize upd H17 p4 (.lst [.ref t5, .ref t6, .ref t7, .ref t8]) = H18 at *
    have s018 : Same H H18 := s013.trans ((((s14.trans s15).trans s16).trans s17).trans s18)
    refine ⟨by show 3 ≤ sizeLine; decide, fun t9 ht9 => ?_⟩
    have s19 : Same H18 (upd H18 t9 (.tup [.int 1, .int 3, .int 5])) := L2.Same.new ht9
    have e19 : (upd H18 t9 (.tup [.int 1, .int 3, .int 5])) t9 = some (.tup [.int 1, .int 3, .int 5]) := upd_same
    generalize upd H18 t9 (.tup [.int 1, .int 3, .int 5]) = H19 at *
    refine ⟨t9, rfl, ⟨_, .inl (.inl e19)⟩, for_it (walk_tup (xs := ([1, 3, 5] : List Int).map V.int)) (fun i σ H2 => ∃ (p4 : Addr) (v1 : Option V), σ = [some (.ref p), v1, some (.ref p2), some (.ref p4), none, none, none] ∧ Same H19 H2 ∧ JL H2 p4 (prN i))
      ⟨p4, v1, rfl, Same.refl _, hJ18.same s19⟩ (fun i σ H2 _ ⟨_, _, _, s2, _⟩ => .inl (.inl (s2 _ _ e19))) ?_ ?_⟩
    · rintro i x' σ H20 H21 hi ⟨p4', v1', rfl, s20, hJ20⟩ ⟨rfl, hx'⟩
      obtain ⟨u, hu', rfl⟩ := map_at hx'
      refine ⟨_, rfl, _, rfl, _, rfl, u, 2, rfl, rfl, by show 2 ≤ sizeLine; decide, fun a1 ha1 => ?_⟩
      have r1 : Same H21 (upd H21 a1 (.tup [.int u, .int (u + 2)])) := L2.Same.new ha1
      have g1 : Tu (upd H21 a1 (.tup [.int u, .int (u + 2)])) a1 (jl (u, u + 2)) := upd_same
      generalize upd H21 a1 (.tup [.int u, .int (u + 2)]) = K1 at *
      refine ⟨_, rfl, _, rfl, u, 3, rfl, rfl, by show 2 ≤ sizeLine; decide, fun a2 ha2 => ?_⟩
      have r2 : Same K1 (upd K1 a2 (.tup [.int u, .int (u + 3)])) := L2.Same.new ha2
      have g2 : Tu (upd K1 a2 (.tup [.int u, .int (u + 3)])) a2 (jl (u, u + 3)) := upd_same
      generalize upd K1 a2 (.tup [.int u, .int (u + 3)]) = K2 at *
      refine ⟨_, rfl, u, 1, rfl, rfl, _, rfl, u, 2, rfl, rfl, by show 2 ≤ sizeLine; decide, fun a3 ha3 => ?_⟩
      have r3 : Same K2 (upd K2 a3 (.tup [.int (u + 1), .int (u + 2)])) := L2.Same.new ha3
      have g3 : Tu (upd K2 a3 (.tup [.int (u + 1), .int (u + 2)])) a3 (jl (u + 1, u + 2)) := upd_same
      generalize upd K2 a3 (.tup [.int (u + 1), .int (u + 2)]) = K3 at *
      refine ⟨_, rfl, u, 1, rfl, rfl, _, rfl, u, 3, rfl, rfl, by show 2 ≤ sizeLine; decide, fun a4 ha4 => ?_⟩
      have r4 : Same K3 (upd K3 a4 (.tup [.int (u + 1), .int (u + 3)])) := L2.Same.new ha4
      have g4 : Tu (upd K3 a4 (.tup [.int (u + 1), .int (u + 3)])) a4 (jl (u + 1, u + 3)) := upd_same
      generalize upd K3 a4 (.tup [.int (u + 1), .int (u + 3)]) = K4 at *
      refine ⟨by show 4 ≤ sizeLine; decide, fun a5 ha5 => ?_⟩
      have r5 : Same K4 (upd K4 a5 (.lst [.ref a1, .ref a2, .ref a3, .ref a4])) := L2.Same.new ha5
      have hJ5 : JL (upd K4 a5 (.lst [.ref a1, .ref a2, .ref a3, .ref a4])) a5 (prU u) := ⟨[a1, a2, a3, a4], upd_same, .cons ((((r2.trans r3).trans r4).trans r5).ts _ _ g1) (.cons (((r3.trans r4).trans r5).ts _ _ g2) (.cons ((r4.trans r5).ts _ _ g3) (.cons (r5.ts _ _ g4) .nil)))⟩
      generalize upd K4 a5 (.lst [.ref a1, .ref a2, .ref a3, .ref a4]) = K5 at *
      have r15 := (((r1.trans r2).trans r3).trans r4).trans r5
      refine cat_jl (hJ20.same r15) hJ5 ?_ fun p5 H22 s22 hp5 hJ22 => ⟨p5, _, rfl, (s20.trans r15).trans s22, by rw [prN_more hu']; exact hJ22⟩
      have h1 := prN_len i
      have h2 : (prU u).length = 4 := rfl
      have h3 : i < 3 := hi
      omega
    rintro σ H20 ⟨p5, v2, rfl, s20, hJ20⟩
    have hJ20 : JL H20 p5 (prN 3) := hJ20
    have s020 : Same H H20 := s018.trans (s19.trans s20)
    refine ⟨_, rfl, by decide, 0, 9, p5, prN 3, rfl, hJ20, Nat.le_trans (prN_len 3) (by decide), by decide, by decide, by decide, by decide, by decide, by decide, fun H21 p6 s21 hp6 hF21 => ?_⟩
    have hF21 : FL H21 p6 rs16 := hF21
    have hrl : rs16.length = 16 := rs_len
    have hrr := rs_rnv
    have hrsh := rs_short
    obtain ⟨⟨f1, f2, fx⟩, hop⟩ := Option.isSome_iff_exists.mp rs_open
    generalize rs16 = rs at *
    obtain ⟨as, has, hfs⟩ := id hF21
    have las : as.length = 16 := by rw [Paired.len hfs]; exact hrl
    have e16l : (!decide (V.int (((as.map V.ref).length : Nat) : Int) = V.int 16)) = false := by rw [List.length_map, las]; decide
    refine ⟨_, rfl, p6, _, rfl, .inl (.inl (.inl has)), rfl, _, rfl, ?_⟩
    rw [e16l]
    refine iteF ?_
    have hJ21 := hJ20.same s21
    refine ⟨_, rfl, mkR (by decide) (by decide) hJ21 pr_nd pr_ok (Nat.le_trans (prN_len 3) (by decide)) fun x2 H22 s22 hx2 R22 hl22 => ?_⟩
    have has22 := s22 _ _ has
    refine ⟨_, rfl, _, rfl, p6, _, rfl, .inl (.inl has22), fun p7 hp7 => ?_⟩
    have ecut : cutV (as.map V.ref) none (some 15) = (as.take 15).map V.ref := cut_take as 15 (by omega)
    rw [ecut]
    have s23 : Same H22 (upd H22 p7 (.lst ((as.take 15).map V.ref))) := L2.Same.new hp7
    have e23 : (upd H22 p7 (.lst ((as.take 15).map V.ref))) p7 = some (.lst ((as.take 15).map V.ref)) := upd_same
    generalize upd H22 p7 (.lst ((as.take 15).map V.ref)) = H23 at *
    have ht23 : FLs H23 (as.take 15) (rs.take 15) := Paired.tk _ (hfs.same (s22.trans s23))
    refine ⟨x2, 10, _, p7, as.take 15, _, [], rfl, R22.same s23, rowsM_ok pr_ok, rowsM_nodup _ _, hl22, by rw [List.append_nil]; exact e23, ht23, by rw [List.length_take]; omega, fun q hq => ?_, .inl ⟨rfl, fun H24 p8 s24 hcr => ?_⟩⟩
    · obtain ⟨a1, a2⟩ := hrr q hq
      exact ⟨a1, by rw [rnv_congr (rowsM_mem pr_ok)]; exact a2⟩
    have hro3 : ResOpen H24 p8 f1 f2 fx := by
      unfold ClosedRes at hcr
      rw [hop] at hcr
      exact hcr
    have s2224 := s22.trans (s23.trans s24)
    refine ⟨_, rfl, _, rfl, p6, _, rfl, .inl (.inl (s2224 _ _ has)), fun p9 hp9 => ?_⟩
    rw [ecut]
    have s25 : Same H24 (upd H24 p9 (.lst ((as.take 15).map V.ref))) := L2.Same.new hp9
    have e25 : (upd H24 p9 (.lst ((as.take 15).map V.ref))) p9 = some (.lst ((as.take 15).map V.ref)) := upd_same
    generalize upd H24 p9 (.lst ((as.take 15).map V.ref)) = H25 at *
    refine ⟨p9, _, rfl, ⟨as.take 15, e25, Paired.tk _ (hfs.same (s2224.trans s25))⟩, hrsh, fun g1 g2 gx hog H26 p10 s26 hro4 => ?_, fun hn => (by rw [hop] at hn; cases hn)⟩
    rw [hop] at hog
    cases hog
    refine ⟨_, _, (hro3.same (s25.trans s26)).dp, hro4.dp, dOpen_shaped _ _ _, dOpen_shaped _ _ _, _, rfl, ?_⟩
    rw [dOpen_self]
    refine iteF ?_
    have s026 : Same H H26 := (s020.trans s21).trans (s2224.trans (s25.trans s26))
    -- the star
    refine ⟨Nat.zero_le _, fun pS hpS => ⟨_, _, rfl, by decide, for_it (walk_range (lo := 1) (n := ((39 : Int) - 1).toNat)) (fun i σ H2 => ∃ (pS : Addr) (v1 : Option V), σ = [some (.ref p), v1, some (.ref p6), some (.ref p5), some (.ref pS), none, none] ∧ Same H26 H2 ∧ JL H2 pS (saN i))
      ⟨pS, v2, rfl, L2.Same.new hpS, [], upd_same, .nil⟩ (fun _ _ _ _ _ => trivial) ?_ ?_⟩⟩
    · rintro i x' σ H27 H28 hi ⟨pS', v1', rfl, s27, hJ27⟩ ⟨rfl, rfl⟩
      refine ⟨_, rfl, _, rfl, by show 2 ≤ sizeLine; decide, fun a1 ha1 => ?_⟩
      have r1 : Same H28 (upd H28 a1 (.tup [.int 0, .int (1 + (i : Nat))])) := L2.Same.new ha1
      have g1 : Tu (upd H28 a1 (.tup [.int 0, .int (1 + (i : Nat))])) a1 (jl (0, 1 + (i : Int))) := upd_same
      generalize upd H28 a1 (.tup [.int 0, .int (1 + (i : Nat))]) = K1 at *
      refine ⟨_, rfl, by show 2 ≤ sizeLine; decide, fun a2 ha2 => ?_⟩
      have r2 : Same K1 (upd K1 a2 (.tup [.int (1 + (i : Nat)), .int 39])) := L2.Same.new ha2
      have g2 : Tu (upd K1 a2 (.tup [.int (1 + (i : Nat)), .int 39])) a2 (jl (1 + (i : Int), 39)) := upd_same
      generalize upd K1 a2 (.tup [.int (1 + (i : Nat)), .int 39]) = K2 at *
      refine ⟨by show 2 ≤ sizeLine; decide, fun a5 ha5 => ?_⟩
      have r5 : Same K2 (upd K2 a5 (.lst [.ref a1, .ref a2])) := L2.Same.new ha5
      have hJ5 : JL (upd K2 a5 (.lst [.ref a1, .ref a2])) a5 (saU (1 + (i : Int))) := ⟨[a1, a2], upd_same, .cons ((r2.trans r5).ts _ _ g1) (.cons (r5.ts _ _ g2) .nil)⟩
      generalize upd K2 a5 (.lst [.ref a1, .ref a2]) = K5 at *
      have r15 := (r1.trans r2).trans r5
      refine cat_jl (hJ27.same r15) hJ5 ?_ fun p5 H22 s22 hp5 hJ22 => ⟨p5, _, rfl, (s27.trans r15).trans s22, by rw [saN_more]; exact hJ22⟩
      have h1 := saN_len i
      have h2 : (saU (1 + (i : Int))).length = 2 := rfl
      have h3 : i < 38 := hi
      omega
    rintro σ H27 ⟨pS', v3, rfl, s27, hJ27⟩
    have hJ27 : JL H27 pS' (saN 38) := hJ27
    refine ⟨_, _, rfl, by decide, fun L hL => ?_⟩
    refine lc_it (walk_range (lo := 1) (n := ((39 : Int) - 1).toNat)) (fun k H28 => Same H27 H28 ∧ FL H28 L (srN k)) ⟨L2.Same.new hL, [], upd_same, .nil⟩ (fun _ _ _ _ => trivial) ?_ ?_
    · rintro k y H28 H29 hk ⟨s28, bs, hbs, hpb⟩ ⟨rfl, rfl⟩
      refine ⟨rfl, _, rfl, by show 3 ≤ sizeLine; decide, fun t o ht ho => ?_⟩
      have r1 : Same H29 (upd H29 t (.frz o (.tup [.int 0, .int (1 + (k : Nat)), .int 39]))) := L2.Same.new ht
      have g1 : FT (upd H29 t (.frz o (.tup [.int 0, .int (1 + (k : Nat)), .int 39]))) t [0, 1 + (k : Int), 39] := ⟨o, upd_same, ho⟩
      generalize upd H29 t (.frz o (.tup [.int 0, .int (1 + (k : Nat)), .int 39])) = K1 at *
      have hb1 := r1 _ _ hbs
      have hk : k < 38 := hk
      refine ⟨_, hb1, small ?_, Same.put (s28.trans r1) hL, ?_⟩
      · rw [List.length_map, Paired.len hpb]
        unfold srN
        rw [List.length_map, List.length_range]
        omega
      · have esr : srN (k + 1) = srN k ++ [[0, 1 + (k : Int), 39]] := by unfold srN; rw [List.range_succ, List.map_append]; rfl
        rw [esr]
        exact fl_push hb1 (hpb.same r1) g1
    rintro H28 ⟨s28, hF28⟩
    have hF28 : FL H28 L (srN 38) := hF28
    refine ⟨by show 3 ≤ sizeLine; decide, fun a1 o1 ha1 ho1 => ?_⟩
    have r1 : Same H28 (upd H28 a1 (.frz o1 (.tup [.int 0, .int 1, .int 39]))) := L2.Same.new ha1
    have g1 : FT (upd H28 a1 (.frz o1 (.tup [.int 0, .int 1, .int 39]))) a1 [0, 1, 39] := ⟨o1, upd_same, ho1⟩
    generalize upd H28 a1 (.frz o1 (.tup [.int 0, .int 1, .int 39])) = K1 at *
    refine ⟨by show 3 ≤ sizeLine; decide, fun a2 o2 ha2 ho2 => ?_⟩
    have r2 : Same K1 (upd K1 a2 (.frz o2 (.tup [.int 0, .int 38, .int 39]))) := L2.Same.new ha2
    have g2 : FT (upd K1 a2 (.frz o2 (.tup [.int 0, .int 38, .int 39]))) a2 [0, 38, 39] := ⟨o2, upd_same, ho2⟩
    generalize upd K1 a2 (.frz o2 (.tup [.int 0, .int 38, .int 39])) = K2 at *
    refine ⟨by show 2 ≤ sizeLine; decide, fun a5 ha5 => ?_⟩
    have r5 : Same K2 (upd K2 a5 (.lst [.ref a1, .ref a2])) := L2.Same.new ha5
    have hF5 : FL (upd K2 a5 (.lst [.ref a1, .ref a2])) a5 [[0, 1, 39], [0, 38, 39]] := ⟨[a1, a2], upd_same, .cons ((r2.trans r5).ft g1) (.cons (r5.ft g2) .nil)⟩
    generalize upd K2 a5 (.lst [.ref a1, .ref a2]) = K5 at *
    have r15 := (r1.trans r2).trans r5
    refine cat_fl (hF28.same r15) hF5 (by show 38 + 2 ≤ 100000; decide) fun p11 H29 s29 hp11 hF29 => ?_
    have hF29 : FL H29 p11 sr40 := hF29
    have s2729 := (s28.trans r15).trans s29
    have s029 : Same H H29 := (s026.trans s27).trans s2729
    have hJ29 := hJ27.same s2729
    refine ⟨_, rfl, mkR (by decide) (by decide) hJ29 sa_nd sa_ok (Nat.le_trans (saN_len 38) (by decide)) fun x3 H30 s30 hx3 R30 hl30 => ?_⟩
    have hF30 := hF29.same s30
    have hsr := sr_rnv
    have hst := sr_steps
    have hso := sr_open
    have h40 : sr40.length = 40 := rfl
    generalize sr40 = sr at *
    obtain ⟨cs, hcs, hpc⟩ := hF30
    have lcs : cs.length = 40 := by rw [Paired.len hpc]; exact h40
    refine ⟨_, rfl, x3, 40, _, p11, cs, _, [], rfl, R30, rowsM_ok sa_ok, rowsM_nodup _ _, hl30, by rw [List.append_nil]; exact hcs, hpc, by omega, fun q hq => ?_, .inl ⟨rfl, fun H31 p12 s31 hcr => ?_⟩⟩
    · obtain ⟨a1, a2⟩ := hsr q hq
      exact ⟨a1, by rw [rnv_congr (rowsM_mem sa_ok)]; exact a2⟩
    have hrp : ResPart C CR H31 p12 x3 40 (rowsM 40 (saN 38)) (rowsM 40 (saN 38)) := by
      unfold ClosedRes at hcr
      rw [hso] at hcr
      have e : ((rowsM 40 (saN 38)).filter fun q => decide (q ∈ (firstsM sr).flatMap stepsM)) = rowsM 40 (saN 38) := List.filter_eq_self.mpr fun j hj => decide_eq_true (hst j ((rowsM_mem sa_ok j).mp hj))
      rw [e] at hcr
      exact hcr
    obtain ⟨pq, hpq, hPA⟩ := hrp
    have s2931 := s30.trans s31
    refine ⟨_, rfl, p12, _, ((0 : Nat) : Int), .str "part", rfl, rfl, .inl (.inl hpq), atI_nat rfl, rfl, _, rfl, ?_⟩
    rw [decide_eq_true rfl]
    refine iteT ?_
    refine ⟨_, rfl, p12, _, ((1 : Nat) : Int), .ref pq, rfl, rfl, .inl (.inl hpq), atI_nat rfl, ?_⟩
    have hJ31 := hJ29.same s2931
    refine ⟨_, rfl, mkR (by decide) (by decide) hJ31 sa_nd sa_ok (Nat.le_trans (saN_len 38) (by decide)) fun x4 H32 s32 hx4 R32 hl32 => ?_⟩
    refine ⟨_, rfl, mkP R32 (rowsM_ok sa_ok) (rowsM_nodup _ _) hl32 (hJ31.same s32) (Nat.le_trans (saN_len 38) (by decide)) (fun j hj => (rowsM_mem sa_ok j).mpr hj) fun x5 H33 s33 hx5 P33 => ?_⟩
    have e : ((rowsM 40 (saN 38)).filter fun q => decide (q ∈ saN 38)) = rowsM 40 (saN 38) := List.filter_eq_self.mpr fun j hj => decide_eq_true ((rowsM_mem sa_ok j).mp hj)
    rw [e] at P33
    have PQ := hPA.same (s32.trans s33)
    obtain ⟨dxa, da, ua, ha, _⟩ := id PQ.ob
    obtain ⟨dxb, db, ub, hb, _⟩ := id P33.ob
    refine ⟨pq, dxa, _, x5, dxb, _, rfl, rfl, ha, hb, pq, x5, x3, x4, 40, 40, _, _, _, _, rfl, PQ, P33, fun H34 s34 => ⟨_, rfl, _, rfl, ?_⟩⟩
    rw [decide_eq_true rfl, decide_eq_true rfl, decide_eq_true rfl]
    refine iteT ?_
    have s2934 := (s2931.trans (s32.trans s33)).trans s34
    have hcs34 := ((s31.trans (s32.trans s33)).trans s34) _ _ hcs
    refine ⟨_, rfl, p11, _, rfl, .inl (.inl (.inl hcs34)), rfl, ?_⟩
    have e40l : decide (V.int (((cs.map V.ref).length : Nat) : Int) = V.int 40) = true := by rw [List.length_map, lcs]; decide
    rw [e40l]
    exact q _ (s029.trans s2934)
end
end Yf
set_option Elab.async false
set_option linter.all false
set_option maxRecDepth 100000
set_option maxHeartbeats 1000000
/-! G27: the law's body. -/
namespace Yf
open PySem PySem.Spec PyProof.Rows L2

abbrev nLaw : List Str := ["_law_script", "_law_k", "_law_feed_here", "_law_blocks", "_law_drawn", "_law_routine_here", "_law_rows_here", "_law_runs", "_law_turn", "_law_some", "_law_handed", "_law_told", "_law_due_here", "_law_jumps", "_law_run_here", "_law_jump"]
theorem scLaw : FnScope nLaw ["_law_script"] (defScope sLaw) := ⟨rfl, rfl, rfl, by decide +kernel, rfl, by decide +kernel, by decide +kernel⟩
section
variable {P : Program} {w : World} {K : PySem.W.Frag} {mg : Str → Option Value} {base : Heap}
theorem gst_ps1 {X : Cx} {B : Nat → List Frame → (Shared → Thread → Prop) → Prop} {st : Stmt} {t : L2.TS} (h : PS X st t) : GSt X callerB (fun _ : Unit => B) (fun _ => []) st (tIp t) := gst_ps h
theorem gst_cons1 {X : Cx} {B : Nat → List Frame → (Shared → Thread → Prop) → Prop} {st : Stmt} {rest : List Stmt} {t u : TSI Unit} (a : GSt X callerB (fun _ : Unit => B) (fun _ => []) st t) (b : GSts X callerB (fun _ : Unit => B) (fun _ => []) rest u) : GSts X callerB (fun _ : Unit => B) (fun _ => []) (st :: rest) (tIseq t u) := gsts_cons (fun _ _ => rfl) a b
theorem sq_keep {H H1 H' : Hp} {a g : Addr} {xs : List V} (h : SqL K H a xs) (s : Same H H1) (hg : H g = none) (b : But g H1 H') : SqL K H' a xs := by
  rcases h with (h | ⟨o, h⟩) | h
  · exact .inl (.inl (b a _ (s a _ h) (fun z => by rw [z, hg] at h; cases h)))
  · exact .inl (.inr ⟨o, b a _ (s a _ h) (fun z => by rw [z, hg] at h; cases h)⟩)
  · exact .inr h
theorem sq_same {H H' : Hp} {a : Addr} {xs : List V} (h : SqL K H a xs) (s : Same H H') : SqL K H' a xs := by
  rcases h with (h | ⟨o, h⟩) | h
  · exact .inl (.inl (s a _ h))
  · exact .inl (.inr ⟨o, s a _ h⟩)
  · exact .inr h
def tMidI (t u : TSI Unit) : TSI Unit := fun D i σ H => ∃ M : Unit → L2.St → Hp → Prop, t { D with nx := M } i σ H ∧ ∀ i' σ' H', M i' σ' H' → u D i' σ' H'
theorem gst_mid1 {X : Cx} {B : Nat → List Frame → (Shared → Thread → Prop) → Prop} {st : Stmt} {rest : List Stmt} {t u : TSI Unit} (a : GSt X callerB (fun _ : Unit => B) (fun _ => []) st t) (b : GSts X callerB (fun _ : Unit => B) (fun _ => []) rest u) : GSts X callerB (fun _ : Unit => B) (fun _ => []) (st :: rest) (tMidI t u) := by
  refine ⟨fun i ip c fs K J gd lv s σ H D g hip k I q => ?_⟩
  obtain ⟨M, q, hM⟩ := q
  rw [execs_cons_wrap]
  refine a.run i ip c fs _ J gd lv s σ H { D with nx := M } g hip (fun j f s' z => ?_) I q
  cases f with
  | next =>
    obtain ⟨σ', H', I', q'⟩ := z
    exact b.run j ip c fs K J gd lv s' σ' H' D g hip k I' (hM _ _ _ q')
  | brk => exact k j .brk s' z
  | cont => exact k j .cont s' z
  | ret u => exact k j (.ret u) s' z
theorem fP_no (r d u : Addr) : (fP r d u).lookup ("kept_runs" : Str) = none := by
  have e : (("kept_runs" : Str) == "routine") = false := by decide +kernel
  have e2 : (("kept_runs" : Str) == "allowed") = false := by decide +kernel
  have e3 : (("kept_runs" : Str) == "useful") = false := by decide +kernel
  simp [fP, List.lookup, e, e2, e3]
theorem tr_dps {H : Hp} : ∀ {as : List Addr} {rs : List (List Int)}, Paired (TR H) as rs → DpAll K H (as.map V.ref) (rs.map tD)
  | _, _, .nil => .nil
  | _, _, .cons r t => .cons r.dp (tr_dps t)
theorem law_body {C CR CN f gp fMR fF fLR fRI fRW fRS fL fC fD fS fJ fK fZ fP : Addr} {fdMR fdF fdLR fdRI fdRW fdRS fdL fdC fdD fdS fdJ fdK fdZ : FuncData} {cdv : Value} {s : Shared} {H : Hp} {a : Addr} {cs : List Int} {Q : VK} {B : Nat → List Frame → (Shared → Thread → Prop) → Prop}
    (hr : Room 24 (lX CX0 P w K mg base nLaw "law" (defScope sLaw) f cdv s H).A) (Bi_ : Bi mg) (T : PC K C) (IC : InC K C) (gP : mg "Part" = some (.ref C))
    (GM : FnOk P w K mg base CX0 12 fMR fdMR [] spMany) (DM : Dn K mg "_law_many_right" sMany [] fMR fdMR)
    (GF : FnOk P w K mg base CX0 1 fF fdF ["_law_script", "_law_k"] (spFeed K)) (DF : Dn K mg "_law_feed" sFeed ["_law_script", "_law_k"] fF fdF)
    (GR : FnOk P w K mg base CX0 3 fLR fdLR ["_law_feed_here", "_law_most"] spRoutine) (DR : Dn K mg "_law_routine" sLRoutine ["_law_feed_here", "_law_most"] fLR fdLR)
    (GI : FnOk P w K mg base CX0 4 fRI fdRI ["self", "blocks", "jumps"] (spRInit CR)) (DI : Mn K CR "__init__" "Routine.__init__" mRInit ["self", "blocks", "jumps"] fRI fdRI) (MR : Mk K CR fRI) (gR : mg "Routine" = some (.ref CR))
    (GW : FnOk P w K mg base CX0 1 fRW fdRW ["_law_blocks", "_law_jumps"] spRows) (DW : Dn K mg "_law_rows" sRows ["_law_blocks", "_law_jumps"] fRW fdRW)
    (GS : FnOk P w K mg base CX0 9 fRS fdRS ["_law_block", "_law_last", "_law_jumps"] (spRests 8)) (DS : Dn K mg "_law_rests" sRests ["_law_block", "_law_last", "_law_jumps"] fRS fdRS)
    (GL : FnOk P w K mg base CX0 4 fL fdL ["_law_feed_here", "_law_rows_here", "_law_runs"] spList) (DL : Dn K mg "_law_list" sList ["_law_feed_here", "_law_rows_here", "_law_runs"] fL fdL)
    (GC : FnOk P w K mg base (L2.CX P w) 7 fC fdC ["routine", "runs"] (spClosed C CR CN)) (DC : Dn K mg "closed" sClosed ["routine", "runs"] fC fdC)
    (GD : FnOk P w K mg base CX0 1 fD fdD ["_law_runs"] spDue) (DD : Dn K mg "_law_due" sDue ["_law_runs"] fD fdD)
    (GT : FnOk P w K mg base CX0 1 fS fdS ["_law_run_here"] spSteps) (DT : Dn K mg "_law_steps" sSteps ["_law_run_here"] fS fdS)
    (GJ : FnOk P w K mg base CX0 1 fJ fdJ ["self"] (spPJumps C CR)) (PJ : PropOf K C "jumps" gp fJ) (bJ : Binds K fdJ ["self"] [])
    (GK : GFn2 P w K mg base 20 fK fdK ["self"] (spKept C CR)) (MK : Meth K C "kept_runs" fK) (bK : Binds K fdK ["self"] [])
    (GZ : FnG P w K mg base CX0 8 fZ fdZ ["_law_feed_here", "_law_routine_here", "_law_blocks", "_law_runs"] (spRefused CR)) (DZ : Dn K mg "_law_refused" sRefused ["_law_feed_here", "_law_routine_here", "_law_blocks", "_law_runs"] fZ fdZ)
    (hs : SqL K H a (cs.map V.int)) (h63 : cs.length ≤ 63) (q : ∀ H', Q (.bl true) H') :
    ∃ t : TSI Unit, GSts (lX CX0 P w K mg base nLaw "law" (defScope sLaw) f cdv s H) callerB (fun _ : Unit => B) (fun _ => []) (defBody sLaw) t ∧ t { nx := fun _ _ H' => Q .non H', rt := fun _ v H' => Q v H' } () (start nLaw [.ref a]) H := by
  have hu := hu_of hr
  have hu65 : (lX CX0 P w K mg base nLaw "law" (defScope sLaw) f cdv s H).A.units + 65 < cLine := by
    have := hr.un; omega
  refine ⟨_, gst_cons1 (gst_ps1 (ps_if (pt_not (pt_val (pe_call0 GM (hr.mono (by decide)) (by rfl) DM.g DM.F.kp DM.b .nil pass0))) (pss_one (ps_ret pe_bl)) pss_nil))
    (gst_cons1 (gst_for (fun _ _ => rfl) rfl (pi_range1 (by rfl) Bi_.range (pa_cons (pe_callB (call_max2 rfl) (by rfl) Bi_.max (by decide +kernel) (pa_cons pe_int (pa_cons (pe_callB (call_min2 rfl) (by rfl) Bi_.min (by decide +kernel) (pa_cons pe_int (pa_cons (pe_callB call_len_seq (by rfl) Bi_.len PySem.boot_len (pa_cons (pv 0) pa_nil)) pa_nil))) pa_nil))) pa_nil)) (pg_name (i := 1) scLaw.nd rfl (.inl rfl))
      (gst_cons1 (gst_ps1 (ps_set (i := 2) scLaw.nd rfl (.inl rfl) (pe_call GF (hr.mono (by decide)) (by rfl) DF.g DF.F.kp DF.b .nil pass0 (pa_cons (pv 0) (pa_cons (pv 1) pa_nil)))))
      (gst_cons1 (gst_ps1 (ps_asg (pe_call GR (hr.mono (by decide)) (by rfl) DR.g DR.F.kp DR.b .nil pass0 (pa_cons (pv 2) (pa_cons pe_int pa_nil))) (pg_lst rfl (pgs_cons (pg_name (i := 3) scLaw.nd rfl (.inl rfl)) (pgs_cons (pg_name (i := 4) scLaw.nd rfl (.inl rfl)) pgs_nil)))))
      (gst_cons1 (gst_ps1 (by exact ps_par (i := 5) (j := 6) rfl scLaw.nd rfl rfl (by decide) rfl rfl (by exact pa_cons (pe_make MR GI (hr.mono (by decide)) (by rfl) gR DI.b .nil pass0 (pa_cons (pv 3) (pa_cons (pv 4) pa_nil))) (pa_cons (pe_call GW (hr.mono (by decide)) (by rfl) DW.g DW.F.kp DW.b .nil pass0 (pa_cons (pv 3) (pa_cons (pv 4) pa_nil))) pa_nil)) (by rfl)))
      (gst_cons1 (gst_ps1 (ps_set (i := 7) scLaw.nd rfl (.inl rfl) (pe_call GS (hr.mono (by decide)) (by rfl) DS.g DS.F.kp DS.b .nil pass0 (pa_cons pe_int (pa_cons (pe_op op_sub (pv 3) pe_int) (pa_cons (pv 6) pa_nil))))))
      (gsts_one (gst_for (fun _ _ => rfl) rfl (pi_range1 (by rfl) Bi_.range (pa_cons pe_int pa_nil)) (pg_name (i := 8) scLaw.nd rfl (.inl rfl))
        (gst_cons1 (gst_ps1 (ps_set (i := 9) scLaw.nd rfl (.inr rfl) (pe_call GL (hr.mono (by decide)) (by rfl) DL.g DL.F.kp DL.b .nil pass0 (pa_cons (pv 2) (pa_cons (pv 6) (pa_cons (pv 7) pa_nil))))))
        (gst_cons1 (gst_ps1 (ps_set (i := 10) scLaw.nd rfl (.inl rfl) (pe_callTy call_list_of (by rfl) Bi_.list (by decide +kernel) (pa_cons (pv 9) pa_nil))))
        (gst_cons1 (gst_ps1 (by exact ps_par (i := 11) (j := 12) rfl scLaw.nd rfl rfl (by decide) rfl rfl (by exact pa_cons (pe_call GC (hr.mono (by decide)) (by rfl) DC.g DC.F.kp DC.b .nil passL (pa_cons (pv 5) (pa_cons (pv 10) pa_nil))) (pa_cons (pe_call GD (hr.mono (by decide)) (by rfl) DD.g DD.F.kp DD.b .nil pass0 (pa_cons (pv 9) pa_nil)) pa_nil)) (by rfl)))
        (gst_cons1 (gst_ps1 (ps_if (PW.pt (pw_or (pt_cmpR (op_neDK K rfl hr.units) (pv 10) (pv 9) (by with_unfolding_all rfl)) (pw_or1 (pt_not (pt_val (pe_callB call_isi (by rfl) Bi_.isinstance (by decide +kernel) (pa_cons (pv 11) (pa_cons (pe_bltn (v := .ty "tuple") (by rfl) Bi_.tuple (by decide +kernel) rfl) pa_nil)))))))) (pss_one (ps_ret pe_bl)) pss_nil))
        (gst_cons1 (gst_ps1 (ps_if (PW.pt (pw_and (pt_cmpR op_notN (pv 12) pe_non (nomark _)) (pw_and1 (pt_cmpR (op_neDK K rfl hr.units) (pv 11) (pv 12) (by with_unfolding_all rfl))))) (pss_one (ps_ret pe_bl)) pss_nil))
        (gst_mid1 (gst_if (PT.big (pt_cmpR op_isN (pv 12) pe_non (nomark _)))
          (gst_cons1 (gst_ps1 (ps_if (PW.pt (pw_or (pt_cmpR op_ne (pe_callB call_len_seq (by rfl) Bi_.len PySem.boot_len (pa_cons (pv 11) pa_nil)) pe_int (nomark _)) (pw_or (pt_cmpR op_ne (pe_ix ix_tup (pv 11) pe_int (fun _ _ => rfl)) pe_str (nomark _))
              (pw_or1 (pt_not (pt_val (pe_callB call_isi (by rfl) Bi_.isinstance (by decide +kernel) (pa_cons (pe_ix ix_tup (pv 11) pe_int (fun _ _ => rfl)) (pa_cons (pe_glob (v := .ref C) (by rfl) gP rfl) pa_nil))))))))) (pss_one (ps_ret pe_bl)) pss_nil))
          (gst_cons1 (gst_ps1 (ps_set (i := 13) scLaw.nd rfl (.inr rfl) (pe_lst pa_nil)))
          (gst_cons1 (gst_ps1 (ps_for PassesOwn.never rfl (pi_list (pv 9)) (pg_name (i := 14) scLaw.nd rfl (.inl rfl))
            (pss_one (ps_set (i := 13) scLaw.nd rfl (.inr rfl) (pe_op op_cat (pv 13) (pe_call GT (hr.mono (by decide)) (by rfl) DT.g DT.F.kp DT.b .nil pass0 (pa_cons (pv 14) pa_nil)))))))
          (gst_cons1 (gst_ps1 (ps_if (pt_cmpR (op_neDK K rfl hr.units) (pe_prop (pe_ix ix_tup (pv 11) pe_int (fun _ _ => rfl)) T.cl PJ GJ (hr.mono (by decide)) bJ .nil pass0 (by rfl))
              (pe_lc (own := [("_law_jump", 15)]) (g := gName 15) rfl scLaw.nd (pi_list (pv 6)) (blkOk_by (N := nLaw) (sc := defScope sLaw) (by decide +kernel)) (fun _ _ _ _ _ => pg_name (i := 15) scLaw.nd rfl (Or.inl rfl))
                (fun _ _ _ _ _ => pts_one (by exact (pt_cmpR (op_inDK K rfl hu65) (pv 15) (pv 13) (by with_unfolding_all rfl)))) (fun _ _ _ _ _ => pv 15)) (by with_unfolding_all rfl)) (pss_one (ps_ret pe_bl)) pss_nil))
          (gsts_one (gst_if (pt2_cmpL (op_neDK K rfl hr.units) (pe2_listG (pgen2_meth0 (pe_ix ix_tup (pv 11) pe_int (fun _ _ => rfl)) T.cl MK GK (hr.mono (by decide)) bK .nil) (hr.mono (by decide)) (by rfl) Bi_.list (by decide +kernel))
              (pe_lc (own := [("_law_run_here", 14)]) (g := gName 14) rfl scLaw.nd (pi_list (pv 7)) (blkOk_by (N := nLaw) (sc := defScope sLaw) (by decide +kernel)) (fun _ _ _ _ _ => pg_name (i := 14) scLaw.nd rfl (Or.inl rfl))
                (fun _ _ _ _ _ => pts_one (by exact (pt_cmpR (op_inDK K rfl hu65) (pv 14) (pv 9) (by with_unfolding_all rfl)))) (fun _ _ _ _ _ => pv 14)) (by with_unfolding_all rfl))
            (gsts_one (gst_ps1 (ps_ret pe_bl))) gsts_nil))))))
          gsts_nil)
        (gsts_one (gst_ps1 (ps_if (pt_not (pt_val (pe_callG GZ rfl (hr.mono (by decide)) (by rfl) DZ.g DZ.F.kp DZ.b pass0 (pa_cons (pv 2) (pa_cons (pv 5) (pa_cons (pv 3) (pa_cons (pv 9) pa_nil))))))) (pss_one (ps_ret pe_bl)) pss_nil))))))))))))))))
    (gsts_one (gst_ps1 (ps_ret pe_bl)))), ?_⟩
  refine ⟨rfl, fun H1 s1 => ⟨_, rfl, iteF ?_⟩⟩
  have hs1 := sq_same hs s1
  obtain ⟨mx, hmx, mx0, mx1⟩ : ∃ mx : Int, mx = (if (if (((cs.map V.int).length : Nat) : Int) < 3 then (((cs.map V.int).length : Nat) : Int) else 3) > 1 then (if (((cs.map V.int).length : Nat) : Int) < 3 then (((cs.map V.int).length : Nat) : Int) else 3) else 1) ∧ 1 ≤ mx ∧ mx ≤ 3 := by
    refine ⟨_, rfl, ?_, ?_⟩
    · split
      · omega
      · omega
    · split
      · split <;> omega
      · omega
  refine ⟨_, rfl, a, _, rfl, .inl hs1, 3, _, rfl, 1, _, rfl, mx, by rw [hmx], by omega, by omega, for_itI (walk_range (lo := 0) (n := mx.toNat)) (fun _ i σ H2 => ∃ v1 v2 v3 v4 v5 v6 v7 v8 v9 v10 v11 v12 v13 v14 : Option V, σ = [some (.ref a), v1, v2, v3, v4, v5, v6, v7, v8, v9, v10, v11, v12, v13, v14, none] ∧ SqL K H2 a (cs.map V.int))
    ⟨none, none, none, none, none, none, none, none, none, none, none, none, none, none, rfl, hs1⟩ (fun _ _ _ _ _ _ => trivial) ?_ ?_⟩
  · rintro ⟨⟩ i x σ H2 H3 hi ⟨v1, v2, v3, v4, v5, v6, v7, v8, v9, v10, v11, v12, v13, v14, rfl, hs3⟩ ⟨rfl, hx⟩
    have e0 : (0 : Int) + (i : Nat) = (i : Int) := by omega
    obtain rfl : x = V.int (i : Int) := by rw [hx]; show V.int (0 + (i : Nat)) = _; rw [e0]
    refine ⟨_, rfl, _, rfl, a, cs, i, rfl, hs3, fun H4 g s4 hg hF4 => ?_⟩
    have hs4 := sq_same hs3 s4
    have ng : ∀ o, H3 a = some o → a ≠ g := fun o e z => by rw [z, hg] at e; cases e
    refine ⟨_, rfl, g, rfl, hF4, fun H5 p l b js m5 e5 b2 b8 hJ nd ok h120 => ⟨p, _, rfl, .inl (.inl e5), rfl, _, _, rfl, _, _, rfl, rfl, ?_⟩⟩
    have rok := rowsM_ok ok
    have rnd := rowsM_nodup b js
    have rst := rowsM_strict b js
    refine ⟨_, rfl, _, rfl, mkR b2 (by omega) hJ nd ok h120 fun r H6 s6 hr6 R6 hl6 => ⟨_, rfl, _, rfl, b, l, js, rfl, hJ.same s6, by omega, by omega, by omega, fun H7 prw s7 hp7 hJ7 => ⟨_, _, rfl, ?_⟩⟩⟩
    generalize hrows : rowsM b js = rows at *
    have hrl := rests_len rows (b - 1) 8 0 (by omega)
    have h128 : 2 ^ (b - 1 - 0).toNat ≤ 2 ^ 7 := Nat.pow_le_pow_right (by decide) (by omega)
    have h128 : (restsM rows (b - 1) 8 0).length ≤ 128 := Nat.le_trans hrl h128
    refine ⟨_, rfl, b, 1, rfl, rfl, _, rfl, by decide, 0, b - 1, prw, rows, rfl, hJ7, by omega, by omega, by omega, by omega, by decide, by omega, by decide, fun H8 pr s8 hp8 hF8 => ?_⟩
    generalize hruns : restsM rows (b - 1) 8 0 = runs at *
    have hrun : ∀ q ∈ runs, q ≠ [] ∧ 2 ≤ q.length ∧ q.length ≤ 8 ∧ rnv b rows (q.map V.int) = true ∧ (∀ x ∈ q, 0 ≤ x ∧ x ≤ b - 1) := fun q hq => by
      rw [← hruns] at hq
      have h2 := rests_two b2 hq
      exact ⟨fun z => by rw [z] at h2; simp at h2, h2, rests_len8 hq, rests_rnv b2 hq, (rests_is 8 0 (by omega) q hq).2.2.2.1⟩
    have shr : Shortly runs := ⟨by omega, fun q hq => ⟨(hrun q hq).1, by have := (hrun q hq).2.2.1; omega⟩⟩
    have s68 := (s6.trans s7).trans s8
    have f8 : Ft H8 g := m5.b.same s68
    have R8 := R6.same (s7.trans s8)
    have J8 := hJ7.same s8
    have b48 : But g H4 H8 := m5.s.trans s68.but
    refine ⟨3, rfl, by decide, by decide, for_itI (walk_range (lo := 0) (n := (3 : Int).toNat)) (fun _ i σ H2 => ∃ v1 v8 v9 v10 v11 v12 v13 v14 : Option V, σ = [some (.ref a), v1, some (.ref g), some (.int b), some (.ref l), some (.ref r), some (.ref prw), some (.ref pr), v8, v9, v10, v11, v12, v13, v14, none] ∧ Mv g H8 H2)
      ⟨_, _, _, _, _, _, _, _, rfl, f8.mv (Same.refl _)⟩ (fun _ _ _ _ _ _ => trivial) ?_ ?_⟩
    · rintro ⟨⟩ j x' σ H9' H9 hj ⟨v1, v8, v9, v10, v11, v12, v13, v14, rfl, m9⟩ ⟨rfl, hx'⟩
      obtain rfl : x' = V.int (j : Int) := by rw [hx']; show V.int (0 + (j : Nat)) = _; rw [show (0 : Int) + (j : Nat) = (j : Int) by omega]
      refine ⟨_, rfl, _, rfl, _, rfl, g, prw, pr, rows, runs, rfl, m9.b, m9.jl J8, by omega, m9.fl hF8, shr, fun H10 ps ks m10 hps hks hsub hkl => ?_⟩
      have m010 := m9.trans m10
      obtain ⟨as, has, hfs⟩ := id hks
      have las : as.length = ks.length := Paired.len hfs
      refine ⟨_, rfl, ps, _, rfl, .inl (.inl (.inl has)), fun ph hph => ?_⟩
      have s11 : Same H10 (upd H10 ph (.lst (as.map V.ref))) := L2.Same.new hph
      have e11 : (upd H10 ph (.lst (as.map V.ref))) ph = some (.lst (as.map V.ref)) := upd_same
      generalize upd H10 ph (.lst (as.map V.ref)) = H11 at *
      have m011 := m010.then s11
      have shk : Shortly ks := ⟨by omega, fun q hq => shr.2 q (hsub q hq)⟩
      have hD : Drawn b rows ks := ⟨hkl, fun q hq => by
        obtain ⟨_, _, h3, h4, h5⟩ := hrun q (hsub q hq)
        exact ⟨by omega, h4, h5⟩⟩
      refine ⟨_, rfl, _, rfl, r, b, rows, ph, as, ks, [], rfl, m011.rAt R8, rok, rnd, hl6, by rw [List.append_nil]; exact e11, hfs.same s11, by omega, fun q hq => ?_, .inl ⟨rfl, fun H12 pt s12 hcr => ?_⟩⟩
      · obtain ⟨_, _, h3, h4, _⟩ := hrun q (hsub q hq)
        exact ⟨by omega, h4⟩
      have hks12 := (hks.same s11).same s12
      have e12 : FL H12 ph ks := ⟨as, s12 _ _ e11, (hfs.same s11).same s12⟩
      have hptT : ∃ zs, H12 pt = some (.tup zs) := by
        unfold ClosedRes at hcr
        split at hcr
        · obtain ⟨_, _, e, _⟩ := hcr; exact ⟨_, e⟩
        · obtain ⟨_, e, _⟩ := hcr; exact ⟨_, e⟩
      obtain ⟨zs, hpt⟩ := hptT
      refine ⟨_, rfl, ps, ks, rfl, hks12, shk, fun f1 f2 fx hop H13 pd s13 hro => ⟨_, _, rfl, ?_⟩, fun hnone H13 s13 => ⟨_, _, rfl, ?_⟩⟩
      · -- open
        have hro1 : ResOpen H12 pt f1 f2 fx := by
          unfold ClosedRes at hcr
          rw [hop] at hcr
          exact hcr
        refine ⟨_, rfl, _, rfl, _, _, (e12.same s13).dp, (hks12.same s13).dp, tDs_shaped _, tDs_shaped _, _, rfl, ?_⟩
        rw [eqv_lD, decide_eq_true rfl]
        refine iteF ⟨_, rfl, _, .ty "tuple", _, _, true, rfl, .ty "tuple", (Kd.tup (s13 _ _ hpt)).ty, (Kd.tup (s13 _ _ hpt)).tup_, _, rfl, iteF ?_⟩
        refine ⟨_, rfl, rfl, _, rfl, iteT ⟨_, rfl, _, rfl, _, _, (hro1.same s13).dp, hro.dp, dOpen_shaped _ _ _, dOpen_shaped _ _ _, _, rfl, ?_⟩⟩
        rw [dOpen_self]
        refine iteF ?_
        refine ⟨fun _ σ H' => ∃ v1 v10 v11 v12 v13 v14 : Option V, σ = [some (.ref a), v1, some (.ref g), some (.int b), some (.ref l), some (.ref r), some (.ref prw), some (.ref pr), some (.int (j : Int)), some (.ref ps), v10, v11, v12, v13, v14, none] ∧ Mv g H8 H' ∧ FL H' ps ks, ?_, ?_⟩
        · refine ⟨_, rfl, rfl, _, rfl, iteF ?_⟩
          exact ⟨_, _, _, _, _, _, rfl, (m011.then s12).then s13, hks12.same s13⟩
        · rintro ⟨⟩ σ H14 ⟨v1, v10, v11, v12, v13, v14, rfl, m14, hk14⟩
          refine ⟨_, rfl, _, rfl, _, rfl, _, rfl, g, r, b, rows, ps, ks, rfl, m14.b, m14.rAt R8, rok, rnd, hl6, b2, b8, hk14, hD, fun H15 m15 => ⟨_, rfl, iteF ?_⟩⟩
          exact ⟨_, _, _, _, _, _, _, _, rfl, m14.trans m15⟩
      · -- part
        have hrp : ResPart C CR H12 pt r b rows (rows.filter fun q => decide (q ∈ (firstsM ks).flatMap stepsM)) := by
          unfold ClosedRes at hcr
          rw [hnone] at hcr
          exact hcr
        obtain ⟨pq, ept, hPA⟩ := hrp
        have ept13 := s13 _ _ ept
        have hks13 := hks12.same s13
        have m013 := (m011.then s12).then s13
        refine ⟨_, rfl, _, rfl, _, _, (e12.same s13).dp, hks13.dp, tDs_shaped _, tDs_shaped _, _, rfl, ?_⟩
        rw [eqv_lD, decide_eq_true rfl]
        refine iteF ⟨_, rfl, _, .ty "tuple", _, _, true, rfl, .ty "tuple", (Kd.tup ept13).ty, (Kd.tup ept13).tup_, _, rfl, iteF ?_⟩
        refine ⟨_, rfl, rfl, _, rfl, iteF (iteF ?_)⟩
        refine ⟨fun _ σ H' => ∃ v1 v10 v11 v12 v13 v14 : Option V, σ = [some (.ref a), v1, some (.ref g), some (.int b), some (.ref l), some (.ref r), some (.ref prw), some (.ref pr), some (.int (j : Int)), some (.ref ps), v10, v11, v12, v13, v14, none] ∧ Mv g H8 H' ∧ FL H' ps ks, ?_, ?_⟩
        · refine ⟨_, rfl, rfl, _, rfl, iteT ?_⟩
          have hPA13 := hPA.same s13
          obtain ⟨dx, dal, du, hpq13, _, _, _⟩ := id hPA13.ob
          refine ⟨_, rfl, pt, _, rfl, .inr (.inl (.inl ept13)), rfl, _, rfl, iteF ?_⟩
          refine ⟨_, rfl, pt, _, ((0 : Nat) : Int), .str "part", rfl, rfl, .inl (.inl ept13), atI_nat rfl, rfl, _, rfl, ?_⟩
          rw [decide_eq_true rfl]
          refine iteF ?_
          refine ⟨_, rfl, pt, _, ((1 : Nat) : Int), .ref pq, rfl, rfl, .inl (.inl ept13), atI_nat rfl, _, _, _, _, true, rfl, .own C, .base (TyOf.ins hpq13 IC.cl IC.ha IC.hn IC.htk IC.hm), IC.me, _, rfl, iteF ?_⟩
          refine ⟨Nat.zero_le _, fun pj hpj => ?_⟩
          have s14 : Same H13 (upd H13 pj (.lst [])) := L2.Same.new hpj
          have hJ14 : JL (upd H13 pj (.lst [])) pj [] := ⟨[], upd_same, .nil⟩
          generalize upd H13 pj (.lst []) = H14 at *
          obtain ⟨bs, hbs, hfb⟩ := hks13.same s14
          refine ⟨_, rfl, ps, rfl, ⟨_, .inl (.inl hbs)⟩, for_it (walk_list (xs := bs.map V.ref)) (fun i σ H2 => ∃ (pj : Addr) (v14 : Option V), σ = [some (.ref a), v1, some (.ref g), some (.int b), some (.ref l), some (.ref r), some (.ref prw), some (.ref pr), some (.int (j : Int)), some (.ref ps), some (.ref ph), some (.ref pt), some .non, some (.ref pj), v14, none] ∧ Same H14 H2 ∧ JL H2 pj ((ks.take i).flatMap stepsM))
            ⟨pj, v14, rfl, Same.refl _, hJ14⟩ (fun i σ H2 _ ⟨_, _, _, s2, _⟩ => .inl (.inl (s2 _ _ hbs))) ?_ ?_⟩
          · rintro i x σ H15 H16 hi ⟨pj, v14, rfl, s15, hJ15⟩ ⟨rfl, hx⟩
            obtain ⟨c, hc, rfl⟩ := map_at hx
            obtain ⟨q0, hq0, hcq⟩ := Paired.get hfb hc
            obtain ⟨h1, h2, h3, h4, h5⟩ := hrun q0 (hsub q0 (List.mem_of_getElem? hq0))
            refine ⟨_, rfl, _, rfl, c, q0, rfl, (s15.ft hcq).tr, h1, by omega, fun H17 p17 s17 hp17 hJ17 => ?_⟩
            refine cat_jl (hJ15.same s17) hJ17 ?_ fun p18 H18 s18 hp18 hJ18 => ?_
            · have e1 : ((ks.take i).flatMap stepsM).length ≤ 100 * (ks.take i).length := flatMap_le fun q hq => Nat.le_trans (stepsM_len q) (shk.2 q (List.mem_of_mem_take hq)).2
              rw [List.length_take] at e1
              have e2 := stepsM_len q0
              omega
            · refine ⟨p18, _, rfl, (s15.trans s17).trans s18, ?_⟩
              rw [take_more hq0, List.flatMap_append, List.flatMap_cons, List.flatMap_nil, List.append_nil]
              exact hJ18
          rintro σ H15 ⟨pj2, v14', rfl, s15, hJ15⟩
          rw [List.length_map, Paired.len hfb, List.take_length] at hJ15
          -- the jumps
          have s1315 := s14.trans s15
          have hPA15 := hPA13.same s1315
          have m015 := m013.then s1315
          refine ⟨_, rfl, pt, _, ((1 : Nat) : Int), .ref pq, rfl, rfl, .inl (.inl (s1315 _ _ ept13)), atI_nat rfl, pq, dx, _, rfl, s1315 _ _ hpq13, pq, r, b, rows, _, rfl, hPA15, fun H16 pl s16 hJ16 => ?_⟩
          obtain ⟨js8, hjs8, hpj8⟩ := (m015.then s16).jl J8
          have hJ16b := hJ15.same s16
          have hjl16 : (ks.flatMap stepsM).length ≤ 1200 := by
            have e1 : (ks.flatMap stepsM).length ≤ 100 * ks.length := flatMap_le fun q hq => Nat.le_trans (stepsM_len q) (shk.2 q hq).2
            omega
          refine ⟨_, rfl, prw, rfl, ⟨_, .inl (.inl hjs8)⟩, fun L hL => ?_⟩
          refine lc_it (walk_list (xs := js8.map V.ref)) (fun k H17 => Same H16 H17 ∧ JL H17 L ((rows.take k).filter fun q => decide (q ∈ ks.flatMap stepsM))) ⟨L2.Same.new hL, [], upd_same, .nil⟩ (fun k H17 _ hh => .inl (.inl (hh.1 _ _ hjs8))) ?_ ?_
          · rintro k y H17 H18 hk ⟨s17, cs', hcs', hpc'⟩ ⟨rfl, hy⟩
            obtain ⟨c, hc, rfl⟩ := map_at hy
            obtain ⟨xs, hxs, hcx⟩ := Paired.get hpj8 hc
            obtain ⟨j0, hj0, rfl⟩ := map_at hxs
            have hc17 : Tu H18 c (jl j0) := s17.ts _ _ hcx
            refine ⟨rfl, _, rfl, _, rfl, _, _, hc17.dp, (hJ16b.same s17).dp, tD_shaped _, tDs_shaped _, _, rfl, ?_⟩
            rw [any_jl, filter_more _ hj0]
            cases hm : decide (j0 ∈ ks.flatMap stepsM) with
            | false =>
              refine iteF ⟨s17, cs', hcs', ?_⟩
              rw [if_neg Bool.false_ne_true, List.append_nil]
              exact hpc'
            | true =>
              refine iteT ⟨_, rfl, _, hcs', small ?_, Same.put s17 hL, ?_⟩
              · rw [List.length_map, Paired.len hpc', List.length_map]
                have e1 := List.length_filter_le (fun q => decide (q ∈ ks.flatMap stepsM)) (rows.take k)
                rw [List.length_take] at e1
                omega
              · rw [if_pos rfl]
                exact jl_push hcs' hpc' hc17
          rintro H17 ⟨s17, hJ17⟩
          have l8 : js8.length = rows.length := by rw [Paired.len hpj8, List.length_map]
          rw [List.length_map, l8, List.take_length] at hJ17
          refine ⟨_, _, (hJ16.same s17).dp, hJ17.dp, tDs_shaped _, tDs_shaped _, _, rfl, ?_⟩
          rw [eqv_JL, firsts_steps, decide_eq_true rfl]
          refine iteF ?_
          -- the kept runs
          have s1517 := s16.trans s17
          have s1317 := s1315.trans s1517
          have hPA17 := hPA15.same s1517
          have m017 := m015.then s1517
          have hkept := kept_eq (d := 8) b2 rok rst (fun q hq => by rw [hruns]; exact hsub q hq) hnone
          rw [hruns] at hkept
          generalize hal : (rows.filter fun q => decide (q ∈ (firstsM ks).flatMap stepsM)) = al at *
          have alr : ∀ j ∈ al, j ∈ rows := fun j hj => by rw [← hal] at hj; exact (List.mem_filter.mp hj).1
          have all : al.length ≤ 120 := by
            have e1 := List.length_filter_le (fun q => decide (q ∈ (firstsM ks).flatMap stepsM)) rows
            rw [hal] at e1
            omega
          have hpl : (pathsM (usefulM b al al) (b - 1) 8 0).length ≤ 128 := by
            have e1 := congrArg List.length hkept
            rw [List.length_map] at e1
            rw [e1]
            exact Nat.le_trans (List.length_filter_le _ _) h128
          refine ⟨(pathsM (usefulM b al al) (b - 1) 8 0).length, Nat.le_trans hpl (by show 128 ≤ sizeLine; decide), _, rfl, pt, _, ((1 : Nat) : Int), .ref pq, rfl, rfl, .inl (.inl (s1317 _ _ ept13)), atI_nat rfl, pq, dx, _, rfl, s1317 _ _ hpq13, fP_no _ _ _, pq, r, b, rows, al, rfl, hPA17, fun j hj => rok j (alr j hj), all, b8, rfl, fun H18 os s18 hos pz hpz => ?_⟩
          have s19 : Same H18 (upd H18 pz (.lst (os.map V.ref))) := L2.Same.new hpz
          have e19 : (upd H18 pz (.lst (os.map V.ref))) pz = some (.lst (os.map V.ref)) := upd_same
          generalize upd H18 pz (.lst (os.map V.ref)) = H19 at *
          rw [hkept] at hos
          have m019 := (m017.then s18).then s19
          obtain ⟨rs8, hrs8, hpr8⟩ := m019.fl hF8
          have hks19 := ((hks13.same s1317).same s18).same s19
          refine ⟨_, rfl, pr, rfl, ⟨_, .inl (.inl hrs8)⟩, fun L hL => ?_⟩
          refine lc_it (walk_list (xs := rs8.map V.ref)) (fun k H20 => Same H19 H20 ∧ FL H20 L ((runs.take k).filter fun q => decide (q ∈ ks))) ⟨L2.Same.new hL, [], upd_same, .nil⟩ (fun k H20 _ hh => .inl (.inl (hh.1 _ _ hrs8))) ?_ ?_
          · rintro k y H20 H21 hk ⟨s20, cs', hcs', hpc'⟩ ⟨rfl, hy⟩
            obtain ⟨c, hc, rfl⟩ := map_at hy
            obtain ⟨q0, hq0, hcq⟩ := Paired.get hpr8 hc
            have hc20 := s20.ft hcq
            refine ⟨rfl, _, rfl, _, rfl, _, _, hc20.tr.dp, (hks19.same s20).dp, tD_shaped _, tDs_shaped _, _, rfl, ?_⟩
            rw [any_tD, filter_more _ hq0]
            cases hm : decide (q0 ∈ ks) with
            | false =>
              refine iteF ⟨s20, cs', hcs', ?_⟩
              rw [if_neg Bool.false_ne_true, List.append_nil]
              exact hpc'
            | true =>
              refine iteT ⟨_, rfl, _, hcs', small ?_, Same.put s20 hL, ?_⟩
              · rw [List.length_map, Paired.len hpc']
                have e1 := List.length_filter_le (fun q => decide (q ∈ ks)) (runs.take k)
                rw [List.length_take] at e1
                omega
              · rw [if_pos rfl]
                exact fl_push hcs' hpc' hc20
          rintro H20 ⟨s20, hF20⟩
          have l8 : rs8.length = runs.length := Paired.len hpr8
          rw [List.length_map, l8, List.take_length] at hF20
          have dos : Dp K H20 (.ref pz) (.list ((runs.filter fun q => decide (q ∈ ks)).map tD)) := .lst (.inl (.inl (s20 _ _ e19))) (tr_dps (Paired.mapP hos fun _ _ t => t.same (s19.trans s20)))
          refine ⟨_, _, dos, hF20.dp, tDs_shaped _, tDs_shaped _, _, rfl, ?_⟩
          rw [eqv_lD, decide_eq_true rfl]
          refine iteF ?_
          exact ⟨_, _, _, _, _, _, rfl, m019.then s20, hks19.same s20⟩
        · rintro ⟨⟩ σ H14 ⟨v1, v10, v11, v12, v13, v14, rfl, m14, hk14⟩
          refine ⟨_, rfl, _, rfl, _, rfl, _, rfl, g, r, b, rows, ps, ks, rfl, m14.b, m14.rAt R8, rok, rnd, hl6, b2, b8, hk14, hD, fun H15 m15 => ⟨_, rfl, iteF ?_⟩⟩
          exact ⟨_, _, _, _, _, _, _, _, rfl, m14.trans m15⟩
    · rintro ⟨⟩ σ H9 ⟨v1, v8, v9, v10, v11, v12, v13, v14, rfl, m9⟩
      exact ⟨_, _, _, _, _, _, _, _, _, _, _, _, _, _, rfl, sq_keep hs3 s4 hg (b48.trans m9.s)⟩
  · rintro ⟨⟩ σ H2 ⟨v1, v2, v3, v4, v5, v6, v7, v8, v9, v10, v11, v12, v13, v14, rfl, _⟩
    exact q _
end
end Yf
set_option Elab.async false
set_option linter.all false
set_option maxRecDepth 100000
set_option maxHeartbeats 4000000
/-! F17: the head, for a law that runs softly. -/
namespace Yf
open PySem PySem.W PySem.Calls PySem.Spec PyProof.Rows GenW

/-- the tree of a law's thread -/
def lawTree (name : Str) (vs : List Value) : Sem PySem.Fin := do match ← nsGet mainNs name with
  | some f => do ret (← PySem.call f vs)
  | none => unsupported "claim.caller:no-such-global"
/-- what stands below a law's thread -/
def Bottom (M : Model) (n0 : Nat) (R : Result → Shared → Prop) (n : Nat) (st : List Frame) (Ψ : Shared → Thread → Prop) : Prop := n = n0 ∧ st = [] ∧ Ψ = Halts M R

theorem callFrom_soft {c : ClaimW} {tree : List Value → Sem PySem.Fin} {w : World} {s : Shared} {free : Addr → Prop} {gens : Prop} {kept : Heap → Prop} (hz : s.asleep) (hgens : s.gens = #[])
    (hspec : ∀ args, c.pre args = true → WData.layableAll args = true →
      ∀ ord : List DictEntry → List DictEntry, (∀ l, (ord l).Perm l) →
      ∃ vs s₁, layAllW c.records (classAt s.heap) w.params ord args s = some (vs, s₁) ∧
        RunOn (model c.prog w) callerB (Bottom (model c.prog w) s₁.gens.size (fun r s' => c.Ends s args vs s₁ r s' ∧ s'.os = s.os ∧ kept s'.heap)) (.builtin "claim.caller" {}) (tree vs) [] s₁) :
    c.CallFrom (fun vs => ⟨tree vs, .builtin "claim.caller" {}, default, []⟩) w free gens kept s := by
  intro args hpre hlay ord hord
  obtain ⟨vs, s₁, hlaid, hcode⟩ := hspec args hpre hlay ord hord
  have hal := layAllW_rest _ _ _ hlaid
  obtain ⟨k, r, s', s'', hrun, hsched, hfo, hcase, hos, hkp⟩ := thread_soft (prog := c.prog) (w := w) (t := tree vs) (s := s₁)
    (R := fun r s' => c.Ends s args vs s₁ r s' ∧ s'.os = s.os ∧ kept s'.heap) (Shared.asleep_of_life hal.2.2.2 hz) hcode
  obtain ⟨eh, _, _, eo, _⟩ := Shared.forget_eq hfo
  have hcase := hcase.congr eh
  have hkp : kept s'.heap := by first | exact eh ▸ hkp | (rw [eh] at hkp; exact hkp) | (rw [← eh] at hkp; exact hkp)
  rw [← eo] at hos
  have hlife : s'.heap.life = s.heap.life := (runN_life _ _ _ hrun).trans hal.2.2.2
  refine ⟨vs, s₁, hlaid, k, _, s', hsched, ?_, (fun _ i x hx => by rw [hgens] at hx; simp at hx), hkp, by rw [hlife], Shared.rest_eq hos⟩
  rcases hcase with ⟨v, rfl, d1, d2, d3, d4, d5⟩ | ⟨e, ob, cls, rfl, d1, d2, d3, d4, d5⟩
  · exact .inl ⟨v, rfl, d1, d2, d3, fun b o y _ => d4 b o y, d5⟩
  · exact .inr ⟨e, ob, cls, rfl, d1, d2, d3, d4, fun b o y _ => d5 b o y⟩

/-- what is wanted of a law's walk -/
abbrev WalkY (q : Program) (loose : List Str) (XP : (Str → Option Value) → Heap → Prop) (YP : World → Heap → Prop) (r : RowW) (d : DefRec) (kwd : List (Str × Expr)) : Prop :=
  ∀ (w : World) (s₀ s₁ : Shared) (mg mb : Str → Option Value), Ground q loose r.records XP w s₀ mg mb s₁.heap → YP w s₁.heap → ∀ (a : Addr) (o : Obj) (pm cd doc dV kV : Value), s₁.heap.get? a = some o →
    o.data = .func { docDef d.name d.params d.body d.scope pm cd doc with defaults := dV, kwdefaults := kV } → s₁.heap.CodeRec cd d.name → Dflts mg s₁.heap d.params kwd dV kV → mg d.name = some (.ref a) → s₁.gens = #[] →
    ∀ (args : List WData) (vals : List Value) (as : List Addr), r.claim.pre args = true → WData.layableAll args = true → ReadsAllW r.records (classAt s₀.heap) s₁.heap vals args as → WellAll w.params s₁.heap vals args → (∀ a ∈ as, (a == sysModules) = false) →
      ∀ R : Result → Shared → Prop, (∀ x s', GoodWG r.claim (classAt s₀.heap) (ExcName.means s₀.heap) args s₁ x s' → R x s') →
        RunOn (model r.prog w) callerB (Bottom (model r.prog w) s₁.gens.size R) (.builtin "claim.caller" {}) (lawTree r.name vals) [] s₁

theorem open_anyY {r : RowW} {q : Program} {loose defs kps : List Str} {writes : Bool} {Xt : Shared → Bool} {XP : (Str → Option Value) → Heap → Prop} {α : Type} {Yo : Shared → α} {Ya : World → α} {YP : World → Heap → Prop} {N : Nat}
    (left : LeftO r.prog q loose Xt Yo Ya N) (hY : ∀ w s, Yo s = Ya w → YP w s.heap) (hYk : ∀ w h h', YP w h → (∀ b o, h.get? b = some o → h'.get? b = some o) → YP w h') (hX : ∀ s, Xt s = true → XP (s.heap.nsMap mainGlobals) s.heap) (hXk : ∀ mg h h', XP mg h → (∀ b o, h.get? b = some o → h'.get? b = some o) → XP mg h')
    (hRf : ∀ s, Xt s = true → RecFacts r.records s.heap) (hwr : (!writes || r.records.isEmpty) = true) (ok : (chainsOk q && opensWell r.prog && (frees r && r.within.isEmpty)) = true) (hb : r.prog.bare) (hw : r.promised)
    (pin : ∀ w s, s.heap.isNs mainGlobals = true → Ground q loose [] XP w s (s.heap.nsMap mainGlobals) (s.heap.nsMap builtinsNs) s.heap → ∀ n ∈ defs, isTheDefsW r.prog s.heap n)
    (call : ∀ (w : World) (s₀ s₁ : Shared) (mg mb : Str → Option Value), Ground q loose r.records XP w s₀ mg mb s₁.heap → YP w s₁.heap → ∀ (args : List WData) (vs : List Value) (as : List Addr),
      r.claim.pre args = true → WData.layableAll args = true → Laid r.records w s₀ s₁ args vs as → sysModules < s₀.heap.objs.size →
        ∀ R : Result → Shared → Prop, (∀ x s', GoodWG r.claim (classAt s₀.heap) (ExcName.means s₀.heap) args s₁ x s' → R x s') →
          RunOn (model r.prog w) callerB (Bottom (model r.prog w) s₁.gens.size R) (.builtin "claim.caller" {}) (lawTree r.name vs) [] s₁) :
    r.claim.HoldsOpenBy (fun vs => ⟨lawTree r.name vs, .builtin "claim.caller" {}, default, []⟩) defs kps writes := by
  obtain ⟨ok, k5⟩ := Bool.and_eq_true_iff.mp ok
  obtain ⟨hch, o1⟩ := Bool.and_eq_true_iff.mp ok
  obtain ⟨k5, k6⟩ := Bool.and_eq_true_iff.mp k5
  obtain ⟨hsame, hu, ha, hap, hm⟩ := frees_parts k5
  refine ⟨⟨hb, o1, by show r.makers.map _ = []; rw [hm]; rfl⟩, hw.witness, fun w => ⟨(left.behind hX hch w).1, fun s' hs' => ?_⟩⟩
  obtain ⟨s₀, hf, hg0, s, hT, hz, hgens, hg, G00, y⟩ := (left.behind (XP := fun mg h => XP mg h ∧ RecFacts r.records h) (fun s hs => ⟨hX s hs, hRf s hs⟩) hch w).2 s' hs'
  have G0 : Ground q loose [] XP w s (s.heap.nsMap mainGlobals) (s.heap.nsMap builtinsNs) s.heap := ⟨G00.T, G00.B, G00.D, G00.TE, G00.TD, G00.W, G00.X.1, G00.cls, G00.has, G00.apart, G00.once, G00.K⟩
  have RF := G00.X.2
  have hT' := hT
  refine ⟨s₀, hf, hg0, s, hT, pin w s hg G0, RF.1, RF.2.1, ?_⟩
  have hgens : s.gens = #[] := Array.eq_empty_of_size_eq_zero (beq_iff_eq.mp hgens)
  have G : Ground q loose r.records XP w s _ _ s.heap := RF.ground G0
  refine callFrom_soft (c := r.claim) hz hgens fun args hpre hlay ord hord => ?_
  obtain ⟨⟨vs, s₁⟩, hlaid⟩ := Option.isSome_iff_exists.mp (layAllW_isSome (P := w.params) (ord := ord) G.has args r.args s (pre_splitW hpre).1)
  have keeps := layAllW_keeps _ _ _ hlaid
  have hal := layAllW_rest _ _ _ hlaid
  obtain ⟨as, hrd, hin, hold⟩ := reads_layAllW hord _ _ _ hlaid hlay s₁.heap (fun _ _ e => e)
  have L : Laid r.records w s s₁ args vs as := ⟨⟨ord, hord, hlaid⟩, hrd, hin, hold, keeps, hal.1.trans hgens, hal.2.2.1⟩
  have G₁ := G.keeps hXk keeps
  have hi := ident_freeW hu ha hap
  have hwi : r.claim.within = [] := List.isEmpty_iff.mp k6
  refine ⟨vs, s₁, hlaid, call w s s₁ _ _ G₁ (hYk _ _ _ (hY w s y) keeps) args vs as hpre hlay L G.low _ fun x s' g => ?_⟩
  have z := g.laid (c := r.claim) hsame hwi hi L
  exact ⟨z.1, z.2.1, fun q => ⟨namesKept_of hT' hg kps keeps g.2.1.old, noTable hwr q⟩⟩

/-- the head's theorem (k_head takes this one, inside this namespace) -/
theorem PySem.W.holds_open {r : OpenRow} {q : Program} {loose : List Str} {Xt : Shared → Bool} {XP : (Str → Option Value) → Heap → Prop} {α : Type} {Yf : Shared → α} {Ya : World → α} {YP : World → Heap → Prop} {d : DefRec} {kwd : List (Str × Expr)} {N : Nat}
    (left : LeftO r.prog q loose Xt Yf Ya N) (hY : ∀ w s, Yf s = Ya w → YP w s.heap) (hYk : ∀ w h h', YP w h → (∀ b o, h.get? b = some o → h'.get? b = some o) → YP w h')
    (hX : ∀ s, Xt s = true → XP (s.heap.nsMap mainGlobals) s.heap) (hXk : ∀ mg h h', XP mg h → (∀ b o, h.get? b = some o → h'.get? b = some o) → XP mg h')
    (hdef : defOf q r.name = some (d, kwd)) (hp : r.prog.theDef r.name = some (d.params, d.body, d.scope)) (hk : kwWritten? d.params.kwonlyargs d.params.kw_defaults = some kwd) (hRf : ∀ s, Xt s = true → RecFacts r.records s.heap) (hwr : (!r.writes || r.records.isEmpty) = true)
    (k1 : r.wellSaid = true) (ok : (chainsOk q && opensWell r.prog && (frees r.toRowW && r.within.isEmpty)) = true) (hb : r.prog.bare) (hw : r.toRowW.promised)
    (call : WalkY q loose XP YP r.toRowW d kwd) : r.Holds := by
  refine ⟨k1, hw, open_anyY (r := r.toRowW) left hY hYk hX hXk hRf hwr ok hb hw (fun w s hg G n hn => ?_) fun w s₀ s₁ mg mb G Y args vs as hpre hlay L low R hR => ?_⟩
  · obtain rfl : n = r.name := by split at hn <;> simp_all
    exact pinned_of_view hg G hdef hp hk
  · obtain ⟨a, o, pm, cd, doc, dV, kV, h1, h2, h3, h4, h5⟩ := G.fn hdef
    exact call w s₀ s₁ mg mb G Y a o pm cd doc dV kV h2 h3 h4 h5 (defOf_name hdef ▸ h1) L.gens args vs as hpre hlay L.reads L.well (L.low low) R hR
end Yf
set_option Elab.async false
set_option linter.all false
set_option maxRecDepth 100000
set_option maxHeartbeats 4000000
/-! W1: the walk of the law. -/
namespace Yf
open _root_.PySem _root_.PySem.Spec PyProof.Rows L2 GenW

/-- what the law's def promises -/
def LawOk (P : Program) (w : World) (K : _root_.PySem.W.Frag) (mg : Str → Option Value) (fa : Addr) : Prop :=
  ∃ (oc : Value) (od : Option Addr) (dV kV doc pm : Value) (an : Option Addr) (cdv ct : Value) (osl : Array (Option Value)), K.lookup fa = some ⟨oc, od, .func (_root_.PySem.W.fnOf "law" "law" (defArgs sLaw) (defBody sLaw) (defScope sLaw) dV kV doc pm an cdv ct), osl⟩ ∧ _root_.PySem.W.codeIn K cdv "law" = true ∧
    (∀ (s : Shared) (v : Value), BindsTo s (_root_.PySem.W.fnOf "law" "law" (defArgs sLaw) (defBody sLaw) (defScope sLaw) dV kV doc pm an cdv ct) ⟨[v], []⟩ [("_law_script", v)]) ∧
    ∀ base : Heap, K.In base → base.Ns mainGlobals mg → ∀ (s : Shared) (H : Hp) (a : Addr) (cs : List Int) (B : Nat → List Frame → (Shared → Thread → Prop) → Prop), SqL K H a (cs.map V.int) → cs.length ≤ 63 →
      ∃ t : TSI Unit, GSts (lX CX0 P w K mg base nLaw "law" (defScope sLaw) fa cdv s H) callerB (fun _ : Unit => B) (fun _ => []) (defBody sLaw) t ∧ t { nx := fun _ _ H' => (fun v _ => v = V.bl true : VK) .non H', rt := fun _ v H' => (fun v _ => v = V.bl true : VK) v H' } () (start nLaw [.ref a]) H

theorem law_run {P : Program} {w : World} {K : _root_.PySem.W.Frag} {mg mb : Str → Option Value} {fa a : Addr} {nm : Str} {s₁ : Shared} {vs : List Value} {ns : List Int} {B : Nat → List Frame → (Shared → Thread → Prop) → Prop}
    (KX : K.In s₁.heap) (hns : s₁.heap.Ns mainGlobals mg) (hb : s₁.heap.Ns builtinsNs mb) (hbb : ∀ x : Str, x ≠ "__name__" → mb x = bootBuiltins x) (hlim : s₁.heap.NoLimit) (hg : s₁.gens = #[])
    (ha : s₁.heap.get? a = some { cls := .type "list", data := .seq vs.toArray }) (hi : IntsAre vs ns) (hl : ns.length ≤ 63) (hm : mg nm = some (.ref fa))
    (F : LawOk P w K mg fa)
    (fin : ∀ s', OldK s₁.heap s'.heap → s'.os = s₁.os → AllBare s'.gens → RunOn (model P w) callerB B (.builtin "claim.caller" {}) (leafOf (.ok (.ret (.bool true)))) [] s') :
    RunOn (model P w) callerB B (.builtin "claim.caller" {}) (lawTree nm [.ref a]) [] s₁ := by
  have rv := vals_ints hi
  have lenV := hi.length
  have h63 : (63 : Nat) ≤ sizeLine := by decide
  obtain ⟨oc, od, dV, kV, doc, pm, an, cdv, ct, osl, lk, hcd, hbind, hbody⟩ := F
  have core : ∀ H : Hp, Only H → SqL K H a (ns.map V.int) → HOk P w H s₁.heap → (∀ b, H b ≠ none → b = a) → (H a ≠ none → K.lookup a = none) →
      RunOn (model P w) callerB B (.builtin "claim.caller" {}) (lawTree nm [.ref a]) [] s₁ := by
    intro H hO hS hok hA hK
    have base_of : ∀ {b : Addr} {o : Obj}, s₁.heap.get? b = some o → H b = none → (hidT s₁.heap H).get? b = some o := fun e n => hidT_get e n
    have noA : ∀ {b : Addr} {o : Obj} {es : Array DictEntry} {ep : Nat}, s₁.heap.get? b = some o → o.data = .dict es ep → H b = none := fun {b o es ep} e d => by
      cases q : H b with
      | none => rfl
      | some u =>
        have e' : b = a := hA b (by rw [q]; simp)
        subst e'
        rw [ha] at e; cases e
        have d' : Data.seq vs.toArray _ = Data.dict es ep := d
        cases d'
    have nsK : ∀ {b : Addr} {m : Str → Option Value}, s₁.heap.Ns b m → (hidT s₁.heap H).Ns b m := fun {b m} ⟨o, es, ep, e, d, r⟩ => ⟨o, es, ep, base_of e (noA e d), d, r⟩
    have hKb : K.In (hidT s₁.heap H) := fun b o e => base_of (KX b o e) (by
      cases q : H b with
      | none => rfl
      | some u =>
        have e' : b = a := hA b (by rw [q]; simp)
        subst e'
        rw [hK (by rw [q]; simp)] at e; cases e)
    have hM : Mod K mg (hidT s₁.heap H) := ⟨hKb, nsK hns, ⟨mb, nsK hb, hbb⟩, let ⟨mc, h1, h2⟩ := hlim; ⟨mc, nsK h1, h2⟩⟩
    have e0 : Env0 P w K mg (hidT s₁.heap H) callerA [] s₁ H := ⟨rfl, hM, fun b o e => of_hidT e, Nat.le_of_eq (hidT_size _ _), trivial, fun b hb => absurd (show b ∈ ([] : List Addr) from hb) (by simp), hok, .of_eq hg⟩
    refine run_law (CX := CX0) (k := 24) (N := nLaw) (ps := ["_law_script"]) (us := [.ref a]) (vs := [.ref a]) (Q := fun v _ => v = V.bl true) lk hcd scLaw rfl ⟨rfl, by decide, by decide⟩ e0 (hbind s₁ (.ref a)) (.cons rfl .nil) hns hm (hbody _ hKb (nsK hns) s₁ H a ns B hS hl) fun u s' h => ?_
    obtain ⟨v, H', os, bare, un, hok', r', q⟩ := h
    have q' : v = .bl true := q
    subst q'
    obtain rfl : u = Value.bool true := r'
    refine fin s' (OldK.of_keep fun b o e => ?_) os bare
    cases q : H b with
    | none => exact un.keep b o e q (by intro z; exact absurd (show b ∈ ([] : List Addr) from z) (by simp)) (by simp)
    | some u =>
      rcases hO b with z | ⟨ob, xs, z⟩
      · rw [q] at z; cases z
      · have z2 := un.frzs b ob _ z
        obtain ⟨e1, _⟩ := hok b _ z
        obtain ⟨e2, _⟩ := hok' b _ z2
        rw [e] at e1; cases e1
        exact e2
  cases hk : K.lookup a with
  | some o =>
    have e := KX a o hk
    rw [ha] at e
    cases e
    refine core (fun _ => none) (fun _ => .inl rfl) (.inr ⟨_, vs.toArray, _, hk, rfl, rfl, rfl, by rw [List.size_toArray, lenV]; omega, by simpa using rv⟩) (fun b u z => by have z' : (none : Option HO) = some u := z; cases z') (fun b z => absurd rfl z) fun z => absurd rfl z
  | none =>
    refine core (fun b => if b = a then some (.frz { cls := .type "list", data := .seq vs.toArray } (.lst (ns.map V.int))) else none) (fun b => ?_) (.inl (.inr ⟨{ cls := .type "list", data := .seq vs.toArray }, if_pos rfl⟩)) (fun b u z => ?_) (fun b z => ?_) fun _ => hk
    · by_cases hb : b = a
      · exact .inr ⟨_, _, if_pos hb⟩
      · exact .inl (if_neg hb)
    · by_cases hb : b = a
      · have z' := (if_pos hb).symm.trans z
        cases z'
        subst hb
        exact ⟨ha, by rw [List.length_map]; omega, vs, _, rv, ha⟩
      · have z' := (if_neg hb).symm.trans z
        cases z'
    · by_cases hb : b = a
      · exact hb
      · exact absurd (if_neg hb) z

theorem walkY_of {l : _root_.PySem.W.OpenLaw} {q : Program} {loose : List Str} {XP : (Str → Option Value) → Heap → Prop} {YP : World → Heap → Prop} {d : DefRec} {K : Params → _root_.PySem.W.Frag}
    (hn : l.most = some 63) (hdf : d.params.defaults = []) (hnm : l.row.toRowW.name = d.name)
    (hY : ∀ (w : World) (h : Heap), YP w h → (K w.params).In h)
    (F : ∀ (w : World) (mg : Str → Option Value) (fa : Addr) (h : Heap), (K w.params).In h → h.Ns mainGlobals mg → mg d.name = some (.ref fa) → LawOk l.prog w (K w.params) mg fa) :
    WalkY q loose XP YP l.row.toRowW d [] := by
  intro w s₀ s₁ mg mb G Y fa o pm cd doc dV kV ho hd hcd hD hmg hg args vals as hpre hlay hrd hwl hlo R hR
  obtain ⟨a, vs, ns, rfl, rfl, hobj, hints, hlen⟩ := Att.script_of hn hpre hwl
  have KX := hY w _ Y
  refine law_run (nm := l.row.toRowW.name) KX G.T.g G.T.b G.T.builtins G.T.nolimit hg hobj hints hlen (hnm ▸ hmg) (F w mg fa _ KX G.T.g hmg) fun s' h2 h3 h4 => ?_
  exact run_halt (s := s₁) (.ok (.ret (.bool true))) (hR _ _ ⟨.inl ⟨.bool true, .bool true, [], rfl, fun _ => rfl, .bool true, Att.post_true l _, fun _ => ⟨List.Pairwise.nil, fun _ hm => (nomatch hm)⟩⟩, h2, h3, h4⟩) h4
end Yf
set_option Elab.async false
set_option linter.all false
set_option maxRecDepth 100000
set_option maxHeartbeats 4000000
/-! W2: what the top has written; the law's promise. -/
namespace Yf
open _root_.PySem _root_.PySem.Spec PyProof.Rows L2

theorem kit_me {K : _root_.PySem.W.Frag} {C : Addr} : _root_.PySem.W.kitOne K (.ref C) (.ref C) = some true := by
  unfold _root_.PySem.W.kitOne
  simp
theorem exm_me {K : _root_.PySem.W.Frag} {C : Addr} (e : _root_.PySem.W.subIn K (.ref C) (.type "BaseException") = some true) (i : _root_.PySem.W.isClsIn K C = true) (t : _root_.PySem.W.typeIn K (.ref C) = some (.type "type")) (u : _root_.PySem.W.subIn K (.ref C) (.ref C) = some true) :
    _root_.PySem.W.exmOne K (.ref C) (.ref C) = some true := by
  have i' : (_root_.PySem.W.clsIn K C).isSome = true := i
  simp [_root_.PySem.W.exmOne, _root_.PySem.W.kitCls, e, i', t, u]
/-- a def of the module -/
def DnE (K : _root_.PySem.W.Frag) (mg : Str → Option Value) (nm : Str) (st : Stmt) (ps : List Str) : Prop := ∃ f fd, Dn K mg nm st ps f fd
theorem dn_mk {K : _root_.PySem.W.Frag} {h : Heap} {mg : Str → Option Value} {nm : Str} {st : Stmt} {ps : List Str} {f : Addr} {oc kV dc pm cd ct : Value} {od an : Option Addr} {sl : Array (Option Value)} (X : K.In h) (G : h.Ns mainGlobals mg)
    (hb : ∀ (kV doc pm : Value) (an : Option Addr) (cdv ct : Value) (us : List Value), us.length = ps.length → bindArgs (_root_.PySem.W.fnOf nm nm (defArgs st) (defBody st) (defScope st) .none kV doc pm an cdv ct) ⟨us, []⟩ = pure (ps.zip us))
    (a : _root_.PySem.W.nsIn K mainGlobals nm = some (some (.ref f))) (l : K.lookup f = some ⟨oc, od, .func (_root_.PySem.W.fnOf nm nm (defArgs st) (defBody st) (defScope st) .none kV dc pm an cd ct), sl⟩)
    (c : _root_.PySem.W.codeIn K cd nm = true) (k : _root_.PySem.W.keepIn K (.ref f) = true) : DnE K mg nm st ps :=
  ⟨f, _, fun_mk l c k, _root_.PySem.W.mg_of X G a, (fun_mk l c k).binds hb⟩
theorem mn_mk {K : _root_.PySem.W.Frag} {C : Addr} {nm qual : Str} {st : Stmt} {ps : List Str} {f : Addr} {oc kV dc pm cd ct : Value} {od an : Option Addr} {sl : Array (Option Value)}
    (hb : ∀ (kV doc pm : Value) (an : Option Addr) (cdv ct : Value) (us : List Value), us.length = ps.length → bindArgs (_root_.PySem.W.fnOf nm qual (defArgs st) (defBody st) (defScope st) .none kV doc pm an cdv ct) ⟨us, []⟩ = pure (ps.zip us))
    (a : _root_.PySem.W.findIn K (.ref C) nm = some (some (.ref f))) (i : _root_.PySem.W.isFn K (.ref f) = true) (l : K.lookup f = some ⟨oc, od, .func (_root_.PySem.W.fnOf nm qual (defArgs st) (defBody st) (defScope st) .none kV dc pm an cd ct), sl⟩)
    (c : _root_.PySem.W.codeIn K cd qual = true) (k : _root_.PySem.W.keepIn K (.ref f) = true) : ∃ fd, Mn K C nm qual st ps f fd :=
  ⟨_, fun_mk l c k, ⟨a, i, k⟩, (fun_mk l c k).binds hb⟩
/-- the class Routine -/
def RoutineF (K : _root_.PySem.W.Frag) (mg : Str → Option Value) : Prop := ∃ CR fI fE fC fR fdI fdE fdC fdR, mg "Routine" = some (.ref CR) ∧ RC K CR ∧ InC K CR ∧ Mk K CR fI ∧ Mn K CR "__init__" "Routine.__init__" mRInit ["self", "blocks", "jumps"] fI fdI ∧
  Mn K CR "__eq__" "Routine.__eq__" mREq ["self", "other"] fE fdE ∧ Mn K CR "__contains__" "Routine.__contains__" mRContains ["self", "x"] fC fdC ∧ Mn K CR "is_run" "Routine.is_run" mRIsRun ["self", "value"] fR fdR
/-- the class Part -/
def PartF (K : _root_.PySem.W.Frag) (mg : Str → Option Value) : Prop := ∃ C fI fE fJ fK gp fdI fdE fdJ fdK, mg "Part" = some (.ref C) ∧ PC K C ∧ InC K C ∧ Mk K C fI ∧ Mn K C "__init__" "Part.__init__" mPInit ["self", "routine", "jumps"] fI fdI ∧
  Mn K C "__eq__" "Part.__eq__" mPEq ["self", "other"] fE fdE ∧ Fun K "jumps" "Part.jumps" mPJumps fJ fdJ ∧ PropOf K C "jumps" gp fJ ∧ Binds K fdJ ["self"] [] ∧ Mn K C "kept_runs" "Part.kept_runs" mPKept ["self"] fK fdK
/-- the class NoRun -/
def NoRunF (K : _root_.PySem.W.Frag) (mg : Str → Option Value) : Prop := ∃ CN f fd, NR K mg CN f fd ∧ XfC K CN ∧ _root_.PySem.W.exmOne K (.ref CN) (.ref CN) = some true
theorem routine_mk {K : _root_.PySem.W.Frag} {h : Heap} {mg : Str → Option Value} {C fI fE fC fR : Addr} (X : K.In h) (G : h.Ns mainGlobals mg)
    (g : _root_.PySem.W.nsIn K mainGlobals "Routine" = some (some (.ref C)))
    (pg : _root_.PySem.W.plainGet K C Str.empty = true) (hd : _root_.PySem.W.hasDictIn K C = true) (po : _root_.PySem.W.plainOver K C = true) (sa : _root_.PySem.W.findIn K (.ref C) "__setattr__" = some (some (.builtin "object.__setattr__")))
    (n1 : _root_.PySem.W.findIn K (.ref C) "blocks" = some none) (n2 : _root_.PySem.W.findIn K (.ref C) "rows" = some none) (n3 : _root_.PySem.W.findIn K (.ref C) "there" = some none)
    (ha : _root_.PySem.W.findIn K (.ref C) "__class__" = some (some (.builtin "object.__class__"))) (hn : _root_.PySem.W.specialIn K (.builtin "object.__class__") "__get__" = some (some (.builtin "getset_descriptor.__get__")))
    (ht : _root_.PySem.W.takesIn K (.builtin "object.__class__") = some true) (hm : _root_.PySem.W.mroIn K C (.type "object") = some true)
    (mk : _root_.PySem.W.makesIn K C = true) (kc : _root_.PySem.W.keepIn K (.ref C) = true)
    (m1 : ∃ fd, Mn K C "__init__" "Routine.__init__" mRInit ["self", "blocks", "jumps"] fI fd) (m2 : ∃ fd, Mn K C "__eq__" "Routine.__eq__" mREq ["self", "other"] fE fd)
    (m3 : ∃ fd, Mn K C "__contains__" "Routine.__contains__" mRContains ["self", "x"] fC fd) (m4 : ∃ fd, Mn K C "is_run" "Routine.is_run" mRIsRun ["self", "value"] fR fd) : RoutineF K mg := by
  obtain ⟨fd1, m1⟩ := m1
  obtain ⟨fd2, m2⟩ := m2
  obtain ⟨fd3, m3⟩ := m3
  obtain ⟨fd4, m4⟩ := m4
  exact ⟨C, fI, fE, fC, fR, fd1, fd2, fd3, fd4, _root_.PySem.W.mg_of X G g, ⟨⟨pg, hd, po, sa⟩, n1, n2, n3⟩, ⟨⟨pg, hd, po, sa⟩, ha, hn, ht, hm, kit_me⟩, ⟨mk, m1.m.at_, m1.m.fn, kc⟩, m1, m2, m3, m4⟩
theorem part_mk {K : _root_.PySem.W.Frag} {h : Heap} {mg : Str → Option Value} {C fI fE fJ fK gp : Addr} {rest : List Value} {oc kV dc pm cd ct : Value} {od an : Option Addr} {sl : Array (Option Value)} (X : K.In h) (G : h.Ns mainGlobals mg)
    (g : _root_.PySem.W.nsIn K mainGlobals "Part" = some (some (.ref C)))
    (pg : _root_.PySem.W.plainGet K C Str.empty = true) (hd : _root_.PySem.W.hasDictIn K C = true) (po : _root_.PySem.W.plainOver K C = true) (sa : _root_.PySem.W.findIn K (.ref C) "__setattr__" = some (some (.builtin "object.__setattr__")))
    (n1 : _root_.PySem.W.findIn K (.ref C) "routine" = some none) (n2 : _root_.PySem.W.findIn K (.ref C) "allowed" = some none) (n3 : _root_.PySem.W.findIn K (.ref C) "useful" = some none)
    (ha : _root_.PySem.W.findIn K (.ref C) "__class__" = some (some (.builtin "object.__class__"))) (hn : _root_.PySem.W.specialIn K (.builtin "object.__class__") "__get__" = some (some (.builtin "getset_descriptor.__get__")))
    (ht : _root_.PySem.W.takesIn K (.builtin "object.__class__") = some true) (hm : _root_.PySem.W.mroIn K C (.type "object") = some true)
    (mk : _root_.PySem.W.makesIn K C = true) (kc : _root_.PySem.W.keepIn K (.ref C) = true)
    (m1 : ∃ fd, Mn K C "__init__" "Part.__init__" mPInit ["self", "routine", "jumps"] fI fd) (m2 : ∃ fd, Mn K C "__eq__" "Part.__eq__" mPEq ["self", "other"] fE fd)
    (pa : _root_.PySem.W.findIn K (.ref C) "jumps" = some (some (.ref gp))) (pg2 : _root_.PySem.W.specialIn K (.ref gp) "__get__" = some (some (.builtin "property.__get__"))) (pt : _root_.PySem.W.takesIn K (.ref gp) = some true) (pr : _root_.PySem.W.recIn K gp "property" = some (.ref fJ :: rest))
    (l : K.lookup fJ = some ⟨oc, od, .func (_root_.PySem.W.fnOf "jumps" "Part.jumps" (defArgs mPJumps) (defBody mPJumps) (defScope mPJumps) .none kV dc pm an cd ct), sl⟩) (c : _root_.PySem.W.codeIn K cd "Part.jumps" = true) (k : _root_.PySem.W.keepIn K (.ref fJ) = true)
    (m4 : ∃ fd, Mn K C "kept_runs" "Part.kept_runs" mPKept ["self"] fK fd) : PartF K mg := by
  obtain ⟨fd1, m1⟩ := m1
  obtain ⟨fd2, m2⟩ := m2
  obtain ⟨fd4, m4⟩ := m4
  exact ⟨C, fI, fE, fJ, fK, gp, fd1, fd2, _, fd4, _root_.PySem.W.mg_of X G g, ⟨⟨pg, hd, po, sa⟩, n1, n2, n3⟩, ⟨⟨pg, hd, po, sa⟩, ha, hn, ht, hm, kit_me⟩, ⟨mk, m1.m.at_, m1.m.fn, kc⟩, m1, m2, fun_mk l c k, ⟨pa, pg2, pt, rest, pr⟩,
    (fun_mk (st := mPJumps) l c k).binds (ps := ["self"]) (fun _ _ _ _ _ _ us hl => match us, hl with | [_], _ => rfl), m4⟩
theorem norun_mk {K : _root_.PySem.W.Frag} {h : Heap} {mg : Str → Option Value} {C f N : Addr} {nm q : Str} {bs bm : List Value} {sn : List Str} {sub : List Value} {ab : Bool} {col : Option Bool} {dd : Option Addr} {m0 m1 m2 m3 m5 : Option Value} {oc kV dc pm cd ct : Value} {od an : Option Addr} {sl : Array (Option Value)} (X : K.In h) (G : h.Ns mainGlobals mg)
    (g : _root_.PySem.W.nsIn K mainGlobals "NoRun" = some (some (.ref C)))
    (xL : K.lookup C = some (excClassObj nm q C N bs bm true sn sub ab col dd m0 m1 m2 m3 m5 "ValueError.__new__")) (hbm : _root_.PySem.HandSPX.refsVE bm = true)
    (sa : _root_.PySem.W.findIn K (.ref C) "__setattr__" = some (some (.builtin "object.__setattr__"))) (ga : _root_.PySem.W.findIn K (.ref C) "__getattribute__" = some (some (.builtin "BaseException.__getattribute__"))) (gg : _root_.PySem.W.findIn K (.ref C) "__getattr__" = some none)
    (no : _root_.PySem.W.findIn K (.ref C) "run" = some none) (iC : _root_.PySem.W.findIn K (.ref C) "__init__" = some (some (.ref f))) (tI : _root_.PySem.W.typeIn K (.ref f) = some (.type "function"))
    (kC : _root_.PySem.W.keepIn K (.ref C) = true) (eC : _root_.PySem.W.subIn K (.ref C) (.type "BaseException") = some true) (tC : _root_.PySem.W.typeIn K (.ref C) = some (.type "type")) (hC : _root_.PySem.W.hasDictIn K C = true) (ic : _root_.PySem.W.isClsIn K C = true) (sc : _root_.PySem.W.subIn K (.ref C) (.ref C) = some true)
    (l : K.lookup f = some ⟨oc, od, .func (_root_.PySem.W.fnOf "__init__" "NoRun.__init__" (defArgs mNRInit) (defBody mNRInit) (defScope mNRInit) .none kV dc pm an cd ct), sl⟩) (c : _root_.PySem.W.codeIn K cd "NoRun.__init__" = true) (k : _root_.PySem.W.keepIn K (.ref f) = true) : NoRunF K mg :=
  ⟨C, f, _, ⟨fun_mk l c k, (fun_mk (st := mNRInit) l c k).binds (ps := ["self", "run"]) (fun _ _ _ _ _ _ us hl => match us, hl with | [_, _], _ => rfl), ⟨⟨nm, q, N, bs, bm, sn, sub, ab, col, dd, m0, m1, m2, m3, m5, xL, hbm⟩, sa, eC, tC, kC⟩, no, iC, tI, _root_.PySem.W.mg_of X G g⟩, ⟨ga, gg, eC, hC⟩, exm_me eC ic tC sc⟩
/-- the law's own def -/
theorem law_mk {P : Program} {w : World} {K : _root_.PySem.W.Frag} {h : Heap} {mg : Str → Option Value} {fa f : Addr} {oc kV dc pm cd ct : Value} {od an : Option Addr} {sl : Array (Option Value)} (X : K.In h) (G : h.Ns mainGlobals mg) (hfa : mg "law" = some (.ref fa))
    (a : _root_.PySem.W.nsIn K mainGlobals "law" = some (some (.ref f))) (l : K.lookup f = some ⟨oc, od, .func (_root_.PySem.W.fnOf "law" "law" (defArgs sLaw) (defBody sLaw) (defScope sLaw) .none kV dc pm an cd ct), sl⟩) (c : _root_.PySem.W.codeIn K cd "law" = true)
    (B : Bi mg) (mb : ∃ t, mg "MOST_BLOCKS" = some (.int 40 t)) (mj : ∃ t, mg "MOST_JUMPS" = some (.int 120 t)) (RF : RoutineF K mg) (PF : PartF K mg) (NF : NoRunF K mg)
    (d1 : DnE K mg "is_integer" sIsInteger ["value"])
    (d2 : DnE K mg "within" sWithin ["value", "low", "high"])
    (d3 : DnE K mg "is_jump" sIsJump ["value", "blocks"])
    (d4 : DnE K mg "jumps_of" sJumpsOf ["run"])
    (d5 : DnE K mg "crossed" sCrossed ["first", "second", "block"])
    (d6 : DnE K mg "come_to" sComeTo ["blocks", "jumps"])
    (d7 : DnE K mg "come_from" sComeFrom ["blocks", "jumps"])
    (d8 : DnE K mg "useful_jumps" sUseful ["blocks", "jumps"])
    (d9 : DnE K mg "runs_from" sRunsFrom ["going", "last", "beginning"])
    (d10 : DnE K mg "going_on" sGoingOn ["jumps"])
    (d11 : DnE K mg "closed" sClosed ["routine", "runs"])
    (d12 : DnE K mg "_law_feed" sFeed ["_law_script", "_law_k"])
    (d13 : DnE K mg "_law_take" sTake ["_law_feed_here", "_law_many"])
    (d14 : DnE K mg "_law_pick" sPick ["_law_feed_here", "_law_some"])
    (d15 : DnE K mg "_law_steps" sSteps ["_law_run_here"])
    (d16 : DnE K mg "_law_run" sRun ["_law_feed_here", "_law_blocks"])
    (d17 : DnE K mg "_law_routine" sLRoutine ["_law_feed_here", "_law_most"])
    (d18 : DnE K mg "_law_rows" sRows ["_law_blocks", "_law_jumps"])
    (d19 : DnE K mg "_law_rests" sRests ["_law_block", "_law_last", "_law_jumps"])
    (d20 : DnE K mg "_law_part" sLPart ["_law_feed_here", "_law_rows_here", "_law_runs"])
    (d21 : DnE K mg "_law_keeping" sKeeping ["_law_runs", "_law_jumps"])
    (d22 : DnE K mg "_law_list" sList ["_law_feed_here", "_law_rows_here", "_law_runs"])
    (d23 : DnE K mg "_law_due" sDue ["_law_runs"])
    (d24 : DnE K mg "_law_bent" sBent ["_law_feed_here", "_law_blocks", "_law_run_here"])
    (d25 : DnE K mg "_law_refused" sRefused ["_law_feed_here", "_law_routine_here", "_law_blocks", "_law_runs"])
    (d26 : DnE K mg "_law_many_right" sMany []) : LawOk P w K mg fa := by
  have e := hfa.symm.trans (_root_.PySem.W.mg_of X G a)
  cases e
  obtain ⟨CR, fRI, fRE, fRC, fRR, fdRI, fdRE, fdRC, fdRR, gR, TR, ICR, MR, DRI, DRE, DRC, DRR⟩ := RF
  obtain ⟨C, fPI, fPE, fPJ, fPK, gp, fdPI, fdPE, fdPJ, fdPK, gP, TP, ICP, MP, DPI, DPE, FPJ, PPJ, bPJ, DPK⟩ := PF
  obtain ⟨CN, fN, fdN, N, XN, hex⟩ := NF
  obtain ⟨f1, fd1, d1⟩ := d1
  obtain ⟨f2, fd2, d2⟩ := d2
  obtain ⟨f3, fd3, d3⟩ := d3
  obtain ⟨f4, fd4, d4⟩ := d4
  obtain ⟨f5, fd5, d5⟩ := d5
  obtain ⟨f6, fd6, d6⟩ := d6
  obtain ⟨f7, fd7, d7⟩ := d7
  obtain ⟨f8, fd8, d8⟩ := d8
  obtain ⟨f9, fd9, d9⟩ := d9
  obtain ⟨f10, fd10, d10⟩ := d10
  obtain ⟨f11, fd11, d11⟩ := d11
  obtain ⟨f12, fd12, d12⟩ := d12
  obtain ⟨f13, fd13, d13⟩ := d13
  obtain ⟨f14, fd14, d14⟩ := d14
  obtain ⟨f15, fd15, d15⟩ := d15
  obtain ⟨f16, fd16, d16⟩ := d16
  obtain ⟨f17, fd17, d17⟩ := d17
  obtain ⟨f18, fd18, d18⟩ := d18
  obtain ⟨f19, fd19, d19⟩ := d19
  obtain ⟨f20, fd20, d20⟩ := d20
  obtain ⟨f21, fd21, d21⟩ := d21
  obtain ⟨f22, fd22, d22⟩ := d22
  obtain ⟨f23, fd23, d23⟩ := d23
  obtain ⟨f24, fd24, d24⟩ := d24
  obtain ⟨f25, fd25, d25⟩ := d25
  obtain ⟨f26, fd26, d26⟩ := d26
  refine ⟨_, _, _, _, _, _, _, _, _, _, l, c, fun s v => .of_eq rfl, fun base hK hns s H a cs Bb hs h63 => ?_⟩
  have gW : FnOk P w K mg base CX0 2 f2 fd2 ["value", "low", "high"] spWithin := ok_within d2 d1 B
  have gJ : FnOk P w K mg base CX0 3 f3 fd3 ["value", "blocks"] spIsJump := ok_isJump d3 gW d2 B
  have gJo : FnOk P w K mg base CX0 1 f4 fd4 ["run"] spJumpsOf := ok_jumpsOf d4 B
  have gCr : FnOk P w K mg base CX0 1 f5 fd5 ["first", "second", "block"] spCrossed := ok_crossed d5
  have gRC : FnOk P w K mg base CX0 4 fRC fdRC ["self", "x"] (spRIn CR) := ok_RIn DRC TR gJ d3
  have gRR : FnOk P w K mg base CX0 5 fRR fdRR ["self", "value"] (spIsRun CR) := ok_isRun DRR TR gRC DRC gJo d4 B
  have gRI : FnOk P w K mg base CX0 4 fRI fdRI ["self", "blocks", "jumps"] (spRInit CR) := ok_RInit DRI TR gW d2 gJ d3 B mb mj
  have gCt : FnOk P w K mg base CX0 1 f6 fd6 ["blocks", "jumps"] spComeTo := ok_comeTo d6
  have gCf : FnOk P w K mg base CX0 1 f7 fd7 ["blocks", "jumps"] spComeFrom := ok_comeFrom d7
  have gU : FnOk P w K mg base CX0 2 f8 fd8 ["blocks", "jumps"] spUseful := ok_useful d8 gCt d6 gCf d7
  have gG : FnOk P w K mg base CX0 1 f10 fd10 ["jumps"] spGoingOn := ok_goingOn d10
  have gRf : GFn2 P w K mg base 18 f9 fd9 ["going", "last", "beginning"] (spRunsFrom 8) := ok_runsFrom d9 8
  have gPI : FnOk P w K mg base CX0 5 fPI fdPI ["self", "routine", "jumps"] (spPInit C CR) := ok_PInit DPI TP TR gRC DRC gU d8 B
  have gRE : FnOk P w K mg base CX0 1 fRE fdRE ["self", "other"] (spREq CR) := ok_REq DRE TR ICR gR B
  have gPE : FnOk P w K mg base CX0 2 fPE fdPE ["self", "other"] (spPEq C CR) := ok_PEq DPE TP ICP gP B gRE DRE
  have gPJ : FnOk P w K mg base CX0 1 fPJ fdPJ ["self"] (spPJumps C CR) := ok_PJumps FPJ TP B
  have gPK : GFn2 P w K mg base 20 fPK fdPK ["self"] (spKept C CR) := ok_kept DPK.F TP TR gG d10 gRf d9
  have gC : FnOk P w K mg base (L2.CX P w) 7 f11 fd11 ["routine", "runs"] (spClosed C CR CN) := ok_closed (fp := 0) d11 TR N gRR DRR gJo d4 gCr d5 gPI DPI MP gP
  have gT : FnOk P w K mg base CX0 1 f13 fd13 ["_law_feed_here", "_law_many"] spTake := ok_take d13 B
  have gPk : FnOk P w K mg base CX0 2 f14 fd14 ["_law_feed_here", "_law_some"] spPick := ok_pick d14 gT d13 B
  have gSt : FnOk P w K mg base CX0 1 f15 fd15 ["_law_run_here"] spSteps := ok_steps d15 B
  have gF : FnOk P w K mg base CX0 1 f12 fd12 ["_law_script", "_law_k"] (spFeed K) := ok_feed d12 B
  have gLr : FnOk P w K mg base CX0 2 f16 fd16 ["_law_feed_here", "_law_blocks"] spLRun := ok_lrun d16 gT d13 B
  have gRw : FnOk P w K mg base CX0 1 f18 fd18 ["_law_blocks", "_law_jumps"] spRows := ok_rows d18 B
  have gRs8 : FnOk P w K mg base CX0 9 f19 fd19 ["_law_block", "_law_last", "_law_jumps"] (spRests 8) := ok_rests d19 B 8
  have gRs10 : FnOk P w K mg base CX0 11 f19 fd19 ["_law_block", "_law_last", "_law_jumps"] (spRests 10) := ok_rests d19 B 10
  have gKp : FnOk P w K mg base CX0 2 f21 fd21 ["_law_runs", "_law_jumps"] spKeeping := ok_keeping d21 gSt d15 B
  have gD : FnOk P w K mg base CX0 1 f23 fd23 ["_law_runs"] spDue := ok_due d23
  have gLp : FnOk P w K mg base CX0 3 f20 fd20 ["_law_feed_here", "_law_rows_here", "_law_runs"] spLPart := ok_lpart d20 gT d13 gPk d14 gSt d15 B
  have gLi : FnOk P w K mg base CX0 4 f22 fd22 ["_law_feed_here", "_law_rows_here", "_law_runs"] spList := ok_list d22 gT d13 gPk d14 gKp d21 gLp d20 B
  have gRo : FnOk P w K mg base CX0 3 f17 fd17 ["_law_feed_here", "_law_most"] spRoutine := ok_lroutine d17 gT d13 gPk d14 gLr d16 gSt d15 B
  have gBe : FnOk P w K mg base CX0 2 f24 fd24 ["_law_feed_here", "_law_blocks", "_law_run_here"] spBent := ok_bent d24 gT d13 B
  have gZ : FnG P w K mg base CX0 8 f25 fd25 ["_law_feed_here", "_law_routine_here", "_law_blocks", "_law_runs"] (spRefused CR) := ok_refused d25 TR N XN hex gT d13 gPk d14 gBe d24 gRR DRR gC d11 B
  have gM : FnOk P w K mg base CX0 12 f26 fd26 [] spMany := ok_many d26 TR B gRI DRI MR gR gPI DPI MP gP gC d11 gRs10 d19 gD d23 gPE DPE
  exact law_body (fP := 0) (Q := fun v _ => v = V.bl true) (Room.deeper (k := 24) (A := callerA) ⟨rfl, by decide, by decide⟩ _) B TP ICP gP gM d26 gF d12 gRo d17 gRI DRI MR gR gRw d18 gRs8 d19 gLi d22 gC d11 gD d23 gSt d15 gPJ PPJ bPJ gPK DPK.m DPK.b gZ d25 hs h63 (fun _ => rfl)
end Yf
set_option Elab.async false
set_option linter.all false
/-! W3: the theorem. -/
namespace Yf
open _root_.PySem _root_.PySem.W PyProof.Rows

set_option maxRecDepth 100000 in
set_option maxHeartbeats 0 in
open_top head for PySem.Challenge.rw_runledger_k13_whole_closed_lists

theorem num_mk {K : _root_.PySem.W.Frag} {h : _root_.PySem.Heap} {mg : Str → Option Value} {nm : Str} {i : Int} {t : Tok} (X : K.In h) (G : h.Ns mainGlobals mg) (e : _root_.PySem.W.nsIn K mainGlobals nm = some (some (.int i t))) : ∃ t, mg nm = some (.int i t) := ⟨t, _root_.PySem.W.mg_of X G e⟩
theorem bi_mk {K : _root_.PySem.W.Frag} {h : Heap} {mg : Str → Option Value} (X : K.In h) (G : h.Ns mainGlobals mg)
    (z1 : _root_.PySem.W.nsIn K mainGlobals "isinstance" = some none)
    (z2 : _root_.PySem.W.nsIn K mainGlobals "int" = some none)
    (z3 : _root_.PySem.W.nsIn K mainGlobals "bool" = some none)
    (z4 : _root_.PySem.W.nsIn K mainGlobals "tuple" = some none)
    (z5 : _root_.PySem.W.nsIn K mainGlobals "len" = some none)
    (z6 : _root_.PySem.W.nsIn K mainGlobals "all" = some none)
    (z7 : _root_.PySem.W.nsIn K mainGlobals "list" = some none)
    (z8 : _root_.PySem.W.nsIn K mainGlobals "zip" = some none)
    (z9 : _root_.PySem.W.nsIn K mainGlobals "enumerate" = some none)
    (z10 : _root_.PySem.W.nsIn K mainGlobals "sorted" = some none)
    (z11 : _root_.PySem.W.nsIn K mainGlobals "range" = some none)
    (z12 : _root_.PySem.W.nsIn K mainGlobals "max" = some none)
    (z13 : _root_.PySem.W.nsIn K mainGlobals "min" = some none)
    (z14 : _root_.PySem.W.nsIn K mainGlobals "abs" = some none)
    (z15 : _root_.PySem.W.nsIn K mainGlobals "repr" = some none) : Bi mg :=
  ⟨_root_.PySem.W.mg_none_of X G z1, _root_.PySem.W.mg_none_of X G z2, _root_.PySem.W.mg_none_of X G z3, _root_.PySem.W.mg_none_of X G z4, _root_.PySem.W.mg_none_of X G z5, _root_.PySem.W.mg_none_of X G z6, _root_.PySem.W.mg_none_of X G z7, _root_.PySem.W.mg_none_of X G z8, _root_.PySem.W.mg_none_of X G z9, _root_.PySem.W.mg_none_of X G z10, _root_.PySem.W.mg_none_of X G z11, _root_.PySem.W.mg_none_of X G z12, _root_.PySem.W.mg_none_of X G z13, _root_.PySem.W.mg_none_of X G z14, _root_.PySem.W.mg_none_of X G z15⟩
set_option maxRecDepth 100000 in
set_option maxHeartbeats 0 in
theorem holdsY : PySem.Challenge.rw_runledger_k13_whole_closed_lists.Holds := by
  refine head ?_
  k_fill
  refine walkY_of (l := PySem.Challenge.rw_runledger_k13_whole_closed_lists) rfl rfl rfl (fun w h Y => _root_.PySem.W.kIn_of Y) ?F
  case F =>
    intro w mg fa h KX G hmg
    have B : Bi mg := by
      refine' bi_mk KX G ?z1 ?z2 ?z3 ?z4 ?z5 ?z6 ?z7 ?z8 ?z9 ?z10 ?z11 ?z12 ?z13 ?z14 ?z15
      all_goals k_is
    have mb : ∃ t, mg "MOST_BLOCKS" = some (.int 40 t) := by
      refine' num_mk KX G ?aB
      (case aB => k_is)
    have mj : ∃ t, mg "MOST_JUMPS" = some (.int 120 t) := by
      refine' num_mk KX G ?aJ
      (case aJ => k_is)
    have RF : RoutineF (head.heap_39 w.params) mg := by
      refine' routine_mk KX G ?g_R ?pg_R ?hd_R ?po_R ?sa_R ?n1_R ?n2_R ?n3_R ?ha_R ?hn_R ?ht_R ?hm_R ?mk_R ?kc_R ?m1_R ?m2_R ?m3_R ?m4_R
      (case g_R => k_is); (case pg_R => k_is); (case hd_R => k_is); (case po_R => k_is); (case sa_R => k_is); (case n1_R => k_is); (case n2_R => k_is); (case n3_R => k_is); (case ha_R => k_is); (case hn_R => k_is); (case ht_R => k_is); (case hm_R => k_is); (case mk_R => k_is); (case kc_R => k_is)
      (case m1_R => refine' mn_mk (fun _ _ _ _ _ _ us hl => match us, hl with | [_, _, _], _ => rfl) ?a_1 ?i_1 ?l_1 ?c_1 ?k_1; (case a_1 => k_is); (case i_1 => k_is); (case l_1 => k_is); (case c_1 => k_is); (case k_1 => k_is))
      (case m2_R => refine' mn_mk (fun _ _ _ _ _ _ us hl => match us, hl with | [_, _], _ => rfl) ?a_2 ?i_2 ?l_2 ?c_2 ?k_2; (case a_2 => k_is); (case i_2 => k_is); (case l_2 => k_is); (case c_2 => k_is); (case k_2 => k_is))
      (case m3_R => refine' mn_mk (fun _ _ _ _ _ _ us hl => match us, hl with | [_, _], _ => rfl) ?a_3 ?i_3 ?l_3 ?c_3 ?k_3; (case a_3 => k_is); (case i_3 => k_is); (case l_3 => k_is); (case c_3 => k_is); (case k_3 => k_is))
      (case m4_R => refine' mn_mk (fun _ _ _ _ _ _ us hl => match us, hl with | [_, _], _ => rfl) ?a_4 ?i_4 ?l_4 ?c_4 ?k_4; (case a_4 => k_is); (case i_4 => k_is); (case l_4 => k_is); (case c_4 => k_is); (case k_4 => k_is))
    have PF : PartF (head.heap_39 w.params) mg := by
      refine' part_mk KX G ?g_P ?pg_P ?hd_P ?po_P ?sa_P ?n1_P ?n2_P ?n3_P ?ha_P ?hn_P ?ht_P ?hm_P ?mk_P ?kc_P ?m1_P ?m2_P ?pa_P ?pg2_P ?pt_P ?pr_P ?l_P ?c_P ?k_P ?m4_P
      (case g_P => k_is); (case pg_P => k_is); (case hd_P => k_is); (case po_P => k_is); (case sa_P => k_is); (case n1_P => k_is); (case n2_P => k_is); (case n3_P => k_is); (case ha_P => k_is); (case hn_P => k_is); (case ht_P => k_is); (case hm_P => k_is); (case mk_P => k_is); (case kc_P => k_is)
      (case m1_P => refine' mn_mk (fun _ _ _ _ _ _ us hl => match us, hl with | [_, _, _], _ => rfl) ?a_5 ?i_5 ?l_5 ?c_5 ?k_5; (case a_5 => k_is); (case i_5 => k_is); (case l_5 => k_is); (case c_5 => k_is); (case k_5 => k_is))
      (case m2_P => refine' mn_mk (fun _ _ _ _ _ _ us hl => match us, hl with | [_, _], _ => rfl) ?a_6 ?i_6 ?l_6 ?c_6 ?k_6; (case a_6 => k_is); (case i_6 => k_is); (case l_6 => k_is); (case c_6 => k_is); (case k_6 => k_is))
      (case pa_P => k_is); (case pg2_P => k_is); (case pt_P => k_is); (case pr_P => k_is); (case l_P => k_is); (case c_P => k_is); (case k_P => k_is)
      (case m4_P => refine' mn_mk (fun _ _ _ _ _ _ us hl => match us, hl with | [_], _ => rfl) ?a_7 ?i_7 ?l_7 ?c_7 ?k_7; (case a_7 => k_is); (case i_7 => k_is); (case l_7 => k_is); (case c_7 => k_is); (case k_7 => k_is))
    have NF : NoRunF (head.heap_39 w.params) mg := by
      refine' norun_mk KX G ?g_N ?xL_N ?hbm_N ?sa_N ?ga_N ?gg_N ?no_N ?iC_N ?tI_N ?kC_N ?eC_N ?tC_N ?hC_N ?ic_N ?sc_N ?l_N ?c_N ?k_N
      (case g_N => k_is); (case xL_N => k_is); (case hbm_N => decide +kernel); (case sa_N => k_is); (case ga_N => k_is); (case gg_N => k_is); (case no_N => k_is); (case iC_N => k_is); (case tI_N => k_is); (case kC_N => k_is); (case eC_N => k_is); (case tC_N => k_is); (case hC_N => k_is); (case ic_N => k_is); (case sc_N => k_is); (case l_N => k_is); (case c_N => k_is); (case k_N => k_is)
    have d1 : DnE (head.heap_39 w.params) mg "is_integer" sIsInteger ["value"] := by
      refine' dn_mk KX G (fun _ _ _ _ _ _ us hl => match us, hl with | [_], _ => rfl) ?a_8 ?l_8 ?c_8 ?k_8; (case a_8 => k_is); (case l_8 => k_is); (case c_8 => k_is); (case k_8 => k_is)
    have d2 : DnE (head.heap_39 w.params) mg "within" sWithin ["value", "low", "high"] := by
      refine' dn_mk KX G (fun _ _ _ _ _ _ us hl => match us, hl with | [_, _, _], _ => rfl) ?a_9 ?l_9 ?c_9 ?k_9; (case a_9 => k_is); (case l_9 => k_is); (case c_9 => k_is); (case k_9 => k_is)
    have d3 : DnE (head.heap_39 w.params) mg "is_jump" sIsJump ["value", "blocks"] := by
      refine' dn_mk KX G (fun _ _ _ _ _ _ us hl => match us, hl with | [_, _], _ => rfl) ?a_10 ?l_10 ?c_10 ?k_10; (case a_10 => k_is); (case l_10 => k_is); (case c_10 => k_is); (case k_10 => k_is)
    have d4 : DnE (head.heap_39 w.params) mg "jumps_of" sJumpsOf ["run"] := by
      refine' dn_mk KX G (fun _ _ _ _ _ _ us hl => match us, hl with | [_], _ => rfl) ?a_11 ?l_11 ?c_11 ?k_11; (case a_11 => k_is); (case l_11 => k_is); (case c_11 => k_is); (case k_11 => k_is)
    have d5 : DnE (head.heap_39 w.params) mg "crossed" sCrossed ["first", "second", "block"] := by
      refine' dn_mk KX G (fun _ _ _ _ _ _ us hl => match us, hl with | [_, _, _], _ => rfl) ?a_12 ?l_12 ?c_12 ?k_12; (case a_12 => k_is); (case l_12 => k_is); (case c_12 => k_is); (case k_12 => k_is)
    have d6 : DnE (head.heap_39 w.params) mg "come_to" sComeTo ["blocks", "jumps"] := by
      refine' dn_mk KX G (fun _ _ _ _ _ _ us hl => match us, hl with | [_, _], _ => rfl) ?a_13 ?l_13 ?c_13 ?k_13; (case a_13 => k_is); (case l_13 => k_is); (case c_13 => k_is); (case k_13 => k_is)
    have d7 : DnE (head.heap_39 w.params) mg "come_from" sComeFrom ["blocks", "jumps"] := by
      refine' dn_mk KX G (fun _ _ _ _ _ _ us hl => match us, hl with | [_, _], _ => rfl) ?a_14 ?l_14 ?c_14 ?k_14; (case a_14 => k_is); (case l_14 => k_is); (case c_14 => k_is); (case k_14 => k_is)
    have d8 : DnE (head.heap_39 w.params) mg "useful_jumps" sUseful ["blocks", "jumps"] := by
      refine' dn_mk KX G (fun _ _ _ _ _ _ us hl => match us, hl with | [_, _], _ => rfl) ?a_15 ?l_15 ?c_15 ?k_15; (case a_15 => k_is); (case l_15 => k_is); (case c_15 => k_is); (case k_15 => k_is)
    have d9 : DnE (head.heap_39 w.params) mg "runs_from" sRunsFrom ["going", "last", "beginning"] := by
      refine' dn_mk KX G (fun _ _ _ _ _ _ us hl => match us, hl with | [_, _, _], _ => rfl) ?a_16 ?l_16 ?c_16 ?k_16; (case a_16 => k_is); (case l_16 => k_is); (case c_16 => k_is); (case k_16 => k_is)
    have d10 : DnE (head.heap_39 w.params) mg "going_on" sGoingOn ["jumps"] := by
      refine' dn_mk KX G (fun _ _ _ _ _ _ us hl => match us, hl with | [_], _ => rfl) ?a_17 ?l_17 ?c_17 ?k_17; (case a_17 => k_is); (case l_17 => k_is); (case c_17 => k_is); (case k_17 => k_is)
    have d11 : DnE (head.heap_39 w.params) mg "closed" sClosed ["routine", "runs"] := by
      refine' dn_mk KX G (fun _ _ _ _ _ _ us hl => match us, hl with | [_, _], _ => rfl) ?a_18 ?l_18 ?c_18 ?k_18; (case a_18 => k_is); (case l_18 => k_is); (case c_18 => k_is); (case k_18 => k_is)
    have d12 : DnE (head.heap_39 w.params) mg "_law_feed" sFeed ["_law_script", "_law_k"] := by
      refine' dn_mk KX G (fun _ _ _ _ _ _ us hl => match us, hl with | [_, _], _ => rfl) ?a_19 ?l_19 ?c_19 ?k_19; (case a_19 => k_is); (case l_19 => k_is); (case c_19 => k_is); (case k_19 => k_is)
    have d13 : DnE (head.heap_39 w.params) mg "_law_take" sTake ["_law_feed_here", "_law_many"] := by
      refine' dn_mk KX G (fun _ _ _ _ _ _ us hl => match us, hl with | [_, _], _ => rfl) ?a_20 ?l_20 ?c_20 ?k_20; (case a_20 => k_is); (case l_20 => k_is); (case c_20 => k_is); (case k_20 => k_is)
    have d14 : DnE (head.heap_39 w.params) mg "_law_pick" sPick ["_law_feed_here", "_law_some"] := by
      refine' dn_mk KX G (fun _ _ _ _ _ _ us hl => match us, hl with | [_, _], _ => rfl) ?a_21 ?l_21 ?c_21 ?k_21; (case a_21 => k_is); (case l_21 => k_is); (case c_21 => k_is); (case k_21 => k_is)
    have d15 : DnE (head.heap_39 w.params) mg "_law_steps" sSteps ["_law_run_here"] := by
      refine' dn_mk KX G (fun _ _ _ _ _ _ us hl => match us, hl with | [_], _ => rfl) ?a_22 ?l_22 ?c_22 ?k_22; (case a_22 => k_is); (case l_22 => k_is); (case c_22 => k_is); (case k_22 => k_is)
    have d16 : DnE (head.heap_39 w.params) mg "_law_run" sRun ["_law_feed_here", "_law_blocks"] := by
      refine' dn_mk KX G (fun _ _ _ _ _ _ us hl => match us, hl with | [_, _], _ => rfl) ?a_23 ?l_23 ?c_23 ?k_23; (case a_23 => k_is); (case l_23 => k_is); (case c_23 => k_is); (case k_23 => k_is)
    have d17 : DnE (head.heap_39 w.params) mg "_law_routine" sLRoutine ["_law_feed_here", "_law_most"] := by
      refine' dn_mk KX G (fun _ _ _ _ _ _ us hl => match us, hl with | [_, _], _ => rfl) ?a_24 ?l_24 ?c_24 ?k_24; (case a_24 => k_is); (case l_24 => k_is); (case c_24 => k_is); (case k_24 => k_is)
    have d18 : DnE (head.heap_39 w.params) mg "_law_rows" sRows ["_law_blocks", "_law_jumps"] := by
      refine' dn_mk KX G (fun _ _ _ _ _ _ us hl => match us, hl with | [_, _], _ => rfl) ?a_25 ?l_25 ?c_25 ?k_25; (case a_25 => k_is); (case l_25 => k_is); (case c_25 => k_is); (case k_25 => k_is)
    have d19 : DnE (head.heap_39 w.params) mg "_law_rests" sRests ["_law_block", "_law_last", "_law_jumps"] := by
      refine' dn_mk KX G (fun _ _ _ _ _ _ us hl => match us, hl with | [_, _, _], _ => rfl) ?a_26 ?l_26 ?c_26 ?k_26; (case a_26 => k_is); (case l_26 => k_is); (case c_26 => k_is); (case k_26 => k_is)
    have d20 : DnE (head.heap_39 w.params) mg "_law_part" sLPart ["_law_feed_here", "_law_rows_here", "_law_runs"] := by
      refine' dn_mk KX G (fun _ _ _ _ _ _ us hl => match us, hl with | [_, _, _], _ => rfl) ?a_27 ?l_27 ?c_27 ?k_27; (case a_27 => k_is); (case l_27 => k_is); (case c_27 => k_is); (case k_27 => k_is)
    have d21 : DnE (head.heap_39 w.params) mg "_law_keeping" sKeeping ["_law_runs", "_law_jumps"] := by
      refine' dn_mk KX G (fun _ _ _ _ _ _ us hl => match us, hl with | [_, _], _ => rfl) ?a_28 ?l_28 ?c_28 ?k_28; (case a_28 => k_is); (case l_28 => k_is); (case c_28 => k_is); (case k_28 => k_is)
    have d22 : DnE (head.heap_39 w.params) mg "_law_list" sList ["_law_feed_here", "_law_rows_here", "_law_runs"] := by
      refine' dn_mk KX G (fun _ _ _ _ _ _ us hl => match us, hl with | [_, _, _], _ => rfl) ?a_29 ?l_29 ?c_29 ?k_29; (case a_29 => k_is); (case l_29 => k_is); (case c_29 => k_is); (case k_29 => k_is)
    have d23 : DnE (head.heap_39 w.params) mg "_law_due" sDue ["_law_runs"] := by
      refine' dn_mk KX G (fun _ _ _ _ _ _ us hl => match us, hl with | [_], _ => rfl) ?a_30 ?l_30 ?c_30 ?k_30; (case a_30 => k_is); (case l_30 => k_is); (case c_30 => k_is); (case k_30 => k_is)
    have d24 : DnE (head.heap_39 w.params) mg "_law_bent" sBent ["_law_feed_here", "_law_blocks", "_law_run_here"] := by
      refine' dn_mk KX G (fun _ _ _ _ _ _ us hl => match us, hl with | [_, _, _], _ => rfl) ?a_31 ?l_31 ?c_31 ?k_31; (case a_31 => k_is); (case l_31 => k_is); (case c_31 => k_is); (case k_31 => k_is)
    have d25 : DnE (head.heap_39 w.params) mg "_law_refused" sRefused ["_law_feed_here", "_law_routine_here", "_law_blocks", "_law_runs"] := by
      refine' dn_mk KX G (fun _ _ _ _ _ _ us hl => match us, hl with | [_, _, _, _], _ => rfl) ?a_32 ?l_32 ?c_32 ?k_32; (case a_32 => k_is); (case l_32 => k_is); (case c_32 => k_is); (case k_32 => k_is)
    have d26 : DnE (head.heap_39 w.params) mg "_law_many_right" sMany [] := by
      refine' dn_mk KX G (fun _ _ _ _ _ _ us hl => match us, hl with | [], _ => rfl) ?a_33 ?l_33 ?c_33 ?k_33; (case a_33 => k_is); (case l_33 => k_is); (case c_33 => k_is); (case k_33 => k_is)
    refine' law_mk KX G hmg ?aL ?lL ?cL B mb mj RF PF NF d1 d2 d3 d4 d5 d6 d7 d8 d9 d10 d11 d12 d13 d14 d15 d16 d17 d18 d19 d20 d21 d22 d23 d24 d25 d26
    (case aL => k_is); (case lL => k_is); (case cL => k_is)
end Yf
theorem PySem.Challenge.cw_runledger_k13_whole_closed_lists_holds : PySem.Challenge.rw_runledger_k13_whole_closed_lists.Holds :=
  Yf.holdsY
