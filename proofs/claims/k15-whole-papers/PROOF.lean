import PyProof.Rows.All
import PySem.Challenge.RW_runledger_k15_whole_papers_of_parts
import Wide.All
import OpenK.AllK
import Wide.FinOn
import HandS.GenOver
import HandS.Ends
import HandS.GenList
import HandS.OwnEq
import HandS.Words
import PyProof.ListNew
import HandS.List
import KE.KStateDown
import HandS.Head0
import HandS.Head1
import HandS.Head2
import HandS.HeadEnd
import HandS.HeadHook1
import HandS.HeadHook2
import HandS.HeadHook3
import HandS.HeadHook4
import HandS.ForMost
import HandS.ForExc
import HandS.ExcInit
import HandS.ExcField
import PyProof.InstNe
import HandS.IsInst
import HandS.Deep
import HandS.TupLen
import HandS.Flow
import HandS.SortRule
import HandS.Conv
import HandS.Evl
import HandS.Zip
import HandS.Keys
import KE.KDictZip
import HandS.TupAny
import HandS.DictComp
import KE.KDictCopyH
import HandS.Style
import HandS.Star
import HandS.ExcOwn
import HandS.WordsExc
import HandS.TryOnly
set_option Elab.async false
set_option linter.all false
set_option maxRecDepth 100000
/-! Z1: the machine's steps, with the yields of a generator that delegates to a generator. -/
namespace Zed
open PySem PyProof.Rows

/-- a yield by «yield from» over a generator's object: no frame of it is guarded -/
def Deleg (s : Shared) (t : Thread) : Prop :=
  ∃ v l k a o rest kw fs b rs g, t.cur = .yield v true l k ∧ t.code = .builtin "proto.yield_from" ⟨.ref a :: rest, kw⟩ ∧
    s.heap.get? a = some o ∧ o.genNumber? = some g ∧ splitAtGen t.stack = some (fs, b, rs) ∧ fs.any Frame.guarded = false

theorem Deleg.forget {s s' : Shared} {t t' : Thread} (h : Deleg s t) (hs : s.forget = s'.forget) (ht : t.forget = t'.forget) : Deleg s' t' := by
  obtain ⟨v, l, k, a, o, rest, kw, fs, b, rs, g, h1, h2, h3, h4, h5, h6⟩ := h
  obtain ⟨cur, code, pos, stack⟩ := t
  obtain ⟨cur', code', pos', stack'⟩ := t'
  simp only [Thread.forget, Thread.mk.injEq] at ht
  obtain ⟨rfl, rfl, rfl, he⟩ := ht
  have q := splitAtGen_forgetAll stack
  have q' := splitAtGen_forgetAll stack'
  rw [he, q', show splitAtGen stack = some (fs, b, rs) from h5] at q
  cases e : splitAtGen stack' with
  | none => rw [e] at q; cases q
  | some x =>
    obtain ⟨fs', b', rs'⟩ := x
    rw [e] at q
    simp only [Option.map_some, Option.some.injEq, Prod.mk.injEq] at q
    obtain ⟨q1, rfl, q3⟩ := q
    refine ⟨v, l, k, a, o, rest, kw, fs', _, rs', g, h1, h2, ?_, h4, e, ?_⟩
    · rw [← (Shared.forget_eq hs).1]; exact h3
    · rw [← any_guarded_forgetAll, q1, any_guarded_forgetAll]; exact h6

theorem delegate_quiet {s : Shared} {a : Addr} {o : Obj} {g : Nat} (hz : s.heap.life.registered = []) (h3 : s.heap.get? a = some o) (h4 : o.genNumber? = some g) : delegateShows s (.ref a) = false := by
  simp only [delegateShows, h3, h4, hz]
  rfl

section
variable (den : Code → Sem PySem.Fin) (prog : Program) (w : World)

theorem life_deleg {others : List Value} {s : Shared} {t : Thread} (h : Deleg s t) (hz : s.asleep) : lifeStep den prog w others s t = step den prog w s t := by
  obtain ⟨v, l, k, a, o, rest, kw, fs, b, rs, g, h1, h2, h3, h4, h5, h6⟩ := h
  obtain ⟨cur, code, pos, stack⟩ := t
  obtain rfl : cur = _ := h1
  obtain rfl : code = _ := h2
  have h5 : splitAtGen stack = some (fs, b, rs) := h5
  have hd := delegate_quiet hz.1 h3 h4
  have hsp : Thread.special ⟨.yield v true l k, .builtin "proto.yield_from" ⟨.ref a :: rest, kw⟩, pos, stack⟩ = true := by
    simp [Thread.special, Thread.yieldsInsideHandler]
  have hct : collectorTurn? w.params others s ⟨.yield v true l k, .builtin "proto.yield_from" ⟨.ref a :: rest, kw⟩, pos, stack⟩ = none := rfl
  have hcl : closingShows s fs (.builtin "proto.yield_from" ⟨.ref a :: rest, kw⟩) true = false := by
    simp only [closingShows, h6, Bool.false_or, Bool.true_and, hd]
  unfold lifeStep
  rw [if_pos hsp]
  simp only [hct, h5, hcl]
  simp [Thread.atItsEnd, stepCounting, hz.2]

theorem sstep_deleg {s : Shared} {t : Thread} (h : Deleg s t) (hz : s.asleep) : sstep den prog w (.single s t) = (step den prog w s t).lift := by
  have hl := fun others => life_deleg den prog w (others := others) h hz
  obtain ⟨v, l, k, a, o, rest, kw, fs, b, rs, g, h1, h2, h3, h4, h5, h6⟩ := h
  obtain ⟨cur, code, pos, stack⟩ := t
  obtain rfl : cur = _ := h1
  obtain rfl : code = _ := h2
  have hm : ∀ pr, (Config.single s ⟨.yield v true l k, .builtin "proto.yield_from" ⟨.ref a :: rest, kw⟩, pos, stack⟩).moves pr = [.run 0] := fun pr => by
    simp [Config.moves, Config.single, movesFrom, Thread.moves, Thread.atomic, Thread.rests, Thread.tells]
  have hp : (Config.single s ⟨.yield v true l k, .builtin "proto.yield_from" ⟨.ref a :: rest, kw⟩, pos, stack⟩).pick w = .ok (.run 0, .single s ⟨.yield v true l k, .builtin "proto.yield_from" ⟨.ref a :: rest, kw⟩, pos, stack⟩) := by
    have c1 : (Config.single s ⟨.yield v true l k, .builtin "proto.yield_from" ⟨.ref a :: rest, kw⟩, pos, stack⟩).collect? w.params = none := by
      simp [Config.collect?, Config.single, (nothing_to_collect _ _ _ s _ hz.1).1]
    have c2 : (Config.single s ⟨.yield v true l k, .builtin "proto.yield_from" ⟨.ref a :: rest, kw⟩, pos, stack⟩).collectable = [] := by
      simp [Config.collectable, Config.single, (nothing_to_collect w.params _ _ s _ hz.1).2]
    simp only [Config.pick, c1, c2, Config.pickThread, hm]
    cases w.params.lifetimes <;> simp
  have hr : (Config.single s ⟨.yield v true l k, .builtin "proto.yield_from" ⟨.ref a :: rest, kw⟩, pos, stack⟩).run den prog w 0 = (step den prog w s ⟨.yield v true l k, .builtin "proto.yield_from" ⟨.ref a :: rest, kw⟩, pos, stack⟩).lift := by
    simp only [Config.run, Config.single]
    simp [hl, others_single, frozenBadly, ThreadState.insideWrite, Thread.finalizes]
    split <;> simp_all [Step.lift, Config.single]
  simp only [sstep, hp, Config.move, hr]

/-- calm, or such a yield -/
def Fair (s : Shared) (t : Thread) : Prop := t.calm = true ∨ Deleg s t
theorem Fair.forget {s s' : Shared} {t t' : Thread} (h : Fair s t) (hs : s.forget = s'.forget) (ht : t.forget = t'.forget) : Fair s' t' := by
  rcases h with h | h
  · refine .inl ?_
    rw [← Thread.calm_forget, ← ht, Thread.calm_forget]; exact h
  · exact .inr (h.forget hs ht)

theorem sched_fair (n : Nat) : ∀ (s : Shared) (t : Thread), s.asleep →
    (∀ k s' t', k < n → runN den prog w k s t = .running s' t' → Fair s' t' ∧ step den prog w s' t' ≠ .halt (.unsupported "lifetime:generator-with-cleanup-left-suspended") s') →
    schedN den prog w n (.single s t) = (runN den prog w n s t).lift := by
  induction n with
  | zero => intro s t _ _; rfl
  | succ n ih =>
    intro s t hz h
    obtain ⟨hf, hx⟩ := h 0 s t (Nat.succ_pos n) rfl
    have e : sstep den prog w (.single s t) = (step den prog w s t).lift := by
      rcases hf with hc | hd
      · exact (sstep_single den prog w s t hc hz).resolve_right hx
      · exact sstep_deleg den prog w hd hz
    simp only [schedN, runN, e]
    cases hs : step den prog w s t with
    | go s₂ t₂ =>
      refine ih s₂ t₂ (Shared.asleep_of_life (step_life den prog w s s₂ t t₂ hs) hz) fun k s' t' hk hr => ?_
      exact h (k + 1) s' t' (Nat.succ_lt_succ hk) (by simp only [runN, hs]; exact hr)
    | halt o s₂ => rfl
end

/-! ### reaching a configuration -/
inductive Go (M : Model) : Shared → Thread → Shared → Thread → Prop
  | calm {s t s' t'} : M.step s t = .go s' t' → Go M s t s' t'
  | loud {s t s' t'} : Deleg s t → stepK M.den M.prog M.w s t = .go s' t' → Go M s t s' t'

inductive Lands (M : Model) (Phi : Shared → Thread → Prop) : Shared → Thread → Prop
  | here {s t} : Phi s t → Lands M Phi s t
  | go {s t s' t'} : Go M s t s' t' → Lands M Phi s' t' → Lands M Phi s t

theorem Lands.trans {M : Model} {Phi Psi : Shared → Thread → Prop} {s : Shared} {t : Thread} (h : Lands M Psi s t) (k : ∀ s' t', Psi s' t' → Lands M Phi s' t') : Lands M Phi s t := by
  induction h with
  | here q => exact k _ _ q
  | go g _ ih => exact .go g ih
theorem Lands.one {M : Model} {Phi : Shared → Thread → Prop} {s s' : Shared} {t t' : Thread} (e : M.step s t = .go s' t') (h : Lands M Phi s' t') : Lands M Phi s t := .go (.calm e) h

theorem Go.stepK {M : Model} {s s' : Shared} {t t' : Thread} (h : Go M s t s' t') : Fair s t ∧ stepK M.den M.prog M.w s t = .go s' t' := by
  cases h with
  | loud d e => exact ⟨.inr d, e⟩
  | calm e =>
    cases hl : t.loud with
    | true => rw [M.step_loud hl] at e; cases e
    | false =>
      rw [M.step_quiet hl] at e
      refine ⟨.inl ?_, e⟩
      rw [Thread.calm_eq, hl]
      cases hr : t.refused with
      | false => rfl
      | true =>
        obtain ⟨what, e'⟩ := stepK_refused M.den M.prog M.w (s := s) hr
        rw [e'] at e; cases e

/-- n machine steps, all fair -/
theorem Lands.runs {M : Model} {Phi : Shared → Thread → Prop} {s : Shared} {t : Thread} (h : Lands M Phi s t) :
    ∃ n s' t', runNK M.den M.prog M.w n s t = .running s' t' ∧ Phi s' t' ∧ ∀ k s₁ t₁, k < n → runNK M.den M.prog M.w k s t = .running s₁ t₁ → Fair s₁ t₁ := by
  induction h with
  | here q => exact ⟨0, _, _, rfl, q, fun k _ _ hk => absurd hk (Nat.not_lt_zero _)⟩
  | @go s t s1 t1 g _ ih =>
    obtain ⟨n, s', t', hr, q, hf⟩ := ih
    obtain ⟨f, e⟩ := g.stepK
    refine ⟨n + 1, s', t', by simp only [runNK, e]; exact hr, q, fun k s₁ t₁ hk hk' => ?_⟩
    cases k with
    | zero => injection hk' with e1 e2; subst e1 e2; exact f
    | succ k => simp only [runNK, e] at hk'; exact hf k s₁ t₁ (Nat.lt_of_succ_lt_succ hk) hk'

theorem runN_add (den : Code → Sem PySem.Fin) (prog : Program) (w : World) (n : Nat) : ∀ {s : Shared} {t : Thread} {s' : Shared} {t' : Thread}, runN den prog w n s t = .running s' t' → runN den prog w (n + 1) s t = match step den prog w s' t' with
    | .go s'' t'' => .running s'' t''
    | .halt o s'' => .halted o s'' := by
  induction n with
  | zero =>
    intro s t s' t' h
    injection h with e1 e2; subst e1 e2
    show (match step den prog w s t with
      | .go s' t' => runN den prog w 0 s' t'
      | .halt o s' => .halted o s') = _
    cases step den prog w s t <;> rfl
  | succ n ih =>
    intro s t s' t' h
    simp only [runN] at h
    cases hs : step den prog w s t with
    | go s₂ t₂ =>
      rw [hs] at h
      have q := ih h
      conv => lhs; unfold runN
      simp only [hs]
      exact q
    | halt o s₂ => rw [hs] at h; cases h

theorem runN_lt_running (den : Code → Sem PySem.Fin) (prog : Program) (w : World) {n k : Nat} : ∀ {s : Shared} {t : Thread} {s' : Shared} {t' : Thread}, runN den prog w n s t = .running s' t' → k < n → ∀ s₁ t₁, runN den prog w k s t = .running s₁ t₁ → ∃ s₂ t₂, step den prog w s₁ t₁ = .go s₂ t₂ := by
  induction k generalizing n with
  | zero =>
    intro s t s' t' h hk s₁ t₁ h1
    injection h1 with e1 e2; subst e1 e2
    obtain ⟨m, rfl⟩ : ∃ m, n = m + 1 := ⟨n - 1, by omega⟩
    simp only [runN] at h
    cases hs : step den prog w s t with
    | go s₂ t₂ => exact ⟨s₂, t₂, rfl⟩
    | halt o s₂ => rw [hs] at h; cases h
  | succ k ih =>
    intro s t s' t' h hk s₁ t₁ h1
    obtain ⟨m, rfl⟩ : ∃ m, n = m + 1 := ⟨n - 1, by omega⟩
    simp only [runN] at h h1
    cases hs : step den prog w s t with
    | go s₂ t₂ =>
      rw [hs] at h h1
      exact ih h (Nat.lt_of_succ_lt_succ hk) s₁ t₁ h1
    | halt o s₂ => rw [hs] at h; cases h

/-- the end: the thread's code has ended, no suspended generator is left -/
def AtEnd (R : Result → Shared → Prop) (s : Shared) (t : Thread) : Prop := ∃ r c p, t = ⟨leafOf r, c, p, []⟩ ∧ R r s ∧ AllBare s.gens

theorem Lands.ends {M : Model} {R : Result → Shared → Prop} {s : Shared} {t : Thread} (h : Lands M (AtEnd R) s t) (hz : s.asleep) :
    ∃ n r s' s'', schedN M.den M.prog M.w n (.single s t) = .halted (outcomeOf r) s'' ∧ s''.forget = s'.forget ∧ s''.heap.life = s.heap.life ∧ R r s' ∧ AllBare s'.gens := by
  obtain ⟨n, s', t', hr, ⟨r, c, p, rfl, hR, hb⟩, hf⟩ := h.runs
  have e := runNK_same M.den M.prog M.w n (s₁ := s) (s₂ := s) (t₁ := t) (t₂ := t) rfl rfl
  rw [hr] at e
  cases hn : runN M.den M.prog M.w n s t with
  | halted o s₂ => rw [hn] at e; cases e
  | running s₂ t₂ =>
    rw [hn] at e
    simp only [Run.forget] at e
    injection e with es et
    have hstk : t₂ = ⟨leafOf r, c, p, []⟩ := by
      obtain ⟨cur, code, pos, stack⟩ := t₂
      simp only [Thread.forget, Thread.mk.injEq] at et
      obtain ⟨rfl, rfl, rfl, e4⟩ := et
      cases stack with
      | nil => rfl
      | cons f fs => rw [forgetAll_cons] at e4; cases e4
    subst hstk
    have hg : leftWithCleanup s₂.gens = false := by
      rw [leftWithCleanup_of_forget_eq es.symm]
      exact leftWithCleanup_false_of_bare hb
    have hst : step M.den M.prog M.w s₂ ⟨leafOf r, c, p, []⟩ = .halt (outcomeOf r) s₂ := by
      obtain ⟨heap, gens, drawn, toks, os⟩ := s₂
      have hg : leftWithCleanup gens = false := hg
      cases r <;> simp [leafOf, outcomeOf, step, finish, hg]
    have h1 := runN_add M.den M.prog M.w n hn
    rw [hst] at h1
    have fair : ∀ k s₁ t₁, k < n + 1 → runN M.den M.prog M.w k s t = .running s₁ t₁ → Fair s₁ t₁ ∧ step M.den M.prog M.w s₁ t₁ ≠ .halt (.unsupported "lifetime:generator-with-cleanup-left-suspended") s₁ := by
      intro k s₁ t₁ hk hk'
      by_cases hkn : k = n
      · subst hkn
        rw [hn] at hk'
        injection hk' with e1 e2; subst e1 e2
        refine ⟨.inl ?_, ?_⟩
        · cases r <;> rfl
        · rw [hst]; intro q; cases r <;> cases q
      · have hlt : k < n := by omega
        refine ⟨?_, ?_⟩
        · have ek := runNK_same M.den M.prog M.w k (s₁ := s) (s₂ := s) (t₁ := t) (t₂ := t) rfl rfl
          rw [hk'] at ek
          cases hq : runNK M.den M.prog M.w k s t with
          | halted o s₃ => rw [hq] at ek; cases ek
          | running s₃ t₃ =>
            rw [hq] at ek
            simp only [Run.forget] at ek
            injection ek with ek1 ek2
            exact (hf k s₃ t₃ hlt hq).forget ek1 ek2
        · obtain ⟨s₃, t₃, e3⟩ := runN_lt_running M.den M.prog M.w hn hlt s₁ t₁ hk'
          rw [e3]; intro q; cases q
    refine ⟨n + 1, r, s', s₂, ?_, es.symm, ?_, hR, hb⟩
    · rw [sched_fair M.den M.prog M.w (n + 1) s t hz fair, h1]; rfl
    · exact runN_life M.den M.prog M.w h1
end Zed

set_option Elab.async false
set_option linter.all false
set_option maxRecDepth 100000
/-! Z2: facts of the library's logic carried over to reached configurations. -/
namespace Zed
open PySem PyProof.Rows
open Sem (wp)
variable {M : Model} {Phi : Shared → Thread → Prop}

theorem lands_of_reach {base : List Frame} {s s' : Shared} {t : Sem PySem.Fin} {c : Code} {p : Pos} {pre : List Frame} {e : End} (h : Reach M base s t c p pre s' e)
    (k : ∀ t' c' p' pre', Exits e t' c' p' pre' → Lands M Phi s' ⟨t', c', p', pre' ++ base⟩) : Lands M Phi s ⟨t, c, p, pre ++ base⟩ := by
  induction h with
  | exit q => exact k _ _ _ _ q
  | step e _ ih => exact .one e (ih k)

theorem lands_code {st : List Frame} {s s' : Shared} {c : Code} {p : Pos} {r : Result} {G : Ctx} (hG : G.Fits st) (hc : G.code = c) (h : Returns M G p s r s')
    (k : ∀ c' p', Lands M Phi s' ⟨leafOf r, c', p', st⟩) : Lands M Phi s ⟨M.den c, c, p, st⟩ := by
  subst hc
  refine lands_of_reach (pre := []) (runs_reach h st hG) fun t' c' p' pre' q => ?_
  obtain ⟨rfl, rfl⟩ := q
  exact k c' p'

/-- the library's wp, over a stack -/
theorem lands_wp {α : Type} {K : α → Sem PySem.Fin} {J : Value → Sem PySem.Fin} {gd : Bool → Bool} {lv : List Value → List Value} {c : Code} {st : List Frame} {G : Ctx} (hG : G.Fits st) (hc : G.code = c) (m : Sem α) :
    ∀ {Q : α → Pos → Shared → Prop} {E : Value → Pos → Shared → Prop} {p : Pos} {s : Shared}, wp M G m Q E p s →
      (∀ a p' s', Q a p' s' → Lands M Phi s' ⟨K a, c, p', st⟩) → (∀ x p' s', E x p' s' → Lands M Phi s' ⟨J x, c, p', st⟩) →
      Lands M Phi s ⟨m.wrap K J gd lv, c, p, st⟩ := by
  induction m with
  | pure a => intro Q E p s h hQ _; exact hQ a p s h
  | raise x => intro Q E p s h _ hE; exact hE x p s h
  | unsupported what => intro Q E p s h; exact h.elim
  | finish x => intro Q E p s h; exact h.elim
  | register a k => intro Q E p s h; exact h.elim
  | yield v g l k => intro Q E p s h; exact h.elim
  | fork c k => intro Q E p s h; exact h.elim
  | await a f d l k => intro Q E p s h; exact h.elim
  | rule tag k ih => intro Q E p s h hQ hE; exact .one (step_rule ..) (ih () h hQ hE)
  | «at» p' k ih => intro Q E p s h hQ hE; exact .one (step_at ..) (ih () h hQ hE)
  | load a part k ih => intro Q E p s h hQ hE; obtain ⟨o, ho, h⟩ := h; exact .one (step_load _ _ _ _ _ _ _ ho) (ih o h hQ hE)
  | update a part f k ih => intro Q E p s h hQ hE; obtain ⟨ha, h⟩ := h; exact .one (step_update _ _ _ _ _ _ _ _ ha) (ih () h hQ hE)
  | alloc o k ih => intro Q E p s h hQ hE; exact .one (step_alloc ..) (ih _ h hQ hE)
  | loadIfAlive a k ih => intro Q E p s h hQ hE; exact .one (step_loadIfAlive ..) (ih _ h hQ hE)
  | point l k ih => intro Q E p s h hQ hE; exact .one (step_point ..) (ih () h hQ hE)
  | fresh k ih => intro Q E p s h hQ hE; exact .one (step_fresh ..) (ih _ h hQ hE)
  | ask k ih => intro Q E p s h hQ hE; exact .one (step_ask ..) (ih _ h hQ hE)
  | choose src n k ih => intro Q E p s h hQ hE; obtain ⟨hn, h⟩ := h; exact .one (step_choose _ _ _ _ _ _ _ hn) (ih _ h hQ hE)
  | os q l k ih => intro Q E p s h hQ hE; exact .one (step_os ..) (ih _ h hQ hE)
  | call c' hd g l k ih =>
    intro Q E p s h hQ hE; obtain ⟨r, s₁, hr, h⟩ := h
    refine .one (step_call ..) ?_
    subst hc
    exact lands_code (hG.enter c' _ hd _ _ p []) rfl hr fun c₁ p₁ => .one (step_leaf_ret ..) (ih r h hQ hE)
  | handled own k ih =>
    intro Q E p s h hQ hE
    refine .one (step_handled ..) ?_
    have h' : wp M G (k (if own then G.own else G.handled)) Q E p s := h
    have e : topHandled (if own = true then ownFrames st else st) = (if own then G.own else G.handled) := by
      cases own
      · exact hG.handled.symm
      · exact hG.own.symm
    show Lands M Phi s ⟨(k _).wrap K J gd lv, c, p, st⟩
    rw [e]
    exact ih _ h' hQ hE
  | newGen c' k ih => intro Q E p s h hQ hE; exact .one (step_newGen ..) (ih _ h hQ hE)
  | genState g k ih => intro Q E p s h hQ hE; obtain ⟨x, hg, h⟩ := h; exact .one (step_genState _ _ _ _ _ _ hg) (ih _ h hQ hE)
  | stack k ih =>
    intro Q E p s h hQ hE
    refine .one (step_stack ..) ?_
    subst hc
    have h' : wp M G (k ((G.code, p) :: G.below)) Q E p s := h
    rw [hG.below] at h'
    exact ih _ h' hQ hE
  | thread k ih => intro Q E p s h hQ hE; exact .one (step_thread ..) (ih _ h hQ hE)
  | resume g r l k ih =>
    intro Q E p s h hQ hE; obtain ⟨res, s₁, hw, h⟩ := h
    have go : ∀ s₂, wp M G (k res) Q E p s₂ → Lands M Phi s₂ ⟨(k res).wrap K J gd lv, c, p, st⟩ := fun s₂ h₂ => ih res h₂ hQ hE
    subst hc
    unfold Wakes at hw
    cases hg : s.gens[g]? with
    | none => rw [hg] at hw; exact hw.elim
    | some x =>
      rw [hg] at hw
      cases x with
      | fresh c' =>
        cases r with
        | throw e =>
          obtain ⟨rfl, rfl⟩ := hw
          exact .one (step_resume_throwFresh _ _ _ _ _ _ _ _ hg) (go _ h)
        | send v =>
          by_cases hv : v = .none
          · subst hv
            obtain ⟨e₁, s₂, hr, hq, rfl, rfl⟩ := hw
            refine .one (step_resume_fresh _ _ _ _ _ _ _ hg) ?_
            refine lands_of_reach (pre := []) (runs_reach hr _ (hG.wake c' g _ _ p)) fun t' c₁ p₁ pre' hx => ?_
            exact .one (step_exit_gen _ _ _ _ _ _ _ hx hq) (go _ h)
          · have hw' : res = .justStarted ∧ s₁ = s := by cases v <;> first | exact absurd rfl hv | exact hw
            obtain ⟨rfl, rfl⟩ := hw'
            exact .one (step_resume_justStarted _ _ _ _ _ _ _ hg hv) (go _ h)
      | suspended k₀ l₀ c₀ p₀ fs cl =>
        obtain ⟨e₁, s₂, hr, hq, rfl, rfl⟩ := hw
        refine .one (step_resume_suspended _ _ _ _ _ _ _ _ hg) ?_
        refine lands_of_reach (pre := fs) (runs_reach hr _ (hG.wake c₀ g _ _ p)) fun t' c₁ p₁ pre' hx => ?_
        exact .one (step_exit_gen _ _ _ _ _ _ _ hx hq) (go _ h)
      | running =>
        obtain ⟨rfl, rfl⟩ := hw
        exact .one (step_resume_running _ _ _ _ _ _ _ _ hg) (go _ h)
      | finished =>
        obtain ⟨rfl, rfl⟩ := hw
        exact .one (step_resume_finished _ _ _ _ _ _ _ _ hg) (go _ h)

/-! ### the logic: m from s, at any stack that is around A -/
/-- the tree m, run at any stack within A, comes to Q or raises to E -/
def wz (M : Model) {α : Type} (A : Around) (m : Sem α) (Q : α → Shared → Prop) (E : Value → Shared → Prop) (s : Shared) : Prop :=
  ∀ (Phi : Shared → Thread → Prop) (c : Code) (p : Pos) (st : List Frame) (K : α → Sem PySem.Fin) (J : Value → Sem PySem.Fin) (gd : Bool → Bool) (lv : List Value → List Value), (Ctx.of c st).In A →
    (∀ a p' s', Q a s' → Lands M Phi s' ⟨K a, c, p', st⟩) → (∀ x p' s', E x s' → Lands M Phi s' ⟨J x, c, p', st⟩) → Lands M Phi s ⟨m.wrap K J gd lv, c, p, st⟩
def codez (M : Model) (A : Around) (c : Code) (R : Result → Shared → Prop) (s : Shared) : Prop :=
  ∀ (Phi : Shared → Thread → Prop) (p : Pos) (st : List Frame), (Ctx.of c st).Below A → (∀ r c' p' s', R r s' → Lands M Phi s' ⟨leafOf r, c', p', st⟩) → Lands M Phi s ⟨M.den c, c, p, st⟩

section
variable {A : Around} {α β : Type} {s : Shared} {E E' : Value → Shared → Prop}
theorem wz_of {m : Sem α} {Q : α → Shared → Prop} (h : wpAny M A m Q E s) : wz M A m Q E s := fun Phi c p st K J gd lv hA hQ hE =>
  lands_wp (Ctx.fits_of c st) rfl m (h (Ctx.of c st) p hA) (fun a p' s' q => hQ a p' s' q) fun x p' s' q => hE x p' s' q
theorem codez_of {c : Code} {R : Result → Shared → Prop} (h : codeAny M A c R s) : codez M A c R s := fun Phi p st hA k => by
  obtain ⟨r, s', hr, q⟩ := h (Ctx.of c st) p rfl hA
  exact lands_code (Ctx.fits_of c st) rfl hr fun c' p' => k r c' p' s' q
theorem wz_mono {m : Sem α} {Q Q' : α → Shared → Prop} (h : wz M A m Q E s) (hQ : ∀ a s, Q a s → Q' a s) (hE : ∀ x s, E x s → E' x s) : wz M A m Q' E' s :=
  fun Phi c p st K J gd lv hA kQ kE => h Phi c p st K J gd lv hA (fun a p' s' q => kQ a p' s' (hQ a s' q)) fun x p' s' q => kE x p' s' (hE x s' q)
theorem wz_thn {m : Sem α} {Q Q' : α → Shared → Prop} (h : wz M A m Q E s) (hQ : ∀ a s, Q a s → Q' a s) : wz M A m Q' E s := wz_mono h hQ fun _ _ q => q
theorem wz_bind {m : Sem α} {f : α → Sem β} {Q : β → Shared → Prop} (h : wz M A m (fun a s' => wz M A (f a) Q E s') E s) : wz M A (m >>= f) Q E s :=
  fun Phi c p st K J gd lv hA kQ kE => by
    rw [Sem.bind_eq_wrap', Sem.wrap_wrap]
    exact h Phi c p st _ _ _ _ hA (fun a p' s' q => q Phi c p' st K J gd lv hA kQ kE) fun x p' s' q => kE x p' s' q
theorem wz_pure {a : α} {Q : α → Shared → Prop} (h : Q a s) : wz M A (pure a) Q E s := fun Phi c p st K J gd lv hA kQ kE => kQ a p s h
theorem wz_raise {x : Value} {Q : α → Shared → Prop} (h : E x s) : wz M A (throw x : Sem α) Q E s := fun Phi c p st K J gd lv hA kQ kE => kE x p s h
theorem wz_tryCatch {m : Sem α} {k : Value → Sem α} {Q : α → Shared → Prop} (h : wz M A m Q (fun x s' => wz M A (k x) Q E s') s) : wz M A (m.tryCatch k) Q E s :=
  fun Phi c p st K J gd lv hA kQ kE => by
    rw [Sem.tryCatch_eq_wrap, Sem.wrap_wrap]
    exact h Phi c p st _ _ _ _ hA (fun a p' s' q => kQ a p' s' q) fun x p' s' q => q Phi c p' st K J gd lv hA kQ kE
theorem wz_onRaise {m : Sem α} {k : Value → Sem Unit} {Q : α → Shared → Prop} (h : wz M A m Q (fun x s' => wz M A (k x) (fun _ s'' => E x s'') E s') s) : wz M A (m.onRaise k) Q E s :=
  fun Phi c p st K J gd lv hA kQ kE => by
    rw [Sem.onRaise_eq_wrap, Sem.wrap_wrap]
    refine h Phi c p st _ _ _ _ hA (fun a p' s' q => kQ a p' s' q) fun x p' s' q => ?_
    show Lands M Phi s' ⟨((k x).bind fun _ => (Sem.raise x : Sem α)).wrap K J gd lv, c, p', st⟩
    rw [Sem.bind_eq_wrap, Sem.wrap_wrap]
    exact q Phi c p' st _ _ _ _ hA (fun _ p'' s'' e => kE x p'' s'' e) fun y p'' s'' e => kE y p'' s'' e
theorem wz_keep {vs : List Value} {m : Sem α} {Q : α → Shared → Prop} (h : wz M A m Q E s) : wz M A (m.keep vs) Q E s :=
  fun Phi c p st K J gd lv hA kQ kE => by
    rw [Sem.keep_eq_wrap, Sem.wrap_wrap]
    exact h Phi c p st _ _ _ _ hA (fun a p' s' q => kQ a p' s' q) fun x p' s' q => kE x p' s' q
theorem wz_holding {vs : List Value} {m : Sem α} {Q : α → Shared → Prop} (h : wz M A m Q E s) : wz M A (holding vs m) Q E s := by
  unfold holding
  split
  · exact h
  · exact wz_keep h
theorem wz_attempt {m : Sem α} {Q : Except Value α → Shared → Prop} (h : wz M A m (fun a => Q (.ok a)) (fun e => Q (.error e)) s) : wz M A m.attempt Q E s := by
  unfold Sem.attempt
  refine wz_tryCatch (wz_mono (E := fun e => Q (.error e)) ?_ (fun _ _ q => q) fun x s' q => wz_pure q)
  exact wz_bind (wz_thn h fun a s' q => wz_pure q)

/-- a code is run: .call with any handled mark that is none -/
theorem wz_callNode {c' : Code} {g : Bool} {l : List Value} {k : Result → Sem α} {Q : α → Shared → Prop} (h : codez M A c' (fun r s' => wz M A (k r) Q E s') s) : wz M A (.call c' none g l k) Q E s :=
  fun Phi c p st K J gd lv hA kQ kE => by
    refine .one (step_call ..) ?_
    have hb : (Ctx.of c' (.ret (fun x => (k x).wrap K J gd lv) none (gd g) (lv l) c p [] :: st)).Below A := by
      have q := Ctx.In.enter hA c' none p (by intro x; cases x)
      have e : Ctx.of c' (.ret (fun x => (k x).wrap K J gd lv) none (gd g) (lv l) c p [] :: st) = (Ctx.of c st).enter c' none p := by
        have f := (Ctx.fits_of c st).enter c' (fun x => (k x).wrap K J gd lv) none (gd g) (lv l) p []
        have f2 := Ctx.fits_of c' (.ret (fun x => (k x).wrap K J gd lv) none (gd g) (lv l) c p [] :: st)
        refine Eq.trans ?_ (rfl : _ = (Ctx.of c st).enter c' none p)
        cases hx : (Ctx.of c st).enter c' none p with
        | mk a1 a2 a3 a4 a5 =>
          rw [hx] at f
          have ec : c' = a1 := by have := congrArg Ctx.code hx; exact this
          show Ctx.mk c' _ _ _ _ = _
          congr 1
          · exact f.handled.symm
          · exact f.own.symm
          · exact f.below.symm
          · exact f.past.symm
      rw [e]
      exact q
    refine h Phi p _ hb fun r c₁ p₁ s' q => ?_
    exact .one (step_leaf_ret ..) (q Phi c p st K J gd lv hA kQ kE)
theorem wz_run {c' : Code} {Q : Flow → Shared → Prop} (h : codez M A c' (fun r s' => match r with | .ok f => Q f s' | .error e => E e s') s) : wz M A (run c') Q E s := by
  refine wz_callNode (fun Phi p st hA k => h Phi p st hA fun r c' p' s' q => k r c' p' s' ?_)
  cases r with
  | ok f => exact wz_pure q
  | error e => exact wz_raise q
theorem codez_mono {c : Code} {R R' : Result → Shared → Prop} (h : codez M A c R s) (hR : ∀ r s, R r s → R' r s) : codez M A c R' s :=
  fun Phi p st hA k => h Phi p st hA fun r c' p' s' q => k r c' p' s' (hR r s' q)
/-- a code by its tree -/
theorem codez_tree {c : Code} {R : Result → Shared → Prop} (h : wz M (A.under c) (M.den c) (fun fin s' => match fin with | .done f => R (.ok f) s' | .again c' => c'.quiet = true ∧ codez M A c' R s') (fun e s' => R (.error e) s') s) : codez M A c R s :=
  fun Phi p st hA k => by
    have q := h Phi c p st .pure .raise id id hA.in (fun fin p' s' q => ?_) fun x p' s' q => k (.error x) c p' s' q
    · have e : (M.den c).wrap .pure .raise id id = M.den c := by
        rw [← Sem.bind_eq_wrap]; exact bind_pure (M.den c)
      rw [e] at q; exact q
    · cases fin with
      | done f => exact k (.ok f) c p' s' q
      | again c' =>
        exact .one (step_again _ _ _ _ _ _ q.1) (q.2 Phi p' st ⟨hA.1, hA.2.1, hA.2.2.1, hA.2.2.2.1, hA.2.2.2.2⟩ k)
end
end Zed

set_option Elab.async false
set_option linter.all false
set_option maxRecDepth 100000
/-! Z3: a law row from its call, shown over reached configurations. -/
namespace Zed
open PySem PySem.W PyProof.Rows

theorem wz_ret {M : Model} {A : Around} {s : Shared} {E : Value → Shared → Prop} {v : Value} {Q : Fin → Shared → Prop} (h : Q (.done (.ret v)) s) : wz M A (ret v) Q E s := wz_pure h
/-- from a call -/
theorem wz_call {M : Model} {A : Around} {s : Shared} {f : Value} {vs : List Value} {Q : Value → Shared → Prop} {E : Value → Shared → Prop}
    (h : codez M A (.call f ⟨vs, []⟩) (fun r s' => match r with | .ok (.ret v) => Q v s' | .ok _ => False | .error e => E e s') s) : wz M A (PySem.call f vs) Q E s := by
  refine wz_callNode (codez_mono h fun r s' q => ?_)
  cases r with
  | error e => exact wz_raise q
  | ok fl =>
    cases fl with
    | ret v => exact wz_pure q
    | next => exact q.elim
    | brk => exact q.elim
    | cont => exact q.elim

/-- what the law's call must come to -/
def CallOk (P : Program) (w : World) (s1 : Shared) (fa a : Addr) : Prop :=
  codez (model P w) callerA (.call (.ref fa) ⟨[.ref a], []⟩) (fun r s' => r = .ok (.ret (.bool true)) ∧ OldK s1.heap s'.heap ∧ s'.os = s1.os ∧ AllBare s'.gens) s1

/-- the claim's own thread, from the call -/
theorem lands_caller {P : Program} {w : World} {s1 : Shared} {fa a : Addr} {name : Str} {mg : Str → Option Value} (hns : s1.heap.Ns mainGlobals mg) (hm : mg name = some (.ref fa)) (h : CallOk P w s1 fa a) :
    Lands (model P w) (AtEnd fun r s' => r = .ok (.ret (.bool true)) ∧ OldK s1.heap s'.heap ∧ s'.os = s1.os) s1
      ⟨do match ← nsGet mainNs name with
          | some f => do ret (← PySem.call f [.ref a])
          | none => unsupported "claim.caller:no-such-global", .builtin "claim.caller" {}, default, []⟩ := by
  have q : wz (model P w) callerA (do match ← nsGet mainNs name with
          | some f => do ret (← PySem.call f [.ref a])
          | none => unsupported "claim.caller:no-such-global" : Sem Fin)
      (fun fin s' => fin = .done (.ret (.bool true)) ∧ OldK s1.heap s'.heap ∧ s'.os = s1.os ∧ AllBare s'.gens) (fun _ _ => False) s1 := by
    refine wz_bind (wz_thn (wz_of (wpAny_nsGet (Q := fun r s' => r = some (.ref fa) ∧ s' = s1) hns ⟨hm, rfl⟩)) fun r s' z => ?_)
    obtain ⟨rfl, rfl⟩ := z
    refine wz_bind (wz_call (codez_mono h fun r s' z => ?_))
    obtain ⟨rfl, z⟩ := z
    exact wz_pure ⟨rfl, z⟩
  have e : ∀ t : Sem Fin, t.wrap .pure .raise id id = t := fun t => by rw [← Sem.bind_eq_wrap]; exact bind_pure t
  have z := q (AtEnd fun r s' => r = .ok (.ret (.bool true)) ∧ OldK s1.heap s'.heap ∧ s'.os = s1.os) (.builtin "claim.caller" {}) default [] .pure .raise id id caller_in
    (fun fin p' s' ⟨e, x, y, b⟩ => by
      subst e
      exact .here ⟨.ok (.ret (.bool true)), _, _, rfl, ⟨rfl, x, y⟩, b⟩) fun _ _ _ f => f.elim
  rw [e] at z
  exact z

/-- THE HEAD: the row from its call -/
theorem law_holds {l : OpenLaw} {n : Nat} {q : Program} {loose : List Str} {Xt : Shared → Bool} {XP : (Str → Option Value) → Heap → Prop} {al : Type} {Yf : Shared → al} {Ya : World → al} {YP : World → Heap → Prop} {d : DefRec} {N : Nat}
    (left : LeftO l.prog q loose Xt Yf Ya N) (hY : ∀ w s, Yf s = Ya w → YP w s.heap) (hYk : ∀ w h h', YP w h → (∀ b o, h.get? b = some o → h'.get? b = some o) → YP w h')
    (hX : ∀ s, Xt s = true → XP (s.heap.nsMap mainGlobals) s.heap) (hXk : ∀ mg h h', XP mg h → (∀ b o, h.get? b = some o → h'.get? b = some o) → XP mg h')
    (hdef : defOf q l.row.name = some (d, [])) (hp : l.row.prog.theDef l.row.name = some (d.params, d.body, d.scope)) (hk : kwWritten? d.params.kwonlyargs d.params.kw_defaults = some [])
    (hRf : ∀ s, Xt s = true → RecFacts l.row.records s.heap) (hwr : (!l.row.writes || l.row.records.isEmpty) = true)
    (k1 : l.row.wellSaid = true) (ok : (chainsOk q && opensWell l.row.prog && (frees l.row.toRowW && l.row.within.isEmpty)) = true) (hb : l.row.prog.bare) (hw : l.row.toRowW.promised)
    (hn : l.most = some n) (hdf : d.params.defaults = [])
    (call : ∀ (w : World) (s0 s1 : Shared) (mg mb : Str → Option Value) (fa a : Addr) (vs : List Value) (ns : List Int), Ground q loose [] XP w s0 mg mb s1.heap → YP w s1.heap → mg d.name = some (.ref fa) →
      s1.heap.get? a = some { cls := .type "list", data := .seq vs.toArray } → IntsAre vs ns → ns.length ≤ n → s1.gens = #[] → CallOk l.prog w s1 fa a) : l.row.Holds := by
  obtain ⟨ok, z5⟩ := Bool.and_eq_true_iff.mp ok
  obtain ⟨chn, opw⟩ := Bool.and_eq_true_iff.mp ok
  obtain ⟨fr, wi⟩ := Bool.and_eq_true_iff.mp z5
  obtain ⟨hsame, hu, ha, hap, hmk⟩ := frees_parts fr
  refine ⟨k1, hw, ⟨⟨hb, opw, rfl⟩, hw.witness, fun w => ⟨(left.behind hX chn w).1, fun s' hs' => ?_⟩⟩⟩
  obtain ⟨s₀, hf, hg0, s, hT, hz, hgens, hg, G00, y⟩ := (left.behind (XP := fun mg h => XP mg h ∧ RecFacts l.row.records h) (fun s hs => ⟨hX s hs, hRf s hs⟩) chn w).2 s' hs'
  have G0 : Ground q loose [] XP w s (s.heap.nsMap mainGlobals) (s.heap.nsMap builtinsNs) s.heap := ⟨G00.T, G00.B, G00.D, G00.TE, G00.TD, G00.W, G00.X.1, G00.cls, G00.has, G00.apart, G00.once, G00.K⟩
  have RF := G00.X.2
  refine ⟨s₀, hf, hg0, s, hT, fun m hm => ?_, RF.1, RF.2.1, ?_⟩
  · obtain rfl : m = l.row.name := by split at hm <;> simp_all
    exact pinned_of_view hg G0 hdef hp hk
  have hgens : s.gens = #[] := Array.eq_empty_of_size_eq_zero (beq_iff_eq.mp hgens)
  intro args hpre hlay ord hord
  have G : Ground q loose l.row.toRowW.records XP w s _ _ s.heap := RF.ground G0
  obtain ⟨⟨vs, s₁⟩, hlaid⟩ := Option.isSome_iff_exists.mp (layAllW_isSome (P := w.params) (ord := ord) G.has args l.row.toRowW.args s (pre_splitW hpre).1)
  have kp := layAllW_keeps _ _ _ hlaid
  have hal := layAllW_rest _ _ _ hlaid
  obtain ⟨as, hrd, hin, hold⟩ := reads_layAllW hord _ _ _ hlaid hlay s₁.heap (fun _ _ e => e)
  have L : Laid l.row.toRowW.records w s s₁ args vs as := ⟨⟨ord, hord, hlaid⟩, hrd, hin, hold, kp, hal.1.trans hgens, hal.2.2.1⟩
  have G1 : Ground q loose [] XP w s _ _ s₁.heap := G0.keeps hXk kp
  obtain ⟨fa, o, pm, cd, doc, dV, kV, e1, e2, e3, e4, e5⟩ := G1.fn hdef
  obtain ⟨a, us, ns, rfl, rfl, hobj, hints, hlen⟩ := Att.script_of hn hpre L.well
  have hname : d.name = l.row.name := defOf_name hdef
  have C := call w s s₁ _ _ fa a us ns G1 (hYk _ _ _ (hY w s y) kp) (by rw [hname]; exact e1) hobj hints hlen L.gens
  obtain ⟨m, r, sE, sF, hsch, hfo, hlife, ⟨rfl, hOld, hos⟩, hbare⟩ := (lands_caller G1.T.g e1 C).ends (Shared.asleep_of_life hal.2.2.2 hz)
  obtain ⟨eh, _, _, eo, _⟩ := Shared.forget_eq hfo
  have good : GoodWG l.row.toRowW.claim (classAt s.heap) (ExcName.means s.heap) [WData.list (ns.map WData.int)] s₁ (.ok (.ret (.bool true))) sE :=
    ⟨.inl ⟨.bool true, .bool true, [], rfl, fun _ => rfl, .bool true, Att.post_true l _, fun _ => ⟨List.Pairwise.nil, fun _ hm => (nomatch hm)⟩⟩, hOld, hos, hbare⟩
  have hwi : l.row.toRowW.claim.within = [] := List.isEmpty_iff.mp wi
  have z := good.laid (c := l.row.toRowW.claim) hsame hwi (ident_freeW hu ha hap) L
  have hE := z.1.congr (s' := sF) eh
  have hN : namesKept l.row.prog l.row.keeps s.heap sF.heap := by
    rw [eh]
    exact namesKept_of hT hg l.row.keeps kp hOld.old
  refine ⟨[.ref a], s₁, hlaid, m, _, sF, hsch, ?_, (fun _ i x hx => by rw [hgens] at hx; simp at hx), fun q => ⟨hN, noTable hwr q⟩, congrArg Life.seen (hlife.trans hal.2.2.2), Shared.rest_eq (eo.trans (hos.trans L.os))⟩
  rcases hE with ⟨v, e, d1, d2, d3, d4, d5⟩ | ⟨e, ob, cls, he, _⟩
  · cases e
    exact .inl ⟨_, rfl, d1, d2, d3, fun b o y _ => d4 b o y, d5⟩
  · cases he
end Zed

set_option Elab.async false
set_option linter.all false
set_option maxRecDepth 100000
set_option maxHeartbeats 1000000
/-! Z4: a generator's code up to its next yield or its end; waking it. -/
namespace Zed
open PySem PyProof.Rows

/-- a yield that the machine takes as a plain step -/
def YOk (s : Shared) (g : Bool) (c : Code) (fs : List Frame) : Prop :=
  fs.any Frame.guarded = false ∧ (g = true → ∃ a rest kw o n, c = .builtin "proto.yield_from" ⟨.ref a :: rest, kw⟩ ∧ s.heap.get? a = some o ∧ o.genNumber? = some n)
/-- the generator's code over base has ended, or stands at a yield -/
def Stops (base : List Frame) (R : Result → Shared → Prop) (Y : Value → Shared → GenState → Prop) (s : Shared) (t : Thread) : Prop :=
  (∃ r c p, t = ⟨leafOf r, c, p, base⟩ ∧ R r s) ∨
  ∃ v g l k c p fs, t = ⟨.yield v g l k, c, p, fs ++ base⟩ ∧ splitAtGen fs = none ∧ YOk s g c fs ∧ Y v s (.suspended k l c p fs (g || fs.any Frame.guarded))
def SegZ (M : Model) (A : Around) (R : Result → Shared → Prop) (Y : Value → Shared → GenState → Prop) (c : Code) (t : Sem PySem.Fin) (fs : List Frame) (s : Shared) : Prop :=
  ∀ (base : List Frame) (p : Pos), (Ctx.of c base).Woken A → Lands M (Stops base R Y) s ⟨t, c, p, fs ++ base⟩
/-- a generator that is woken -/
def WakeZ (M : Model) (A : Around) (R : Result → Shared → Prop) (Y : Value → Shared → GenState → Prop) (gs : GenState) (s : Shared) : Prop :=
  match gs with
  | .fresh c => SegZ M A R Y c (M.den c) [] s
  | .suspended k _ c _ fs _ => SegZ M A R Y c (k (.send .none)) fs s
  | _ => False

section
variable {M : Model} {A : Around} {R R' : Result → Shared → Prop} {Y Y' : Value → Shared → GenState → Prop} {c : Code} {fs : List Frame} {s : Shared} {al : Type}
theorem SegZ.imp {t : Sem PySem.Fin} (h : SegZ M A R Y c t fs s) (hR : ∀ r s, R r s → R' r s) (hY : ∀ v s gs, Y v s gs → Y' v s gs) : SegZ M A R' Y' c t fs s := fun base p hW =>
  (h base p hW).trans fun s' t' q => .here (by
    rcases q with ⟨r, c', p', e, q⟩ | ⟨v, g, l, k, c', p', fs', e, h1, h2, q⟩
    · exact .inl ⟨r, c', p', e, hR _ _ q⟩
    · exact .inr ⟨v, g, l, k, c', p', fs', e, h1, h2, hY _ _ _ q⟩)
theorem WakeZ.imp {gs : GenState} (h : WakeZ M A R Y gs s) (hR : ∀ r s, R r s → R' r s) (hY : ∀ v s gs, Y v s gs → Y' v s gs) : WakeZ M A R' Y' gs s := by
  cases gs with
  | fresh c => exact SegZ.imp h hR hY
  | suspended k l c p fs cl => exact SegZ.imp h hR hY
  | running => exact h.elim
  | finished => exact h.elim
theorem sz_wrap {m : Sem al} {K : al → Sem PySem.Fin} {J : Value → Sem PySem.Fin} {gd lv} (h : wz M (A.over c fs) m (fun a s' => SegZ M A R Y c (K a) fs s') (fun x s' => SegZ M A R Y c (J x) fs s') s) :
    SegZ M A R Y c (m.wrap K J gd lv) fs s := fun base p hW =>
  h _ c p (fs ++ base) K J gd lv (by rw [Ctx.of_append]; exact hW.over fs) (fun a p' s' q => q base p' hW) fun x p' s' q => q base p' hW
theorem sz_bind {m : Sem al} {K : al → Sem PySem.Fin} (h : wz M (A.over c fs) m (fun a s' => SegZ M A R Y c (K a) fs s') (fun x s' => SegZ M A R Y c (.raise x) fs s') s) : SegZ M A R Y c (m >>= K) fs s := by
  rw [Sem.bind_eq_wrap']; exact sz_wrap h
theorem sz_at {p' : Pos} {k : Unit → Sem PySem.Fin} (h : SegZ M A R Y c (k ()) fs s) : SegZ M A R Y c (.at p' k) fs s := fun base p hW => .one (step_at ..) (h base p' hW)
theorem sz_point {l : List Value} {k : Unit → Sem PySem.Fin} (h : SegZ M A R Y c (k ()) fs s) : SegZ M A R Y c (.point l k) fs s := fun base p hW => .one (step_point ..) (h base p hW)
theorem sz_call {c' : Code} {h : Option Value} {g : Bool} {l : List Value} {k : Result → Sem PySem.Fin} (hc : ∀ p, SegZ M A R Y c' (M.den c') (.ret k h g l c p [] :: fs) s) : SegZ M A R Y c (.call c' h g l k) fs s := fun base p hW =>
  .one (step_call ..) (hc p base p hW)
theorem sz_leaf {k h g l c₁ p₁ kp} (r : Result) (hk : SegZ M A R Y c₁ (k r) fs s) : SegZ M A R Y c (leafOf r) (.ret k h g l c₁ p₁ kp :: fs) s := fun base p hW => .one (step_leaf_ret ..) (hk base p₁ hW)
theorem sz_again {c' : Code} (hq : c'.quiet = true) (hc : SegZ M A R Y c' (M.den c') fs s) : SegZ M A R Y c (.pure (.again c')) fs s := fun base p hW => .one (step_again _ _ _ _ _ _ hq) (hc base p hW)
theorem sz_end (r : Result) (h : R r s) : SegZ M A R Y c (leafOf r) [] s := fun base p _ => .here (.inl ⟨r, c, p, rfl, h⟩)
theorem sz_yield {v : Value} {g : Bool} {l : List Value} {k : Resume → Sem PySem.Fin} (hfs : splitAtGen fs = none) (ho : YOk s g c fs) (h : ∀ p, Y v s (.suspended k l c p fs (g || fs.any Frame.guarded))) :
    SegZ M A R Y c (.yield v g l k) fs s := fun base p _ => .here (.inr ⟨v, g, l, k, c, p, fs, rfl, hfs, ho, h p⟩)
end

/-! ### the generators' table only grows -/
theorem stepK_gsz {den : Code → Sem PySem.Fin} {p : Program} {w : World} {s s' : Shared} {t t' : Thread} (h : stepK den p w s t = .go s' t') : s.gens.size ≤ s'.gens.size := by
  obtain ⟨cur, code, pos, stack⟩ := t
  cases cur with
  | pure fin =>
    cases fin with
    | again c => injection h with e _; rw [← e]; exact Nat.le_refl _
    | done f => exact PySem.W.step_size (den := den) (p := p) (w := w) (by simpa only [stepK] using h)
  | call c hd g l k => injection h with e _; rw [← e]; exact Nat.le_refl _
  | _ => exact PySem.W.step_size (den := den) (p := p) (w := w) (by simpa only [stepK] using h)
theorem Lands.sized {M : Model} {Phi : Shared → Thread → Prop} {s : Shared} {t : Thread} (h : Lands M Phi s t) : Lands M (fun s' t' => Phi s' t' ∧ s.gens.size ≤ s'.gens.size) s t := by
  induction h with
  | here q => exact .here ⟨q, Nat.le_refl _⟩
  | go g _ ih =>
    have e := stepK_gsz g.stepK.2
    exact .go g (ih.trans fun s' t' q => .here ⟨q.1, Nat.le_trans e q.2⟩)

theorem of_gen (c c' : Code) (g : Nat) (k : GenResult → Sem PySem.Fin) (l : List Value) (p : Pos) (st : List Frame) : Ctx.of c' (.gen g k l c p :: st) = (Ctx.of c st).wake c' p := by
  have f := (Ctx.fits_of c st).wake c' g k l p
  cases hx : (Ctx.of c st).wake c' p with
  | mk a1 a2 a3 a4 a5 =>
    rw [hx] at f
    have ec : c' = a1 := by have := congrArg Ctx.code hx; exact this
    show Ctx.mk c' _ _ _ _ = _
    congr 1
    · exact f.handled.symm
    · exact f.own.symm
    · exact f.below.symm
    · exact f.past.symm

section
variable {M : Model} {A : Around} {R : Result → Shared → Prop} {Y : Value → Shared → GenState → Prop} {s : Shared} {al : Type} {E : Value → Shared → Prop}
/-- waking -/
theorem wz_resume {g : Nat} {gs : GenState} {l : List Value} {k : GenResult → Sem al} {Q : al → Shared → Prop} (hg : s.gens[g]? = some gs) (hgo : WakeZ M A R Y gs (s.setGen g .running))
    (hR : ∀ r s1, s.gens.size ≤ s1.gens.size → R r s1 → wz M A (k (End.ret r).result) Q E (s1.setGen g .finished)) (hY : ∀ v s1 gs', s.gens.size ≤ s1.gens.size → Y v s1 gs' → wz M A (k (.yielded v)) Q E (s1.setGen g gs')) :
    wz M A (.resume g (.send .none) l k) Q E s := fun Phi c p st K J gd lv hA kQ kE => by
  have fin : ∀ (s' : Shared) (t' : Thread), (Stops (.gen g (fun x => (k x).wrap K J gd lv) (lv l) c p :: st) R Y s' t' ∧ (s.setGen g .running).gens.size ≤ s'.gens.size) → Lands M Phi s' t' := by
    rintro s' t' ⟨⟨r, c', p', rfl, q⟩ | ⟨v, gb, l', k', c', p', fs, rfl, hsp, ho, q⟩, hz⟩
    all_goals rw [GenW.setGen_size] at hz
    · exact .one (step_leaf_gen ..) (hR r s' hz q Phi c p st K J gd lv hA kQ kE)
    · have hs2 : splitAtGen (fs ++ .gen g (fun x => (k x).wrap K J gd lv) (lv l) c p :: st) = some (fs, (g, fun x => (k x).wrap K J gd lv, c, p), st) := by
        rw [splitAtGen_append_none _ hsp, splitAtGen_gen]; simp
      have hnext := hY v s' _ hz q Phi c p st K J gd lv hA kQ kE
      cases gb with
      | false => exact .one (step_yield _ _ _ _ _ _ _ _ _ hs2 (by simp [End.quiet, ho.1])) hnext
      | true =>
        obtain ⟨a, rest, kw, o, n, rfl, h3, h4⟩ := ho.2 rfl
        refine .go (.loud ⟨v, l', k', a, o, rest, kw, fs, _, _, n, rfl, rfl, h3, h4, hs2, ho.1⟩ ?_) hnext
        simp only [stepK, step, hs2]; rfl
  cases gs with
  | fresh c' =>
    refine .one (step_resume_fresh _ _ _ _ _ _ _ hg) ?_
    exact (hgo _ p (by rw [of_gen c]; exact hA.wake c' p)).sized.trans fin
  | suspended k₀ l₀ c₀ p₀ fs cl =>
    refine .one (step_resume_suspended _ _ _ _ _ _ _ _ hg) ?_
    exact (hgo _ p₀ (by rw [of_gen c]; exact hA.wake c₀ p)).sized.trans fin
  | running => exact hgo.elim
  | finished => exact hgo.elim
end

/-! ### the generator's object -/
/-- a generator's object, its number; no delegator sleeps over it -/
def Gn (h : Heap) (a : Addr) (g : Nat) : Prop :=
  ∃ o nm qn, h.get? a = some o ∧ o.cls = .type "generator" ∧ o.data = .fields #[.int g 0, nm, qn] ∧ (o.slots = #[] ∨ o.slots = #[some (rawInt 0)])
/-- one sleeps over it -/
def Gn1 (h : Heap) (a : Addr) (g : Nat) : Prop :=
  ∃ o nm qn, h.get? a = some o ∧ o.cls = .type "generator" ∧ o.data = .fields #[.int g 0, nm, qn] ∧ o.slots = #[some (rawInt 1)]
theorem Gn.of {h : Heap} {a : Addr} {g : Nat} (x : h.IsGen a g) : Gn h a g := let ⟨o, nm, qn, h1, h2, h3, h4⟩ := x; ⟨o, nm, qn, h1, h2, h3, .inl h4⟩
theorem Gn.typeIs {s : Shared} {a : Addr} {g : Nat} (x : Gn s.heap a g) : s.TypeIs (.ref a) "generator" := let ⟨o, _, _, ho, hc, _⟩ := x; ⟨o, ho, hc⟩
theorem Gn1.typeIs {s : Shared} {a : Addr} {g : Nat} (x : Gn1 s.heap a g) : s.TypeIs (.ref a) "generator" := let ⟨o, _, _, ho, hc, _⟩ := x; ⟨o, ho, hc⟩
theorem Gn.keep {h h' : Heap} {a : Addr} {g : Nat} (x : Gn h a g) (k : ∀ o, h.get? a = some o → h'.get? a = some o) : Gn h' a g := let ⟨o, nm, qn, ho, r⟩ := x; ⟨o, nm, qn, k o ho, r⟩
theorem Gn1.keep {h h' : Heap} {a : Addr} {g : Nat} (x : Gn1 h a g) (k : ∀ o, h.get? a = some o → h'.get? a = some o) : Gn1 h' a g := let ⟨o, nm, qn, ho, r⟩ := x; ⟨o, nm, qn, k o ho, r⟩
theorem Gn1.number {h : Heap} {a : Addr} {g : Nat} (x : Gn1 h a g) : ∃ o, h.get? a = some o ∧ o.genNumber? = some g := by
  obtain ⟨o, nm, qn, ho, hc, hd, _⟩ := x
  refine ⟨o, ho, ?_⟩
  unfold Obj.genNumber?
  rw [hc, hd]
  simp
section
variable {M : Model} {A : Around} {s : Shared} {E : Value → Shared → Prop}
theorem wp_number {a : Addr} {g : Nat} {Q : Nat → Shared → Prop} (x : Gn s.heap a g) (h : Q g s) : wpAny M A (Builtin.Generator.genNumber (.ref a)) Q E s := by
  obtain ⟨o, nm, qn, ho, _, hd, hs⟩ := x
  unfold Builtin.Generator.genNumber
  refine wpAny_bind (wpAny_load ho ?_)
  rw [hd]
  have e : wpAny M A (pure ((g : Int).toNat)) Q E s := by rw [Int.toNat_natCast]; exact wpAny_pure h
  rcases hs with hs | hs <;> rw [hs]
  · exact e
  · exact e
theorem slots_one (o : Obj) (v : Option Value) (hs : o.slots = #[] ∨ ∃ x, o.slots = #[x]) : (o.slots ++ Array.replicate (0 + 1 - o.slots.size) none).setIfInBounds 0 v = #[v] := by
  rcases hs with hs | ⟨x, hs⟩ <;> rw [hs] <;> rfl
theorem wp_sleptUp {a : Addr} {g : Nat} {Q : Unit → Shared → Prop} (x : Gn s.heap a g) (h : ∀ h', Heap.SameBut a s.heap h' → Gn1 h' a g → Q () { s with heap := h' }) : wpAny M A (Builtin.Generator.sleptOver (.ref a) true) Q E s := by
  obtain ⟨o, nm, qn, ho, hc, hd, hs⟩ := x
  unfold Builtin.Generator.sleptOver
  refine wpAny_bind (wpAny_load ho ?_)
  rw [hc]
  have e1 : (Value.type "generator" != Value.type "generator") = false := by decide
  simp only [e1, Bool.false_eq_true, if_false]
  unfold setSlotAt
  have e2 : ¬ (0 ≥ sizeLine) := by rw [sizeLine_eq]; decide
  rw [if_neg e2]
  refine wpAny_updatePart ho ?_
  have hnf : ∀ v, ({ o with slots := v } : Obj).isFreed = false := fun v => Obj.isFreed_of_fields (show ({ o with slots := v } : Obj).data = .fields _ from hd)
  have hsz : o.slots = #[] ∨ ∃ x, o.slots = #[x] := hs.imp id fun z => ⟨_, z⟩
  refine h _ (Heap.SameBut.update ..) ⟨_, nm, qn, Heap.get?_update_self _ ho (hnf _), hc, hd, ?_⟩
  show (o.slots ++ Array.replicate (0 + 1 - o.slots.size) none).setIfInBounds 0 _ = _
  rw [slots_one o _ hsz]
  rcases hs with hs | hs <;> rw [hs] <;> rfl
theorem wp_sleptDown {a : Addr} {g : Nat} {Q : Unit → Shared → Prop} (x : Gn1 s.heap a g) (h : ∀ h', Heap.SameBut a s.heap h' → Gn h' a g → Q () { s with heap := h' }) : wpAny M A (Builtin.Generator.sleptOver (.ref a) false) Q E s := by
  obtain ⟨o, nm, qn, ho, hc, hd, hs⟩ := x
  unfold Builtin.Generator.sleptOver
  refine wpAny_bind (wpAny_load ho ?_)
  rw [hc]
  have e1 : (Value.type "generator" != Value.type "generator") = false := by decide
  simp only [e1, Bool.false_eq_true, if_false]
  unfold setSlotAt
  have e2 : ¬ (0 ≥ sizeLine) := by rw [sizeLine_eq]; decide
  rw [if_neg e2]
  refine wpAny_updatePart ho ?_
  have hnf : ∀ v, ({ o with slots := v } : Obj).isFreed = false := fun v => Obj.isFreed_of_fields (show ({ o with slots := v } : Obj).data = .fields _ from hd)
  refine h _ (Heap.SameBut.update ..) ⟨_, nm, qn, Heap.get?_update_self _ ho (hnf _), hc, hd, .inr ?_⟩
  show (o.slots ++ Array.replicate (0 + 1 - o.slots.size) none).setIfInBounds 0 _ = _
  rw [slots_one o _ (.inr ⟨_, hs⟩), hs]
  rfl
end

/-! ### next -/
section
variable {P : Program} {w : World} {A : Around} {R : Result → Shared → Prop} {Y : Value → Shared → GenState → Prop} {s : Shared} {E : Value → Shared → Prop}
/-- generator.__next__, from its code -/
theorem wz_wakeGen {a : Addr} {g : Nat} {gs : GenState} {Q : PySem.Fin → Shared → Prop} (hh : A.handled = none) (hl : s.heap.NoLimit) (hroom : A.depth < recursionLimit) (hg : Gn s.heap a g) (hgs : s.gens[g]? = some gs)
    (hgo : WakeZ (model P w) A R Y gs (s.setGen g .running)) (hR : ∀ r s1, s.gens.size ≤ s1.gens.size → R r s1 → (r = .ok (.ret .none) ∨ r = .ok .next) ∧ ∀ e h', L2.StopX e h' → (∀ b o, s1.heap.get? b = some o → h'.get? b = some o) → E e { s1.setGen g .finished with heap := h' })
    (hY : ∀ v s1 gs', s.gens.size ≤ s1.gens.size → Y v s1 gs' → Q (.done (.ret v)) (s1.setGen g gs')) : wz (model P w) A (Builtin.Generator.genWake (.ref a) (.send .none)) Q E s := by
  unfold Builtin.Generator.genWake
  refine wz_bind (wz_holding (wz_of (wp_number hg ?_)))
  refine wz_bind (wz_of (wpAny_genState hgs ?_))
  have go : wz (model P w) A (do match ← resume g (.send .none) with
      | .yielded v => ret v
      | .returned v =>
        if v == .none then raiseNew (← newExc (.type "StopIteration") [])
        rule "generator.return-value"; throw (← newExc (.type "StopIteration") [v])
      | .raised e => Builtin.Generator.genLeft (.ref a) e
      | .running => rule "generator.already-executing"; raiseError "ValueError" "generator already executing"
      | .justStarted => rule "generator.send-to-fresh"; raiseError "TypeError" "can't send non-None value to a just-started generator"
      | .finished => raiseNew (← newExc (.type "StopIteration") []) : Sem PySem.Fin) Q E s := by
    refine wz_resume hgs hgo (fun r s1 hz q => ?_) fun v s1 gs' hz q => ?_
    · obtain ⟨hr, hE⟩ := hR r s1 hz q
      have hres : End.result (.ret r) = .returned .none := by rcases hr with hr | hr <;> rw [hr] <;> rfl
      rw [hres]
      refine wz_of ?_
      show wpAny _ A (newExc (.type "StopIteration") [] >>= fun x => _) _ _ _
      refine wpAny_bind ?_
      simp only [newExc, newTuple]
      refine wpAny_bind (wpAny_newObj_type ?_ (by size_fits))
      refine wpAny_bind (m := firstArgMember _ _) (wpAny_of_eq (a := Value.none) (by first | rfl | (simp only [firstArgMember]; rfl)) ?_)
      refine wpAny_newObj_type ?_ (by size_fits)
      simp only [raiseNew]
      refine wpAny_bind (wpAny_bind (wpAny_handled ?_))
      rw [hh]
      refine wpAny_throw ?_
      refine hE _ _ ⟨_, _, _, rfl, Heap.get?_push_size _ rfl, rfl, rfl, ?_⟩ fun b o hb => Heap.get?_push_of_some _ (Heap.get?_push_of_some _ hb)
      first
        | rfl
        | (rw [Array.getElem?_append_left (by decide)]; rfl)
        | kernel_rfl
    · exact wz_pure (hY v s1 gs' hz q)
  cases gs with
  | running => exact hgo.elim
  | finished => exact hgo.elim
  | fresh c => exact wz_bind (wz_of (wpAny_roomToWake hl hroom go))
  | suspended k l c p fs cl => exact wz_bind (wz_of (wpAny_roomToWake hl hroom go))
theorem codez_builtin {id : String} {args : Args} {b : Builtin} {Rr : Result → Shared → Prop} (hb : entryFor table id = some b)
    (h : wz (model P w) (A.under (.builtin id args)) (b args) (fun fin s' => match fin with | .done f => Rr (.ok f) s' | .again c' => c'.quiet = true ∧ codez (model P w) A c' Rr s') (fun e s' => Rr (.error e) s') s) : codez (model P w) A (.builtin id args) Rr s := by
  refine codez_tree ?_
  show wz _ _ (match entryFor table id with | some b => b args | none => unsupported ((withoutEnding? id "#data").getD id)) _ _ s
  rw [hb]; exact h
/-- a builtin's call, from its code -/
theorem wz_entry {T : String} {name : Str} {id : String} {b : Builtin} {self : Value} {rest : List Value} {Q : Value → Shared → Prop} (h : Slot T name id) (hT : s.TypeIs self T) (hb : entryFor table id = some b)
    (hc : wz (model P w) A.in1 (b ⟨self :: rest, []⟩) (fun fin s' => ∃ v, fin = .done (.ret v) ∧ Q v s') E s) (ha : argsOk id ⟨self :: rest, []⟩) : wz (model P w) A (PySem.call (.builtin id) (self :: rest)) Q E s := by
  refine wz_call (codez_tree ?_)
  show wz _ A.in1 (do checkBuiltinCall id ⟨self :: rest, []⟩; again (.builtin id ⟨self :: rest, []⟩)) _ _ s
  refine wz_bind (wz_of (h.check _ _ _ _ _ _ _ _ hT ha ?_))
  refine wz_pure ⟨plainId_quiet h.plain _, codez_tree ?_⟩
  rw [Around.under_plainId h.plain _]
  show wz _ _ (match entryFor table id with | some b => b ⟨self :: rest, []⟩ | none => unsupported ((withoutEnding? id "#data").getD id)) _ _ s
  rw [hb]
  exact wz_thn hc fun fin s' ⟨v, e, q⟩ => by subst e; exact q
theorem wz_special {self : Value} {T : String} {name : Str} {id : String} {Q : Option Value → Shared → Prop} (hT : s.TypeIs self T) (h : Slot T name id)
    (hc : wz (model P w) A (PySem.call (.builtin id) [self]) (fun v => Q (some v)) E s) : wz (model P w) A (callSpecial? self name) Q E s := by
  simp only [callSpecial?]
  refine wz_bind (wz_of (wpAny_specialOf hT h.lookup ?_))
  simp only [h.bind]
  exact wz_holding (wz_bind (wz_pure (wz_bind (wz_thn hc fun v s' q => wz_pure q))))
/-- next(g) by its special method -/
theorem wz_nextGen {a : Addr} {g : Nat} {gs : GenState} {Q : Option Value → Shared → Prop} (hh : A.handled = none) (hl : s.heap.NoLimit) (hroom : A.depth < recursionLimit) (hg : Gn s.heap a g) (hgs : s.gens[g]? = some gs)
    (hgo : WakeZ (model P w) A.in1 R Y gs (s.setGen g .running)) (hR : ∀ r s1, s.gens.size ≤ s1.gens.size → R r s1 → (r = .ok (.ret .none) ∨ r = .ok .next) ∧ ∀ e h', L2.StopX e h' → (∀ b o, s1.heap.get? b = some o → h'.get? b = some o) → E e { s1.setGen g .finished with heap := h' })
    (hY : ∀ v s1 gs', s.gens.size ≤ s1.gens.size → Y v s1 gs' → Q (some v) (s1.setGen g gs')) : wz (model P w) A (callSpecial? (.ref a) "__next__") Q E s :=
  wz_special (name := Str.ofString "__next__") hg.typeIs slot_gen_next (wz_entry slot_gen_next hg.typeIs entry_gen_next (wz_wakeGen (A := A.in1) hh hl hroom hg hgs hgo hR fun v s1 gs' hz q => ⟨v, rfl, hY v s1 gs' hz q⟩) (args_gen_next _))
end
end Zed

set_option Elab.async false
set_option linter.all false
set_option maxRecDepth 100000
set_option maxHeartbeats 1000000
/-! Z5a: a generator that delegates to a generator; the consumer's list S, the chain C of delegators. -/
namespace Zed
open PySem L2 PyProof.Rows

/-- between a yield of v and the next waking: v is put behind the list at S, the chain's generators run again -/
structure Rest (S : Addr) (C : List (Addr × Nat)) (v : Value) (s s' : Shared) : Prop where
  os : s'.os = s.os
  keep : ∀ b o, b ≠ S → (∀ p ∈ C, p.1 ≠ b) → s.heap.get? b = some o → s'.heap.get? b = some o
  own : ∀ acc c, s.heap.get? S = some (lstObj acc c) → ∃ c', s'.heap.get? S = some (lstObj (acc.push v) c')
  gn : ∀ p ∈ C, Gn s.heap p.1 p.2 → Gn s'.heap p.1 p.2
  gens : ∀ i, (∀ p ∈ C, p.2 ≠ i) → s'.gens[i]? = s.gens[i]?
  run : ∀ p ∈ C, s'.gens[p.2]? = some .running
  sz : s.gens.size ≤ s'.gens.size
/-- how the state lies against the generator's making (at H, sc, over the frames outer): ys is out -/
structure Com (P : Program) (w : World) (outer : List Env) (EX : List Addr) (H : Hp) (sc : Shared) (S : Addr) (C : List (Addr × Nat)) (ys : List V) (H' : Hp) (s : Shared) : Prop where
  os : s.os = sc.os
  un : Un (frs outer) EX H H' sc.heap s.heap
  hok : HOk P w H' s.heap
  lst : ∃ acc c, s.heap.get? S = some (lstObj acc c) ∧ Vals ys acc.toList
  free : H' S = none
  gn : ∀ p ∈ C, Gn s.heap p.1 p.2 ∧ H' p.1 = none
theorem Com.kept {P : Program} {w : World} {outer : List Env} {EX : List Addr} {H : Hp} {sc : Shared} {S : Addr} {C : List (Addr × Nat)} {ys : List V} {H' : Hp} {s s' : Shared} (c : Com P w outer EX H sc S C ys H' s) (os : s'.os = s.os) (k : ∀ b o, s.heap.get? b = some o → s'.heap.get? b = some o) : Com P w outer EX H sc S C ys H' s' :=
  ⟨os.trans c.os, c.un.trans (Un.kept k), c.hok.kept k, let ⟨acc, n, e, r⟩ := c.lst; ⟨acc, n, k _ _ e, r⟩, c.free, fun p hp => ⟨(c.gn p hp).1.keep fun o e => k _ o e, (c.gn p hp).2⟩⟩
theorem un_off {fs ex : List Addr} {H H' : Hp} {h h1 h2 : Heap} (u : Un fs ex H H' h h1) (k : ∀ b o, b < h.objs.size → h1.get? b = some o → h2.get? b = some o) : Un fs ex H H' h h2 where
  keep := fun b o e n hb hx => k b o (Heap.lt_size e) (u.keep b o e n hb hx)
  slot := fun b o e n hb hx => let ⟨sl, q⟩ := u.slot b o e n hb hx; ⟨sl, k b _ (Heap.lt_size e) q⟩
  free := u.free
  there := fun b o e hx => let ⟨o', q⟩ := u.there b o e hx; ⟨o', k b _ (Heap.lt_size e) q⟩
  tups := u.tups
  frzs := u.frzs
  tbls := u.tbls
theorem hok_but {P : Program} {w : World} {H : Hp} {h h' : Heap} {a : Addr} (x : HOk P w H h) (ha : H a = none) (k : ∀ b o, b ≠ a → h.get? b = some o → h'.get? b = some o) : HOk P w H h' := fun b u e =>
  (x b u e).stay (fun c v hc q => k c v (by
    rcases hc with z | z
    · rintro rfl; rw [z, e] at ha; cases ha
    · rintro rfl; rw [ha] at z; cases z) q) (fun _ q => q) fun _ _ q => q
abbrev CmT := List V → Hp → Shared → Prop
/-- a generator that has the tuples qs to hand out: ys is out, Hc the abstract heap -/
def Rdy (M : Model) (A : Around) (Cm : CmT) (Sl : Value → Shared → Shared → Prop) : List (List V) → List V → Hp → GenState → Shared → Prop
  | [], ys, Hc, gs, s => WakeZ M A (fun r s' => (r = .ok (.ret .none) ∨ r = .ok .next) ∧ ∃ H', Ext Hc H' ∧ Cm ys H' s' ∧ AllBare s'.gens) (fun _ _ _ => False) gs s
  | q :: qs, ys, Hc, gs, s => WakeZ M A (fun _ _ => False) (fun v s' gs' => ∃ p H', v = .ref p ∧ Ext Hc H' ∧ H' p = some (.tup q) ∧ Cm ys H' s' ∧ ∀ s'', Sl v s' s'' → Rdy M A Cm Sl qs (ys ++ [.ref p]) H' gs' s'') gs s
def Rof (Cm : CmT) (qs : List (List V)) (ys : List V) (Hc : Hp) (r : Result) (s' : Shared) : Prop :=
  qs = [] ∧ (r = .ok (.ret .none) ∨ r = .ok .next) ∧ ∃ H', Ext Hc H' ∧ Cm ys H' s' ∧ AllBare s'.gens
def Yof (M : Model) (A : Around) (Cm : CmT) (Sl : Value → Shared → Shared → Prop) (qs : List (List V)) (ys : List V) (Hc : Hp) (v : Value) (s' : Shared) (gs' : GenState) : Prop :=
  ∃ q qs' p H', qs = q :: qs' ∧ v = .ref p ∧ Ext Hc H' ∧ H' p = some (.tup q) ∧ Cm ys H' s' ∧ ∀ s'', Sl v s' s'' → Rdy M A Cm Sl qs' (ys ++ [.ref p]) H' gs' s''
theorem rdy_iff {M : Model} {A : Around} {Cm : CmT} {Sl : Value → Shared → Shared → Prop} {qs : List (List V)} {ys : List V} {Hc : Hp} {gs : GenState} {s : Shared} :
    Rdy M A Cm Sl qs ys Hc gs s ↔ WakeZ M A (Rof Cm qs ys Hc) (Yof M A Cm Sl qs ys Hc) gs s := by
  cases qs with
  | nil => exact ⟨fun h => WakeZ.imp h (fun r s q => ⟨rfl, q⟩) fun v s gs q => q.elim, fun h => WakeZ.imp h (fun r s q => q.2) fun v s gs ⟨_, _, _, _, e, _⟩ => by cases e⟩
  | cons q qs =>
    refine ⟨fun h => WakeZ.imp h (fun r s z => z.elim) fun v s gs ⟨p, H', z⟩ => ⟨q, qs, p, H', rfl, z⟩, fun h => WakeZ.imp h (fun r s z => by cases z.1) fun v s gs ⟨q', qs', p, H', e, z⟩ => ?_⟩
    cases e
    exact ⟨p, H', z⟩
/-- from here the generator's code hands out qs and ends -/
abbrev Sg (M : Model) (A : Around) (Cm : CmT) (Sl : Value → Shared → Shared → Prop) (qs : List (List V)) (ys : List V) (Hc : Hp) (c : Code) (t : Sem PySem.Fin) (fs : List Frame) (s : Shared) : Prop :=
  SegZ M A (Rof Cm qs ys Hc) (Yof M A Cm Sl qs ys Hc) c t fs s
theorem Sg.ext {M : Model} {A : Around} {Cm : CmT} {Sl : Value → Shared → Shared → Prop} {qs : List (List V)} {ys : List V} {Hc Hd : Hp} {c : Code} {t : Sem PySem.Fin} {fs : List Frame} {s : Shared} (h : Sg M A Cm Sl qs ys Hd c t fs s) (e : Ext Hc Hd) : Sg M A Cm Sl qs ys Hc c t fs s :=
  SegZ.imp h (fun r s ⟨a, b, H', x, z⟩ => ⟨a, b, H', e.trans x, z⟩) fun v s gs ⟨q, qs', p, H', a, b, x, z⟩ => ⟨q, qs', p, H', a, b, e.trans x, z⟩

/-! ### the invariant, without the generators' table -/
abbrev nog (s : Shared) : Shared := { s with gens := #[] }
theorem bare_nil : AllBare (#[] : Array GenState) := fun y hy => by simp at hy
section
variable {X : Cx} {pins : List (Addr × Obj)} {σ : L2.St} {H H' : Hp} {s s' : Shared}
theorem inv_nog (I : Inv X pins σ H s) : Inv X pins σ H (nog s) := ⟨I.ok, I.os, bare_nil, I.base, I.loc, I.cell, I.free, I.freeC, I.pin, I.hok, I.len⟩
theorem inv_reg (I : Inv X pins σ H (nog s)) (hb : AllBare s.gens) : Inv X pins σ H s := ⟨I.ok, I.os, hb, I.base, I.loc, I.cell, I.free, I.freeC, I.pin, I.hok, I.len⟩
/-- these addresses are the generator's consumers': they may change while it sleeps -/
def Oth (X : Cx) (pins : List (Addr × Obj)) (b : Addr) : Prop := (b ∈ X.ex ∨ X.s_0.heap.objs.size ≤ b) ∧ b ≠ X.env.locals ∧ (∀ x c, X.env.cells.lookup x = some c → c ≠ b) ∧ ∀ p ∈ X.pn ++ pins, p.1 ≠ b
theorem inv_rest {S : Addr} {C : List (Addr × Nat)} {v : Value} (I : Inv X pins σ H (nog s)) (r : Rest S C v s s') (hS : Oth X pins S) (hC : ∀ p ∈ C, Oth X pins p.1) (nS : H S = none) (nC : ∀ p ∈ C, H p.1 = none) (hS' : ∃ acc c, s.heap.get? S = some (lstObj acc c)) (hC' : ∀ p ∈ C, Gn s.heap p.1 p.2) : Inv X pins σ H (nog s') := by
  obtain ⟨h', g', d', t', o'⟩ := s'
  obtain rfl : o' = s.os := r.os
  have nin : ∀ b, b ∉ S :: C.map (·.1) → b ≠ S ∧ ∀ p ∈ C, p.1 ≠ b := fun b hb => ⟨fun e => hb (by rw [e]; exact List.mem_cons_self), fun p hp e => hb (List.mem_cons_of_mem _ (List.mem_map.mpr ⟨p, hp, e⟩))⟩
  have kp : ∀ b o, b ∉ S :: C.map (·.1) → s.heap.get? b = some o → h'.get? b = some o := fun b o hb e => r.keep b o (nin b hb).1 (nin b hb).2 e
  have trk : ∀ b u, H b = some u → b ∉ S :: C.map (·.1) := fun b u q hb => by
    rcases List.mem_cons.mp hb with z | z
    · rw [z, nS] at q; cases q
    · obtain ⟨p, hp, e⟩ := List.mem_map.mp z
      rw [← e, nC p hp] at q; cases q
  refine Inv.step (s := nog s) (h' := h') (g' := #[]) (t' := t') (d' := d') (ch := S :: C.map (·.1)) I (fun b hb => ?_) (fun b o _ _ hb e _ => kp b o hb e) (fun b o _ _ hb e _ => ⟨o.slots, kp b o hb e⟩) (fun _ _ _ _ n => n) (fun b o hb e => ⟨o, kp b o hb e⟩)
    (fun _ _ q => q) (fun _ _ _ q => q) (fun b ps q => ⟨#[], by rw [q]; simp⟩) (fun m hm => ?_) (fun b u q => ?_) bare_nil
  · rcases List.mem_cons.mp hb with z | z
    · rw [z]; exact hS
    · obtain ⟨p, hp, e⟩ := List.mem_map.mp z
      rw [← e]; exact hC p hp
  · obtain ⟨o, es, ep, ho, z⟩ := hm
    refine ⟨o, es, ep, kp _ o (fun hb => ?_) ho, z⟩
    rcases List.mem_cons.mp hb with z | z
    · exact hS.2.1 z.symm
    · obtain ⟨p, hp, e⟩ := List.mem_map.mp z
      exact (hC p hp).2.1 e
  · refine (I.hok b u q).stay (fun c o hc e => kp c o ?_ e) (fun _ z => z) fun _ _ z => z
    rcases hc with z | z
    · rw [z]; exact trk b u q
    · exact trk c _ z
/-- behind a stretch of a callee's generator -/
theorem inv_com {S : Addr} {C : List (Addr × Nat)} {EX : List Addr} {ys : List V} {sc : Shared} (I : Inv X pins σ H sc) (c : Com X.prog X.w X.stack EX H sc S C ys H' s) (hE : ∀ b ∈ EX, Oth X pins b) : Inv X pins σ H' (nog s) :=
  I.call' (s' := nog s) (ch := EX) c.os c.un c.hok bare_nil hE
end

end Zed

set_option Elab.async false
set_option linter.all false
set_option maxRecDepth 100000
set_option maxHeartbeats 1000000
namespace Zed
open PySem L2 PyProof.Rows

/-! ### «yield from» over a generator -/
theorem close_gen : typeLookup (.type "generator") "close" = pure (some (.builtin "generator.close")) := by rw [typeLookup_type, builtinLookup_eq_fast]; kernel_rfl
abbrev yfc (a : Addr) : Code := .builtin "proto.yield_from" ⟨[.ref a, .bool false, .none], []⟩
theorem sz_yf {X : Cx} {A : Around} {S a : Addr} {g : Nat} {C : List (Addr × Nat)} {EX : List Addr} {ip : List (Addr × Obj)} {σ : L2.St} {H : Hp} {sc : Shared} {fs : List Frame} {rest : List (List V)}
    (hov : A.over (yfc a) fs = X.A.in1) (hh : X.A.handled = none) (hdep : X.A.depth < recursionLimit) (hsp : splitAtGen fs = none) (hgd : fs.any Frame.guarded = false)
    (I : Inv X ip σ H sc) (hE : ∀ b ∈ EX, Oth X ip b) (hS : Oth X ip S) (hC : ∀ p ∈ C, Oth X ip p.1)
    (hna : sc.heap.objs.size ≤ a) (hSa : S < a) (hCa : ∀ p ∈ C, p.1 < a) (hCg : ∀ p ∈ C, p.2 < g)
    (hend : ∀ ys H' s', Ext H H' → Inv X ip σ H' s' → (∃ acc c, s'.heap.get? S = some (lstObj acc c) ∧ Vals ys acc.toList) → H' S = none → (∀ p ∈ C, Gn s'.heap p.1 p.2 ∧ H' p.1 = none) → sc.gens.size ≤ s'.gens.size →
      Sg (model X.prog X.w) A (Com X.prog X.w X.outer X.ex X.H_0 X.s_0 S C) (Rest S C) rest ys H' (yfc a) (.pure (.done (.ret .none))) fs s') :
    ∀ (qs : List (List V)) (ys : List V) (Hc : Hp) (gs : GenState) (s : Shared), Ext H Hc → s.gens[g]? = some gs → sc.gens.size ≤ s.gens.size → s.heap.NoLimit → Gn s.heap a g →
      Rdy (model X.prog X.w) X.A.in1.in1 (Com X.prog X.w X.stack EX H sc S ((a, g) :: C)) (Rest S ((a, g) :: C)) qs ys Hc gs (s.setGen g .running) →
      Sg (model X.prog X.w) A (Com X.prog X.w X.outer X.ex X.H_0 X.s_0 S C) (Rest S C) (qs ++ rest) ys Hc (yfc a) ((model X.prog X.w).den (yfc a)) fs s := by
  intro qs
  induction qs with
  | nil =>
    intro ys Hc gs s hHc hgs hsz hl hgn hrd
    have hgl : g < s.gens.size := (Array.getElem?_eq_some_iff.mp hgs).1
    rw [den_yf]
    unfold Builtin.«proto.yield_from»
    try dsimp only
    refine sz_bind (wz_of (wpAny_pure ?_))
    try dsimp only
    refine sz_bind ?_
    rw [hov]
    refine wz_attempt (wz_holding ?_)
    rw [if_neg Bool.false_ne_true, if_pos (show (Value.none == Value.none) = true from rfl)]
    refine wz_bind (wz_of (wpAny_rule ?_))
    refine wz_bind ?_
    refine wz_nextGen (A := X.A.in1) (g := g) (gs := gs) hh hl hdep hgn hgs (rdy_iff.mp hrd) (fun r s1 hz hr => ?_) fun v s1 gs' hz hy => ?_
    · obtain ⟨_, hr, H', hx, hc, hb⟩ := hr
      refine ⟨hr, fun e h' hS' hk => ?_⟩
      obtain ⟨b, o, vs, rfl, hob, hcls, hdat, h5⟩ := hS'
      try dsimp only
      refine sz_bind (wz_of (wpAny_endsTurn hob hcls ?_))
      try dsimp only
      rw [if_pos rfl]
      rw [if_neg Bool.false_ne_true]
      first
        | refine sz_bind (wz_of (wpAny_rule ?_))
        | (refine sz_bind (wz_of (wpAny_pure ?_)); refine sz_bind (wz_of (wpAny_rule ?_)))
      refine sz_bind (wz_of (wpAny_field hob hdat h5 ?_))
      have hk' : ∀ b o, s1.heap.get? b = some o → ({ s1.setGen g .finished with heap := h' } : Shared).heap.get? b = some o := hk
      have c2 := Com.kept (s' := { s1.setGen g .finished with heap := h' }) hc rfl hk'
      refine Sg.ext (hend ys H' _ (hHc.trans hx) (inv_reg (inv_com I c2 hE) (allBare_setGen hb rfl)) c2.lst c2.free (fun p hp => c2.gn p (List.mem_cons_of_mem _ hp)) ?_) hx
      show sc.gens.size ≤ (s1.setGen g .finished).gens.size
      rw [GenW.setGen_size]
      exact Nat.le_trans hsz hz
    · obtain ⟨q, qs', p, H', e, _⟩ := hy
      cases e
  | cons q qs ih =>
    intro ys Hc gs s hHc hgs hsz hl hgn hrd
    have hgl : g < s.gens.size := (Array.getElem?_eq_some_iff.mp hgs).1
    rw [den_yf]
    unfold Builtin.«proto.yield_from»
    try dsimp only
    refine sz_bind (wz_of (wpAny_pure ?_))
    try dsimp only
    refine sz_bind ?_
    rw [hov]
    refine wz_attempt (wz_holding ?_)
    rw [if_neg Bool.false_ne_true, if_pos (show (Value.none == Value.none) = true from rfl)]
    refine wz_bind (wz_of (wpAny_rule ?_))
    refine wz_bind ?_
    refine wz_nextGen (A := X.A.in1) (g := g) (gs := gs) hh hl hdep hgn hgs (rdy_iff.mp hrd) (fun r s1 hz hr => ?_) fun v s1 gsi hz hy => ?_
    · cases hr.1
    obtain ⟨q0, qs0, p, H', e0, rfl, hx, htup, hc, hnext⟩ := hy
    cases e0
    have hgl1 : g < s1.gens.size := Nat.lt_of_lt_of_le hgl hz
    have ga : Gn s1.heap a g := (hc.gn (a, g) List.mem_cons_self).1
    have na : H' a = none := (hc.gn (a, g) List.mem_cons_self).2
    have hne : ∀ p ∈ C, p.1 ≠ a := fun p hp => Nat.ne_of_lt (hCa p hp)
    have hng : ∀ p ∈ C, p.2 ≠ g := fun p hp => Nat.ne_of_lt (hCg p hp)
    have hSa' : S ≠ a := Nat.ne_of_lt hSa
    refine wz_pure ?_
    try dsimp only
    refine sz_bind (wz_of (wpAny_typeOf (T := "generator") (Gn.typeIs (s := s1.setGen g gsi) ga) ?_))
    try dsimp only
    first
      | (refine sz_bind (wz_of (wpAny_of_eq close_gen ?_)); refine sz_bind (wz_of (wpAny_pure ?_)))
      | refine sz_bind (wz_of (wpAny_bind (wpAny_of_eq close_gen (wpAny_pure ?_))))
      | refine sz_bind (wz_of (wpAny_of_eq close_gen ?_))
    try dsimp only
    refine sz_bind (wz_of (wp_sleptUp (s := s1.setGen g gsi) ga fun h2 hs2 g1 => ?_))
    obtain ⟨o1, ho1, hn1⟩ := g1.number
    -- the state at the yield
    have k2 : ∀ b o, b ≠ a → s1.heap.get? b = some o → h2.get? b = some o := fun b o hb e => (hs2.2 b hb).trans e
    have c2 : Com X.prog X.w X.stack EX H sc S C ys H' { s1.setGen g gsi with heap := h2 } :=
      ⟨hc.os, un_off hc.un fun b o hb e => k2 b o (Nat.ne_of_lt (Nat.lt_of_lt_of_le hb hna)) e, hok_but hc.hok na k2, let ⟨acc, n, e, r⟩ := hc.lst; ⟨acc, n, k2 _ _ hSa' e, r⟩, hc.free,
        fun p hp => ⟨(hc.gn p (List.mem_cons_of_mem _ hp)).1.keep fun o e => k2 _ o (hne p hp) e, (hc.gn p (List.mem_cons_of_mem _ hp)).2⟩⟩
    have J2 := inv_com I c2 hE
    refine sz_yield hsp ⟨hgd, fun _ => ⟨a, _, _, o1, g, rfl, ho1, hn1⟩⟩ fun p' => ?_
    refine ⟨q, qs ++ rest, p, H', rfl, rfl, hx, htup, ⟨J2.os, J2.base, J2.hok, c2.lst, c2.free, c2.gn⟩, fun s'' r => rdy_iff.mpr ?_⟩
    have g1'' : Gn1 s''.heap a g := g1.keep fun o e => r.keep a o hSa'.symm (fun p hp => hne p hp) e
    have J3 := inv_rest J2 r hS hC c2.free (fun p hp => (c2.gn p hp).2) (let ⟨acc, n, e, _⟩ := c2.lst; ⟨acc, n, e⟩) fun p hp => (c2.gn p hp).1
    have stne : cStatics ≠ a := Nat.ne_of_lt (Nat.lt_of_lt_of_le (let ⟨_, hn, _⟩ := I.nolimit; hn.lt) hna)
    show SegZ _ _ _ _ (yfc a) (Builtin.Generator.sleptOver (.ref a) false >>= fun _ => _) fs s''
    refine sz_bind (wz_of (wp_sleptDown g1'' fun h3 hs3 ga3 => ?_))
    try dsimp only
    refine sz_bind (wz_of (wpAny_pure ?_))
    have hg3 : s''.gens[g]? = some gsi := by
      rw [r.gens g hng]
      exact setGen_at hgl1
    have hz3 : s1.gens.size ≤ s''.gens.size := by
      have := r.sz
      have e : (s1.setGen g gsi).gens.size ≤ s''.gens.size := this
      rwa [GenW.setGen_size] at e
    refine sz_again (plainId_quiet plain_yf _) ?_
    refine ih (ys ++ [.ref p]) H' gsi { s'' with heap := h3 } (hHc.trans hx) hg3 (Nat.le_trans hsz (Nat.le_trans hz hz3)) (J3.nolimit.sameBut hs3 stne) ga3 (hnext (Shared.setGen { s'' with heap := h3 } g .running) ⟨r.os, fun b o hb hbC e => ?_, fun acc n e => ?_, fun p hp hg' => ?_, fun i hi => ?_, fun p hp => ?_, ?_⟩)
    · have hba : b ≠ a := fun z => hbC (a, g) List.mem_cons_self z.symm
      exact (hs3.2 b hba).trans (r.keep b o hb (fun p hp => hbC p (List.mem_cons_of_mem _ hp)) (k2 b o hba e))
    · obtain ⟨n', e'⟩ := r.own acc n (k2 S _ hSa' e)
      exact ⟨n', (hs3.2 S hSa').trans e'⟩
    · rcases List.mem_cons.mp hp with z | z
      · rw [z]; exact ga3
      · exact (r.gn p z (hg'.keep fun o e => k2 _ o (hne p z) e)).keep fun o e => (hs3.2 _ (hne p z)).trans e
    · have hig : i ≠ g := fun z => hi (a, g) List.mem_cons_self z.symm
      show (s''.gens.setIfInBounds g .running)[i]? = s1.gens[i]?
      rw [Array.getElem?_setIfInBounds_ne (Ne.symm hig), r.gens i fun p hp => hi p (List.mem_cons_of_mem _ hp)]
      show (s1.gens.setIfInBounds g gsi)[i]? = s1.gens[i]?
      rw [Array.getElem?_setIfInBounds_ne (Ne.symm hig)]
    · rcases List.mem_cons.mp hp with z | z
      · rw [z]
        exact setGen_at (s := { s'' with heap := h3 }) (Nat.lt_of_lt_of_le hgl1 hz3)
      · show (s''.gens.setIfInBounds g .running)[p.2]? = _
        rw [Array.getElem?_setIfInBounds_ne (Ne.symm (hng p z))]
        exact r.run p z
    · show s1.gens.size ≤ (Shared.setGen { s'' with heap := h3 } g .running).gens.size
      rw [GenW.setGen_size]
      exact hz3
end Zed

set_option Elab.async false
set_option linter.all false
set_option maxRecDepth 100000
set_option maxHeartbeats 1000000
/-! Z6: the statements of a generator's body, by segments. -/
namespace Zed
open PySem L2 PyProof.Rows

theorem wz_gsz {M : Model} {A : Around} {al : Type} {m : Sem al} {Q : al → Shared → Prop} {E : Value → Shared → Prop} {s : Shared}
    (h : wz M A m (fun a s' => s.gens.size ≤ s'.gens.size → Q a s') (fun x s' => s.gens.size ≤ s'.gens.size → E x s') s) : wz M A m Q E s := fun Phi c p st K J gd lv hA kQ kE => by
  have z := h (fun s' t' => (∃ a p', t' = ⟨K a, c, p', st⟩ ∧ (s.gens.size ≤ s'.gens.size → Q a s')) ∨ (∃ x p', t' = ⟨J x, c, p', st⟩ ∧ (s.gens.size ≤ s'.gens.size → E x s'))) c p st K J gd lv hA
    (fun a p' s' q => .here (.inl ⟨a, p', rfl, q⟩)) fun x p' s' q => .here (.inr ⟨x, p', rfl, q⟩)
  refine z.sized.trans fun s' t' ⟨q, hz⟩ => ?_
  rcases q with ⟨a, p', rfl, q⟩ | ⟨x, p', rfl, q⟩
  · exact kQ a p' s' (q hz)
  · exact kE x p' s' (q hz)

/-- where a generator's body stands: nothing that is raised leaves it -/
structure Body (X : Cx) (A : Around) (c : Code) (fs : List Frame) : Prop where
  over : A.over c fs = X.A
  split : splitAtGen fs = none
  guard : fs.any Frame.guarded = false
  xe : X.xe = fun _ _ => False
  calm : X.calm = true
  hd : X.A.handled = none

section
variable {X : Cx} {A : Around} {R : Result → Shared → Prop} {Y : Value → Shared → GenState → Prop} {c : Code} {fs : List Frame} {K : Flow → Sem PySem.Fin} {J : Value → Sem PySem.Fin} {gd : Bool → Bool} {lv : List Value → List Value}
  {pins : List (Addr × Obj)} {σ : L2.St} {H : Hp} {s : Shared} {pos : Pos}
abbrev MX (X : Cx) : Model := model X.prog X.w
theorem sz_wp {al : Type} {m : Sem al} {K : al → Sem PySem.Fin} {Q : al → Shared → Prop} (b : Body X A c fs) (h : wpAny (MX X) X.A m Q X.xe s) (k : ∀ a s', Q a s' → s.gens.size ≤ s'.gens.size → SegZ (MX X) A R Y c (K a) fs s') :
    SegZ (MX X) A R Y c (m.wrap K J gd lv) fs s := by
  refine sz_wrap ?_
  rw [b.over]
  refine wz_gsz (wz_mono (wz_of h) (fun a s' q hz => k a s' q hz) fun x s' q => ?_)
  rw [b.xe] at q
  exact q.elim
theorem sz_cons {st : Stmt} {rest : List Stmt} (h : SegZ (MX X) A R Y c ((exec st X.env).wrap (fun f => match f with | .next => (execs rest X.env).wrap K J gd lv | f => K f) J gd lv) fs s) :
    SegZ (MX X) A R Y c ((execs (st :: rest) X.env).wrap K J gd lv) fs s := by rw [execs_cons_wrap]; exact h
theorem sz_if {test : Expr} {body orelse : List Stmt} {tc : TT} (b : Body X A c fs) (hc : PT X test tc) (I : Inv X pins σ H s)
    (h : tc σ H fun k H1 => ∀ s', Inv X pins σ H1 s' → s.gens.size ≤ s'.gens.size → SegZ (MX X) A R Y c ((if k = true then execs body X.env else execs orelse X.env).wrap K J gd lv) fs s') :
    SegZ (MX X) A R Y c ((exec (.If test body orelse pos) X.env).wrap K J gd lv) fs s := by
  rw [arm_exec_If]
  show SegZ _ _ _ _ c (.at pos fun _ => (isTrue test X.env (eval test X.env) >>= fun k => if k = true then execs body X.env else execs orelse X.env).wrap K J gd lv) fs s
  refine sz_at ?_
  rw [Sem.bind_eq_wrap', Sem.wrap_wrap]
  exact sz_wp b (hc.run pins s σ H _ I h) fun k s' ⟨H1, I1, q⟩ hz => q s' I1 hz
/-- yield e -/
theorem sz_yieldS {e : Expr} {te : TE} {yp : Pos} (b : Body X A c fs) (hgd : gd false = false) (he : PE X e te) (I : Inv X pins σ H s)
    (h : te σ H fun x H1 => ∀ v s', Inv X pins σ H1 s' → RelV x v → s.gens.size ≤ s'.gens.size → ∀ gs', gs'.bare = true → (∀ (R' : Result → Shared → Prop) (Y' : Value → Shared → GenState → Prop) s'', SegZ (MX X) A R' Y' c (K .next) fs s'' → WakeZ (MX X) A R' Y' gs' s'') → Y v s' gs')
    (hco : X.env.scope.isCoroutine = false := by rfl) (hi : interactive X.env = false := by rfl) :
    SegZ (MX X) A R Y c ((exec (.Expr (.Yield (some e) yp) pos) X.env).wrap K J gd lv) fs s := by
  rw [exec_Expr X.env _ pos hi rfl]
  show SegZ _ _ _ _ c (.at pos fun _ => ((eval e X.env >>= fun v => (standAt yp >>= fun _ => yieldOut X.env v)) >>= fun x => dropValue (.Yield (some e) yp) pos x).wrap K J gd lv) fs s
  have hy : ∀ v, yieldOut X.env v = yieldValue v := fun v => by simp only [yieldOut, hco, Bool.false_eq_true, if_false]
  simp only [hy]
  refine sz_at ?_
  rw [Sem.bind_eq_wrap', Sem.bind_eq_wrap', Sem.wrap_wrap, Sem.wrap_wrap]
  refine sz_wp b (he.run pins s σ H _ I h) fun v s' ⟨x, H1, I1, r, q⟩ hz => ?_
  refine sz_at (sz_yield b.split ⟨b.guard, fun e => ?_⟩ fun p => ?_)
  · have e' : gd false = true := e
    rw [hgd] at e'; cases e'
  · refine q v s' I1 r hz _ ?_ fun R' Y' s'' hs => hs
    show (!(gd false || fs.any Frame.guarded)) = true
    rw [hgd, b.guard]; rfl

/-! ### what a generator's body holds besides: the consumer's list, the delegators -/
/-- the object of a generator -/
def GnObj (o : Obj) (g : Nat) : Prop := ∃ nm qn, o.cls = .type "generator" ∧ o.data = .fields #[.int g 0, nm, qn] ∧ (o.slots = #[] ∨ o.slots = #[some (rawInt 0)])
def IsOth (S : Addr) (C : List (Addr × Nat)) (b : Addr) : Prop := b = S ∨ ∃ p ∈ C, p.1 = b
structure HeldP (S : Addr) (C : List (Addr × Nat)) (ys : List V) (pp : List (Addr × Obj)) : Prop where
  lst : ∃ acc n, (S, lstObj acc n) ∈ pp ∧ Vals ys acc.toList
  gn : ∀ p ∈ C, ∃ o, (p.1, o) ∈ pp ∧ GnObj o p.2
  only : ∀ q ∈ pp, IsOth S C q.1
structure Held (X : Cx) (S : Addr) (C : List (Addr × Nat)) (ip : List (Addr × Obj)) (ys : List V) (σ : L2.St) (H : Hp) (s : Shared) : Prop where
  inv : ∃ pp, HeldP S C ys pp ∧ Inv X (pp ++ ip) σ H s
  sep : ∀ q ∈ ip, ¬ IsOth S C q.1
  num : ∀ p ∈ C, p.2 < s.gens.size
/-- the static part -/
structure OwnZ (X : Cx) (S : Addr) (C : List (Addr × Nat)) : Prop where
  oth : ∀ b, IsOth S C b → (b ∈ X.ex ∨ X.s_0.heap.objs.size ≤ b) ∧ b ≠ X.env.locals ∧ ∀ x c, X.env.cells.lookup x = some c → c ≠ b
  pn : X.pn = []
  base : ∀ b, IsOth S C b → X.base.get? b = none
section
variable {S : Addr} {C : List (Addr × Nat)} {ip : List (Addr × Obj)} {ys : List V} {s' : Shared} {H' : Hp} {σ' : L2.St}
theorem Held.un (h : Held X S C ip ys σ H s) : Inv X ip σ H s := by
  obtain ⟨pp, _, I⟩ := h.inv
  exact I.pins_of fun p hp => I.pin p (List.mem_append_right _ (List.mem_append_right _ hp))
theorem Held.lst (h : Held X S C ip ys σ H s) : (∃ acc n, s.heap.get? S = some (lstObj acc n) ∧ Vals ys acc.toList) ∧ H S = none := by
  obtain ⟨pp, ⟨⟨acc, n, hm, r⟩, _, _⟩, I⟩ := h.inv
  have q := I.pin _ (List.mem_append_right _ (List.mem_append_left _ hm))
  exact ⟨⟨acc, n, q.1, r⟩, q.2.1⟩
theorem Held.gn (h : Held X S C ip ys σ H s) : ∀ p ∈ C, Gn s.heap p.1 p.2 ∧ H p.1 = none := fun p hp => by
  obtain ⟨pp, ⟨_, hg, _⟩, I⟩ := h.inv
  obtain ⟨o, hm, nm, qn, h1, h2, h3⟩ := hg p hp
  have q := I.pin _ (List.mem_append_right _ (List.mem_append_left _ hm))
  exact ⟨⟨o, nm, qn, q.1, h1, h2, h3⟩, q.2.1⟩
theorem Held.othAt (h : Held X S C ip ys σ H s) (w : OwnZ X S C) {b : Addr} (hb : IsOth S C b) : Oth X ip b := by
  obtain ⟨h1, h2, h3⟩ := w.oth b hb
  refine ⟨h1, h2, h3, fun p hp e => ?_⟩
  rw [w.pn, List.nil_append] at hp
  exact h.sep p hp (by rw [e]; exact hb)
theorem Held.there (h : Held X S C ip ys σ H s) {b : Addr} (hb : IsOth S C b) : b < s.heap.objs.size := by
  rcases hb with rfl | ⟨p, hp, rfl⟩
  · obtain ⟨acc, n, e, _⟩ := h.lst.1
    exact Heap.lt_size e
  · obtain ⟨o, _, _, e, _⟩ := (h.gn p hp).1
    exact Heap.lt_size e
theorem Held.nofs (w : OwnZ X S C) (I : Inv X ip σ H s) {b : Addr} (hb : IsOth S C b) : b ∉ X.fs := fun hf => by
  rcases (w.oth b hb).1 with z | z
  · exact I.ok.exfs b z hf
  · obtain ⟨_, o, ho, _⟩ := I.ok.funs.mem hf
    exact absurd (Nat.lt_of_lt_of_le (Heap.lt_size ho) z) (Nat.lt_irrefl _)
/-- the same things held, behind an evaluation with them pinned -/
theorem Held.next {pp : List (Addr × Obj)} (hp : HeldP S C ys pp) (sep : ∀ q ∈ ip, ¬ IsOth S C q.1) (num : ∀ p ∈ C, p.2 < s.gens.size) (I : Inv X (pp ++ ip) σ' H' s') (hz : s.gens.size ≤ s'.gens.size) : Held X S C ip ys σ' H' s' :=
  ⟨⟨pp, hp, I⟩, sep, fun p q => Nat.lt_of_lt_of_le (num p q) hz⟩
/-- taken up anew -/
theorem Held.again (w : OwnZ X S C) (sep : ∀ q ∈ ip, ¬ IsOth S C q.1) (I : Inv X ip σ H s) (hl : ∃ acc n, s.heap.get? S = some (lstObj acc n) ∧ Vals ys acc.toList) (nS : H S = none) (hg : ∀ p ∈ C, Gn s.heap p.1 p.2 ∧ H p.1 = none) (num : ∀ p ∈ C, p.2 < s.gens.size) : Held X S C ip ys σ H s := by
  obtain ⟨acc, n, eS, r⟩ := hl
  have pinOk : ∀ b o, IsOth S C b → s.heap.get? b = some o → H b = none → (∀ v, o.data ≠ .cell v) → s.heap.get? b = some o ∧ H b = none ∧ b ≠ X.env.locals ∧ b ∉ X.fs ∧ ∀ v, o.data ≠ .cell v := fun b o hb e hn hd => ⟨e, hn, (w.oth b hb).2.1, Held.nofs w I hb, hd⟩
  have key : ∀ D : List (Addr × Nat), (∀ p ∈ D, p ∈ C) → ∃ pc : List (Addr × Obj), (∀ p ∈ D, ∃ o, (p.1, o) ∈ pc ∧ GnObj o p.2) ∧ ∀ q ∈ pc, IsOth S C q.1 ∧ s.heap.get? q.1 = some q.2 ∧ H q.1 = none ∧ q.1 ≠ X.env.locals ∧ q.1 ∉ X.fs ∧ ∀ v, q.2.data ≠ .cell v := by
    intro D
    induction D with
    | nil => intro _; exact ⟨[], fun p hp => (by simp at hp), fun q hq => (by simp at hq)⟩
    | cons d D ih =>
      intro hD
      obtain ⟨pc, h1, h2⟩ := ih fun p hp => hD p (List.mem_cons_of_mem _ hp)
      obtain ⟨⟨o, nm, qn, e, c1, c2, c3⟩, hn⟩ := hg d (hD d List.mem_cons_self)
      have hO : IsOth S C d.1 := .inr ⟨d, hD d List.mem_cons_self, rfl⟩
      refine ⟨(d.1, o) :: pc, fun p hp => ?_, fun q hq => ?_⟩
      · rcases List.mem_cons.mp hp with z | z
        · rw [z]; exact ⟨o, List.mem_cons_self, nm, qn, c1, c2, c3⟩
        · obtain ⟨o', m, z⟩ := h1 p z
          exact ⟨o', List.mem_cons_of_mem _ m, z⟩
      · rcases List.mem_cons.mp hq with z | z
        · rw [z]; exact ⟨hO, pinOk _ _ hO e hn fun v q => by rw [c2] at q; cases q⟩
        · exact h2 q z
  obtain ⟨pc, h1, h2⟩ := key C fun p hp => hp
  have hO : IsOth S C S := .inl rfl
  refine ⟨⟨(S, lstObj acc n) :: pc, ⟨⟨acc, n, List.mem_cons_self, r⟩, fun p hp => ?_, fun q hq => ?_⟩, I.pins_of fun q hq => ?_⟩, sep, num⟩
  · obtain ⟨o, m, z⟩ := h1 p hp
    exact ⟨o, List.mem_cons_of_mem _ m, z⟩
  · rcases List.mem_cons.mp hq with z | z
    · rw [z]; exact hO
    · exact (h2 q z).1
  · rcases List.mem_append.mp hq with z | z
    · rcases List.mem_cons.mp z with z | z
      · rw [z]; exact pinOk S _ hO eS nS fun v q => by cases q
      · exact (h2 q z).2
    · exact I.pin q (List.mem_append_right _ z)

/-- a test -/
theorem sz_ifH {test : Expr} {body orelse : List Stmt} {tc : TT} (b : Body X A c fs) (hc : PT X test tc) (h0 : Held X S C ip ys σ H s)
    (h : tc σ H fun k H1 => ∀ s', Held X S C ip ys σ H1 s' → SegZ (MX X) A R Y c ((if k = true then execs body X.env else execs orelse X.env).wrap K J gd lv) fs s') :
    SegZ (MX X) A R Y c ((exec (.If test body orelse pos) X.env).wrap K J gd lv) fs s := by
  obtain ⟨pp, hp, I⟩ := h0.inv
  rw [arm_exec_If]
  show SegZ _ _ _ _ c (.at pos fun _ => (isTrue test X.env (eval test X.env) >>= fun k => if k = true then execs body X.env else execs orelse X.env).wrap K J gd lv) fs s
  refine sz_at ?_
  rw [Sem.bind_eq_wrap', Sem.wrap_wrap]
  exact sz_wp b (hc.run _ s σ H _ I h) fun k s' ⟨H1, I1, q⟩ hz => q s' (Held.next hp h0.sep h0.num I1 hz)
end
end
end Zed

set_option Elab.async false
set_option linter.all false
set_option maxRecDepth 100000
set_option maxHeartbeats 1000000
/-! Z7: yield, yield from, for in a generator's body; a generator def by its body. -/
namespace Zed
open PySem L2 PyProof.Rows GenW

/-- what its consumer knows of the generator whose body X is -/
abbrev CmX (X : Cx) (S : Addr) (C : List (Addr × Nat)) : CmT := Com X.prog X.w X.outer X.ex X.H_0 X.s_0 S C
abbrev SgX (X : Cx) (A : Around) (S : Addr) (C : List (Addr × Nat)) (qs : List (List V)) (ys : List V) (Hc : Hp) (c : Code) (t : Sem PySem.Fin) (fs : List Frame) (s : Shared) : Prop :=
  Sg (MX X) A (CmX X S C) (Rest S C) qs ys Hc c t fs s

section
variable {X : Cx} {A : Around} {c : Code} {fs : List Frame} {K : Flow → Sem PySem.Fin} {J : Value → Sem PySem.Fin} {gd : Bool → Bool} {lv : List Value → List Value}
  {ip : List (Addr × Obj)} {σ : L2.St} {H : Hp} {s : Shared} {pos : Pos} {S : Addr} {C : List (Addr × Nat)} {ys : List V} {rest : List (List V)}

theorem bare_rest {v : Value} {s s' : Shared} (hb : AllBare s.gens) (r : Rest S C v s s') : AllBare s'.gens := fun y hy => by
  obtain ⟨i, hi, e⟩ := Array.mem_iff_getElem.mp hy
  have ei : s'.gens[i]? = some y := by rw [Array.getElem?_eq_getElem hi, e]
  by_cases hc : ∃ p ∈ C, p.2 = i
  · obtain ⟨p, hp, rfl⟩ := hc
    rw [r.run p hp] at ei
    cases ei; rfl
  · rw [r.gens i fun p hp z => hc ⟨p, hp, z⟩] at ei
    exact hb y (Array.mem_of_getElem? ei)

theorem sz_yieldH {e : Expr} {te : TE} {yp : Pos} {q : List V} (b : Body X A c fs) (w : OwnZ X S C) (hgd : gd false = false) (he : PE X e te) (h0 : Held X S C ip ys σ H s)
    (h : te σ H fun x H1 => ∃ p, x = .ref p ∧ H1 p = some (.tup q) ∧ Ext H H1 ∧ ∀ s'', Held X S C ip (ys ++ [.ref p]) σ H1 s'' → SgX X A S C rest (ys ++ [.ref p]) H1 c (K .next) fs s'')
    (hco : X.env.scope.isCoroutine = false := by rfl) (hi : interactive X.env = false := by rfl) :
    SgX X A S C (q :: rest) ys H c ((exec (.Expr (.Yield (some e) yp) pos) X.env).wrap K J gd lv) fs s := by
  obtain ⟨pp, hp, I⟩ := h0.inv
  rw [exec_Expr X.env _ pos hi rfl]
  show SegZ _ _ _ _ c (.at pos fun _ => ((eval e X.env >>= fun v => (standAt yp >>= fun _ => yieldOut X.env v)) >>= fun x => dropValue (.Yield (some e) yp) pos x).wrap K J gd lv) fs s
  have hy : ∀ v, yieldOut X.env v = yieldValue v := fun v => by simp only [yieldOut, hco, Bool.false_eq_true, if_false]
  simp only [hy]
  refine sz_at ?_
  rw [Sem.bind_eq_wrap', Sem.bind_eq_wrap', Sem.wrap_wrap, Sem.wrap_wrap]
  refine sz_wp b (he.run _ s σ H _ I h) fun v s' ⟨x, H1, I1, r, z⟩ hz => ?_
  obtain ⟨p, rfl, hpt, hx, hk⟩ := z
  obtain rfl : v = Value.ref p := r
  have hH1 : Held X S C ip ys σ H1 s' := Held.next hp h0.sep h0.num I1 hz
  refine sz_at (sz_yield b.split ⟨b.guard, fun e => ?_⟩ fun p' => ?_)
  · have e' : gd false = true := e
    rw [hgd] at e'; cases e'
  · have I2 := hH1.un
    refine ⟨q, rest, p, H1, rfl, rfl, hx, hpt, ⟨I2.os, I2.base, I2.hok, hH1.lst.1, hH1.lst.2, hH1.gn⟩, fun s'' rr => rdy_iff.mpr ?_⟩
    have J3 := inv_rest (inv_nog I2) rr (hH1.othAt w (.inl rfl)) (fun p hp => hH1.othAt w (.inr ⟨p, hp, rfl⟩)) hH1.lst.2 (fun p hp => (hH1.gn p hp).2) (let ⟨acc, n, e, _⟩ := hH1.lst.1; ⟨acc, n, e⟩) fun p hp => (hH1.gn p hp).1
    have I3 := inv_reg J3 (bare_rest I2.bare rr)
    obtain ⟨acc, n, eS, rv⟩ := hH1.lst.1
    obtain ⟨n', eS'⟩ := rr.own acc n eS
    refine hk s'' (Held.again w hH1.sep I3 ⟨_, n', eS', ?_⟩ hH1.lst.2 (fun p hp => ⟨rr.gn p hp (hH1.gn p hp).1, (hH1.gn p hp).2⟩) fun p hp => Nat.lt_of_lt_of_le (hH1.num p hp) rr.sz)
    rw [Array.toList_push]
    exact rv.append (.cons rfl .nil)
end

/-! ### a generator def -/
/-- a call of it gives a generator that has not begun -/
structure GMadeZ (s s' : Shared) (a : Addr) (g : Nat) (c : Code) : Prop where
  adr : s.heap.objs.size ≤ a
  lt : a < s'.heap.objs.size
  num : s.gens.size ≤ g
  fresh : s'.gens[g]? = some (.fresh c)
  os : s'.os = s.os
  bare : AllBare s'.gens
  gen : s'.heap.IsGen a g
  kept : ∀ b o, s.heap.get? b = some o → s'.heap.get? b = some o
/-- .. whose waking hands out qs -/
def WakeOk (P : Program) (w : World) (base : Heap) (k : Nat) (outer : List Env) (H : Hp) (s s' : Shared) (qs : List (List V)) (a : Addr) (g : Nat) (c : Code) : Prop :=
  ∀ (Aw : Around) (S : Addr) (C : List (Addr × Nat)) (EX : List Addr) (ys : List V) (s2 : Shared), Room k Aw → Aw.frames = some outer → (∀ b o, s'.heap.get? b = some o → s2.heap.get? b = some o) → s2.os = s.os → AllBare s2.gens → s'.gens.size ≤ s2.gens.size →
    (∀ b ∈ EX, b < s.heap.objs.size ∧ b ∉ frs outer ∧ base.get? b = none) → (∀ b, IsOth S C b → b ∈ EX ∨ s'.heap.objs.size ≤ b) → (∃ acc n, s2.heap.get? S = some (lstObj acc n) ∧ Vals ys acc.toList) → H S = none →
    (∀ p ∈ C, Gn s2.heap p.1 p.2 ∧ H p.1 = none) → (∀ p ∈ C, p.2 < s2.gens.size) →
    Rdy (model P w) Aw (Com P w outer EX H s S ((a, g) :: C)) (Rest S ((a, g) :: C)) qs ys H (.fresh c) s2
abbrev SpZ := List V → Hp → List (List V) → Prop
structure GenOk (P : Program) (w : World) (K : PySem.W.Frag) (mg : Str → Option Value) (base : Heap) (k : Nat) (f : Addr) (fd : FuncData) (ps : List Str) (sp : SpZ) : Prop where
  len : ∀ vs H qs, sp vs H qs → vs.length = ps.length
  run : ∀ (A : Around) (outer : List Env) (s : Shared) (H : Hp) (args : Args) (us : List Value) (vs : List V) (qs : List (List V)), Room 0 A → Env0 P w K mg base A outer s H → BindsTo s fd args (ps.zip us) → Vals vs us → sp vs H qs →
    codeAny (model P w) A (.call (.ref f) args) (fun r s' => ∃ a g c, r = .ok (.ret (.ref a)) ∧ GMadeZ s s' a g c ∧ WakeOk P w base k outer H s s' qs a g c) s

section
variable {X : Cx} {A : Around} {c : Code} {fs : List Frame} {K : Flow → Sem PySem.Fin} {J : Value → Sem PySem.Fin} {gd : Bool → Bool} {lv : List Value → List Value}
  {ip : List (Addr × Obj)} {σ : L2.St} {H : Hp} {s : Shared} {pos : Pos} {S : Addr} {C : List (Addr × Nat)} {ys : List V} {rest : List (List V)}

theorem over_one {A : Around} {c c' : Code} {fs : List Frame} {k : Result → Sem PySem.Fin} {g : Bool} {l kp : List Value} {p : Pos} (hw : c'.weight = 0) (hu : c'.cUnits = 1) :
    A.over c' (.ret k none g l c p kp :: fs) = (A.over c fs).in1 := by
  have h0 := GenW.over_loop (A := A) (c := c) (c' := .whileLoop (.Constant .none 0 ⟨0, 0, 0, 0⟩) [] [] default) (fs := fs) (k := k) (g := g) (l := l) (kp := kp) (p := p) rfl rfl
  rw [← h0]
  have e1 : c'.envs = [] := Code.envs_of_weight hw
  have e2 : c'.guards = [] := Code.guards_of_weight hw
  unfold Around.over Around.in1
  rw [e1, e2, hw, hu]
  rfl

/-- yield from f(..): f a generator def -/
theorem sz_yieldFromH {f : Addr} {fd : FuncData} {ps : List Str} {sp : SpZ} {k : Nat} {x : Str} {e : Expr} {es : List Expr} {t : TA} {qs : List (List V)} {yp p pos' : Pos} (b : Body X A c fs) (w : OwnZ X S C) (hgd : gd false = false)
    (F : GenOk X.prog X.w X.K X.mg X.base k f fd ps sp) (hr : Room (k + 2) X.A) (hg : Gl X x) (hm : X.mg x = some (.ref f)) (hkp : PySem.W.keepIn X.K (.ref f) = true) (hb : Binds X.K fd ps []) (ha : PA X (e :: es) t) (h0 : Held X S C ip ys σ H s)
    (h : t σ H fun vs H1 => sp vs H1 qs ∧ Ext H H1 ∧ ∀ ys' H' s', Ext H1 H' → Held X S C ip ys' σ H' s' → SgX X A S C rest ys' H' c (K .next) fs s')
    (hi : interactive X.env = false := by rfl) (hdb : (x == ("__debug__" : Str)) = false := by decide) (he : starEach (e :: es) X.env = (false, eval e X.env) :: starEach es X.env := by rfl) (hpl : (backTo pos' (starEach es X.env)).any (·.1) = false := by rfl) :
    SgX X A S C (qs ++ rest) ys H c ((exec (.Expr (.YieldFrom (.Call (.Name x p) (e :: es) [] pos') yp) pos) X.env).wrap K J gd lv) fs s := by
  obtain ⟨pp, hp, I⟩ := h0.inv
  rw [exec_Expr X.env _ pos hi rfl]
  show SegZ _ _ _ _ c (.at pos fun _ => ((eval (.Call (.Name x p) (e :: es) [] pos') X.env >>= fun v => (standAt yp >>= fun _ => yieldFrom X.env v)) >>= fun z => dropValue (.YieldFrom (.Call (.Name x p) (e :: es) [] pos') yp) pos z).wrap K J gd lv) fs s
  refine sz_at ?_
  rw [Sem.bind_eq_wrap', Sem.bind_eq_wrap', Sem.wrap_wrap, Sem.wrap_wrap]
  have hcall : wpAny (MX X) X.A (eval (.Call (.Name x p) (e :: es) [] pos') X.env) (fun u s2 => ∃ sc H1 a g cd, Inv X (pp ++ ip) σ H1 sc ∧ s.gens.size ≤ sc.gens.size ∧ u = .ref a ∧ GMadeZ sc s2 a g cd ∧ Ext H H1 ∧
      WakeOk X.prog X.w X.base k X.stack H1 sc s2 qs a g cd ∧
      ∀ ys' H' s', Ext H1 H' → Held X S C ip ys' σ H' s' → SgX X A S C rest ys' H' c (K .next) fs s') X.xe s := by
    refine wpAny_Call_Name_kw (ld_glob I hg hm ?_ hdb)
    refine PySem.W.callWith_K (h₀ := X.base) I.ok.mod.kin hkp (wpAny_gsz (n := s.gens.size) (Nat.le_refl _) (wpAny_mono (ha.run pos' _ s σ H _ I h) (fun us s1 ⟨vs, H1, I1, r, q1, q2, q3⟩ hz => ⟨I1.kIn, ?_⟩) fun x s' z _ => z)) he hpl
    have hl : us.length = ps.length := by rw [← r.length]; exact F.len _ _ _ q1
    have hbb := hb s1 us I1.kIn (by rw [List.append_nil]; exact hl)
    rw [List.append_nil] at hbb
    refine wpAny_call (codeAny_mono (F.run X.A X.stack s1 H1 ⟨us, []⟩ us vs qs (hr.mono (Nat.zero_le _)) I1.env0 hbb r q1) fun r s2 ⟨a, g, cd, er, M, wk⟩ => ?_)
    subst er
    exact ⟨s1, H1, a, g, cd, I1, hz, rfl, M, q2, wk, q3⟩
  refine sz_wp b hcall fun u s2 ⟨sc, H1, a, g, cd, I1, hz1, eu, M, hx, wk, hk⟩ hz => ?_
  subst eu
  have hH1 : Held X S C ip ys σ H1 sc := Held.next hp h0.sep h0.num I1 hz1
  have I2 : Inv X (pp ++ ip) σ H1 s2 := I1.call' (ch := []) M.os (Un.kept M.kept) (I1.hok.kept M.kept) M.bare fun b z => by simp at z
  refine sz_at ?_
  show SegZ _ _ _ _ c ((yieldFrom X.env (.ref a)).wrap (fun z => (dropValue (.YieldFrom (.Call (.Name x p) (e :: es) [] pos') yp) pos z).wrap K J gd lv) J gd lv) fs s2
  have htl : ∃ o, s2.heap.get? a = some o ∧ o.cls = .type "generator" := let ⟨o, _, _, h1, h2, _⟩ := M.gen; ⟨o, h1, h2⟩
  unfold yieldFrom
  rw [Sem.bind_eq_wrap', Sem.wrap_wrap]
  refine sz_wp b (wpAny_typeOf (T := "generator") (Q := fun v s' => v = .type "generator" ∧ s2 = s') htl ⟨rfl, rfl⟩) fun v s' ⟨ev, es'⟩ _ => ?_
  subst ev es'
  rw [if_neg (by decide)]
  rw [Sem.bind_eq_wrap', Sem.wrap_wrap]
  refine sz_wp b (wpAny_holding (wpAny_pyIter_gen (Q := fun v s' => v = .ref a ∧ s2 = s') M.gen ⟨rfl, rfl⟩)) fun v s' ⟨ev, es'⟩ _ => ?_
  subst ev es'
  refine sz_call fun p' => ?_
  have hw0 : (yfc a).weight = 0 := plainId_weight plain_yf _
  have hu1 : (yfc a).cUnits = 1 := plainId_units plain_yf _
  have hyng : ∀ b, IsOth S C b → b < sc.heap.objs.size := fun b hb => hH1.there hb
  refine sz_yf (X := X) (A := A) (a := a) (g := g) (C := C) (EX := S :: C.map (·.1)) (ip := ip) (σ := σ) (H := H1) (sc := sc) (rest := rest) ((over_one hw0 hu1).trans (by rw [b.over])) b.hd hr.depth ?_ ?_ hH1.un (fun d hd => ?_) (hH1.othAt w (.inl rfl)) (fun q hq => hH1.othAt w (.inr ⟨q, hq, rfl⟩))
    M.adr (Nat.lt_of_lt_of_le (hyng S (.inl rfl)) M.adr) (fun q hq => Nat.lt_of_lt_of_le (hyng q.1 (.inr ⟨q, hq, rfl⟩)) M.adr) (fun q hq => Nat.lt_of_lt_of_le (hH1.num q hq) M.num) (fun ys' H' s' hx' I' hl' nS' hg' hz' => ?_)
    qs ys H1 (.fresh cd) s2 (fun _ _ q => q) M.fresh ?_ I2.nolimit (Gn.of M.gen) ?_ |>.ext hx
  · show (splitAtGen fs).map _ = none
    rw [b.split]; rfl
  · show (gd false || fs.any Frame.guarded) = false
    rw [hgd, b.guard]; rfl
  · refine hH1.othAt w ?_
    rcases List.mem_cons.mp hd with z | z
    · exact .inl z
    · obtain ⟨q, hq, e⟩ := List.mem_map.mp z
      exact .inr ⟨q, hq, e⟩
  · exact sz_leaf (.ok (.ret .none)) (hk ys' H' s' hx' (Held.again w hH1.sep I' hl' nS' hg' fun q hq => Nat.lt_of_lt_of_le (hH1.num q hq) hz'))
  · exact Nat.le_trans M.num (Nat.le_of_lt (Array.getElem?_eq_some_iff.mp M.fresh).1)
  · have hsz : s2.gens.size ≤ (s2.setGen g .running).gens.size := by rw [GenW.setGen_size]; exact Nat.le_refl _
    obtain ⟨acc, n, eS, rv⟩ := hH1.lst.1
    refine wk X.A.in1.in1 S C (S :: C.map (·.1)) ys (s2.setGen g .running) (Room.in1 (Room.in1 hr)) I1.ok.frames (fun _ _ q => q) M.os (allBare_setGen M.bare rfl) hsz (fun d hd => ?_) (fun d hd => .inl ?_) ⟨acc, n, M.kept _ _ eS, rv⟩ hH1.lst.2 (fun q hq => ⟨(hH1.gn q hq).1.keep fun o e => M.kept _ o e, (hH1.gn q hq).2⟩) fun q hq => ?_
    · have hO : IsOth S C d := by
        rcases List.mem_cons.mp hd with z | z
        · exact .inl z
        · obtain ⟨q, hq, e⟩ := List.mem_map.mp z
          exact .inr ⟨q, hq, e⟩
      refine ⟨hyng d hO, fun hf => ?_, w.base d hO⟩
      rcases List.mem_cons.mp (I1.stkSub d hf) with z | z
      · exact (w.oth d hO).2.1 z
      · exact Held.nofs w hH1.un hO z
    · rcases hd with rfl | ⟨q, hq, rfl⟩
      · exact List.mem_cons_self
      · exact List.mem_cons_of_mem _ (List.mem_map.mpr ⟨q, hq, rfl⟩)
    · rw [GenW.setGen_size]
      exact Nat.lt_of_lt_of_le (Nat.lt_of_lt_of_le (hH1.num q hq) M.num) (Nat.le_of_lt (Array.getElem?_eq_some_iff.mp M.fresh).1)
end
end Zed

set_option Elab.async false
set_option linter.all false
set_option maxRecDepth 100000
set_option maxHeartbeats 1000000
/-! Z8: for in a generator's body; a generator def by its body. -/
namespace Zed
open PySem L2 PyProof.Rows GenW

section
variable {X : Cx} {A : Around} {c : Code} {fs : List Frame} {K : Flow → Sem PySem.Fin} {J : Value → Sem PySem.Fin} {gd : Bool → Bool} {lv : List Value → List Value}
  {ip : List (Addr × Obj)} {σ : L2.St} {H : Hp} {s : Shared} {pos : Pos} {S : Addr} {C : List (Addr × Nat)} {ys : List V} {qs : List (List V)}

theorem quiet_block {env : Env} : (Code.block [] env).quiet = true := rfl
theorem quiet_for {tg : Expr} {it : Value} {body : List Stmt} {env : Env} : (Code.forLoop tg it body [] env).quiet = true := rfl

/-- for x in ..: W (turn, measure, out so far, slots, heap, what the loop and what is behind it hand out) -/
theorem sz_forH {tg iter : Expr} {body : List Stmt} {wi : TI} {g : TG} (b : Body X A c fs) (w : OwnZ X S C) (hgd : gd false = false) (hi : PI X tg iter wi) (hg : PG X tg g) (h0 : Held X S C ip ys σ H s)
    (h : wi σ H fun Jt H1 => Ext H H1 ∧ ∃ W : Nat → Nat → List V → L2.St → Hp → List (List V) → Prop, (∃ m, W 0 m ys σ H1 qs) ∧ ∀ i m ys σ H qs, W i m ys σ H qs →
      (Jt.stop i H ∧ ∀ s', Held X S C ip ys σ H s' → SgX X A S C qs ys H c (K .next) fs s') ∨
      (Jt.go i H ∧ ∀ x H', Jt.yld i H x H' → g x σ H' fun σ2 H2 => Ext H H2 ∧ ∀ (c' : Code) (fs' : List Frame) (K' : Flow → Sem PySem.Fin) (J' : Value → Sem PySem.Fin) (ip' : List (Addr × Obj)) (s' : Shared), Body X A c' fs' → Held X S C ip' ys σ2 H2 s' →
        (∀ ys' σ' H' s'' m' qs', m' < m → Ext H2 H' → W (i + 1) m' ys' σ' H' qs' → Held X S C ip' ys' σ' H' s'' → SgX X A S C qs' ys' H' c' (K' .next) fs' s'') →
        SgX X A S C qs ys H2 c' ((execs body X.env).wrap K' J' id id) fs' s'))
    (hs : ∀ x, foldedSetIterable iter X.env x = pure x := by intro _; rfl) :
    SgX X A S C qs ys H c ((exec (.For tg iter body [] pos) X.env).wrap K J gd lv) fs s := by
  obtain ⟨pp, hp, I⟩ := h0.inv
  rw [arm_exec_For]
  show SegZ _ _ _ _ c (.at pos fun _ => (eval iter X.env >>= fun x0 => foldedSetIterable iter X.env x0 >>= fun x => standAt iter.pos >>= fun _ => holding [x] (pyIter x) >>= fun it => runOwn (.forLoop tg it body [] X.env) X.env).wrap K J gd lv) fs s
  refine sz_at ?_
  rw [Sem.bind_eq_wrap', Sem.wrap_wrap]
  refine sz_wp b (hi.run _ s σ H _ I h) fun v s1 hv hz1 => ?_
  rw [hs, pure_bind, Sem.bind_eq_wrap', Sem.wrap_wrap]
  refine sz_wp b (wpAny_standAt (Q := fun _ s' => s1 = s') rfl) fun _ s1' e _ => ?_
  subst e
  rw [Sem.bind_eq_wrap', Sem.wrap_wrap]
  refine sz_wp b (wpAny_holding hv) fun itv s2 hP hz2 => ?_
  obtain ⟨it, fp, tn, Jt, H1, e, I1, T, st1, f1, hx, W, ⟨m0, w0⟩, turn⟩ := hP
  subst e
  have hH1 : Held X S C ip ys σ H1 s2 := Held.next hp h0.sep h0.num I1 (Nat.le_trans hz1 hz2)
  -- the iterator's objects against the others
  have inpp : ∀ d, IsOth S C d → ∃ q ∈ pp, q.1 = d := fun d hd => by
    rcases hd with rfl | ⟨p, hpC, rfl⟩
    · obtain ⟨acc, n, m, _⟩ := hp.lst
      exact ⟨_, m, rfl⟩
    · obtain ⟨o, m, _⟩ := hp.gn p hpC
      exact ⟨_, m, rfl⟩
  have fpo : ∀ d ∈ fp, ¬ IsOth S C d := fun d hd hO => by
    obtain ⟨q, hq, e⟩ := inpp d hO
    exact (f1 d hd).2.2.2.2.2 q (List.mem_append_right _ (List.mem_append_left _ hq)) e
  have fpip : ∀ d ∈ fp, ∀ q ∈ ip, q.1 ≠ d := fun d hd q hq => (f1 d hd).2.2.2.2.2 q (List.mem_append_right _ (List.mem_append_right _ hq))
  have fpk : ∀ {pp' : List (Addr × Obj)} {ys' : List V} {H' : Hp}, HeldP S C ys' pp' → (∀ d ∈ fp, H' d = none) → ∀ d ∈ fp, FpOk X (pp' ++ ip) H' d := fun {pp' ys' H'} hp' hn d hd => by
    obtain ⟨_, z2, z3, z4, z5, _⟩ := f1 d hd
    refine ⟨hn d hd, z2, z3, z4, z5, fun q hq e => ?_⟩
    rw [w.pn, List.nil_append] at hq
    rcases List.mem_append.mp hq with z | z
    · exact fpo d hd (by rw [← e]; exact hp'.only q z)
    · exact fpip d hd q z e
  let lc : Code := .forLoop tg (.ref it) body [] X.env
  refine sz_call fun p0 => ?_
  have b1 : Body X A lc (.ret (fun r => ((match r with | .ok f => (.pure f : Sem Flow) | .error e => .raise e).onRaise fun (x : Value) => do
        if (← field x 1) == Value.none then unsupported "frame.own-activation:exception-without-traceback"
        setFlight x X.env.frame).wrap K J gd lv) none (gd false) (lv []) c p0 [] :: fs) :=
    ⟨(over_loop rfl rfl).trans b.over, by show (splitAtGen fs).map _ = none; rw [b.split]; rfl, by show (gd false || fs.any Frame.guarded) = false; rw [hgd, b.guard]; rfl, b.xe, b.calm, b.hd⟩
  have loop : ∀ (m i : Nat) (ys : List V) (σ : L2.St) (H : Hp) (qs : List (List V)) (s : Shared), W i m ys σ H qs → Held X S C ip ys σ H s → tn i s.heap → (∀ d ∈ fp, H d = none) →
      SgX X A S C qs ys H lc ((MX X).den lc) (.ret (fun r => ((match r with | .ok f => (.pure f : Sem Flow) | .error e => .raise e).onRaise fun (x : Value) => do
        if (← field x 1) == Value.none then unsupported "frame.own-activation:exception-without-traceback"
        setFlight x X.env.frame).wrap K J gd lv) none (gd false) (lv []) c p0 [] :: fs) s := by
    intro m
    induction m using Nat.strongRecOn with
    | ind m ih =>
      intro i ys σ H qs s w0 hH st fr
      obtain ⟨pp', hp', I'⟩ := hH.inv
      show SegZ _ _ _ _ lc ((forTurn tg (.ref it) body [] X.env).onRaise fun x => do noteFrame x X.env; theTreesLotGoes x) _ s
      rw [Sem.onRaise_eq_wrap]
      unfold forTurn
      rw [Sem.bind_eq_wrap', Sem.wrap_wrap]
      refine sz_wp b1 (wpAny_standAt (Q := fun _ s' => s = s') rfl) fun _ s1' e _ => ?_
      subst e
      rw [Sem.bind_eq_wrap', Sem.wrap_wrap]
      rcases turn i m ys σ H qs w0 with ⟨stop, hk⟩ | ⟨go, step⟩
      · refine sz_wp b1 (wpAny_onRaise (wpAny_mono (T.done X rfl rfl rfl b.calm i _ s σ H X.xe I' (fpk hp' fr) st stop) (fun r s' q => q) fun x s' q => by rw [b.xe] at q; exact q.elim)) fun r s3 ⟨er, I3⟩ hz3 => ?_
        subst er
        refine sz_again quiet_block ?_
        exact sz_leaf (.ok .next) (hk s3 (Held.next hp' hH.sep hH.num I3 hz3))
      · refine sz_wp b1 (wpAny_onRaise (wpAny_mono (T.item X rfl rfl rfl b.calm i _ s σ H X.xe I' (fpk hp' fr) st go) (fun r s' q => q) fun x s' q => by rw [b.xe] at q; exact q.elim)) fun r s3 ⟨u, er, h3⟩ hz3 => ?_
        subst er
        show SegZ _ _ _ _ lc ((letOwnedTupleGo tg (.ref it) u >>= fun _ => assign tg X.env u >>= fun _ => execs body X.env >>= fun f => _).wrap _ _ _ _) _ s3
        rw [Sem.bind_eq_wrap', Sem.wrap_wrap]
        refine sz_wp b1 h3 fun _ s4 ⟨x, H4, I4, r4, y4, st4, fr4⟩ hz4 => ?_
        rw [Sem.bind_eq_wrap', Sem.wrap_wrap]
        have f4 := fpk hp' fr4
        have I4' := I4.pinned f4 (T.obj _ _ st4)
        refine sz_wp b1 (hg.run _ s4 σ H4 x u _ I4' r4 (step x H4 y4)) fun _ s5 ⟨σ5, H5, I5, hx5, q5⟩ hz5 => ?_
        rw [Sem.bind_eq_wrap', Sem.wrap_wrap]
        have I5' : Inv X (pp' ++ (ip ++ pinsAt fp s4.heap)) σ5 H5 s5 := by rw [← List.append_assoc]; exact I5
        have sep5 : ∀ q ∈ ip ++ pinsAt fp s4.heap, ¬ IsOth S C q.1 := fun q hq => by
          rcases List.mem_append.mp hq with z | z
          · exact hH.sep q z
          · exact fpo q.1 (of_pinsAt z).1
        have hH5 : Held X S C (ip ++ pinsAt fp s4.heap) ys σ5 H5 s5 := Held.next hp' sep5 hH.num I5' (Nat.le_trans hz3 (Nat.le_trans hz4 hz5))
        refine Sg.ext (q5 lc _ _ _ _ s5 b1 hH5 fun ys' σ' H' s'' m' qs' hm hx' w' hH' => ?_) hx5
        refine sz_again quiet_for ?_
        have I6 := hH'.un
        refine ih m' hm (i + 1) ys' σ' H' qs' s'' w' ?_ (T.keep _ _ _ st4 fun d hd o e => (I6.pin (d, o) (List.mem_append_right _ (List.mem_append_right _ (mem_pinsAt hd e)))).1) fun d hd => ?_
        · obtain ⟨pp6, hp6, I6'⟩ := hH'.inv
          refine ⟨⟨pp6, hp6, ?_⟩, hH.sep, hH'.num⟩
          rw [← List.append_assoc] at I6'
          exact I6'.unpinned
        · obtain ⟨o, e, _⟩ := T.obj _ _ st4 d hd
          exact (I6.pin (d, o) (List.mem_append_right _ (List.mem_append_right _ (mem_pinsAt hd e)))).2.1
  exact (loop m0 0 ys σ H1 qs s2 w0 hH1 st1 fun d hd => (f1 d hd).1).ext hx
end
end Zed

set_option Elab.async false
set_option linter.all false
set_option maxRecDepth 100000
set_option maxHeartbeats 1000000
/-! Z9: a generator def's contract from its body. -/
namespace Zed
open PySem L2 PyProof.Rows GenW

/-- the context of a generator's body: what stands at EX may change while it sleeps -/
def gx (P : Program) (w : World) (K : PySem.W.Frag) (mg : Str → Option Value) (base : Heap) (N : List Str) (qual : Str) (scope : Scope) (f : Addr) (cd : Value) (A : Around) (outer : List Env) (s : Shared) (H : Hp) (EX : List Addr) : Cx :=
  { cxOf CX0 P w K mg base N qual scope f cd A outer s H (fun _ _ _ => False) with ex := EX, xe := fun _ _ => False }
abbrev kRet : Flow → Sem PySem.Fin := fun f => .pure (.done (.ret (match f with | .ret v => v | _ => .none)))
abbrev jLeave (env : Env) : Value → Sem PySem.Fin := fun e => (leaving env e).wrap (fun _ => .raise e) .raise id id

theorem sz_func {P : Program} {w : World} {A : Around} {R : Result → Shared → Prop} {Y : Value → Shared → GenState → Prop} {fs : List Frame} {s : Shared} {body : List Stmt} {env : Env}
    (h : SegZ (model P w) A R Y (.func body env) ((execs body env).wrap kRet (jLeave env) id id) fs s) : SegZ (model P w) A R Y (.func body env) ((model P w).den (.func body env)) fs s := by
  show SegZ _ A R Y _ (.point [] fun _ => ((execs body env).onRaise (leaving env)) >>= fun f => match f with | .ret v => ret v | _ => ret .none) fs s
  refine sz_point ?_
  have e : ((execs body env).onRaise (leaving env) >>= fun f => match f with | .ret v => ret v | _ => ret .none) = (execs body env).wrap kRet (jLeave env) id id := by
    rw [Sem.onRaise_eq_wrap, Sem.bind_eq_wrap', Sem.wrap_wrap]
    refine Sem.wrap_congr (execs body env) _ _ (fun f => by cases f <;> rfl) fun x => ?_
    rw [Sem.bind_eq_wrap, Sem.wrap_wrap]; rfl
  rw [e]
  exact h

theorem gen_of {P : Program} {w : World} {K : PySem.W.Frag} {mg : Str → Option Value} {base : Heap} {k : Nat} {f : Addr} {name qual : Str} {params : Arguments} {body : List Stmt} {scope : Scope} {dV kV doc pm cdv ct oc : Value} {an od : Option Addr}
    {osl : Array (Option Value)} {N ps : List Str} {sp : SpZ} (lk : K.lookup f = some ⟨oc, od, .func (PySem.W.fnOf name qual params body scope dV kV doc pm an cdv ct), osl⟩) (hcd : PySem.W.codeIn K cdv qual = true) (G : GScope N ps scope)
    (len : ∀ vs H qs, sp vs H qs → vs.length = ps.length)
    (hbody : ∀ (A : Around) (outer : List Env) (s : Shared) (H : Hp) (vs : List V) (qs : List (List V)) (EX : List Addr) (S : Addr) (C : List (Addr × Nat)) (ys : List V) (s2 : Shared), Room k (A.deeper (envOfC qual scope s.heap.objs.size f cdv)) → sp vs H qs →
      Body (gx P w K mg base N qual scope f cdv A outer s H EX) A (.func body (envOfC qual scope s.heap.objs.size f cdv)) [] → OwnZ (gx P w K mg base N qual scope f cdv A outer s H EX) S C →
      Held (gx P w K mg base N qual scope f cdv A outer s H EX) S C [] ys (start N vs) H s2 →
      (∀ ys' σ' H' s', Held (gx P w K mg base N qual scope f cdv A outer s H EX) S C [] ys' σ' H' s' → SgX (gx P w K mg base N qual scope f cdv A outer s H EX) A S C [] ys' H' (.func body (envOfC qual scope s.heap.objs.size f cdv)) (kRet .next) [] s') →
      SgX (gx P w K mg base N qual scope f cdv A outer s H EX) A S C qs ys H (.func body (envOfC qual scope s.heap.objs.size f cdv)) ((execs body (envOfC qual scope s.heap.objs.size f cdv)).wrap kRet (jLeave (envOfC qual scope s.heap.objs.size f cdv)) id id) [] s2) :
    GenOk P w K mg base (k + 1) f (PySem.W.fnOf name qual params body scope dV kV doc pm an cdv ct) ps sp := by
  refine ⟨len, fun A outer s H args us vs qs hr e0 hb r hsp => ?_⟩
  have hl := len _ _ _ hsp
  have KX : K.In s.heap := e0.mod.kin.keeps fun b o e => (e0.bs b o e).1
  have lim : s.heap.NoLimit := e0.mod.nolimit.keeps fun b o e => (e0.bs b o e).1
  have hkind : ∀ y ∈ ps.zip us, scope.names.lookup y.1 = some .local ∨ (scope.names.lookup y.1 = some .cell ∧ ((cellsFrom (s.heap.objs.size + 1) scope.names []).lookup y.1).isSome = true) := fun ⟨n, v⟩ hy => by
    rcases G.par n (List.of_mem_zip hy).1 with q | q
    · exact .inl q
    · exact .inr ⟨q, PySem.W.cellsFrom_some _ _ _ (.inl q)⟩
  refine codeAny_call_generator hr.depth (KX _ _ lk) rfl G.co G.gen rfl (PySem.W.codeRec_of KX hcd) (hb _ _ _ _ ?_)
  refine wpAny_newFunctionEnv_cells G.kind hkind fun env he s1 x => ?_
  subst he
  refine ⟨lim.keeps x.toInCall.keep, ?_⟩
  obtain ⟨h1, tk, es1, hk1⟩ := x.done
  have os1 : s1.os = s.os := by rw [es1]
  have gen1 : s1.gens = s.gens := by rw [es1]
  have lt1 : s.heap.objs.size < s1.heap.objs.size := x.toInCall.ns.lt
  have kp1 : ∀ b o, s.heap.get? b = some o → s1.heap.get? b = some o := x.toInCall.keep
  have main : ∀ (go : Obj) (nm qn : Value) (tk2 : Nat), go.cls = .type "generator" → go.data = .fields #[.int s1.gens.size 0, nm, qn] → go.slots = #[] → (∀ h : Heap, (h.push go).get? h.objs.size = some go) →
      ∃ a g c, (Except.ok (Flow.ret (.ref s1.heap.objs.size)) : Result) = .ok (.ret (.ref a)) ∧ GMadeZ s { s1 with gens := s1.gens.push (.fresh (.func body (envOfC qual scope s.heap.objs.size f cdv))), toks := tk2, heap := s1.heap.push go } a g c ∧ WakeOk P w base (k + 1) outer H s { s1 with gens := s1.gens.push (.fresh (.func body (envOfC qual scope s.heap.objs.size f cdv))), toks := tk2, heap := s1.heap.push go } qs a g c := by
    intro go nm qn tk2 hgc hgd0 hgs hgp
    have hpushed : (s1.heap.push go).get? s1.heap.objs.size = some go := hgp _
    have hgen : ∀ h : Heap, h.get? s1.heap.objs.size = some go → h.IsGen s1.heap.objs.size s1.gens.size := fun h e => ⟨go, nm, qn, e, hgc, hgd0, hgs⟩
    refine ⟨s1.heap.objs.size, s1.gens.size, _, rfl, ⟨Nat.le_of_lt lt1, ?_, by rw [gen1]; exact Nat.le_refl _, Array.getElem?_push_size .., os1, ?_, hgen _ hpushed, fun b o e => Heap.get?_push_of_some _ (kp1 b o e)⟩, ?_⟩
    · show _ < (s1.heap.push _).objs.size
      rw [Heap.size_push]; exact Nat.lt_succ_self _
    · exact AllBare.push (by rw [gen1]; exact e0.bare) rfl
    intro Aw S C EX ys s2 hrw hfr hk2 hos hba hsz hEX hSC hlS nS hgC hnC
    refine rdy_iff.mpr ?_
    have e0w : Env0 P w K mg base Aw outer s H := ⟨hfr, e0.mod, e0.bs, e0.bsz, e0.funs, e0.frf, e0.hok, e0.bare⟩
    have I1 : Inv (gcxOf P w K mg base N qual scope f cdv Aw outer s H (fun _ _ _ => False) []) [] (start N vs) H s1 := inv_startG G hrw.hd e0w hl r x
    have kp2 : ∀ b o, s1.heap.get? b = some o → s2.heap.get? b = some o := fun b o e => hk2 b o (Heap.get?_push_of_some _ e)
    have I2 : Inv (gcxOf P w K mg base N qual scope f cdv Aw outer s H (fun _ _ _ => False) []) [] (start N vs) H s2 :=
      I1.call' (ch := []) (hos.trans os1.symm) (Un.kept kp2) (I1.hok.kept kp2) hba fun b z => by simp at z
    have ltL : ∀ b, b < s.heap.objs.size → b ≠ s.heap.objs.size ∧ ∀ y c, (cellsFrom (s.heap.objs.size + 1) scope.names []).lookup y = some c → c ≠ b := fun b hb =>
      ⟨Nat.ne_of_lt hb, fun y c e z => by
        have := x.above y c (PySem.mem_of_lookup e)
        rw [z] at this
        exact absurd (Nat.lt_trans hb this) (Nat.lt_irrefl _)⟩
    have I3 : Inv (gx P w K mg base N qual scope f cdv Aw outer s H EX) [] (start N vs) H s2 := by
      refine ⟨⟨I2.ok.mod, I2.ok.kind, I2.ok.glob, I2.ok.blt, I2.ok.above, I2.ok.inj, I2.ok.has, I2.ok.cab, I2.ok.hd, I2.ok.frames, I2.ok.stk, fun b hb => ?_, I2.ok.bs, I2.ok.bsz, fun b o e hb => ?_, fun b hb => (hEX b hb).2.1, I2.ok.funs, I2.ok.frf⟩,
        I2.os, I2.bare, I2.base.mono (fun _ z => z) (fun _ z => absurd z (by intro q; exact absurd (show _ ∈ ([] : List Addr) from q) (by simp))), I2.loc, I2.cell, I2.free, I2.freeC, I2.pin, I2.hok, I2.len⟩
      · exact ltL b (hEX b hb).1
      · have e' : base.get? b = some o := e
        rw [(hEX b hb).2.2] at e'; cases e'
    have hyoung : ∀ b, (s1.heap.push go).objs.size ≤ b → H b = none ∧ b ≠ s.heap.objs.size ∧ b ∉ frs outer ∧ s.heap.objs.size ≤ b ∧ (∀ y c, (cellsFrom (s.heap.objs.size + 1) scope.names []).lookup y = some c → c ≠ b) ∧ base.get? b = none := fun b hb => by
      rw [Heap.size_push] at hb
      have hb1 : s1.heap.objs.size ≤ b := Nat.le_of_succ_le hb
      refine ⟨I1.hok.fresh hb1, Nat.ne_of_gt (Nat.lt_of_lt_of_le lt1 hb1), I1.nofs hb1, Nat.le_trans (Nat.le_of_lt lt1) hb1, fun y c e z => ?_, Heap.get?_none_of_le (Nat.le_trans e0.bsz (Nat.le_trans (Nat.le_of_lt lt1) hb1))⟩
      obtain ⟨v, ob, ho, _⟩ := I1.cell y c e
      have := Heap.lt_size ho
      rw [z] at this
      exact absurd (Nat.lt_of_lt_of_le this hb1) (Nat.lt_irrefl _)
    have ha1 : H s1.heap.objs.size = none := I1.hok.fresh (Nat.le_refl _)
    have own : OwnZ (gx P w K mg base N qual scope f cdv Aw outer s H EX) S ((s1.heap.objs.size, s1.gens.size) :: C) := by
      have cases3 : ∀ b, IsOth S ((s1.heap.objs.size, s1.gens.size) :: C) b → b ∈ EX ∨ s1.heap.objs.size ≤ b := fun b hb => by
        rcases hb with rfl | ⟨p, hp, rfl⟩
        · rcases hSC _ (.inl rfl) with z | z
          · exact .inl z
          · exact .inr (Nat.le_trans (by show _ ≤ (s1.heap.push _).objs.size; rw [Heap.size_push]; exact Nat.le_succ _) z)
        · rcases List.mem_cons.mp hp with z | z
          · rw [z]; exact .inr (Nat.le_refl _)
          · rcases hSC _ (.inr ⟨p, z, rfl⟩) with z | z
            · exact .inl z
            · exact .inr (Nat.le_trans (by show _ ≤ (s1.heap.push _).objs.size; rw [Heap.size_push]; exact Nat.le_succ _) z)
      refine ⟨fun b hb => ?_, rfl, fun b hb => ?_⟩
      · rcases cases3 b hb with z | z
        · obtain ⟨q1, q2⟩ := ltL b (hEX b z).1
          exact ⟨.inl z, q1, q2⟩
        · refine ⟨.inr (Nat.le_trans (Nat.le_of_lt lt1) z), Nat.ne_of_gt (Nat.lt_of_lt_of_le lt1 z), fun y c e q => ?_⟩
          obtain ⟨v, ob, ho, _⟩ := I1.cell y c e
          have := Heap.lt_size ho
          rw [q] at this
          exact absurd (Nat.lt_of_lt_of_le this z) (Nat.lt_irrefl _)
      · rcases cases3 b hb with z | z
        · exact (hEX b z).2.2
        · exact Heap.get?_none_of_le (Nat.le_trans e0.bsz (Nat.le_trans (Nat.le_of_lt lt1) z))
    have bd : Body (gx P w K mg base N qual scope f cdv Aw outer s H EX) Aw (.func body (envOfC qual scope s.heap.objs.size f cdv)) [] := ⟨over_func, rfl, rfl, rfl, rfl, hrw.hd⟩
    have hlt0 : s1.gens.size < s2.gens.size := by
      refine Nat.lt_of_lt_of_le ?_ hsz
      show s1.gens.size < (s1.gens.push _).size
      rw [Array.size_push]; exact Nat.lt_succ_self _
    have held : Held (gx P w K mg base N qual scope f cdv Aw outer s H EX) S ((s1.heap.objs.size, s1.gens.size) :: C) [] ys (start N vs) H s2 :=
      Held.again own (fun q hq => by simp at hq) I3 hlS nS (fun p hp => by
        rcases List.mem_cons.mp hp with z | z
        · rw [z]; exact ⟨Gn.of (hgen _ (hk2 _ go hpushed)), ha1⟩
        · exact hgC p z) fun p hp => by
        rcases List.mem_cons.mp hp with z | z
        · rw [z]; exact hlt0
        · exact hnC p z
    refine sz_func (hbody Aw outer s H vs qs EX S _ ys s2 (hrw.deeper _) hsp bd own held fun ys' σ' H' s' hH => ?_)
    have I4 := hH.un
    exact sz_end (.ok (.ret .none)) ⟨rfl, .inl rfl, H', fun _ _ q => q, ⟨I4.os, I4.base, I4.hok, hH.lst.1, hH.lst.2, hH.gn⟩, I4.bare⟩
  exact main _ _ _ _ rfl rfl rfl fun h => Heap.get?_push_size _ rfl
end Zed

set_option Elab.async false
set_option linter.all false
set_option maxRecDepth 100000
set_option maxHeartbeats 1000000
/-! Z10: list(g) of a generator that delegates. -/
namespace Zed
open PySem L2 PyProof.Rows GenW

section
variable {P : Program} {w : World} {A : Around} {s : Shared} {E : Value → Shared → Prop}
/-- next(g) -/
theorem wz_pyNextGen {R : Result → Shared → Prop} {Y : Value → Shared → GenState → Prop} {a : Addr} {g : Nat} {gs : GenState} {Q : Option Value → Shared → Prop} (hh : A.handled = none) (hl : s.heap.NoLimit) (hroom : A.depth < recursionLimit) (hg : Gn s.heap a g) (hgs : s.gens[g]? = some gs)
    (hgo : WakeZ (model P w) A.in1 R Y gs (s.setGen g .running)) (hR : ∀ r s1, s.gens.size ≤ s1.gens.size → R r s1 → (r = .ok (.ret .none) ∨ r = .ok .next) ∧ ∀ h', (∀ b o, s1.heap.get? b = some o → h'.get? b = some o) → Q none { s1.setGen g .finished with heap := h' })
    (hY : ∀ v s1 gs', s.gens.size ≤ s1.gens.size → Y v s1 gs' → Q (some v) (s1.setGen g gs')) : wz (model P w) A (pyNext (.ref a)) Q E s := by
  unfold pyNext
  refine wz_bind (wz_attempt (wz_nextGen hh hl hroom hg hgs hgo (fun r s1 hz q => ⟨(hR r s1 hz q).1, fun e h' hS hk => ?_⟩) fun v s1 gs' hz q => wz_pure (hY v s1 gs' hz q)))
  obtain ⟨b, o, vs, rfl, hob, hc, _, _⟩ := hS
  refine wz_bind (wz_of (wpAny_isInstance (T := "StopIteration") (b := true) ⟨o, hob, hc⟩ isSubtype_stop ?_))
  exact wz_pure ((hR r s1 hz q).2 h' hk)

/-- these values are tuples of these items -/
def TupsAt (H : Hp) : List V → List (List V) → Prop
  | [], [] => True
  | v :: vs, q :: qs => (∃ p, v = .ref p ∧ H p = some (.tup q)) ∧ TupsAt H vs qs
  | _, _ => False
theorem TupsAt.ext {H H' : Hp} (e : Ext H H') : ∀ {vs : List V} {qs : List (List V)}, TupsAt H vs qs → TupsAt H' vs qs
  | [], [], _ => trivial
  | _ :: _, _ :: _, ⟨⟨p, a, b⟩, r⟩ => ⟨⟨p, a, e _ _ b⟩, TupsAt.ext e r⟩
theorem TupsAt.snoc {H : Hp} {p : Addr} {q : List V} (hp : H p = some (.tup q)) : ∀ {vs : List V} {qs : List (List V)}, TupsAt H vs qs → TupsAt H (vs ++ [.ref p]) (qs ++ [q])
  | [], [], _ => ⟨⟨p, rfl, hp⟩, trivial⟩
  | _ :: _, _ :: _, ⟨h, r⟩ => ⟨h, TupsAt.snoc hp r⟩
theorem TupsAt.len {H : Hp} : ∀ {vs : List V} {qs : List (List V)}, TupsAt H vs qs → vs.length = qs.length
  | [], [], _ => rfl
  | _ :: _, _ :: _, ⟨_, r⟩ => congrArg (· + 1) (TupsAt.len r)
/-- the list fills -/
theorem codez_drain {outer : List Env} {EX : List Addr} {H : Hp} {sc : Shared} {S a : Addr} {g : Nat} {res : Value} {Rr : Result → Shared → Prop} {all : List (List V)} (hh : A.handled = none) (hdep : A.depth < recursionLimit) (hSa : S ≠ a) (hSc : S ≠ cStatics) (hac : a ≠ cStatics)
    (hlim : ∀ ys H' s', Com P w outer EX H sc S [(a, g)] ys H' s' → s'.heap.NoLimit)
    (hend : ∀ ys H' s', Ext H H' → TupsAt H' ys all → Com P w outer EX H sc S [(a, g)] ys H' s' → AllBare s'.gens → Rr (.ok (.ret res)) s') :
    ∀ (qs : List (List V)) (ys : List V) (dn : List (List V)) (Hc : Hp) (gs : GenState) (s : Shared), Ext H Hc → TupsAt Hc ys dn → dn ++ qs = all → ys.length + qs.length ≤ sizeLine → s.gens[g]? = some gs → s.heap.NoLimit → Gn s.heap a g →
      Rdy (model P w) A.in1.in1 (Com P w outer EX H sc S [(a, g)]) (Rest S [(a, g)]) qs ys Hc gs (s.setGen g .running) →
      codez (model P w) A (.builtin "list.extend.loop" ⟨[.ref S, .ref a, res], []⟩) Rr s := by
  intro qs
  induction qs with
  | nil =>
    intro ys dn Hc gs s hHc hta hdn hlen hgs hl hgn hrd
    refine codez_builtin F.entry_extend_loop ?_
    rw [Around.under_plainId F.plain_extend_loop _]
    show wz _ A.in1 (pyNext (.ref a) >>= _) _ _ s
    refine wz_bind (wz_pyNextGen (A := A.in1) hh hl hdep hgn hgs (rdy_iff.mp hrd) (fun r s1 hz hr => ?_) fun v s1 gs' hz hy => ?_)
    · obtain ⟨_, hr, H', hx, hc, hb⟩ := hr
      refine ⟨hr, fun h' hk => ?_⟩
      have hk' : ∀ b o, s1.heap.get? b = some o → ({ s1.setGen g .finished with heap := h' } : Shared).heap.get? b = some o := hk
      exact wz_pure (hend ys H' _ (hHc.trans hx) (by rw [List.append_nil] at hdn; rw [← hdn]; exact hta.ext hx) (Com.kept (s' := { s1.setGen g .finished with heap := h' }) hc rfl hk') (allBare_setGen hb rfl))
    · obtain ⟨_, _, _, _, e, _⟩ := hy
      cases e
  | cons q qs ih =>
    intro ys dn Hc gs s hHc hta hdn hlen hgs hl hgn hrd
    have hgl : g < s.gens.size := (Array.getElem?_eq_some_iff.mp hgs).1
    refine codez_builtin F.entry_extend_loop ?_
    rw [Around.under_plainId F.plain_extend_loop _]
    show wz _ A.in1 (pyNext (.ref a) >>= _) _ _ s
    refine wz_bind (wz_pyNextGen (A := A.in1) hh hl hdep hgn hgs (rdy_iff.mp hrd) (fun r s1 hz hr => ?_) fun v s1 gsi hz hy => ?_)
    · cases hr.1
    · obtain ⟨q0, qs0, p, H', e0, rfl, hx, htup, hc, hnext⟩ := hy
      cases e0
      have hgl1 : g < s1.gens.size := Nat.lt_of_lt_of_le hgl hz
      obtain ⟨acc, n, eS, rv⟩ := hc.lst
      have hasz : acc.size = ys.length := by
        have := rv.length
        simpa using this.symm
      have hlt : acc.size < sizeLine := by
        rw [hasz]
        rw [List.length_cons] at hlen
        omega
      show wz _ A.in1 (updateSeq S (·.push (.ref p)) >>= _) _ _ _
      refine wz_bind (wz_of (wpAny_updateSeq (s := s1.setGen g gsi) eS rfl ?_ (Nat.le_of_lt hlt) (by show (acc.push _).size ≤ sizeLine + 1; rw [Array.size_push]; omega)))
      refine wz_pure ⟨plainId_quiet F.plain_extend_loop _, ?_⟩
      have k3 : ∀ b o, b ≠ S → s1.heap.get? b = some o → (s1.heap.update S (Obj.mapSeq (·.push (.ref p)))).get? b = some o := fun b o hb e => (Heap.get?_update_other _ _ (Ne.symm hb)).trans e
      have ga := (hc.gn (a, g) List.mem_cons_self).1
      have ga3 : Gn (s1.heap.update S (Obj.mapSeq (·.push (.ref p)))) a g := ga.keep fun o e => k3 a o hSa.symm e
      refine ih (ys ++ [.ref p]) (dn ++ [q]) H' gsi { s1.setGen g gsi with heap := s1.heap.update S (Obj.mapSeq (·.push (.ref p))) } (hHc.trans hx) ((hta.ext hx).snoc htup) (by rw [List.append_assoc]; exact hdn) (by rw [List.length_append, List.length_singleton]; rw [List.length_cons] at hlen; omega) (setGen_at hgl1) ?_ ga3 (hnext (Shared.setGen { s1.setGen g gsi with heap := s1.heap.update S (Obj.mapSeq (·.push (.ref p))) } g .running) ⟨rfl, fun b o hb _ e => k3 b o hb e, fun acc' n' e' => ?_, fun p' hp' _ => ?_, fun i hi => ?_, fun p' hp' => ?_, ?_⟩)
      · have hl1 : s1.heap.NoLimit := hlim _ _ _ hc
        obtain ⟨mc, hns, hnn⟩ := hl1
        exact ⟨mc, hns.at' fun o e => k3 _ o (Ne.symm hSc) e, hnn⟩
      · have e'' : s1.heap.get? S = some (lstObj acc' n') := e'
        exact ⟨_, Heap.get?_update_self _ e'' rfl⟩
      · rw [List.mem_singleton.mp hp']; exact ga3
      · have hig : i ≠ g := fun z => hi (a, g) List.mem_cons_self z.symm
        show ((s1.gens.setIfInBounds g gsi).setIfInBounds g .running)[i]? = s1.gens[i]?
        rw [Array.getElem?_setIfInBounds_ne (Ne.symm hig), Array.getElem?_setIfInBounds_ne (Ne.symm hig)]
      · rw [List.mem_singleton.mp hp']
        refine setGen_at (s := { s1.setGen g gsi with heap := s1.heap.update S (Obj.mapSeq (·.push (.ref p))) }) ?_
        show g < (s1.setGen g gsi).gens.size
        rw [setGen_size]; exact hgl1
      · show s1.gens.size ≤ (Shared.setGen { s1.setGen g gsi with heap := _ } g .running).gens.size
        rw [setGen_size]
        show s1.gens.size ≤ (s1.setGen g gsi).gens.size
        rw [setGen_size]; exact Nat.le_refl _
theorem wp_touch {M : Model} {A : Around} {s : Shared} {S n : Nat} {Q : Unit → Shared → Prop} {E : Value → Shared → Prop} {o : Obj} (hS : s.heap.get? S = some o) (hd : o.data = .seq #[] n)
    (h : Q () { s with heap := (s.heap.update S (Obj.mapSeq (·.push Value.none))).update S (Obj.mapSeq (·.pop)) }) : wpAny M A (updateSeq S (·.push .none) >>= fun _ => updateSeq S (·.pop)) Q E s := by
  obtain ⟨c, d, dt, sl⟩ := o
  simp only at hd; subst hd
  refine wpAny_bind (wpAny_updateSeq hS rfl ?_)
  have hS3 := Heap.get?_update_self (Obj.mapSeq (·.push Value.none)) hS rfl
  exact wpAny_updateSeq (hz := by seq_fits) hS3 rfl h
/-- list(g) -/
theorem wz_call_list {X : Cx} {pins : List (Addr × Obj)} {σ : L2.St} {H : Hp} {sc s : Shared} {a : Addr} {g k : Nat} {c : Code} {qs : List (List V)} {Q : Value → Shared → Prop} {E : Value → Shared → Prop} (I : Inv X pins σ H sc) (hr : Room (k + 3) X.A)
    (M : GMadeZ sc s a g c) (W : WakeOk X.prog X.w X.base k X.stack H sc s qs a g c) (hlen : qs.length ≤ sizeLine) (hQ : ∀ S s' H' ys, Inv X pins σ (upd H' S (.lst ys)) s' → H' S = none → Ext H H' → TupsAt H' ys qs → Q (.ref S) s') :
    wz (MX X) X.A (call (.type "list") [.ref a]) Q E s := by
  have hl : s.heap.NoLimit := I.nolimit.keeps M.kept
  have hSa : s.heap.objs.size ≠ a := Nat.ne_of_gt M.lt
  have hcl : cStatics < s.heap.objs.size := let ⟨_, hn, _⟩ := hl; hn.lt
  have hSc : s.heap.objs.size ≠ cStatics := Nat.ne_of_gt hcl
  have hsz : sc.heap.objs.size ≤ s.heap.objs.size := Nat.le_trans M.adr (Nat.le_of_lt M.lt)
  obtain ⟨cc, tl, hmro⟩ := F.called_list.mro
  have hS : (s.heap.push { cls := .type "list", data := .seq #[] }).get? s.heap.objs.size = some { cls := .type "list", data := .seq #[] } := Heap.get?_push_size _ rfl
  have hS2 := Heap.get?_update_self (Obj.mapSeq (fun _ => (#[] : Array Value))) hS rfl
  have hS3 := Heap.get?_update_self (Obj.mapSeq (·.push Value.none)) hS2 rfl
  have hS4 := Heap.get?_update_self (Obj.mapSeq (·.pop)) hS3 rfl
  have up : ∀ (h : Heap) (f : Obj → Obj), (∀ b o, s.heap.get? b = some o → h.get? b = some o) → ∀ b o, s.heap.get? b = some o → (h.update s.heap.objs.size f).get? b = some o := fun h f q b o e =>
    (Heap.get?_update_other _ _ (Ne.symm (Nat.ne_of_lt (Heap.lt_size e)))).trans (q b o e)
  have k1 : ∀ b o, s.heap.get? b = some o → (s.heap.push { cls := .type "list", data := .seq #[] }).get? b = some o := fun b o e => Heap.get?_push_of_some _ e
  have k2 := up _ (Obj.mapSeq (fun _ => (#[] : Array Value))) k1
  have k4 := up _ (Obj.mapSeq (·.pop)) (up _ (Obj.mapSeq (·.push Value.none)) k2)
  have gty : ∀ {h : Heap}, (∀ b o, s.heap.get? b = some o → h.get? b = some o) → h.IsGen a g := fun {h} q => M.gen.keeps q
  refine wz_call (codez_tree ?_)
  show wz _ _ (callAny (.type "list") ⟨[.ref a], []⟩) _ _ _
  refine wz_pure ⟨Code.quiet_builtin _ (by decide +kernel), codez_builtin F.entry_type_call ?_⟩
  rw [Around.under_plain (weight_type_call_type "list" [.ref a] []) rfl]
  show wz _ X.A.in1 (Builtin.«type.__call__» _) _ _ s
  unfold Builtin.«type.__call__»
  dsimp only
  rw [if_neg (by rw [F.called_list.notType]; exact Bool.false_ne_true), if_neg (by rw [F.called_list.canCreate]; exact Bool.false_ne_true)]
  refine wz_bind (wz_of (wpAny_of_eq (F.typeCall_list_1 _) ?_))
  refine wz_bind (wz_of (wpAny_of_eq hmro ?_))
  rw [if_neg (show ¬ (cc :: tl).isEmpty = true from Bool.false_ne_true)]
  refine wz_bind (wz_of (wpAny_of_eq F.called_list.made ?_))
  dsimp only
  first
    | refine wz_bind (wz_pure ?_)
    | skip
  have hnew : ∀ E : Value → Shared → Prop, wpAny (MX X) X.A.in1 (PySem.call (.builtin "list.__new__") [.type "list", .ref a]) (fun v s' => v = .ref s.heap.objs.size ∧ { s with heap := s.heap.push { cls := .type "list", data := .seq #[] } } = s') E s := fun E =>
    wpAny_call (codeAny_mono (code_list_new _ (Q₁ := fun v s' => v = .ref s.heap.objs.size ∧ { s with heap := s.heap.push { cls := .type "list", data := .seq #[] } } = s') ⟨rfl, rfl⟩) fun r s' q => by
      cases r with
      | error e => exact q
      | ok fl => cases fl <;> exact q)
  refine wz_bind (wz_holding (wz_thn (wz_of (hnew _)) fun obj s1 q => ?_))
  obtain ⟨rfl, rfl⟩ := q
  have hT1 : Shared.TypeIs { s with heap := s.heap.push { cls := .type "list", data := .seq #[] } } (.ref s.heap.objs.size) "list" := ⟨_, hS, rfl⟩
  refine wz_bind (wz_of (wpAny_isInstance (T := "list") (b := true) hT1 sub_list_self ?_))
  rw [if_neg (show ¬ (!true) = true from Bool.false_ne_true)]
  refine wz_bind (wz_holding ?_)
  simp only [callSpecial?]
  refine wz_bind (wz_of (wpAny_specialOf hT1 F.slot_list_init.lookup ?_))
  simp only [F.slot_list_init.bind]
  refine wz_holding (wz_bind (wz_pure (wz_bind ?_)))
  refine wz_call (codez_tree ?_)
  show wz _ X.A.in1.in1 (do checkBuiltinCall "list.__init__" ⟨[.ref s.heap.objs.size, .ref a], []⟩; again (.builtin "list.__init__" ⟨[.ref s.heap.objs.size, .ref a], []⟩)) _ _ _
  refine wz_bind (wz_of (F.slot_list_init.check _ _ _ _ _ _ _ _ hT1 (F.args_list_init_2 _ _) ?_))
  refine wz_pure ⟨plainId_quiet F.slot_list_init.plain _, codez_builtin F.entry_list_init ?_⟩
  rw [Around.under_plainId F.slot_list_init.plain _]
  show wz _ X.A.in1.in1 (do let old ← Builtin.List.listItems (.ref s.heap.objs.size); Builtin.List.listUpdate (.ref s.heap.objs.size) (fun _ => #[]); letGo old.toList.reverse; Builtin.List.listExtendWith (.ref s.heap.objs.size) (.ref a) .none) _ _ _
  refine wz_bind ?_
  unfold Builtin.List.listItems
  refine wz_of (wpAny_bind (wpAny_seqItems hS rfl (wpAny_pure ?_)))
  show wz _ X.A.in1.in1 (updateSeq s.heap.objs.size (fun _ => #[]) >>= fun _ => letGo (#[] : Array Value).toList.reverse >>= fun _ => Builtin.List.listExtendWith (.ref s.heap.objs.size) (.ref a) .none) _ _ _
  refine wz_bind (wz_of (wpAny_updateSeq hS rfl ?_))
  refine wz_bind (wz_of (wpAny_letGo ?_))
  unfold Builtin.List.listExtendWith
  refine wz_bind (wz_of (wpAny_typeOf (Heap.IsGen.typeIs (s := { s with heap := _ }) (gty k2)) ?_))
  have h1 : Builtin.List.listSameRef (.ref s.heap.objs.size) (.ref a) = false := by simp [Builtin.List.listSameRef, hSa]
  have h2 : (Value.type "generator" == Value.type "list") = false := by decide
  have h3 : (Value.type "generator" == Value.type "tuple") = false := by decide
  simp only [h1, h2, h3, Bool.or_false, Bool.false_eq_true, if_false]
  refine wz_bind (wz_of (wpAny_pyIter_gen (s := { s with heap := _ }) (gty k2) ?_))
  refine wz_bind (wz_holding ?_)
  unfold Builtin.List.listLengthHint
  refine wz_bind (wz_of (wpAny_specialOf (Heap.IsGen.typeIs (s := { s with heap := _ }) (gty k2)) F.gen_no_len ?_))
  show wz _ X.A.in1.in1 (specialOf (Value.ref a) (Str.ofString "__length_hint__") >>= _) _ _ _
  refine wz_bind (wz_of (wpAny_specialOf (Heap.IsGen.typeIs (s := { s with heap := _ }) (gty k2)) F.gen_no_hint ?_))
  refine wz_pure ?_
  show wz _ X.A.in1.in1 (rule "list.extend.makes-room" >>= fun _ => Builtin.List.listTouch (.ref s.heap.objs.size) >>= fun _ =>
    again (.builtin "list.extend.loop" ⟨[.ref s.heap.objs.size, .ref a, .none], []⟩)) _ _ _
  refine wz_bind (wz_of (wpAny_rule ?_))
  refine wz_bind ?_
  show wz _ X.A.in1.in1 (updateSeq s.heap.objs.size (·.push .none) >>= fun _ => updateSeq s.heap.objs.size (·.pop)) _ _ _
  refine wz_of (wp_touch hS2 rfl ?_)
  refine wz_pure ⟨plainId_quiet F.plain_extend_loop _, ?_⟩
  have nS : H s.heap.objs.size = none := I.hok.fresh hsz
  refine codez_drain (A := X.A.in1) (outer := X.stack) (EX := []) (H := H) (sc := sc) (S := s.heap.objs.size) (a := a) (g := g) (all := qs) hr.hd ?_ hSa hSc (Ne.symm ?_) (fun ys' H' s' hc => ?_) (fun ys' H' s' hx ht hc hb => ?_)
    qs [] [] H (.fresh c) { s with heap := _ } (fun _ _ q => q) trivial rfl (by rw [List.length_nil, Nat.zero_add]; exact hlen) M.fresh (hl.keeps k4) (Gn.of (gty k4)) ?_
  · have := hr.dp
    show X.A.depth < _
    omega
  · exact Nat.ne_of_lt (Nat.lt_of_lt_of_le (let ⟨_, hn, _⟩ := I.nolimit; hn.lt) M.adr)
  · exact (inv_com I hc fun b z => by simp at z).nolimit
  · obtain ⟨acc, n, eS, rv⟩ := hc.lst
    refine wz_pure ?_
    show wz _ _ (if (Value.none != Value.none) = true then _ else ret (Value.ref s.heap.objs.size)) _ _ _
    rw [if_neg (by decide)]
    refine wz_pure ?_
    exact hQ _ s' H' ys' (I.drained hsz (by rw [ht.len]; exact hlen) eS rv (fun b z => by simp at z) hc.os hb hc.un hc.hok hc.free) hc.free hx ht
  · refine rdy_iff.mpr (rdy_iff.mp (W X.A.in1.in1.in1 s.heap.objs.size [] [] [] (Shared.setGen { s with heap := _ } g .running) (Room.in1 (Room.in1 (Room.in1 hr))) I.ok.frames k4 M.os (allBare_setGen (s := { s with heap := _ }) M.bare rfl) (by rw [GenW.setGen_size]; exact Nat.le_refl _) (fun b z => by simp at z) (fun b z => ?_) ⟨_, _, hS4, .nil⟩ nS (fun p z => by simp at z) fun p z => by simp at z))
    rcases z with rfl | ⟨p, z, _⟩
    · exact .inr (Nat.le_refl _)
    · simp at z
end
end Zed

set_option Elab.async false
set_option linter.all false
set_option maxRecDepth 100000
set_option maxHeartbeats 1000000
/-! Z11: judgements of statements over reached configurations. -/
namespace Zed
open PySem L2 PyProof.Rows GenW

structure PEz (X : Cx) (e : Expr) (t : TE) : Prop where
  run : ∀ (pins : List (Addr × Obj)) (s : Shared) (σ : L2.St) (H : Hp) (Q : VK), Inv X pins σ H s → t σ H Q → wz (MX X) X.A (eval e X.env) (EP X pins σ Q) X.xe s
structure PTz (X : Cx) (e : Expr) (t : TT) : Prop where
  run : ∀ (whole : Sem Value) (pins : List (Addr × Obj)) (s : Shared) (σ : L2.St) (H : Hp) (Q : Bool → Hp → Prop), whole = eval e X.env ∨ (∃ op vs p, e = .BoolOp op vs p) → Inv X pins σ H s → t σ H Q → wz (MX X) X.A (isTrue e X.env whole) (TP X pins σ Q) X.xe s
structure PSz (X : Cx) (st : Stmt) (t : TS) : Prop where
  run : ∀ (pins : List (Addr × Obj)) (s : Shared) (σ : L2.St) (H : Hp) (D : Ends), Inv X pins σ H s → t D σ H → wz (MX X) X.A (exec st X.env) (SP X pins D) X.xe s
structure PSsz (X : Cx) (st : List Stmt) (t : TS) : Prop where
  run : ∀ (pins : List (Addr × Obj)) (s : Shared) (σ : L2.St) (H : Hp) (D : Ends), Inv X pins σ H s → t D σ H → wz (MX X) X.A (execs st X.env) (SP X pins D) X.xe s

section
variable {X : Cx} {st : Stmt} {rest : List Stmt} {t u : TS} {pos : Pos}
theorem psz (h : PS X st t) : PSz X st t := ⟨fun pins s σ H D I q => wz_of (h.run pins s σ H D I q)⟩
theorem pssz (h : PSs X rest t) : PSsz X rest t := ⟨fun pins s σ H D I q => wz_of (h.run pins s σ H D I q)⟩
theorem pssz_cons (h1 : PSz X st t) (h2 : PSsz X rest u) : PSsz X (st :: rest) (tSeq t u) := by
  refine ⟨fun pins s σ H D I h => ?_⟩
  rw [execs_cons]
  refine wz_bind (wz_thn (h1.run pins s σ H { D with nx := u D } I h) fun f s1 q => ?_)
  cases f with
  | next =>
    obtain ⟨σ', H', I', q⟩ := q
    exact h2.run pins s1 σ' H' D I' q
  | ret v => exact wz_pure q
  | brk => exact wz_pure q
  | cont => exact wz_pure q
theorem psz_if {c : Expr} {a b : List Stmt} {tc : TT} (hc : PTz X c tc) (ha : PSsz X a t) (hb : PSsz X b u) : PSz X (.If c a b pos) (tIfS tc t u) := by
  refine ⟨fun pins s σ H D I h => ?_⟩
  rw [arm_exec_If]
  refine wz_bind (wz_of (wpAny_standAt ?_))
  refine wz_bind (wz_thn (hc.run _ pins s σ H _ (.inl rfl) I h) fun d s1 ⟨H1, I1, q1⟩ => ?_)
  cases d with
  | true => exact ha.run pins s1 σ H1 D I1 q1
  | false => exact hb.run pins s1 σ H1 D I1 q1
/-- x or y, as a test: y alone needs the wider logic -/
theorem ptz_or {a b : Expr} {tA tB : TT} {p : Pos} (ha : PT X a tA) (hb : PTz X b tB) : PTz X (.BoolOp .Or [a, b] p) (tOr tA tB) := by
  refine ⟨fun wh pins s σ H Q _ I h => ?_⟩
  show wz _ X.A (do
    match BoolOp.Or, ← isTrue a X.env (eval a X.env) with
    | .And, false => pure false
    | .Or, true => pure true
    | _, _ => allTrue .Or [b] X.env) _ _ s
  refine wz_bind (wz_thn (wz_of (ha.run pins s σ H _ I h)) fun c s1 ⟨H1, I1, q1⟩ => ?_)
  cases c with
  | true => exact wz_pure ⟨H1, I1, q1⟩
  | false =>
    show wz _ X.A (do
      match BoolOp.Or, ← isTrue b X.env (eval b X.env) with
      | .And, false => pure false
      | .Or, true => pure true
      | _, _ => allTrue .Or [] X.env) _ _ s1
    refine wz_bind (wz_thn (hb.run _ pins s1 σ H1 Q (.inl rfl) I1 q1) fun c s2 ⟨H2, I2, q2⟩ => ?_)
    cases c with
    | true => exact wz_pure ⟨H2, I2, q2⟩
    | false => exact wz_pure ⟨H2, I2, q2⟩
/-- a comparison whose left side needs the wider logic, as a test -/
theorem ptz_cmp {op : CmpOp} {r : R2} {a b : Expr} {ta tb : TE} {p : Pos} (ho : OpR X (compareOp op) r) (ha : PEz X a ta) (hb : PE X b tb) (hm : behindInMarks op b = false) : PTz X (.Compare a [op] [b] p) (tTest (tOp r ta tb)) := by
  refine ⟨fun wh pins s σ H Q _ I h => ?_⟩
  rw [isTrue_Compare1]
  refine wz_bind (wz_thn (ha.run pins s σ H _ I h) fun v s1 ⟨x, H1, I1, r1, q1⟩ => wz_of ?_)
  have z : wpAny (MX X) X.A (eval b X.env) (fun u s2 => wpAny (MX X) X.A (compareOp op v u) (fun c s3 => wpAny (MX X) X.A (truthy c) (TP X pins σ Q) X.xe s3) X.xe s2) X.xe s1 :=
    thn (hb.run pins s1 σ H1 _ I1 q1) fun u s2 ⟨y, H2, I2, r2, q2⟩ => thn (ho pins s2 σ H2 x y v u _ I2 r1 r2 q2) fun c s3 ⟨z, H3, I3, r3, k, e, q3⟩ => by
      subst e
      cases r3
      exact wpAny_truthy_bool ⟨H3, I3, q3⟩
  intro Γ p hΓ
  simp only [markedBehindIn_of_false hm, Sem.wp_bind', Sem.wp_holding, Sem.wp_cmd_standAt, Sem.wp_operate]
  exact Sem.wp_mono _ Γ _ (fun b _ s₂ h₂ => Sem.wp_mono _ Γ _ (fun c p₃ s₃ h₃ => h₃ Γ p₃ hΓ) (fun _ _ _ h' => h') _ _ (h₂ Γ _ hΓ)) (fun _ _ _ h' => h') _ _ (z Γ p hΓ)

/-- list(o.m()): m a generator method that may delegate -/
def tListZ (C : Addr) (m : Str) (sp : SpZ) (ta : TE) : TE := fun σ H Q => ta σ H fun x H1 => ∃ a dx fs qs, x = .ref a ∧ H1 a = some (.ins C dx fs) ∧ fs.lookup m = none ∧ sp [.ref a] H1 qs ∧ qs.length ≤ sizeLine ∧
  ∀ S H' ys, H' S = none → Ext H1 H' → TupsAt H' ys qs → Q (.ref S) (upd H' S (.lst ys))
theorem pez_list {C f : Addr} {k : Nat} {fd : FuncData} {ps : List Str} {sp : SpZ} {x m : Str} {p pos' apos : Pos} {o : Expr} {ta : TE} {pl : Sem Bool} (he : PE X o ta) (c : Cls X.K C) (hm : Meth X.K C m f) (F : GenOk X.prog X.w X.K X.mg X.base k f fd ps sp) (hr : Room (k + 3) X.A) (hb : Binds X.K fd ps [])
    (hg : Gl X x) (hmg : X.mg x = none) (hv : bootBuiltins x = some (.type "list")) (hnm : x ≠ "__name__" := by decide) (hdb : (x == ("__debug__" : Str)) = false := by decide)
    (hst : starEach [Expr.Call (.Attribute o m apos) [] [] pos'] X.env = [(false, eval (.Call (.Attribute o m apos) [] [] pos') X.env)] := by rfl)
    (ht : eval (.Call (.Attribute o m apos) [] [] pos') X.env = (do
      let ov ← eval o X.env
      standAt apos.atName
      let (f, first) ← holding [ov] (getMethod ov m pl)
      callWith pos' f first (backTo pos' (starEach [] X.env)) (backToKw pos' (keywordEach [] X.env))) := by rfl) :
    PEz X (.Call (.Name x p) [.Call (.Attribute o m apos) [] [] pos'] [] pos) (tListZ C m sp ta) := by
  refine ⟨fun pins s σ H Q I h => ?_⟩
  rw [arm_eval_Call_Name']
  refine wz_bind (wz_of (ld_blt I hg hmg hv ?_ hnm hdb))
  rw [hst]
  show wz _ _ (callWith pos (.type "list") [] [(false, eval (.Call (.Attribute o m apos) [] [] pos') X.env)] []) _ _ _
  have hgen : wpAny (MX X) X.A (eval (.Call (.Attribute o m apos) [] [] pos') X.env) (fun u s2 => ∃ sc H1 a dx fs qs b g cd, Inv X pins σ H1 sc ∧ u = .ref b ∧ GMadeZ sc s2 b g cd ∧ WakeOk X.prog X.w X.base k X.stack H1 sc s2 qs b g cd ∧ qs.length ≤ sizeLine ∧ H1 a = some (.ins C dx fs) ∧
      ∀ S H' ys, H' S = none → Ext H1 H' → TupsAt H' ys qs → Q (.ref S) (upd H' S (.lst ys))) X.xe s := by
    refine PySem.W.methodCall_KW (pl := pl) (thn (he.run pins s σ H _ I h) fun u s1 ⟨v, H1, I1, rv, a, dx, fs, qs, ex, ea, l, q, hl, hk⟩ => ?_) ht
    subst ex
    obtain rfl : u = Value.ref a := rv
    refine getmeth_ok I1 ea c hm l ?_
    refine PySem.W.callWith_K0 (first := [.ref a]) I1.kIn hm.kp ?_
    have hlen : ([Value.ref a]).length = ps.length := by rw [← F.len _ _ _ q]; rfl
    have hbb := hb s1 [.ref a] I1.kIn (by rw [List.append_nil]; exact hlen)
    rw [List.append_nil] at hbb
    refine wpAny_call (codeAny_mono (F.run X.A X.stack s1 H1 ⟨[.ref a], []⟩ [.ref a] [.ref a] qs (hr.mono (Nat.zero_le _)) I1.env0 hbb (.cons rfl .nil) q) fun r s2 ⟨b, g, cd, er, M, wk⟩ => ?_)
    subst er
    exact ⟨s1, H1, a, dx, fs, qs, b, g, cd, I1, rfl, M, wk, hl, ea, hk⟩
  unfold callWith
  refine wz_bind (wz_holding (wz_of (Calls.evalArgs_plain (Calls.spliced_cons (thn hgen fun u s2 hu => Calls.spliced_nil ?_)))))
  obtain ⟨sc, H1, a, dx, fs, qs, b, g, cd, I1, rfl, M, wk, hl, ea, hk⟩ := hu
  refine wz_bind (wz_of (wpAny_standAt ?_))
  show wz _ X.A (keeperOf (.type "list") >>= _) _ _ _
  refine wz_bind ?_
  refine wz_pure ?_
  refine wz_bind (wz_call_list I1 hr M wk hl fun S s' H' ys I' nS hx ht => ?_)
  exact wz_of (wpAny_bind (wpAny_holding (wpAny_point (wpAny_pure ⟨.ref S, _, I', rfl, hk S H' ys nS hx ht⟩))))
end

section
variable {X : Cx} {pos : Pos}
/-- for x in ..: the body needs the wider logic; nothing that is raised leaves -/
theorem psz_for {tg iter : Expr} {body : List Stmt} {wi : TI} {g : TG} {tb : TS} (hxe : X.xe = fun _ _ => False) (hc : X.calm = true) (hi : PI X tg iter wi) (hg : PG X tg g) (hb : PSsz X body tb)
    (hs : ∀ x, foldedSetIterable iter X.env x = pure x := by intro _; rfl) : PSz X (.For tg iter body [] pos) (tFor wi g tb) := by
  refine ⟨fun pins s σ H D I h => ?_⟩
  have nx : ∀ {al : Type} {m : Sem al} {Q : al → Shared → Prop} {E : Value → Shared → Prop} {s : Shared}, wz (MX X) X.A m Q X.xe s → wz (MX X) X.A m Q E s := fun {al m Q E s} h => wz_mono h (fun _ _ q => q) fun x s' q => by rw [hxe] at q; exact q.elim
  rw [arm_exec_For]
  refine wz_bind (wz_of (wpAny_standAt ?_))
  refine wz_bind (wz_of (thn (hi.run pins s σ H _ I h) fun v s1 hv => ?_))
  rw [hs, pure_bind]
  refine wz_bind (wz_of (wpAny_standAt ?_))
  refine wz_bind (wz_holding (wz_of (thn hv fun itv s2 hP => ?_)))
  obtain ⟨it, fp, tn, J, H2, e, I2, T, st2, f2, W, ⟨m0, w0⟩, turn⟩ := hP
  subst e
  have stat : ∀ {H' : Hp}, (∀ b ∈ fp, H' b = none) → ∀ b ∈ fp, FpOk X pins H' b := fun hn b hb => ⟨hn b hb, (f2 b hb).2⟩
  have loop : ∀ (m i : Nat) (σ : L2.St) (H : Hp) (s : Shared), W i m σ H → Inv X pins σ H s → tn i s.heap → (∀ b ∈ fp, H b = none) →
      codez (MX X) X.A (.forLoop tg (.ref it) body [] X.env) (fun r s' => match r with | .ok f => SP X pins D f s' | .error _ => False) s := by
    intro m
    induction m using Nat.strongRecOn with
    | ind m ih =>
      intro i σ3 H3 s3 w3 I3 st3 fr3
      refine codez_tree ?_
      rw [Around.under_of_weight rfl]
      show wz _ X.A ((forTurn tg (.ref it) body [] X.env).onRaise fun x => do noteFrame x X.env; theTreesLotGoes x) _ _ s3
      refine wz_onRaise (wz_mono (E := fun _ _ => False) ?_ (fun _ _ q => q) fun _ _ q => q.elim)
      unfold forTurn
      refine wz_bind (wz_of (wpAny_standAt ?_))
      rcases turn i m σ3 H3 w3 with ⟨stop, qn⟩ | ⟨go, N, hN, step⟩
      · refine wz_bind (wz_onRaise (wz_of (wpAny_mono (T.done X rfl rfl rfl hc i pins s3 σ3 H3 (fun _ _ => False) I3 (stat fr3) st3 stop) (fun r s4 ⟨hr, I4⟩ => ?_) fun _ _ q => q.elim)))
        subst hr
        exact wz_pure ⟨quiet_block, codez_of (codeAny_block (wpAny_execs_nil ⟨σ3, H3, I4, qn⟩))⟩
      · refine wz_bind (wz_onRaise (wz_of (wpAny_mono (T.item X rfl rfl rfl hc i pins s3 σ3 H3 X.xe I3 (stat fr3) st3 go) (fun r s4 ⟨u, hr, h4⟩ => ?_) fun _ _ q => by rw [hxe] at q; exact q.elim)))
        subst hr
        show wz _ _ (letOwnedTupleGo tg (.ref it) u >>= fun _ => assign tg X.env u >>= fun _ => execs body X.env >>= fun f => _) _ _ s4
        refine wz_bind (nx (wz_of (thn h4 fun _ s5 ⟨x, H5, I5, r5, y5, st5, fr5⟩ => ?_)))
        have I5' := I5.pinned (stat fr5) (T.obj _ _ st5)
        refine wz_bind (nx (wz_of (thn (hg.run _ s5 σ3 H5 x u _ I5' r5 (step x H5 y5)) fun _ s6 ⟨σ6, H6, I6, q6⟩ => ?_)))
        refine wz_bind (nx (wz_thn (hb.run _ s6 σ6 H6 _ I6 q6) fun f s7 q7 => ?_))
        have again : ∀ {σ7 : L2.St} {H7 : Hp}, Inv X (pins ++ pinsAt fp s5.heap) σ7 H7 s7 → N σ7 H7 → codez (MX X) X.A (.forLoop tg (.ref it) body [] X.env) (fun r s' => match r with | .ok f => SP X pins D f s' | .error _ => False) s7 := fun {σ7 H7} I7 n7 => by
          obtain ⟨m', hm, w7⟩ := hN σ7 H7 n7
          refine ih m' hm (i + 1) σ7 H7 s7 w7 I7.unpinned (T.keep _ _ _ st5 fun b hb o e => (I7.pin (b, o) (List.mem_append_right _ (List.mem_append_right _ (mem_pinsAt hb e)))).1) fun b hb => ?_
          obtain ⟨o, e, d⟩ := T.obj _ _ st5 b hb
          exact (I7.pin (b, o) (List.mem_append_right _ (List.mem_append_right _ (mem_pinsAt hb e)))).2.1
        cases f with
        | next => obtain ⟨σ7, H7, I7, n7⟩ := q7; exact wz_pure ⟨quiet_for, again I7 n7⟩
        | cont => obtain ⟨σ7, H7, I7, n7⟩ := q7; exact wz_pure ⟨quiet_for, again I7 n7⟩
        | brk => obtain ⟨σ7, H7, I7, q7⟩ := q7; exact wz_pure ⟨σ7, H7, I7.unpinned, q7⟩
        | ret u => obtain ⟨v7, σ7, H7, I7, r7, q7⟩ := q7; exact wz_pure ⟨v7, σ7, H7, I7.unpinned, r7, q7⟩
  unfold runOwn
  refine wz_onRaise (wz_mono (E := fun _ _ => False) (wz_run (codez_mono (loop m0 0 σ H2 s2 w0 I2 st2 fun b hb => (f2 b hb).1) fun r s' q => ?_)) (fun _ _ q => q) fun _ _ q => q.elim)
  cases r <;> exact q
end

theorem codez_fn {P : Program} {w : World} {A : Around} {s : Shared} {R : Result → Shared → Prop} {a : Addr} {args : Args} {o : Obj} {fd : FuncData} {body : List Stmt} (hroom : A.depth < recursionLimit) (ho : s.heap.get? a = some o)
    (hd' : o.data = .func fd) (hco : fd.scope.isCoroutine = false) (hgen : fd.scope.isGenerator = false) (hbody : fd.body = .stmts body) (hcd : s.heap.CodeRec fd.code fd.qualname)
    (h : wpAny (model P w) A.in1 (bindArgs fd args) (fun binds s₁ =>
      wpAny (model P w) A.in1 (newFunctionEnv fd.scope fd.globals fd.closure binds (fd.qualname ++ ".<locals>.") (some a) fd.code none fd.builtins)
        (fun env s₂ => s₂.heap.NoLimit ∧ codez (model P w) A (.func body env) R s₂) (fun e s' => R (.error e) s') s₁) (fun e s' => R (.error e) s') s) :
    codez (model P w) A (.call (.ref a) args) R s := by
  refine codez_tree ?_
  show wz _ A.in1 (callAny (.ref a) args) _ _ s
  simp only [callAny]
  refine wz_bind (wz_of (wpAny_load ho ?_))
  obtain ⟨c, oc, vs, tq, hc, hoc, hdc, hq⟩ := hcd
  simp only [hd', callFunction, hco, hgen, hbody, hc]
  rw [hc] at h
  refine wz_bind (m := field (.ref c) 1) (wz_of (wpAny_field hoc hdc hq ?_))
  refine wz_bind (wz_pure ?_)
  exact wz_bind (wz_of (wpAny_mono h (fun binds s₁ h₁ => wz_bind (wz_of (wpAny_mono h₁ (fun env s₂ h₂ => wz_bind (wz_of (wpAny_enterFrame h₂.1 hroom
    (wz_pure (And.intro rfl h₂.2))))) fun _ _ h' => h'))) fun _ _ h' => h'))
/-- a def whose body needs the wider logic -/
theorem fnz_of {P : Program} {w : World} {K : PySem.W.Frag} {mg : Str → Option Value} {base : Heap} {k : Nat} {f : Addr} {name qual : Str} {params : Arguments} {body : List Stmt} {scope : Scope} {dV kV doc pm cdv ct oc : Value} {an od : Option Addr}
    {osl : Array (Option Value)} {N ps : List Str} (lk : K.lookup f = some ⟨oc, od, .func (PySem.W.fnOf name qual params body scope dV kV doc pm an cdv ct), osl⟩) (hcd : PySem.W.codeIn K cdv qual = true) (S : FnScope N ps scope)
    {A : Around} {outer : List Env} {s : Shared} {H : Hp} {args : Args} {us : List Value} {vs : List V} {Q : VK} (hr : Room (k + 1) A) (e0 : Env0 P w K mg base A outer s H) (hb : BindsTo s (PySem.W.fnOf name qual params body scope dV kV doc pm an cdv ct) args (ps.zip us)) (r : Vals vs us) (hl : vs.length = ps.length)
    (hbody : Room k (A.deeper (envOfC qual scope s.heap.objs.size f cdv)) → ∃ t, PSsz (cxOf CX0 P w K mg base N qual scope f cdv A outer s H (fun _ _ _ => False)).nox body t ∧ t { nx := fun _ H' => Q .non H', rt := Q } (start N vs) H) :
    codez (model P w) A (.call (.ref f) args) (fun r s' => ∃ u, r = .ok (.ret u) ∧ CE outer P w H s Q u s') s := by
  have KX : K.In s.heap := e0.mod.kin.keeps fun b o e => (e0.bs b o e).1
  have lim : s.heap.NoLimit := e0.mod.nolimit.keeps fun b o e => (e0.bs b o e).1
  have hkind : ∀ y ∈ ps.zip us, scope.names.lookup y.1 = some .local ∨ (scope.names.lookup y.1 = some .cell ∧ ((cellsFrom (s.heap.objs.size + 1) scope.names []).lookup y.1).isSome = true) := fun ⟨n, v⟩ hy => by
    rcases S.par n (List.of_mem_zip hy).1 with q | q
    · exact .inl q
    · exact .inr ⟨q, PySem.W.cellsFrom_some _ _ _ (.inl q)⟩
  refine codez_fn hr.depth (KX _ _ lk) rfl S.co S.gen rfl (PySem.W.codeRec_of KX hcd) (hb _ _ _ _ ?_)
  refine wpAny_newFunctionEnv_cells S.kind hkind fun env he s1 x => ?_
  subst he
  refine ⟨lim.keeps x.toInCall.keep, codez_tree ?_⟩
  obtain ⟨t, ht, hq⟩ := hbody (hr.deeper _)
  have I : Inv (cxOf CX0 P w K mg base N qual scope f cdv A outer s H (fun _ _ _ => False)) [] (start N vs) H s1 := inv_start S hr.hd e0 hl r x
  show wz _ (A.deeper (envOfC qual scope s.heap.objs.size f cdv)) (do point; match ← (execs body (envOfC qual scope s.heap.objs.size f cdv)).onRaise (leaving (envOfC qual scope s.heap.objs.size f cdv)) with | .ret v => ret v | _ => ret .none) _ _ s1
  refine wz_bind (wz_of (wpAny_point ?_))
  refine wz_bind (wz_onRaise (wz_mono (E := fun _ _ => False) (ht.run [] s1 (start N vs) H _ (I.wish _) hq) (fun fl s' hs => ?_) fun e s' hs => hs.elim))
  have fin : ∀ {σ' : L2.St} {H' : Hp} {v : V} {u : Value}, Inv (cxOf CX0 P w K mg base N qual scope f cdv A outer s H (fun _ _ _ => False)).nox [] σ' H' s' → RelV v u → Q v H' → CE outer P w H s Q u s' :=
    fun {σ' H' v u} J rv q => ⟨v, H', J.os, J.bare, J.base, J.hok, rv, q⟩
  cases fl with
  | ret u =>
    obtain ⟨v, σ', H', J, rv, q⟩ := hs
    exact wz_pure ⟨u, rfl, fin J rv q⟩
  | next =>
    obtain ⟨σ', H', J, q⟩ := hs
    exact wz_pure ⟨.none, rfl, fin (v := V.non) (u := Value.none) J rfl q⟩
  | brk =>
    obtain ⟨_, _, _, q⟩ := hs
    exact False.elim q
  | cont =>
    obtain ⟨_, _, _, q⟩ := hs
    exact False.elim q
end Zed

set_option Elab.async false
set_option linter.all false
set_option maxRecDepth 100000
set_option maxHeartbeats 1000000
/-! Z12: the law's call from its body. -/
namespace Zed
open PySem L2 PyProof.Rows GenW

theorem callz {P : Program} {w : World} {K : PySem.W.Frag} {mg mb : Str → Option Value} {fa a : Addr} {s₁ : Shared} {vs : List Value} {ns : List Int}
    (KX : K.In s₁.heap) (hns : s₁.heap.Ns mainGlobals mg) (hb : s₁.heap.Ns builtinsNs mb) (hbb : ∀ x : Str, x ≠ "__name__" → mb x = bootBuiltins x) (hlim : s₁.heap.NoLimit) (hg : s₁.gens = #[])
    (ha : s₁.heap.get? a = some { cls := .type "list", data := .seq vs.toArray }) (hi : IntsAre vs ns) (hl : ns.length ≤ sizeLine)
    (F : ∀ (base : Heap) (H : Hp), K.In base → base.Ns mainGlobals mg → Only H → SqL K H a (ns.map V.int) → Env0 P w K mg base callerA [] s₁ H →
      codez (model P w) callerA (.call (.ref fa) ⟨[.ref a], []⟩) (fun r s' => ∃ u, r = .ok (.ret u) ∧ CE [] P w H s₁ (fun v _ => v = .bl true) u s') s₁) : CallOk P w s₁ fa a := by
  have rv := vals_ints hi
  have lenV := hi.length
  have core : ∀ H : Hp, Only H → SqL K H a (ns.map V.int) → HOk P w H s₁.heap → (∀ b, H b ≠ none → b = a) → (H a ≠ none → K.lookup a = none) → CallOk P w s₁ fa a := by
    intro H hO hS hok hA hK
    have base_of : ∀ {b : Addr} {o : Obj}, s₁.heap.get? b = some o → H b = none → (hidT s₁.heap H).get? b = some o := fun e n => hidT_get e n
    have onA : ∀ {b : Addr} {u : HO}, H b = some u → b = a := fun {b u} q => hA b (by rw [q]; simp)
    have noA : ∀ {b : Addr} {o : Obj} {es : Array DictEntry} {ep : Nat}, s₁.heap.get? b = some o → o.data = .dict es ep → H b = none := fun {b o es ep} e d => by
      cases q : H b with
      | none => rfl
      | some u =>
        have e' := onA q
        subst e'
        rw [ha] at e; cases e
        cases (show Data.seq vs.toArray _ = Data.dict es ep from d)
    have nsK : ∀ {b : Addr} {m : Str → Option Value}, s₁.heap.Ns b m → (hidT s₁.heap H).Ns b m := fun {b m} ⟨o, es, ep, e, d, r⟩ => ⟨o, es, ep, base_of e (noA e d), d, r⟩
    have hKb : K.In (hidT s₁.heap H) := fun b o e => base_of (KX b o e) (by
      cases q : H b with
      | none => rfl
      | some u =>
        have e' := onA q
        subst e'
        rw [hK (by rw [q]; simp)] at e; cases e)
    have hM : Mod K mg (hidT s₁.heap H) := ⟨hKb, nsK hns, ⟨mb, nsK hb, hbb⟩, let ⟨mc, h1, h2⟩ := hlim; ⟨mc, nsK h1, h2⟩⟩
    have e0 : Env0 P w K mg (hidT s₁.heap H) callerA [] s₁ H := ⟨rfl, hM, fun b o e => of_hidT e, Nat.le_of_eq (hidT_size _ _), trivial, fun b hb => absurd (show b ∈ ([] : List Addr) from hb) (by simp), hok, .of_eq hg⟩
    refine codez_mono (F _ H hKb (nsK hns) hO hS e0) fun r s' ⟨u, er, h⟩ => ?_
    subst er
    obtain ⟨v, H', os, bare, un, hok', r', q⟩ := h
    have q' : v = .bl true := q
    subst q'
    obtain rfl : u = Value.bool true := r'
    refine ⟨rfl, OldK.of_keep fun b o e => ?_, os, bare⟩
    cases q : H b with
    | none => exact un.keep b o e q (by intro z; exact absurd (show b ∈ ([] : List Addr) from z) (by simp)) (by simp)
    | some u =>
      rcases hO b with z | ⟨ob, xs, z⟩
      · rw [q] at z; cases z
      · have z2 := un.frzs b ob _ z
        obtain ⟨e1, _⟩ := hok b _ z
        obtain ⟨e2, _⟩ := hok' b _ z2
        rw [e] at e1; cases e1
        exact e2
  cases hk : K.lookup a with
  | some o =>
    have e := KX a o hk
    rw [ha] at e
    cases e
    refine core (fun _ => none) (fun _ => .inl rfl) (.inr ⟨_, vs.toArray, _, hk, rfl, rfl, rfl, by rw [List.size_toArray, lenV]; exact hl, by simpa using rv⟩) (fun b u z => ?_) (fun b z => absurd rfl z) fun z => absurd rfl z
    cases (show (none : Option HO) = some u from z)
  | none =>
    refine core (fun b => if b = a then some (.frz { cls := .type "list", data := .seq vs.toArray } (.lst (ns.map V.int))) else none) (fun b => ?_) (.inl (.inr ⟨_, if_pos rfl⟩)) (fun b u z => ?_) (fun b z => ?_) fun _ => hk
    · by_cases hb : b = a
      · exact .inr ⟨_, _, if_pos hb⟩
      · exact .inl (if_neg hb)
    · by_cases hb : b = a
      · have z' := (if_pos hb).symm.trans z
        cases z'
        subst hb
        exact ⟨ha, by rw [List.length_map]; exact hl, vs, _, rv, ha⟩
      · have z' := (if_neg hb).symm.trans z
        cases z'
    · by_cases hb : b = a
      · exact hb
      · exact absurd (if_neg hb) z
end Zed

set_option linter.all false
/-! M1: jumps, what lies on a run; runs. Plain. -/
namespace Rl
abbrev J := Nat × Nat
def toStep (S : List Nat) (j : J) : List Nat := if j.1 ∈ S then j.2 :: S else S
def fromStep (S : List Nat) (j : J) : List Nat := if j.2 ∈ S then j.1 :: S else S
/-- the blocks to which the jumps lead from the first one -/
def comeTo (js : List J) : List Nat := js.foldl toStep [0]
/-- the blocks from which they lead to the last one -/
def comeFrom (n : Nat) (js : List J) : List Nat := js.reverse.foldl fromStep [n - 1]
def useful (n : Nat) (js : List J) : List J := js.filter fun j => decide (j.1 ∈ comeTo js) && decide (j.2 ∈ comeFrom n js)
/-- the jumps that a run makes -/
def steps : List Nat → List J
  | x :: y :: r => (x, y) :: steps (y :: r)
  | _ => []
/-- valid jumps of n blocks -/
def Val (n : Nat) (js : List J) : Prop := ∀ j ∈ js, j.1 < j.2 ∧ j.2 < n
/-- the rows, ascending -/
def rowsFrom (n : Nat) (js : List J) (u : Nat) : List J := ((List.range' (u + 1) (n - (u + 1))).filter fun v => decide ((u, v) ∈ js)).map fun v => (u, v)
def rowsOf (n : Nat) (js : List J) : List J := (List.range n).flatMap (rowsFrom n js)
/-- runs that go on from x, in order; f fuel -/
def cont (last : Nat) (us : List J) : Nat → Nat → List (List Nat)
  | 0, _ => []
  | f + 1, x => (if x = last then [[]] else []) ++ (us.filter fun j => decide (j.1 = x)).flatMap fun j => (cont last us f j.2).map (j.2 :: ·)
/-- all the rest-runs from x -/
def rests (last : Nat) (js : List J) : Nat → Nat → List (List Nat)
  | 0, _ => []
  | f + 1, x => if x = last then [[last]] else ((List.range' (x + 1) (last - x)).filter fun v => decide ((x, v) ∈ js)).flatMap fun v => (rests last js f v).map (x :: ·)
/-- a run made backward, forward -/
def back (us : List J) : Nat → List Nat → List Nat
  | 0, r => r
  | f + 1, [] => []
  | f + 1, x :: r => if x = 0 then x :: r else back us f (((us.filter fun j => decide (j.2 = x)).headD (0, 0)).1 :: x :: r)
def forth (last : Nat) (us : List J) : Nat → List Nat → List Nat
  | 0, r => r
  | f + 1, r => if r.getLast? = some last then r else forth last us f (r ++ [((us.filter fun j => decide (some j.1 = r.getLast?)).headD (0, 0)).2])
def runBy (n : Nat) (us : List J) (j : J) : Option (List Nat) := if j ∈ us then some (forth (n - 1) us n (back us n [j.1, j.2])) else none
def notIn (n : Nat) (us other : List J) : Option (List Nat) := match us.filter fun j => decide (j ∉ other) with
  | [] => none
  | j :: _ => runBy n us j
end Rl

set_option Elab.async false
set_option linter.all false
set_option maxRecDepth 100000
set_option maxHeartbeats 1000000
/-! D0: the text by places; what the top leaves. -/
namespace Rl
open PySem PySem.Spec PyProof.Rows L2
def top (i : Nat) : Stmt := PySem.Challenge.pw_runledger_k15_whole_papers_of_parts.main.body.getD i (.Pass ⟨0, 0, 0, 0⟩)
abbrev s_is_integer : Stmt := top 12
abbrev s_within : Stmt := top 13
abbrev s_is_jump : Stmt := top 14
abbrev s_jumps_of : Stmt := top 15
abbrev s_come_to : Stmt := top 16
abbrev s_come_from : Stmt := top 17
abbrev s_useful_jumps : Stmt := top 18
abbrev s_runs_from : Stmt := top 19
abbrev s_going_on : Stmt := top 20
abbrev s_law_feed : Stmt := top 25
abbrev s_law_take : Stmt := top 26
abbrev s_law_pick : Stmt := top 27
abbrev s_law_steps : Stmt := top 28
abbrev s_law_run : Stmt := top 29
abbrev s_law_routine : Stmt := top 30
abbrev s_law_rows : Stmt := top 31
abbrev s_law_rests : Stmt := top 32
abbrev s_law_part : Stmt := top 33
abbrev s_law_keeping : Stmt := top 34
abbrev s_law_named : Stmt := top 35
abbrev s_law_lacking : Stmt := top 36
abbrev s_law_run_by : Stmt := top 37
abbrev s_law_barred : Stmt := top 38
abbrev s_law_runs_by_right : Stmt := top 39
abbrev s_law_not_in_right : Stmt := top 40
abbrev s_law_many_right : Stmt := top 41
abbrev s_law_other_rows : Stmt := top 42
abbrev s_law : Stmt := top 43
abbrev s_Routine_init : Stmt := inClass (top 21) 0
abbrev s_Routine_eq : Stmt := inClass (top 21) 5
abbrev s_Routine_contains : Stmt := inClass (top 21) 6
abbrev s_Routine_is_run : Stmt := inClass (top 21) 9
abbrev s_Part_init : Stmt := inClass (top 23) 0
abbrev s_Part_call : Stmt := inClass (top 23) 3
abbrev s_Part_le : Stmt := inClass (top 23) 7
abbrev s_Part_kept_run_by : Stmt := inClass (top 23) 12
abbrev s_Part_not_in : Stmt := inClass (top 23) 13
abbrev s_Part_kept_runs : Stmt := inClass (top 23) 14
abbrev s_NoJump_init : Stmt := inClass (top 6) 0
def d_is_integer : He.DefD := ⟨("is_integer", none), "is_integer", "is_integer", defArgs s_is_integer, defBody s_is_integer, defScope s_is_integer, [], []⟩
def d_within : He.DefD := ⟨("within", none), "within", "within", defArgs s_within, defBody s_within, defScope s_within, [], []⟩
def d_is_jump : He.DefD := ⟨("is_jump", none), "is_jump", "is_jump", defArgs s_is_jump, defBody s_is_jump, defScope s_is_jump, [], []⟩
def d_jumps_of : He.DefD := ⟨("jumps_of", none), "jumps_of", "jumps_of", defArgs s_jumps_of, defBody s_jumps_of, defScope s_jumps_of, [], []⟩
def d_come_to : He.DefD := ⟨("come_to", none), "come_to", "come_to", defArgs s_come_to, defBody s_come_to, defScope s_come_to, [], []⟩
def d_come_from : He.DefD := ⟨("come_from", none), "come_from", "come_from", defArgs s_come_from, defBody s_come_from, defScope s_come_from, [], []⟩
def d_useful_jumps : He.DefD := ⟨("useful_jumps", none), "useful_jumps", "useful_jumps", defArgs s_useful_jumps, defBody s_useful_jumps, defScope s_useful_jumps, [], []⟩
def d_runs_from : He.DefD := ⟨("runs_from", none), "runs_from", "runs_from", defArgs s_runs_from, defBody s_runs_from, defScope s_runs_from, [], []⟩
def d_going_on : He.DefD := ⟨("going_on", none), "going_on", "going_on", defArgs s_going_on, defBody s_going_on, defScope s_going_on, [], []⟩
def d_law_feed : He.DefD := ⟨("_law_feed", none), "_law_feed", "_law_feed", defArgs s_law_feed, defBody s_law_feed, defScope s_law_feed, [], []⟩
def d_law_take : He.DefD := ⟨("_law_take", none), "_law_take", "_law_take", defArgs s_law_take, defBody s_law_take, defScope s_law_take, [], []⟩
def d_law_pick : He.DefD := ⟨("_law_pick", none), "_law_pick", "_law_pick", defArgs s_law_pick, defBody s_law_pick, defScope s_law_pick, [], []⟩
def d_law_steps : He.DefD := ⟨("_law_steps", none), "_law_steps", "_law_steps", defArgs s_law_steps, defBody s_law_steps, defScope s_law_steps, [], []⟩
def d_law_run : He.DefD := ⟨("_law_run", none), "_law_run", "_law_run", defArgs s_law_run, defBody s_law_run, defScope s_law_run, [], []⟩
def d_law_routine : He.DefD := ⟨("_law_routine", none), "_law_routine", "_law_routine", defArgs s_law_routine, defBody s_law_routine, defScope s_law_routine, [], []⟩
def d_law_rows : He.DefD := ⟨("_law_rows", none), "_law_rows", "_law_rows", defArgs s_law_rows, defBody s_law_rows, defScope s_law_rows, [], []⟩
def d_law_rests : He.DefD := ⟨("_law_rests", none), "_law_rests", "_law_rests", defArgs s_law_rests, defBody s_law_rests, defScope s_law_rests, [], []⟩
def d_law_part : He.DefD := ⟨("_law_part", none), "_law_part", "_law_part", defArgs s_law_part, defBody s_law_part, defScope s_law_part, [], []⟩
def d_law_keeping : He.DefD := ⟨("_law_keeping", none), "_law_keeping", "_law_keeping", defArgs s_law_keeping, defBody s_law_keeping, defScope s_law_keeping, [], []⟩
def d_law_named : He.DefD := ⟨("_law_named", none), "_law_named", "_law_named", defArgs s_law_named, defBody s_law_named, defScope s_law_named, [], []⟩
def d_law_lacking : He.DefD := ⟨("_law_lacking", none), "_law_lacking", "_law_lacking", defArgs s_law_lacking, defBody s_law_lacking, defScope s_law_lacking, [], []⟩
def d_law_run_by : He.DefD := ⟨("_law_run_by", none), "_law_run_by", "_law_run_by", defArgs s_law_run_by, defBody s_law_run_by, defScope s_law_run_by, [], []⟩
def d_law_barred : He.DefD := ⟨("_law_barred", none), "_law_barred", "_law_barred", defArgs s_law_barred, defBody s_law_barred, defScope s_law_barred, [], []⟩
def d_law_runs_by_right : He.DefD := ⟨("_law_runs_by_right", none), "_law_runs_by_right", "_law_runs_by_right", defArgs s_law_runs_by_right, defBody s_law_runs_by_right, defScope s_law_runs_by_right, [], []⟩
def d_law_not_in_right : He.DefD := ⟨("_law_not_in_right", none), "_law_not_in_right", "_law_not_in_right", defArgs s_law_not_in_right, defBody s_law_not_in_right, defScope s_law_not_in_right, [], []⟩
def d_law_many_right : He.DefD := ⟨("_law_many_right", none), "_law_many_right", "_law_many_right", defArgs s_law_many_right, defBody s_law_many_right, defScope s_law_many_right, [], []⟩
def d_law_other_rows : He.DefD := ⟨("_law_other_rows", none), "_law_other_rows", "_law_other_rows", defArgs s_law_other_rows, defBody s_law_other_rows, defScope s_law_other_rows, [], []⟩
def d_law : He.DefD := ⟨("law", none), "law", "law", defArgs s_law, defBody s_law, defScope s_law, [], []⟩
def d_Routine_init : He.DefD := ⟨("Routine", some "__init__"), "__init__", "Routine.__init__", defArgs s_Routine_init, defBody s_Routine_init, defScope s_Routine_init, [], []⟩
def d_Routine_eq : He.DefD := ⟨("Routine", some "__eq__"), "__eq__", "Routine.__eq__", defArgs s_Routine_eq, defBody s_Routine_eq, defScope s_Routine_eq, [], []⟩
def d_Routine_contains : He.DefD := ⟨("Routine", some "__contains__"), "__contains__", "Routine.__contains__", defArgs s_Routine_contains, defBody s_Routine_contains, defScope s_Routine_contains, [], []⟩
def d_Routine_is_run : He.DefD := ⟨("Routine", some "is_run"), "is_run", "Routine.is_run", defArgs s_Routine_is_run, defBody s_Routine_is_run, defScope s_Routine_is_run, [], []⟩
def d_Part_init : He.DefD := ⟨("Part", some "__init__"), "__init__", "Part.__init__", defArgs s_Part_init, defBody s_Part_init, defScope s_Part_init, [], []⟩
def d_Part_call : He.DefD := ⟨("Part", some "__call__"), "__call__", "Part.__call__", defArgs s_Part_call, defBody s_Part_call, defScope s_Part_call, [], []⟩
def d_Part_le : He.DefD := ⟨("Part", some "__le__"), "__le__", "Part.__le__", defArgs s_Part_le, defBody s_Part_le, defScope s_Part_le, [], []⟩
def d_Part_kept_run_by : He.DefD := ⟨("Part", some "kept_run_by"), "kept_run_by", "Part.kept_run_by", defArgs s_Part_kept_run_by, defBody s_Part_kept_run_by, defScope s_Part_kept_run_by, [], []⟩
def d_Part_not_in : He.DefD := ⟨("Part", some "not_in"), "not_in", "Part.not_in", defArgs s_Part_not_in, defBody s_Part_not_in, defScope s_Part_not_in, [], []⟩
def d_Part_kept_runs : He.DefD := ⟨("Part", some "kept_runs"), "kept_runs", "Part.kept_runs", defArgs s_Part_kept_runs, defBody s_Part_kept_runs, defScope s_Part_kept_runs, [], []⟩
def d_NoJump_init : He.DefD := ⟨("NoJump", some "__init__"), "__init__", "NoJump.__init__", defArgs s_NoJump_init, defBody s_NoJump_init, defScope s_NoJump_init, [], []⟩
def fn0 : List He.DefD := [d_is_integer, d_within, d_is_jump, d_jumps_of, d_come_to, d_come_from, d_useful_jumps, d_runs_from, d_going_on, d_law_feed, d_law_take, d_law_pick, d_law_steps, d_law_run, d_law_routine]
def fn1 : List He.DefD := [d_law_rows, d_law_rests, d_law_part, d_law_keeping, d_law_named, d_law_lacking, d_law_run_by, d_law_barred, d_law_runs_by_right, d_law_not_in_right, d_law_many_right, d_law_other_rows, d_law, d_Routine_init, d_Routine_eq]
def fn2 : List He.DefD := [d_Routine_contains, d_Routine_is_run, d_Part_init, d_Part_call, d_Part_le, d_Part_kept_run_by, d_Part_not_in, d_Part_kept_runs, d_NoJump_init]
def fn : List He.DefD := fn0 ++ fn1 ++ fn2
def glo0 : List Str := ["is_integer", "within", "is_jump", "jumps_of", "come_to", "come_from", "useful_jumps", "runs_from", "going_on", "_law_feed", "_law_take", "_law_pick", "_law_steps", "_law_run", "_law_routine", "_law_rows"]
def glo1 : List Str := ["_law_rests", "_law_part", "_law_keeping", "_law_named", "_law_lacking", "_law_run_by", "_law_barred", "_law_runs_by_right", "_law_not_in_right", "_law_many_right", "_law_other_rows", "law", "Routine", "Part", "NoJump", "OtherRoutine"]
def glos : List Str := glo0 ++ glo1
def frees : List Str := ["len", "max", "min", "abs", "int", "range", "isinstance", "tuple", "bool", "all", "list", "zip", "enumerate", "sorted", "repr", "str"]
def fa1 : List He.Fa := [.int "MOST_BLOCKS" 40, .int "MOST_JUMPS" 120, .cls "Routine", .cls "Part", .noat "Routine" "blocks", .noat "Routine" "rows", .noat "Routine" "there", .noat "Part" "routine", .noat "Part" "allowed", .noat "Part" "useful",
  .meth "Routine" "__eq__", .meth "Routine" "__contains__", .meth "Routine" "is_run"]
def fa2 : List He.Fa := [.meth "Part" "__call__", .meth "Part" "__le__", .meth "Part" "kept_run_by", .meth "Part" "not_in", .meth "Part" "kept_runs", .mkr "Routine", .mkr "Part", .exc "OtherRoutine", .exm "NoJump" "NoJump" true, .exm "OtherRoutine" "OtherRoutine" true]
def fa : List He.Fa := glos.map He.Fa.glo ++ (frees.map He.Fa.free ++ (fa1 ++ fa2))
end Rl

set_option Elab.async false
set_option linter.all false
set_option maxRecDepth 100000
set_option maxHeartbeats 1000000
/-! D1: what is known of the text; data. -/
namespace Rl
open PySem PySem.Spec PyProof.Rows L2

/-! ### the text's facts -/
/-- the class at C has its own ==, and != of object -/
def neB (K : PySem.W.Frag) (C : Addr) : Bool := match K.lookup C with
  | some ⟨.type "type", _, .cls cd, sl⟩ => (match cd.mro, sl.toList with
    | [.ref C', .type "object"], [_, _, _, _, some (.builtin n), _] => C' == C && (!cd.hasDel && (PySem.W.nsOkIn K cd.ns && (PySem.W.nsIn K cd.ns "__ne__" == some none && PySem.W.nsIn K cd.ns "__eq__" == some (some (.ref (He.ma K C "__eq__"))))))
    | _, _ => false)
  | _ => false
/-- the class at C is an exception's, over ValueError -/
def oexB (K : PySem.W.Frag) (C : Addr) : Bool := match K.lookup C with
  | some ⟨.type "type", _, .cls cd, sl⟩ => (match cd.mro, sl.toList with
    | .ref C' :: bm, [_, _, _, _, some (.builtin n), _] => C' == C && (n == "ValueError.__new__" && (!cd.hasDel && (cd.hasDict && HandSPX.refsVE bm)))
    | _, _ => false)
  | _ => false
def oexC (K : PySem.W.Frag) (C : Addr) : Bool := oexB K C && (decide (PySem.W.findIn K (.ref C) "__setattr__" = some (some (.builtin "object.__setattr__"))) && (decide (PySem.W.subIn K (.ref C) (.type "BaseException") = some true) &&
  (decide (PySem.W.typeIn K (.ref C) = some (.type "type")) && (PySem.W.keepIn K (.ref C) && (decide (PySem.W.findIn K (.ref C) "jump" = some none) && (decide (PySem.W.findIn K (.ref C) "__init__" = some (some (.ref (He.ma K C "__init__")))) &&
    (decide (PySem.W.typeIn K (.ref (He.ma K C "__init__")) = some (.type "function")) && xfB K C)))))))
def insB (K : PySem.W.Frag) (C : Addr) : Bool := decide (PySem.W.findIn K (.ref C) "__class__" = some (some (.builtin "object.__class__"))) && (decide (PySem.W.mroIn K C (.type "object") = some true) && decide (PySem.W.kitOne K (.ref C) (.ref C) = some true))
def extra (K : PySem.W.Frag) : Bool := neB K (He.ga K "Routine") && (oexC K (He.ga K "NoJump") && (insB K (He.ga K "Routine") && (insB K (He.ga K "Part") && (decide (PySem.W.specialIn K (.builtin "object.__class__") "__get__" = some (some (.builtin "getset_descriptor.__get__"))) &&
  decide (PySem.W.takesIn K (.builtin "object.__class__") = some true)))))
structure Tx (K : PySem.W.Frag) (mg : Str → Option Value) : Prop where
  says : He.SaysD fa fn K
  more : extra K = true
  heap : ∃ h, K.In h ∧ h.Ns mainGlobals mg
section
variable {K : PySem.W.Frag} {mg : Str → Option Value}
theorem Tx.glo (T : Tx K mg) (i : Nat) {x : Str} (h : glos[i]? = some x := by rfl) : mg x = some (.ref (He.ga K x)) := by
  obtain ⟨hp, X, G⟩ := T.heap
  exact He.glo_ok X G (T.says.facts (List.mem_append_left _ (List.mem_map.mpr ⟨x, List.mem_of_getElem? h, rfl⟩)))
theorem Tx.free (T : Tx K mg) (i : Nat) {x : Str} (h : frees[i]? = some x := by rfl) : mg x = none := by
  obtain ⟨hp, X, G⟩ := T.heap
  exact He.free_ok X G (T.says.facts (List.mem_append_right _ (List.mem_append_left _ (List.mem_map.mpr ⟨x, List.mem_of_getElem? h, rfl⟩))))
theorem Tx.f1 (T : Tx K mg) (i : Nat) {f : He.Fa} (h : fa1[i]? = some f := by rfl) : f.ok K = true := T.says.facts (List.mem_append_right _ (List.mem_append_right _ (List.mem_append_left _ (List.mem_of_getElem? h))))
theorem Tx.f2 (T : Tx K mg) (i : Nat) {f : He.Fa} (h : fa2[i]? = some f := by rfl) : f.ok K = true := T.says.facts (List.mem_append_right _ (List.mem_append_right _ (List.mem_append_right _ (List.mem_of_getElem? h))))
end
theorem fnAt0 {i : Nat} {d : He.DefD} (h : fn0[i]? = some d) : d ∈ fn := List.mem_append_left _ (List.mem_append_left _ (List.mem_of_getElem? h))
theorem fnAt1 {i : Nat} {d : He.DefD} (h : fn1[i]? = some d) : d ∈ fn := List.mem_append_left _ (List.mem_append_right _ (List.mem_of_getElem? h))
theorem fnAt2 {i : Nat} {d : He.DefD} (h : fn2[i]? = some d) : d ∈ fn := List.mem_append_right _ (List.mem_of_getElem? h)
abbrev FD (K : PySem.W.Frag) (d : He.DefD) (fd : FuncData) : Prop := FunD K d.name d.qual d.params d.body d.scope (d.dvs K) (d.kws K) (He.fAd K d.at_) fd
/-- a def that keeps its promise sp -/
structure Ok (P : Program) (w : World) (K : PySem.W.Frag) (mg : Str → Option Value) (base : Heap) (CX : CXT) (k : Nat) (f : Addr) (ps : List Str) (sp : Sp) : Prop where
  ex : ∃ fd, FnOk P w K mg base CX k f fd ps sp ∧ Binds K fd ps []
  kp : PySem.W.keepIn K (.ref f) = true
section
variable {P : Program} {w : World} {K : PySem.W.Frag} {mg : Str → Option Value} {base : Heap}
theorem Tx.def_ (T : Tx K mg) {d : He.DefD} (h : d ∈ fn) : ∃ fd, FD K d fd := T.says.defs h
/-- a def of no default, its body under the rules -/
theorem ok_of {d : He.DefD} (T : Tx K mg) (hd : d ∈ fn) (h0 : d.dvs K = []) (h1 : d.kws K = []) {CX : CXT} {N ps : List Str} {k : Nat} {sp : Sp} (S : FnScope N ps d.scope) (len : ∀ vs H Q E, sp vs H Q E → vs.length = ps.length)
    (hb : ∀ (kV doc pm : Value) (an : Option Addr) (cdv ct : Value) (us : List Value), us.length = ps.length → bindArgs (PySem.W.fnOf d.name d.qual d.params d.body d.scope .none kV doc pm an cdv ct) ⟨us, []⟩ = pure (ps.zip us))
    (hbody : ∀ (cdv : Value) (A : Around) (outer : List Env) (s : Shared) (H : Hp) (vs : List V) (Q : VK) (E : XK), Room k (A.deeper (envOfC d.qual d.scope s.heap.objs.size (He.fAd K d.at_) cdv)) → sp vs H Q E →
      ∃ t, PSs (cxOf CX P w K mg base N d.qual d.scope (He.fAd K d.at_) cdv A outer s H E) d.body t ∧ t { nx := fun _ H' => Q .non H', rt := Q } (start N vs) H) : Ok P w K mg base CX (k + 1) (He.fAd K d.at_) ps sp := by
  obtain ⟨fd, F⟩ := T.def_ hd
  have F' : FunD K d.name d.qual d.params d.body d.scope [] (d.kws K) (He.fAd K d.at_) fd := by
    have q : FunD K d.name d.qual d.params d.body d.scope (d.dvs K) (d.kws K) (He.fAd K d.at_) fd := F
    rw [h0] at q; exact q
  exact ⟨⟨fd, F.ok S len hbody, F'.bindsN hb⟩, F.kp⟩
end
/-! ### calls -/
section
variable {X : Cx} {CX : CXT} {k : Nat} {ps : List Str} {sp : Sp} {E : XK} {x m : Str} {p pos apos : Pos} {e o : Expr} {es : List Expr} {ta : TE} {t : TA}
/-- f(e, ..) -/
theorem pc (O : Ok X.prog X.w X.K X.mg X.base CX k (He.ga X.K x) ps sp) (hr : Room k X.A) (hm : X.mg x = some (.ref (He.ga X.K x))) (hx : Passes CX X E) (ha : PA X (e :: es) t) (hg : Gl X x := by rfl)
    (hdb : (x == ("__debug__" : Str)) = false := by decide) (he : starEach (e :: es) X.env = (false, eval e X.env) :: starEach es X.env := by rfl) (hpl : (backTo pos (starEach es X.env)).any (·.1) = false := by rfl) :
    PE X (.Call (.Name x p) (e :: es) [] pos) (tCall sp [] E t) := by
  obtain ⟨fd, F, b⟩ := O.ex
  exact pe_call F hr hg hm O.kp b .nil hx ha hdb he hpl
theorem pc0 (O : Ok X.prog X.w X.K X.mg X.base CX k (He.ga X.K x) ps sp) (hr : Room k X.A) (hm : X.mg x = some (.ref (He.ga X.K x))) (hx : Passes CX X E) (hg : Gl X x := by rfl)
    (hdb : (x == ("__debug__" : Str)) = false := by decide) : PE X (.Call (.Name x p) [] [] pos) (tCall sp [] E tNil) := by
  obtain ⟨fd, F, b⟩ := O.ex
  exact pe_call0 F hr hg hm O.kp b .nil hx hdb
end
/-! ### data -/
abbrev It (q : List Nat) : List V := q.map fun (n : Nat) => V.int (n : Int)
/-- this value is a tuple of these -/
def Tp (H : Hp) (v : V) (q : List Nat) : Prop := ∃ p, v = .ref p ∧ H p = some (.tup (It q))
def TpAll (H : Hp) : List V → List (List Nat) → Prop
  | [], [] => True
  | v :: vs, q :: qs => Tp H v q ∧ TpAll H vs qs
  | _, _ => False
/-- a list of tuples stands at a -/
def TL (H : Hp) (a : Addr) (qs : List (List Nat)) : Prop := ∃ vs, H a = some (.lst vs) ∧ TpAll H vs qs
abbrev jl (j : Nat × Nat) : List Nat := [j.1, j.2]
/-- tuples stay -/
def Tk (H H' : Hp) : Prop := ∀ b xs, H b = some (.tup xs) → H' b = some (.tup xs)
section
variable {H H' : Hp} {v : V} {q : List Nat} {vs : List V} {qs : List (List Nat)} {a : Addr}
theorem Tp.keep (k : Tk H H') (h : Tp H v q) : Tp H' v q := let ⟨p, e, z⟩ := h; ⟨p, e, k _ _ z⟩
theorem TpAll.keep (k : Tk H H') : ∀ {vs : List V} {qs : List (List Nat)}, TpAll H vs qs → TpAll H' vs qs
  | [], [], _ => trivial
  | _ :: _, _ :: _, ⟨h, r⟩ => ⟨h.keep k, r.keep k⟩
theorem TpAll.len : ∀ {vs : List V} {qs : List (List Nat)}, TpAll H vs qs → vs.length = qs.length
  | [], [], _ => rfl
  | _ :: _, _ :: _, ⟨_, r⟩ => congrArg (· + 1) r.len
theorem TpAll.snoc (h : Tp H v q) : ∀ {vs : List V} {qs : List (List Nat)}, TpAll H vs qs → TpAll H (vs ++ [v]) (qs ++ [q])
  | [], [], _ => ⟨h, trivial⟩
  | _ :: _, _ :: _, ⟨z, r⟩ => ⟨z, TpAll.snoc h r⟩
theorem TpAll.app : ∀ {vs ws : List V} {qs rs : List (List Nat)}, TpAll H vs qs → TpAll H ws rs → TpAll H (vs ++ ws) (qs ++ rs)
  | [], _, [], _, _, h => h
  | _ :: _, _, _ :: _, _, ⟨z, r⟩, h => ⟨z, TpAll.app r h⟩
theorem TpAll.get : ∀ {vs : List V} {qs : List (List Nat)} {i : Nat} {v : V}, TpAll H vs qs → vs[i]? = some v → ∃ q, qs[i]? = some q ∧ Tp H v q
  | [], [], i, v, _, e => by simp at e
  | _ :: _, _ :: _, 0, _, ⟨h, _⟩, e => by cases e; exact ⟨_, rfl, h⟩
  | _ :: _, _ :: _, i + 1, _, ⟨_, r⟩, e => r.get (i := i) e
theorem TpAll.at_ : ∀ {vs : List V} {qs : List (List Nat)} {i : Nat} {q : List Nat}, TpAll H vs qs → qs[i]? = some q → ∃ v, vs[i]? = some v ∧ Tp H v q
  | [], [], i, v, _, e => by simp at e
  | _ :: _, _ :: _, 0, _, ⟨h, _⟩, e => by cases e; exact ⟨_, rfl, h⟩
  | _ :: _, _ :: _, i + 1, _, ⟨_, r⟩, e => r.at_ (i := i) e
theorem TpAll.take : ∀ {vs : List V} {qs : List (List Nat)} (n : Nat), TpAll H vs qs → TpAll H (vs.take n) (qs.take n)
  | [], [], n, _ => by simp [TpAll]
  | _ :: _, _ :: _, 0, _ => trivial
  | _ :: _, _ :: _, n + 1, ⟨h, r⟩ => ⟨h, r.take n⟩
theorem TpAll.drop : ∀ {vs : List V} {qs : List (List Nat)} (n : Nat), TpAll H vs qs → TpAll H (vs.drop n) (qs.drop n)
  | [], [], n, _ => by simp [TpAll]
  | _ :: _, _ :: _, 0, h => h
  | _ :: _, _ :: _, n + 1, ⟨h, r⟩ => r.drop n
theorem Same.tk (k : Same H H') : Tk H H' := fun b xs e => k b _ e
theorem TL.same (k : Same H H') (h : TL H a qs) : TL H' a qs := let ⟨vs, e, z⟩ := h; ⟨vs, k _ _ e, z.keep (Same.tk k)⟩
end
/-! ### the feed -/
def Fd (H : Hp) (f : Addr) : Prop := ∃ d s : Int, H f = some (.lst [.int d, .int s]) ∧ 0 ≤ d ∧ 0 ≤ s ∧ s < 2305843009213693951
/-- but for f all stands as it stood -/
structure Go (f : Addr) (H H' : Hp) : Prop where
  kp : ∀ b o, b ≠ f → H b = some o → H' b = some o
  fd : Fd H' f
section
variable {H H' H2 : Hp} {f a : Addr} {qs : List (List Nat)} {v : V} {q : List Nat}
theorem Go.trans (x : Go f H H') (y : Go f H' H2) : Go f H H2 := ⟨fun b o n e => y.kp b o n (x.kp b o n e), y.fd⟩
theorem Fd.same (h : Fd H f) (k : Same H H') : Fd H' f := let ⟨d, s, e, r⟩ := h; ⟨d, s, k _ _ e, r⟩
theorem Go.of (h : Fd H f) (k : Same H H') : Go f H H' := ⟨fun b o _ e => k b o e, h.same k⟩
theorem Go.refl (h : Fd H f) : Go f H H := .of h (Same.refl H)
theorem Go.tk (h : Fd H f) (g : Go f H H') : Tk H H' := fun b xs e => g.kp b _ (fun z => by
  obtain ⟨d, s, e', _⟩ := h
  subst z
  rw [e] at e'; cases e') e
theorem TL.go (h : Fd H f) (g : Go f H H') (x : TL H a qs) : TL H' a qs := by
  obtain ⟨vs, e, z⟩ := x
  refine ⟨vs, g.kp _ _ (fun y => ?_) e, z.keep (g.tk h)⟩
  obtain ⟨d, s, e', _⟩ := h
  subst y
  rw [e] at e'
  cases e'
  cases qs with
  | nil => exact z
  | cons q qs =>
    obtain ⟨⟨p, e2, _⟩, _⟩ := z
    cases e2
end
/-! ### data as the comparisons see it -/
abbrev td (q : List Nat) : PyData := .tuple (q.map fun (n : Nat) => PyData.int (n : Int))
theorem dp_ints {K : PySem.W.Frag} {H : Hp} : ∀ q : List Nat, DpAll K H (It q) (q.map fun (n : Nat) => PyData.int (n : Int))
  | [] => .nil
  | n :: q => .cons (.int _) (dp_ints q)
theorem Tp.dp {K : PySem.W.Frag} {H : Hp} {v : V} {q : List Nat} (h : Tp H v q) : Dp K H v (td q) := by
  obtain ⟨p, rfl, e⟩ := h
  exact .tup (.inl (.inl e)) (dp_ints q)
theorem TpAll.dp {K : PySem.W.Frag} {H : Hp} : ∀ {vs : List V} {qs : List (List Nat)}, TpAll H vs qs → DpAll K H vs (qs.map td)
  | [], [], _ => .nil
  | _ :: _, _ :: _, ⟨h, r⟩ => .cons h.dp r.dp
theorem TL.dp {K : PySem.W.Frag} {H : Hp} {a : Addr} {qs : List (List Nat)} (h : TL H a qs) : Dp K H (.ref a) (.list (qs.map td)) := by
  obtain ⟨vs, e, z⟩ := h
  exact .lst (.inl (.inl e)) z.dp
theorem eqv_ints : ∀ q r : List Nat, PyData.eqvAll (q.map fun (n : Nat) => PyData.int (n : Int)) (r.map fun (n : Nat) => PyData.int (n : Int)) = decide (q = r)
  | [], [] => rfl
  | [], _ :: _ => by simp [PyData.eqvAll]
  | _ :: _, [] => by simp [PyData.eqvAll]
  | n :: q, m :: r => by
    rw [List.map_cons, List.map_cons, PyData.eqvAll, eqv_ints q r]
    show (((n : Int) == (m : Int)) && decide (q = r)) = _
    by_cases e : n = m
    · subst e
      simp
    · have h1 : ((n : Int) == (m : Int)) = false := beq_eq_false_iff_ne.mpr (by omega)
      rw [h1]
      simp [e]
theorem eqv_td (q r : List Nat) : PyData.eqv (td q) (td r) = decide (q = r) := by
  show PyData.eqv (.tuple _) (.tuple _) = _
  rw [PyData.eqv, eqv_ints]
theorem eqv_tds : ∀ q r : List (List Nat), PyData.eqvAll (q.map td) (r.map td) = decide (q = r)
  | [], [] => rfl
  | [], _ :: _ => by simp [PyData.eqvAll]
  | _ :: _, [] => by simp [PyData.eqvAll]
  | n :: q, m :: r => by
    rw [List.map_cons, List.map_cons, PyData.eqvAll, eqv_tds q r, eqv_td]
    by_cases e : n = m
    · subst e
      simp
    · simp [e]
theorem any_td (qs : List (List Nat)) (q : List Nat) : ((qs.map td).any fun z => PyData.eqv z (td q)) = decide (q ∈ qs) := by
  induction qs with
  | nil => simp
  | cons r qs ih =>
    rw [List.map_cons, List.any_cons, ih, eqv_td]
    by_cases e : r = q
    · subst e; simp
    · have e' : ¬ q = r := fun z => e z.symm
      simp [e, e']
theorem depth_ints : ∀ q : List Nat, PyData.depthAll (q.map fun (n : Nat) => PyData.int (n : Int)) = 0
  | [] => by simp [PyData.depthAll]
  | n :: q => by simp [PyData.depthAll, PyData.depth, depth_ints q]
theorem lay_ints : ∀ q : List Nat, PyData.canLayAll0 (q.map fun (n : Nat) => PyData.int (n : Int)) = true
  | [] => by simp [PyData.canLayAll0]
  | n :: q => by simp [PyData.canLayAll0, PyData.canLay0, lay_ints q]
theorem depth_tds : ∀ q : List (List Nat), PyData.depthAll (q.map td) ≤ 1
  | [] => by simp [PyData.depthAll]
  | n :: q => by
    have := depth_tds q
    simp only [List.map_cons, PyData.depthAll, td, PyData.depth, depth_ints]
    omega
theorem lay_tds : ∀ q : List (List Nat), PyData.canLayAll0 (q.map td) = true
  | [] => by simp [PyData.canLayAll0]
  | n :: q => by simp [PyData.canLayAll0, PyData.canLay0, lay_ints, lay_tds q]
theorem shaped_td (q : List Nat) : SeqAt.shaped (td q) = true := by
  show (PyData.canLay0 (.tuple _) && decide (PyData.depth (.tuple _) ≤ 64)) = true
  rw [Bool.and_eq_true]
  refine ⟨by simp only [PyData.canLay0]; exact lay_ints q, decide_eq_true ?_⟩
  simp only [PyData.depth, depth_ints]
  omega
theorem shaped_tds (q : List (List Nat)) : SeqAt.shaped (.list (q.map td)) = true := by
  show (PyData.canLay0 (.list _) && decide (PyData.depth (.list _) ≤ 64)) = true
  rw [Bool.and_eq_true]
  refine ⟨by simp only [PyData.canLay0]; exact lay_tds q, decide_eq_true ?_⟩
  have := depth_tds q
  simp only [PyData.depth]
  omega
end Rl

set_option Elab.async false
set_option linter.all false
set_option maxRecDepth 100000
set_option maxHeartbeats 1000000
/-! D1a: comprehensions by what they keep. -/
namespace Rl
open PySem PySem.Spec PyProof.Rows L2
/-- but for F all stands as it stood -/
def Kp (F : Addr → Prop) (H H' : Hp) : Prop := ∀ b o, ¬ F b → H b = some o → H' b = some o
theorem Kp.refl {F : Addr → Prop} (H : Hp) : Kp F H H := fun _ _ _ e => e
theorem Kp.trans {F : Addr → Prop} {H H1 H2 : Hp} (x : Kp F H H1) (y : Kp F H1 H2) : Kp F H H2 := fun b o n e => y b o n (x b o n e)
abbrev No : Addr → Prop := fun _ => False
theorem Kp.same {H H' : Hp} (x : Kp No H H') : Same H H' := fun b o e => x b o id e
theorem Same.kp {F : Addr → Prop} {H H' : Hp} (x : Same H H') : Kp F H H' := fun b o _ e => x b o e
theorem Kp.upd {F : Addr → Prop} {H H' : Hp} {p : Addr} {o : HO} (x : Kp F H H') (n : H p = none) : Kp F H (L2.upd H' p o) := fun b u nb e => by
  rw [upd_ne (ne_of_none e n)]; exact x b u nb e
theorem Same.upd {H H' : Hp} {p : Addr} {o : HO} (x : Same H H') (n : H p = none) : Same H (L2.upd H' p o) := fun b u e => by
  rw [upd_ne (ne_of_none e n)]; exact x b u e
theorem Same.new {H : Hp} {p : Addr} {o : HO} (n : H p = none) : Same H (L2.upd H p o) := Same.upd (Same.refl H) n
theorem Go.kp' {f : Addr} {H H' : Hp} (g : Go f H H') : Kp (· = f) H H' := fun b o n e => g.kp b o n e
theorem Kp.go {f : Addr} {H H' : Hp} (k : Kp (· = f) H H') (h : Fd H' f) : Go f H H' := ⟨fun b o n e => k b o n e, h⟩

section
variable {K : PySem.W.Frag} {a D : Addr} {xs : List V} {g : TG} {tt : TT} {te : TE} {vs : List Nat} {σ : L2.St} {H1 : Hp} {Qd : Hp → Prop}
/-- one turn of a comprehension: with acc made, at H'; it gives an item (Ny) or none (Nn) -/
def LcTurn (F : Addr → Prop) (J : Hp → Prop) (P : Nat → List V → Hp → Prop) (H1 : Hp) (D : Addr) (g : TG) (tt : TT) (te : TE) (vs : List Nat) (σ : L2.St) (i : Nat) (x : V) : Prop :=
  ∀ (acc : List V) (H' : Hp) (Ny : V → Hp → Prop) (Nn : Hp → Prop), Kp F H1 H' → J H' → H' D = some (.lst acc) → P i acc H' →
    (∀ y H4, H4 D = some (.lst acc) → Kp F H1 H4 → J H4 → P (i + 1) (acc ++ [y]) (upd H4 D (.lst (acc ++ [y]))) → Ny y H4) → (∀ H3, H3 D = some (.lst acc) → Kp F H1 H3 → J H3 → P (i + 1) acc H3 → Nn H3) →
    g x (wipe σ vs) H' fun σ2 H2 => wipe σ2 vs = wipe σ vs ∧ tt σ2 H2 fun b H3 => if b = true then te σ2 H3 Ny else Nn H3
theorem lc_listK (F : Addr → Prop) (J : Hp → Prop) (P : Nat → List V → Hp → Prop) (hD : H1 D = none) (hz : xs.length < sizeLine) (hJ0 : J H1) (hJ : ∀ H l, J H → J (upd H D (.lst l))) (hP0 : P 0 [] (upd H1 D (.lst [])))
    (stay : ∀ H', Kp F H1 H' → J H' → SqL K H' a xs) (turn : ∀ i x, xs[i]? = some x → LcTurn F J P H1 D g tt te vs σ i x) (done : ∀ acc H', Kp F H1 H' → J H' → H' D = some (.lst acc) → P xs.length acc H' → Qd H') :
    ∃ W : Nat → Nat → Hp → Prop, (∃ m, W 0 m (upd H1 D (.lst []))) ∧ ∀ i m H, W i m H →
      ((Itl K a).stop i H ∧ Qd H) ∨ ((Itl K a).go i H ∧ ∃ Nx : Hp → Prop, (∀ H', Nx H' → ∃ m', m' < m ∧ W (i + 1) m' H') ∧ ∀ x H', (Itl K a).yld i H x H' → g x (wipe σ vs) H' fun σ2 H2 => wipe σ2 vs = wipe σ vs ∧ tt σ2 H2 fun b H3 =>
        if b = true then te σ2 H3 fun y H4 => ∃ acc, H4 D = some (.lst acc) ∧ acc.length < sizeLine ∧ Nx (upd H4 D (.lst (acc ++ [y]))) else Nx H3) := by
  have kn : ∀ {H' : Hp} {l : List V}, Kp F H1 H' → Kp F H1 (upd H' D (.lst l)) := fun k => k.upd hD
  refine lc_list (xs := xs) (fun i H' => ∃ acc, Kp F H1 H' ∧ J H' ∧ H' D = some (.lst acc) ∧ acc.length ≤ i ∧ P i acc H') ⟨[], kn (Kp.refl H1), hJ _ _ hJ0, upd_same, Nat.le_refl _, hP0⟩ (fun i H' _ ⟨acc, k, j, _⟩ => stay H' k j) ?_ (fun H' ⟨acc, k, j, e, _, p⟩ => done acc H' k j e p)
  rintro i x H' hx ⟨acc, k, j, e, hl, p⟩
  have hi := (List.getElem?_eq_some_iff.mp hx).1
  exact turn i x hx acc H' _ _ k j e p (fun y H4 e4 k4 j4 p4 => ⟨acc, e4, by omega, acc ++ [y], kn k4, hJ _ _ j4, upd_same, by rw [List.length_append, List.length_singleton]; omega, p4⟩) fun H3 e3 k3 j3 p3 => ⟨acc, k3, j3, e3, by omega, p3⟩
theorem lc_tupK (F : Addr → Prop) (J : Hp → Prop) (P : Nat → List V → Hp → Prop) (hD : H1 D = none) (hz : xs.length < sizeLine) (hJ0 : J H1) (hJ : ∀ H l, J H → J (upd H D (.lst l))) (hP0 : P 0 [] (upd H1 D (.lst [])))
    (stay : ∀ H', Kp F H1 H' → J H' → SqT K H' a xs) (turn : ∀ i x, xs[i]? = some x → LcTurn F J P H1 D g tt te vs σ i x) (done : ∀ acc H', Kp F H1 H' → J H' → H' D = some (.lst acc) → P xs.length acc H' → Qd H') :
    ∃ W : Nat → Nat → Hp → Prop, (∃ m, W 0 m (upd H1 D (.lst []))) ∧ ∀ i m H, W i m H →
      ((Itt K a).stop i H ∧ Qd H) ∨ ((Itt K a).go i H ∧ ∃ Nx : Hp → Prop, (∀ H', Nx H' → ∃ m', m' < m ∧ W (i + 1) m' H') ∧ ∀ x H', (Itt K a).yld i H x H' → g x (wipe σ vs) H' fun σ2 H2 => wipe σ2 vs = wipe σ vs ∧ tt σ2 H2 fun b H3 =>
        if b = true then te σ2 H3 fun y H4 => ∃ acc, H4 D = some (.lst acc) ∧ acc.length < sizeLine ∧ Nx (upd H4 D (.lst (acc ++ [y]))) else Nx H3) := by
  have kn : ∀ {H' : Hp} {l : List V}, Kp F H1 H' → Kp F H1 (upd H' D (.lst l)) := fun k => k.upd hD
  refine lc_tup (xs := xs) (fun i H' => ∃ acc, Kp F H1 H' ∧ J H' ∧ H' D = some (.lst acc) ∧ acc.length ≤ i ∧ P i acc H') ⟨[], kn (Kp.refl H1), hJ _ _ hJ0, upd_same, Nat.le_refl _, hP0⟩ (fun i H' _ ⟨acc, k, j, _⟩ => stay H' k j) ?_ (fun H' ⟨acc, k, j, e, _, p⟩ => done acc H' k j e p)
  rintro i x H' hx ⟨acc, k, j, e, hl, p⟩
  have hi := (List.getElem?_eq_some_iff.mp hx).1
  exact turn i x hx acc H' _ _ k j e p (fun y H4 e4 k4 j4 p4 => ⟨acc, e4, by omega, acc ++ [y], kn k4, hJ _ _ j4, upd_same, by rw [List.length_append, List.length_singleton]; omega, p4⟩) fun H3 e3 k3 j3 p3 => ⟨acc, k3, j3, e3, by omega, p3⟩
theorem lc_rangeK {lo : Int} {n : Nat} (F : Addr → Prop) (J : Hp → Prop) (P : Nat → List V → Hp → Prop) (hD : H1 D = none) (hz : n < sizeLine) (hJ0 : J H1) (hJ : ∀ H l, J H → J (upd H D (.lst l))) (hP0 : P 0 [] (upd H1 D (.lst [])))
    (turn : ∀ (i : Nat), i < n → LcTurn F J P H1 D g tt te vs σ i (.int (lo + i))) (done : ∀ acc H', Kp F H1 H' → J H' → H' D = some (.lst acc) → P n acc H' → Qd H') :
    ∃ W : Nat → Nat → Hp → Prop, (∃ m, W 0 m (upd H1 D (.lst []))) ∧ ∀ i m H, W i m H →
      ((Itr lo n).stop i H ∧ Qd H) ∨ ((Itr lo n).go i H ∧ ∃ Nx : Hp → Prop, (∀ H', Nx H' → ∃ m', m' < m ∧ W (i + 1) m' H') ∧ ∀ x H', (Itr lo n).yld i H x H' → g x (wipe σ vs) H' fun σ2 H2 => wipe σ2 vs = wipe σ vs ∧ tt σ2 H2 fun b H3 =>
        if b = true then te σ2 H3 fun y H4 => ∃ acc, H4 D = some (.lst acc) ∧ acc.length < sizeLine ∧ Nx (upd H4 D (.lst (acc ++ [y]))) else Nx H3) := by
  have kn : ∀ {H' : Hp} {l : List V}, Kp F H1 H' → Kp F H1 (upd H' D (.lst l)) := fun k => k.upd hD
  refine lc_range (fun i H' => ∃ acc, Kp F H1 H' ∧ J H' ∧ H' D = some (.lst acc) ∧ acc.length ≤ i ∧ P i acc H') ⟨[], kn (Kp.refl H1), hJ _ _ hJ0, upd_same, Nat.le_refl _, hP0⟩ ?_ (fun H' ⟨acc, k, j, e, _, p⟩ => done acc H' k j e p)
  rintro i H' hi ⟨acc, k, j, e, hl, p⟩
  exact turn i hi acc H' _ _ k j e p (fun y H4 e4 k4 j4 p4 => ⟨acc, e4, by omega, acc ++ [y], kn k4, hJ _ _ j4, upd_same, by rw [List.length_append, List.length_singleton]; omega, p4⟩) fun H3 e3 k3 j3 p3 => ⟨acc, k3, j3, e3, by omega, p3⟩
end

/-! ### the list so far, when what is walked is filtered -/
section
variable {α : Type} {rep : α → List Nat} {f : α → Bool} {xs : List α} {i : Nat} {x : α} {acc : List V} {H : Hp} {D : Addr} {v : V} {o : HO}
theorem Tk.updL {H : Hp} {D : Addr} {l l' : List V} (eD : H D = some (.lst l)) : Tk H (upd H D (.lst l')) := fun b ys e => by
  rw [upd_ne (fun z => by rw [z, eD] at e; cases e)]; exact e
theorem filt_yes (ej : xs[i]? = some x) (h : f x = true) (eD : H D = some (.lst acc)) (hP : TpAll H acc (((xs.take i).filter f).map rep)) (hp : Tp H v (rep x)) : TpAll (upd H D (.lst (acc ++ [v]))) (acc ++ [v]) (((xs.take (i + 1)).filter f).map rep) := by
  have e : (xs.take (i + 1)).filter f = (xs.take i).filter f ++ [x] := by
    rw [List.take_add_one, ej, List.filter_append]
    simp [h]
  rw [e, List.map_append]
  exact TpAll.snoc (hp.keep (Tk.updL eD)) (hP.keep (Tk.updL eD))
theorem filt_no (ej : xs[i]? = some x) (h : f x = false) (hP : TpAll H acc (((xs.take i).filter f).map rep)) : TpAll H acc (((xs.take (i + 1)).filter f).map rep) := by
  have e : (xs.take (i + 1)).filter f = (xs.take i).filter f := by
    rw [List.take_add_one, ej, List.filter_append]
    simp [h]
  rw [e]; exact hP
theorem map_step (ej : xs[i]? = some x) (eD : H D = some (.lst acc)) (hP : TpAll H acc ((xs.take i).map rep)) (hp : Tp H v (rep x)) : TpAll (upd H D (.lst (acc ++ [v]))) (acc ++ [v]) ((xs.take (i + 1)).map rep) := by
  have e : xs.take (i + 1) = xs.take i ++ [x] := by rw [List.take_add_one, ej]; rfl
  rw [e, List.map_append]
  exact TpAll.snoc (hp.keep (Tk.updL eD)) (hP.keep (Tk.updL eD))
/-- an item of a list of tuples -/
theorem TpAll.item {vs : List V} (h : TpAll H vs (xs.map rep)) (e : vs[i]? = some v) : ∃ x, xs[i]? = some x ∧ Tp H v (rep x) := by
  obtain ⟨q, hq, hp⟩ := h.get e
  rw [List.getElem?_map] at hq
  cases ej : xs[i]? with
  | none => rw [ej] at hq; cases hq
  | some x => rw [ej] at hq; cases hq; exact ⟨x, rfl, hp⟩
theorem TpAll.lenm {vs : List V} (h : TpAll H vs (xs.map rep)) : vs.length = xs.length := by rw [h.len, List.length_map]
theorem none_of {H H' : Hp} {D : Addr} (k : Same H H') (h : H' D = none) : H D = none := by
  cases e : H D with
  | none => rfl
  | some o => rw [k _ _ e] at h; cases h
end
end Rl

set_option Elab.async false
set_option linter.all false
set_option maxRecDepth 100000
set_option maxHeartbeats 1000000
/-! D2: is_integer, within, is_jump. -/
namespace Rl
open PySem PySem.Spec PyProof.Rows L2
section
variable {P : Program} {w : World} {K : PySem.W.Frag} {mg : Str → Option Value} {base : Heap}
/-! ### values by their data -/
def tyD : PyData → String
  | .none => "NoneType"
  | .bool _ => "bool"
  | .int _ => "int"
  | .str _ => "str"
  | .list _ => "list"
  | .tuple _ => "tuple"
  | .dict _ => "dict"
theorem tyx {H : Hp} {v : V} {d : PyData} (h : Dp K H v d) : TyX K H v (.type (tyD d)) := by
  cases h with
  | non => exact .base .non
  | bl b => exact .base (.bl b)
  | int i => exact .base (.int i)
  | str x => exact .base (.str x)
  | lst hs _ =>
    rcases hs with (z | ⟨o, z⟩) | ⟨o, its, n, z, c, _⟩
    · exact .base (.lst z)
    · exact .base (.frz z)
    · exact .kList z c
  | tup hs _ =>
    rcases hs with (z | ⟨o, z⟩) | ⟨o, its, n, z, c, _⟩
    · exact .base (.tup z)
    · exact .fTuple z
    · exact .kTuple z c
def intD : PyData → Bool
  | .int _ => true
  | _ => false
def withinD : PyData → Int → Int → Bool
  | .int i, lo, hi => decide (lo ≤ i) && decide (i ≤ hi)
  | _, _, _ => false
def jumpD : PyData → Int → Bool
  | .tuple [.int a, .int b], n => decide (0 ≤ a) && decide (a ≤ n - 1) && (decide (0 ≤ b) && decide (b ≤ n - 1)) && decide (a < b)
  | _, _ => false
def isIntD : PyData → Bool
  | .int _ => true
  | .bool _ => true
  | _ => false
def isBoolD : PyData → Bool
  | .bool _ => true
  | _ => false
def isTupD : PyData → Bool
  | .tuple _ => true
  | _ => false
theorem kitB_int (d : PyData) : kitB (tyD d) "int" = some (isIntD d) :=
  match d with
  | .none => (by decide +kernel : kitB "NoneType" "int" = some false)
  | .bool _ => (by decide +kernel : kitB "bool" "int" = some true)
  | .int _ => (by decide +kernel : kitB "int" "int" = some true)
  | .str _ => (by decide +kernel : kitB "str" "int" = some false)
  | .list _ => (by decide +kernel : kitB "list" "int" = some false)
  | .tuple _ => (by decide +kernel : kitB "tuple" "int" = some false)
  | .dict _ => (by decide +kernel : kitB "dict" "int" = some false)
theorem kitB_bool (d : PyData) : kitB (tyD d) "bool" = some (isBoolD d) :=
  match d with
  | .none => (by decide +kernel : kitB "NoneType" "bool" = some false)
  | .bool _ => (by decide +kernel : kitB "bool" "bool" = some true)
  | .int _ => (by decide +kernel : kitB "int" "bool" = some false)
  | .str _ => (by decide +kernel : kitB "str" "bool" = some false)
  | .list _ => (by decide +kernel : kitB "list" "bool" = some false)
  | .tuple _ => (by decide +kernel : kitB "tuple" "bool" = some false)
  | .dict _ => (by decide +kernel : kitB "dict" "bool" = some false)
theorem kitB_tuple (d : PyData) : kitB (tyD d) "tuple" = some (isTupD d) :=
  match d with
  | .none => (by decide +kernel : kitB "NoneType" "tuple" = some false)
  | .bool _ => (by decide +kernel : kitB "bool" "tuple" = some false)
  | .int _ => (by decide +kernel : kitB "int" "tuple" = some false)
  | .str _ => (by decide +kernel : kitB "str" "tuple" = some false)
  | .list _ => (by decide +kernel : kitB "list" "tuple" = some false)
  | .tuple _ => (by decide +kernel : kitB "tuple" "tuple" = some true)
  | .dict _ => (by decide +kernel : kitB "dict" "tuple" = some false)

/-! ### is_integer -/
def sp_is_integer (K : PySem.W.Frag) : Sp := fun vs H Q _ => ∃ v d, vs = [v] ∧ Dp K H v d ∧ Q (.bl (intD d)) H
theorem sc_is_integer : FnScope ["value"] ["value"] (defScope s_is_integer) := ⟨rfl, rfl, rfl, by decide +kernel, rfl, by decide +kernel, by decide +kernel⟩
theorem ok_is_integer (T : Tx K mg) : Ok P w K mg base CX0 1 (He.ga K "is_integer") ["value"] (sp_is_integer K) := by
  refine ok_of (d := d_is_integer) T (fnAt0 (i := 0) rfl) rfl rfl sc_is_integer (fun vs H Q E h => ?_) (fun _ _ _ _ _ _ us hl => match us, hl with | [_], _ => rfl) fun cdv A outer s H vs Q E hr h => ?_
  · obtain ⟨v, d, rfl, _⟩ := h; rfl
  obtain ⟨v, d, rfl, hd, q⟩ := h
  refine ⟨_, PSs.nox (pss_one (ps_ret (pe_and (pe_callB call_isi (by rfl) (T.free 6) (by decide +kernel) (pa_cons (pv 0) (pa_cons (pe_bltn (v := .ty "int") (by rfl) (T.free 4) boot_int rfl) pa_nil)))
    (pe_one (pe_not (pe_callB call_isi (by rfl) (T.free 6) (by decide +kernel) (pa_cons (pv 0) (pa_cons (pe_bltn (v := .ty "bool") (by rfl) (T.free 8) (by decide +kernel) rfl) pa_nil)))))))), ?_⟩
  refine ⟨_, rfl, v, .ty "int", _, _, _, rfl, .ty _, tyx hd, kit_ty (kitB_int d), _, rfl, ?_⟩
  cases d with
  | int i => exact iteT ⟨_, rfl, v, .ty "bool", _, _, _, rfl, .ty _, tyx hd, kit_ty (kitB_bool _), _, rfl, q⟩
  | bool i => exact iteT ⟨_, rfl, v, .ty "bool", _, _, _, rfl, .ty _, tyx hd, kit_ty (kitB_bool _), _, rfl, q⟩
  | _ => exact iteF q

/-! ### within -/
def sp_within (K : PySem.W.Frag) : Sp := fun vs H Q _ => ∃ v d lo hi, vs = [v, .int lo, .int hi] ∧ Dp K H v d ∧ Q (.bl (withinD d lo hi)) H
theorem sc_within : FnScope ["value", "low", "high"] ["value", "low", "high"] (defScope s_within) := ⟨rfl, rfl, rfl, by decide +kernel, rfl, by decide +kernel, by decide +kernel⟩
theorem ok_within (T : Tx K mg) : Ok P w K mg base CX0 2 (He.ga K "within") ["value", "low", "high"] (sp_within K) := by
  refine ok_of (d := d_within) T (fnAt0 (i := 1) rfl) rfl rfl sc_within (fun vs H Q E h => ?_) (fun _ _ _ _ _ _ us hl => match us, hl with | [_, _, _], _ => rfl) fun cdv A outer s H vs Q E hr h => ?_
  · obtain ⟨v, d, _, _, rfl, _⟩ := h; rfl
  obtain ⟨v, d, lo, hi, rfl, hd, q⟩ := h
  refine ⟨_, PSs.nox (pss_one (ps_ret (pe_and (pc (ok_is_integer T) hr (T.glo 0) pass0 (pa_cons (pv 0) pa_nil)) (pe_one (pe_chain op_le op_le (pv 1) (pv 0) (pv 2)))))), ?_⟩
  refine ⟨_, rfl, v, d, rfl, hd, _, rfl, ?_⟩
  cases d with
  | int i =>
    cases hd
    refine iteT ⟨_, rfl, _, rfl, _, _, rfl, rfl, _, rfl, ?_⟩
    refine ite2 (fun h1 => ⟨_, rfl, _, _, rfl, rfl, ?_⟩) fun h1 => ?_
    · have e : withinD (.int i) lo hi = decide (i ≤ hi) := by show (decide (lo ≤ i) && decide (i ≤ hi)) = _; rw [h1]; rfl
      rw [e] at q; exact q
    · have h1' : decide (lo ≤ i) = false := by simpa using h1
      have e : withinD (.int i) lo hi = false := by show (decide (lo ≤ i) && decide (i ≤ hi)) = _; rw [h1']; rfl
      rw [e] at q; exact q
  | _ => exact iteF q

/-! ### is_jump -/
def sp_is_jump (K : PySem.W.Frag) : Sp := fun vs H Q _ => ∃ v d n, vs = [v, .int n] ∧ Dp K H v d ∧ ∀ H', Same H H' → Q (.bl (jumpD d n)) H'
theorem sc_is_jump : FnScope ["value", "blocks", "block"] ["value", "blocks"] (defScope s_is_jump) := ⟨rfl, rfl, rfl, by decide +kernel, rfl, by decide +kernel, by decide +kernel⟩
theorem dpa_get {H : Hp} : ∀ {vs : List V} {ds : List PyData} {i : Nat} {v : V}, DpAll K H vs ds → vs[i]? = some v → ∃ d, ds[i]? = some d ∧ Dp K H v d
  | _, _, i, v, .nil, e => by simp at e
  | _, _, 0, v, .cons h _, e => by cases e; exact ⟨_, rfl, h⟩
  | _, _, i + 1, v, .cons _ r, e => dpa_get (i := i) r e
theorem dpa_len {H : Hp} : ∀ {vs : List V} {ds : List PyData}, DpAll K H vs ds → vs.length = ds.length
  | _, _, .nil => rfl
  | _, _, .cons _ r => congrArg (· + 1) (dpa_len r)
mutual
theorem dp_same {H H' : Hp} (k : Same H H') : ∀ {v : V} {d : PyData}, Dp K H v d → Dp K H' v d
  | _, _, .non => .non
  | _, _, .bl b => .bl b
  | _, _, .int i => .int i
  | _, _, .str x => .str x
  | _, _, .lst h r => .lst (k.seq h) (dpa_same k r)
  | _, _, .tup h r => .tup (by
    rcases h with (z | ⟨o, z⟩) | z
    · exact .inl (.inl (k _ _ z))
    · exact .inl (.inr ⟨o, k _ _ z⟩)
    · exact .inr z) (dpa_same k r)
theorem dpa_same {H H' : Hp} (k : Same H H') : ∀ {vs : List V} {ds : List PyData}, DpAll K H vs ds → DpAll K H' vs ds
  | _, _, .nil => .nil
  | _, _, .cons h r => .cons (dp_same k h) (dpa_same k r)
end
theorem ok_is_jump (T : Tx K mg) : Ok P w K mg base CX0 3 (He.ga K "is_jump") ["value", "blocks"] (sp_is_jump K) := by
  refine ok_of (d := d_is_jump) T (fnAt0 (i := 2) rfl) rfl rfl sc_is_jump (fun vs H Q E h => ?_) (fun _ _ _ _ _ _ us hl => match us, hl with | [_, _], _ => rfl) fun cdv A outer s H vs Q E hr h => ?_
  · obtain ⟨v, d, _, rfl, _⟩ := h; rfl
  obtain ⟨v, d, n, rfl, hd, q⟩ := h
  refine ⟨_, PSs.nox (pss_cons (ps_if (PW.pt (pw_or (pt_not (pt_val (pe_callB call_isi (by rfl) (T.free 6) (by decide +kernel) (pa_cons (pv 0) (pa_cons (pe_bltn (v := .ty "tuple") (by rfl) (T.free 7) (by decide +kernel) rfl) pa_nil)))))
    (pw_or1 (pt_cmpR op_ne (pe_callB call_len_seq (by rfl) (T.free 0) boot_len (pa_cons (pv 0) pa_nil)) pe_int (nomark _))))) (pss_one (ps_ret pe_bl)) pss_nil)
    (pss_one (ps_ret (pe_and (pe_callB (cr_all rfl) (by rfl) (T.free 9) (by decide +kernel) (pa_cons (pe_lc (own := [("block", 2)]) (g := gName 2) (tt := tYes) rfl sc_is_jump.nd (pi_tup (pv 0)) (blkOk_by (N := ["value", "blocks", "block"]) (sc := defScope s_is_jump) (by decide +kernel))
      (fun _ _ _ _ _ => pg_name (i := 2) sc_is_jump.nd rfl (Or.inl rfl)) (fun _ _ _ _ _ => pts_nil) (fun _ _ _ _ _ => pc (ok_within T) hr (T.glo 1) pass0 (pa_cons (pv 2) (pa_cons pe_int (pa_cons (pe_op op_sub (pv 1) pe_int) pa_nil))))) pa_nil))
      (pe_one (pe_cmpR op_lt (pe_ix ix_tup (pv 0) pe_int (fun _ _ => rfl)) (pe_ix ix_tup (pv 0) pe_int (fun _ _ => rfl)) (nomark _))))))), ?_⟩
  refine ⟨_, rfl, v, .ty "tuple", _, _, _, rfl, .ty _, tyx hd, kit_ty (kitB_tuple d), _, rfl, ?_⟩
  cases d with
  | tuple ds =>
    cases hd with
    | @tup a xs _ hs ha =>
    refine iteF ⟨_, rfl, _, _, rfl, .inr hs, rfl, _, rfl, ?_⟩
    by_cases hl : xs.length = 2
    · have e2 : decide (V.int (xs.length : Int) = V.int 2) = true := by rw [hl]; decide
      rw [e2]
      refine iteF ?_
      obtain ⟨x0, x1, rfl⟩ : ∃ x0 x1, xs = [x0, x1] := by
        match xs, hl with
        | [x0, x1], _ => exact ⟨x0, x1, rfl⟩
      cases ha with
      | @cons _ _ d0 _ h0 ha =>
      cases ha with
      | @cons _ _ d1 _ h1 ha =>
      cases ha
      -- the comprehension
      refine ⟨_, rfl, a, rfl, ⟨_, hs⟩, fun D hD => lc_tupK (K := K) (a := a) (xs := [x0, x1]) No (fun _ => True) (fun i acc _ => acc = ([V.bl (withinD d0 0 (n - 1)), V.bl (withinD d1 0 (n - 1))].take i)) hD (show 2 < sizeLine by decide) trivial (fun _ _ _ => trivial) rfl (fun H' k _ => ?_) ?_ ?_⟩
      · rcases hs with (z | ⟨o, z⟩) | z
        · exact .inl (.inl (k.same _ _ z))
        · exact .inl (.inr ⟨o, k.same _ _ z⟩)
        · exact .inr z
      · rintro i x hx acc H' Ny Nn k _ e rfl hy hn
        refine ⟨rfl, ?_⟩
        match i, hx with
        | 0, hx =>
          cases hx
          exact ⟨_, rfl, _, rfl, _, _, rfl, rfl, x0, d0, 0, n - 1, rfl, dp_same k.same h0, hy _ _ e k trivial rfl⟩
        | 1, hx =>
          cases hx
          exact ⟨_, rfl, _, rfl, _, _, rfl, rfl, x1, d1, 0, n - 1, rfl, dp_same k.same h1, hy _ _ e k trivial rfl⟩
      · rintro acc H' k _ e rfl
        refine ⟨D, [withinD d0 0 (n - 1), withinD d1 0 (n - 1)], rfl, .inl (.inl e), _, rfl, ?_⟩
        have hq := q H' k.same
        have hs' : SqT K H' a [x0, x1] := by
          rcases hs with (z | ⟨o, z⟩) | z
          · exact .inl (.inl (k.same _ _ z))
          · exact .inl (.inr ⟨o, k.same _ _ z⟩)
          · exact .inr z
        refine ite2 (fun hb => ?_) fun hb => ?_
        · have hb' : withinD d0 0 (n - 1) = true ∧ withinD d1 0 (n - 1) = true := by simpa using hb
          obtain ⟨b0, b1⟩ := hb'
          match d0, d1, h0, h1, b0, b1, hq with
          | .int u, .int v, .int _, .int _, b0, b1, hq =>
            refine ⟨_, rfl, a, _, 0, _, rfl, rfl, hs', atI_nat (j := 0) rfl, _, rfl, a, _, 1, _, rfl, rfl, hs', atI_nat (j := 1) rfl, _, _, rfl, rfl, ?_⟩
            have e1 : jumpD (.tuple [.int u, .int v]) n = decide (u < v) := by
              have b0' : (decide (0 ≤ u) && decide (u ≤ n - 1)) = true := b0
              have b1' : (decide (0 ≤ v) && decide (v ≤ n - 1)) = true := b1
              show ((decide (0 ≤ u) && decide (u ≤ n - 1)) && (decide (0 ≤ v) && decide (v ≤ n - 1)) && decide (u < v)) = _
              rw [b0', b1']; rfl
            rw [e1] at hq
            exact hq
        · have hb' : (withinD d0 0 (n - 1) && withinD d1 0 (n - 1)) = false := by
            have hb2 : ¬ (withinD d0 0 (n - 1) = true ∧ withinD d1 0 (n - 1) = true) := by simpa using hb
            cases e0 : withinD d0 0 (n - 1) <;> cases e1 : withinD d1 0 (n - 1) <;> first | rfl | exact absurd ⟨e0, e1⟩ hb2
          have e1 : jumpD (.tuple [d0, d1]) n = false := by
            cases d0 with
            | int u =>
              cases d1 with
              | int v =>
                have hb3 : ((decide (0 ≤ u) && decide (u ≤ n - 1)) && (decide (0 ≤ v) && decide (v ≤ n - 1))) = false := hb'
                show ((decide (0 ≤ u) && decide (u ≤ n - 1)) && (decide (0 ≤ v) && decide (v ≤ n - 1)) && decide (u < v)) = _
                rw [hb3]; rfl
              | _ => rfl
            | _ => rfl
          rw [e1] at hq
          exact hq
    · have e2 : decide (V.int (xs.length : Int) = V.int 2) = false := decide_eq_false fun e => hl (by injection e; omega)
      rw [e2]
      have e1 : jumpD (.tuple ds) n = false := by
        have hl' : ds.length ≠ 2 := by rw [← dpa_len ha]; exact hl
        match ds, hl' with
        | [], _ => rfl
        | [_], _ => cases ‹PyData› <;> rfl
        | [_, _], h => exact absurd rfl h
        | a :: b :: c :: r, _ => cases a <;> cases b <;> rfl
      have hq := q H (Same.refl H)
      rw [e1] at hq
      exact hq
  | _ => exact iteT (iteT (q _ (Same.refl _)))
end
end Rl

set_option Elab.async false
set_option linter.all false
set_option maxRecDepth 100000
set_option maxHeartbeats 1000000
/-! D3z: list(zip(t, u)) of two tuples. -/
namespace Rl
open PySem PySem.Spec PyProof.Rows L2 GenW
section
variable {P : Program} {w : World} {A : Around} {E : Value → Shared → Prop} {s : Shared}
/-- next, while the tuple given out first is still there -/
theorem zipT_item_held {z TI TO T i1 i2 l1 l2 : Addr} {f : Bool} {oT : Obj} {k1 k2 : Nat} {xs ys : Array Value} {x y : Value} {Q : Option Value → Shared → Prop} (D : ZipApart z TI TO i1 i2 l1 l2)
    (hz : IsZipHeld s.heap z TI TO T f) (hT : s.heap.get? T = some oT) (hTI : IsPair s.heap TI (.ref i1) (.ref i2))
    (h1 : s.heap.IsTupleIter i1 l1 k1) (h2 : s.heap.IsTupleIter i2 l2 k2) (hl1 : s.heap.IsTuple l1 xs) (hl2 : s.heap.IsTuple l2 ys) (hx : xs[k1]? = some x) (hy : ys[k2]? = some y)
    (hQ : ∀ h', IsZipHeld h' z TI TO T true → h'.IsTupleIter i1 l1 (k1 + 1) → h'.IsTupleIter i2 l2 (k2 + 1) → IsPair h' s.heap.objs.size x y → h'.objs.size = s.heap.objs.size + 1 →
      (∀ c o, c ≠ z → c ≠ i1 → c ≠ i2 → s.heap.get? c = some o → h'.get? c = some o) → Q (some (.ref s.heap.objs.size)) { s with heap := h' }) :
    wpAny (model P w) A (pyNext (.ref z)) Q E s := by
  have hTy : s.TypeIs (.ref z) "zip" := ⟨_, hz, rfl⟩
  unfold pyNext
  refine wpAny_bind (wpAny_attempt (wpAny_callSpecial?_slot (name := Str.ofString "__next__") hTy PySem.F.slot_zip_next (wpAny_call_entry PySem.F.slot_zip_next hTy PySem.F.entry_zip_next ?_ (PySem.F.args_zip_next_1 _))))
  show wpAny _ _ (field (.ref z) 2 >>= _) _ _ _
  refine wpAny_bind (wpAny_field hz rfl (x := .bool false) rfl ?_)
  show wpAny _ _ (field (.ref z) 3 >>= _) _ _ _
  refine wpAny_bind (wpAny_field hz rfl (x := .ref TI) rfl ?_)
  refine wpAny_bind (wpAny_seqItems hTI rfl ?_)
  show wpAny _ _ (Builtin.SmallTypes.ownedTupleIsFree (.ref z) >>= _) _ _ _
  refine wpAny_bind (wpAny_tupleHeld_zip hz hT fun g1 hz1 hs1 => ?_)
  simp only [Bool.false_eq_true, if_false]
  refine wpAny_bind ?_
  rw [← Array.forIn_toList]
  simp only [List.forIn_cons, List.forIn_nil]
  refine wpAny_bind (wpAny_bind (wpAny_holding ?_))
  show wpAny _ _ (Builtin.SmallTypes.nextOf (.ref i1) >>= _) _ _ _
  refine wpAny_bind (RZ.nextOf_tuple_item (s := { s with heap := g1 }) (h1.extBut hs1.extBut D.i1z) (hl1.extBut hs1.extBut D.l1z) hx fun g2 h1b hs2 => wpAny_pure ?_)
  refine wpAny_pure ?_
  refine wpAny_bind (wpAny_bind (wpAny_holding ?_))
  show wpAny _ _ (Builtin.SmallTypes.nextOf (.ref i2) >>= _) _ _ _
  refine wpAny_bind (RZ.nextOf_tuple_item (s := { s with heap := g2 }) ((h2.extBut hs1.extBut D.i2z).extBut hs2.extBut D.i12.symm) ((hl2.extBut hs1.extBut D.l2z).extBut hs2.extBut D.l2i1) hy fun g3 h2c hs3 => wpAny_pure ?_)
  refine wpAny_pure (wpAny_pure ?_)
  show wpAny _ _ (newTuple [x, y] >>= _) _ _ _
  refine wpAny_bind (wpAny_newTuple ?_)
  have hsz : g3.objs.size = s.heap.objs.size := by rw [hs3.1, hs2.1, hs1.1]
  have hz3 : IsZipHeld g3 z TI TO T true := hs3.extBut _ _ D.i2z.symm (hs2.extBut _ _ D.i1z.symm hz1)
  have hk : ∀ c o, c ≠ z → c ≠ i1 → c ≠ i2 → s.heap.get? c = some o → g3.get? c = some o := fun c o c1 c2 c3 e => hs3.extBut _ _ c3 (hs2.extBut _ _ c2 (hs1.extBut _ _ c1 e))
  have h13 : g3.IsTupleIter i1 l1 (k1 + 1) := h1b.extBut hs3.extBut D.i12
  refine wpAny_pure ⟨_, rfl, ?_⟩
  have hp : IsPair (g3.push { cls := .type "tuple", data := .seq #[x, y] }) g3.objs.size x y := Heap.get?_push_size _ rfl
  have hz4 : (g3.push { cls := .type "tuple", data := .seq #[x, y] }).objs.size = g3.objs.size + 1 := Heap.size_push ..
  have q := hQ (g3.push { cls := .type "tuple", data := .seq #[x, y] }) (Heap.get?_push_of_some _ hz3) (let ⟨o, e, r⟩ := h13; ⟨o, Heap.get?_push_of_some _ e, r⟩) (let ⟨o, e, r⟩ := h2c; ⟨o, Heap.get?_push_of_some _ e, r⟩) (by rw [← hsz]; exact hp) (by rw [← hsz]; exact hz4)
    fun c o c1 c2 c3 e => Heap.get?_push_of_some _ (hk c o c1 c2 c3 e)
  rw [← hsz] at q
  exact wpAny_pure q
theorem zipT_end_held {z TI TO T i1 i2 l1 l2 : Addr} {f : Bool} {oT : Obj} {k1 k2 : Nat} {xs ys : Array Value} {Q : Option Value → Shared → Prop} (hh : A.handled = none) (D : ZipApart z TI TO i1 i2 l1 l2)
    (hz : IsZipHeld s.heap z TI TO T f) (hT : s.heap.get? T = some oT) (hTI : IsPair s.heap TI (.ref i1) (.ref i2))
    (h1 : s.heap.IsTupleIter i1 l1 k1) (h2 : s.heap.IsTupleIter i2 l2 k2) (hl1 : s.heap.IsTuple l1 xs) (hl2 : s.heap.IsTuple l2 ys) (hend : xs[k1]? = none ∨ ys[k2]? = none)
    (hQ : ∀ h', (∀ c o, c ≠ z → c ≠ i1 → c ≠ i2 → s.heap.get? c = some o → h'.get? c = some o) → Q none { s with heap := h' }) : wpAny (model P w) A (pyNext (.ref z)) Q E s := by
  have hTy : s.TypeIs (.ref z) "zip" := ⟨_, hz, rfl⟩
  have fin : ∀ h' e, (∀ c o, c ≠ z → c ≠ i1 → c ≠ i2 → s.heap.get? c = some o → h'.get? c = some o) → (∃ o, h'.get? e = some o ∧ o.cls = .type "StopIteration") →
      wpAny (model P w) A (isInstance (.ref e) (.type "StopIteration") >>= fun b => if b = true then (pure none : Sem (Option Value)) else throw (.ref e)) Q E { s with heap := h' } := fun h' e hk he => by
    obtain ⟨o, ho, hc⟩ := he
    refine wpAny_bind (wpAny_isInstance (T := "StopIteration") (b := true) ⟨o, ho, hc⟩ isSubtype_stop ?_)
    exact wpAny_pure (hQ _ hk)
  unfold pyNext
  refine wpAny_bind (wpAny_attempt (wpAny_callSpecial?_slot (name := Str.ofString "__next__") hTy PySem.F.slot_zip_next (wpAny_call_entry PySem.F.slot_zip_next hTy PySem.F.entry_zip_next ?_ (PySem.F.args_zip_next_1 _))))
  show wpAny _ _ (field (.ref z) 2 >>= _) _ _ _
  refine wpAny_bind (wpAny_field hz rfl (x := .bool false) rfl ?_)
  show wpAny _ _ (field (.ref z) 3 >>= _) _ _ _
  refine wpAny_bind (wpAny_field hz rfl (x := .ref TI) rfl ?_)
  refine wpAny_bind (wpAny_seqItems hTI rfl ?_)
  show wpAny _ _ (Builtin.SmallTypes.ownedTupleIsFree (.ref z) >>= _) _ _ _
  refine wpAny_bind (wpAny_tupleHeld_zip hz hT fun g1 hz1 hs1 => ?_)
  simp only [Bool.false_eq_true, if_false]
  refine wpAny_bind ?_
  rw [← Array.forIn_toList]
  simp only [List.forIn_cons, List.forIn_nil]
  refine wpAny_bind (wpAny_bind (wpAny_holding ?_))
  show wpAny _ _ (Builtin.SmallTypes.nextOf (.ref i1) >>= _) _ _ _
  cases hx : xs[k1]? with
  | none =>
    refine wpAny_bind (RZ.nextOf_tuple_end (s := { s with heap := g1 }) hh (h1.extBut hs1.extBut D.i1z) (hl1.extBut hs1.extBut D.l1z) hx fun g2 e hs2 he => ?_)
    exact fin g2 e (fun c o c1 c2 _ q => hs2 _ _ c2 (hs1.extBut _ _ c1 q)) he
  | some x =>
    have hy : ys[k2]? = none := by
      rcases hend with q | q
      · rw [hx] at q; cases q
      · exact q
    refine wpAny_bind (RZ.nextOf_tuple_item (s := { s with heap := g1 }) (h1.extBut hs1.extBut D.i1z) (hl1.extBut hs1.extBut D.l1z) hx fun g2 h1b hs2 => wpAny_pure ?_)
    refine wpAny_pure ?_
    refine wpAny_bind (wpAny_bind (wpAny_holding ?_))
    show wpAny _ _ (Builtin.SmallTypes.nextOf (.ref i2) >>= _) _ _ _
    refine wpAny_bind (RZ.nextOf_tuple_end (s := { s with heap := g2 }) hh ((h2.extBut hs1.extBut D.i2z).extBut hs2.extBut D.i12.symm) ((hl2.extBut hs1.extBut D.l2z).extBut hs2.extBut D.l2i1) hy fun g3 e hs3 he => ?_)
    exact fin g3 e (fun c o c1 c2 c3 q => hs3 _ _ c3 (hs2.extBut _ _ c2 (hs1.extBut _ _ c1 q))) he
end
/-- how a zip of two tuples stands ahead of its turn i -/
def Zs (z TI TO i1 i2 l1 l2 : Addr) (i : Nat) (T : Option Addr) (h : Heap) : Prop :=
  IsPair h TI (.ref i1) (.ref i2) ∧ h.IsTupleIter i1 l1 i ∧ h.IsTupleIter i2 l2 i ∧
    match T with
    | none => IsZip h z TI TO .none ∧ ∃ a b, IsPair h TO a b
    | some t => ∃ f o, IsZipHeld h z TI TO t f ∧ h.get? t = some o
section
variable {P : Program} {w : World} {A : Around} {E : Value → Shared → Prop} {s : Shared}
theorem zs_item {z TI TO i1 i2 l1 l2 i : Addr} {T : Option Addr} {xs ys : Array Value} {x y : Value} {Q : Option Value → Shared → Prop} (D : ZipApart z TI TO i1 i2 l1 l2) (st : Zs z TI TO i1 i2 l1 l2 i T s.heap)
    (hl1 : s.heap.IsTuple l1 xs) (hl2 : s.heap.IsTuple l2 ys) (hx : xs[i]? = some x) (hy : ys[i]? = some y) (hT : ∀ t, T = some t → t ≠ z ∧ t ≠ i1 ∧ t ≠ i2)
    (hQ : ∀ h' t, (T = none → t = s.heap.objs.size) → (∀ u, T = some u → t = u) → Zs z TI TO i1 i2 l1 l2 (i + 1) (some t) h' → IsPair h' s.heap.objs.size x y → h'.objs.size = s.heap.objs.size + 1 →
      (∀ c o, c ≠ z → c ≠ TO → c ≠ i1 → c ≠ i2 → s.heap.get? c = some o → h'.get? c = some o) → Q (some (.ref s.heap.objs.size)) { s with heap := h' }) : wpAny (model P w) A (pyNext (.ref z)) Q E s := by
  obtain ⟨hTI, h1, h2, h3⟩ := st
  cases T with
  | none =>
    obtain ⟨hz, a, b, hTO⟩ := h3
    refine RZ.pyNext_zipT_item D hz hTI hTO h1 h2 hl1 hl2 hx hy fun h' z1 z2 z3 z4 z5 z6 z7 => ?_
    refine hQ h' s.heap.objs.size (fun _ => rfl) (fun u e => by cases e) ⟨z7 _ _ D.TIz D.TITO D.TIi1 D.TIi2 hTI, z3, z4, false, _, ?_, z5⟩ z5 z6 z7
    exact z1
  | some t =>
    obtain ⟨f, o, hz, ht⟩ := h3
    obtain ⟨t1, t2, t3⟩ := hT t rfl
    refine zipT_item_held D hz ht hTI h1 h2 hl1 hl2 hx hy fun h' z1 z2 z3 z4 z5 z6 => ?_
    exact hQ h' t (fun e => by cases e) (fun u e => Option.some.inj e) ⟨z6 _ _ D.TIz D.TIi1 D.TIi2 hTI, z2, z3, true, o, z1, z6 _ _ t1 t2 t3 ht⟩ z4 z5 fun c o c1 _ c3 c4 e => z6 c o c1 c3 c4 e
theorem zs_end {z TI TO i1 i2 l1 l2 i : Addr} {T : Option Addr} {xs ys : Array Value} {Q : Option Value → Shared → Prop} (hh : A.handled = none) (D : ZipApart z TI TO i1 i2 l1 l2) (st : Zs z TI TO i1 i2 l1 l2 i T s.heap)
    (hl1 : s.heap.IsTuple l1 xs) (hl2 : s.heap.IsTuple l2 ys) (hend : xs[i]? = none ∨ ys[i]? = none)
    (hQ : ∀ h', (∀ c o, c ≠ z → c ≠ TO → c ≠ i1 → c ≠ i2 → s.heap.get? c = some o → h'.get? c = some o) → Q none { s with heap := h' }) : wpAny (model P w) A (pyNext (.ref z)) Q E s := by
  obtain ⟨hTI, h1, h2, h3⟩ := st
  cases T with
  | none =>
    obtain ⟨hz, a, b, hTO⟩ := h3
    exact RZ.pyNext_zipT_end hh D hz hTI hTO h1 h2 hl1 hl2 hend hQ
  | some t =>
    obtain ⟨f, o, hz, ht⟩ := h3
    exact zipT_end_held hh D hz ht hTI h1 h2 hl1 hl2 hend fun h' k => hQ h' fun c o c1 _ c3 c4 e => k c o c1 c3 c4 e

/-- these addresses are pairs of the items of both -/
def Prs (h : Heap) (m : Nat) (xs ys : List Value) (acc : List Value) : Prop := ∃ ps : List Addr, acc = ps.map Value.ref ∧ ps.length ≤ xs.length ∧ ps.length ≤ ys.length ∧ ∀ (i : Nat) (p : Addr), ps[i]? = some p → m ≤ p ∧ ∃ x y, xs[i]? = some x ∧ ys[i]? = some y ∧ IsPair h p x y
theorem zip_loop {S z TI TO i1 i2 l1 l2 m : Addr} {xs ys : List Value} {res : Value} {R : Result → Shared → Prop} {h0 : Heap} (hh : A.handled = none) (D : ZipApart z TI TO i1 i2 l1 l2) (hm : ∀ b ∈ [S, z, TI, TO, i1, i2], b < m ∧ h0.objs.size ≤ b) (hS : ∀ b ∈ [z, TI, TO, i1, i2], S ≠ b)
    (hl1 : h0.IsTuple l1 xs.toArray) (hl2 : h0.IsTuple l2 ys.toArray) (hz : xs.length ≤ sizeLine)
    (hR : ∀ s' acc c, (∀ b o, h0.get? b = some o → s'.heap.get? b = some o) → s'.heap.get? S = some (lstObj acc c) → Prs s'.heap m xs ys acc.toList → (acc.size = xs.length ∨ acc.size = ys.length) → s'.os = s.os → s'.gens = s.gens → s'.drawn = s.drawn → R (.ok (.ret res)) s') :
    ∀ (n i : Nat) (T : Option Addr) (acc : Array Value) (c : Nat) (s' : Shared), xs.length ≤ i + n → acc.size = i → Zs z TI TO i1 i2 l1 l2 i T s'.heap → (∀ t, T = some t → m ≤ t) → m ≤ s'.heap.objs.size → s'.heap.get? S = some (lstObj acc c) → Prs s'.heap m xs ys acc.toList →
      (∀ b o, h0.get? b = some o → s'.heap.get? b = some o) → s'.os = s.os → s'.gens = s.gens → s'.drawn = s.drawn → codeAny (model P w) A (.builtin "list.extend.loop" ⟨[.ref S, .ref z, res], []⟩) R s' := by
  intro n
  induction n with
  | zero =>
    intro i T acc c s' hn hi st hT hms eS pr hk os gn dr
    refine codeAny_builtin PySem.F.entry_extend_loop ?_
    rw [Around.under_plainId PySem.F.plain_extend_loop _]
    show wpAny _ A.in1 (pyNext (.ref z) >>= _) _ _ s'
    have t1 : s'.heap.IsTuple l1 xs.toArray := let ⟨o, e, r⟩ := hl1; ⟨o, hk _ _ e, r⟩
    have t2 : s'.heap.IsTuple l2 ys.toArray := let ⟨o, e, r⟩ := hl2; ⟨o, hk _ _ e, r⟩
    refine wpAny_bind (zs_end (A := A.in1) hh D st t1 t2 (.inl ?_) fun h' k => ?_)
    · rw [Array.getElem?_eq_none]; rw [List.size_toArray]; omega
    · have old : ∀ b o, h0.get? b = some o → b ≠ z ∧ b ≠ TO ∧ b ≠ i1 ∧ b ≠ i2 := fun b o e => by
        have hb := Heap.lt_size e
        have a1 := (hm z (by simp)).2
        have a2 := (hm TO (by simp)).2
        have a3 := (hm i1 (by simp)).2
        have a4 := (hm i2 (by simp)).2
        exact ⟨Nat.ne_of_lt (Nat.lt_of_lt_of_le hb a1), Nat.ne_of_lt (Nat.lt_of_lt_of_le hb a2), Nat.ne_of_lt (Nat.lt_of_lt_of_le hb a3), Nat.ne_of_lt (Nat.lt_of_lt_of_le hb a4)⟩
      obtain ⟨ps, e1, e2, e3, e4⟩ := pr
      have hlen : ps.length = acc.size := by
        have := congrArg List.length e1
        rw [List.length_map, Array.length_toList] at this
        exact this.symm
      refine wpAny_pure (hR _ acc c (fun b o e => let ⟨a1, a2, a3, a4⟩ := old b o e; k b o a1 a2 a3 a4 (hk b o e)) (k _ _ (hS z (by simp)) (hS TO (by simp)) (hS i1 (by simp)) (hS i2 (by simp)) eS) ⟨ps, e1, e2, e3, fun j p hj => ?_⟩ (.inl (by omega)) os gn dr)
      obtain ⟨hp, x, y, hx, hy, hpr⟩ := e4 j p hj
      refine ⟨hp, x, y, hx, hy, k _ _ ?_ ?_ ?_ ?_ hpr⟩
      · exact Nat.ne_of_gt (Nat.lt_of_lt_of_le (hm z (by simp)).1 hp)
      · exact Nat.ne_of_gt (Nat.lt_of_lt_of_le (hm TO (by simp)).1 hp)
      · exact Nat.ne_of_gt (Nat.lt_of_lt_of_le (hm i1 (by simp)).1 hp)
      · exact Nat.ne_of_gt (Nat.lt_of_lt_of_le (hm i2 (by simp)).1 hp)
  | succ n ih =>
    intro i T acc c s' hn hi st hT hms eS pr hk os gn dr
    refine codeAny_builtin PySem.F.entry_extend_loop ?_
    rw [Around.under_plainId PySem.F.plain_extend_loop _]
    show wpAny _ A.in1 (pyNext (.ref z) >>= _) _ _ s'
    have t1 : s'.heap.IsTuple l1 xs.toArray := let ⟨o, e, r⟩ := hl1; ⟨o, hk _ _ e, r⟩
    have t2 : s'.heap.IsTuple l2 ys.toArray := let ⟨o, e, r⟩ := hl2; ⟨o, hk _ _ e, r⟩
    have old : ∀ b o, h0.get? b = some o → b ≠ z ∧ b ≠ TO ∧ b ≠ i1 ∧ b ≠ i2 ∧ b ≠ S := fun b o e => by
      have hb := Heap.lt_size e
      have a1 := (hm z (by simp)).2
      have a2 := (hm TO (by simp)).2
      have a3 := (hm i1 (by simp)).2
      have a4 := (hm i2 (by simp)).2
      have a5 := (hm S (by simp)).2
      exact ⟨Nat.ne_of_lt (Nat.lt_of_lt_of_le hb a1), Nat.ne_of_lt (Nat.lt_of_lt_of_le hb a2), Nat.ne_of_lt (Nat.lt_of_lt_of_le hb a3), Nat.ne_of_lt (Nat.lt_of_lt_of_le hb a4), Nat.ne_of_lt (Nat.lt_of_lt_of_le hb a5)⟩
    have big : ∀ p, m ≤ p → p ≠ z ∧ p ≠ TO ∧ p ≠ i1 ∧ p ≠ i2 ∧ p ≠ S := fun p hp => ⟨Nat.ne_of_gt (Nat.lt_of_lt_of_le (hm z (by simp)).1 hp), Nat.ne_of_gt (Nat.lt_of_lt_of_le (hm TO (by simp)).1 hp), Nat.ne_of_gt (Nat.lt_of_lt_of_le (hm i1 (by simp)).1 hp), Nat.ne_of_gt (Nat.lt_of_lt_of_le (hm i2 (by simp)).1 hp), Nat.ne_of_gt (Nat.lt_of_lt_of_le (hm S (by simp)).1 hp)⟩
    obtain ⟨ps, e1, e2, e3, e4⟩ := id pr
    have hlen : ps.length = acc.size := by
      have := congrArg List.length e1
      rw [List.length_map, Array.length_toList] at this
      exact this.symm
    by_cases hx : i < xs.length ∧ i < ys.length
    · have gx : xs.toArray[i]? = some xs[i] := by rw [List.getElem?_toArray, List.getElem?_eq_getElem hx.1]
      have gy : ys.toArray[i]? = some ys[i] := by rw [List.getElem?_toArray, List.getElem?_eq_getElem hx.2]
      refine wpAny_bind (zs_item (A := A.in1) D st t1 t2 gx gy (fun t e => ?_) fun h' t ht0 ht1 st' hp hsz k => ?_)
      · have := big t (hT t e)
        exact ⟨this.1, this.2.2.1, this.2.2.2.1⟩
      · have hmt : m ≤ t := by
          cases T with
          | none => rw [ht0 rfl]; exact hms
          | some u => rw [ht1 u rfl]; exact hT u rfl
        have eS' : h'.get? S = some (lstObj acc c) := k _ _ (hS z (by simp)) (hS TO (by simp)) (hS i1 (by simp)) (hS i2 (by simp)) eS
        show wpAny _ A.in1 (updateSeq S (·.push (.ref s'.heap.objs.size)) >>= _) _ _ { s' with heap := h' }
        refine wpAny_bind (wpAny_updateSeq (s := { s' with heap := h' }) eS' rfl ?_ (by rw [hi]; omega) (by show (acc.push _).size ≤ sizeLine + 1; rw [Array.size_push]; omega))
        have k3 : ∀ b o, b ≠ S → h'.get? b = some o → (h'.update S (Obj.mapSeq (·.push (.ref s'.heap.objs.size)))).get? b = some o := fun b o hb e => (Heap.get?_update_other _ _ (Ne.symm hb)).trans e
        refine wpAny_pure ⟨plainId_quiet PySem.F.plain_extend_loop _, ?_⟩
        refine ih (i + 1) (some t) (acc.push (.ref s'.heap.objs.size)) _ { s' with heap := h'.update S (Obj.mapSeq (·.push (.ref s'.heap.objs.size))) } (by omega) (by rw [Array.size_push, hi]) ?_ (fun u e => by cases e; exact hmt) ?_ (Heap.get?_update_self _ eS' rfl) ?_ (fun b o e => ?_) os gn dr
        · obtain ⟨q1, ⟨oa, qa, qb⟩, ⟨oc, qc, qd⟩, f, o, q4, q5⟩ := st'
          exact ⟨k3 _ _ (Ne.symm (hS TI (by simp))) q1, ⟨oa, k3 _ _ (Ne.symm (hS i1 (by simp))) qa, qb⟩, ⟨oc, k3 _ _ (Ne.symm (hS i2 (by simp))) qc, qd⟩, f, o, k3 _ _ (Ne.symm (hS z (by simp))) q4, k3 _ _ (big t hmt).2.2.2.2 q5⟩
        · show m ≤ (h'.update S _).objs.size
          rw [Heap.size_update, hsz]
          exact Nat.le_succ_of_le hms
        · refine ⟨ps ++ [s'.heap.objs.size], ?_, ?_, ?_, fun j p hj => ?_⟩
          · rw [Array.toList_push, e1, List.map_append]; rfl
          · rw [List.length_append, List.length_singleton]; omega
          · rw [List.length_append, List.length_singleton]; omega
          · by_cases hjl : j < ps.length
            · rw [List.getElem?_append_left hjl] at hj
              obtain ⟨a1, x, y, a2, a3, a4⟩ := e4 j p hj
              have b1 := big p a1
              exact ⟨a1, x, y, a2, a3, k3 _ _ b1.2.2.2.2 (k _ _ b1.1 b1.2.1 b1.2.2.1 b1.2.2.2.1 a4)⟩
            · have hj2 : j = ps.length := by
                have := (List.getElem?_eq_some_iff.mp hj).1
                rw [List.length_append, List.length_singleton] at this
                omega
              subst hj2
              rw [List.getElem?_append_right (Nat.le_refl _), Nat.sub_self] at hj
              have ep : s'.heap.objs.size = p := Option.some.inj hj
              subst ep
              have hpi : ps.length = i := by omega
              rw [hpi]
              exact ⟨hms, xs[i], ys[i], List.getElem?_eq_getElem hx.1, List.getElem?_eq_getElem hx.2, k3 _ _ (big _ hms).2.2.2.2 hp⟩
        · obtain ⟨a1, a2, a3, a4, a5⟩ := old b o e
          exact k3 b o a5 (k b o a1 a2 a3 a4 (hk b o e))
    · have hend : xs.toArray[i]? = none ∨ ys.toArray[i]? = none := by
        by_cases h1 : i < xs.length
        · exact .inr (by rw [Array.getElem?_eq_none]; rw [List.size_toArray]; omega)
        · exact .inl (by rw [Array.getElem?_eq_none]; rw [List.size_toArray]; omega)
      refine wpAny_bind (zs_end (A := A.in1) hh D st t1 t2 hend fun h' k => ?_)
      refine wpAny_pure (hR _ acc c (fun b o e => let ⟨a1, a2, a3, a4, _⟩ := old b o e; k b o a1 a2 a3 a4 (hk b o e)) (k _ _ (hS z (by simp)) (hS TO (by simp)) (hS i1 (by simp)) (hS i2 (by simp)) eS) ⟨ps, e1, e2, e3, fun j p hj => ?_⟩ ?_ os gn dr)
      · obtain ⟨hp, x, y, hx, hy, hpr⟩ := e4 j p hj
        have b1 := big p hp
        exact ⟨hp, x, y, hx, hy, k _ _ b1.1 b1.2.1 b1.2.2.1 b1.2.2.2.1 hpr⟩
      · by_cases h1 : i < xs.length
        · exact .inr (by omega)
        · exact .inl (by omega)

theorem zip_no_len : typeLookup (.type "zip") "__len__" = pure none := by rw [typeLookup_type, builtinLookup_eq_fast]; kernel_rfl
theorem zip_no_hint : typeLookup (.type "zip") "__length_hint__" = pure none := by rw [typeLookup_type, builtinLookup_eq_fast]; kernel_rfl
/-- list(zip(t, u)) -/
theorem call_list_zip {l1 l2 : Addr} {xs ys : List Value} {Q : Value → Shared → Prop} (hh : A.handled = none) (hl1 : s.heap.IsTuple l1 xs.toArray) (hl2 : s.heap.IsTuple l2 ys.toArray) (hz : xs.length ≤ sizeLine) {h' : Heap}
    (hzp : IsZip h' (s.heap.objs.size + 4) (s.heap.objs.size + 2) (s.heap.objs.size + 3) .none) (hTI : IsPair h' (s.heap.objs.size + 2) (.ref s.heap.objs.size) (.ref (s.heap.objs.size + 1)))
    (hTO : IsPair h' (s.heap.objs.size + 3) .none .none) (h1 : h'.IsTupleIter s.heap.objs.size l1 0) (h2 : h'.IsTupleIter (s.heap.objs.size + 1) l2 0) (hsz : h'.objs.size = s.heap.objs.size + 5)
    (hk : ∀ c o, s.heap.get? c = some o → h'.get? c = some o)
    (hQ : ∀ s' acc c, (∀ b o, s.heap.get? b = some o → s'.heap.get? b = some o) → s'.heap.get? (s.heap.objs.size + 5) = some (lstObj acc c) → Prs s'.heap (s.heap.objs.size + 6) xs ys acc.toList → (acc.size = xs.length ∨ acc.size = ys.length) → s'.os = s.os → s'.gens = s.gens → s'.drawn = s.drawn → Q (.ref (s.heap.objs.size + 5)) s') :
    wpAny (model P w) A (call (.type "list") [.ref (s.heap.objs.size + 4)]) Q E { s with heap := h' } := by
  have eS : h'.objs.size = s.heap.objs.size + 5 := hsz
  have D : ZipApart (s.heap.objs.size + 4) (s.heap.objs.size + 2) (s.heap.objs.size + 3) s.heap.objs.size (s.heap.objs.size + 1) l1 l2 :=
    PySem.W.ktu_apart s.heap.objs.size l1 l2 (let ⟨o, e, _⟩ := hl1; Heap.lt_size e) (let ⟨o, e, _⟩ := hl2; Heap.lt_size e)
  refine callType_codes (Q₁ := fun obj s₁ => obj = .ref h'.objs.size ∧ s₁ = { s with heap := h'.push { cls := .type "list", data := .seq #[] } }) PySem.F.called_list (PySem.F.typeCall_list_1 _) PySem.F.entry_list_init
    (code_list_new _ ⟨rfl, rfl⟩) fun obj s₁ q₁ => ?_
  obtain ⟨rfl, rfl⟩ := q₁
  have gS : (h'.push { cls := .type "list", data := .seq #[] }).get? h'.objs.size = some { cls := .type "list", data := .seq #[] } := Heap.get?_push_size _ rfl
  have zSz : h'.objs.size ≠ s.heap.objs.size + 4 := by rw [eS]; exact Nat.ne_of_gt (Nat.lt_succ_self _)
  refine ⟨⟨_, gS, rfl⟩, PySem.F.args_list_init_2 _ _, ?_⟩
  show wpAny _ A.in1.in1 (do let old ← Builtin.List.listItems (.ref h'.objs.size); Builtin.List.listUpdate (.ref h'.objs.size) (fun _ => #[]); letGo old.toList.reverse; Builtin.List.listExtendWith (.ref h'.objs.size) (.ref (s.heap.objs.size + 4)) .none) _ _ _
  refine wpAny_bind ?_
  unfold Builtin.List.listItems
  refine wpAny_bind (wpAny_seqItems gS rfl (wpAny_pure ?_))
  show wpAny _ A.in1.in1 (updateSeq h'.objs.size (fun _ => #[]) >>= fun _ => letGo (#[] : Array Value).toList.reverse >>= fun _ => Builtin.List.listExtendWith (.ref h'.objs.size) (.ref (s.heap.objs.size + 4)) .none) _ _ _
  refine wpAny_bind (wpAny_updateSeq gS rfl ?_)
  have gS2 := Heap.get?_update_self (Obj.mapSeq (fun _ => (#[] : Array Value))) gS rfl
  refine wpAny_bind (wpAny_letGo ?_)
  unfold Builtin.List.listExtendWith
  have up : ∀ (h : Heap) (f : Obj → Obj), (∀ b o, h'.get? b = some o → h.get? b = some o) → ∀ b o, h'.get? b = some o → (h.update h'.objs.size f).get? b = some o := fun h f q b o e =>
    (Heap.get?_update_other _ _ (Ne.symm (Nat.ne_of_lt (Heap.lt_size e)))).trans (q b o e)
  have k1 : ∀ b o, h'.get? b = some o → (h'.push { cls := .type "list", data := .seq #[] }).get? b = some o := fun b o e => Heap.get?_push_of_some _ e
  have k2 := up _ (Obj.mapSeq (fun _ => (#[] : Array Value))) k1
  have gty : ∀ {h : Heap}, (∀ b o, h'.get? b = some o → h.get? b = some o) → (Shared.TypeIs { s with heap := h } (.ref (s.heap.objs.size + 4)) "zip") := fun {h} q => ⟨_, q _ _ hzp, rfl⟩
  refine wpAny_bind (wpAny_typeOf (gty k2) ?_)
  have e1 : Builtin.List.listSameRef (.ref h'.objs.size) (.ref (s.heap.objs.size + 4)) = false := by simp [Builtin.List.listSameRef, zSz]
  have e2 : (Value.type "zip" == Value.type "list") = false := by decide
  have e3 : (Value.type "zip" == Value.type "tuple") = false := by decide
  simp only [e1, e2, e3, Bool.or_false, Bool.false_eq_true, if_false]
  refine wpAny_bind (wpAny_pyIter_zip (s := { s with heap := _ }) (k2 _ _ hzp) ?_)
  refine wpAny_bind (wpAny_holding ?_)
  unfold Builtin.List.listLengthHint
  refine wpAny_bind (wpAny_specialOf (gty k2) zip_no_len ?_)
  show wpAny _ A.in1.in1 (specialOf (Value.ref (s.heap.objs.size + 4)) (Str.ofString "__length_hint__") >>= _) _ _ _
  refine wpAny_bind (wpAny_specialOf (gty k2) zip_no_hint ?_)
  refine wpAny_pure ?_
  show wpAny _ A.in1.in1 (rule "list.extend.makes-room" >>= fun _ => Builtin.List.listTouch (.ref h'.objs.size) >>= fun _ =>
    again (.builtin "list.extend.loop" ⟨[.ref h'.objs.size, .ref (s.heap.objs.size + 4), .none], []⟩)) _ _ _
  refine wpAny_bind (wpAny_rule ?_)
  refine wpAny_bind ?_
  show wpAny _ A.in1.in1 (updateSeq h'.objs.size (·.push .none) >>= fun _ => updateSeq h'.objs.size (·.pop)) _ _ _
  refine Zed.wp_touch gS2 rfl ?_
  have gS3 := Heap.get?_update_self (Obj.mapSeq (·.push Value.none)) gS2 rfl
  have gS4 := Heap.get?_update_self (Obj.mapSeq (·.pop)) gS3 rfl
  have k4 := up _ (Obj.mapSeq (·.pop)) (up _ (Obj.mapSeq (·.push Value.none)) k2)
  refine wpAny_pure ⟨plainId_quiet PySem.F.plain_extend_loop _, ?_⟩
  refine zip_loop (A := A.in1) (s := s) (m := s.heap.objs.size + 6) (h0 := s.heap) (xs := xs) (ys := ys) hh D ?_ ?_ hl1 hl2 hz (fun s' acc c z1 z2 z3 z4 z5 z6 z7 => ⟨rfl, ?_⟩) xs.length 0 none #[] _ { s with heap := _ } (by omega) rfl ?_ (fun t e => by cases e) ?_ gS4 ⟨[], rfl, Nat.zero_le _, Nat.zero_le _, fun i p e => by simp at e⟩ (fun b o e => k4 b o (hk b o e)) rfl rfl rfl
  · rw [eS]
    intro b hb
    simp only [List.mem_cons, List.not_mem_nil, or_false] at hb
    rcases hb with rfl | rfl | rfl | rfl | rfl | rfl <;> refine ⟨?_, ?_⟩ <;> first | exact Nat.le_add_right _ _ | exact Nat.le_refl _ | (show (s.heap.objs.size : Nat) + _ < s.heap.objs.size + 6; omega) | (show (s.heap.objs.size : Nat) < s.heap.objs.size + 6; omega)
  · rw [eS]
    intro b hb
    simp only [List.mem_cons, List.not_mem_nil, or_false] at hb
    rcases hb with rfl | rfl | rfl | rfl | rfl <;> first | (show (s.heap.objs.size : Nat) + 5 ≠ s.heap.objs.size + _; omega) | (show (s.heap.objs.size : Nat) + 5 ≠ s.heap.objs.size; omega)
  · exact ⟨k4 _ _ hTI, let ⟨o, e, r⟩ := h1; ⟨o, k4 _ _ e, r⟩, let ⟨o, e, r⟩ := h2; ⟨o, k4 _ _ e, r⟩, k4 _ _ hzp, _, _, k4 _ _ hTO⟩
  · show (s.heap.objs.size + 6 : Nat) ≤ (Heap.update _ _ _).objs.size
    rw [Heap.size_update, Heap.size_update, Heap.size_update, Heap.size_push, eS]
    exact Nat.le_refl _
  · rw [eS]
    rw [eS] at z2
    exact hQ s' acc c z1 z2 z3 z4 z5 z6 z7
end
section
variable {X : Cx} {p p' pos pos' : Pos} {a b : Expr} {ta : TA}
/-- list(zip(t, u)) -/
def tLZip (ta : TA) : TE := fun σ H Q => ta σ H fun vs H1 => ∃ (t u : Addr) (xs ys : List V), vs = [.ref t, .ref u] ∧ SqT X.K H1 t xs ∧ SqT X.K H1 u ys ∧
  ∀ l H2 (ps : List Addr), H1 l = none → Same H1 H2 → H2 l = some (.lst (ps.map V.ref)) → ps.length = min xs.length ys.length → (∀ (i : Nat) (q : Addr), ps[i]? = some q → ∃ x y, xs[i]? = some x ∧ ys[i]? = some y ∧ H2 q = some (.tup [x, y])) → Q (.ref l) H2

/-- pairs that lie in the heap are tracked from now on -/
theorem track_pairs {pins : List (Addr × Obj)} {σ : L2.St} {s0 s : Shared} {H0 : Hp} (I0 : Inv X pins σ H0 s0) : ∀ (ts : List (Addr × V × V)) (H : Hp), Inv X pins σ H s → Same H0 H → (∀ b u, H b = some u → H0 b = some u ∨ ∃ x y, u = .tup [x, y]) →
    (∀ t ∈ ts, s0.heap.objs.size ≤ t.1 ∧ ∃ u v, RelV t.2.1 u ∧ RelV t.2.2 v ∧ IsPair s.heap t.1 u v) → ∃ H2, Inv X pins σ H2 s ∧ Same H H2 ∧ (∀ t ∈ ts, H2 t.1 = some (.tup [t.2.1, t.2.2])) ∧ (∀ b u, H2 b = some u → H0 b = some u ∨ ∃ x y, u = .tup [x, y]) := by
  intro ts
  induction ts with
  | nil => intro H I hs ho _; exact ⟨H, I, Same.refl H, fun t ht => by simp at ht, ho⟩
  | cons t ts ih =>
    intro H I hs ho hts
    obtain ⟨hb, u, v, ru, rv, hp⟩ := hts t List.mem_cons_self
    have rest := fun q hq => hts q (List.mem_cons_of_mem _ hq)
    cases e : H t.1 with
    | some o =>
      obtain ⟨x, y, rfl⟩ : ∃ x y, o = .tup [x, y] := by
        rcases ho _ _ e with z | z
        · rw [I0.hok.fresh hb] at z; cases z
        · exact z
      obtain ⟨_, its, rr, ob, hob, _, n, hd⟩ := I.hok _ _ e
      have hp' : s.heap.get? t.1 = some { cls := .type "tuple", data := .seq #[u, v] } := hp
      rw [hp'] at hob
      cases hob
      injection hd with hd1 _
      have hits : its = [u, v] := by
        have := congrArg Array.toList hd1
        simpa using this.symm
      subst hits
      have hxy : [x, y] = [t.2.1, t.2.2] := rr.inj (.cons ru (.cons rv .nil))
      obtain ⟨H2, I2, s2, q2, o2⟩ := ih H I hs ho rest
      refine ⟨H2, I2, s2, fun q hq => ?_, o2⟩
      rcases List.mem_cons.mp hq with z | z
      · subst z; rw [← hxy]; exact s2 _ _ e
      · exact q2 q z
    | none =>
      have I1 : Inv X pins σ (upd H t.1 (.tup [t.2.1, t.2.2])) s := I.take (h' := s.heap) (t' := s.toks) (fun b ob _ e => e) (I0.fpOk hb e) ⟨by show 2 ≤ sizeLine; decide, [u, v], .cons ru (.cons rv .nil), _, hp, rfl, 0, rfl⟩
      obtain ⟨H2, I2, s2, q2, o2⟩ := ih _ I1 (Same.upd hs (I0.hok.fresh hb)) (fun b w hw => by
        by_cases hbt : b = t.1
        · rw [hbt, upd_same] at hw; cases hw; exact .inr ⟨_, _, rfl⟩
        · rw [upd_ne hbt] at hw; exact ho b w hw) rest
      refine ⟨H2, I2, (Same.new e).trans s2, fun q hq => ?_, o2⟩
      rcases List.mem_cons.mp hq with z | z
      · subst z; exact s2 _ _ upd_same
      · exact q2 q z
theorem pe_lzip (hc : X.calm = true) (hgl : Gl X "list") (hml : X.mg "list" = none) (hgz : Gl X "zip") (hmz : X.mg "zip" = none) (ha : PA X [a, b] ta)
    (hs : starEach [a, b] X.env = (false, eval a X.env) :: starEach [b] X.env := by rfl) (hpl : (backTo pos' (starEach [b] X.env)).any (·.1) = false := by rfl)
    (he : starEach [Expr.Call (.Name "zip" p') [a, b] [] pos'] X.env = (false, eval (.Call (.Name "zip" p') [a, b] [] pos') X.env) :: starEach [] X.env := by rfl) :
    PE X (.Call (.Name "list" p) [.Call (.Name "zip" p') [a, b] [] pos'] [] pos) (tLZip (X := X) ta) := by
  refine ⟨fun pins s σ H Q I h => ?_⟩
  refine wpAny_Call_Name_kw (ld_blt I hgl hml PyProof.Rows.boot_list ?_ (by decide) (by decide))
  refine PyProof.Rows.callWith_type1 ?_ he rfl
  rw [he]
  show wpAny _ _ (spliced ((false, eval (.Call (.Name "zip" p') [a, b] [] pos') X.env) :: backTo pos (starEach [] X.env))) _ _ s
  refine Calls.spliced_cons ?_
  refine Call_ (ld_blt I hgz hmz PyProof.Rows.boot_zip (PyProof.Rows.callWith_type1 (thn (ha.run pos' pins s σ H _ I h) fun us s1 ⟨vs, H1, I1, r1, q1⟩ => ?_) hs hpl))
  obtain ⟨t, u, xs, ys, ex, hx, hy, q⟩ := q1
  subst ex
  cases r1 with
  | cons r rr =>
  cases rr with
  | cons r' rr =>
  cases rr
  cases r
  cases r'
  obtain ⟨its, rv, p1, hz1⟩ := I1.tuple hx
  obtain ⟨its2, rv2, p2, hz2⟩ := I1.tuple hy
  have t1 : s1.heap.IsTuple t its.toArray := p1
  have t2 : s1.heap.IsTuple u its2.toArray := p2
  refine RZ.call_zipT t1 t2 fun h' g1 g2 g3 g4 g5 g6 g7 => Calls.spliced_nil ?_
  refine call_list_zip (I.ok.hd hc) t1 t2 (by rw [← rv.length]; exact hz1) g1 g2 g3 g4 g5 g6 g7 fun s' acc c k eS pr hsz os gn dr => ?_
  obtain ⟨ps, e1, e2, e3, e4⟩ := pr
  have I2 : Inv X pins σ H1 s' := I1.call' (ch := []) os (Un.kept k) (I1.hok.kept k) (by rw [gn]; exact I1.bare) fun b z => by simp at z
  have hlen : ps.length = acc.size := by
    have := congrArg List.length e1
    rw [List.length_map, Array.length_toList] at this
    exact this.symm
  have lx := rv.length
  have ly := rv2.length
  have hps : ps.length = min xs.length ys.length := by
    rcases hsz with z | z <;> omega
  -- the pairs, with what they hold
  have hti : ∀ i p, ps[i]? = some p → s1.heap.objs.size + 6 ≤ p ∧ ∃ x y, xs[i]? = some x ∧ ys[i]? = some y ∧ ∃ u v, RelV x u ∧ RelV y v ∧ IsPair s'.heap p u v := fun i p hp => by
    obtain ⟨a1, x, y, a2, a3, a4⟩ := e4 i p hp
    have hil := (List.getElem?_eq_some_iff.mp hp).1
    obtain ⟨u1, hu1, r1⟩ := rv.get (List.getElem?_eq_getElem (show i < xs.length by omega))
    obtain ⟨u2, hu2, r2⟩ := rv2.get (List.getElem?_eq_getElem (show i < ys.length by omega))
    rw [a2] at hu1
    rw [a3] at hu2
    cases hu1
    cases hu2
    exact ⟨a1, _, _, List.getElem?_eq_getElem (show i < xs.length by omega), List.getElem?_eq_getElem (show i < ys.length by omega), _, _, r1, r2, a4⟩
  obtain ⟨H2, I3, sm, hq2, ho2⟩ := track_pairs (s0 := s1) I1 (ps.zip (xs.zip ys)) H1 I2 (Same.refl _) (fun b u e => .inl e) fun t ht => by
    obtain ⟨i, hi, et⟩ := List.mem_iff_getElem.mp ht
    have et' : (ps.zip (xs.zip ys))[i]? = some t := by rw [List.getElem?_eq_getElem hi, et]
    rw [List.getElem?_zip_eq_some] at et'
    obtain ⟨f1, f2⟩ := et'
    rw [List.getElem?_zip_eq_some] at f2
    obtain ⟨a1, x, y, a2, a3, a4⟩ := hti i t.1 f1
    rw [f2.1] at a2
    rw [f2.2] at a3
    cases a2
    cases a3
    exact ⟨Nat.le_trans (Nat.le_add_right _ _) a1, a4⟩
  have nL : H2 (s1.heap.objs.size + 5) = none := by
    cases e : H2 (s1.heap.objs.size + 5) with
    | none => rfl
    | some o =>
      rcases ho2 _ _ e with z | ⟨x, y, rfl⟩
      · rw [I1.hok.fresh (Nat.le_add_right _ _)] at z; cases z
      · obtain ⟨_, _, _, ob, hob, hc2, _⟩ := I3.hok _ _ e
        rw [eS] at hob
        cases hob
        exact absurd (Value.type.inj hc2) (by decide)
  have n1 : H1 (s1.heap.objs.size + 5) = none := I1.hok.fresh (Nat.le_add_right _ _)
  have hall : (ps.map V.ref).length ≤ sizeLine := by rw [List.length_map]; omega
  have I4 : Inv X pins σ (upd H2 (s1.heap.objs.size + 5) (.lst (ps.map V.ref))) s' := I3.take (h' := s'.heap) (t' := s'.toks) (fun b ob _ e => e) (I1.fpOk (Nat.le_add_right _ _) nL) ⟨hall, acc.toList, c, by rw [e1]; exact vals_refs ps, by rw [Array.toArray_toList]; exact eS⟩
  refine ⟨.ref (s1.heap.objs.size + 5), _, I4, rfl, q _ _ ps n1 (Same.upd sm n1) upd_same hps fun i p hp => ?_⟩
  obtain ⟨a1, x, y, a2, a3, _⟩ := hti i p hp
  refine ⟨x, y, a2, a3, ?_⟩
  have hm : (p, x, y) ∈ ps.zip (xs.zip ys) := by
    refine List.mem_of_getElem? (i := i) ?_
    rw [List.getElem?_zip_eq_some]
    refine ⟨hp, ?_⟩
    rw [List.getElem?_zip_eq_some]
    exact ⟨a2, a3⟩
  have hpL : p ≠ s1.heap.objs.size + 5 := Nat.ne_of_gt (Nat.lt_of_lt_of_le (Nat.lt_succ_self _) a1)
  rw [upd_ne hpL]
  exact hq2 _ hm
end
end Rl

set_option Elab.async false
set_option linter.all false
set_option maxRecDepth 100000
set_option maxHeartbeats 1000000
/-! D3: jumps_of, come_to, come_from, useful_jumps, going_on. -/
namespace Rl
open PySem PySem.Spec PyProof.Rows L2
section
variable {P : Program} {w : World} {K : PySem.W.Frag} {mg : Str → Option Value} {base : Heap}
theorem it_len (q : List Nat) : (It q).length = q.length := List.length_map ..
theorem it_get {q : List Nat} {i n : Nat} (h : q[i]? = some n) : (It q)[i]? = some (.int (n : Int)) := by rw [List.getElem?_map, h]; rfl
theorem steps_len : ∀ r : List Nat, (steps r).length = r.length - 1
  | [] => rfl
  | [_] => rfl
  | x :: y :: r => by
    show (steps (y :: r)).length + 1 = _
    rw [steps_len (y :: r)]
    simp
theorem steps_get : ∀ {r : List Nat} {i x y : Nat}, r[i]? = some x → r[i + 1]? = some y → (steps r)[i]? = some (x, y)
  | [], i, x, y, h, _ => by simp at h
  | [_], i, x, y, _, h => by simp at h
  | a :: b :: r, 0, x, y, h1, h2 => by cases h1; cases h2; rfl
  | a :: b :: r, i + 1, x, y, h1, h2 => steps_get (r := b :: r) (i := i) h1 h2
theorem tpall_of {H : Hp} : ∀ {vs : List V} {qs : List (List Nat)}, vs.length = qs.length → (∀ (i : Nat) (v : V) (q : List Nat), vs[i]? = some v → qs[i]? = some q → Tp H v q) → TpAll H vs qs
  | [], [], _, _ => trivial
  | v :: vs, q :: qs, hl, h => ⟨h 0 v q rfl rfl, tpall_of (by simpa using hl) fun i v q a b => h (i + 1) v q a b⟩

/-! ### jumps_of -/
def sp_jumps_of : Sp := fun vs H Q _ => ∃ v r, vs = [v] ∧ Tp H v r ∧ 1 ≤ r.length ∧ r.length ≤ 1000 ∧ ∀ l H', Same H H' → H l = none → TL H' l ((steps r).map jl) → Q (.ref l) H'
theorem sc_jumps_of : FnScope ["run"] ["run"] (defScope s_jumps_of) := ⟨rfl, rfl, rfl, by decide +kernel, rfl, by decide +kernel, by decide +kernel⟩
theorem cut1 {α : Type} (xs : List V) (h : 1 ≤ xs.length) : cutV xs (some 1) none = xs.drop 1 := by
  unfold cutV
  have e1 : HT.sIx xs.length 0 (some 1) = 1 := by simp [HT.sIx]; omega
  have e2 : HT.sIx xs.length xs.length none = xs.length := by simp [HT.sIx]
  rw [e1, e2, List.take_of_length_le]
  rw [List.length_drop]; omega
theorem ok_jumps_of (T : Tx K mg) : Ok P w K mg base CX0 1 (He.ga K "jumps_of") ["run"] sp_jumps_of := by
  refine ok_of (d := d_jumps_of) T (fnAt0 (i := 3) rfl) rfl rfl sc_jumps_of (fun vs H Q E h => ?_) (fun _ _ _ _ _ _ us hl => match us, hl with | [_], _ => rfl) fun cdv A outer s H vs Q E hr h => ?_
  · obtain ⟨v, d, rfl, _⟩ := h; rfl
  obtain ⟨v, r, rfl, ⟨t, rfl, ht⟩, h1, h2, q⟩ := h
  refine ⟨_, PSs.nox (pss_one (ps_ret (pe_lzip rfl (by rfl) (T.free 10) (by rfl) (T.free 11) (pa_cons (pv 0) (pa_cons (pe_slice sl_tup (pv 0) (po_some pe_int) po_none) pa_nil))))), ?_⟩
  have hl1 : 1 ≤ (It r).length := by rw [it_len]; exact h1
  refine ⟨_, rfl, _, rfl, 1, rfl, t, It r, rfl, .inl (.inl ht), ?_, fun p hp => ?_⟩
  · intro z
    have e1 : HT.sIx (It r).length 0 (some 1) = 1 := by simp [HT.sIx]; omega
    rw [e1] at z
    exact absurd z.1 (by decide)
  · rw [cut1 (α := Unit) _ hl1]
    refine ⟨t, p, It r, (It r).drop 1, rfl, .inl (.inl (by rw [upd_ne (ne_of_none ht hp)]; exact ht)), .inl (.inl upd_same), fun l H2 ps hl hs hH hps hpr => ?_⟩
    have hm : ps.length = r.length - 1 := by rw [hps, List.length_drop, it_len]; omega
    refine q l H2 ((Same.new hp).trans hs) (by
      cases e : H l with
      | none => rfl
      | some o => have := Same.new (o := HO.tup ((It r).drop 1)) hp _ _ e; rw [hl] at this; cases this) ⟨_, hH, tpall_of (by rw [List.length_map, List.length_map, hm, steps_len]) fun i v q1 e1 e2 => ?_⟩
    rw [List.getElem?_map] at e1 e2
    cases e3 : ps[i]? with
    | none => rw [e3] at e1; cases e1
    | some a =>
      rw [e3] at e1
      cases e1
      obtain ⟨x, y, ex, ey, hxy⟩ := hpr i a e3
      have hil := (List.getElem?_eq_some_iff.mp e3).1
      have gx : r[i]? = some r[i] := List.getElem?_eq_getElem (by omega)
      have gy : r[i + 1]? = some r[i + 1] := List.getElem?_eq_getElem (by omega)
      rw [it_get gx] at ex
      rw [List.getElem?_drop, Nat.add_comm 1 i, it_get gy] at ey
      cases ex
      cases ey
      rw [steps_get gx gy] at e2
      cases e2
      exact ⟨a, rfl, hxy⟩

/-! ### come_to, come_from -/
/-- a dict whose int keys are these -/
def KS (kvs : List (Key × V)) (S : List Nat) : Prop := ∀ n : Nat, (valV kvs (Sum.inl (n : Int))).isSome = decide (n ∈ S)
theorem KS.put {kvs : List (Key × V)} {S : List Nat} (h : KS kvs S) (m : Nat) (v : V) : KS (putK kvs (Sum.inl (m : Int)) v) (m :: S) := fun n => by
  rw [valV_put]
  by_cases e : n = m
  · subst e
    rw [if_pos rfl]
    simp
  · have e2 : ¬ (Sum.inl (n : Int) : Key) = Sum.inl (m : Int) := fun z => e (by injection z with z; omega)
    rw [if_neg e2, h n]
    simp [e]
def sp_come_to : Sp := fun vs H Q _ => ∃ n a js, vs = [.int n, .ref a] ∧ TL H a (js.map jl) ∧ js.length ≤ 1000 ∧ ∀ d kvs H', Same H H' → H d = none → H' d = some (.dK kvs) → KS kvs (comeTo js) → Q (.ref d) H'
theorem sc_come_to : FnScope ["blocks", "jumps", "found", "u", "v"] ["blocks", "jumps"] (defScope s_come_to) := ⟨rfl, rfl, rfl, by decide +kernel, rfl, by decide +kernel, by decide +kernel⟩
theorem ok_come_to (T : Tx K mg) : Ok P w K mg base CX0 1 (He.ga K "come_to") ["blocks", "jumps"] sp_come_to := by
  refine ok_of (d := d_come_to) T (fnAt0 (i := 4) rfl) rfl rfl sc_come_to (fun vs H Q E h => ?_) (fun _ _ _ _ _ _ us hl => match us, hl with | [_, _], _ => rfl) fun cdv A outer s H vs Q E hr h => ?_
  · obtain ⟨_, _, _, rfl, _⟩ := h; rfl
  obtain ⟨n, a, js, rfl, ⟨vs, ha, hv⟩, hlen, q⟩ := h
  have hu := hu_of hr
  refine ⟨_, PSs.nox (pss_cons (ps_set (i := 2) sc_come_to.nd rfl (Or.inl rfl) (pe_disp (pps_cons pe_int pe_bl pps_nil) (by rfl) (by rfl) (fun z => by cases z) (by decide)))
    (pss_cons (ps_for PassesOwn.never rfl (pi_list (pv 1)) (pg_tup rfl (pgs_cons (pg_name (i := 3) sc_come_to.nd rfl (.inl rfl)) (pgs_cons (pg_name (i := 4) sc_come_to.nd rfl (.inl rfl)) pgs_nil)))
      (pss_one (ps_if (pt_cmp (pc_din hu (pv 3) (pv 2))) (pss_one (ps_dput hu (pv 2) (pv 4) pe_bl rfl)) pss_nil)))
    (pss_one (ps_ret (pv 2))))), ?_⟩
  refine fun d hd => ⟨upd_same, [(Sum.inl 0, .bl true)], rfl, by decide, ?_⟩
  have hda : a ≠ d := ne_of_none ha hd
  refine ⟨_, rfl, a, rfl, ⟨vs, .inl (.inl (by rw [upd_ne hda, upd_ne hda]; exact ha))⟩, for_list (K := K) (a := a) (xs := vs) (fun i σ H' => ∃ kvs x y, σ = [some (.int n), some (.ref a), some (.ref d), x, y] ∧ Same H H' ∧ H' d = some (.dK kvs) ∧ KS kvs ((js.take i).foldl toStep [0]) ∧ kvs.length ≤ i + 1)
    ⟨[(Sum.inl 0, .bl true)], none, none, rfl, Same.upd (Same.new hd) hd, upd_same, fun n => ?_, Nat.le_refl _⟩ (fun i σ H' _ ⟨kvs, x, y, _, k, _⟩ => .inl (.inl (k _ _ ha))) ?_ ?_⟩
  · show (valV [(Sum.inl (0 : Int), V.bl true)] (Sum.inl (n : Int))).isSome = decide (n ∈ [0])
    by_cases e : n = 0
    · subst e; rfl
    · have e2 : ¬ (Sum.inl (0 : Int) : Key) = Sum.inl (n : Int) := fun z => e (by injection z with z; omega)
      rw [valV_neg (p := ((Sum.inl (0 : Int) : Key), V.bl true)) e2]
      simp [valV, e]
  · rintro i v σ H' hi ⟨kvs, x, y, rfl, k, hkd, hks, hkl⟩
    obtain ⟨q', hq', p, rfl, hp⟩ := hv.get hi
    rw [List.getElem?_map] at hq'
    cases ej : js[i]? with
    | none => rw [ej] at hq'; cases hq'
    | some j =>
    rw [ej] at hq'
    cases hq'
    have hil := (List.getElem?_eq_some_iff.mp ej).1
    have ht1 : (js.take (i + 1)).foldl toStep [0] = toStep ((js.take i).foldl toStep [0]) j := by
      rw [List.take_add_one, ej, List.foldl_append]; rfl
    refine ⟨p, _, rfl, .inl (.inl (k _ _ hp)), rfl, _, _, rfl, _, _, rfl, rfl, ?_⟩
    refine ⟨_, rfl, _, rfl, d, _, rfl, DGet.k (k := Sum.inl (j.1 : Int)) hkd, _, rfl, ?_⟩
    rw [hks j.1]
    by_cases hin : j.1 ∈ (js.take i).foldl toStep [0]
    · rw [decide_eq_true hin]
      refine ⟨_, rfl, _, rfl, d, _, rfl, DPut.k (k := Sum.inl (j.2 : Int)) hkd (Nat.lt_of_le_of_lt hkl (by have := small1000 (n := 1000) (by decide); omega)), ?_⟩
      refine ⟨_, _, _, rfl, Same.upd k hd, upd_same, ?_, ?_⟩
      · rw [ht1, toStep, if_pos hin]
        exact hks.put j.2 (.bl true)
      · have := length_putK kvs (Sum.inl (j.2 : Int) : Key) (V.bl true)
        omega
    · rw [decide_eq_false hin]
      refine ⟨kvs, _, _, rfl, k, hkd, ?_, by omega⟩
      rw [ht1, toStep, if_neg hin]
      exact hks
  · rintro σ H' ⟨kvs, x, y, rfl, k, hkd, hks, _⟩
    refine ⟨_, rfl, q d kvs H' k hd hkd ?_⟩
    have e : vs.length = js.length := by rw [hv.len, List.length_map]
    rw [e, List.take_length] at hks
    exact hks
end
end Rl

set_option Elab.async false
set_option linter.all false
set_option maxRecDepth 100000
set_option maxHeartbeats 4000000
/-! D3d: dict comprehensions whose keys are tuples; sorted of such a dict (turned from the kit's for ints and texts). -/
namespace Rl
open PySem PySem.Spec PyProof.Rows L2
theorem d_dictSetT {X : Cx} {pins : List (Addr × Obj)} {σ : L2.St} {H : Hp} {s : Shared} {E : Value → Shared → Prop} {D b : Addr} {kvs : List (List Key × V)} {k : List Key} {v : V} {u r : Value} {Q : Unit → Shared → Prop} (hu : X.A.units + 1 < cLine) (I : Inv X pins σ H s) (hD : H D = some (.dT kvs)) (hz : kvs.length < sizeLine)
    (hb : H b = some (.tup (k.map kV))) (ry : RelV (.ref b) u) (rv : RelV v r) (h : ∀ s', Inv X pins σ (upd H D (.dT (putK kvs k v))) s' → Q () s') : wpAny (model X.prog X.w) X.A (dictSet D u r) Q E s := by
  cases (show u = Value.ref b from ry)
  obtain ⟨z, hd, xs, rel, dd⟩ := dt_of I.hok hD
  have hzx : xs.length ≤ sizeLine := by rw [← Paired.length rel]; exact z
  have hl : (putK kvs k v).length ≤ sizeLine := by have := length_putK kvs k v; omega
  unfold dictSet
  try with_reducible refine wpAny_holding ?_
  refine wpAny_bind (HeapKind.pyHash _ (show X.A.units < cLine from Nat.lt_of_succ_lt hu) (key_of I.hok hb) ?_)
  refine wpAny_dictSetHashed_heap (hsz := hzx) (show X.A.units < cLine from Nat.lt_of_succ_lt hu) (key_of I.hok hb) dd fun h' dd' hs => h _ ?_
  obtain ⟨q, es, ep, hq, h2, h3, h4, _, h5⟩ := dd'
  refine d_write (I.tok _) (by rw [hD]; exact True.intro) hs ⟨q, hq⟩ ⟨hl, hd, _, (rel.put k hb rv).keeps fun c ys ec => ?_, q, es, ep, hq, h2, h3, h4, h5⟩
  rw [upd_ne (ne_of ec hD (fun z => nomatch z))]
  exact ec
section
variable {X : Cx}
/-- {k: v for target in iter if ..}, keys tuples: D the new dict -/
def tDct (wi : TI) (g : TG) (tt : TT) (tk tv : TE) (vs : List Nat) : TE := fun σ H Q => wi σ H fun J H1 => ∀ D, H1 D = none → ∃ W : Nat → Nat → Hp → Prop, (∃ m, W 0 m (upd H1 D (.dT []))) ∧ ∀ i m H, W i m H →
  (J.stop i H ∧ Q (.ref D) H) ∨ (J.go i H ∧ ∃ Nx : Hp → Prop, (∀ H', Nx H' → ∃ m', m' < m ∧ W (i + 1) m' H') ∧ ∀ x H', J.yld i H x H' → g x (wipe σ vs) H' fun σ2 H2 => wipe σ2 vs = wipe σ vs ∧ tt σ2 H2 fun b H3 =>
    if b = true then tk σ2 H3 fun y H4 => tv σ2 H4 fun z H5 => ∃ kvs k b, y = .ref b ∧ H5 b = some (.tup (k.map kV)) ∧ H5 D = some (.dT kvs) ∧ kvs.length < sizeLine ∧ Nx (upd H5 D (.dT (putK kvs k z))) else Nx H3)
theorem dct_core {pins : List (Addr × Obj)} {s : Shared} {σ : L2.St} {H : Hp} {Q : VK} {kx vx tg iter : Expr} {ifs : List Expr} {scope : Scope} {own : List (Str × Nat)} {pos pos' : Pos} {wi : TI} {g : TG} {tt : TT} {tk tv : TE} {use : Option (Value → Sem Unit)} {Qf : Value → Shared → Prop}
    (hu : X.A.units + 1 < cLine) (hc : X.calm = true) (hN : X.N.Nodup) (I : Inv X pins σ H s) (hi : PI X tg iter wi) (ok : BlkOk X.N X.env.scope scope own)
    (hg : ∀ (s : Shared) (H : Hp) (C : Addr) (cl : List (Str × Addr)) (fp : List Addr), PG (X.blk s H scope (compEnvC scope cl C X.env) fp) tg g) (ht : ∀ (s : Shared) (H : Hp) (C : Addr) (cl : List (Str × Addr)) (fp : List Addr), PTs (X.blk s H scope (compEnvC scope cl C X.env) fp) ifs tt)
    (hk : ∀ (s : Shared) (H : Hp) (C : Addr) (cl : List (Str × Addr)) (fp : List Addr), PE (X.blk s H scope (compEnvC scope cl C X.env) fp) kx tk)
    (he : ∀ (s : Shared) (H : Hp) (C : Addr) (cl : List (Str × Addr)) (fp : List Addr), PE (X.blk s H scope (compEnvC scope cl C X.env) fp) vx tv) (hs : ∀ x, foldedSetIterable iter X.env x = pure x)
    (h : tDct wi g tt tk tv (own.map (·.2)) σ H Q)
    (hfin : ∀ D C s' m H', Inv X pins σ H' s' → Q (.ref D) H' → s'.heap.Ns C m → FpOk X pins H' C → compPost (model X.prog X.w) X.A X.xe use Qf (.ref D) C (.ok .next) s') :
    wpAny (model X.prog X.w) X.A (comprehension (.DictComp kx vx [⟨tg, iter, ifs, 0⟩] scope pos) scope X.env pos' newDict false (eval iter X.env) use) Qf X.xe s := by
  have free0 : ∀ y ∈ scope.names, y.2 = .free → ∃ c, X.env.cells.lookup y.1 = some c := fun y hy e => by
    rcases ok.free y hy e with k | k
    · exact I.ok.has _ (.inl k)
    · exact I.ok.has _ (.inr k)
  refine wpAny_comprehension_free (use := use) rfl hs (closure_ok free0) ok.kind (fun y hy e => by rw [ok.uniq y hy, e])
    (thn (hi.run pins s σ H _ I h) fun xv z1 hx => thn hx fun itv z2s h2 => ?_)
  obtain ⟨it, fp, tn, J, G2, e, J2, T, t2, ff2, q⟩ := h2
  subst e
  refine wpAny_newObj_type (newEnv_comp ?_)
  generalize hD : z2s.heap.objs.size = D
  have dN : G2 D = none := J2.hok.fresh (Nat.le_of_eq hD)
  obtain ⟨W, ⟨m0, w0⟩, trn⟩ := q D dN
  -- the new list
  generalize hs3 : ({ z2s with heap := z2s.heap.push { cls := .type "dict", data := .dict #[] } } : Shared) = z3
  have J3 : Inv X pins σ (upd G2 D (.dT [])) z3 := by
    rw [← hs3]
    refine J2.laid (t' := z2s.toks) (fun b o e => Heap.get?_push_of_some _ e) (Nat.le_of_eq hD) ?_
    rw [← hD]
    exact dt_empty z2s.heap J2.big
  have h3 : z3.heap = z2s.heap.push { cls := .type "dict", data := .dict #[] } := by rw [← hs3]
  have sz : ∀ b ∈ fp, b < z2s.heap.objs.size := fun b hb => by
    obtain ⟨o, e, _⟩ := T.obj _ _ t2 b hb
    exact Heap.lt_size e
  have ff3 : ∀ b ∈ fp, FpOk X pins (upd G2 D (.dT [])) b ∧ b < z3.heap.objs.size := fun b hb => by
    have hlt := sz b hb
    refine ⟨⟨?_, (ff2 b hb).2⟩, by rw [h3, Heap.size_push]; exact Nat.lt_succ_of_lt hlt⟩
    rw [upd_ne (by rw [← hD]; exact Nat.ne_of_lt hlt)]
    exact (ff2 b hb).1
  have t3 : tn 0 z3.heap := T.keep _ _ _ t2 fun b _ o e => by rw [h3]; exact Heap.get?_push_of_some _ e
  have J4 := block_start J3 ok hN ff3
  have rg := hg z3 (upd G2 D (.dT [])) z3.heap.objs.size (cellsFrom (z3.heap.objs.size + 1) scope.names (cloFrom X.env.cells scope.names [])) fp
  have rt0 := ht z3 (upd G2 D (.dT [])) z3.heap.objs.size (cellsFrom (z3.heap.objs.size + 1) scope.names (cloFrom X.env.cells scope.names [])) fp
  have rk := hk z3 (upd G2 D (.dT [])) z3.heap.objs.size (cellsFrom (z3.heap.objs.size + 1) scope.names (cloFrom X.env.cells scope.names [])) fp
  have re := he z3 (upd G2 D (.dT [])) z3.heap.objs.size (cellsFrom (z3.heap.objs.size + 1) scope.names (cloFrom X.env.cells scope.names [])) fp
  show codeAny _ _ (.compStart (.DictComp kx vx [⟨tg, iter, ifs, 0⟩] scope pos) 0 (.ref it) (.ref D) (compEnvC scope (cellsFrom (z3.heap.objs.size + 1) scope.names (cloFrom X.env.cells scope.names [])) z3.heap.objs.size X.env)) (compPost (model X.prog X.w) X.A X.xe use Qf (.ref D) z3.heap.objs.size) { z3 with heap := pushCells (z3.heap.push { cls := .type "dict", data := .dict #[] }) scope.names }
  have nff : ∀ b ∈ fp, (upd G2 D (.dT [])) b = none := fun b hb => (ff3 b hb).1.1
  generalize hce : compEnvC scope (cellsFrom (z3.heap.objs.size + 1) scope.names (cloFrom X.env.cells scope.names [])) z3.heap.objs.size X.env = ce at J4 rg rt0 rk re ⊢
  have cloc : ce.locals = z3.heap.objs.size := by subst hce; rfl
  generalize hH3 : upd G2 D (.dT []) = G3 at J3 J4 rg rt0 rk re w0 nff ff3
  generalize hs4 : ({ z3 with heap := pushCells (z3.heap.push { cls := .type "dict", data := .dict #[] }) scope.names } : Shared) = z4 at J4 ⊢
  have t4 : tn 0 z4.heap := T.keep _ _ _ t3 fun b _ o e => by rw [← hs4]; exact pushCells_keeps _ _ _ _ (Heap.get?_push_of_some _ e)
  have fpo : ∀ {σ' : L2.St} {H' : Hp} {s' : Shared}, Inv (X.blk z3 G3 scope ce fp) [] σ' H' s' → (∀ b ∈ fp, H' b = none) → ∀ b ∈ fp, FpOk (X.blk z3 G3 scope ce fp) [] H' b := fun {σ' H' s'} I' hn b hb =>
    ⟨hn b hb, (I'.ok.exf b hb).1, I'.ok.exfs b hb, .inl hb, fun x c e => (I'.ok.exf b hb).2 x c e, fun p hp => absurd (show p ∈ ([] : List (Addr × Obj)) ++ [] from hp) (by simp)⟩
  have loop : codeAny (model X.prog X.w) X.A (.compLoop (.DictComp kx vx [⟨tg, iter, ifs, 0⟩] scope pos) 0 (.ref it) (.ref D) ce) (compPost (model X.prog X.w) X.A X.xe use Qf (.ref D) z3.heap.objs.size) z4 := by
    refine compLoop_anyD (fun n s' => ∃ i H', Inv (X.blk z3 G3 scope ce fp) [] (wipe σ (own.map (·.2))) H' s' ∧ tn i s'.heap ∧ (∀ b ∈ fp, H' b = none) ∧ W i n H') ?_ m0 ⟨0, G3, J4, t4, nff, w0⟩
    rintro n z5 ⟨i, G5, J5, t5, m5, v5⟩
    rcases trn i n G5 v5 with ⟨stop, qq⟩ | ⟨go, Nx, hNx, step⟩
    · have td := T.done (X.blk z3 G3 scope ce fp) rfl rfl rfl hc i [] z5 _ G5 (fun _ _ => False) J5 (fpo J5 m5) t5 stop
      refine thnF td fun r z6 ⟨hr, J6⟩ => ?_
      subst hr
      -- back in the def's context
      have J7 : Inv X pins σ G5 z6 := J3.call' (ch := fp) J6.os J6.base J6.hok J6.bare fun b hb => ⟨(ff3 b hb).1.2.2.2.1, (ff3 b hb).1.2.1, (ff3 b hb).1.2.2.2.2.1, (ff3 b hb).1.2.2.2.2.2⟩
      have nC : G5 z3.heap.objs.size = none := by
        have z : G5 ce.locals = none := J6.free
        rw [cloc] at z
        exact z
      obtain ⟨m, hn, _⟩ := J6.loc
      have hn : z6.heap.Ns ce.locals m := hn
      rw [cloc] at hn
      exact hfin D z3.heap.objs.size z6 m G5 J7 qq hn (J3.fpOk (Nat.le_refl _) nC)
    · have ti := T.item (X.blk z3 G3 scope ce fp) rfl rfl rfl hc i [] z5 _ G5 (fun _ _ => False) J5 (fpo J5 m5) t5 go
      refine thnF ti fun r z6 ⟨u, hr, h6⟩ => ?_
      subst hr
      refine thnF h6 fun _ z7 ⟨x, G7, J7, r7, y7, t7, m7⟩ => ?_
      have J7p := J7.pinned (fpo J7 m7) (T.obj _ _ t7)
      refine thnF (rg.run _ z7 _ G7 x u _ J7p r7 (step x G7 y7)) fun _ z8 ⟨σ8, G8, J8, hw8, k8⟩ => ?_
      refine thnF (rt0.run _ z8 σ8 G8 _ J8 k8) fun b z9 ⟨G9, J9, k9⟩ => ?_
      -- the turn's end
      have fin : ∀ {s' : Shared} {H' : Hp}, Inv (X.blk z3 G3 scope ce fp) ([] ++ pinsAt fp z7.heap) σ8 H' s' → Nx H' → ∃ m, m < n ∧ ∃ i H', Inv (X.blk z3 G3 scope ce fp) [] (wipe σ (own.map (·.2))) H' s' ∧ tn i s'.heap ∧ (∀ b ∈ fp, H' b = none) ∧ W i m H' := fun {s' H'} I' nx => by
        obtain ⟨m', hm, w'⟩ := hNx H' nx
        have pin' : ∀ b ∈ fp, ∀ o, z7.heap.get? b = some o → s'.heap.get? b = some o ∧ H' b = none := fun b hb o e =>
          let z := I'.pin (b, o) (List.mem_append_right _ (List.mem_append_right _ (mem_pinsAt hb e)))
          ⟨z.1, z.2.1⟩
        have hl : (wipe σ (own.map (·.2))).length = σ8.length := by rw [← hw8, wipe_length]
        refine ⟨m', hm, i + 1, H', (I'.unpinned (pins := [])).weak hl (fun j v e => ?_), T.keep _ _ _ t7 fun b hb o e => (pin' b hb o e).1, fun b hb => ?_, w'⟩
        · rw [← hw8] at e
          exact (wipe_some e).1
        · obtain ⟨o, e, _⟩ := T.obj _ _ t7 b hb
          exact (pin' b hb o e).2
      cases b with
      | false =>
        simp only [Bool.false_eq_true, if_false] at k9 ⊢
        exact fin J9 k9
      | true =>
        simp only [if_true] at k9 ⊢
        refine thnF (rk.run _ z9 σ8 G9 _ J9 k9) fun z z10 ⟨yk, G10, J10, r10, q10⟩ => ?_
        refine thnF (re.run _ z10 σ8 G10 _ J10 q10) fun z2 z11 ⟨yv, G11, J11, r11, kvs, k, bk, ek, hbk, hD11, hz11, nx⟩ => ?_
        subst ek
        exact d_dictSetT (X := X.blk z3 G3 scope ce fp) hu J11 hD11 hz11 hbk r10 r11 fun z12 J12 => fin J12 nx
  exact codeAny_compStart_dict loop (T.self X.A 0 _ _ _ t4 loop)
/-- as a value -/
theorem pe_dct {kx vx tg iter : Expr} {ifs : List Expr} {scope : Scope} {own : List (Str × Nat)} {pos : Pos} {wi : TI} {g : TG} {tt : TT} {tk tv : TE} (hu : X.A.units + 1 < cLine) (hc : X.calm = true) (hN : X.N.Nodup) (hi : PI X tg iter wi) (ok : BlkOk X.N X.env.scope scope own)
    (hg : ∀ (s : Shared) (H : Hp) (C : Addr) (cl : List (Str × Addr)) (fp : List Addr), PG (X.blk s H scope (compEnvC scope cl C X.env) fp) tg g) (ht : ∀ (s : Shared) (H : Hp) (C : Addr) (cl : List (Str × Addr)) (fp : List Addr), PTs (X.blk s H scope (compEnvC scope cl C X.env) fp) ifs tt)
    (hk : ∀ (s : Shared) (H : Hp) (C : Addr) (cl : List (Str × Addr)) (fp : List Addr), PE (X.blk s H scope (compEnvC scope cl C X.env) fp) kx tk)
    (he : ∀ (s : Shared) (H : Hp) (C : Addr) (cl : List (Str × Addr)) (fp : List Addr), PE (X.blk s H scope (compEnvC scope cl C X.env) fp) vx tv) (hs : ∀ x, foldedSetIterable iter X.env x = pure x := by intro _; rfl) :
    PE X (.DictComp kx vx [⟨tg, iter, ifs, 0⟩] scope pos) (tDct wi g tt tk tv (own.map (·.2))) := by
  refine ⟨fun pins s σ H Q I h => ?_⟩
  rw [arm_eval_DictComp]
  refine dct_core hu hc hN I hi ok hg ht hk he hs h fun D C s' m H' I' q hn f => ⟨m, hn, fun h'' sb => ?_⟩
  obtain ⟨f0, f1, ff2, ff3, f4, f5⟩ := f
  exact ⟨.ref D, H', I'.turned (t' := s'.toks) (fun b o hb e => (sb.2 b hb).trans e) f0 f1 ff3 f4 f5, rfl, q⟩
end
/-! ### sorted(d) -/
abbrev jk (j : J) : List Key := [Sum.inl (j.1 : Int), Sum.inl (j.2 : Int)]
/-- the table of these jumps -/
def tbl (js : List J) : List (List Key × V) := js.map fun j => (jk j, V.bl true)
def lexLe (a b : J) : Prop := a.1 < b.1 ∨ (a.1 = b.1 ∧ a.2 ≤ b.2)
def pairAt (H : Hp) (v : Value) : Int × Int := match v with
  | .ref b => (match H b with
    | some (.tup [.int x, .int y]) => (x, y)
    | _ => (0, 0))
  | _ => (0, 0)
theorem pairAt_tp {H : Hp} {b : Addr} {j : J} (h : H b = some (.tup (It (jl j)))) : pairAt H (.ref b) = ((j.1 : Int), (j.2 : Int)) := by
  show (match H b with
    | some (.tup [.int x, .int y]) => (x, y)
    | _ => ((0 : Int), (0 : Int))) = _
  rw [h]
  rfl
theorem isKeys_tp {H : Hp} : ∀ {js : List J} {bs : List Addr}, IsKeys H (tbl js) bs → TpAll H (bs.map V.ref) (js.map jl)
  | [], bs, h => by
    cases (show Paired _ [] bs from h)
    trivial
  | j :: js, bs, h => by
    cases (show Paired _ ((jk j, V.bl true) :: tbl js) bs from h) with
    | cons h1 h2 => exact ⟨⟨_, rfl, h1⟩, isKeys_tp (js := js) h2⟩
section
variable {X : Cx}
def rSortT : List V → Hp → VK → Prop := fun xs H Q => ∃ (d : Addr) (js : List J), xs = [.ref d] ∧ H d = some (.dT (tbl js)) ∧
  ∀ (p : Addr) (js' : List J) (vs : List V), H p = none → js'.Perm js → js'.Pairwise lexLe → TpAll H vs (js'.map jl) → Q (.ref p) (upd H p (.lst vs))
theorem call_sortT (hcalm : X.calm = true) : CallR X (.builtin "sorted") rSortT := by
  intro pins s σ H xs us Q I r q
  obtain ⟨d, js, ex, hd, q⟩ := q
  subst ex
  obtain ⟨u, eu, rx⟩ := vals1 r
  subst eu
  cases rx
  obtain ⟨z, hs, ks, pr, o, es, ep, ho, hx, hdt, he, hn⟩ := (show ObjOk X.prog X.w H s.heap d (.dT (tbl js)) from I.hok d _ hd)
  have l1 : es.size = ks.length := size_of_entries he
  have l2 : (tbl js).length = ks.length := Paired.length pr
  have h16 : es.size ≤ sizeLine := by omega
  have bks := isKeys_of pr
  refine Calls.call_function_entry PyProof.Rows.kind_sorted PyProof.Rows.plain_sorted PyProof.Rows.entry_sorted (PyProof.Rows.args_sorted1 _) ?_
  unfold Builtin.«sorted»
  refine wpAny_bind (m := checkCount "sorted" 1 1 _) (wpAny_pure ?_)
  refine wpAny_bind (PySem.W.kdu_collect (A := X.A.in1) (kdl_raw hs hx hdt) (I.ok.hd hcalm) ho h16 fun h' tk acc hk hacc => ?_)
  have ea : acc.toList = (ks.map fun x => x.2.1).map Value.ref := by
    have hl : acc.toList.length = ks.length := by rw [Array.length_toList, hacc.1]; exact l1
    apply List.ext_getElem?
    intro j
    rw [List.map_map, List.getElem?_map]
    cases hj : acc.toList[j]? with
    | none =>
      have h1 := List.getElem?_eq_none_iff.mp hj
      rw [List.getElem?_eq_none (by omega)]
      rfl
    | some v =>
      obtain ⟨en, hen, hv⟩ := hacc.2 j v (by rw [← Array.getElem?_toList]; exact hj)
      have qe := entry_at he j
      rw [hen] at qe
      cases hb : ks[j]? with
      | none =>
        rw [hb] at qe
        exact nomatch (show some en = none from qe)
      | some b =>
        rw [hb] at qe
        have e2 : en = entryOfKey (tupleKind (mixKind X.prog X.w)) b := Option.some.inj qe
        rw [hv, e2]
        rfl
  generalize hbs : (ks.map fun x => x.2.1) = bs at ea bks
  have htp := isKeys_tp bks
  have hlen : bs.length = js.length := by
    have := htp.len
    rw [List.length_map, List.length_map] at this
    exact this
  have h16' : acc.toList.length ≤ sizeLine := by rw [Array.length_toList, hacc.1]; exact h16
  -- each value's pair
  have hpair : ∀ (i : Nat) (v : Value), acc.toList[i]? = some v → ∃ j : J, js[i]? = some j ∧ pairAt H v = ((j.1 : Int), (j.2 : Int)) ∧ ∃ b, v = .ref b ∧ H b = some (.tup (It (jl j))) := fun i v hv => by
    rw [ea, List.getElem?_map] at hv
    cases hb : bs[i]? with
    | none => rw [hb] at hv; cases hv
    | some b =>
      rw [hb] at hv
      cases hv
      obtain ⟨q', hq', p, ep', hp⟩ := htp.get (i := i) (v := .ref b) (by rw [List.getElem?_map, hb]; rfl)
      cases ep'
      rw [List.getElem?_map] at hq'
      cases hj : js[i]? with
      | none => rw [hj] at hq'; cases hq'
      | some j =>
        rw [hj] at hq'
        cases hq'
        exact ⟨j, rfl, pairAt_tp hp, b, rfl, hp⟩
  have hmem : ∀ v ∈ acc.toList, ∃ (j : J) (b : Addr), pairAt H v = ((j.1 : Int), (j.2 : Int)) ∧ v = .ref b ∧ H b = some (.tup (It (jl j))) := fun v hv => by
    obtain ⟨i, hi, e⟩ := List.mem_iff_getElem.mp hv
    obtain ⟨j, _, h1, b, h2, h3⟩ := hpair i v (by rw [List.getElem?_eq_getElem hi, e])
    exact ⟨j, b, h1, h2, h3⟩
  have I1 : Inv X pins σ H { s with heap := h', toks := tk } := I.kept hk
  refine wpAny_bind (wpAny_newList ?_ h16')
  have hoL : (h'.push (seqObj "list" acc.toList.toArray 0)).get? h'.objs.size = some (seqObj "list" acc.toList.toArray 0) := Heap.get?_push_size _ rfl
  show wpAny _ _ _ _ _ { s with heap := h'.push (seqObj "list" acc.toList.toArray 0), toks := tk }
  have kpL : ∀ b o, h'.get? b = some o → (h'.push (seqObj "list" acc.toList.toArray 0)).get? b = some o := fun b o e => Heap.get?_push_of_some _ e
  have isp : ∀ v ∈ acc.toList, Srt.IsPair (h'.push (seqObj "list" acc.toList.toArray 0)) v (pairAt H v).1 (pairAt H v).2 := fun v hv => by
    obtain ⟨j, b, e1, rfl, hb⟩ := hmem v hv
    obtain ⟨_, its2, r2, o2, ho2, hc2, n2, hd2⟩ := I1.hok _ _ hb
    obtain ⟨u1, u2, rfl, ri, rj⟩ := vals2 r2
    obtain ⟨t1, rfl⟩ := ri
    obtain ⟨t2, rfl⟩ := rj
    rw [e1]
    exact ⟨b, o2, t1, t2, n2, rfl, kpL _ _ ho2, hc2, hd2⟩
  refine wpAny_bind (wpAny_holding (wpAny_call_entry PyProof.Rows.slot_list_sort ⟨_, hoL, rfl⟩ PyProof.Rows.entry_list_sort
    (SrtO.list_sort_ord (SrtO.swo_lex (pairAt H)) hoL h16' (fun h2 => SrtO.pairs_sortableO (s := { s with heap := h'.push (seqObj "list" acc.toList.toArray 0), toks := tk }) (by omega) isp fun o e => ?_) fun out hsr hst => ⟨_, rfl, ?_⟩) (PyProof.Rows.args_list_sort _)))
  · have e' : some o = some (seqObj "list" acc.toList.toArray 0) := e.symm.trans hoL
    cases e'
    intro c
    exact absurd (Value.type.inj c) (by decide)
  obtain ⟨e2, he2⟩ := PyProof.Rows.sortedHeap_at (vs := acc.toList) (out := out.toArray) hoL
  have hom : ∀ v ∈ out, ∃ (j : J) (b : Addr), pairAt H v = ((j.1 : Int), (j.2 : Int)) ∧ v = .ref b ∧ H b = some (.tup (It (jl j))) := fun v hv => hmem v (hst.perm.mem_iff.mp hv)
  -- back to values
  let nat2 : Value → J := fun v => ((pairAt H v).1.toNat, (pairAt H v).2.toNat)
  let bk : Value → V := fun v => match v with | .ref b => .ref b | _ => .non
  have ejs : acc.toList.map nat2 = js := by
    apply List.ext_getElem?
    intro i
    rw [List.getElem?_map]
    cases hv : acc.toList[i]? with
    | none =>
      have h1 := List.getElem?_eq_none_iff.mp hv
      rw [ea, List.length_map, hlen] at h1
      rw [List.getElem?_eq_none h1]
      rfl
    | some v =>
      obtain ⟨j, hj, e1, _⟩ := hpair i v hv
      rw [hj]
      show some ((pairAt H v).1.toNat, (pairAt H v).2.toNat) = some j
      rw [e1]
      rfl
  have hvs : ∀ l : List Value, (∀ v ∈ l, ∃ (j : J) (b : Addr), pairAt H v = ((j.1 : Int), (j.2 : Int)) ∧ v = .ref b ∧ H b = some (.tup (It (jl j)))) → Vals (l.map bk) l ∧ TpAll H (l.map bk) ((l.map nat2).map jl) := by
    intro l
    induction l with
    | nil => intro _; exact ⟨.nil, trivial⟩
    | cons v l ih =>
      intro hl
      obtain ⟨j, b, e1, rfl, hb⟩ := hl v List.mem_cons_self
      obtain ⟨r1, r2⟩ := ih fun w hw => hl w (List.mem_cons_of_mem _ hw)
      refine ⟨.cons rfl r1, ⟨b, rfl, ?_⟩, r2⟩
      show H b = some (.tup (It (jl ((pairAt H (.ref b)).1.toNat, (pairAt H (.ref b)).2.toNat))))
      rw [e1]
      exact hb
  obtain ⟨rv, rt⟩ := hvs out hom
  have hlo : (out.map bk).length ≤ sizeLine := by rw [List.length_map, hst.perm.length_eq]; exact h16'
  refine wpAny_pure ⟨_, rfl, .ref h'.objs.size, upd H h'.objs.size (.lst (out.map bk)), I1.laid (t' := tk) (fun b u e => ?_) (Nat.le_refl _)
    (show ObjOk X.prog X.w _ _ _ (.lst (out.map bk)) from ⟨hlo, out, e2, rv, he2⟩), rfl, q _ (out.map nat2) (out.map bk) (I1.hok.fresh (Nat.le_refl _)) ?_ ?_ rt⟩
  · have hb : b < h'.objs.size := Heap.lt_size e
    rw [PyProof.Rows.sortedHeap_old (Nat.ne_of_lt hb) (by rw [size_push']; exact Nat.lt_succ_of_lt hb)]
    exact kpL _ _ e
  · rw [← ejs]
    exact hst.perm.map nat2
  · rw [List.pairwise_map]
    refine hsr.imp_of_mem fun {a b} ha hb hlt => ?_
    obtain ⟨j1, _, p1, _⟩ := hom a ha
    obtain ⟨j2, _, p2, _⟩ := hom b hb
    have hlt : SrtO.lexB (pairAt H b) (pairAt H a) = false := hlt
    rw [p1, p2] at hlt
    have hlt' := SrtO.lexB_no.mp hlt
    show lexLe ((pairAt H a).1.toNat, (pairAt H a).2.toNat) ((pairAt H b).1.toNat, (pairAt H b).2.toNat)
    rw [p1, p2]
    show lexLe (j1.1, j1.2) (j2.1, j2.2)
    unfold lexLe
    simp only at hlt' ⊢
    omega
end
end Rl

set_option Elab.async false
set_option linter.all false
set_option maxRecDepth 100000
set_option maxHeartbeats 1000000
/-! D4: come_from, useful_jumps, going_on. -/
namespace Rl
open PySem PySem.Spec PyProof.Rows L2
section
variable {P : Program} {w : World} {K : PySem.W.Frag} {mg : Str → Option Value} {base : Heap}
theorem TpAll.rev {H : Hp} : ∀ {vs : List V} {qs : List (List Nat)}, TpAll H vs qs → TpAll H vs.reverse qs.reverse
  | [], [], _ => trivial
  | v :: vs, q :: qs, ⟨h, r⟩ => by
    rw [List.reverse_cons, List.reverse_cons]
    exact TpAll.snoc h r.rev
theorem KS.one (m : Nat) : KS [(Sum.inl (m : Int), V.bl true)] [m] := fun n => by
  by_cases e : n = m
  · subst e
    rw [valV_pos (p := ((Sum.inl (n : Int) : Key), V.bl true)) rfl]
    simp
  · have e2 : ¬ (Sum.inl (m : Int) : Key) = Sum.inl (n : Int) := fun z => e (by injection z with z; omega)
    rw [valV_neg (p := ((Sum.inl (m : Int) : Key), V.bl true)) e2]
    simp [valV, e]

/-! ### come_from -/
def sp_come_from : Sp := fun vs H Q _ => ∃ (n : Nat) (a : Addr) (js : List J), vs = [.int (n : Int), .ref a] ∧ 1 ≤ n ∧ TL H a (js.map jl) ∧ js.length ≤ 1000 ∧ ∀ d kvs H', Same H H' → H d = none → H' d = some (.dK kvs) → KS kvs (comeFrom n js) → Q (.ref d) H'
theorem sc_come_from : FnScope ["blocks", "jumps", "found", "u", "v"] ["blocks", "jumps"] (defScope s_come_from) := ⟨rfl, rfl, rfl, by decide +kernel, rfl, by decide +kernel, by decide +kernel⟩
theorem ok_come_from (T : Tx K mg) : Ok P w K mg base CX0 1 (He.ga K "come_from") ["blocks", "jumps"] sp_come_from := by
  refine ok_of (d := d_come_from) T (fnAt0 (i := 5) rfl) rfl rfl sc_come_from (fun vs H Q E h => ?_) (fun _ _ _ _ _ _ us hl => match us, hl with | [_, _], _ => rfl) fun cdv A outer s H vs Q E hr h => ?_
  · obtain ⟨_, _, _, rfl, _⟩ := h; rfl
  obtain ⟨n, a, js, rfl, hn, ⟨vs, ha, hv⟩, hlen, q⟩ := h
  have hu := hu_of hr
  refine ⟨_, PSs.nox (pss_cons (ps_set (i := 2) sc_come_from.nd rfl (Or.inl rfl) (pe_disp (pps_cons (pe_op op_sub (pv 0) pe_int) pe_bl pps_nil) (by rfl) (by rfl) (fun z => by cases z) (by decide)))
    (pss_cons (ps_for PassesOwn.never rfl (pi_list (pe_revL (pv 1))) (pg_tup rfl (pgs_cons (pg_name (i := 3) sc_come_from.nd rfl (.inl rfl)) (pgs_cons (pg_name (i := 4) sc_come_from.nd rfl (.inl rfl)) pgs_nil)))
      (pss_one (ps_if (pt_cmp (pc_din hu (pv 4) (pv 2))) (pss_one (ps_dput hu (pv 2) (pv 3) pe_bl rfl)) pss_nil)))
    (pss_one (ps_ret (pv 2))))), ?_⟩
  have hn1 : ((n : Int) - 1) = ((n - 1 : Nat) : Int) := by omega
  refine fun d hd => ⟨_, rfl, _, _, rfl, rfl, upd_same, [(Sum.inl ((n - 1 : Nat) : Int), .bl true)], by show [(V.int ((n : Int) - 1), V.bl true)] = [(V.int ((n - 1 : Nat) : Int), V.bl true)]; rw [hn1], show 1 ≤ 15 by decide, ?_⟩
  have hda : a ≠ d := ne_of_none ha hd
  refine ⟨_, rfl, a, vs, rfl, .inl (.inl (by rw [upd_ne hda, upd_ne hda]; exact ha)), fun l hl => ?_⟩
  have hld : l ≠ d := fun z => by rw [z, upd_same] at hl; cases hl
  have hl0 : H l = none := by rw [upd_ne hld, upd_ne hld] at hl; exact hl
  have hv' := hv.rev
  rw [← List.map_reverse] at hv'
  refine ⟨l, rfl, ⟨vs.reverse, .inl (.inl upd_same)⟩, for_list (K := K) (a := l) (xs := vs.reverse) (fun i σ H' => ∃ kvs x y, σ = [some (.int n), some (.ref a), some (.ref d), x, y] ∧ Same H H' ∧ H' l = some (.lst vs.reverse) ∧ H' d = some (.dK kvs) ∧ KS kvs ((js.reverse.take i).foldl fromStep [n - 1]) ∧ kvs.length ≤ i + 1)
    ⟨[(Sum.inl ((n - 1 : Nat) : Int), .bl true)], none, none, rfl, Same.upd (Same.upd (Same.new hd) hd) hl0, upd_same, by rw [upd_ne (Ne.symm hld), upd_same]; rfl, KS.one (n - 1), Nat.le_refl _⟩ (fun i σ H' _ ⟨kvs, x, y, _, _, k, _⟩ => .inl (.inl k)) ?_ ?_⟩
  · rintro i v σ H' hi ⟨kvs, x, y, rfl, k, hkl0, hkd, hks, hkl⟩
    obtain ⟨q', hq', p, rfl, hp⟩ := hv'.get hi
    rw [List.getElem?_map] at hq'
    cases ej : js.reverse[i]? with
    | none => rw [ej] at hq'; cases hq'
    | some j =>
    rw [ej] at hq'
    cases hq'
    have hil := (List.getElem?_eq_some_iff.mp ej).1
    rw [List.length_reverse] at hil
    have ht1 : (js.reverse.take (i + 1)).foldl fromStep [n - 1] = fromStep ((js.reverse.take i).foldl fromStep [n - 1]) j := by
      rw [List.take_add_one, ej, List.foldl_append]; rfl
    refine ⟨p, _, rfl, .inl (.inl (k _ _ hp)), rfl, _, _, rfl, _, _, rfl, rfl, ?_⟩
    refine ⟨_, rfl, _, rfl, d, _, rfl, DGet.k (k := Sum.inl (j.2 : Int)) hkd, _, rfl, ?_⟩
    rw [hks j.2]
    by_cases hin : j.2 ∈ (js.reverse.take i).foldl fromStep [n - 1]
    · rw [decide_eq_true hin]
      refine ⟨_, rfl, _, rfl, d, _, rfl, DPut.k (k := Sum.inl (j.1 : Int)) hkd (Nat.lt_of_le_of_lt hkl (by have := small1000 (n := 1000) (by decide); omega)), ?_⟩
      refine ⟨_, _, _, rfl, Same.upd k hd, by rw [upd_ne hld]; exact hkl0, upd_same, ?_, ?_⟩
      · rw [ht1, fromStep, if_pos hin]
        exact hks.put j.1 (.bl true)
      · have := length_putK kvs (Sum.inl (j.1 : Int) : Key) (V.bl true)
        omega
    · rw [decide_eq_false hin]
      refine ⟨kvs, _, _, rfl, k, hkl0, hkd, ?_, by omega⟩
      rw [ht1, fromStep, if_neg hin]
      exact hks
  · rintro σ H' ⟨kvs, x, y, rfl, k, _, hkd, hks, _⟩
    refine ⟨_, rfl, q d kvs H' k hd hkd ?_⟩
    have e : vs.reverse.length = js.reverse.length := by rw [hv'.len, List.length_map]
    rw [e, List.take_length] at hks
    exact hks

/-! ### useful_jumps -/
def sp_useful : Sp := fun vs H Q _ => ∃ (n : Nat) (a : Addr) (js : List J), vs = [.int (n : Int), .ref a] ∧ 1 ≤ n ∧ TL H a (js.map jl) ∧ js.length ≤ 1000 ∧ ∀ l H', Same H H' → H l = none → TL H' l ((useful n js).map jl) → Q (.ref l) H'
theorem sc_useful : FnScope ["blocks", "jumps", "ahead", "behind", "jump"] ["blocks", "jumps"] (defScope s_useful_jumps) := ⟨rfl, rfl, rfl, by decide +kernel, rfl, by decide +kernel, by decide +kernel⟩
theorem ok_useful (T : Tx K mg) : Ok P w K mg base CX0 2 (He.ga K "useful_jumps") ["blocks", "jumps"] sp_useful := by
  refine ok_of (d := d_useful_jumps) T (fnAt0 (i := 6) rfl) rfl rfl sc_useful (fun vs H Q E h => ?_) (fun _ _ _ _ _ _ us hl => match us, hl with | [_, _], _ => rfl) fun cdv A outer s H vs Q E hr h => ?_
  · obtain ⟨_, _, _, rfl, _⟩ := h; rfl
  obtain ⟨n, a, js, rfl, hn, ⟨vs, ha, hv⟩, hlen, q⟩ := h
  have hu := hu_of hr
  refine ⟨_, PSs.nox (pss_cons (ps_asg (pe_tup (pa_cons (pc (ok_come_to T) hr (T.glo 4) pass0 (pa_cons (pv 0) (pa_cons (pv 1) pa_nil))) (pa_cons (pc (ok_come_from T) hr (T.glo 5) pass0 (pa_cons (pv 0) (pa_cons (pv 1) pa_nil))) pa_nil)))
      (pg_tup rfl (pgs_cons (pg_name (i := 2) sc_useful.nd rfl (.inr rfl)) (pgs_cons (pg_name (i := 3) sc_useful.nd rfl (.inr rfl)) pgs_nil))))
    (pss_one (ps_ret (pe_lc (own := [("jump", 4)]) (g := gName 4) rfl sc_useful.nd (pi_list (pv 1)) (blkOk_by (N := ["blocks", "jumps", "ahead", "behind", "jump"]) (sc := defScope s_useful_jumps) (by decide +kernel))
      (fun _ _ _ _ _ => pg_name (i := 4) sc_useful.nd rfl (Or.inl rfl)) (fun _ _ _ _ _ => pts_one (PW.pt (pw_and (pt_cmp (pc_din hu (pe_ix (r := rIxT K) ix_tup (pv 4) pe_int (fun _ _ => rfl)) (pv 2))) (pw_and1 (pt_cmp (pc_din hu (pe_ix (r := rIxT K) ix_tup (pv 4) pe_int (fun _ _ => rfl)) (pv 3)))))))
      (fun _ _ _ _ _ => pv 4))))), ?_⟩
  refine ⟨_, rfl, _, rfl, _, a, js, rfl, ⟨vs, ha, hv⟩, hlen, fun d1 k1 H1 sm1 n1 g1 ks1 => ?_⟩
  refine ⟨_, rfl, _, rfl, n, a, js, rfl, hn, TL.same sm1 ⟨vs, ha, hv⟩, hlen, fun d2 k2 H2 sm2 n2 g2 ks2 => ?_⟩
  refine ⟨show 2 ≤ sizeLine by decide, fun t ht => ⟨t, _, rfl, .inl (.inl upd_same), rfl, _, _, rfl, _, _, rfl, rfl, ?_⟩⟩
  have sm3 : Same H (upd H2 t (.tup [.ref d1, .ref d2])) := (sm1.trans sm2).trans (Same.new ht)
  refine ⟨_, rfl, a, rfl, ⟨vs, .inl (.inl (sm3 _ _ ha))⟩, fun D hD => lc_listK (K := K) (a := a) (xs := vs) No (fun _ => True) (fun i acc H' => TpAll H' acc (((js.take i).filter fun j => decide (j.1 ∈ comeTo js) && decide (j.2 ∈ comeFrom n js)).map jl)) hD ?_ trivial (fun _ _ _ => trivial) trivial (fun H' k _ => .inl (.inl (k.same _ _ (sm3 _ _ ha)))) ?_ ?_⟩
  · have e : vs.length = js.length := by rw [hv.len, List.length_map]
    rw [e]; exact small1000 hlen
  · intro i x hx acc H' Ny Nn k _ eD hP hy hnn
    obtain ⟨q', hq', p, rfl, hp⟩ := hv.get hx
    rw [List.getElem?_map] at hq'
    cases ej : js[i]? with
    | none => rw [ej] at hq'; cases hq'
    | some j =>
    rw [ej] at hq'
    cases hq'
    have smk := sm3.trans k.same
    have hp' := smk _ _ hp
    have hd1 : H' d1 = some (.dK k1) := (sm2.trans ((Same.new ht).trans k.same)) _ _ g1
    have hd2 : H' d2 = some (.dK k2) := ((Same.new ht).trans k.same) _ _ g2
    refine ⟨rfl, ?_⟩
    refine ⟨_, rfl, p, _, 0, _, rfl, rfl, .inl (.inl hp'), atI_nat (j := 0) rfl, _, rfl, d1, _, rfl, DGet.k (k := Sum.inl (j.1 : Int)) hd1, _, rfl, ?_⟩
    rw [ks1 j.1]
    by_cases h1 : j.1 ∈ comeTo js
    · rw [decide_eq_true h1]
      refine ⟨_, rfl, p, _, 1, _, rfl, rfl, .inl (.inl hp'), atI_nat (j := 1) rfl, _, rfl, d2, _, rfl, DGet.k (k := Sum.inl (j.2 : Int)) hd2, _, rfl, ?_⟩
      rw [ks2 j.2]
      by_cases h2 : j.2 ∈ comeFrom n js
      · rw [decide_eq_true h2]
        exact iteT ⟨_, rfl, hy _ _ eD k trivial (filt_yes ej (by rw [decide_eq_true h1, decide_eq_true h2]; rfl) eD hP ⟨p, rfl, hp'⟩)⟩
      · rw [decide_eq_false h2]
        exact iteF (hnn _ eD k trivial (filt_no ej (by rw [decide_eq_true h1, decide_eq_false h2]; rfl) hP))
    · rw [decide_eq_false h1]
      exact hnn _ eD k trivial (filt_no ej (by rw [decide_eq_false h1]; rfl) hP)
  · intro acc H' k _ eD hP
    have e : vs.length = js.length := by rw [hv.len, List.length_map]
    rw [e, List.take_length] at hP
    refine q D H' (sm3.trans k.same) ?_ ⟨acc, eD, hP⟩
    cases e2 : H D with
    | none => rfl
    | some o => have := sm3 _ _ e2; rw [hD] at this; cases this
end
end Rl

set_option Elab.async false
set_option linter.all false
set_option maxRecDepth 100000
set_option maxHeartbeats 1000000
/-! D5: going_on. -/
namespace Rl
open PySem PySem.Spec PyProof.Rows L2
section
variable {P : Program} {w : World} {K : PySem.W.Frag} {mg : Str → Option Value} {base : Heap}
/-- a dict from blocks to the jumps from them -/
def GoD (H : Hp) (d : Addr) (js : List J) : Prop := ∃ kvs, H d = some (.dK kvs) ∧ ∀ x : Nat, (valV kvs (Sum.inl (x : Int)) = none ∧ js.filter (fun j => decide (j.1 = x)) = []) ∨ ∃ l, valV kvs (Sum.inl (x : Int)) = some (.ref l) ∧ TL H l ((js.filter fun j => decide (j.1 = x)).map jl)
theorem GoD.same {H H' : Hp} {d : Addr} {js : List J} (k : Same H H') (h : GoD H d js) : GoD H' d js := by
  obtain ⟨kvs, e, r⟩ := h
  exact ⟨kvs, k _ _ e, fun x => (r x).elim .inl fun ⟨l, a, b⟩ => .inr ⟨l, a, b.same k⟩⟩
def sp_going_on : Sp := fun vs H Q _ => ∃ (a : Addr) (js : List J), vs = [.ref a] ∧ TL H a (js.map jl) ∧ js.length ≤ 1000 ∧ ∀ d H', Same H H' → H d = none → GoD H' d js → Q (.ref d) H'
theorem sc_going_on : FnScope ["jumps", "found", "jump"] ["jumps"] (defScope s_going_on) := ⟨rfl, rfl, rfl, by decide +kernel, rfl, by decide +kernel, by decide +kernel⟩
theorem ok_going_on (T : Tx K mg) : Ok P w K mg base CX0 1 (He.ga K "going_on") ["jumps"] sp_going_on := by
  refine ok_of (d := d_going_on) T (fnAt0 (i := 8) rfl) rfl rfl sc_going_on (fun vs H Q E h => ?_) (fun _ _ _ _ _ _ us hl => match us, hl with | [_], _ => rfl) fun cdv A outer s H vs Q E hr h => ?_
  · obtain ⟨_, _, rfl, _⟩ := h; rfl
  obtain ⟨a, js, rfl, ⟨vs, ha, hv⟩, hlen, q⟩ := h
  have hu := hu_of hr
  refine ⟨_, PSs.nox (pss_cons (ps_set (i := 1) sc_going_on.nd rfl (Or.inl rfl) pe_dnewK)
    (pss_cons (ps_for PassesOwn.never rfl (pi_list (pv 0)) (pg_name (i := 2) sc_going_on.nd rfl (.inl rfl))
      (pss_cons (ps_if (pt_cmp (pc_dnotin hu (pe_ix (r := rIxT K) ix_tup (pv 2) pe_int (fun _ _ => rfl)) (pv 1))) (pss_one (ps_dput hu (pv 1) (pe_ix (r := rIxT K) ix_tup (pv 2) pe_int (fun _ _ => rfl)) (pe_lst pa_nil) rfl)) pss_nil)
      (pss_one (ps_expr (pe_bm PySem.F.plainAttrs_list PySem.F.slot_list_append PySem.F.type_list_append mt_append (pe_dget hu (pv 1) (pe_ix (r := rIxT K) ix_tup (pv 2) pe_int (fun _ _ => rfl)) (fun _ _ => rfl)) (pa_cons (pv 2) pa_nil))))))
    (pss_one (ps_ret (pv 1))))), ?_⟩
  intro d hd
  have hda : a ≠ d := ne_of_none ha hd
  have key0 : ∀ x y : Nat, (Sum.inl (x : Int) : Key) = Sum.inl (y : Int) → x = y := fun x y z => by injection z with z; omega
  refine ⟨_, rfl, a, rfl, ⟨vs, .inl (.inl (by rw [upd_ne hda]; exact ha))⟩, for_list (K := K) (a := a) (xs := vs) (fun i σ H' => ∃ kvs o, σ = [some (.ref a), some (.ref d), o] ∧ Same H H' ∧ H' d = some (.dK kvs) ∧ kvs.length ≤ i ∧
      (∀ x : Nat, (valV kvs (Sum.inl (x : Int)) = none ∧ (js.take i).filter (fun j => decide (j.1 = x)) = []) ∨ ∃ l, valV kvs (Sum.inl (x : Int)) = some (.ref l) ∧ H l = none ∧ ∃ ws, H' l = some (.lst ws) ∧ TpAll H' ws (((js.take i).filter fun j => decide (j.1 = x)).map jl)) ∧
      ∀ (x y : Nat) l, valV kvs (Sum.inl (x : Int)) = some (.ref l) → valV kvs (Sum.inl (y : Int)) = some (.ref l) → x = y)
    ⟨[], none, rfl, Same.new hd, upd_same, Nat.le_refl _, fun x => .inl ⟨rfl, rfl⟩, fun x y l e => by cases e⟩ (fun i σ H' _ ⟨kvs, o, _, k, _⟩ => .inl (.inl (k _ _ ha))) ?_ ?_⟩
  · rintro i v σ H' hi ⟨kvs, o, rfl, k, hkd, hkl, hks, hinj⟩
    obtain ⟨j, ej, p, rfl, hp⟩ := hv.item hi
    have hil := (List.getElem?_eq_some_iff.mp ej).1
    have hp' := k _ _ hp
    have hte : ∀ x : Nat, (js.take (i + 1)).filter (fun j => decide (j.1 = x)) = (js.take i).filter (fun j => decide (j.1 = x)) ++ if j.1 = x then [j] else [] := fun x => by
      rw [List.take_add_one, ej, List.filter_append]
      by_cases e : j.1 = x <;> simp [e]
    -- behind the test: the key is there
    have main : ∀ (kvs : List (Key × V)) (H' : Hp), Same H H' → H' d = some (.dK kvs) → kvs.length ≤ i + 1 →
        (∀ x : Nat, (valV kvs (Sum.inl (x : Int)) = none ∧ (js.take i).filter (fun j => decide (j.1 = x)) = []) ∨ ∃ l, valV kvs (Sum.inl (x : Int)) = some (.ref l) ∧ H l = none ∧ ∃ ws, H' l = some (.lst ws) ∧ TpAll H' ws (((js.take i).filter fun j => decide (j.1 = x)).map jl)) →
        (∀ (x y : Nat) l, valV kvs (Sum.inl (x : Int)) = some (.ref l) → valV kvs (Sum.inl (y : Int)) = some (.ref l) → x = y) → valV kvs (Sum.inl (j.1 : Int)) ≠ none →
        (∃ l ws, valV kvs (Sum.inl (j.1 : Int)) = some (.ref l) ∧ H' l = some (.lst ws) ∧ ws.length < sizeLine ∧ (∃ kvs' o, [some (V.ref a), some (.ref d), some (.ref p)] = [some (.ref a), some (.ref d), o] ∧ Same H (upd H' l (.lst (ws ++ [.ref p]))) ∧ (upd H' l (.lst (ws ++ [.ref p]))) d = some (.dK kvs') ∧ kvs'.length ≤ i + 1 ∧
          (∀ x : Nat, (valV kvs' (Sum.inl (x : Int)) = none ∧ (js.take (i + 1)).filter (fun j => decide (j.1 = x)) = []) ∨ ∃ l', valV kvs' (Sum.inl (x : Int)) = some (.ref l') ∧ H l' = none ∧ ∃ ws', (upd H' l (.lst (ws ++ [.ref p]))) l' = some (.lst ws') ∧ TpAll (upd H' l (.lst (ws ++ [.ref p]))) ws' (((js.take (i + 1)).filter fun j => decide (j.1 = x)).map jl)) ∧
          ∀ (x y : Nat) l, valV kvs' (Sum.inl (x : Int)) = some (.ref l) → valV kvs' (Sum.inl (y : Int)) = some (.ref l) → x = y)) := by
      intro kvs H' k hkd hkl hks hinj hne
      rcases hks j.1 with ⟨z, _⟩ | ⟨l, hl, hl0, ws, hw, hwt⟩
      · exact absurd z hne
      · have hlen2 : ws.length ≤ 1000 := by
          have e1 := hwt.lenm
          have e2 := List.length_filter_le (fun j' : J => decide (j'.1 = j.1)) (js.take i)
          rw [List.length_take] at e2
          omega
        refine ⟨l, ws, hl, hw, small1000 hlen2, kvs, _, rfl, Same.upd k hl0, by rw [upd_ne (fun z => by rw [← z, hkd] at hw; cases hw)]; exact hkd, hkl, fun x => ?_, hinj⟩
        have hpt : Tp H' (.ref p) (jl j) := ⟨p, rfl, k _ _ hp⟩
        rcases hks x with ⟨z, zf⟩ | ⟨l', hl', hl0', ws', hw', hwt'⟩
        · refine .inl ⟨z, ?_⟩
          have hx : ¬ j.1 = x := fun e => by rw [← e] at z; exact hne z
          rw [hte, zf, if_neg hx]; rfl
        · by_cases hx : j.1 = x
          · subst hx
            have el : l' = l := by rw [hl] at hl'; exact (by injection hl' with e; injection e with e; exact e.symm)
            subst el
            have ew : ws' = ws := by rw [hw] at hw'; cases hw'; rfl
            subst ew
            refine .inr ⟨l', hl', hl0', _, upd_same, ?_⟩
            rw [hte, if_pos rfl, List.map_append]
            exact TpAll.snoc (hpt.keep (Tk.updL hw)) (hwt.keep (Tk.updL hw))
          · have nl : l' ≠ l := fun e => hx (hinj j.1 x l hl (by rw [← e]; exact hl'))
            refine .inr ⟨l', hl', hl0', ws', by rw [upd_ne nl]; exact hw', ?_⟩
            rw [hte, if_neg hx, List.append_nil]
            exact hwt'.keep (Tk.updL hw)
    refine ⟨_, rfl, p, _, 0, _, rfl, rfl, .inl (.inl hp'), atI_nat (j := 0) rfl, _, rfl, d, _, rfl, DGet.k (k := Sum.inl (j.1 : Int)) hkd, _, rfl, ?_⟩
    cases ev : valV kvs (Sum.inl (j.1 : Int)) with
    | some v =>
      refine iteF ?_
      obtain ⟨l, ws, h1, h2, h3, h4⟩ := main kvs H' k hkd (by omega) hks hinj (by rw [ev]; exact fun z => by cases z)
      exact ⟨_, rfl, _, rfl, p, _, 0, _, rfl, rfl, .inl (.inl hp'), atI_nat (j := 0) rfl, d, .ref l, rfl, by rw [← h1]; exact DGet.k (k := Sum.inl (j.1 : Int)) hkd, .inl ⟨rfl, _, .inl (.inl h2)⟩, _, rfl, l, ws, _, rfl, rfl, h2, h3, h4⟩
    | none =>
      refine iteT ⟨show 0 ≤ sizeLine from Nat.zero_le _, fun l hl => ?_⟩
      have hl0 : H l = none := none_of k hl
      have kl := Same.new (o := HO.lst []) hl
      refine ⟨_, rfl, _, rfl, p, _, 0, _, rfl, rfl, .inl (.inl (kl _ _ hp')), atI_nat (j := 0) rfl, d, _, rfl, DPut.k (k := Sum.inl (j.1 : Int)) (kl _ _ hkd) (Nat.lt_of_le_of_lt hkl (by have := small1000 (n := 1000) (by decide); omega)), ?_⟩
      have hpu := valV_put kvs (Sum.inl (j.1 : Int) : Key)
      have ndl : l ≠ d := fun z => by rw [z, hkd] at hl; cases hl
      have kd : Same H (upd (upd H' l (.lst [])) d (.dK (putK kvs (Sum.inl (j.1 : Int)) (.ref l)))) := Same.upd (Same.upd k hl0) hd
      have tkd : Tk H' (upd (upd H' l (.lst [])) d (.dK (putK kvs (Sum.inl (j.1 : Int)) (.ref l)))) := fun b ys e => by
        rw [upd_ne (fun z => by rw [z, hkd] at e; cases e), upd_ne (ne_of_none e hl)]; exact e
      refine Exists.elim (main _ _ kd upd_same (by have := length_putK kvs (Sum.inl (j.1 : Int) : Key) (V.ref l); omega) (fun x => ?_) (fun x y l1 e1 e2 => ?_) (by rw [hpu, if_pos rfl]; exact fun z => by cases z)) fun l1 ⟨ws, h1, h2, h3, h4⟩ => ?_
      · rw [hpu]
        by_cases hx : x = j.1
        · subst hx
          rw [if_pos rfl]
          refine .inr ⟨l, rfl, hl0, [], by rw [upd_ne ndl, upd_same], ?_⟩
          rcases hks j.1 with ⟨_, zf⟩ | ⟨l', hl', _⟩
          · rw [zf]; trivial
          · rw [ev] at hl'; cases hl'
        · rw [if_neg (fun z => hx (key0 _ _ z))]
          rcases hks x with z | ⟨l', hl', hl0', ws', hw', hwt'⟩
          · exact .inl z
          · have nl : l' ≠ l := ne_of_none hw' hl
            have nd : l' ≠ d := fun z => by rw [z, hkd] at hw'; cases hw'
            exact .inr ⟨l', hl', hl0', ws', by rw [upd_ne nd, upd_ne nl]; exact hw', hwt'.keep tkd⟩
      · rw [hpu] at e1 e2
        have old : ∀ (z : Nat) l2, valV kvs (Sum.inl (z : Int)) = some (.ref l2) → l2 ≠ l := fun z l2 e => by
          rcases hks z with ⟨z1, _⟩ | ⟨l', hl', _, ws', hw', _⟩
          · rw [z1] at e; cases e
          · rw [hl'] at e
            have : l' = l2 := by injection e with e; injection e
            rw [← this]
            exact ne_of_none hw' hl
        by_cases hx : x = j.1
        · by_cases hy : y = j.1
          · rw [hx, hy]
          · rw [if_pos (by rw [hx])] at e1
            rw [if_neg (fun z => hy (key0 _ _ z))] at e2
            have : l = l1 := by injection e1 with e; injection e
            exact absurd this.symm (old y l1 e2)
        · rw [if_neg (fun z => hx (key0 _ _ z))] at e1
          by_cases hy : y = j.1
          · rw [if_pos (by rw [hy])] at e2
            have : l = l1 := by injection e2 with e; injection e
            exact absurd this.symm (old x l1 e1)
          · rw [if_neg (fun z => hy (key0 _ _ z))] at e2
            exact hinj x y l1 e1 e2
      · exact ⟨_, rfl, _, rfl, p, _, 0, _, rfl, rfl, .inl (.inl (kd _ _ hp)), atI_nat (j := 0) rfl, d, .ref l1, rfl, by rw [← h1]; exact DGet.k (k := Sum.inl (j.1 : Int)) upd_same, .inl ⟨rfl, _, .inl (.inl h2)⟩, _, rfl, l1, ws, _, rfl, rfl, h2, h3, h4⟩
  · rintro σ H' ⟨kvs, o, rfl, k, hkd, _, hks, _⟩
    refine ⟨_, rfl, q d H' k hd ⟨kvs, hkd, fun x => ?_⟩⟩
    have e := hv.lenm
    have hx := hks x
    rw [e, List.take_length] at hx
    rcases hx with z | ⟨l, h1, _, ws, h2, h3⟩
    · exact .inl z
    · exact .inr ⟨l, h1, ws, h2, h3⟩
end
end Rl

set_option Elab.async false
set_option linter.all false
set_option maxRecDepth 100000
set_option maxHeartbeats 1000000
/-! D6: in, ==, !=, <=, calls of instances by the text's own methods. -/
namespace Rl
open PySem PySem.Spec PyProof.Rows L2
section
variable {X : Cx} {CX : CXT} {k : Nat} {C f : Addr} {ps : List Str} {sp : Sp} {E : XK}
theorem Ok.r {P : Program} {w : World} {K : PySem.W.Frag} {mg : Str → Option Value} {base : Heap} (O : Ok P w K mg base CX k f ps sp) : FnR P w K mg base CX k f sp := by
  obtain ⟨fd, F, b⟩ := O.ex
  exact (F.raw b .nil).imp fun vs H Q E h => by rw [List.append_nil]; exact h
/-- the callee runs, by Ok -/
theorem run_ok {pins : List (Addr × Obj)} {σ : L2.St} {H : Hp} {s : Shared} {Q : VK} {us : List Value} {vs : List V} (O : Ok X.prog X.w X.K X.mg X.base CX k f ps sp) (hr : Room k X.A) (hx : Passes CX X E) (I : Inv X pins σ H s) (r : Vals vs us) (h : sp vs H Q E) :
    wpAny (model X.prog X.w) X.A (call (.ref f) us) (EP X pins σ Q) X.xe s := by
  obtain ⟨fd, F, b⟩ := O.ex
  exact run_fn F hr b .nil hx I r (by rw [List.append_nil]; exact h)
theorem at_inst {pins : List (Addr × Obj)} {σ : L2.St} {H : Hp} {s : Shared} {a dx : Addr} {fs : List (Str × V)} (I : Inv X pins σ H s) (h : H a = some (.ins C dx fs)) : ∃ ox od, PySem.W.InstAt s.heap a ox C od ∧ ox.data = .plain := by
  obtain ⟨mA, O, _⟩ := ins_get I.hok h
  obtain ⟨od, J, _⟩ := O.look
  exact ⟨_, _, J, rfl⟩
/-- x in o -/
def rInO (C : Addr) (sp : Sp) (E : XK) : R2 := fun x y H Q => ∃ a dx fs, y = .ref a ∧ H a = some (.ins C dx fs) ∧ sp [.ref a, x] H (fun v H' => ∃ b : Bool, v = .bl b ∧ Q (.bl b) H') E
/-- x not in o -/
def rNInO (C : Addr) (sp : Sp) (E : XK) : R2 := fun x y H Q => ∃ a dx fs, y = .ref a ∧ H a = some (.ins C dx fs) ∧ sp [.ref a, x] H (fun v H' => ∃ b : Bool, v = .bl b ∧ Q (.bl (!b)) H') E
theorem op_inO (O : Ok X.prog X.w X.K X.mg X.base CX k f ps sp) (hr : Room k X.A) (hx : Passes CX X E) (m : Meth X.K C "__contains__" f) : OpR X (compareOp .In) (rInO C sp E) := by
  intro pins s σ H x y v u Q I rx ry h
  obtain ⟨a, dx, fs, rfl, ha, q⟩ := h
  obtain rfl : u = Value.ref a := ry
  obtain ⟨ox, od, J, _⟩ := at_inst I ha
  obtain ⟨mm, hF⟩ := I.fr
  refine PySem.W.in_K hF I.ok.mod.kin J m.at_ m.fn (wpAny_mono (run_ok (vs := [.ref a, x]) (us := [.ref a, v]) O hr hx I (.cons rfl (.cons rx .nil)) q) (fun r s' z => ?_) fun _ _ z => z)
  obtain ⟨w', H', I', rw', b, rfl, q'⟩ := z
  cases rw'
  exact wpAny_truthy_bool ⟨.bl b, H', I', rfl, q'⟩
theorem op_notInO (O : Ok X.prog X.w X.K X.mg X.base CX k f ps sp) (hr : Room k X.A) (hx : Passes CX X E) (m : Meth X.K C "__contains__" f) : OpR X (compareOp .NotIn) (rNInO C sp E) := by
  intro pins s σ H x y v u Q I rx ry h
  obtain ⟨a, dx, fs, rfl, ha, q⟩ := h
  obtain rfl : u = Value.ref a := ry
  obtain ⟨ox, od, J, _⟩ := at_inst I ha
  obtain ⟨mm, hF⟩ := I.fr
  refine PySem.W.notIn_K hF I.ok.mod.kin J m.at_ m.fn (wpAny_mono (run_ok (vs := [.ref a, x]) (us := [.ref a, v]) O hr hx I (.cons rfl (.cons rx .nil)) q) (fun r s' z => ?_) fun _ _ z => z)
  obtain ⟨w', H', I', rw', b, rfl, q'⟩ := z
  cases rw'
  exact wpAny_truthy_bool ⟨.bl (!b), H', I', rfl, q'⟩
/-- o <= p of the same class -/
def rLeO (C : Addr) (sp : Sp) (E : XK) : R2 := fun x y H Q => ∃ a b dx dy fs gs, x = .ref a ∧ y = .ref b ∧ H a = some (.ins C dx fs) ∧ H b = some (.ins C dy gs) ∧ sp [.ref a, .ref b] H (fun v H' => ∃ b : Bool, v = .bl b ∧ Q (.bl b) H') E
theorem op_leO (O : Ok X.prog X.w X.K X.mg X.base CX k f ps sp) (hr : Room k X.A) (hx : Passes CX X E) (m : Meth X.K C "__le__" f) : OpR X (compareOp .LtE) (rLeO C sp E) := by
  intro pins s σ H x y v u Q I rx ry h
  obtain ⟨a, b, dx, dy, fs, gs, rfl, rfl, ha, hb, q⟩ := h
  obtain rfl : v = Value.ref a := rx
  obtain rfl : u = Value.ref b := ry
  obtain ⟨ox, od, J, _⟩ := at_inst I ha
  obtain ⟨ox', od', J', _⟩ := at_inst I hb
  obtain ⟨mm, hF⟩ := I.fr
  show wpAny _ X.A (richCompare .LtE (.ref a) (.ref b)) _ _ s
  refine PySem.W.cmp_K (op := .LtE) (tb := .ref C) hr.units0 hF I.ok.mod.kin J J'.type (by simp [PySem.W.notFirst]) m.at_ m.fn (wpAny_mono (run_ok (vs := [.ref a, .ref b]) (us := [.ref a, .ref b]) O hr hx I (.cons rfl (.cons rfl .nil)) q) (fun r s' z => ?_) fun _ _ z => z)
  obtain ⟨w', H', I', rw', b', rfl, q'⟩ := z
  cases rw'
  exact ⟨.bl b', H', I', rfl, q'⟩
/-- o != p of the same class, by its own == -/
def rNeO (C : Addr) (sp : Sp) (E : XK) : R2 := fun x y H Q => ∃ a b dx dy fs gs, x = .ref a ∧ y = .ref b ∧ H a = some (.ins C dx fs) ∧ H b = some (.ins C dy gs) ∧ sp [.ref a, .ref b] H (fun v H' => ∃ b : Bool, v = .bl b ∧ Q (.bl (!b)) H') E
theorem ns_some {K : PySem.W.Frag} {h : Heap} {N : Addr} {n : Str} {v : Value} {m : Str → Option Value} (X : K.In h) (G : h.Ns N m) (e : PySem.W.nsIn K N n = some (some v)) : m n = some v := by
  obtain ⟨o, es, ep, ho, hd, _, hf⟩ := G
  unfold PySem.W.nsIn at e
  split at e
  · rename_i c d es' n' sl q
    have z := X _ _ q
    rw [ho] at z
    cases z
    cases hd
    split at e
    · rename_i en he
      cases e
      rw [← hf]
      unfold nsFind findBy
      rw [← Array.find?_toList, he]
      rfl
    · split at e <;> cases e
  · cases e
/-- a function run inside a builtin that stands below the running body -/
theorem run_sub {A : Around} {pins : List (Addr × Obj)} {σ : L2.St} {H : Hp} {s : Shared} {Q : VK} {us : List Value} {vs : List V} (O : Ok X.prog X.w X.K X.mg X.base CX k f ps sp) (sb : Sub X k A) (hx : Passes CX X E) (I : Inv X pins σ H s) (r : Vals vs us) (h : sp vs H Q E) :
    wpAny (model X.prog X.w) A (call (.ref f) us) (EP X pins σ Q) X.xe s := by
  have e0 : Env0 X.prog X.w X.K X.mg X.base A X.stack s H := by
    have e := I.env0
    exact ⟨by rw [sb.fr]; exact e.frames, e.mod, e.bs, e.bsz, e.funs, e.frf, e.hok, e.bare⟩
  refine wpAny_call (codeAny_mono (O.r A X.stack s H us vs Q E sb.room e0 r h) fun r' s' hq => ?_)
  cases r' with
  | error e => exact hx pins σ H s e s' I hq
  | ok fl =>
    cases fl with
    | ret w =>
      obtain ⟨z, H', I', rz, q⟩ := I.after hq
      exact ⟨z, H', I', rz, q⟩
    | next => exact False.elim hq
    | brk => exact False.elim hq
    | cont => exact False.elim hq
theorem ne_facts {K : PySem.W.Frag} {h : Heap} {C a : Addr} {o : Obj} (X : K.In h) (q : neB K C = true) (fn : PySem.W.isFn K (.ref (He.ma K C "__eq__")) = true) (ho : h.get? a = some o) (hc : o.cls = .ref C) (hf : ∃ of, h.get? (He.ma K C "__eq__") = some of ∧ of.cls = .type "function") :
    h.OwnEqNoNe a C (He.ma K C "__eq__") "object" [.type "object"] := by
  unfold neB at q
  split at q
  · rename_i dd cd sl hK
    split at q
    · rename_i C' k0 k1 k2 k3 n k5 hm hs
      simp only [Bool.and_eq_true, beq_iff_eq, Bool.not_eq_true'] at q
      obtain ⟨rfl, hdel, hok, hne, heq⟩ := q
      obtain ⟨nm, bs, mro, ns, qn, hd, sn, sub, ab, col, del⟩ := cd
      dsimp only at hm hdel hok hne heq
      subst hm hdel
      have hsl : sl = #[k0, k1, k2, k3, some (.builtin n), k5] := by
        obtain ⟨l⟩ := sl
        simp only at hs
        rw [hs]
      subst hsl
      obtain ⟨of, hof, hofc⟩ := hf
      have hns : h.Ns ns (h.nsMap ns) := .of_isNs (PySem.W.isNs_of_in X hok)
      refine ⟨o, of, nm, qn, ns, bs, hd, sn, sub, ab, col, dd, k0, k1, k2, k3, k5, n, h.nsMap ns, _, ho, hc, X _ _ hK, hns, ?_, hof, hofc, PySem.F.cmp_object.mro, PySem.F.cmp_object.eq.lookup, PySem.W.nsMap_none_of_in X hok hne⟩
      exact ns_some X hns heq
    · cases q
  · cases q
theorem op_neO (O : Ok X.prog X.w X.K X.mg X.base CX k f ps sp) (hr : Room (k + 1) X.A) (hx : Passes CX X E) (hf : He.ma X.K C "__eq__" = f) (q : neB X.K C = true) (hfn : PySem.W.isFn X.K (.ref f) = true) : OpR X (compareOp .NotEq) (rNeO C sp E) := by
  intro pins s σ H x y v u Q I rx ry h
  obtain ⟨a, b, dx, dy, fs, gs, rfl, rfl, ha, hb, qq⟩ := h
  obtain rfl : v = Value.ref a := rx
  obtain rfl : u = Value.ref b := ry
  obtain ⟨mA, J, _⟩ := ins_get I.hok ha
  obtain ⟨mB, J', _⟩ := ins_get I.hok hb
  have hoa := J.obj
  have hob := J'.obj
  have hca : (PySem.W.instObj C dx).cls = .ref C := rfl
  have hcb : (PySem.W.instObj C dy).cls = .ref C := rfl
  have fo : ∃ of, s.heap.get? (He.ma X.K C "__eq__") = some of ∧ of.cls = .type "function" := by
    rw [hf]
    have e : (X.K.lookup f).map (·.cls) = some (.type "function") := beq_iff_eq.mp hfn
    obtain ⟨o, ho, hc⟩ := Option.map_eq_some_iff.mp e
    exact ⟨o, I.kIn _ _ ho, hc⟩
  have Y := ne_facts I.kIn q (by rw [hf]; exact hfn) hoa hca fo
  rw [hf] at Y
  have sb : Sub X k X.A.in1 := ⟨hr.in1, rfl⟩
  obtain ⟨hp, g, d, tk, os⟩ := s
  refine compareOp_ne_ownEq PySem.F.cmp_object Y hob hcb (by have := hr.un; omega) (wpAny_mono (run_sub (vs := [.ref a, .ref b]) (us := [.ref a, .ref b]) O sb hx I (.cons rfl (.cons rfl .nil)) qq) (fun r s' z => ?_) fun _ _ z => z)
  obtain ⟨w', H', I', rw', b', rfl, q'⟩ := z
  cases rw'
  exact ⟨b', rfl, .bl (!b'), H', I', rfl, q'⟩
end
end Rl

set_option Elab.async false
set_option linter.all false
set_option maxRecDepth 100000
set_option maxHeartbeats 1000000
/-! D7: routines and parts as objects; in, ==, is_run. -/
namespace Rl
open PySem PySem.Spec PyProof.Rows L2
abbrev cR (K : PySem.W.Frag) : Addr := He.ga K "Routine"
abbrev cP (K : PySem.W.Frag) : Addr := He.ga K "Part"
section
variable {K : PySem.W.Frag} {mg : Str → Option Value}
theorem Tx.rt (T : Tx K mg) : Cls K (cR K) := He.cls_ok (T.f1 2)
theorem Tx.pt (T : Tx K mg) : Cls K (cP K) := He.cls_ok (T.f1 3)
theorem ib {C : Addr} (h : insB K C = true) : PySem.W.findIn K (.ref C) "__class__" = some (some (.builtin "object.__class__")) ∧ PySem.W.mroIn K C (.type "object") = some true ∧ PySem.W.kitOne K (.ref C) (.ref C) = some true := by
  obtain ⟨h1, h⟩ := Bool.and_eq_true_iff.mp h
  obtain ⟨h2, h3⟩ := Bool.and_eq_true_iff.mp h
  exact ⟨of_decide_eq_true h1, of_decide_eq_true h2, of_decide_eq_true h3⟩
theorem Tx.ex (T : Tx K mg) : neB K (cR K) = true ∧ oexC K (He.ga K "NoJump") = true ∧ insB K (cR K) = true ∧ insB K (cP K) = true ∧ PySem.W.specialIn K (.builtin "object.__class__") "__get__" = some (some (.builtin "getset_descriptor.__get__")) ∧
    PySem.W.takesIn K (.builtin "object.__class__") = some true := by
  obtain ⟨h1, h⟩ := Bool.and_eq_true_iff.mp T.more
  obtain ⟨h2, h⟩ := Bool.and_eq_true_iff.mp h
  obtain ⟨h3, h⟩ := Bool.and_eq_true_iff.mp h
  obtain ⟨h4, h⟩ := Bool.and_eq_true_iff.mp h
  obtain ⟨h5, h6⟩ := Bool.and_eq_true_iff.mp h
  exact ⟨h1, h2, h3, h4, of_decide_eq_true h5, of_decide_eq_true h6⟩
theorem Tx.isR (T : Tx K mg) : PySem.W.kitOne K (.ref (cR K)) (.ref (cR K)) = some true := (ib T.ex.2.2.1).2.2
theorem Tx.isP (T : Tx K mg) : PySem.W.kitOne K (.ref (cP K)) (.ref (cP K)) = some true := (ib T.ex.2.2.2.1).2.2
theorem Tx.tyR (T : Tx K mg) {H : Hp} {a dx : Addr} {fs : List (Str × V)} (h : H a = some (.ins (cR K) dx fs)) : TyX K H (.ref a) (.ref (cR K)) :=
  .base (.ins h T.rt (ib T.ex.2.2.1).1 T.ex.2.2.2.2.1 T.ex.2.2.2.2.2 (ib T.ex.2.2.1).2.1)
theorem Tx.tyP (T : Tx K mg) {H : Hp} {a dx : Addr} {fs : List (Str × V)} (h : H a = some (.ins (cP K) dx fs)) : TyX K H (.ref a) (.ref (cP K)) :=
  .base (.ins h T.pt (ib T.ex.2.2.2.1).1 T.ex.2.2.2.2.1 T.ex.2.2.2.2.2 (ib T.ex.2.2.2.1).2.1)
theorem Tx.nR (T : Tx K mg) (i : Nat) {f : Str} (h : fa1[i]? = some (.noat "Routine" f) := by rfl) : NoAttr K (cR K) f := He.noat_ok (T.f1 i h)
theorem Tx.nP (T : Tx K mg) (i : Nat) {f : Str} (h : fa1[i]? = some (.noat "Part" f) := by rfl) : NoAttr K (cP K) f := He.noat_ok (T.f1 i h)
theorem Tx.mR (T : Tx K mg) (i : Nat) {m : Str} (h : fa1[i]? = some (.meth "Routine" m) := by rfl) : Meth K (cR K) m (He.ma K (cR K) m) := He.meth_ok (T.f1 i h)
theorem Tx.mP (T : Tx K mg) (i : Nat) {m : Str} (h : fa2[i]? = some (.meth "Part" m) := by rfl) : Meth K (cP K) m (He.ma K (cP K) m) := He.meth_ok (T.f2 i h)
end
/-- the module's name of a class -/
theorem pe_cls {X : Cx} {x : Str} {a : Addr} {p : Pos} (hg : Gl X x) (hm : X.mg x = some (.ref a)) (hd : (x == ("__debug__" : Str)) = false := by decide) : PE X (.Name x p) (fun _ H Q => Q (.ref a) H) :=
  ⟨fun pins s σ H Q I h => ld_glob I hg hm ⟨.ref a, H, I.tok _, rfl, h⟩ hd⟩
section
variable {X : Cx} {CX : CXT} {k : Nat} {C : Addr} {ps : List Str} {sp : Sp} {E : XK} {m : Str} {pos apos : Pos} {e o : Expr} {es : List Expr} {ta : TE} {t : TA}
/-- o.m(e, ..) -/
theorem pm {pl : Sem Bool} (he : PE X o ta) (c : Cls X.K C) (hm : Meth X.K C m (He.ma X.K C m)) (O : Ok X.prog X.w X.K X.mg X.base CX k (He.ma X.K C m) ps sp) (hr : Room k X.A) (hx : Passes CX X E) (ha : PA X (e :: es) t)
    (hst : starEach (e :: es) X.env = (false, eval e X.env) :: starEach es X.env := by rfl) (hpl : (backTo pos (starEach es X.env)).any (·.1) = false := by rfl)
    (ht : eval (.Call (.Attribute o m apos) (e :: es) [] pos) X.env = (do
      let ov ← eval o X.env
      standAt apos.atName
      let (f, first) ← holding [ov] (getMethod ov m pl)
      callWith pos f first (backTo pos (starEach (e :: es) X.env)) (backToKw pos (keywordEach [] X.env))) := by rfl) :
    PE X (.Call (.Attribute o m apos) (e :: es) [] pos) (tMeth C m sp [] E ta t) := by
  obtain ⟨fd, F, b⟩ := O.ex
  exact pe_meth he c hm F hr b .nil hx ha hst hpl ht
end
/-! ### the dict of these jumps -/
theorem jk_inj {a b : J} (h : jk a = jk b) : a = b := by
  injection h with h1 h2
  injection h2 with h2 _
  injection h1 with h1
  injection h2 with h2
  exact Prod.ext (by omega) (by omega)
theorem jk_kv (j : J) : (jk j).map kV = It (jl j) := rfl
theorem tbl_get (js : List J) (j : J) : (valV (tbl js) (jk j)).isSome = decide (j ∈ js) := by
  induction js with
  | nil => rfl
  | cons a js ih =>
    have e1 : valV (tbl (a :: js)) (jk j) = if jk a = jk j then some (V.bl true) else valV (tbl js) (jk j) := by
      unfold valV tbl
      rw [List.map_cons, List.find?_cons]
      by_cases e : jk a = jk j
      · rw [if_pos e, decide_eq_true e]; rfl
      · rw [if_neg e, decide_eq_false e]
    rw [e1]
    by_cases e : a = j
    · subst e
      rw [if_pos rfl]; simp
    · rw [if_neg (fun z => e (jk_inj z)), ih]
      have e' : ¬ j = a := fun z => e z.symm
      simp [e']
/-- a Routine stands at r -/
def rtF (n : Nat) (l d : Addr) : List (Str × V) := [("blocks", .int (n : Int)), ("rows", .ref l), ("there", .ref d)]
def RtAt (K : PySem.W.Frag) (H : Hp) (r : Addr) (n : Nat) (js : List J) : Prop := ∃ dx l d, H r = some (.ins (cR K) dx (rtF n l d)) ∧ TL H l (js.map jl) ∧ H d = some (.dT (tbl js)) ∧ 2 ≤ n ∧ Val n js ∧ js.length ≤ 1000
def ptF (r d l : Addr) : List (Str × V) := [("routine", .ref r), ("allowed", .ref d), ("useful", .ref l)]
/-- a Part stands at p -/
def PtAt (K : PySem.W.Frag) (H : Hp) (p : Addr) (n : Nat) (js al us : List J) : Prop := ∃ dx r d l, H p = some (.ins (cP K) dx (ptF r d l)) ∧ RtAt K H r n js ∧ H d = some (.dT (tbl al)) ∧ TL H l (us.map jl) ∧ us.length ≤ 1000
section
variable {K : PySem.W.Frag} {H H' : Hp} {r p f : Addr} {n : Nat} {js al us : List J}
theorem RtAt.same (k : Same H H') (h : RtAt K H r n js) : RtAt K H' r n js := by
  obtain ⟨dx, l, d, a, b, c, e⟩ := h
  exact ⟨dx, l, d, k _ _ a, b.same k, k _ _ c, e⟩
theorem PtAt.same (k : Same H H') (h : PtAt K H p n js al us) : PtAt K H' p n js al us := by
  obtain ⟨dx, r, d, l, a, b, c, e, z⟩ := h
  exact ⟨dx, r, d, l, k _ _ a, b.same k, k _ _ c, e.same k, z⟩
theorem Go.keep (h : Fd H f) (g : Go f H H') {b : Addr} {o : HO} (e : H b = some o) (hn : ∀ d s : Int, o ≠ .lst [.int d, .int s]) : H' b = some o := g.kp b o (fun z => by
  obtain ⟨d, s, e', _⟩ := h
  subst z
  rw [e] at e'
  exact hn d s (Option.some.inj e')) e
theorem RtAt.go (hf : Fd H f) (g : Go f H H') (h : RtAt K H r n js) : RtAt K H' r n js := by
  obtain ⟨dx, l, d, a, b, c, e⟩ := h
  exact ⟨dx, l, d, g.keep hf a (fun _ _ z => by cases z), b.go hf g, g.keep hf c (fun _ _ z => by cases z), e⟩
theorem PtAt.go (hf : Fd H f) (g : Go f H H') (h : PtAt K H p n js al us) : PtAt K H' p n js al us := by
  obtain ⟨dx, r, d, l, a, b, c, e, z⟩ := h
  exact ⟨dx, r, d, l, g.keep hf a (fun _ _ z => by cases z), b.go hf g, g.keep hf c (fun _ _ z => by cases z), e.go hf g, z⟩
end
/-- .. its rows' list is not D -/
def RtO (K : PySem.W.Frag) (D : Addr) (H : Hp) (r : Addr) (n : Nat) (js : List J) : Prop := ∃ dx l d, H r = some (.ins (cR K) dx (rtF n l d)) ∧ TL H l (js.map jl) ∧ H d = some (.dT (tbl js)) ∧ (2 ≤ n ∧ Val n js ∧ js.length ≤ 1000) ∧ l ≠ D
def PtO (K : PySem.W.Frag) (D : Addr) (H : Hp) (p : Addr) (n : Nat) (js al us : List J) : Prop := ∃ dx r d l, H p = some (.ins (cP K) dx (ptF r d l)) ∧ RtO K D H r n js ∧ H d = some (.dT (tbl al)) ∧ TL H l (us.map jl) ∧ us.length ≤ 1000 ∧ l ≠ D
section
variable {K : PySem.W.Frag} {H H' : Hp} {r p f D : Addr} {n : Nat} {js al us : List J}
theorem RtO.rt (h : RtO K D H r n js) : RtAt K H r n js := let ⟨dx, l, d, a, b, c, e, _⟩ := h; ⟨dx, l, d, a, b, c, e⟩
theorem RtAt.off (h : RtAt K H r n js) (hD : H D = none) : RtO K D H r n js := by
  obtain ⟨dx, l, d, a, b, c, e⟩ := h
  refine ⟨dx, l, d, a, b, c, e, fun z => ?_⟩
  obtain ⟨vs, q, _⟩ := b
  rw [z, hD] at q
  cases q
theorem PtO.pt (h : PtO K D H p n js al us) : PtAt K H p n js al us := let ⟨dx, r, d, l, a, b, c, e, z, _⟩ := h; ⟨dx, r, d, l, a, b.rt, c, e, z⟩
theorem RtO.same (k : Same H H') (h : RtO K D H r n js) : RtO K D H' r n js := let ⟨dx, l, d, a, b, c, e, z⟩ := h; ⟨dx, l, d, k _ _ a, b.same k, k _ _ c, e, z⟩
theorem PtO.same (k : Same H H') (h : PtO K D H p n js al us) : PtO K D H' p n js al us := let ⟨dx, r, d, l, a, b, c, e, z, y⟩ := h; ⟨dx, r, d, l, k _ _ a, b.same k, k _ _ c, e.same k, z, y⟩
theorem TL.off {a : Addr} {qs : List (List Nat)} {xs ys : List V} (h : TL H a qs) (n : a ≠ D) (hD : H D = some (.lst xs)) : TL (upd H D (.lst ys)) a qs := by
  obtain ⟨vs, e, t⟩ := h
  refine ⟨vs, by rw [upd_ne n]; exact e, t.keep fun b zs q => ?_⟩
  rw [upd_ne (fun z => by rw [z, hD] at q; cases q)]
  exact q
theorem RtO.upd {xs ys : List V} (hD : H D = some (.lst xs)) (h : RtO K D H r n js) : RtO K D (L2.upd H D (.lst ys)) r n js := by
  obtain ⟨dx, l, d, a, b, c, e, z⟩ := h
  exact ⟨dx, l, d, by rw [upd_ne (fun y => by rw [y, hD] at a; cases a)]; exact a, b.off z hD, by rw [upd_ne (fun y => by rw [y, hD] at c; cases c)]; exact c, e, z⟩
theorem PtO.upd {xs ys : List V} (hD : H D = some (.lst xs)) (h : PtO K D H p n js al us) : PtO K D (L2.upd H D (.lst ys)) p n js al us := by
  obtain ⟨dx, r, d, l, a, b, c, e, z, y⟩ := h
  exact ⟨dx, r, d, l, by rw [upd_ne (fun y => by rw [y, hD] at a; cases a)]; exact a, b.upd hD, by rw [upd_ne (fun y => by rw [y, hD] at c; cases c)]; exact c, e.off y hD, z, y⟩
theorem RtO.go (hf : Fd H f) (g : Go f H H') (h : RtO K D H r n js) : RtO K D H' r n js := by
  obtain ⟨dx, l, d, a, b, c, e⟩ := h
  exact ⟨dx, l, d, g.keep hf a (fun _ _ z => by cases z), b.go hf g, g.keep hf c (fun _ _ z => by cases z), e⟩
theorem PtO.go (hf : Fd H f) (g : Go f H H') (h : PtO K D H p n js al us) : PtO K D H' p n js al us := by
  obtain ⟨dx, r, d, l, a, b, c, e, z⟩ := h
  exact ⟨dx, r, d, l, g.keep hf a (fun _ _ z => by cases z), b.go hf g, g.keep hf c (fun _ _ z => by cases z), e.go hf g, z⟩
end
theorem jumpD_jl (j : J) (n : Nat) : jumpD (td (jl j)) (n : Int) = decide (j.1 < j.2 ∧ j.2 < n) := by
  show (decide (0 ≤ (j.1 : Int)) && decide ((j.1 : Int) ≤ (n : Int) - 1) && (decide (0 ≤ (j.2 : Int)) && decide ((j.2 : Int) ≤ (n : Int) - 1)) && decide ((j.1 : Int) < (j.2 : Int))) = _
  rw [Bool.eq_iff_iff]
  simp only [Bool.and_eq_true, decide_eq_true_eq]
  omega
section
variable {P : Program} {w : World} {K : PySem.W.Frag} {mg : Str → Option Value} {base : Heap}
/-! ### Routine.__contains__ -/
def sp_has (K : PySem.W.Frag) : Sp := fun vs H Q _ => ∃ (r : Addr) (v : V) (n : Nat) (js : List J), vs = [.ref r, v] ∧ RtAt K H r n js ∧
  ((∃ d, Dp K H v d ∧ jumpD d (n : Int) = false ∧ ∀ H', Same H H' → Q (.bl false) H') ∨ ∃ j : J, Tp H v (jl j) ∧ ∀ H', Same H H' → Q (.bl (decide (j ∈ js))) H')
theorem sc_has : FnScope ["self", "x"] ["self", "x"] (defScope s_Routine_contains) := ⟨rfl, rfl, rfl, by decide +kernel, rfl, by decide +kernel, by decide +kernel⟩
theorem ok_has (T : Tx K mg) : Ok P w K mg base CX0 4 (He.ma K (cR K) "__contains__") ["self", "x"] (sp_has K) := by
  refine ok_of (d := d_Routine_contains) T (fnAt2 (i := 0) rfl) rfl rfl sc_has (fun vs H Q E h => ?_) (fun _ _ _ _ _ _ us hl => match us, hl with | [_, _], _ => rfl) fun cdv A outer s H vs Q E hr h => ?_
  · obtain ⟨_, _, _, _, rfl, _⟩ := h; rfl
  obtain ⟨r, v, n, js, rfl, ⟨dx, l, d, h1, h2, h3, h4, h5, h6⟩, q⟩ := h
  have hu := hu_of hr
  refine ⟨_, PSs.nox (pss_one (ps_ret (pe_and (pc (ok_is_jump T) hr (T.glo 2) pass0 (pa_cons (pv 1) (pa_cons (pe_fld (pv 0) rfl) pa_nil))) (pe_one (pe_cmp (pc_din hu (pv 1) (pe_fld (pv 0) rfl))))))), ?_⟩
  refine ⟨_, rfl, _, rfl, r, _, dx, _, _, rfl, h1, T.rt, T.nR 4, rfl, ?_⟩
  rcases q with ⟨dd, hd, hj, q⟩ | ⟨j, hj, q⟩
  · exact ⟨v, dd, (n : Int), rfl, hd, fun H' sm => by rw [hj]; exact ⟨_, rfl, iteF (q H' sm)⟩⟩
  · refine ⟨v, td (jl j), (n : Int), rfl, hj.dp, fun H' sm => ?_⟩
    rw [jumpD_jl]
    refine ⟨_, rfl, ite2 (fun hb => ?_) fun hb => ?_⟩
    · obtain ⟨p, rfl, hp⟩ := hj
      have hd := sm _ _ h3
      have hp' := sm _ _ hp
      refine ⟨_, rfl, _, rfl, r, _, dx, _, _, rfl, sm _ _ h1, T.rt, T.nR 6, rfl, d, _, rfl, DGet.t (k := jk j) hd hp', ?_⟩
      rw [tbl_get]
      exact q H' sm
    · have hq := q H' sm
      have e : decide (j ∈ js) = false := decide_eq_false fun z => by
        have := h5 j z
        simp at hb
        omega
      rw [e] at hq
      exact hq
end
end Rl

set_option Elab.async false
set_option linter.all false
set_option maxRecDepth 100000
set_option maxHeartbeats 1000000
/-! D8: Routine.__eq__, is_run; Part.__call__, __le__. -/
namespace Rl
open PySem PySem.Spec PyProof.Rows L2
theorem ru {k : Nat} {A : Around} (r : Room k A) : A.units + 65 < cLine := by have := r.un; omega
theorem ru4 {k : Nat} {A : Around} (r : Room k A) : A.units + 64 < cLine := by have := r.un; omega
theorem jl_inj {a b : J} (h : jl a = jl b) : a = b := by
  injection h with h1 h2
  injection h2 with h2 _
  exact Prod.ext h1 h2
theorem map_jl_inj : ∀ {a b : List J}, a.map jl = b.map jl → a = b
  | [], [], _ => rfl
  | [], _ :: _, h => by cases h
  | _ :: _, [], h => by cases h
  | x :: a, y :: b, h => by
    rw [List.map_cons, List.map_cons] at h
    injection h with h1 h2
    rw [jl_inj h1, map_jl_inj h2]
theorem mem_map_jl {j : J} {js : List J} : jl j ∈ js.map jl ↔ j ∈ js := by
  rw [List.mem_map]
  constructor
  · rintro ⟨i, hi, e⟩
    rw [← jl_inj e]; exact hi
  · exact fun h => ⟨j, h, rfl⟩
section
variable {P : Program} {w : World} {K : PySem.W.Frag} {mg : Str → Option Value} {base : Heap}
/-! ### Routine.__eq__ -/
def sp_req (K : PySem.W.Frag) : Sp := fun vs H Q _ => ∃ (r r' : Addr) (n n' : Nat) (js js' : List J), vs = [.ref r, .ref r'] ∧ RtAt K H r n js ∧ RtAt K H r' n' js' ∧ Q (.bl (decide (n = n' ∧ js = js'))) H
theorem sc_req : FnScope ["self", "other"] ["self", "other"] (defScope s_Routine_eq) := ⟨rfl, rfl, rfl, by decide +kernel, rfl, by decide +kernel, by decide +kernel⟩
theorem ok_req (T : Tx K mg) : Ok P w K mg base CX0 1 (He.ma K (cR K) "__eq__") ["self", "other"] (sp_req K) := by
  refine ok_of (d := d_Routine_eq) T (fnAt1 (i := 14) rfl) rfl rfl sc_req (fun vs H Q E h => ?_) (fun _ _ _ _ _ _ us hl => match us, hl with | [_, _], _ => rfl) fun cdv A outer s H vs Q E hr h => ?_
  · obtain ⟨_, _, _, _, _, _, rfl, _⟩ := h; rfl
  obtain ⟨r, r', n, n', js, js', rfl, ⟨dx, l, d, h1, h2, h3, h4⟩, ⟨dy, l', d', g1, g2, g3, g4⟩, q⟩ := h
  refine ⟨_, PSs.nox (pss_one (ps_ret (pe_and (pe_callB call_isi (by rfl) (T.free 6) (by decide +kernel) (pa_cons (pv 1) (pa_cons (pe_cls (by rfl) (T.glo 28)) pa_nil)))
    (pe_and (pe_cmpR op_eq (pe_fld (pv 0) rfl) (pe_fld (pv 1) rfl) (nomark _)) (pe_one (pe_cmpR (op_eqD (ru4 hr)) (pe_fld (pv 0) rfl) (pe_fld (pv 1) rfl) (nomark _))))))), ?_⟩
  refine ⟨_, rfl, .ref r', .ref (cR K), _, _, _, rfl, .own _, T.tyR g1, T.isR, _, rfl, iteT ?_⟩
  refine ⟨_, rfl, r, _, dx, _, _, rfl, h1, T.rt, T.nR 4, rfl, _, rfl, r', _, dy, _, _, rfl, g1, T.rt, T.nR 4, rfl, rfl, ?_⟩
  refine ⟨_, rfl, ite2 (fun hb => ?_) fun hb => ?_⟩
  · have hn : n = n' := by
      have z : (V.int (n : Int) = V.int (n' : Int)) := by simpa using hb
      injection z with z; omega
    refine ⟨_, rfl, r, _, dx, _, _, rfl, h1, T.rt, T.nR 5, rfl, _, rfl, r', _, dy, _, _, rfl, g1, T.rt, T.nR 5, rfl, _, _, h2.dp, g2.dp, shaped_tds _, shaped_tds _, ?_⟩
    have e : PyData.eqv (.list ((js.map jl).map td)) (.list ((js'.map jl).map td)) = decide (n = n' ∧ js = js') := by
      show PyData.eqv (.list _) (.list _) = _
      rw [PyData.eqv, eqv_tds]
      rw [Bool.eq_iff_iff, decide_eq_true_eq, decide_eq_true_eq]
      exact ⟨fun z => ⟨hn, map_jl_inj z⟩, fun z => by rw [z.2]⟩
    rw [e]
    exact q
  · have e : decide (n = n' ∧ js = js') = false := decide_eq_false fun z => by
      have hb' : ¬ (V.int (n : Int) = V.int (n' : Int)) := by simpa using hb
      exact hb' (by rw [z.1])
    rw [e] at q
    exact q
/-! ### Routine.is_run -/
def isRun (n : Nat) (js : List J) (r : List Nat) : Bool := decide (∀ j ∈ steps r, j ∈ js) && (decide (r.head? = some 0) && decide (r.getLast? = some (n - 1)))
def sp_isrun (K : PySem.W.Frag) : Sp := fun vs H Q _ => ∃ (o : Addr) (v : V) (n : Nat) (js : List J) (r : List Nat), vs = [.ref o, v] ∧ RtAt K H o n js ∧ Tp H v r ∧ 2 ≤ r.length ∧ r.length ≤ 1000 ∧ ∀ H', Same H H' → Q (.bl (isRun n js r)) H'
theorem sc_isrun : FnScope ["self", "value", "jump"] ["self", "value"] (defScope s_Routine_is_run) := ⟨rfl, rfl, rfl, by decide +kernel, rfl, by decide +kernel, by decide +kernel⟩
theorem all_map_take {js : List J} (f : J → Bool) : ((js.map f).all fun b => b) = js.all f := by
  rw [List.all_map]; rfl
theorem last_ix {q : List Nat} (h : 2 ≤ q.length) : ∃ x, q.getLast? = some x ∧ q[q.length - 1]? = some x := by
  refine ⟨q[q.length - 1]'(by omega), ?_, List.getElem?_eq_getElem (by omega)⟩
  rw [List.getLast?_eq_getElem?]
  exact List.getElem?_eq_getElem (by omega)
theorem ok_isrun (T : Tx K mg) : Ok P w K mg base CX0 5 (He.ma K (cR K) "is_run") ["self", "value"] (sp_isrun K) := by
  refine ok_of (d := d_Routine_is_run) T (fnAt2 (i := 1) rfl) rfl rfl sc_isrun (fun vs H Q E h => ?_) (fun _ _ _ _ _ _ us hl => match us, hl with | [_, _], _ => rfl) fun cdv A outer s H vs Q E hr h => ?_
  · obtain ⟨_, _, _, _, _, rfl, _⟩ := h; rfl
  obtain ⟨o, v, n, js, r, rfl, ho, ⟨p, rfl, hp⟩, hl2, hl3, q⟩ := h
  refine ⟨_, PSs.nox (pss_cons (ps_if (PW.pt (pw_or (pt_not (pt_val (pe_callB call_isi (by rfl) (T.free 6) (by decide +kernel) (pa_cons (pv 1) (pa_cons (pe_bltn (v := .ty "tuple") (by rfl) (T.free 7) (by decide +kernel) rfl) pa_nil)))))
      (pw_or1 (pt_cmpR op_lt (pe_callB call_len_seq (by rfl) (T.free 0) boot_len (pa_cons (pv 1) pa_nil)) pe_int (nomark _))))) (pss_never) pss_nil)
    (pss_cons (ps_if (pt_not (pt_val (pe_callB (cr_all rfl) (by rfl) (T.free 9) (by decide +kernel) (pa_cons (pe_lc (own := [("jump", 2)]) (g := gName 2) (tt := tYes) rfl sc_isrun.nd (pi_list (pc (ok_jumps_of T) (hr.mono (by decide)) (T.glo 3) pass0 (pa_cons (pv 1) pa_nil))) (blkOk_by (N := ["self", "value", "jump"]) (sc := defScope s_Routine_is_run) (by decide +kernel))
        (fun _ _ _ _ _ => pg_name (i := 2) sc_isrun.nd rfl (Or.inl rfl)) (fun _ _ _ _ _ => pts_nil) (fun _ _ _ _ _ => pe_cmpR (op_inO (ok_has T) hr pass0 (T.mR 11)) (pv 2) (pv 0) rfl)) pa_nil)))) (pss_one (ps_ret pe_bl)) pss_nil)
    (pss_one (ps_ret (pe_and (pe_cmpR op_eq (pe_ix ix_tup (pv 1) pe_int (fun _ _ => rfl)) pe_int (nomark _)) (pe_one (pe_cmpR op_eq (pe_ix ix_tup (pv 1) (pe_un un_neg pe_int) (fun _ _ => rfl)) (pe_op op_sub (pe_fld (pv 0) rfl) pe_int) (nomark _)))))))), ?_⟩
  have hrl := last_ix hl2
  obtain ⟨z, hz1, hz2⟩ := hrl
  have ht : SqT K H p (It r) := .inl (.inl hp)
  refine ⟨_, rfl, .ref p, .ty "tuple", _, _, true, rfl, .ty _, .base (.tup hp), kit_ty (by decide +kernel), _, rfl, iteF ⟨_, rfl, _, _, rfl, .inr ht, _, _, rfl, rfl, ?_⟩⟩
  have e2 : decide (((It r).length : Int) < 2) = false := decide_eq_false (by rw [it_len]; omega)
  refine ⟨_, rfl, ?_⟩
  rw [e2]
  refine iteF ?_
  refine ⟨_, rfl, _, r, rfl, ⟨p, rfl, hp⟩, by omega, hl3, fun l H1 sm1 hn1 ⟨vs, hvs, hT⟩ => ⟨l, rfl, ⟨vs, .inl (.inl hvs)⟩, fun D hD => lc_listK (K := K) (a := l) (xs := vs) No (fun _ => True) (fun i acc _ => acc = (((steps r).take i).map fun j => decide (j ∈ js)).map V.bl) hD ?_ trivial (fun _ _ _ => trivial) rfl (fun H' k _ => .inl (.inl (k.same _ _ hvs))) ?_ ?_⟩⟩
  · have e := hT.lenm
    rw [e, steps_len]
    exact small1000 (by omega)
  · intro i x hx acc H' Ny Nn k _ eD hP hy hnn
    obtain ⟨j, ej, hj⟩ := hT.item hx
    have smk := sm1.trans k.same
    obtain ⟨dx, l', d, g1, g2⟩ := ho.same smk
    have et : (steps r).take (i + 1) = (steps r).take i ++ [j] := by rw [List.take_add_one, ej]; rfl
    refine ⟨rfl, _, rfl, _, rfl, o, dx, _, rfl, g1, o, x, n, js, rfl, ho.same smk, .inr ⟨j, hj.keep (Same.tk k.same), fun H2 sm2 => ⟨_, rfl, hy _ _ (sm2 _ _ eD) (k.trans (Same.kp sm2)) trivial (by
      show _ = (((steps r).take (i + 1)).map fun j => decide (j ∈ js)).map V.bl
      rw [et, List.map_append, List.map_append, ← hP]
      rfl)⟩⟩⟩
  · intro acc H' k _ eD hP
    have e := hT.lenm
    rw [e, List.take_length] at hP
    subst hP
    have smk := sm1.trans k.same
    refine ⟨D, _, rfl, .inl (.inl eD), _, rfl, ?_⟩
    have hq := q H' smk
    have hall : (((steps r).map fun j => decide (j ∈ js)).all id) = decide (∀ j ∈ steps r, j ∈ js) := by
      rw [List.all_map, Bool.eq_iff_iff, List.all_eq_true, decide_eq_true_eq]
      simp
    rw [hall]
    have head : ∃ y, r.head? = some y ∧ (It r)[0]? = some (V.int (y : Int)) := by
      match r, hl2 with
      | y :: _, _ => exact ⟨y, rfl, rfl⟩
    obtain ⟨y, hy1, hy2⟩ := head
    have ht' : SqT K H' p (It r) := .inl (.inl (smk _ _ hp))
    obtain ⟨dx, l', d, g1, g2⟩ := ho.same smk
    have hz3 : atI (It r) (-1) = some (V.int (z : Int)) := by
      obtain ⟨ys, e3⟩ := List.getLast?_eq_some_iff.mp hz1
      rw [e3]
      show atI ((ys ++ [z]).map fun (n : Nat) => V.int (n : Int)) (-1) = _
      rw [List.map_append]
      exact atI_last _ _
    by_cases hb : ∀ j ∈ steps r, j ∈ js
    · rw [decide_eq_true hb]
      have hn : 2 ≤ n := g2.2.2.1
      refine iteF ⟨_, rfl, p, _, 0, _, rfl, rfl, ht', atI_nat (j := 0) hy2, rfl, _, rfl, ?_⟩
      have e5 : isRun n js r = (decide (y = 0) && decide (z = n - 1)) := by
        unfold isRun
        rw [decide_eq_true hb, hy1, hz1]
        simp
      rw [e5] at hq
      refine ite2 (fun h0 => ⟨_, rfl, _, rfl, p, _, -1, _, rfl, rfl, ht', hz3, _, rfl, o, _, dx, _, _, rfl, g1, T.rt, T.nR 4, rfl, _, _, rfl, rfl, rfl, ?_⟩) fun h0 => ?_
      · have y0 : y = 0 := by
          have z1 : (V.int (y : Int) = V.int 0) := by simpa using h0
          injection z1 with z1; omega
        have e6 : decide (V.int (z : Int) = V.int ((n : Int) - 1)) = decide (z = n - 1) := by
          rw [Bool.eq_iff_iff, decide_eq_true_eq, decide_eq_true_eq]
          constructor
          · intro e; injection e with e; omega
          · intro e; rw [e]; congr 1; omega
        rw [e6]
        rw [decide_eq_true y0] at hq
        exact hq
      · have y0 : ¬ y = 0 := fun e => by
          have z1 : ¬ (V.int (y : Int) = V.int 0) := by simpa using h0
          exact z1 (by rw [e]; rfl)
        rw [decide_eq_false y0] at hq
        exact hq
    · rw [decide_eq_false hb]
      have e5 : isRun n js r = false := by
        unfold isRun
        rw [decide_eq_false hb]; rfl
      rw [e5] at hq
      exact iteT hq
end
end Rl

set_option Elab.async false
set_option linter.all false
set_option maxRecDepth 100000
set_option maxHeartbeats 1000000
/-! D9: Part.__call__, __le__. -/
namespace Rl
open PySem PySem.Spec PyProof.Rows L2
/-- o.f, the text by name -/
theorem pf {X : Cx} {K : PySem.W.Frag} {e : Expr} {f : Str} {ta : TE} {pos : Pos} (hK : X.K = K) (he : PE X e ta) (hb : attributeBase e f X.env (eval e X.env) = eval e X.env) : PE X (.Attribute e f pos) (tFld K ta f) := by
  subst hK
  exact pe_fld he hb
theorem bool_map_snoc {js : List J} {i : Nat} {j : J} (f : J → Bool) {acc : List V} (ej : js[i]? = some j) (h : acc = ((js.take i).map f).map V.bl) : acc ++ [V.bl (f j)] = ((js.take (i + 1)).map f).map V.bl := by
  have et : js.take (i + 1) = js.take i ++ [j] := by rw [List.take_add_one, ej]; rfl
  rw [et, List.map_append, List.map_append, ← h]
  rfl
theorem all_dec (l m : List J) : ((l.map fun j => decide (j ∈ m)).all id) = decide (∀ j ∈ l, j ∈ m) := by
  rw [List.all_map, Bool.eq_iff_iff, List.all_eq_true, decide_eq_true_eq]
  simp
section
variable {P : Program} {w : World} {K : PySem.W.Frag} {mg : Str → Option Value} {base : Heap}
/-! ### Part.__call__ -/
def sp_pcall (K : PySem.W.Frag) : Sp := fun vs H Q _ => ∃ (o : Addr) (v : V) (n : Nat) (js al us : List J) (r : List Nat), vs = [.ref o, v] ∧ PtAt K H o n js al us ∧ Tp H v r ∧ 2 ≤ r.length ∧ r.length ≤ 1000 ∧ isRun n js r = true ∧ ∀ H', Same H H' → Q (.bl (decide (∀ j ∈ steps r, j ∈ al))) H'
theorem sc_pcall : FnScope ["self", "run", "jump"] ["self", "run"] (defScope s_Part_call) := ⟨rfl, rfl, rfl, by decide +kernel, rfl, by decide +kernel, by decide +kernel⟩
theorem ok_pcall (T : Tx K mg) : Ok P w K mg base CX0 6 (He.ma K (cP K) "__call__") ["self", "run"] (sp_pcall K) := by
  refine ok_of (d := d_Part_call) T (fnAt2 (i := 3) rfl) rfl rfl sc_pcall (fun vs H Q E h => ?_) (fun _ _ _ _ _ _ us hl => match us, hl with | [_, _], _ => rfl) fun cdv A outer s H vs Q E hr h => ?_
  · obtain ⟨_, _, _, _, _, _, _, rfl, _⟩ := h; rfl
  obtain ⟨o, v, n, js, al, us, r, rfl, ho, ⟨p, rfl, hp⟩, hl2, hl3, hrun, q⟩ := h
  have hu := hu_of hr
  refine ⟨_, PSs.nox (pss_cons (ps_if (pt_not (pt_val (pm (pe_fld (pv 0) rfl) T.rt (T.mR 12) (ok_isrun T) hr pass0 (pa_cons (pv 1) pa_nil)))) pss_never pss_nil)
    (pss_one (ps_ret (pe_callB (cr_all rfl) (by rfl) (T.free 9) (by decide +kernel) (pa_cons (pe_lc (own := [("jump", 2)]) (g := gName 2) (tt := tYes) rfl sc_pcall.nd (pi_list (pc (ok_jumps_of T) (hr.mono (by decide)) (T.glo 3) pass0 (pa_cons (pv 1) pa_nil))) (blkOk_by (N := ["self", "run", "jump"]) (sc := defScope s_Part_call) (by decide +kernel))
        (fun _ _ _ _ _ => pg_name (i := 2) sc_pcall.nd rfl (Or.inl rfl)) (fun _ _ _ _ _ => pts_nil) (fun _ _ _ _ _ => pe_cmp (pc_din hu (pv 2) (pf (K := K) rfl (pv 0) rfl)))) pa_nil))))), ?_⟩
  obtain ⟨dx, rr, d, l, h1, h2, h3, h4, h5⟩ := id ho
  obtain ⟨dy, rl, rd, g1, g2⟩ := id h2
  refine ⟨_, rfl, o, _, dx, _, _, rfl, h1, T.pt, T.nP 7, rfl, rr, dy, _, rfl, g1, rfl, _, rfl, rr, _, n, js, r, rfl, h2, ⟨p, rfl, hp⟩, hl2, hl3, fun H1 sm => ?_⟩
  rw [hrun]
  refine ⟨_, rfl, iteF ?_⟩
  refine ⟨_, rfl, _, r, rfl, ⟨p, rfl, sm _ _ hp⟩, by omega, hl3, fun ll H2 sm1 hn1 ⟨vs, hvs, hT⟩ => ⟨ll, rfl, ⟨vs, .inl (.inl hvs)⟩, fun D hD => lc_listK (K := K) (a := ll) (xs := vs) No (fun _ => True) (fun i acc _ => acc = (((steps r).take i).map fun j => decide (j ∈ al)).map V.bl) hD ?_ trivial (fun _ _ _ => trivial) rfl (fun H' k _ => .inl (.inl (k.same _ _ hvs))) ?_ ?_⟩⟩
  · have e := hT.lenm
    rw [e, steps_len]
    exact small1000 (by omega)
  · intro i x hx acc H' Ny Nn k _ eD hP hy hnn
    obtain ⟨j, ej, pj, rfl, hj⟩ := hT.item hx
    have smk := (sm.trans sm1).trans k.same
    refine ⟨rfl, _, rfl, _, rfl, o, _, dx, _, _, rfl, smk _ _ h1, T.pt, T.nP 8, rfl, d, _, rfl, DGet.t (k := jk j) (smk _ _ h3) (k.same _ _ hj), ?_⟩
    rw [tbl_get]
    exact hy _ _ eD k trivial (bool_map_snoc (fun j => decide (j ∈ al)) ej hP)
  · intro acc H' k _ eD hP
    have e := hT.lenm
    rw [e, List.take_length] at hP
    subst hP
    refine ⟨D, _, rfl, .inl (.inl eD), ?_⟩
    rw [all_dec]
    exact q H' ((sm.trans sm1).trans k.same)
/-! ### Part.__le__ -/
def leP (n n' : Nat) (js js' us al' : List J) : Bool := decide (n = n' ∧ js = js') && decide (∀ j ∈ us, j ∈ al')
def sp_ple (K : PySem.W.Frag) : Sp := fun vs H Q _ => ∃ (o o' : Addr) (n n' : Nat) (js al us js' al' us' : List J), vs = [.ref o, .ref o'] ∧ PtAt K H o n js al us ∧ PtAt K H o' n' js' al' us' ∧ ∀ H', Same H H' → Q (.bl (leP n n' js js' us al')) H'
theorem sc_ple : FnScope ["self", "other", "jump"] ["self", "other"] (defScope s_Part_le) := ⟨rfl, rfl, rfl, by decide +kernel, rfl, by decide +kernel, by decide +kernel⟩
theorem ok_ple (T : Tx K mg) : Ok P w K mg base CX0 3 (He.ma K (cP K) "__le__") ["self", "other"] (sp_ple K) := by
  refine ok_of (d := d_Part_le) T (fnAt2 (i := 4) rfl) rfl rfl sc_ple (fun vs H Q E h => ?_) (fun _ _ _ _ _ _ us hl => match us, hl with | [_, _], _ => rfl) fun cdv A outer s H vs Q E hr h => ?_
  · obtain ⟨_, _, _, _, _, _, _, _, _, _, rfl, _⟩ := h; rfl
  obtain ⟨o, o', n, n', js, al, us, js', al', us', rfl, ho, ho', q⟩ := h
  have hu := hu_of hr
  refine ⟨_, PSs.nox (pss_cons (ps_if (PW.pt (pw_or (pt_not (pt_val (pe_callB call_isi (by rfl) (T.free 6) (by decide +kernel) (pa_cons (pv 1) (pa_cons (pe_cls (by rfl) (T.glo 29)) pa_nil)))))
      (pw_or1 (pt_cmpR (op_neO (ok_req T) hr pass0 rfl T.ex.1 (T.mR 10).fn) (pe_fld (pv 0) rfl) (pe_fld (pv 1) rfl) (nomark _))))) (pss_one (ps_ret pe_bl)) pss_nil)
    (pss_one (ps_ret (pe_callB (cr_all rfl) (by rfl) (T.free 9) (by decide +kernel) (pa_cons (pe_lc (own := [("jump", 2)]) (g := gName 2) (tt := tYes) rfl sc_ple.nd (pi_list (pe_fld (pv 0) rfl)) (blkOk_by (N := ["self", "other", "jump"]) (sc := defScope s_Part_le) (by decide +kernel))
        (fun _ _ _ _ _ => pg_name (i := 2) sc_ple.nd rfl (Or.inl rfl)) (fun _ _ _ _ _ => pts_nil) (fun _ _ _ _ _ => pe_cmp (pc_din hu (pv 2) (pf (K := K) rfl (pv 1) rfl)))) pa_nil))))), ?_⟩
  obtain ⟨dx, rr, d, l, h1, h2, h3, ⟨vs, hvs, hT⟩, h5⟩ := id ho
  obtain ⟨dx', rr', d', l', h1', h2', h3', h4', h5'⟩ := id ho'
  obtain ⟨dy, rl, rd, g1, g2⟩ := id h2
  obtain ⟨dy', rl', rd', g1', g2'⟩ := id h2'
  refine ⟨_, rfl, .ref o', .ref (cP K), _, _, true, rfl, .own _, T.tyP h1', T.isP, _, rfl, iteF ?_⟩
  refine ⟨_, rfl, o, _, dx, _, _, rfl, h1, T.pt, T.nP 7, rfl, _, rfl, o', _, dx', _, _, rfl, h1', T.pt, T.nP 7, rfl, rr, rr', dy, dy', _, _, rfl, rfl, g1, g1', rr, rr', n, n', js, js', rfl, h2, h2', _, rfl, _, rfl, ?_⟩
  by_cases hs : n = n' ∧ js = js'
  · rw [decide_eq_true hs]
    refine iteF ⟨_, rfl, o, _, dx, _, _, rfl, h1, T.pt, T.nP 9, rfl, l, rfl, ⟨vs, .inl (.inl hvs)⟩, fun D hD => lc_listK (K := K) (a := l) (xs := vs) No (fun _ => True) (fun i acc _ => acc = ((us.take i).map fun j => decide (j ∈ al')).map V.bl) hD ?_ trivial (fun _ _ _ => trivial) rfl (fun H' k _ => .inl (.inl (k.same _ _ hvs))) ?_ ?_⟩
    · have e := hT.lenm
      rw [e]
      exact small1000 h5
    · intro i x hx acc H' Ny Nn k _ eD hP hy hnn
      obtain ⟨j, ej, pj, rfl, hj⟩ := hT.item hx
      refine ⟨rfl, _, rfl, _, rfl, o', _, dx', _, _, rfl, k.same _ _ h1', T.pt, T.nP 8, rfl, d', _, rfl, DGet.t (k := jk j) (k.same _ _ h3') (k.same _ _ hj), ?_⟩
      rw [tbl_get]
      exact hy _ _ eD k trivial (bool_map_snoc (fun j => decide (j ∈ al')) ej hP)
    · intro acc H' k _ eD hP
      have e := hT.lenm
      rw [e, List.take_length] at hP
      subst hP
      refine ⟨D, _, rfl, .inl (.inl eD), ?_⟩
      rw [all_dec]
      have hq := q H' k.same
      unfold leP at hq
      rw [decide_eq_true hs] at hq
      exact hq
  · rw [decide_eq_false hs]
    have hq := q H (Same.refl H)
    unfold leP at hq
    rw [decide_eq_false hs] at hq
    exact iteT hq
end
end Rl

set_option Elab.async false
set_option linter.all false
set_option maxRecDepth 100000
set_option maxHeartbeats 1000000
/-! D10: defs that may raise; kept_run_by. -/
namespace Rl
open PySem PySem.Spec PyProof.Rows L2
section
variable {P : Program} {w : World} {K : PySem.W.Frag} {mg : Str → Option Value} {base : Heap}
/-- a def of no default that may raise -/
theorem okX_of {d : He.DefD} (T : Tx K mg) (hd : d ∈ fn) (h0 : d.dvs K = []) (h1 : d.kws K = []) {N ps : List Str} {k : Nat} {sp : Sp} (S : FnScope N ps d.scope) (len : ∀ vs H Q E, sp vs H Q E → vs.length = ps.length)
    (hb : ∀ (kV doc pm : Value) (an : Option Addr) (cdv ct : Value) (us : List Value), us.length = ps.length → bindArgs (PySem.W.fnOf d.name d.qual d.params d.body d.scope .none kV doc pm an cdv ct) ⟨us, []⟩ = pure (ps.zip us))
    (hbody : ∀ (cdv : Value) (A : Around) (outer : List Env) (s : Shared) (H : Hp) (vs : List V) (Q : VK) (E : XK), Room k (A.deeper (envOfC d.qual d.scope s.heap.objs.size (He.fAd K d.at_) cdv)) → sp vs H Q E →
      ∃ t, PSs (cxOf (L2.CX P w) P w K mg base N d.qual d.scope (He.fAd K d.at_) cdv A outer s H E) d.body t ∧ t { nx := fun _ H' => Q .non H', rt := Q } (start N vs) H) : Ok P w K mg base (L2.CX P w) (k + 1) (He.fAd K d.at_) ps sp :=
  ok_of T hd h0 h1 S len hb hbody
end
section
variable {X : Cx} {C : Addr} {bmB : List Value} {B newId initId : String}
/-- C() -/
theorem pmk_none {x : Str} {p pos : Pos} (F : ExcBaseFacts B newId initId bmB) (q : PySem.W.excIn X.K C bmB newId = true) (gC : X.mg x = some (.ref C)) (kC : PySem.W.keepIn X.K (.ref C) = true) (r : Raises X (.ref C)) (hg : Gl X x)
    (hdb : (x == ("__debug__" : Str)) = false := by decide) : PMk X (.Call (.Name x p) [] [] pos) (fun _ H Q => Q (.ref C) none H) := by
  intro pins s σ H Q I h
  refine wpAny_Call_Name_kw (ld_glob I hg gC ?_ hdb)
  refine PySem.W.callWith_K0 I.kIn kC ?_
  show wpAny _ _ (call (.ref C) []) _ _ _
  obtain ⟨bm, N, nm, qn, bs, hdct, sn, sub, ab, col, dd, k0, k1, k2, k3, k5, mN, hC, hN, hni, T⟩ := exc_obj I.kIn q
  refine wpAny_call_exc_subT F T hC hN hni (fun h' e hm => ?_) (Nat.zero_le _)
  exact mk_of I hm r h (I.hok.gone hm.new)
end
section
variable {X : Cx} {CX : CXT} {k : Nat} {C : Addr} {ps : List Str} {sp : Sp} {E : L2.St → XK} {m : Str} {pos apos : Pos} {e o : Expr} {es : List Expr} {ta : TE} {t : TA}
def tMethS (C : Addr) (m : Str) (sp : Sp) (E : L2.St → XK) (ta : TE) (t : TA) : TE := fun σ H Q => ta σ H fun x H1 => ∃ a dx fs, x = .ref a ∧ H1 a = some (.ins C dx fs) ∧ fs.lookup m = none ∧ t σ H1 fun vs H2 => sp (x :: vs) H2 Q (E σ)
/-- o.m(e, ..), what it lets out taken by the slots -/
theorem pmS {pl : Sem Bool} (he : PE X o ta) (c : Cls X.K C) (hm : Meth X.K C m (He.ma X.K C m)) (O : Ok X.prog X.w X.K X.mg X.base CX k (He.ma X.K C m) ps sp) (hr : Room k X.A) (hx : ∀ σ, PassesAt CX X σ (E σ)) (ha : PA X (e :: es) t)
    (hst : starEach (e :: es) X.env = (false, eval e X.env) :: starEach es X.env := by rfl) (hpl : (backTo pos (starEach es X.env)).any (·.1) = false := by rfl)
    (ht : eval (.Call (.Attribute o m apos) (e :: es) [] pos) X.env = (do
      let ov ← eval o X.env
      standAt apos.atName
      let (f, first) ← holding [ov] (getMethod ov m pl)
      callWith pos f first (backTo pos (starEach (e :: es) X.env)) (backToKw pos (keywordEach [] X.env))) := by rfl) :
    PE X (.Call (.Attribute o m apos) (e :: es) [] pos) (tMethS C m sp E ta t) := by
  obtain ⟨fd, F, b⟩ := O.ex
  refine ⟨fun pins s σ H Q I h => ?_⟩
  refine PySem.W.methodCall_KW (pl := pl) (thn (he.run pins s σ H _ I h) fun u s1 ⟨x, H1, I1, rx, a, dx, fs, ex, ea, l, q⟩ => ?_) ht
  subst ex
  obtain rfl : u = Value.ref a := rx
  refine getmeth_ok I1 ea c hm l ?_
  refine PySem.W.callWith_K (first := [.ref a]) (h₀ := X.base) I.ok.mod.kin hm.kp (thn (ha.run pos pins s1 σ H1 _ I1 q) fun us s2 ⟨vs, H2, I2, r, q2⟩ => ⟨I2.kIn, ?_⟩) hst hpl
  exact run_fnS (us := .ref a :: us) (vs := .ref a :: vs) F hr b (hx σ) I2 (.cons rfl r) q2
end
section
variable {K : PySem.W.Frag} {mg : Str → Option Value}
abbrev cN (K : PySem.W.Frag) : Addr := He.ga K "NoJump"
abbrev cO (K : PySem.W.Frag) : Addr := He.ga K "OtherRoutine"
theorem oex_cls {C : Addr} (h : oexB K C = true) : ∃ nm q N bs bm sn sub ab col dd k0 k1 k2 k3 k5, K.lookup C = some (excClassObj nm q C N bs bm true sn sub ab col dd k0 k1 k2 k3 k5 "ValueError.__new__") ∧ PySem.HandSPX.refsVE bm = true := by
  unfold oexB at h
  split at h
  · rename_i dd cd sl hK
    split at h
    · rename_i C' bm k0 k1 k2 k3 n k5 hm hs
      simp only [Bool.and_eq_true, beq_iff_eq, Bool.not_eq_true'] at h
      obtain ⟨rfl, rfl, hdel, hdict, hbm⟩ := h
      obtain ⟨nm, bs, mro, ns, qn, hd, sn, sub, ab, col, del⟩ := cd
      dsimp only at hm hdel hdict
      subst hm hdel hdict
      have hsl : sl = #[k0, k1, k2, k3, some (.builtin "ValueError.__new__"), k5] := by
        obtain ⟨l⟩ := sl
        simp only at hs
        rw [hs]
      subst hsl
      exact ⟨_, _, _, _, _, _, _, _, _, _, _, _, _, _, _, hK, hbm⟩
    · cases h
  · cases h
theorem Tx.oex (T : Tx K mg) : OexC K (cN K) ∧ PySem.W.findIn K (.ref (cN K)) "jump" = some none ∧ PySem.W.findIn K (.ref (cN K)) "__init__" = some (some (.ref (He.ma K (cN K) "__init__"))) ∧
    PySem.W.typeIn K (.ref (He.ma K (cN K) "__init__")) = some (.type "function") ∧ XfC K (cN K) := by
  have h := T.ex.2.1
  unfold oexC at h
  obtain ⟨h1, h⟩ := Bool.and_eq_true_iff.mp h
  obtain ⟨h2, h⟩ := Bool.and_eq_true_iff.mp h
  obtain ⟨h3, h⟩ := Bool.and_eq_true_iff.mp h
  obtain ⟨h4, h⟩ := Bool.and_eq_true_iff.mp h
  obtain ⟨h5, h⟩ := Bool.and_eq_true_iff.mp h
  obtain ⟨h6, h⟩ := Bool.and_eq_true_iff.mp h
  obtain ⟨h7, h⟩ := Bool.and_eq_true_iff.mp h
  obtain ⟨h8, h9⟩ := Bool.and_eq_true_iff.mp h
  exact ⟨⟨oex_cls h1, of_decide_eq_true h2, of_decide_eq_true h3, of_decide_eq_true h4, h5⟩, of_decide_eq_true h6, of_decide_eq_true h7, of_decide_eq_true h8, xfB_ok h9⟩
end
section
variable {P : Program} {w : World} {K : PySem.W.Frag} {mg : Str → Option Value} {base : Heap}
/-! ### NoJump.__init__ -/
def sp_nj (K : PySem.W.Frag) : Sp := fun vs H Q _ => ∃ (a : Addr) (v : V), vs = [.ref a, v] ∧ H a = some (exo a (cN K) none) ∧ ∀ dx, H dx = none → dx ≠ a → Q .non (upd (upd H dx (exd dx [("jump", v)])) a (exo a (cN K) (some dx)))
theorem sc_nj : FnScope ["self", "jump"] ["self", "jump"] (defScope s_NoJump_init) := ⟨rfl, rfl, rfl, by decide +kernel, rfl, by decide +kernel, by decide +kernel⟩
theorem ok_nj (T : Tx K mg) : Ok P w K mg base CX0 1 (He.ma K (cN K) "__init__") ["self", "jump"] (sp_nj K) := by
  refine ok_of (d := d_NoJump_init) T (fnAt2 (i := 8) rfl) rfl rfl sc_nj (fun vs H Q E h => ?_) (fun _ _ _ _ _ _ us hl => match us, hl with | [_, _], _ => rfl) fun cdv A outer s H vs Q E hr h => ?_
  · obtain ⟨_, _, rfl, _⟩ := h; rfl
  obtain ⟨a, v, rfl, ha, q⟩ := h
  refine ⟨_, PSs.nox (pss_one (ps_ost (pv 0) (pv 1))), ?_⟩
  exact ⟨_, rfl, _, rfl, a, cN K, rfl, T.oex.1, T.oex.2.1, .inl ⟨ha, fun dx h1 h2 => q dx h1 h2⟩⟩
end
end Rl

set_option Elab.async false
set_option linter.all false
set_option maxRecDepth 100000
set_option maxHeartbeats 2000000
/-! D11: kept_run_by. -/
namespace Rl
open PySem PySem.Spec PyProof.Rows L2
theorem pgt {X : Cx} {K : PySem.W.Frag} {pos : Pos} {es : List Expr} {k : Nat} {t : TGs} {n : Nat} (hK : X.K = K) (hc : X.calm = true) (h : PGs X es t)
    (hn : (assignEach es X.env).length = n := by rfl) (hst : (assignEach es X.env).findIdx? (·.1) = none := by rfl) : PG X (.Tuple es k pos) (gTup K n t) := by
  subst hK
  exact pg_tup hc h hn hst
theorem filtV_yes {α : Type} {xs : List α} {f : α → Bool} {rep : α → V} {i : Nat} {x : α} {acc : List V} (ej : xs[i]? = some x) (h : f x = true) (hP : acc = ((xs.take i).filter f).map rep) : acc ++ [rep x] = ((xs.take (i + 1)).filter f).map rep := by
  rw [List.take_add_one, ej, List.filter_append, List.map_append, ← hP]
  simp [h]
theorem filtV_no {α : Type} {xs : List α} {f : α → Bool} {rep : α → V} {i : Nat} {x : α} {acc : List V} (ej : xs[i]? = some x) (h : f x = false) (hP : acc = ((xs.take i).filter f).map rep) : acc = ((xs.take (i + 1)).filter f).map rep := by
  rw [List.take_add_one, ej, List.filter_append, List.map_append, ← hP]
  simp [h]
/-- jumps that a run can be made of, both ways -/
def Us (n : Nat) (us : List J) : Prop := n ≤ 1000 ∧ (∀ j ∈ us, j.1 < j.2 ∧ j.2 < n) ∧ (∀ j ∈ us, j.1 ≠ 0 → ∃ i ∈ us, i.2 = j.1) ∧ ∀ j ∈ us, j.2 ≠ n - 1 → ∃ i ∈ us, i.1 = j.2
theorem hd_of {us : List J} {f : J → Bool} (h : ∃ i ∈ us, f i = true) : ∃ i, (us.filter f).head? = some i ∧ i ∈ us ∧ f i = true ∧ (us.filter f).headD (0, 0) = i := by
  obtain ⟨i, hi, hf⟩ := h
  cases e : us.filter f with
  | nil =>
    have : i ∈ us.filter f := List.mem_filter.mpr ⟨hi, hf⟩
    rw [e] at this
    cases this
  | cons a l =>
    have ha : a ∈ us.filter f := by rw [e]; exact List.mem_cons_self
    obtain ⟨h1, h2⟩ := List.mem_filter.mp ha
    exact ⟨a, rfl, h1, h2, rfl⟩
theorem eqInt {a b : Nat} : decide (V.int (a : Int) = V.int (b : Int)) = decide (a = b) := by
  rw [Bool.eq_iff_iff, decide_eq_true_eq, decide_eq_true_eq]
  constructor
  · intro e; injection e with e; omega
  · intro e; rw [e]
theorem last_at {r : List Nat} {y : Nat} (h : r.getLast? = some y) : atI (It r) (-1) = some (V.int (y : Int)) := by
  obtain ⟨ys, e⟩ := List.getLast?_eq_some_iff.mp h
  rw [e]
  show atI ((ys ++ [y]).map fun (n : Nat) => V.int (n : Int)) (-1) = _
  rw [List.map_append]
  exact atI_last _ _
section
variable {P : Program} {w : World} {K : PySem.W.Frag} {mg : Str → Option Value} {base : Heap}
def sp_krb (K : PySem.W.Frag) : Sp := fun vs H Q E => ∃ (o : Addr) (v : V) (n : Nat) (js al us : List J), vs = [.ref o, v] ∧ PtAt K H o n js al us ∧
  ((∃ j : J, Tp H v (jl j) ∧ j ∈ js ∧ Us n us ∧ (∀ H', Same H H' → runBy n us j = none → Q .non H') ∧ ∀ H' x r, Same H H' → runBy n us j = some r → Tp H' x r → Q x H') ∨
    (((∃ d, Dp K H v d ∧ jumpD d (n : Int) = false) ∨ ∃ j : J, Tp H v (jl j) ∧ j ∉ js) ∧ ∀ d H', Same H H' → H d = none → H' d = some (.xd [("jump", v)]) → E (.ref (cN K)) (some d) H'))
theorem sc_krb : FnScope ["self", "jump", "run", "u", "v"] ["self", "jump"] (defScope s_Part_kept_run_by) := ⟨rfl, rfl, rfl, by decide +kernel, rfl, by decide +kernel, by decide +kernel⟩
theorem ok_krb (T : Tx K mg) : Ok P w K mg base (L2.CX P w) 6 (He.ma K (cP K) "kept_run_by") ["self", "jump"] (sp_krb K) := by
  refine okX_of (d := d_Part_kept_run_by) T (fnAt2 (i := 5) rfl) rfl rfl sc_krb (fun vs H Q E h => ?_) (fun _ _ _ _ _ _ us hl => match us, hl with | [_, _], _ => rfl) fun cdv A outer s H vs Q E hr h => ?_
  · obtain ⟨_, _, _, _, _, _, rfl, _⟩ := h; rfl
  obtain ⟨o, v, n, js, al, us, rfl, ho, q⟩ := h
  have hu := hu_of hr
  refine ⟨_, (pss_cons (ps_if (pt_cmpR (op_notInO (ok_has T) (hr.mono (by decide)) pass0 (T.mR 11)) (pv 1) (pe_fld (pv 0) rfl) rfl)
      (pss_one (ps_raise rfl (takes_of rfl rfl rfl rfl) (pmk_oex T.oex.1 T.oex.2.2.1 T.oex.2.2.2.1 (ok_nj T).ex.choose_spec.1 (hr.mono (by decide)) (ok_nj T).ex.choose_spec.2 .nil pass0 (by rfl) (T.glo 30) (pa_cons (pv 1) pa_nil)))) pss_nil)
    (pss_cons (ps_if (pt_cmpR (op_notInD (ru hr)) (pv 1) (pe_fld (pv 0) rfl) rfl) (pss_one (ps_ret pe_non)) pss_nil)
    (pss_cons (ps_set (i := 2) sc_krb.nd rfl (.inr rfl) (pv 1))
    (pss_cons (ps_while (passes_of rfl) (pt_cmpR op_ne (pe_ix ix_tup (pv 2) pe_int (fun _ _ => rfl)) pe_int (nomark _))
      (pss_one (ps_set (i := 2) sc_krb.nd rfl (.inr rfl) (pe_op op_catT (pe_tup (pa_cons (pe_ix ix_list (pe_lc (own := [("u", 3), ("v", 4)]) (g := gTup K 2 (gCons (gName 3) (gCons (gName 4) gNil))) rfl sc_krb.nd (pi_list (pe_fld (pv 0) rfl)) (blkOk_by (N := ["self", "jump", "run", "u", "v"]) (sc := defScope s_Part_kept_run_by) (by decide +kernel))
        (fun _ _ _ _ _ => pgt (K := K) rfl rfl (pgs_cons (pg_name (i := 3) sc_krb.nd rfl (.inl rfl)) (pgs_cons (pg_name (i := 4) sc_krb.nd rfl (.inl rfl)) pgs_nil))) (fun _ _ _ _ _ => pts_one (pt_cmpR op_eq (pv 4) (pe_ix (r := rIxT K) ix_tup (pv 2) pe_int (fun _ _ => rfl)) (nomark _))) (fun _ _ _ _ _ => pv 3)) pe_int (fun _ _ => rfl)) pa_nil)) (pv 2)))))
    (pss_cons (ps_while (passes_of rfl) (pt_cmpR op_ne (pe_ix ix_tup (pv 2) (pe_un un_neg pe_int) (fun _ _ => rfl)) (pe_op op_sub (pe_fld (pe_fld (pv 0) rfl) rfl) pe_int) (nomark _))
      (pss_one (ps_set (i := 2) sc_krb.nd rfl (.inr rfl) (pe_op op_catT (pv 2) (pe_tup (pa_cons (pe_ix ix_list (pe_lc (own := [("u", 3), ("v", 4)]) (g := gTup K 2 (gCons (gName 3) (gCons (gName 4) gNil))) rfl sc_krb.nd (pi_list (pe_fld (pv 0) rfl)) (blkOk_by (N := ["self", "jump", "run", "u", "v"]) (sc := defScope s_Part_kept_run_by) (by decide +kernel))
        (fun _ _ _ _ _ => pgt (K := K) rfl rfl (pgs_cons (pg_name (i := 3) sc_krb.nd rfl (.inl rfl)) (pgs_cons (pg_name (i := 4) sc_krb.nd rfl (.inl rfl)) pgs_nil))) (fun _ _ _ _ _ => pts_one (pt_cmpR op_eq (pv 3) (pe_ix (r := rIxT K) ix_tup (pv 2) (pe_un un_neg pe_int) (fun _ _ => rfl)) (nomark _))) (fun _ _ _ _ _ => pv 4)) pe_int (fun _ _ => rfl)) pa_nil))))))
    (pss_one (ps_ret (pv 2)))))))), ?_⟩
  obtain ⟨dx, rr, d, l, h1, h2, h3, ⟨vs, hvs, hT⟩, h5⟩ := id ho
  obtain ⟨dy, rl, rd, g1, g2⟩ := id h2
  -- the jump's own test
  refine ⟨_, rfl, _, rfl, o, _, dx, _, _, rfl, h1, T.pt, T.nP 7, rfl, rr, dy, _, rfl, g1, rr, v, n, js, rfl, h2, ?_⟩
  rcases q with ⟨j, ⟨p, rfl, hp⟩, hjs, hus, qn, qs⟩ | ⟨hbad, q⟩
  case inr =>
    have fin : ∀ H', Same H H' → tMkO (cN K) (sp_nj K) [] (tCons (tVar 1) tNil) [some (V.ref o), some v, none, none, none] H' fun cls d H' => E cls d H' := fun H' sm => by
      refine ⟨v, rfl, show 1 ≤ 1000 by decide, fun a ha => ⟨a, v, rfl, upd_same, fun x hx hne => ?_⟩⟩
      rw [upd_ne hne] at hx
      have hn : H x = none := none_of sm hx
      have hna : H a = none := none_of sm ha
      refine ⟨rfl, x, _, upd_same, by rw [upd_ne hne, upd_same], hx, q x _ (fun b u e => ?_) hn upd_same⟩
      have nb : b ≠ x := ne_of_none e hn
      have na : b ≠ a := ne_of_none e hna
      rw [upd_ne nb, del_ne na, upd_ne na, upd_ne nb, upd_ne na]
      exact sm _ _ e
    rcases hbad with ⟨dd, hd, hjd⟩ | ⟨j, hj, hn⟩
    · exact .inl ⟨dd, hd, hjd, fun H' sm => ⟨_, rfl, _, rfl, iteT (fin H' sm)⟩⟩
    · exact .inr ⟨j, hj, fun H' sm => ⟨_, rfl, by rw [decide_eq_false hn]; exact ⟨_, rfl, iteT (fin H' sm)⟩⟩⟩
  refine .inr ⟨j, ⟨p, rfl, hp⟩, fun H0 sm0 => ⟨_, rfl, ?_⟩⟩
  rw [decide_eq_true hjs]
  refine ⟨_, rfl, iteF ?_⟩
  have hl0 := sm0 _ _ hvs
  have h10 := sm0 _ _ h1
  have hp0 := sm0 _ _ hp
  -- among the useful
  refine ⟨_, rfl, _, rfl, o, _, dx, _, _, rfl, h10, T.pt, T.nP 9, rfl, _, _, Tp.dp (q := jl j) ⟨p, rfl, hp0⟩, TL.dp (qs := us.map jl) ⟨vs, hl0, hT.keep (Same.tk sm0)⟩, shaped_td _, shaped_tds _, ?_⟩
  rw [any_td]
  by_cases hju : j ∈ us
  case neg =>
    rw [decide_eq_false (fun z => hju (mem_map_jl.mp z))]
    exact ⟨_, rfl, iteT (qn H0 sm0 (by unfold runBy; rw [if_neg hju]))⟩
  rw [decide_eq_true (mem_map_jl.mpr hju)]
  refine ⟨_, rfl, iteF ⟨_, rfl, ?_⟩⟩
  obtain ⟨n1000, hval, hback, hfwd⟩ := hus
  have hjv := hval j hju
  generalize hR1 : back us n [j.1, j.2] = R1
  generalize hR : forth (n - 1) us n R1 = R
  have hres : runBy n us j = some R := by unfold runBy; rw [if_pos hju, hR1, hR]
  have slT : ∀ {H' : Hp} {x : V} {r : List Nat}, Tp H' x r → ∃ a, x = .ref a ∧ SqT K H' a (It r) := fun ⟨a, e, z⟩ => ⟨a, e, .inl (.inl z)⟩
  -- backward
  refine ⟨fun m σ H' => ∃ (x : V) (y : Nat) (r' : List Nat) (f : Nat), σ = [some (.ref o), some (.ref p), some x, none, none] ∧ Same H H' ∧ Tp H' x (y :: r') ∧ m = y ∧ y < f ∧ back us f (y :: r') = R1 ∧ (y = 0 ∨ ∃ i ∈ us, i.2 = y) ∧ r'.getLast? = some j.2 ∧ y + r'.length ≤ 1000,
    ⟨_, .ref p, j.1, [j.2], n, rfl, sm0, ⟨p, rfl, hp0⟩, rfl, by omega, hR1, ?_, rfl, by show j.1 + 1 ≤ 1000; omega⟩, ?_⟩
  · by_cases h0 : j.1 = 0
    · exact .inl h0
    · exact .inr (hback j hju h0)
  rintro m σ H1 ⟨x, y, r', f, rfl, sm1, ht, em, hf, hb, hpre, hlast, hlen⟩
  have em' := em.symm
  subst em'
  obtain ⟨a, rfl, hsq⟩ := slT ht
  refine ⟨_, rfl, a, _, 0, _, rfl, rfl, hsq, atI_nat (j := 0) rfl, rfl, _, rfl, ?_⟩
  have e0 : (!decide (V.int (y : Int) = V.int 0)) = !decide (y = 0) := congrArg (!·) (eqInt (a := y) (b := 0))
  rw [e0]
  by_cases hy0 : y = 0
  case neg =>
    rw [decide_eq_false hy0]
    obtain ⟨i0, hi0, hi0e⟩ := hpre.resolve_left hy0
    obtain ⟨i, hh, hiu, hie, hhd⟩ := hd_of (f := fun j => decide (j.2 = y)) ⟨i0, hi0, decide_eq_true hi0e⟩
    have hiy : i.2 = y := of_decide_eq_true hie
    have hiv := hval i hiu
    refine iteT ⟨fun σ' H' => ∃ m', m' < y ∧ ∃ (x : V) (y : Nat) (r' : List Nat) (f : Nat), σ' = [some (.ref o), some (.ref p), some x, none, none] ∧ Same H H' ∧ Tp H' x (y :: r') ∧ m' = y ∧ y < f ∧ back us f (y :: r') = R1 ∧ (y = 0 ∨ ∃ i ∈ us, i.2 = y) ∧ r'.getLast? = some j.2 ∧ y + r'.length ≤ 1000, fun σ' H' z => z, ?_⟩
    have h11 := sm1 _ _ h1
    have hl1 := sm1 _ _ hvs
    refine ⟨_, rfl, o, _, dx, _, _, rfl, h11, T.pt, T.nP 9, rfl, l, rfl, ⟨vs, .inl (.inl hl1)⟩, fun D hD => lc_listK (K := K) (a := l) (xs := vs) No (fun _ => True) (fun i acc _ => acc = ((us.take i).filter fun j => decide (j.2 = y)).map fun j => V.int (j.1 : Int)) hD ?_ trivial (fun _ _ _ => trivial) rfl (fun H' k _ => .inl (.inl (k.same _ _ hl1))) ?_ ?_⟩
    · rw [hT.lenm]; exact small1000 h5
    · intro ix xx hx acc H' Ny Nn k _ eD hP hy hnn
      obtain ⟨jj, ej, pj, rfl, hpj⟩ := hT.item hx
      have sk := sm1.trans k.same
      have hsq' : SqT K H' a (It (y :: r')) := by
        obtain ⟨a', e', z'⟩ := ht
        cases e'
        exact .inl (.inl (k.same _ _ z'))
      refine ⟨pj, _, rfl, .inl (.inl (sk _ _ hpj)), rfl, _, _, rfl, _, _, rfl, rfl, rfl, _, rfl, _, rfl, a, _, 0, _, rfl, rfl, hsq', atI_nat (j := 0) rfl, rfl, _, rfl, ?_⟩
      rw [eqInt]
      by_cases hj2 : jj.2 = y
      · rw [decide_eq_true hj2]
        exact iteT ⟨_, rfl, hy _ _ eD k trivial (filtV_yes (f := fun j => decide (j.2 = y)) (rep := fun j => V.int (j.1 : Int)) ej (decide_eq_true hj2) hP)⟩
      · rw [decide_eq_false hj2]
        exact iteF (hnn _ eD k trivial (filtV_no ej (decide_eq_false hj2) hP))
    · intro acc H' k _ eD hP
      rw [hT.lenm, List.take_length] at hP
      have ea : acc[0]? = some (V.int (i.1 : Int)) := by
        rw [hP, List.getElem?_map, ← List.head?_eq_getElem?, hh]; rfl
      have ht' := ht.keep (Same.tk k.same)
      refine ⟨D, acc, 0, _, rfl, rfl, .inl (.inl eD), atI_nat (j := 0) ea, show 1 ≤ sizeLine by decide, fun b hb' => ⟨_, rfl, ?_⟩⟩
      have hs2 : SqT K (upd H' b (.tup [V.int (i.1 : Int)])) a (It (y :: r')) := by
        obtain ⟨a', e', z'⟩ := ht'
        cases e'
        exact .inl (.inl (by rw [upd_ne (ne_of_none z' hb')]; exact z'))
      refine ⟨b, a, [V.int (i.1 : Int)], It (y :: r'), rfl, rfl, .inl (.inl upd_same), hs2, fun z => (by cases z), by rw [it_len, sizeLine_eq]; simp only [List.length_cons, List.length_nil]; omega, fun z => (by cases z), fun _ c hc => ?_⟩
      have smb := (sm1.trans k.same).trans (Same.new (o := HO.tup [V.int (i.1 : Int)]) hb')
      refine ⟨i.1, by omega, .ref c, i.1, y :: r', f - 1, rfl, smb.trans (Same.new hc), ⟨c, rfl, upd_same⟩, rfl, by omega, ?_, ?_, ?_, ?_⟩
      · obtain ⟨f', rfl⟩ : ∃ f', f = f' + 1 := ⟨f - 1, by omega⟩
        rw [← hb]
        show back us f' (i.1 :: y :: r') = (if y = 0 then y :: r' else back us f' (((us.filter fun j => decide (j.2 = y)).headD (0, 0)).1 :: y :: r'))
        rw [if_neg hy0, hhd]
      · by_cases h0 : i.1 = 0
        · exact .inl h0
        · exact .inr (hback i hiu h0)
      · cases r' with
        | nil => cases hlast
        | cons z r' => rw [List.getLast?_cons_cons]; exact hlast
      · simp only [List.length_cons]; omega
  rw [decide_eq_true hy0]
  refine iteF ?_
  subst hy0
  have hR1' : R1 = 0 :: r' := by
    obtain ⟨f', rfl⟩ : ∃ f', f = f' + 1 := ⟨f - 1, by omega⟩
    rw [← hb]; rfl
  have hl2 : (0 :: r').getLast? = some j.2 := by
    cases r' with
    | nil => cases hlast
    | cons z r' => rw [List.getLast?_cons_cons]; exact hlast
  -- forward
  refine ⟨fun m σ H' => ∃ (x : V) (r : List Nat) (y f : Nat), σ = [some (.ref o), some (.ref p), some x, none, none] ∧ Same H H' ∧ Tp H' x r ∧ r.getLast? = some y ∧ y < n ∧ m = n - 1 - y ∧ n - 1 - y < f ∧ forth (n - 1) us f r = R ∧ (y = n - 1 ∨ ∃ i ∈ us, i.1 = y) ∧ r.length + (n - 1 - y) ≤ 3000,
    ⟨_, .ref a, 0 :: r', j.2, n, rfl, sm1, ht, hl2, hjv.2, rfl, by omega, by rw [← hR1']; exact hR, ?_, by simp only [List.length_cons]; omega⟩, ?_⟩
  · by_cases h0 : j.2 = n - 1
    · exact .inl h0
    · exact .inr (hfwd j hju h0)
  rintro m σ H2 ⟨x, r, y, f, rfl, sm2, ht2, hlast2, hyn, em, hf2, hb2, hpre2, hlen2⟩
  subst em
  obtain ⟨a2, rfl, hsq2⟩ := slT ht2
  have h12 := sm2 _ _ h1
  have g12 := sm2 _ _ g1
  refine ⟨_, rfl, _, rfl, a2, _, -1, _, rfl, rfl, hsq2, last_at hlast2, _, rfl, o, _, dx, _, _, rfl, h12, T.pt, T.nP 7, rfl, rr, _, dy, _, _, rfl, g12, T.rt, T.nR 4, rfl, _, _, rfl, rfl, rfl, _, rfl, ?_⟩
  have hn2 : 2 ≤ n := g2.2.2.1
  have e1 : (!decide (V.int (y : Int) = V.int ((n : Int) - 1))) = !decide (y = n - 1) := by
    have := eqInt (a := y) (b := n - 1)
    rw [← this]
    have e3 : ((n - 1 : Nat) : Int) = (n : Int) - 1 := by omega
    rw [e3]
  rw [e1]
  by_cases hy1 : y = n - 1
  case pos =>
    rw [decide_eq_true hy1]
    refine iteF ⟨_, rfl, qs H2 _ R sm2 hres ?_⟩
    have : R = r := by
      obtain ⟨f', rfl⟩ : ∃ f', f = f' + 1 := ⟨f - 1, by omega⟩
      rw [← hb2]
      show (if r.getLast? = some (n - 1) then r else _) = r
      rw [if_pos (by rw [hlast2, hy1])]
    rw [this]; exact ht2
  rw [decide_eq_false hy1]
  obtain ⟨i0, hi0, hi0e⟩ := hpre2.resolve_left hy1
  obtain ⟨i, hh, hiu, hie, hhd⟩ := hd_of (f := fun j => decide (j.1 = y)) ⟨i0, hi0, decide_eq_true hi0e⟩
  have hiy : i.1 = y := of_decide_eq_true hie
  have hiv := hval i hiu
  refine iteT ⟨fun σ' H' => ∃ m', m' < n - 1 - y ∧ ∃ (x : V) (r : List Nat) (y f : Nat), σ' = [some (.ref o), some (.ref p), some x, none, none] ∧ Same H H' ∧ Tp H' x r ∧ r.getLast? = some y ∧ y < n ∧ m' = n - 1 - y ∧ n - 1 - y < f ∧ forth (n - 1) us f r = R ∧ (y = n - 1 ∨ ∃ i ∈ us, i.1 = y) ∧ r.length + (n - 1 - y) ≤ 3000, fun σ' H' z => z, ?_⟩
  have hl3 := sm2 _ _ hvs
  refine ⟨_, rfl, _, rfl, o, _, dx, _, _, rfl, h12, T.pt, T.nP 9, rfl, l, rfl, ⟨vs, .inl (.inl hl3)⟩, fun D hD => lc_listK (K := K) (a := l) (xs := vs) No (fun _ => True) (fun i acc _ => acc = ((us.take i).filter fun j => decide (j.1 = y)).map fun j => V.int (j.2 : Int)) hD ?_ trivial (fun _ _ _ => trivial) rfl (fun H' k _ => .inl (.inl (k.same _ _ hl3))) ?_ ?_⟩
  · rw [hT.lenm]; exact small1000 h5
  · intro ix xx hx acc H' Ny Nn k _ eD hP hy hnn
    obtain ⟨jj, ej, pj, rfl, hpj⟩ := hT.item hx
    have sk := sm2.trans k.same
    have hsq' : SqT K H' a2 (It r) := by
      obtain ⟨a', e', z'⟩ := ht2
      cases e'
      exact .inl (.inl (k.same _ _ z'))
    refine ⟨pj, _, rfl, .inl (.inl (sk _ _ hpj)), rfl, _, _, rfl, _, _, rfl, rfl, rfl, _, rfl, _, rfl, _, rfl, a2, _, -1, _, rfl, rfl, hsq', last_at hlast2, rfl, _, rfl, ?_⟩
    rw [eqInt]
    by_cases hj2 : jj.1 = y
    · rw [decide_eq_true hj2]
      exact iteT ⟨_, rfl, hy _ _ eD k trivial (filtV_yes (f := fun j => decide (j.1 = y)) (rep := fun j => V.int (j.2 : Int)) ej (decide_eq_true hj2) hP)⟩
    · rw [decide_eq_false hj2]
      exact iteF (hnn _ eD k trivial (filtV_no ej (decide_eq_false hj2) hP))
  · intro acc H' k _ eD hP
    rw [hT.lenm, List.take_length] at hP
    have ea : acc[0]? = some (V.int (i.2 : Int)) := by
      rw [hP, List.getElem?_map, ← List.head?_eq_getElem?, hh]; rfl
    have ht' := ht2.keep (Same.tk k.same)
    refine ⟨D, acc, 0, _, rfl, rfl, .inl (.inl eD), atI_nat (j := 0) ea, show 1 ≤ sizeLine by decide, fun b hb' => ?_⟩
    have hs2 : SqT K (upd H' b (.tup [V.int (i.2 : Int)])) a2 (It r) := by
      obtain ⟨a', e', z'⟩ := ht'
      cases e'
      exact .inl (.inl (by rw [upd_ne (ne_of_none z' hb')]; exact z'))
    refine ⟨a2, b, It r, [V.int (i.2 : Int)], rfl, rfl, hs2, .inl (.inl upd_same), fun z => ?_, by rw [it_len, sizeLine_eq]; simp only [List.length_cons, List.length_nil]; omega, fun z => (by cases z), fun _ c hc => ?_⟩
    · have : r = [] := by
        have z2 : (It r).length = 0 := by rw [z]; rfl
        rw [it_len] at z2
        exact List.eq_nil_of_length_eq_zero z2
      rw [this] at hlast2
      cases hlast2
    · have smb := (sm2.trans k.same).trans (Same.new (o := HO.tup [V.int (i.2 : Int)]) hb')
      have eI : It r ++ [V.int (i.2 : Int)] = It (r ++ [i.2]) := by
        show _ = (r ++ [i.2]).map fun (n : Nat) => V.int (n : Int)
        rw [List.map_append]; rfl
      refine ⟨n - 1 - i.2, by omega, .ref c, r ++ [i.2], i.2, f - 1, rfl, smb.trans (Same.new hc), ⟨c, rfl, by rw [upd_same, eI]⟩, by simp, hiv.2, rfl, by omega, ?_, ?_, ?_⟩
      · obtain ⟨f', rfl⟩ : ∃ f', f = f' + 1 := ⟨f - 1, by omega⟩
        rw [← hb2]
        show forth (n - 1) us f' (r ++ [i.2]) = (if r.getLast? = some (n - 1) then r else forth (n - 1) us f' (r ++ [((us.filter fun j => decide (some j.1 = r.getLast?)).headD (0, 0)).2]))
        have e5 : (us.filter fun j => decide (some j.1 = r.getLast?)) = us.filter fun j => decide (j.1 = y) := by
          rw [hlast2]
          congr 1
          funext jj
          simp
        rw [if_neg (by rw [hlast2]; exact fun z => hy1 (Option.some.inj z)), e5, hhd]
      · by_cases h0 : i.2 = n - 1
        · exact .inl h0
        · exact .inr (hfwd i hiu h0)
      · simp only [List.length_append, List.length_cons, List.length_nil]; omega
end
end Rl

set_option Elab.async false
set_option linter.all false
set_option maxRecDepth 100000
set_option maxHeartbeats 2000000
/-! D12: not_in. -/
namespace Rl
open PySem PySem.Spec PyProof.Rows L2
section
variable {P : Program} {w : World} {K : PySem.W.Frag} {mg : Str → Option Value} {base : Heap}
theorem Tx.exo (T : Tx K mg) : PySem.W.excIn K (cO K) He.veBase "ValueError.__new__" = true ∧ PySem.W.keepIn K (.ref (cO K)) = true ∧ PySem.W.subIn K (.ref (cO K)) (.type "BaseException") = some true ∧ PySem.W.typeIn K (.ref (cO K)) = some (.type "type") := He.exc_ok (T.f2 7)
def sp_notin (K : PySem.W.Frag) : Sp := fun vs H Q E => ∃ (o o' : Addr) (n n' : Nat) (js al us js' al' us' : List J), vs = [.ref o, .ref o'] ∧ PtAt K H o n js al us ∧ PtAt K H o' n' js' al' us' ∧
  (((n = n' ∧ js = js') ∧ Us n us ∧ (∀ j ∈ us, j ∈ js) ∧ (∀ H', Same H H' → notIn n us al' = none → Q .non H') ∧ ∀ H' x r, Same H H' → notIn n us al' = some r → Tp H' x r → Q x H') ∨
    (¬ (n = n' ∧ js = js') ∧ ∀ H', Same H H' → E (.ref (cO K)) none H'))
theorem sc_notin : FnScope ["self", "other", "left", "jump"] ["self", "other"] (defScope s_Part_not_in) := ⟨rfl, rfl, rfl, by decide +kernel, rfl, by decide +kernel, by decide +kernel⟩
theorem ok_notin (T : Tx K mg) : Ok P w K mg base (L2.CX P w) 8 (He.ma K (cP K) "not_in") ["self", "other"] (sp_notin K) := by
  refine okX_of (d := d_Part_not_in) T (fnAt2 (i := 6) rfl) rfl rfl sc_notin (fun vs H Q E h => ?_) (fun _ _ _ _ _ _ us hl => match us, hl with | [_, _], _ => rfl) fun cdv A outer s H vs Q E hr h => ?_
  · obtain ⟨_, _, _, _, _, _, _, _, _, _, rfl, _⟩ := h; rfl
  obtain ⟨o, o', n, n', js, al, us, js', al', us', rfl, ho, ho', q⟩ := h
  have hu := hu_of hr
  refine ⟨_, (pss_cons (ps_if (pt_cmpR (op_neO (ok_req T) (hr.mono (by decide)) pass0 rfl T.ex.1 (T.mR 10).fn) (pe_fld (pv 0) rfl) (pe_fld (pv 1) rfl) (nomark _))
      (pss_one (ps_raise rfl (takes_of rfl rfl rfl rfl) (pmk_none PySem.F.excBase_ValueError T.exo.1 (T.glo 31) T.exo.2.1 (raises_own T.exo.2.2.1 T.exo.2.2.2) (by rfl)))) pss_nil)
    (pss_cons (ps_setLc (i := 2) (own := [("jump", 3)]) (g := gName 3) rfl sc_notin.nd rfl rfl (by rfl) (pi_list (pe_fld (pv 0) rfl)) (blkOk_by (N := ["self", "other", "left", "jump"]) (sc := defScope s_Part_not_in) (by decide +kernel))
        (fun _ _ _ _ _ => pg_name (i := 3) sc_notin.nd rfl (Or.inl rfl)) (fun _ _ _ _ _ => pts_one (pt_cmp (pc_dnotin hu (pv 3) (pf (K := K) rfl (pv 1) rfl)))) (fun _ _ _ _ _ => pv 3))
    (pss_one (ps_ret (pe_ifExp (pt_cmpR (op_eqD (ru4 hr)) (pv 2) (pe_lst pa_nil) (nomark _)) pe_non (pm (pv 0) T.pt (T.mP 2) (ok_krb T) (hr.mono (by decide)) passL (pa_cons (pe_ix ix_list (pv 2) pe_int (fun _ _ => rfl)) pa_nil))))))), ?_⟩
  obtain ⟨dx, rr, d, l, h1, h2, h3, ⟨vs, hvs, hT⟩, h5⟩ := id ho
  obtain ⟨dx', rr', d', l', h1', h2', h3', h4', h5'⟩ := id ho'
  obtain ⟨dy, rl, rd, g1, g2⟩ := id h2
  obtain ⟨dy', rl', rd', g1', g2'⟩ := id h2'
  refine ⟨_, rfl, o, _, dx, _, _, rfl, h1, T.pt, T.nP 7, rfl, _, rfl, o', _, dx', _, _, rfl, h1', T.pt, T.nP 7, rfl, rr, rr', dy, dy', _, _, rfl, rfl, g1, g1', rr, rr', n, n', js, js', rfl, h2, h2', _, rfl, _, rfl, ?_⟩
  rcases q with ⟨hs, hus, hsub, qn, qs⟩ | ⟨hs, q⟩
  case inr =>
    rw [decide_eq_false hs]
    exact iteT (q H (Same.refl H))
  rw [decide_eq_true hs]
  refine iteF ⟨_, rfl, o, _, dx, _, _, rfl, h1, T.pt, T.nP 9, rfl, l, rfl, ⟨vs, .inl (.inl hvs)⟩, fun D hD => lc_listK (K := K) (a := l) (xs := vs) No (fun _ => True) (fun i acc H' => TpAll H' acc (((us.take i).filter fun j => decide (j ∉ al')).map jl)) hD ?_ trivial (fun _ _ _ => trivial) trivial (fun H' k _ => .inl (.inl (k.same _ _ hvs))) ?_ ?_⟩
  · rw [hT.lenm]; exact small1000 h5
  · intro i x hx acc H' Ny Nn k _ eD hP hy hnn
    obtain ⟨j, ej, pj, rfl, hj⟩ := hT.item hx
    have hj' := k.same _ _ hj
    refine ⟨rfl, _, rfl, _, rfl, o', _, dx', _, _, rfl, k.same _ _ h1', T.pt, T.nP 8, rfl, d', _, rfl, DGet.t (k := jk j) (k.same _ _ h3') hj', ?_⟩
    rw [tbl_get]
    by_cases hin : j ∈ al'
    · rw [decide_eq_true hin]
      exact ⟨_, rfl, iteF (hnn _ eD k trivial (filt_no ej (by simp [hin]) hP))⟩
    · rw [decide_eq_false hin]
      exact ⟨_, rfl, iteT ⟨_, rfl, hy _ _ eD k trivial (filt_yes ej (by simp [hin]) eD hP ⟨pj, rfl, hj'⟩)⟩⟩
  · intro acc H' k _ eD hP
    rw [hT.lenm, List.take_length] at hP
    have smk := k.same
    refine ⟨_, rfl, show 0 ≤ sizeLine from Nat.zero_le _, fun e he => ?_⟩
    have eD' : (upd H' e (.lst [])) D = some (.lst acc) := by rw [upd_ne (ne_of_none eD he)]; exact eD
    have sme := smk.trans (Same.new (o := HO.lst []) he)
    refine ⟨_, _, TL.dp (qs := (us.filter fun j => decide (j ∉ al')).map jl) ⟨acc, eD', hP.keep (Same.tk (Same.new he))⟩, Dp.lst (ds := []) (.inl (.inl upd_same)) .nil, shaped_tds _, by decide, ?_⟩
    have e1 : PyData.eqv (.list (((us.filter fun j => decide (j ∉ al')).map jl).map td)) (.list []) = decide ((us.filter fun j => decide (j ∉ al')) = []) := by
      show PyData.eqv (.list _) (.list _) = _
      rw [PyData.eqv]
      cases us.filter fun j => decide (j ∉ al') with
      | nil => rfl
      | cons a l => simp [PyData.eqvAll]
    rw [e1]
    have en : notIn n us al' = match us.filter fun j => decide (j ∉ al') with
      | [] => none
      | j :: _ => runBy n us j := rfl
    cases ef : us.filter fun j => decide (j ∉ al') with
    | nil =>
      rw [ef] at en
      exact ⟨_, rfl, iteT (qn _ sme en)⟩
    | cons j0 rest =>
      rw [ef] at en hP
      have hj0 : j0 ∈ us := (List.mem_filter.mp (by rw [ef]; exact List.mem_cons_self : j0 ∈ us.filter fun j => decide (j ∉ al'))).1
      cases acc with
      | nil => cases hP
      | cons v0 acc =>
      refine ⟨_, rfl, iteF ⟨_, rfl, o, dx, _, rfl, sme _ _ h1, rfl, _, rfl, D, _, 0, v0, rfl, rfl, .inl (.inl eD'), atI_nat (j := 0) rfl, o, v0, n, js, al, us, rfl, ho.same sme, .inl ⟨j0, hP.1.keep (Same.tk (Same.new he)), hsub _ hj0, hus, fun H2 sm2 e2 => qn H2 (sme.trans sm2) (en.trans e2), fun H2 x r sm2 e2 ht => qs H2 x r (sme.trans sm2) (en.trans e2) ht⟩⟩⟩
end
end Rl

set_option linter.all false
/-! M2: the rows, ascending. Plain. -/
namespace Rl
def lexLt (a b : J) : Prop := a.1 < b.1 ∨ (a.1 = b.1 ∧ a.2 < b.2)
theorem lexLt_irrefl (a : J) : ¬ lexLt a a := fun h => by
  rcases h with h | ⟨_, h⟩ <;> omega
theorem lexLt_asymm {a b : J} (h : lexLt a b) (h' : lexLt b a) : False := by
  unfold lexLt at h h'
  omega
theorem lexLt_of_le {a b : J} (h : lexLe a b) (n : a ≠ b) : lexLt a b := by
  unfold lexLe at h
  unfold lexLt
  rcases h with h | ⟨h1, h2⟩
  · exact .inl h
  · refine .inr ⟨h1, ?_⟩
    rcases Nat.lt_or_ge a.2 b.2 with h3 | h3
    · exact h3
    · exact absurd (Prod.ext h1 (by omega)) n
theorem sorted_ext : ∀ {l m : List J}, l.Pairwise lexLt → m.Pairwise lexLt → (∀ j, j ∈ l ↔ j ∈ m) → l = m
  | [], [], _, _, _ => rfl
  | [], b :: m, _, _, h => absurd ((h b).mpr List.mem_cons_self) List.not_mem_nil
  | a :: l, [], _, _, h => absurd ((h a).mp List.mem_cons_self) List.not_mem_nil
  | a :: l, b :: m, hl, hm, h => by
    obtain ⟨hl1, hl2⟩ := List.pairwise_cons.mp hl
    obtain ⟨hm1, hm2⟩ := List.pairwise_cons.mp hm
    have eab : a = b := by
      rcases List.mem_cons.mp ((h a).mp List.mem_cons_self) with e | e
      · exact e
      · rcases List.mem_cons.mp ((h b).mpr List.mem_cons_self) with e' | e'
        · exact e'.symm
        · exact (lexLt_asymm (hl1 b e') (hm1 a e)).elim
    subst eab
    rw [sorted_ext hl2 hm2 fun j => ?_]
    constructor
    · intro hj
      rcases List.mem_cons.mp ((h j).mp (List.mem_cons_of_mem _ hj)) with e | e
      · subst e
        exact (lexLt_irrefl _ (hl1 _ hj)).elim
      · exact e
    · intro hj
      rcases List.mem_cons.mp ((h j).mpr (List.mem_cons_of_mem _ hj)) with e | e
      · subst e
        exact (lexLt_irrefl _ (hm1 _ hj)).elim
      · exact e
theorem rowsFrom_mem {n : Nat} {js : List J} {u : Nat} {j : J} : j ∈ rowsFrom n js u ↔ j.1 = u ∧ u < j.2 ∧ j.2 < n ∧ j ∈ js := by
  unfold rowsFrom
  rw [List.mem_map]
  constructor
  · rintro ⟨v, hv, rfl⟩
    obtain ⟨h1, h2⟩ := List.mem_filter.mp hv
    have h3 := List.mem_range'_1.mp h1
    exact ⟨rfl, by show u < v; omega, by show v < n; omega, of_decide_eq_true h2⟩
  · rintro ⟨rfl, h1, h2, h3⟩
    exact ⟨j.2, List.mem_filter.mpr ⟨List.mem_range'_1.mpr ⟨by omega, by omega⟩, decide_eq_true h3⟩, rfl⟩
theorem rowsOf_mem' {n : Nat} {js : List J} {j : J} : j ∈ rowsOf n js ↔ j.1 < j.2 ∧ j.2 < n ∧ j ∈ js := by
  unfold rowsOf
  rw [List.mem_flatMap]
  constructor
  · rintro ⟨u, _, h⟩
    obtain ⟨rfl, h⟩ := rowsFrom_mem.mp h
    exact h
  · rintro ⟨h1, h2, h3⟩
    exact ⟨j.1, List.mem_range.mpr (by omega), rowsFrom_mem.mpr ⟨rfl, h1, h2, h3⟩⟩
theorem rowsOf_mem {n : Nat} {js : List J} (hv : Val n js) {j : J} : j ∈ rowsOf n js ↔ j ∈ js := by
  rw [rowsOf_mem']
  exact ⟨fun h => h.2.2, fun h => ⟨(hv j h).1, (hv j h).2, h⟩⟩
theorem rowsFrom_sorted (n : Nat) (js : List J) (u : Nat) : (rowsFrom n js u).Pairwise lexLt := by
  unfold rowsFrom
  rw [List.pairwise_map]
  refine List.Pairwise.filter _ (List.Pairwise.imp ?_ List.pairwise_lt_range')
  intro a b h
  exact .inr ⟨rfl, h⟩
theorem rowsOf_sorted (n : Nat) (js : List J) : (rowsOf n js).Pairwise lexLt := by
  unfold rowsOf
  rw [List.pairwise_flatMap]
  refine ⟨fun u _ => rowsFrom_sorted n js u, List.Pairwise.imp ?_ List.pairwise_lt_range⟩
  intro a b hab x hx y hy
  have h1 := (rowsFrom_mem.mp hx).1
  have h2 := (rowsFrom_mem.mp hy).1
  exact .inl (by omega)
theorem sorted_nodup {l : List J} (h : l.Pairwise lexLt) : l.Nodup := List.Pairwise.imp (fun {a b} hab e => by subst e; exact lexLt_irrefl _ hab) h
theorem rowsOf_of_perm {n : Nat} {js js' : List J} (hp : js'.Perm js) (hs : js'.Pairwise lexLe) (hn : js.Nodup) (hv : Val n js) : js' = rowsOf n js := by
  have hn' : js'.Nodup := hp.nodup_iff.mpr hn
  refine sorted_ext ?_ (rowsOf_sorted n js) fun j => by rw [rowsOf_mem hv, hp.mem_iff]
  exact List.Pairwise.imp₂ (fun a b h1 h2 => lexLt_of_le h1 h2) hs hn'
theorem rowsOf_val (n : Nat) (js : List J) : Val n (rowsOf n js) := fun j h => ⟨(rowsOf_mem'.mp h).1, (rowsOf_mem'.mp h).2.1⟩
theorem rowsOf_perm {n : Nat} {js : List J} (hn : js.Nodup) (hv : Val n js) : (rowsOf n js).Perm js := by
  rw [List.perm_ext_iff_of_nodup (sorted_nodup (rowsOf_sorted n js)) hn]
  exact fun j => rowsOf_mem hv
theorem rowsOf_len {n : Nat} {js : List J} (hn : js.Nodup) (hv : Val n js) : (rowsOf n js).length = js.length := (rowsOf_perm hn hv).length_eq
theorem rowsOf_sorted_eq {n : Nat} {js : List J} (hs : js.Pairwise lexLt) (hv : Val n js) : rowsOf n js = js := sorted_ext (rowsOf_sorted n js) hs fun j => rowsOf_mem hv
end Rl

set_option Elab.async false
set_option linter.all false
set_option maxRecDepth 100000
set_option maxHeartbeats 2000000
/-! D13: Routine.__init__. -/
namespace Rl
open PySem PySem.Spec PyProof.Rows L2
section
variable {P : Program} {w : World} {K : PySem.W.Frag} {mg : Str → Option Value} {base : Heap}
theorem for_enumL {a : Addr} {xs : List V} {g : TG} {tb : TS} {D : Ends} {σ : L2.St} {H : Hp} (Pv : Nat → L2.St → Hp → Prop) (h0 : Pv 0 σ H) (hl : ∀ i σ H, i ≤ xs.length → Pv i σ H → SqL K H a xs)
    (hs : ∀ i x σ H T, xs[i]? = some x → Pv i σ H → H T = none → g (.ref T) σ (upd H T (.tup [.int (i : Nat), x])) fun σ2 H2 => tb { D with nx := Pv (i + 1), ct := Pv (i + 1), bk := D.nx } σ2 H2) (hd : ∀ σ H, Pv xs.length σ H → D.nx σ H) :
    ∃ W : Nat → Nat → L2.St → Hp → Prop, (∃ m, W 0 m σ H) ∧ ∀ i m σ H, W i m σ H →
      ((Ite K a).stop i H ∧ D.nx σ H) ∨ ((Ite K a).go i H ∧ ∃ N : L2.St → Hp → Prop, (∀ σ' H', N σ' H' → ∃ m', m' < m ∧ W (i + 1) m' σ' H') ∧ ∀ x H', (Ite K a).yld i H x H' → g x σ H' fun σ2 H2 => tb { D with nx := N, ct := N, bk := D.nx } σ2 H2) := by
  refine ⟨fun i m σ H => m = xs.length - i ∧ i ≤ xs.length ∧ Pv i σ H, ⟨xs.length, by simp, Nat.zero_le _, h0⟩, ?_⟩
  rintro i m σ H ⟨rfl, hi, p⟩
  have q := hl i σ H hi p
  rcases Nat.lt_or_ge i xs.length with h | h
  · refine .inr ⟨⟨xs, xs[i], q, List.getElem?_eq_getElem h⟩, Pv (i + 1), fun σ' H' z => ⟨_, by omega, rfl, by omega, z⟩, ?_⟩
    rintro v H' ⟨T, x, rfl, hT, rfl, hx⟩
    exact hs i x σ H T (hx xs q) p hT
  · have e : i = xs.length := by omega
    subst e
    exact .inl ⟨⟨xs, q, h⟩, hd σ H p⟩
/-- a dict comprehension over a list, by what it keeps -/
theorem dct_list {a D : Addr} {xs : List V} {g : TG} {tt : TT} {tk tv : TE} {vs : List Nat} {σ : L2.St} {H1 : Hp} {Qd : Hp → Prop} (Pv : Nat → Hp → Prop) (h0 : Pv 0 (upd H1 D (.dT []))) (hl : ∀ i H, i ≤ xs.length → Pv i H → SqL K H a xs)
    (hs : ∀ i x H', xs[i]? = some x → Pv i H' → g x (wipe σ vs) H' fun σ2 H2 => wipe σ2 vs = wipe σ vs ∧ tt σ2 H2 fun b H3 =>
      if b = true then tk σ2 H3 fun y H4 => tv σ2 H4 fun z H5 => ∃ kvs k b, y = .ref b ∧ H5 b = some (.tup (k.map kV)) ∧ H5 D = some (.dT kvs) ∧ kvs.length < sizeLine ∧ Pv (i + 1) (upd H5 D (.dT (putK kvs k z))) else Pv (i + 1) H3) (hd : ∀ H, Pv xs.length H → Qd H) :
    ∃ W : Nat → Nat → Hp → Prop, (∃ m, W 0 m (upd H1 D (.dT []))) ∧ ∀ i m H, W i m H →
      ((Itl K a).stop i H ∧ Qd H) ∨ ((Itl K a).go i H ∧ ∃ Nx : Hp → Prop, (∀ H', Nx H' → ∃ m', m' < m ∧ W (i + 1) m' H') ∧ ∀ x H', (Itl K a).yld i H x H' → g x (wipe σ vs) H' fun σ2 H2 => wipe σ2 vs = wipe σ vs ∧ tt σ2 H2 fun b H3 =>
        if b = true then tk σ2 H3 fun y H4 => tv σ2 H4 fun z H5 => ∃ kvs k b, y = .ref b ∧ H5 b = some (.tup (k.map kV)) ∧ H5 D = some (.dT kvs) ∧ kvs.length < sizeLine ∧ Nx (upd H5 D (.dT (putK kvs k z))) else Nx H3) := by
  refine ⟨fun i m H => m = xs.length - i ∧ i ≤ xs.length ∧ Pv i H, ⟨xs.length, by simp, Nat.zero_le _, h0⟩, ?_⟩
  rintro i m H ⟨rfl, hi, p⟩
  have q := hl i H hi p
  rcases Nat.lt_or_ge i xs.length with h | h
  · refine .inr ⟨⟨xs, xs[i], q, List.getElem?_eq_getElem h⟩, Pv (i + 1), fun H' z => ⟨_, by omega, rfl, by omega, z⟩, ?_⟩
    rintro x H' ⟨rfl, hx⟩
    exact hs i x _ (hx xs q) p
  · have e : i = xs.length := by omega
    subst e
    exact .inl ⟨⟨xs, q, h⟩, hd H p⟩
theorem nodup_take {α : Type} : ∀ {l : List α} {i : Nat} {x : α}, l.Nodup → l[i]? = some x → x ∉ l.take i
  | [], i, x, _, e => by simp at e
  | a :: l, 0, x, _, e => by simp
  | a :: l, i + 1, x, h, e => by
    obtain ⟨h1, h2⟩ := List.nodup_cons.mp h
    have e' : l[i]? = some x := e
    intro hm
    rw [List.take_succ_cons] at hm
    rcases List.mem_cons.mp hm with z | z
    · subst z
      exact h1 (List.mem_of_getElem? e')
    · exact nodup_take h2 e' z
theorem tbl_len (js : List J) : (tbl js).length = js.length := List.length_map ..
theorem tbl_put {js : List J} {j : J} (h : j ∉ js) : putK (tbl js) (jk j) (.bl true) = tbl (js ++ [j]) := by
  have e : ((tbl js).any fun kv => decide (kv.1 = jk j)) = false := by
    rw [valV_any, tbl_get, decide_eq_false h]
  unfold putK
  rw [e]
  show tbl js ++ [(jk j, V.bl true)] = _
  unfold tbl
  rw [List.map_append]; rfl
def sp_rinit (K : PySem.W.Frag) : Sp := fun vs H Q _ => ∃ (x dx a : Addr) (n : Nat) (js : List J), vs = [.ref x, .int (n : Int), .ref a] ∧ H x = some (.ins (cR K) dx []) ∧ 2 ≤ n ∧ n ≤ 40 ∧ TL H a (js.map jl) ∧ js.Nodup ∧ Val n js ∧ js.length ≤ 120 ∧
  ∀ H', (∀ b o, b ≠ x → H b = some o → H' b = some o) → (∀ D, H D ≠ none → RtO K D H' x n (rowsOf n js)) → RtAt K H' x n (rowsOf n js) → Q .non H'
theorem sc_rinit : FnScope ["self", "blocks", "jumps", "known", "at", "jump"] ["self", "blocks", "jumps"] (defScope s_Routine_init) := ⟨rfl, rfl, rfl, by decide +kernel, rfl, by decide +kernel, by decide +kernel⟩
theorem gint (T : Tx K mg) (i : Nat) {x : Str} {z : Int} (h : fa1[i]? = some (.int x z) := by rfl) : ∃ t, mg x = some (.int z t) := by
  obtain ⟨hp, X, G⟩ := T.heap
  exact He.int_ok X G (T.f1 i h)
theorem ok_rinit (T : Tx K mg) : Ok P w K mg base CX0 4 (He.ma K (cR K) "__init__") ["self", "blocks", "jumps"] (sp_rinit K) := by
  refine ok_of (d := d_Routine_init) T (fnAt1 (i := 13) rfl) rfl rfl sc_rinit (fun vs H Q E h => ?_) (fun _ _ _ _ _ _ us hl => match us, hl with | [_, _, _], _ => rfl) fun cdv A outer s H vs Q E hr h => ?_
  · obtain ⟨_, _, _, _, _, rfl, _⟩ := h; rfl
  obtain ⟨x, dx, a, n, js, rfl, hx, hn2, hn40, ⟨vs, hvs, hT⟩, hnd, hval, hlen, q⟩ := h
  have hu := hu_of hr
  obtain ⟨t1, gm1⟩ := gint T 0
  obtain ⟨t2, gm2⟩ := gint T 1
  refine ⟨_, PSs.nox (pss_cons (ps_if (pt_not (pt_val (pc (ok_within T) (hr.mono (by decide)) (T.glo 1) pass0 (pa_cons (pv 1) (pa_cons pe_int (pa_cons (pe_glob (v := .int 40) (by rfl) gm1 ⟨_, rfl⟩) pa_nil)))))) pss_never pss_nil)
    (pss_cons (ps_set (i := 3) sc_rinit.nd rfl (.inl rfl) pe_dnewT)
    (pss_cons (ps_for PassesOwn.never rfl (pi_enum (by rfl) (T.free 12) (pa_cons (pv 2) pa_nil)) (pg_tup rfl (pgs_cons (pg_name (i := 4) sc_rinit.nd rfl (.inl rfl)) (pgs_cons (pg_name (i := 5) sc_rinit.nd rfl (.inl rfl)) pgs_nil)))
      (pss_cons (ps_if (PW.pt (pw_or (pt_not (pt_val (pc (ok_is_jump T) (hr.mono (by decide)) (T.glo 2) pass0 (pa_cons (pv 5) (pa_cons (pv 1) pa_nil))))) (pw_or1 (pt_cmp (pc_din hu (pv 5) (pv 3)))))) pss_never pss_nil)
      (pss_one (ps_dput hu (pv 3) (pv 5) pe_bl rfl))))
    (pss_cons (ps_if (pt_cmpR op_gt (pe_callB call_len_dT (by rfl) (T.free 0) boot_len (pa_cons (pv 3) pa_nil)) (pe_glob (v := .int 120) (by rfl) gm2 ⟨_, rfl⟩) (nomark _)) pss_never pss_nil)
    (pss_cons (ps_fld (pv 0) (pv 1) rfl)
    (pss_cons (ps_fld (pv 0) (pe_callB (call_sortT rfl) (by rfl) (T.free 13) (by decide +kernel) (pa_cons (pv 3) pa_nil)) rfl)
    (pss_one (ps_fld (pv 0) (pe_dct (own := [("jump", 5)]) (g := gName 5) (tt := tYes) hu rfl sc_rinit.nd (pi_list (pe_fld (pv 0) rfl)) (blkOk_by (N := ["self", "blocks", "jumps", "known", "at", "jump"]) (sc := defScope s_Routine_init) (by decide +kernel))
      (fun _ _ _ _ _ => pg_name (i := 5) sc_rinit.nd rfl (Or.inl rfl)) (fun _ _ _ _ _ => pts_nil) (fun _ _ _ _ _ => pv 5) (fun _ _ _ _ _ => pe_bl)) rfl)))))))), ?_⟩
  have hw : withinD (.int (n : Int)) 2 40 = true := by
    show (decide ((2 : Int) ≤ (n : Int)) && decide ((n : Int) ≤ 40)) = true
    rw [Bool.and_eq_true, decide_eq_true_eq, decide_eq_true_eq]; omega
  refine ⟨_, rfl, _, .int (n : Int), 2, 40, rfl, .int _, _, rfl, ?_⟩
  rw [hw]
  refine iteF fun d hd => ?_
  have hxd : x ≠ d := ne_of_none hx hd
  have hda : a ≠ d := ne_of_none hvs hd
  refine ⟨_, rfl, a, vs, rfl, .inl (.inl (by rw [upd_ne hda]; exact hvs)), for_enumL (K := K) (a := a) (xs := vs) (fun i σ H' => ∃ u v, σ = [some (.ref x), some (.int (n : Int)), some (.ref a), some (.ref d), u, v] ∧ Same H H' ∧ H' d = some (.dT (tbl (js.take i))))
    ⟨none, none, rfl, Same.new hd, upd_same⟩ (fun i σ H' _ ⟨_, _, _, k, _⟩ => .inl (.inl (k _ _ hvs))) ?_ ?_⟩
  · rintro i xx σ H' TT hxx ⟨u, v, rfl, k, hkd⟩ hTT
    obtain ⟨j, ej, pj, rfl, hpj⟩ := hT.item hxx
    have kk := k.trans (Same.new (o := HO.tup [.int (i : Nat), .ref pj]) hTT)
    have hkd' : (upd H' TT (.tup [.int (i : Nat), .ref pj])) d = some (.dT (tbl (js.take i))) := by rw [upd_ne (ne_of_none hkd hTT)]; exact hkd
    refine ⟨TT, _, rfl, .inl (.inl upd_same), rfl, _, _, rfl, _, _, rfl, rfl, ?_⟩
    have hjm : j ∈ js := List.mem_of_getElem? ej
    have hjv := hval j hjm
    have hil := (List.getElem?_eq_some_iff.mp ej).1
    have hnin : j ∉ js.take i := nodup_take hnd ej
    refine ⟨_, rfl, _, rfl, _, td (jl j), (n : Int), rfl, Tp.dp (q := jl j) ⟨pj, rfl, kk _ _ hpj⟩, fun H2 sm2 => ?_⟩
    rw [jumpD_jl, decide_eq_true hjv]
    refine ⟨_, rfl, iteF ⟨_, rfl, _, rfl, d, _, rfl, DGet.t (k := jk j) (sm2 _ _ hkd') (sm2 _ _ (kk _ _ hpj)), ?_⟩⟩
    rw [tbl_get, decide_eq_false hnin]
    refine ⟨_, rfl, iteF ⟨_, rfl, _, rfl, d, _, rfl, DPut.t (k := jk j) (sm2 _ _ hkd') (sm2 _ _ (kk _ _ hpj)) ?_, _, _, rfl, Same.upd (kk.trans sm2) hd, ?_⟩⟩
    · rw [tbl_len, List.length_take]
      exact small1000 (by omega)
    · rw [upd_same, tbl_put hnin, List.take_add_one, ej]; rfl
  · rintro σ H' ⟨u, v, rfl, k, hkd⟩
    rw [hT.lenm, List.take_length] at hkd
    refine ⟨_, rfl, d, _, rfl, hkd, _, _, rfl, rfl, ?_⟩
    have hgt : decide (((tbl js).length : Int) > 120) = false := decide_eq_false (by rw [tbl_len]; omega)
    refine ⟨_, rfl, ?_⟩
    rw [hgt]
    refine iteF ?_
    have hx1 := k _ _ hx
    -- self.blocks
    refine ⟨_, rfl, _, rfl, x, cR K, dx, [], rfl, hx1, T.rt, T.nR 4, show 0 < 1000 by decide, ?_⟩
    have hkd2 : (upd H' x (.ins (cR K) dx (putF "blocks" (.int (n : Int)) []))) d = some (.dT (tbl js)) := by rw [upd_ne (Ne.symm hxd)]; exact hkd
    -- self.rows
    refine ⟨_, rfl, d, js, rfl, hkd2, fun p js' vs' hp hperm hsort hvs' => ?_⟩
    have hrows := rowsOf_of_perm hperm hsort hnd hval
    subst hrows
    have hxp : x ≠ p := fun z => by rw [← z, upd_same] at hp; cases hp
    rw [upd_ne (Ne.symm hxp)] at hp
    refine ⟨_, rfl, x, cR K, dx, putF "blocks" (.int (n : Int)) [], rfl, by rw [upd_ne hxp, upd_same], T.rt, T.nR 5, show 1 < 1000 by decide, ?_⟩
    -- self.there
    generalize hG : upd (upd (upd H' x (.ins (cR K) dx (putF "blocks" (.int (n : Int)) []))) p (.lst vs')) x (.ins (cR K) dx (putF "rows" (.ref p) (putF "blocks" (.int (n : Int)) []))) = G
    have gx : G x = some (.ins (cR K) dx [("blocks", .int (n : Int)), ("rows", .ref p)]) := by rw [← hG, upd_same]; rfl
    have gp : G p = some (.lst vs') := by rw [← hG, upd_ne (Ne.symm hxp), upd_same]
    have gk : ∀ b o, b ≠ x → H b = some o → G b = some o := fun b o nb e => by
      have e' := k _ _ e
      rw [← hG, upd_ne nb, upd_ne (ne_of_none e' hp), upd_ne nb]
      exact e'
    have gt : TpAll G vs' ((rowsOf n js).map jl) := hvs'.keep fun b ys e => by
      have nb : b ≠ x := fun z => by rw [z, upd_same] at e; cases e
      rw [upd_ne nb] at e
      rw [← hG, upd_ne nb, upd_ne (ne_of_none e hp), upd_ne nb]
      exact e
    have hlr : (rowsOf n js).length ≤ 120 := by rw [hperm.length_eq]; exact hlen
    refine ⟨_, rfl, x, _, dx, _, _, rfl, gx, T.rt, T.nR 5, rfl, p, rfl, ⟨vs', .inl (.inl gp)⟩, fun D hD => ?_⟩
    have hxD : x ≠ D := ne_of_none gx hD
    refine dct_list (K := K) (a := p) (xs := vs') (fun i H'' => H'' D = some (.dT (tbl ((rowsOf n js).take i))) ∧ ∀ b o, b ≠ D → G b = some o → H'' b = some o) ⟨upd_same, fun b o nb e => by rw [upd_ne nb]; exact e⟩ (fun i H'' _ ⟨_, z⟩ => .inl (.inl (z _ _ (ne_of_none gp hD) gp))) ?_ ?_
    · rintro i xx H'' hxx ⟨hD2, hk2⟩
      obtain ⟨j, ej, pj, rfl, hpj⟩ := gt.item hxx
      have hil := (List.getElem?_eq_some_iff.mp ej).1
      have hpj2 := hk2 _ _ (ne_of_none hpj hD) hpj
      have hnin : j ∉ (rowsOf n js).take i := nodup_take (sorted_nodup (rowsOf_sorted n js)) ej
      refine ⟨rfl, ⟨_, rfl, _, jk j, pj, rfl, hpj2, hD2, by rw [tbl_len, List.length_take]; exact small1000 (by omega), by rw [upd_same, tbl_put hnin, List.take_add_one, ej]; rfl, fun b o nb e => by rw [upd_ne nb]; exact hk2 _ _ nb e⟩⟩
    · rintro H'' ⟨hD2, hk2⟩
      rw [gt.lenm, List.take_length] at hD2
      have hx2 := hk2 _ _ hxD gx
      have hfin : ∀ E0 : Addr, p ≠ E0 → RtO K E0 (upd H'' x (.ins (cR K) dx (putF "there" (.ref D) [("blocks", .int (n : Int)), ("rows", .ref p)]))) x n (rowsOf n js) := fun E0 hE => by
        refine ⟨dx, p, D, upd_same, ⟨vs', ?_, gt.keep fun b ys e => ?_⟩, ?_, ⟨hn2, rowsOf_val n js, by omega⟩, hE⟩
        · rw [upd_ne (Ne.symm hxp)]; exact hk2 _ _ (ne_of_none gp hD) gp
        · have nb : b ≠ x := fun z => by rw [z, gx] at e; cases e
          rw [upd_ne nb]; exact hk2 _ _ (ne_of_none e hD) e
        · rw [upd_ne (Ne.symm hxD)]; exact hD2
      refine ⟨_, rfl, x, cR K, dx, _, rfl, hx2, T.rt, T.nR 6, show 2 < 1000 by decide, q _ (fun b o nb e => ?_) (fun E0 hE => hfin E0 fun z => ?_) (hfin x (Ne.symm hxp)).rt⟩
      · have e' := gk b o nb e
        rw [upd_ne nb]
        exact hk2 _ _ (ne_of_none e' hD) e'
      · subst z
        cases e : H p with
        | none => exact hE e
        | some o =>
          have := k _ _ e
          rw [hp] at this
          cases this
end
end Rl

set_option Elab.async false
set_option linter.all false
set_option maxRecDepth 100000
set_option maxHeartbeats 2000000
/-! D14: Part.__init__. -/
namespace Rl
open PySem PySem.Spec PyProof.Rows L2
section
variable {P : Program} {w : World} {K : PySem.W.Frag} {mg : Str → Option Value} {base : Heap}
/-- a dict whose keys are these jumps -/
def KJ (kvs : List (List Key × V)) (S : J → Prop) [DecidablePred S] : Prop := ∀ j : J, (valV kvs (jk j)).isSome = decide (S j)
theorem KJ.put {kvs : List (List Key × V)} {js : List J} {i : Nat} {j : J} {v : V} (ej : js[i]? = some j) (h : KJ kvs (· ∈ js.take i)) : KJ (putK kvs (jk j) v) (· ∈ js.take (i + 1)) := fun m => by
  rw [valV_put, List.take_add_one, ej]
  by_cases e : jk m = jk j
  · have := jk_inj e
    subst this
    rw [if_pos rfl]
    simp
  · rw [if_neg e, h m]
    have e' : ¬ m = j := fun z => e (by rw [z])
    simp [e']
def sp_pinit (K : PySem.W.Frag) : Sp := fun vs H Q _ => ∃ (x dx r a : Addr) (n : Nat) (rows js : List J), vs = [.ref x, .ref r, .ref a] ∧ H x = some (.ins (cP K) dx []) ∧ RtAt K H r n rows ∧ rows.Nodup ∧ TL H a (js.map jl) ∧ js.length ≤ 1000 ∧ (∀ j ∈ js, j ∈ rows) ∧
  ∀ H', (∀ b o, b ≠ x → H b = some o → H' b = some o) → (∀ D, H D ≠ none → RtO K D H r n rows → PtO K D H' x n rows (rows.filter fun j => decide (j ∈ js)) (useful n (rows.filter fun j => decide (j ∈ js)))) → PtAt K H' x n rows (rows.filter fun j => decide (j ∈ js)) (useful n (rows.filter fun j => decide (j ∈ js))) → Q .non H'
theorem sc_pinit : FnScope ["self", "routine", "jumps", "named", "jump"] ["self", "routine", "jumps"] (defScope s_Part_init) := ⟨rfl, rfl, rfl, by decide +kernel, rfl, by decide +kernel, by decide +kernel⟩
theorem ok_pinit (T : Tx K mg) : Ok P w K mg base CX0 5 (He.ma K (cP K) "__init__") ["self", "routine", "jumps"] (sp_pinit K) := by
  refine ok_of (d := d_Part_init) T (fnAt2 (i := 2) rfl) rfl rfl sc_pinit (fun vs H Q E h => ?_) (fun _ _ _ _ _ _ us hl => match us, hl with | [_, _, _], _ => rfl) fun cdv A outer s H vs Q E hr h => ?_
  · obtain ⟨_, _, _, _, _, _, _, rfl, _⟩ := h; rfl
  obtain ⟨x, dx, r, a, n, rows, js, rfl, hx, hrt, hnd, ⟨vs, hvs, hT⟩, hlen, hsub, q⟩ := h
  have hu := hu_of hr
  refine ⟨_, PSs.nox (pss_cons (ps_set (i := 3) sc_pinit.nd rfl (.inr rfl) pe_dnewT)
    (pss_cons (ps_for PassesOwn.never rfl (pi_list (pv 2)) (pg_name (i := 4) sc_pinit.nd rfl (.inl rfl))
      (pss_cons (ps_if (pt_cmpR (op_notInO (ok_has T) hr pass0 (T.mR 11)) (pv 4) (pv 1) rfl) pss_never pss_nil)
      (pss_one (ps_dput hu (pv 3) (pv 4) pe_bl rfl))))
    (pss_cons (ps_fld (pv 0) (pv 1) rfl)
    (pss_cons (ps_fld (pv 0) (pe_dct (own := [("jump", 4)]) (g := gName 4) hu rfl sc_pinit.nd (pi_list (pe_fld (pv 1) rfl)) (blkOk_by (N := ["self", "routine", "jumps", "named", "jump"]) (sc := defScope s_Part_init) (by decide +kernel))
      (fun _ _ _ _ _ => pg_name (i := 4) sc_pinit.nd rfl (Or.inl rfl)) (fun _ _ _ _ _ => pts_one (pt_cmp (pc_din hu (pv 4) (pv 3)))) (fun _ _ _ _ _ => pv 4) (fun _ _ _ _ _ => pe_bl)) rfl)
    (pss_one (ps_fld (pv 0) (pc (ok_useful T) (hr.mono (by decide)) (T.glo 6) pass0 (pa_cons (pe_fld (pv 1) rfl) (pa_cons (pe_callTy (call_list_dT rfl) (by rfl) (T.free 10) (by decide +kernel) (pa_cons (pe_fld (pv 0) rfl) pa_nil)) pa_nil))) rfl)))))), ?_⟩
  obtain ⟨dr, rl, rd, g1, ⟨rvs, g2, g2t⟩, g3, g4, g5, g6⟩ := id hrt
  intro d hd
  have hxd : x ≠ d := ne_of_none hx hd
  have hda : a ≠ d := ne_of_none hvs hd
  refine ⟨_, rfl, a, rfl, ⟨vs, .inl (.inl (by rw [upd_ne hda]; exact hvs))⟩, for_list (K := K) (a := a) (xs := vs) (fun i σ H' => ∃ u kvs, σ = [some (.ref x), some (.ref r), some (.ref a), some (.ref d), u] ∧ Same H H' ∧ H' d = some (.dT kvs) ∧ KJ kvs (· ∈ js.take i) ∧ kvs.length ≤ i)
    ⟨none, [], rfl, Same.new hd, upd_same, fun j => by simp [valV_nil], Nat.le_refl _⟩ (fun i σ H' _ ⟨_, _, _, k, _⟩ => .inl (.inl (k _ _ hvs))) ?_ ?_⟩
  · rintro i xx σ H' hxx ⟨u, kvs, rfl, k, hkd, hkj, hkl⟩
    obtain ⟨j, ej, pj, rfl, hpj⟩ := hT.item hxx
    have hil := (List.getElem?_eq_some_iff.mp ej).1
    refine ⟨_, rfl, _, rfl, r, dr, _, rfl, k _ _ g1, r, .ref pj, n, rows, rfl, hrt.same k, .inr ⟨j, ⟨pj, rfl, k _ _ hpj⟩, fun H2 sm2 => ⟨_, rfl, ?_⟩⟩⟩
    rw [decide_eq_true (hsub j (List.mem_of_getElem? ej))]
    refine ⟨_, rfl, iteF ⟨_, rfl, _, rfl, d, _, rfl, DPut.t (k := jk j) (sm2 _ _ hkd) (sm2 _ _ (k _ _ hpj)) ?_, _, _, rfl, Same.upd (k.trans sm2) hd, upd_same, hkj.put ej, ?_⟩⟩
    · exact small1000 (by omega)
    · have := length_putK kvs (jk j) (V.bl true)
      omega
  · rintro σ H' ⟨u, kvs, rfl, k, hkd, hkj, hkl⟩
    have ekj : ∀ j : J, (valV kvs (jk j)).isSome = decide (j ∈ js) := fun j => by
      have := hkj j
      rw [hT.lenm, List.take_length] at this
      exact this
    have hx1 := k _ _ hx
    have hxr : x ≠ r := fun z => by
      rw [z, g1] at hx
      injection hx with e
      injection e with _ _ e
      cases e
    -- self.routine
    refine ⟨_, rfl, _, rfl, x, cP K, dx, [], rfl, hx1, T.pt, T.nP 7, show 0 < 1000 by decide, ?_⟩
    generalize hG : upd H' x (.ins (cP K) dx (putF "routine" (.ref r) [])) = G
    have gx : G x = some (.ins (cP K) dx [("routine", .ref r)]) := by rw [← hG, upd_same]; rfl
    have gk : ∀ b o, b ≠ x → H b = some o → G b = some o := fun b o nb e => by rw [← hG, upd_ne nb]; exact k _ _ e
    have ngx : ∀ {b : Addr} {o : HO}, H b = some o → (∀ C dx fs, o ≠ .ins C dx fs) → b ≠ x := fun e hn z => by
      rw [z, hx] at e
      exact hn _ _ _ (Option.some.inj e).symm
    have gr : G r = some (.ins (cR K) dr (rtF n rl rd)) := gk _ _ (Ne.symm hxr) g1
    have grl : G rl = some (.lst rvs) := gk _ _ (ngx g2 fun _ _ _ z => by cases z) g2
    have grt : TpAll G rvs (rows.map jl) := g2t.keep fun b ys e => gk _ _ (ngx e fun _ _ _ z => by cases z) e
    have gd : G d = some (.dT kvs) := by rw [← hG, upd_ne (Ne.symm hxd)]; exact hkd
    -- self.allowed
    refine ⟨_, rfl, r, _, dr, _, _, rfl, gr, T.rt, T.nR 5, rfl, rl, rfl, ⟨rvs, .inl (.inl grl)⟩, fun D hD => ?_⟩
    have hxD : x ≠ D := ne_of_none gx hD
    refine dct_list (K := K) (a := rl) (xs := rvs) (fun i H'' => H'' D = some (.dT (tbl ((rows.take i).filter fun j => decide (j ∈ js)))) ∧ ∀ b o, b ≠ D → G b = some o → H'' b = some o) ⟨upd_same, fun b o nb e => by rw [upd_ne nb]; exact e⟩ (fun i H'' _ ⟨_, z⟩ => .inl (.inl (z _ _ (ne_of_none grl hD) grl))) ?_ ?_
    · rintro i xx H'' hxx ⟨hD2, hk2⟩
      obtain ⟨j, ej, pj, rfl, hpj⟩ := grt.item hxx
      have hil := (List.getElem?_eq_some_iff.mp ej).1
      have hpj2 := hk2 _ _ (ne_of_none hpj hD) hpj
      have hnin : j ∉ (rows.take i).filter fun j => decide (j ∈ js) := fun z => nodup_take hnd ej (List.mem_filter.mp z).1
      have et : (rows.take (i + 1)).filter (fun j => decide (j ∈ js)) = (rows.take i).filter (fun j => decide (j ∈ js)) ++ if j ∈ js then [j] else [] := by
        rw [List.take_add_one, ej, List.filter_append]
        by_cases e : j ∈ js <;> simp [e]
      refine ⟨rfl, _, rfl, _, rfl, d, _, rfl, DGet.t (k := jk j) (hk2 _ _ (ne_of_none gd hD) gd) hpj2, ?_⟩
      rw [ekj]
      by_cases hj : j ∈ js
      · rw [decide_eq_true hj]
        refine ⟨_, rfl, iteT ⟨_, rfl, _, jk j, pj, rfl, hpj2, hD2, ?_, ?_, fun b o nb e => by rw [upd_ne nb]; exact hk2 _ _ nb e⟩⟩
        · rw [tbl_len]
          have e1 := List.length_filter_le (fun j => decide (j ∈ js)) (rows.take i)
          rw [List.length_take] at e1
          exact small1000 (by omega)
        · rw [upd_same, tbl_put hnin, et, if_pos hj]
      · rw [decide_eq_false hj]
        refine ⟨_, rfl, iteF ⟨?_, hk2⟩⟩
        rw [et, if_neg hj, List.append_nil]; exact hD2
    · rintro H'' ⟨hD2, hk2⟩
      rw [grt.lenm, List.take_length] at hD2
      have hx2 := hk2 _ _ hxD gx
      have hlf : (rows.filter fun j => decide (j ∈ js)).length ≤ 1000 := Nat.le_trans (List.length_filter_le ..) g6
      refine ⟨_, rfl, x, cP K, dx, [("routine", .ref r)], rfl, hx2, T.pt, T.nP 8, show 1 < 1000 by decide, ?_⟩
      generalize hF : upd H'' x (.ins (cP K) dx (putF "allowed" (.ref D) [("routine", .ref r)])) = F
      have fx : F x = some (.ins (cP K) dx [("routine", .ref r), ("allowed", .ref D)]) := by rw [← hF, upd_same]; rfl
      have fk : ∀ b o, b ≠ x → b ≠ D → G b = some o → F b = some o := fun b o nb nD e => by rw [← hF, upd_ne nb]; exact hk2 _ _ nD e
      have fD : F D = some (.dT (tbl (rows.filter fun j => decide (j ∈ js)))) := by rw [← hF, upd_ne (Ne.symm hxD)]; exact hD2
      have fr : F r = some (.ins (cR K) dr (rtF n rl rd)) := fk _ _ (Ne.symm hxr) (ne_of_none gr hD) gr
      have fH : ∀ b o, b ≠ x → H b = some o → F b = some o := fun b o nb e => fk _ _ nb (ne_of_none (gk b o nb e) hD) (gk b o nb e)
      refine ⟨_, rfl, r, _, dr, _, _, rfl, fr, T.rt, T.nR 4, rfl, _, rfl, x, _, dx, _, _, rfl, fx, T.pt, T.nP 8, rfl, D, _, rfl, .inl fD, fun p bs hp hbs => ?_⟩
      have sp1 := Same.new (o := HO.lst (bs.map V.ref)) hp
      have htl : TL (upd F p (.lst (bs.map V.ref))) p ((rows.filter fun j => decide (j ∈ js)).map jl) := ⟨_, upd_same, (isKeys_tp hbs).keep (Same.tk sp1)⟩
      refine ⟨n, p, _, rfl, by omega, htl, hlf, fun l H5 sm5 hn5 ht5 => ?_⟩
      have sF := sp1.trans sm5
      have hxl : x ≠ l := fun z => by
        rw [z] at fx
        have := sp1 _ _ fx
        rw [hn5] at this
        cases this
      obtain ⟨lvs, hl1, hl2⟩ := ht5
      have hfin : ∀ E0 : Addr, rl ≠ E0 → l ≠ E0 → PtO K E0 (upd H5 x (.ins (cP K) dx (putF "useful" (.ref l) [("routine", .ref r), ("allowed", .ref D)]))) x n rows (rows.filter fun j => decide (j ∈ js)) (useful n (rows.filter fun j => decide (j ∈ js))) := fun E0 h1 h2 => by
        refine ⟨dx, r, D, l, upd_same, ?_, ?_, ⟨lvs, ?_, hl2.keep fun b ys e => ?_⟩, ?_, h2⟩
        · have hrH : ∀ b o, b ≠ x → H b = some o → (upd H5 x (.ins (cP K) dx (putF "useful" (.ref l) [("routine", .ref r), ("allowed", .ref D)]))) b = some o := fun b o nb e => by rw [upd_ne nb]; exact sF _ _ (fH b o nb e)
          exact ⟨dr, rl, rd, hrH _ _ (Ne.symm hxr) g1, ⟨rvs, hrH _ _ (ngx g2 fun _ _ _ z => by cases z) g2, g2t.keep fun b ys e => hrH _ _ (ngx e fun _ _ _ z => by cases z) e⟩, hrH _ _ (ngx g3 fun _ _ _ z => by cases z) g3, ⟨g4, g5, g6⟩, h1⟩
        · rw [upd_ne (Ne.symm hxD)]; exact sF _ _ fD
        · rw [upd_ne (Ne.symm hxl)]; exact hl1
        · have nb : b ≠ x := fun z => by
            have := sF _ _ fx
            rw [z] at e
            rw [this] at e
            cases e
          rw [upd_ne nb]; exact e
        · exact Nat.le_trans (List.length_filter_le ..) hlf
      refine ⟨_, rfl, x, cP K, dx, _, rfl, sF _ _ fx, T.pt, T.nP 9, show 2 < 1000 by decide, q _ (fun b o nb e => by rw [upd_ne nb]; exact sF _ _ (fH b o nb e)) (fun E0 hE hro => hfin E0 ?_ fun z => ?_) (hfin x (fun z => ?_) (Ne.symm hxl)).pt⟩
      · obtain ⟨_, l', _, g1', _, _, _, hne⟩ := hro
        rw [g1] at g1'
        injection g1' with e
        injection e with _ _ e
        injection e with _ e
        injection e with e _
        injection e with _ e
        injection e with e
        rw [e]; exact hne
      · subst z
        cases e : H l with
        | none => exact hE e
        | some o =>
          have := sp1 _ _ (fH l o (Ne.symm hxl) e)
          rw [hn5] at this
          cases this
      · rw [z, hx] at g2; cases g2
end
end Rl

set_option Elab.async false
set_option linter.all false
set_option maxRecDepth 100000
set_option maxHeartbeats 2000000
/-! D15: the generators. -/
namespace Rl
open PySem PySem.Spec PyProof.Rows L2 Zed
section
variable {P : Program} {w : World} {K : PySem.W.Frag} {mg : Str → Option Value} {base : Heap}
/-- a generator def that keeps its promise -/
structure OkG (P : Program) (w : World) (K : PySem.W.Frag) (mg : Str → Option Value) (base : Heap) (k : Nat) (f : Addr) (ps : List Str) (sp : SpZ) : Prop where
  ex : ∃ fd, GenOk P w K mg base k f fd ps sp ∧ Binds K fd ps []
  kp : PySem.W.keepIn K (.ref f) = true
theorem okg_of {d : He.DefD} (T : Tx K mg) (hd : d ∈ fn) (h0 : d.dvs K = []) (h1 : d.kws K = []) {N ps : List Str} {k : Nat} {sp : SpZ} (S : GScope N ps d.scope) (len : ∀ vs H qs, sp vs H qs → vs.length = ps.length)
    (hb : ∀ (kV doc pm : Value) (an : Option Addr) (cdv ct : Value) (us : List Value), us.length = ps.length → bindArgs (PySem.W.fnOf d.name d.qual d.params d.body d.scope .none kV doc pm an cdv ct) ⟨us, []⟩ = pure (ps.zip us))
    (hbody : ∀ (cdv : Value) (A : Around) (outer : List Env) (s : Shared) (H : Hp) (vs : List V) (qs : List (List V)) (EX : List Addr) (S : Addr) (C : List (Addr × Nat)) (ys : List V) (s2 : Shared), Room k (A.deeper (envOfC d.qual d.scope s.heap.objs.size (He.fAd K d.at_) cdv)) → sp vs H qs →
      Body (gx P w K mg base N d.qual d.scope (He.fAd K d.at_) cdv A outer s H EX) A (.func d.body (envOfC d.qual d.scope s.heap.objs.size (He.fAd K d.at_) cdv)) [] → OwnZ (gx P w K mg base N d.qual d.scope (He.fAd K d.at_) cdv A outer s H EX) S C →
      Held (gx P w K mg base N d.qual d.scope (He.fAd K d.at_) cdv A outer s H EX) S C [] ys (start N vs) H s2 →
      (∀ ys' σ' H' s', Held (gx P w K mg base N d.qual d.scope (He.fAd K d.at_) cdv A outer s H EX) S C [] ys' σ' H' s' → SgX (gx P w K mg base N d.qual d.scope (He.fAd K d.at_) cdv A outer s H EX) A S C [] ys' H' (.func d.body (envOfC d.qual d.scope s.heap.objs.size (He.fAd K d.at_) cdv)) (kRet .next) [] s') →
      SgX (gx P w K mg base N d.qual d.scope (He.fAd K d.at_) cdv A outer s H EX) A S C qs ys H (.func d.body (envOfC d.qual d.scope s.heap.objs.size (He.fAd K d.at_) cdv)) ((execs d.body (envOfC d.qual d.scope s.heap.objs.size (He.fAd K d.at_) cdv)).wrap kRet (jLeave (envOfC d.qual d.scope s.heap.objs.size (He.fAd K d.at_) cdv)) id id) [] s2) :
    OkG P w K mg base (k + 1) (He.fAd K d.at_) ps sp := by
  obtain ⟨fd, F⟩ := T.def_ hd
  have F' : FunD K d.name d.qual d.params d.body d.scope [] (d.kws K) (He.fAd K d.at_) fd := by
    have q : FunD K d.name d.qual d.params d.body d.scope (d.dvs K) (d.kws K) (He.fAd K d.at_) fd := F
    rw [h0] at q; exact q
  refine ⟨⟨fd, ?_, F'.bindsN hb⟩, F.kp⟩
  obtain ⟨oc, od, dV, kV, doc, pm, an, cdv, ct, osl, rfl, lk, hcd, _, _⟩ := F.ex
  exact gen_of lk hcd S len fun A outer s H vs qs EX S C ys s2 => hbody cdv A outer s H vs qs EX S C ys s2
/-! ### runs_from -/
def sp_rf (f : Nat) : SpZ := fun vs H qs => ∃ (g b : Addr) (last x : Nat) (us : List J) (beg : List Nat), vs = [.ref g, .int (last : Int), .ref b] ∧ GoD H g us ∧ H b = some (.tup (It beg)) ∧ beg.getLast? = some x ∧ (∀ j ∈ us, j.1 < j.2 ∧ j.2 ≤ last) ∧ x ≤ last ∧ last < x + f ∧ us.length ≤ 1000 ∧ beg.length + (last - x) ≤ 1000 ∧
  qs = ((cont last us f x).map fun r => It (beg ++ r))
theorem sc_rf : GScope ["going", "last", "beginning", "jump"] ["going", "last", "beginning"] (defScope s_runs_from) := ⟨rfl, rfl, rfl, by decide +kernel, rfl, by decide +kernel, by decide +kernel⟩
abbrev rfX (P : Program) (w : World) (K : PySem.W.Frag) (mg : Str → Option Value) (base : Heap) (cdv : Value) (A : Around) (outer : List Env) (s : Shared) (H : Hp) (EX : List Addr) : Cx :=
  gx P w K mg base ["going", "last", "beginning", "jump"] d_runs_from.qual d_runs_from.scope (He.fAd K d_runs_from.at_) cdv A outer s H EX
abbrev rfE (K : PySem.W.Frag) (cdv : Value) (s : Shared) : Env := envOfC d_runs_from.qual d_runs_from.scope s.heap.objs.size (He.fAd K d_runs_from.at_) cdv
theorem okg_rf (T : Tx K mg) : ∀ f : Nat, OkG P w K mg base (3 * f + 1) (He.ga K "runs_from") ["going", "last", "beginning"] (sp_rf f)
  | 0 => by
    refine okg_of (d := d_runs_from) T (fnAt0 (i := 7) rfl) rfl rfl sc_rf (fun vs H qs h => ?_) (fun _ _ _ _ _ _ us hl => match us, hl with | [_, _, _], _ => rfl) fun cdv A outer s H vs qs EX S C ys s2 hr h b ow hh hend => ?_
    · obtain ⟨_, _, _, _, _, _, rfl, _⟩ := h; rfl
    · obtain ⟨g, b', last, x, us, beg, rfl, _, _, _, _, h1, h2, _⟩ := h
      omega
  | f + 1 => by
    have IH := okg_rf T f
    refine okg_of (k := 3 * f + 3) (d := d_runs_from) T (fnAt0 (i := 7) rfl) rfl rfl sc_rf (fun vs H qs h => ?_) (fun _ _ _ _ _ _ us hl => match us, hl with | [_, _, _], _ => rfl) fun cdv A outer s H vs qs EX S C ys s2 hr h b ow hh hend => ?_
    · obtain ⟨_, _, _, _, _, _, rfl, _⟩ := h; rfl
    obtain ⟨g, bb, last, x, us, beg, rfl, ⟨kvs, hg, hgo⟩, hbb, hlast, hval, hxl, hfu, hul, hbl, rfl⟩ := h
    have hu := hu_of hr
    have hcont : cont last us (f + 1) x = (if x = last then [[]] else []) ++ (us.filter fun j => decide (j.1 = x)).flatMap fun j => (cont last us f j.2).map (j.2 :: ·) := rfl
    generalize hqs2 : ((us.filter fun j => decide (j.1 = x)).flatMap fun j => (cont last us f j.2).map (j.2 :: ·)).map (fun r => It (beg ++ r)) = qs2
    -- the loop and its end
    have loop : ∀ ys1 H1 s1, Ext H H1 → Held (rfX P w K mg base cdv A outer s H EX) S C [] ys1 [some (V.ref g), some (.int (last : Int)), some (.ref bb), none] H1 s1 →
        SgX (rfX P w K mg base cdv A outer s H EX) A S C qs2 ys1 H1 (.func d_runs_from.body (rfE K cdv s)) ((execs (d_runs_from.body.drop 1) (rfE K cdv s)).wrap kRet (jLeave (rfE K cdv s)) id id) [] s1 := by
      intro ys1 H1 s1 hx1 hh1
      refine sz_cons ?_
      refine sz_forH (gd := id) b ow rfl (pi_list (pe_dget2 hu (pv 0) (pe_ix ix_tup (pv 2) (pe_un un_neg pe_int) (fun _ _ => rfl)) (pe_lst pa_nil) ⟨rfl, rfl, rfl, rfl⟩)) (pg_name (i := 3) sc_rf.nd rfl (.inl rfl)) hh1 ?_
      have hg1 := hx1 _ _ hg
      have hbt := hx1 _ _ hbb
      refine ⟨_, rfl, g, rfl, .inl ⟨kvs, .inl hg1⟩, _, rfl, _, rfl, bb, _, -1, _, rfl, rfl, .inl (.inl hbt), last_at hlast, show 0 ≤ sizeLine from Nat.zero_le _, fun e he => ?_⟩
      have sme := Same.new (o := HO.lst []) he
      have hx2 : Ext H (upd H1 e (.lst [])) := hx1.trans fun b o z => sme b o z
      refine ⟨_, DGet.k (k := Sum.inl (x : Int)) (sme _ _ hg1), ?_⟩
      -- the jumps from x
      have hjs : ∃ l vs, (valV kvs (Sum.inl (x : Int))).getD (.ref e) = .ref l ∧ (upd H1 e (.lst [])) l = some (.lst vs) ∧ TpAll (upd H1 e (.lst [])) vs ((us.filter fun j => decide (j.1 = x)).map jl) := by
        rcases hgo x with ⟨z1, z2⟩ | ⟨l, z1, vs, z2, z3⟩
        · rw [z1, z2]
          exact ⟨e, [], rfl, upd_same, trivial⟩
        · rw [z1]
          exact ⟨l, vs, rfl, hx2 _ _ z2, z3.keep fun b ys q => hx2 _ _ q⟩
      obtain ⟨l, vs, el, hl, hvt⟩ := hjs
      have hlen := hvt.lenm
      refine ⟨l, el, ⟨vs, .inl (.inl hl)⟩, fun b o z => sme b o z, ?_⟩
      refine ⟨fun i m ys' σ' H' qs' => ∃ u, σ' = [some (V.ref g), some (.int (last : Int)), some (.ref bb), u] ∧ Ext (upd H1 e (.lst [])) H' ∧ m = vs.length - i ∧ i ≤ vs.length ∧
        qs' = (((us.filter fun j => decide (j.1 = x)).drop i).flatMap fun j => (cont last us f j.2).map (j.2 :: ·)).map (fun r => It (beg ++ r)), ⟨vs.length, none, rfl, Ext.rfl', rfl, Nat.zero_le _, hqs2.symm⟩, ?_⟩
      rintro i m ys2 σ2 H2 qs3 ⟨u, rfl, hx3, rfl, hi, rfl⟩
      have hl2 : SqL K H2 l vs := .inl (.inl (hx3 _ _ hl))
      rcases Nat.lt_or_ge i vs.length with hlt | hge
      · refine .inr ⟨⟨vs, vs[i], hl2, List.getElem?_eq_getElem hlt⟩, ?_⟩
        rintro xx H3 ⟨rfl, hyx⟩
        obtain ⟨j, ej, pj, rfl, hpj⟩ := hvt.item (hyx vs hl2)
        have hjm := List.mem_of_getElem? ej
        obtain ⟨hju, hjx⟩ := List.mem_filter.mp hjm
        have hjx' : j.1 = x := of_decide_eq_true hjx
        have hjv := hval j hju
        have hdrop : (us.filter fun j => decide (j.1 = x)).drop i = j :: (us.filter fun j => decide (j.1 = x)).drop (i + 1) := by
          obtain ⟨h1, h2⟩ := List.getElem?_eq_some_iff.mp ej
          rw [List.drop_eq_getElem_cons h1, h2]
        have hq : (((us.filter fun j => decide (j.1 = x)).drop i).flatMap fun j => (cont last us f j.2).map (j.2 :: ·)).map (fun r => It (beg ++ r)) =
            ((cont last us f j.2).map fun r => It ((beg ++ [j.2]) ++ r)) ++ (((us.filter fun j => decide (j.1 = x)).drop (i + 1)).flatMap fun j => (cont last us f j.2).map (j.2 :: ·)).map (fun r => It (beg ++ r)) := by
          rw [hdrop, List.flatMap_cons, List.map_append, List.map_map]
          congr 1
          refine List.map_congr_left fun r _ => ?_
          show It (beg ++ j.2 :: r) = It (beg ++ [j.2] ++ r)
          rw [List.append_assoc]; rfl
        refine ⟨Ext.rfl', fun c' fs' K' J' ip' s4 b' hh4 cn => ?_⟩
        rw [hq]
        refine sz_cons ?_
        have hpj3 := hx3 _ _ hpj
        have hb3 := (hx2.trans hx3) _ _ hbb
        refine sz_yieldFromH (gd := id) b' ow rfl IH.ex.choose_spec.1 hr (by rfl) (T.glo 7) IH.kp IH.ex.choose_spec.2 (pa_cons (pv 0) (pa_cons (pv 1) (pa_cons (pe_op op_catT (pv 2) (pe_tup (pa_cons (pe_ix ix_tup (pv 3) pe_int (fun _ _ => rfl)) pa_nil))) pa_nil))) hh4 ?_
        refine ⟨_, rfl, _, rfl, _, rfl, _, rfl, pj, _, 1, _, rfl, rfl, .inl (.inl hpj3), atI_nat (j := 1) rfl, show 1 ≤ sizeLine by decide, fun t ht => ?_⟩
        have st := Same.new (o := HO.tup [V.int (j.2 : Int)]) ht
        have hbne : It beg ≠ [] := fun z => by
          have z2 : (It beg).length = 0 := by rw [z]; rfl
          rw [it_len] at z2
          rw [List.eq_nil_of_length_eq_zero z2] at hlast
          cases hlast
        refine ⟨bb, t, It beg, [V.int (j.2 : Int)], rfl, rfl, .inl (.inl (st _ _ hb3)), .inl (.inl upd_same), hbne, by rw [it_len, sizeLine_eq]; simp only [List.length_cons, List.length_nil]; omega, fun z => (by cases z), fun _ p hp => ?_⟩
        have sp2 := Same.new (o := HO.tup (It beg ++ [V.int (j.2 : Int)])) hp
        have eI : It beg ++ [V.int (j.2 : Int)] = It (beg ++ [j.2]) := by
          show _ = (beg ++ [j.2]).map fun (n : Nat) => V.int (n : Int)
          rw [List.map_append]; rfl
        have sH : Same H (upd (upd H3 t (.tup [V.int (j.2 : Int)])) p (.tup (It beg ++ [V.int (j.2 : Int)]))) := fun b o z => sp2 _ _ (st _ _ ((hx2.trans hx3) _ _ z))
        refine ⟨⟨g, p, last, j.2, us, beg ++ [j.2], rfl, (show GoD H g us from ⟨kvs, hg, hgo⟩).same sH, by rw [upd_same, eI], by simp, hval, hjv.2, by omega, hul, by simp only [List.length_append, List.length_cons, List.length_nil]; omega, rfl⟩, fun b o z => sp2 _ _ (st _ _ z), fun ys' H' s' hx5 hh5 => ?_⟩
        refine cn ys' _ H' s' (vs.length - (i + 1)) _ (by omega) (fun b o z => hx5 _ _ (sp2 _ _ (st _ _ z))) ⟨some (.ref pj), rfl, fun b o z => hx5 _ _ (sp2 _ _ (st _ _ (hx3 _ _ z))), rfl, by omega, rfl⟩ hh5
      · refine .inl ⟨⟨vs, hl2, hge⟩, fun s3 hh3 => ?_⟩
        rw [List.drop_eq_nil_of_le (by omega)]
        exact hend _ _ _ _ hh3
    refine sz_cons ?_
    refine sz_ifH b (pt_cmpR op_eq (pe_ix ix_tup (pv 2) (pe_un un_neg pe_int) (fun _ _ => rfl)) (pv 1) (nomark _)) hh ?_
    refine ⟨_, rfl, _, rfl, bb, _, -1, _, rfl, rfl, .inl (.inl hbb), last_at hlast, _, rfl, rfl, _, rfl, fun s' hh' => ?_⟩
    rw [eqInt, hcont]
    by_cases hxe : x = last
    · rw [decide_eq_true hxe, if_pos hxe, if_pos rfl, List.map_append, hqs2, List.map_singleton, List.append_nil]
      refine sz_cons ?_
      refine sz_yieldH (gd := id) (q := It beg) (rest := qs2) b ow rfl (pv 2) hh' ⟨_, rfl, bb, rfl, hbb, Ext.rfl', fun s'' hh2 => ?_⟩
      exact loop _ _ _ Ext.rfl' hh2
    · rw [decide_eq_false hxe, if_neg hxe, if_neg Bool.false_ne_true, List.nil_append, hqs2]
      exact loop _ _ _ Ext.rfl' hh'
/-! ### kept_runs -/
def sp_kr (K : PySem.W.Frag) : SpZ := fun vs H qs => ∃ (o : Addr) (n : Nat) (js al us : List J), vs = [.ref o] ∧ PtAt K H o n js al us ∧ (∀ j ∈ us, j.1 < j.2 ∧ j.2 < n) ∧ n ≤ 10 ∧ qs = ((cont (n - 1) us 10 0).map fun r => It ([0] ++ r))
theorem sc_kr : GScope ["self"] ["self"] (defScope s_Part_kept_runs) := ⟨rfl, rfl, rfl, by decide +kernel, rfl, by decide +kernel, by decide +kernel⟩
abbrev krX (P : Program) (w : World) (K : PySem.W.Frag) (mg : Str → Option Value) (base : Heap) (cdv : Value) (A : Around) (outer : List Env) (s : Shared) (H : Hp) (EX : List Addr) : Cx :=
  gx P w K mg base ["self"] d_Part_kept_runs.qual d_Part_kept_runs.scope (He.fAd K d_Part_kept_runs.at_) cdv A outer s H EX
theorem okg_kr (T : Tx K mg) : OkG P w K mg base 34 (He.ma K (cP K) "kept_runs") ["self"] (sp_kr K) := by
  refine okg_of (k := 33) (d := d_Part_kept_runs) T (fnAt2 (i := 7) rfl) rfl rfl sc_kr (fun vs H qs h => ?_) (fun _ _ _ _ _ _ us hl => match us, hl with | [_], _ => rfl) fun cdv A outer s H vs qs EX S C ys s2 hr h b ow hh hend => ?_
  · obtain ⟨_, _, _, _, _, rfl, _⟩ := h; rfl
  obtain ⟨o, n, js, al, us, rfl, ho, hval, hn, rfl⟩ := h
  obtain ⟨dx, rr, d, l, h1, h2, h3, h4, h5⟩ := id ho
  obtain ⟨dy, rl, rd, g1, g2⟩ := id h2
  have hn2 : 2 ≤ n := g2.2.2.1
  have hr' : Room 33 (krX P w K mg base cdv A outer s H EX).A := hr
  refine sz_cons ?_
  have e0 := List.append_nil ((cont (n - 1) us 10 0).map fun r => It ([0] ++ r))
  rw [← e0]
  have F := okg_rf (P := P) (w := w) (base := base) T 10
  refine sz_yieldFromH (X := krX P w K mg base cdv A outer s H EX) (gd := id) b ow rfl F.ex.choose_spec.1 hr' (by rfl) (T.glo 7) F.kp F.ex.choose_spec.2
    (pa_cons (pc (ok_going_on T) (hr'.mono (by decide)) (T.glo 8) pass0 (pa_cons (pe_fld (pv 0) rfl) pa_nil)) (pa_cons (pe_op op_sub (pe_fld (pe_fld (pv 0) rfl) rfl) pe_int) (pa_cons (pe_tup (pa_cons pe_int pa_nil)) pa_nil))) hh ?_
  refine ⟨_, rfl, o, _, dx, _, _, rfl, h1, T.pt, T.nP 9, rfl, l, us, rfl, h4, h5, fun dd H1 sm1 hn1 hgo => ?_⟩
  refine ⟨_, rfl, o, _, dx, _, _, rfl, sm1 _ _ h1, T.pt, T.nP 7, rfl, rr, _, dy, _, _, rfl, sm1 _ _ g1, T.rt, T.nR 4, rfl, _, _, rfl, rfl, show 1 ≤ sizeLine by decide, fun t ht => ?_⟩
  have st := Same.new (o := HO.tup [V.int 0]) ht
  have e1 : ((n : Int) - 1) = ((n - 1 : Nat) : Int) := by omega
  refine ⟨⟨dd, t, n - 1, 0, us, [0], (show [V.ref dd, V.int ((n : Int) - 1), V.ref t] = _ by rw [e1]), hgo.same st, upd_same, rfl, fun j hj => ⟨(hval j hj).1, by have := (hval j hj).2; omega⟩, Nat.zero_le _, by omega, h5, by simp only [List.length_cons, List.length_nil]; omega, rfl⟩, fun b o z => st _ _ (sm1 _ _ z), fun ys' H' s' hx' hh' => hend _ _ _ _ hh'⟩
end
end Rl

set_option Elab.async false
set_option linter.all false
set_option maxRecDepth 100000
set_option maxHeartbeats 2000000
/-! D16: _law_feed, _law_take, _law_pick, _law_steps. -/
namespace Rl
open PySem PySem.Spec PyProof.Rows L2
section
variable {P : Program} {w : World} {K : PySem.W.Frag} {mg : Str → Option Value} {base : Heap}
/-! ### _law_feed -/
def sp_feed (K : PySem.W.Frag) : Sp := fun vs H Q _ => ∃ (a : Addr) (ns : List Int) (k : Nat), vs = [.ref a, .int (k : Int)] ∧ SqL K H a (ns.map V.int) ∧ k ≤ 100 ∧ ∀ f H', Same H H' → H f = none → Fd H' f → Q (.ref f) H'
theorem sc_feed : FnScope ["_law_script", "_law_k", "_law_cell", "_law_digits", "_law_state"] ["_law_script", "_law_k"] (defScope s_law_feed) := ⟨rfl, rfl, rfl, by decide +kernel, rfl, by decide +kernel, by decide +kernel⟩
theorem mod_rng (z : Int) : 0 ≤ z % 2305843009213693951 ∧ z % 2305843009213693951 < 2305843009213693951 := ⟨Int.emod_nonneg _ (by decide), Int.emod_lt_of_pos _ (by decide)⟩
theorem ok_feed (T : Tx K mg) : Ok P w K mg base CX0 1 (He.ga K "_law_feed") ["_law_script", "_law_k"] (sp_feed K) := by
  refine ok_of (d := d_law_feed) T (fnAt0 (i := 9) rfl) rfl rfl sc_feed (fun vs H Q E h => ?_) (fun _ _ _ _ _ _ us hl => match us, hl with | [_, _], _ => rfl) fun cdv A outer s H vs Q E hr h => ?_
  · obtain ⟨_, _, _, rfl, _⟩ := h; rfl
  obtain ⟨a, ns, k, rfl, ha, hk, q⟩ := h
  refine ⟨_, PSs.nox (pss_cons (ps_set (i := 2) sc_feed.nd rfl (.inl rfl) (pe_ifExp (pt_cmpR op_lt (pv 1) (pe_callB call_len_seq (by rfl) (T.free 0) boot_len (pa_cons (pv 0) pa_nil)) (nomark _)) (pe_ix ix_list (pv 0) (pv 1) (fun _ _ => rfl)) (pe_op op_add (pe_op op_mul pe_int (pv 1)) pe_int)))
    (pss_cons (ps_set (i := 3) sc_feed.nd rfl (.inl rfl) (pe_callB (call_max2 rfl) (by rfl) (T.free 1) (by decide +kernel) (pa_cons pe_int (pa_cons (pe_op op_sub (pe_callB call_abs (by rfl) (T.free 3) (by decide +kernel) (pa_cons (pv 2) pa_nil)) (pe_op op_pow pe_int pe_int)) pa_nil))))
    (pss_cons (ps_set (i := 4) sc_feed.nd rfl (.inl rfl) (pe_op op_mod (pe_callTy call_int1 (by rfl) (T.free 4) boot_int (pa_cons (pe_op op_add (pe_op op_add (pe_op op_mul (pv 2) pe_int) (pe_op op_mul pe_int (pv 1))) pe_int) pa_nil)) pe_int))
    (pss_one (ps_ret (pe_lst (pa_cons (pv 3) (pa_cons (pv 4) pa_nil)))))))), ?_⟩
  have hkI : -(2 ^ 64) < (k : Int) ∧ (k : Int) < 2 ^ 64 := by constructor <;> omega
  refine ⟨_, rfl, _, rfl, a, _, rfl, .inl ha, _, _, rfl, rfl, _, rfl, ite2 (fun hb => ?_) fun hb => ?_⟩
  · have hlt : k < ns.length := by
      have h1 : ((k : Int) < ((ns.map V.int).length : Int)) := by simpa using hb
      rw [List.length_map] at h1; omega
    refine ⟨_, rfl, _, rfl, a, _, (k : Int), .int ns[k], rfl, rfl, ha, atI_nat (by rw [List.getElem?_map, List.getElem?_eq_getElem hlt]; rfl), ?_⟩
    refine ⟨_, rfl, _, rfl, 10, 18, rfl, rfl, (show (0 : Int) ≤ 18 ∧ (18 : Int) ≤ 1000000 ∧ Int.natAbs 10 < 2 ^ 64 by decide), _, _, rfl, rfl, _, _, rfl, ?_⟩
    refine ⟨_, rfl, _, _, rfl, rfl, .inr (by decide), _, rfl, _, _, rfl, rfl, .inr hkI, _, _, rfl, rfl, _, _, rfl, rfl, .inl ⟨_, rfl, _, _, rfl, rfl, (show (0 : Int) < 2305843009213693951 by decide), ?_⟩⟩
    refine ⟨_, rfl, _, rfl, show 2 ≤ sizeLine by decide, fun f hf => q f _ (Same.new hf) hf ⟨_, _, upd_same, ?_, mod_rng _⟩⟩
    split <;> omega
  · refine ⟨_, rfl, 61, (k : Int), rfl, rfl, .inr hkI, _, _, rfl, rfl, ?_⟩
    refine ⟨_, rfl, _, rfl, 10, 18, rfl, rfl, (show (0 : Int) ≤ 18 ∧ (18 : Int) ≤ 1000000 ∧ Int.natAbs 10 < 2 ^ 64 by decide), _, _, rfl, rfl, _, _, rfl, ?_⟩
    refine ⟨_, rfl, _, _, rfl, rfl, .inr (by decide), _, rfl, _, _, rfl, rfl, .inr hkI, _, _, rfl, rfl, _, _, rfl, rfl, .inl ⟨_, rfl, _, _, rfl, rfl, (show (0 : Int) < 2305843009213693951 by decide), ?_⟩⟩
    refine ⟨_, rfl, _, rfl, show 2 ≤ sizeLine by decide, fun f hf => q f _ (Same.new hf) hf ⟨_, _, upd_same, ?_, mod_rng _⟩⟩
    split <;> omega
/-! ### _law_take -/
def sp_take : Sp := fun vs H Q _ => ∃ (f : Addr) (m : Nat), vs = [.ref f, .int (m : Int)] ∧ Fd H f ∧ 1 ≤ m ∧ m ≤ 1000000 ∧ ∀ (t : Nat) H', t < m → Go f H H' → Q (.int (t : Int)) H'
theorem sc_take : FnScope ["_law_feed_here", "_law_many", "_law_digit"] ["_law_feed_here", "_law_many"] (defScope s_law_take) := ⟨rfl, rfl, rfl, by decide +kernel, rfl, by decide +kernel, by decide +kernel⟩
theorem modN (z : Int) {m : Nat} (h : 1 ≤ m) : ∃ t : Nat, t < m ∧ z % (m : Int) = (t : Int) := by
  have h1 := Int.emod_nonneg z (show (m : Int) ≠ 0 by omega)
  have h2 := Int.emod_lt_of_pos z (show (0 : Int) < (m : Int) by omega)
  exact ⟨(z % (m : Int)).toNat, by omega, by omega⟩
theorem ok_take (T : Tx K mg) : Ok P w K mg base CX0 1 (He.ga K "_law_take") ["_law_feed_here", "_law_many"] sp_take := by
  refine ok_of (d := d_law_take) T (fnAt0 (i := 10) rfl) rfl rfl sc_take (fun vs H Q E h => ?_) (fun _ _ _ _ _ _ us hl => match us, hl with | [_, _], _ => rfl) fun cdv A outer s H vs Q E hr h => ?_
  · obtain ⟨_, _, rfl, _⟩ := h; rfl
  obtain ⟨f, m, rfl, ⟨d, st, hf, hd, hs0, hs1⟩, hm1, hm2, q⟩ := h
  refine ⟨_, PSs.nox (pss_cons (ps_if (pt_cmpR op_gt (pe_ix ix_list (pv 0) pe_int (fun _ _ => rfl)) pe_int (nomark _))
      (pss_cons (ps_set (i := 2) sc_take.nd rfl (.inl rfl) (pe_op op_mod (pe_callTy call_int1 (by rfl) (T.free 4) boot_int (pa_cons (pe_ix ix_list (pv 0) pe_int (fun _ _ => rfl)) pa_nil)) (pv 1)))
      (pss_cons (ps_asg (pe_op op_fdiv (pe_ix ix_list (pv 0) pe_int (fun _ _ => rfl)) (pv 1)) (pg_sub (pv 0) pe_int set_list))
      (pss_one (ps_ret (pv 2))))) pss_nil)
    (pss_cons (ps_asg (pe_op op_mod (pe_callTy call_int1 (by rfl) (T.free 4) boot_int (pa_cons (pe_op op_add (pe_op op_mul (pe_ix ix_list (pv 0) pe_int (fun _ _ => rfl)) pe_int) pe_int) pa_nil)) pe_int) (pg_sub (pv 0) pe_int set_list))
    (pss_one (ps_ret (pe_op op_mod (pe_callTy call_int1 (by rfl) (T.free 4) boot_int (pa_cons (pe_op op_fdiv (pe_ix ix_list (pv 0) pe_int (fun _ _ => rfl)) pe_int) pa_nil)) (pv 1)))))), ?_⟩
  have hq : ∀ {H' : Hp}, H' f = some (.lst [.int d, .int st]) → SqL K H' f [.int d, .int st] := fun e => .inl (.inl e)
  refine ⟨_, rfl, f, _, 0, _, rfl, rfl, hq hf, atI_nat (j := 0) rfl, _, _, rfl, rfl, _, rfl, ite2 (fun hb => ?_) fun hb => ?_⟩
  · obtain ⟨t, ht, et⟩ := modN d hm1
    refine ⟨_, rfl, f, _, 0, _, rfl, rfl, hq hf, atI_nat (j := 0) rfl, .inl ⟨d, rfl, _, rfl, _, _, rfl, rfl, (show (0 : Int) < (m : Int) by omega), ?_⟩⟩
    refine ⟨_, rfl, f, _, 0, _, rfl, rfl, hq hf, atI_nat (j := 0) rfl, _, rfl, _, _, rfl, rfl, ⟨by omega, by omega⟩, _, rfl, f, _, 0, 0, rfl, rfl, hf, rfl, _, rfl, ?_⟩
    have z := q t (upd H f (.lst [.int (d / (m : Int)), .int st])) ht ⟨fun b o nb e => by rw [upd_ne nb]; exact e, d / (m : Int), st, upd_same, Int.ediv_nonneg hd (by omega), hs0, hs1⟩
    rw [← et] at z
    exact z
  · refine ⟨_, rfl, f, _, 1, _, rfl, rfl, hq hf, atI_nat (j := 1) rfl, _, _, rfl, rfl, .inr (by decide), _, _, rfl, rfl, .inl ⟨_, rfl, _, _, rfl, rfl, (show (0 : Int) < 2305843009213693951 by decide), ?_⟩⟩
    refine ⟨_, rfl, f, _, 1, 1, rfl, rfl, hf, rfl, ?_⟩
    generalize hz : (st * 6364136223846793005 + 1442695040888963407) % 2305843009213693951 = st'
    have hst : 0 ≤ st' ∧ st' < 2305843009213693951 := by rw [← hz]; exact mod_rng _
    obtain ⟨t, ht, et⟩ := modN (st' / 65536) hm1
    have hf' : (upd H f (.lst [.int d, .int st'])) f = some (.lst [.int d, .int st']) := upd_same
    refine ⟨_, rfl, f, [.int d, .int st'], 1, .int st', rfl, rfl, .inl (.inl ?_), atI_nat (j := 1) rfl, _, _, rfl, rfl, ⟨by decide, by decide⟩, .inl ⟨_, rfl, _, rfl, _, _, rfl, rfl, (show (0 : Int) < (m : Int) by omega), ?_⟩⟩
    · rw [← hz]; exact upd_same
    · have z := q t (upd H f (.lst [.int d, .int st'])) ht ⟨fun b o nb e => by rw [upd_ne nb]; exact e, d, st', upd_same, hd, hst.1, hst.2⟩
      rw [← et] at z
      rw [← hz] at z ⊢
      exact z
end
end Rl

set_option Elab.async false
set_option linter.all false
set_option maxRecDepth 100000
set_option maxHeartbeats 2000000
/-! D17: _law_pick, _law_steps, _law_run. -/
namespace Rl
open PySem PySem.Spec PyProof.Rows L2
section
variable {P : Program} {w : World} {K : PySem.W.Frag} {mg : Str → Option Value} {base : Heap}
/-! ### _law_pick -/
def sp_pick : Sp := fun vs H Q _ => ∃ (f a : Addr) (xs : List V), vs = [.ref f, .ref a] ∧ Fd H f ∧ H a = some (.lst xs) ∧ a ≠ f ∧ 1 ≤ xs.length ∧ xs.length ≤ 1000000 ∧ ∀ (i : Nat) x H', xs[i]? = some x → Go f H H' → Q x H'
theorem sc_pick : FnScope ["_law_feed_here", "_law_some"] ["_law_feed_here", "_law_some"] (defScope s_law_pick) := ⟨rfl, rfl, rfl, by decide +kernel, rfl, by decide +kernel, by decide +kernel⟩
theorem ok_pick (T : Tx K mg) : Ok P w K mg base CX0 2 (He.ga K "_law_pick") ["_law_feed_here", "_law_some"] sp_pick := by
  refine ok_of (d := d_law_pick) T (fnAt0 (i := 11) rfl) rfl rfl sc_pick (fun vs H Q E h => ?_) (fun _ _ _ _ _ _ us hl => match us, hl with | [_, _], _ => rfl) fun cdv A outer s H vs Q E hr h => ?_
  · obtain ⟨_, _, _, rfl, _⟩ := h; rfl
  obtain ⟨f, a, xs, rfl, hf, ha, hne, h1, h2, q⟩ := h
  refine ⟨_, PSs.nox (pss_one (ps_ret (pe_ix ix_list (pv 1) (pc (ok_take T) hr (T.glo 10) pass0 (pa_cons (pv 0) (pa_cons (pe_callB call_len_seq (by rfl) (T.free 0) boot_len (pa_cons (pv 1) pa_nil)) pa_nil))) (fun _ _ => rfl)))), ?_⟩
  refine ⟨_, rfl, _, rfl, _, rfl, a, _, rfl, .inl (.inl (.inl ha)), f, xs.length, rfl, hf, h1, h2, fun t H' ht g => ?_⟩
  have ha' := g.kp a _ hne ha
  refine ⟨a, xs, (t : Int), xs[t], rfl, rfl, .inl (.inl ha'), atI_nat (List.getElem?_eq_getElem ht), q t _ H' (List.getElem?_eq_getElem ht) g⟩
/-! ### _law_steps -/
def sp_steps : Sp := fun vs H Q _ => ∃ (v : V) (r : List Nat), vs = [v] ∧ Tp H v r ∧ r.length ≤ 1000 ∧ ∀ l H', Same H H' → H l = none → TL H' l ((steps r).map jl) → Q (.ref l) H'
theorem sc_steps : FnScope ["_law_run_here", "_law_k"] ["_law_run_here"] (defScope s_law_steps) := ⟨rfl, rfl, rfl, by decide +kernel, rfl, by decide +kernel, by decide +kernel⟩
theorem ok_steps (T : Tx K mg) : Ok P w K mg base CX0 1 (He.ga K "_law_steps") ["_law_run_here"] sp_steps := by
  refine ok_of (d := d_law_steps) T (fnAt0 (i := 12) rfl) rfl rfl sc_steps (fun vs H Q E h => ?_) (fun _ _ _ _ _ _ us hl => match us, hl with | [_], _ => rfl) fun cdv A outer s H vs Q E hr h => ?_
  · obtain ⟨_, _, rfl, _⟩ := h; rfl
  obtain ⟨v, r, rfl, ⟨p, rfl, hp⟩, hl, q⟩ := h
  refine ⟨_, PSs.nox (pss_one (ps_ret (pe_lc (own := [("_law_k", 1)]) (g := gName 1) (tt := tYes) rfl sc_steps.nd (pi_range1 (by rfl) (T.free 5) (pa_cons (pe_op op_sub (pe_callB call_len_seq (by rfl) (T.free 0) boot_len (pa_cons (pv 0) pa_nil)) pe_int) pa_nil)) (blkOk_by (N := ["_law_run_here", "_law_k"]) (sc := defScope s_law_steps) (by decide +kernel))
      (fun _ _ _ _ _ => pg_name (i := 1) sc_steps.nd rfl (Or.inl rfl)) (fun _ _ _ _ _ => pts_nil) (fun _ _ _ _ _ => pe_tup (pa_cons (pe_ix (r := rIxT K) ix_tup (pv 0) (pv 1) (fun _ _ => rfl)) (pa_cons (pe_ix (r := rIxT K) ix_tup (pv 0) (pe_op op_add (pv 1) pe_int) (fun _ _ => rfl)) pa_nil)))))), ?_⟩
  have hsq : SqT K H p (It r) := .inl (.inl hp)
  refine ⟨_, rfl, _, _, rfl, .inr hsq, _, _, rfl, rfl, _, rfl, by rw [it_len]; omega, by rw [it_len]; omega, fun D hD => ?_⟩
  have hn : (((It r).length : Int) - 1).toNat = r.length - 1 := by rw [it_len]; omega
  show ∃ W : Nat → Nat → Hp → Prop, _
  rw [hn]
  refine lc_rangeK No (fun _ => True) (fun i acc H' => TpAll H' acc (((steps r).take i).map jl)) hD (small1000 (by omega)) trivial (fun _ _ _ => trivial) trivial ?_ ?_
  · intro i hi acc H' Ny Nn k _ eD hP hy hnn
    have gx : r[i]? = some r[i] := List.getElem?_eq_getElem (by omega)
    have gy : r[i + 1]? = some r[i + 1] := List.getElem?_eq_getElem (by omega)
    have ej := steps_get gx gy
    have hp' := k.same _ _ hp
    have hs' : SqT K H' p (It r) := .inl (.inl hp')
    have e1 : ((0 : Int) + (i : Int)) = ((i : Nat) : Int) := by omega
    have e2 : ((0 : Int) + (i : Int) + 1) = ((i + 1 : Nat) : Int) := by omega
    refine ⟨rfl, _, rfl, _, rfl, p, _, _, _, rfl, rfl, hs', by rw [e1]; exact atI_nat (it_get gx), _, rfl, _, rfl, _, _, rfl, rfl, p, _, _, _, rfl, rfl, hs', by rw [e2]; exact atI_nat (it_get gy), show 2 ≤ sizeLine by decide, fun t ht => hy _ _ ?_ (k.trans (Same.kp (Same.new ht))) trivial ?_⟩
    · rw [upd_ne (ne_of_none eD ht)]; exact eD
    · have eD' : (upd H' t (.tup [V.int (r[i] : Int), V.int (r[i + 1] : Int)])) D = some (.lst acc) := by rw [upd_ne (ne_of_none eD ht)]; exact eD
      exact map_step (rep := jl) ej eD' (hP.keep (Same.tk (Same.new ht))) ⟨t, rfl, upd_same⟩
  · intro acc H' k _ eD hP
    have e3 : (steps r).take (r.length - 1) = steps r := List.take_of_length_le (by rw [steps_len]; omega)
    rw [e3] at hP
    exact q D H' k.same hD ⟨acc, eD, hP⟩
end
end Rl

set_option Elab.async false
set_option linter.all false
set_option maxRecDepth 100000
set_option maxHeartbeats 2000000
/-! D18: _law_run. -/
namespace Rl
open PySem PySem.Spec PyProof.Rows L2
/-- a run's shape -/
def RunOf (n : Nat) (r : List Nat) : Prop := r.Pairwise (· < ·) ∧ r.head? = some 0 ∧ r.getLast? = some (n - 1) ∧ r.length ≤ n
section
variable {P : Program} {w : World} {K : PySem.W.Frag} {mg : Str → Option Value} {base : Heap}
theorem fd_upd {H : Hp} {f D : Addr} {o : HO} (h : Fd H f) (n : D ≠ f) : Fd (upd H D o) f := let ⟨d, s, e, r⟩ := h; ⟨d, s, by rw [upd_ne (Ne.symm n)]; exact e, r⟩
theorem fd_ne {H : Hp} {f D : Addr} (h : Fd H f) (n : H D = none) : D ≠ f := fun z => by
  obtain ⟨d, s, e, _⟩ := h
  rw [z, e] at n; cases n
def sp_run : Sp := fun vs H Q _ => ∃ (f : Addr) (n : Nat), vs = [.ref f, .int (n : Int)] ∧ Fd H f ∧ 2 ≤ n ∧ n ≤ 100 ∧ ∀ v r H', Go f H H' → Tp H' v r → RunOf n r → Q v H'
theorem sc_run : FnScope ["_law_feed_here", "_law_blocks", "_law_bar", "_law_b"] ["_law_feed_here", "_law_blocks"] (defScope s_law_run) := ⟨rfl, rfl, rfl, by decide +kernel, rfl, by decide +kernel, by decide +kernel⟩
theorem ok_run' (T : Tx K mg) : Ok P w K mg base CX0 2 (He.ga K "_law_run") ["_law_feed_here", "_law_blocks"] sp_run := by
  refine ok_of (d := d_law_run) T (fnAt0 (i := 13) rfl) rfl rfl sc_run (fun vs H Q E h => ?_) (fun _ _ _ _ _ _ us hl => match us, hl with | [_, _], _ => rfl) fun cdv A outer s H vs Q E hr h => ?_
  · obtain ⟨_, _, rfl, _⟩ := h; rfl
  obtain ⟨f, n, rfl, hf, hn2, hn, q⟩ := h
  refine ⟨_, PSs.nox (pss_cons (ps_set (i := 2) sc_run.nd rfl (.inr rfl) (pe_op op_add pe_int (pc (ok_take T) hr (T.glo 10) pass0 (pa_cons (pv 0) (pa_cons pe_int pa_nil)))))
    (pss_one (ps_ret (pe_tupleOf (by rfl) (T.free 7) (pe_op op_cat (pe_op op_cat (pe_lst (pa_cons pe_int pa_nil))
      (pe_lc (own := [("_law_b", 3)]) (g := gName 3) rfl sc_run.nd (pi_range2 (by rfl) (T.free 5) (pa_cons pe_int (pa_cons (pe_op op_sub (pv 1) pe_int) pa_nil))) (blkOk_by (N := ["_law_feed_here", "_law_blocks", "_law_bar", "_law_b"]) (sc := defScope s_law_run) (by decide +kernel))
        (fun _ _ _ _ _ => pg_name (i := 3) sc_run.nd rfl (Or.inl rfl)) (fun _ _ _ _ _ => pts_one (pt_cmpR op_ge (pc (ok_take T) hr (T.glo 10) pass0 (pa_cons (pv 0) (pa_cons pe_int pa_nil))) (pv 2) (nomark _))) (fun _ _ _ _ _ => pv 3))) (pe_lst (pa_cons (pe_op op_sub (pv 1) pe_int) pa_nil))))))), ?_⟩
  refine ⟨_, rfl, f, 3, rfl, hf, by decide, by decide, fun t H1 ht g1 => ⟨_, _, rfl, rfl, ?_⟩⟩
  refine ⟨show 1 ≤ sizeLine by decide, fun p1 hp1 => ?_⟩
  have hf1 := g1.fd
  have hf2 := fd_upd (o := HO.lst [.int 0]) hf1 (fd_ne hf1 hp1)
  refine ⟨_, rfl, _, _, rfl, rfl, 1, _, rfl, ⟨by decide, by decide, by omega, by omega⟩, fun D hD => ?_⟩
  have hDf : D ≠ f := fd_ne hf2 hD
  have hn' : ((n : Int) - 1 - 1).toNat = n - 2 := by omega
  show ∃ W : Nat → Nat → Hp → Prop, _
  rw [hn']
  refine lc_rangeK (· = f) (fun H => Fd H f) (fun i acc H' => ∃ qq : List Nat, acc = It qq ∧ qq.Pairwise (· < ·) ∧ (∀ b ∈ qq, 1 ≤ b ∧ b < 1 + i) ∧ qq.length ≤ i) hD (small1000 (by omega)) hf2 (fun H l h => fd_upd h hDf) ⟨[], rfl, .nil, fun b hb => (by cases hb), Nat.le_refl _⟩ ?_ ?_
  · rintro i hi acc H' Ny Nn k hf' eD ⟨qq, rfl, hpw, hin, hql⟩ hy hnn
    have e1 : ((1 : Int) + (i : Int)) = ((1 + i : Nat) : Int) := by omega
    refine ⟨rfl, _, rfl, f, 4, rfl, hf', by decide, by decide, fun t' H3 ht' g3 => ⟨_, rfl, _, _, rfl, rfl, _, rfl, ?_⟩⟩
    have eD3 := g3.kp _ _ hDf eD
    refine ite2 (fun hb => ?_) fun hb => ?_
    · refine ⟨_, rfl, hy _ _ eD3 (k.trans g3.kp') g3.fd ⟨qq ++ [1 + i], ?_, ?_, ?_, ?_⟩⟩
      · show It qq ++ [V.int ((1 : Int) + (i : Int))] = It (qq ++ [1 + i])
        rw [e1]
        show _ = (qq ++ [1 + i]).map fun (n : Nat) => V.int (n : Int)
        rw [List.map_append]; rfl
      · rw [List.pairwise_append]
        exact ⟨hpw, List.pairwise_singleton _ _, fun a ha b hb => by rw [List.mem_singleton.mp hb]; exact (hin a ha).2⟩
      · intro b hb
        rcases List.mem_append.mp hb with z | z
        · have := hin b z; omega
        · rw [List.mem_singleton.mp z]; omega
      · rw [List.length_append, List.length_singleton]; omega
    · exact hnn _ eD3 (k.trans g3.kp') g3.fd ⟨qq, rfl, hpw, fun b hb => by have := hin b hb; omega, by omega⟩
  · rintro acc H' k hf' eD ⟨qq, rfl, hpw, hin, hql⟩
    have hp1' : H' p1 = some (.lst [.int 0]) := k _ _ (fd_ne hf1 hp1) upd_same
    refine ⟨p1, D, _, _, rfl, rfl, hp1', eD, ?_, fun p2 hp2 => ?_⟩
    · rw [it_len, sizeLine_eq]; simp only [List.length_cons, List.length_nil]; omega
    refine ⟨_, rfl, _, _, rfl, rfl, show 1 ≤ sizeLine by decide, fun p3 hp3 => ?_⟩
    refine ⟨p2, p3, _, _, rfl, rfl, by rw [upd_ne (ne_of_none upd_same hp3)]; exact upd_same, upd_same, ?_, fun p4 hp4 => ?_⟩
    · rw [List.length_append, it_len, sizeLine_eq]; simp only [List.length_cons, List.length_nil]; omega
    refine .inl ⟨p4, _, rfl, .inl (.inl upd_same), fun p5 hp5 => ?_⟩
    have eI : ([V.int 0] ++ It qq) ++ [V.int ((n : Int) - 1)] = It ((0 :: qq) ++ [n - 1]) := by
      have e2 : ((n : Int) - 1) = ((n - 1 : Nat) : Int) := by omega
      rw [e2]
      show _ = ((0 :: qq) ++ [n - 1]).map fun (n : Nat) => V.int (n : Int)
      rw [List.map_append]; rfl
    have s2 := Same.new (o := HO.lst ([V.int 0] ++ It qq)) hp2
    have s3 := Same.new (o := HO.lst [V.int ((n : Int) - 1)]) hp3
    have s4 := Same.new (o := HO.lst (([V.int 0] ++ It qq) ++ [V.int ((n : Int) - 1)])) hp4
    have s5 := Same.new (o := HO.tup (([V.int 0] ++ It qq) ++ [V.int ((n : Int) - 1)])) hp5
    have s25 := ((s2.trans s3).trans s4).trans s5
    refine q _ ((0 :: qq) ++ [n - 1]) _ ?_ ⟨p5, rfl, by rw [upd_same]; exact congrArg (fun z => some (HO.tup z)) eI⟩ ⟨?_, rfl, List.getLast?_concat, ?_⟩
    · have gA : Go f H1 H' := ⟨fun b o nb e => k b o nb (Same.new hp1 _ _ e), hf'⟩
      exact (g1.trans gA).trans (Go.of hf' s25)
    · rw [List.pairwise_append]
      refine ⟨List.pairwise_cons.mpr ⟨fun b hb => (hin b hb).1, hpw⟩, List.pairwise_singleton _ _, fun a ha b hb => ?_⟩
      rw [List.mem_singleton.mp hb]
      rcases List.mem_cons.mp ha with z | z
      · omega
      · have := hin a z; omega
    · simp only [List.length_append, List.length_cons, List.length_nil]; omega
end
end Rl

set_option Elab.async false
set_option linter.all false
set_option maxRecDepth 100000
set_option maxHeartbeats 2000000
/-! D19: _law_routine. -/
namespace Rl
open PySem PySem.Spec PyProof.Rows L2
theorem rowsFrom_len (n : Nat) (js : List J) (u : Nat) : (rowsFrom n js u).length ≤ n := by
  unfold rowsFrom
  rw [List.length_map]
  refine Nat.le_trans (List.length_filter_le ..) ?_
  rw [List.length_range']; omega
theorem sum_le {l : List Nat} {n : Nat} (h : ∀ x ∈ l, x ≤ n) : l.sum ≤ l.length * n := by
  induction l with
  | nil => simp
  | cons a l ih =>
    have h1 := h a List.mem_cons_self
    have h2 := ih fun x hx => h x (List.mem_cons_of_mem _ hx)
    rw [List.sum_cons, List.length_cons, Nat.succ_mul]
    omega
theorem rowsOf_len_le (n : Nat) (js : List J) : (rowsOf n js).length ≤ n * n := by
  unfold rowsOf
  rw [List.length_flatMap]
  have h := sum_le (l := (List.range n).map fun u => (rowsFrom n js u).length) (n := n) fun x hx => by
    obtain ⟨u, _, rfl⟩ := List.mem_map.mp hx
    exact rowsFrom_len n js u
  rw [List.length_map, List.length_range] at h
  exact h
theorem val_len {n : Nat} {js : List J} (hn : js.Nodup) (hv : Val n js) : js.length ≤ n * n := by
  rw [← rowsOf_len hn hv]
  exact rowsOf_len_le n js
/-- the steps of a run are valid and distinct -/
theorem steps_fst : ∀ {r : List Nat} {j : J}, j ∈ steps r → j.1 ∈ r ∧ j.2 ∈ r.tail
  | [], j, h => by cases h
  | [_], j, h => by cases h
  | x :: y :: r, j, h => by
    rcases List.mem_cons.mp (show j ∈ (x, y) :: steps (y :: r) from h) with e | e
    · subst e; exact ⟨List.mem_cons_self, List.mem_cons_self⟩
    · obtain ⟨h1, h2⟩ := steps_fst e
      exact ⟨List.mem_cons_of_mem _ h1, List.mem_cons_of_mem _ h2⟩
theorem steps_asc : ∀ {r : List Nat}, r.Pairwise (· < ·) → (steps r).Pairwise lexLt ∧ ∀ j ∈ steps r, j.1 < j.2
  | [], _ => ⟨.nil, fun j h => by cases h⟩
  | [_], _ => ⟨.nil, fun j h => by cases h⟩
  | x :: y :: r, h => by
    obtain ⟨h1, h2⟩ := List.pairwise_cons.mp h
    obtain ⟨h3, h4⟩ := steps_asc h2
    refine ⟨List.pairwise_cons.mpr ⟨fun j hj => .inl (h1 _ (steps_fst hj).1), h3⟩, fun j hj => ?_⟩
    rcases List.mem_cons.mp (show j ∈ (x, y) :: steps (y :: r) from hj) with e | e
    · subst e; exact h1 y List.mem_cons_self
    · exact h4 j e
theorem asc_last : ∀ {r : List Nat} {z : Nat}, r.Pairwise (· < ·) → r.getLast? = some z → ∀ x ∈ r, x ≤ z
  | [], z, _, h, x, hx => by cases hx
  | [a], z, _, h, x, hx => by
    cases h
    rw [List.mem_singleton.mp hx]; exact Nat.le_refl _
  | a :: b :: r, z, hp, h, x, hx => by
    obtain ⟨h1, h2⟩ := List.pairwise_cons.mp hp
    rw [List.getLast?_cons_cons] at h
    have ih := asc_last h2 h
    rcases List.mem_cons.mp hx with e | e
    · subst e
      have h3 := h1 b List.mem_cons_self
      have h4 := ih b List.mem_cons_self
      omega
    · exact ih x e
theorem RunOf.val {n : Nat} {r : List Nat} (hn : 1 ≤ n) (h : RunOf n r) : Val n (steps r) ∧ (steps r).Nodup := by
  obtain ⟨h1, h2, h3, h4⟩ := h
  obtain ⟨s1, s2⟩ := steps_asc h1
  refine ⟨fun j hj => ⟨s2 j hj, ?_⟩, sorted_nodup s1⟩
  have := asc_last h1 h3 j.2 (List.mem_of_mem_tail (steps_fst hj).2)
  omega
theorem add_new {n : Nat} {js ks : List J} (hv : Val n js) (hn : js.Nodup) (kv : Val n ks) (kn : ks.Nodup) : Val n (js ++ ks.filter fun j => decide (j ∉ js)) ∧ (js ++ ks.filter fun j => decide (j ∉ js)).Nodup := by
  refine ⟨fun j hj => ?_, ?_⟩
  · rcases List.mem_append.mp hj with h | h
    · exact hv j h
    · exact kv j (List.mem_filter.mp h).1
  · rw [List.nodup_append]
    refine ⟨hn, kn.filter _, fun a ha b hb e => ?_⟩
    subst e
    have := (List.mem_filter.mp hb).2
    exact (of_decide_eq_true this) ha
theorem ins_new {n : Nat} {js : List J} {j : J} (i : Nat) (hv : Val n js) (hn : js.Nodup) (hj : j.1 < j.2 ∧ j.2 < n) (h : j ∉ js) : Val n (js.take i ++ [j] ++ js.drop i) ∧ (js.take i ++ [j] ++ js.drop i).Nodup := by
  have hp : (js.take i ++ [j] ++ js.drop i).Perm (j :: js) := by
    rw [List.append_assoc]
    refine (List.perm_middle).trans ?_
    show (j :: (js.take i ++ js.drop i)).Perm _
    rw [List.take_append_drop]
  refine ⟨fun k hk => ?_, hp.nodup_iff.mpr (List.nodup_cons.mpr ⟨h, hn⟩)⟩
  rcases List.mem_cons.mp (hp.mem_iff.mp hk) with e | e
  · subst e; exact hj
  · exact hv k e
section
variable {P : Program} {w : World} {K : PySem.W.Frag} {mg : Str → Option Value} {base : Heap}
theorem TL.ne {H : Hp} {a f : Addr} {qs : List (List Nat)} (h : TL H a qs) (hf : Fd H f) : a ≠ f := fun z => by
  subst z
  obtain ⟨vs, e, ht⟩ := h
  obtain ⟨d, s, e', _⟩ := hf
  rw [e] at e'
  cases e'
  match qs, ht with
  | _ :: _, ⟨⟨_, z, _⟩, _⟩ => cases z
/-- what the drawing of a routine keeps -/
def RtI (f : Addr) (m n : Nat) (H : Hp) (σ : L2.St) (H' : Hp) : Prop := ∃ (a : Addr) (js : List J) (t u jj : Option V), σ = [some (V.ref f), some (.int (m : Int)), some (.int (n : Int)), some (.ref a), t, u, jj] ∧ H a = none ∧ Go f H H' ∧ TL H' a (js.map jl) ∧ Val n js ∧ js.Nodup
theorem Go.none {f b : Addr} {H H' : Hp} (g : Go f H H') (n : H' b = Option.none) : H b = Option.none := by
  cases e : H b with
  | none => rfl
  | some o =>
    have z := g.kp b o (fd_ne g.fd n) e
    rw [n] at z; cases z
def sp_routine : Sp := fun vs H Q _ => ∃ (f : Addr) (m : Nat), vs = [.ref f, .int (m : Int)] ∧ Fd H f ∧ 2 ≤ m ∧ m ≤ 10 ∧
  ∀ (p l : Addr) (n : Nat) (js : List J) H', Go f H H' → H' p = some (.lst [.int (n : Int), .ref l]) → TL H' l (js.map jl) → Val n js → js.Nodup → 2 ≤ n → n ≤ m → Q (.ref p) H'
theorem sc_routine : FnScope ["_law_feed_here", "_law_most", "_law_blocks", "_law_found", "_law_turn", "_law_u", "_law_jump"] ["_law_feed_here", "_law_most"] (defScope s_law_routine) := ⟨rfl, rfl, rfl, by decide +kernel, rfl, by decide +kernel, by decide +kernel⟩
theorem ok_routine (T : Tx K mg) : Ok P w K mg base CX0 3 (He.ga K "_law_routine") ["_law_feed_here", "_law_most"] sp_routine := by
  refine ok_of (d := d_law_routine) T (fnAt0 (i := 14) rfl) rfl rfl sc_routine (fun vs H Q E h => ?_) (fun _ _ _ _ _ _ us hl => match us, hl with | [_, _], _ => rfl) fun cdv A outer s H vs Q E hr h => ?_
  · obtain ⟨_, _, rfl, _⟩ := h; rfl
  obtain ⟨f, m, rfl, hf, hm2, hm, q⟩ := h
  refine ⟨_, PSs.nox (pss_cons (ps_asg (pe_tup (pa_cons (pe_op op_add pe_int (pc (ok_take T) (hr.mono (by decide)) (T.glo 10) pass0 (pa_cons (pv 0) (pa_cons (pe_op op_sub (pv 1) pe_int) pa_nil)))) (pa_cons (pe_lst pa_nil) pa_nil)))
      (pg_tup rfl (pgs_cons (pg_name (i := 2) sc_routine.nd rfl (.inl rfl)) (pgs_cons (pg_name (i := 3) sc_routine.nd rfl (.inr rfl)) pgs_nil))))
    (pss_cons (ps_for PassesOwn.never rfl (pi_range1 (by rfl) (T.free 5) (pa_cons (pc (ok_pick T) hr (T.glo 11) pass0 (pa_cons (pv 0) (pa_cons (pe_lst (pa_cons pe_int (pa_cons pe_int (pa_cons pe_int (pa_cons pe_int (pa_cons pe_int (pa_cons pe_int (pa_cons pe_int (pa_cons pe_int pa_nil))))))))) pa_nil))) pa_nil)) (pg_name (i := 4) sc_routine.nd rfl (.inl rfl))
      (pss_one (ps_set (i := 3) sc_routine.nd rfl (.inr rfl) (pe_op op_cat (pv 3) (pe_lc (own := [("_law_jump", 6)]) (g := gName 6) rfl sc_routine.nd (pi_list (pc (ok_steps T) (hr.mono (by decide)) (T.glo 12) pass0 (pa_cons (pc (ok_run' T) hr (T.glo 13) pass0 (pa_cons (pv 0) (pa_cons (pv 2) pa_nil))) pa_nil))) (blkOk_by (N := ["_law_feed_here", "_law_most", "_law_blocks", "_law_found", "_law_turn", "_law_u", "_law_jump"]) (sc := defScope s_law_routine) (by decide +kernel))
        (fun _ _ _ _ _ => pg_name (i := 6) sc_routine.nd rfl (Or.inl rfl)) (fun _ _ _ _ _ => pts_one (pt_cmpR (r := rNotInD K) (op_notInD (ru hr)) (pv 6) (pv 3) rfl)) (fun _ _ _ _ _ => pv 6))))))
    (pss_cons (ps_for PassesOwn.never rfl (pi_range1 (by rfl) (T.free 5) (pa_cons (pc (ok_take T) (hr.mono (by decide)) (T.glo 10) pass0 (pa_cons (pv 0) (pa_cons pe_int pa_nil))) pa_nil)) (pg_name (i := 4) sc_routine.nd rfl (.inl rfl))
      (pss_cons (ps_set (i := 5) sc_routine.nd rfl (.inl rfl) (pc (ok_take T) (hr.mono (by decide)) (T.glo 10) pass0 (pa_cons (pv 0) (pa_cons (pe_op op_sub (pv 2) pe_int) pa_nil))))
      (pss_cons (ps_set (i := 6) sc_routine.nd rfl (.inl rfl) (pe_tup (pa_cons (pv 5) (pa_cons (pe_op op_add (pe_op op_add (pv 5) pe_int) (pc (ok_take T) (hr.mono (by decide)) (T.glo 10) pass0 (pa_cons (pv 0) (pa_cons (pe_op op_sub (pe_op op_sub (pv 2) pe_int) (pv 5)) pa_nil)))) pa_nil))))
      (pss_one (ps_if (pt_cmpR (op_notInD (ru hr)) (pv 6) (pv 3) rfl)
        (pss_one (ps_expr (pe_bm PySem.F.plainAttrs_list PySem.F.slot_list_insert PySem.F.type_list_insert mt_insert (pv 3) (pa_cons (pc (ok_take T) (hr.mono (by decide)) (T.glo 10) pass0 (pa_cons (pv 0) (pa_cons (pe_op op_add (pe_callB call_len_seq (by rfl) (T.free 0) boot_len (pa_cons (pv 3) pa_nil)) pe_int) pa_nil))) (pa_cons (pv 6) pa_nil))))) pss_nil)))))
    (pss_one (ps_ret (pe_lst (pa_cons (pv 2) (pa_cons (pv 3) pa_nil)))))))), ?_⟩
  have e1 : ((m : Int) - 1) = ((m - 1 : Nat) : Int) := by omega
  refine ⟨_, rfl, _, rfl, _, _, rfl, rfl, f, m - 1, (show [V.ref f, V.int ((m : Int) - 1)] = _ by rw [e1]), hf, by omega, by omega, fun t0 H1 ht0 g1 => ⟨_, _, rfl, rfl, show 0 ≤ sizeLine from Nat.zero_le _, fun a0 ha0 => ⟨show 2 ≤ sizeLine by decide, fun p0 hp0 => ⟨p0, _, rfl, .inl (.inl upd_same), rfl, _, _, rfl, _, _, rfl, rfl, ?_⟩⟩⟩⟩
  have e2 : ((2 : Int) + (t0 : Int)) = ((2 + t0 : Nat) : Int) := by omega
  have sA := (Same.new (o := HO.lst []) ha0).trans (Same.new (o := HO.tup [V.int ((2 : Int) + (t0 : Int)), .ref a0]) hp0)
  have g2 := g1.trans (Go.of g1.fd sA)
  show tSeq _ _ _ [some (.ref f), some (.int (m : Int)), some (.int ((2 : Int) + (t0 : Int))), some (.ref a0), none, none, none] _
  have ha1 : (upd (upd H1 a0 (.lst [])) p0 (.tup [V.int ((2 : Int) + (t0 : Int)), .ref a0])) a0 = some (.lst []) := by rw [upd_ne (ne_of_none upd_same hp0)]; exact upd_same
  rw [e2]
  generalize hn : 2 + t0 = n
  have hn2 : 2 ≤ n := by omega
  have hnm : n ≤ m := by omega
  generalize hH2 : upd (upd H1 a0 (.lst [])) p0 (.tup [V.int ((2 : Int) + (t0 : Int)), .ref a0]) = H2
  rw [hH2] at ha1 g2
  have n64 : ∀ {js : List J}, Val n js → js.Nodup → js.length ≤ 100 := fun hv hn => by
    have h1 := val_len hn hv
    have h2 : n * n ≤ 10 * 10 := Nat.mul_le_mul (by omega) (by omega)
    omega
  -- the runs' steps
  refine ⟨_, rfl, show 8 ≤ sizeLine by decide, fun b hb => ?_⟩
  have sb := Same.new (o := HO.lst [.int 0, .int 1, .int 2, .int 2, .int 3, .int 3, .int 4, .int 5]) hb
  refine ⟨f, b, _, rfl, g2.fd.same sb, upd_same, fd_ne g2.fd hb, by decide, by decide, fun i x H3 hx g3 => ?_⟩
  obtain ⟨c, hc, rfl⟩ : ∃ c : Nat, c ≤ 5 ∧ x = .int (c : Int) := by
    match i, hx with
    | 0, hx => cases hx; exact ⟨0, by decide, rfl⟩
    | 1, hx => cases hx; exact ⟨1, by decide, rfl⟩
    | 2, hx => cases hx; exact ⟨2, by decide, rfl⟩
    | 3, hx => cases hx; exact ⟨2, by decide, rfl⟩
    | 4, hx => cases hx; exact ⟨3, by decide, rfl⟩
    | 5, hx => cases hx; exact ⟨3, by decide, rfl⟩
    | 6, hx => cases hx; exact ⟨4, by decide, rfl⟩
    | 7, hx => cases hx; exact ⟨5, by decide, rfl⟩
    | i + 8, hx => simp at hx
  have g23 := (Go.of g2.fd sb).trans g3
  refine ⟨_, rfl, by omega, by omega, for_range (fun _ σ H' => RtI f m n H σ H') ⟨a0, [], none, none, none, rfl, g1.none ha0, g2.trans g23, TL.go g2.fd g23 (qs := []) ⟨[], ha1, trivial⟩, fun j hj => (by cases hj), List.nodup_nil⟩ ?_ ?_⟩
  · rintro i σ H4 hi ⟨a, js, tt, uu, jj, rfl, na, g4, ⟨avs, ha, hat⟩, hv, hnd⟩
    have hTL : TL H4 a (js.map jl) := ⟨avs, ha, hat⟩
    refine ⟨_, rfl, _, rfl, _, rfl, f, n, rfl, g4.fd, hn2, by omega, fun v r H5 g5 ht5 hr5 => ?_⟩
    obtain ⟨rv, rn⟩ := hr5.val (by omega)
    obtain ⟨avs5, ha5, hat5⟩ := TL.go g4.fd g5 hTL
    have hr1000 := hr5.2.2.2
    refine ⟨v, r, rfl, ht5, by omega, fun l H6 sm6 hn6 ⟨lvs, hl6, hlt6⟩ => ⟨l, rfl, ⟨lvs, .inl (.inl hl6)⟩, fun D hD => ?_⟩⟩
    have ha6 := sm6 _ _ ha5
    have hat6 := hat5.keep (Same.tk sm6)
    have hsl : (steps r).length ≤ 100 := n64 rv rn
    refine lc_listK (K := K) (a := l) (xs := lvs) No (fun _ => True) (fun i acc H' => TpAll H' acc (((steps r).take i |>.filter fun j => decide (j ∉ js)).map jl)) hD ?_ trivial (fun _ _ _ => trivial) trivial (fun H' k _ => .inl (.inl (k.same _ _ hl6))) ?_ ?_
    · rw [hlt6.lenm]; exact small1000 (by omega)
    · intro ix xx hxx acc H' Ny Nn k _ eD hP hy hnn
      obtain ⟨j, ej, pj, rfl, hpj⟩ := hlt6.item hxx
      have hpj' := k.same _ _ hpj
      refine ⟨rfl, _, rfl, _, rfl, td (jl j), _, Tp.dp (q := jl j) ⟨pj, rfl, hpj'⟩, TL.dp (qs := js.map jl) ⟨avs5, k.same _ _ ha6, hat6.keep (Same.tk k.same)⟩, shaped_td _, shaped_tds _, _, rfl, ?_⟩
      rw [any_td]
      by_cases hin : j ∈ js
      · rw [decide_eq_true (mem_map_jl.mpr hin)]
        exact iteF (hnn _ eD k trivial (filt_no ej (by simp [hin]) hP))
      · rw [decide_eq_false (fun z => hin (mem_map_jl.mp z))]
        exact iteT ⟨_, rfl, hy _ _ eD k trivial (filt_yes ej (by simp [hin]) eD hP ⟨pj, rfl, hpj'⟩)⟩
    · intro acc H' k _ eD hP
      rw [hlt6.lenm, List.take_length] at hP
      have ha7 := k.same _ _ ha6
      have hat7 := hat6.keep (Same.tk k.same)
      have l1 : avs5.length ≤ 100 := by rw [hat5.lenm]; exact n64 hv hnd
      have l2 : acc.length ≤ 100 := by
        rw [hP.lenm]
        exact Nat.le_trans (List.length_filter_le ..) hsl
      obtain ⟨nv, nn⟩ := add_new hv hnd rv rn
      refine ⟨a, D, avs5, acc, rfl, rfl, ha7, eD, by rw [sizeLine_eq]; omega, fun p hp => ?_⟩
      have sp := Same.new (o := HO.lst (avs5 ++ acc)) hp
      refine ⟨p, js ++ (steps r).filter (fun j => decide (j ∉ js)), _, _, _, rfl, g4.none (g5.none (none_of (sm6.trans k.same) hp)), (g4.trans g5).trans (Go.of g5.fd ((sm6.trans k.same).trans sp)), ⟨_, upd_same, ?_⟩, nv, nn⟩
      rw [List.map_append]
      exact TpAll.app (hat7.keep (Same.tk sp)) (hP.keep (Same.tk sp))
  rintro σ H4 ⟨a, js, tt, uu, jj, rfl, na, g4, hTL, hv, hnd⟩
  -- single jumps
  refine ⟨_, rfl, f, 4, rfl, g4.fd, by decide, by decide, fun t1 H5 ht1 g5 => ⟨_, rfl, by omega, by omega, for_range (fun _ σ H' => RtI f m n H σ H') ⟨a, js, _, _, _, rfl, na, g4.trans g5, TL.go g4.fd g5 hTL, hv, hnd⟩ ?_ ?_⟩⟩
  · rintro i σ H6 hi ⟨a, js, tt, uu, jj, rfl, na, g6, hTL6, hv6, hnd6⟩
    have e3 : ((n : Int) - 1) = ((n - 1 : Nat) : Int) := by omega
    refine ⟨_, rfl, _, rfl, _, _, rfl, rfl, f, n - 1, (show [V.ref f, V.int ((n : Int) - 1)] = _ by rw [e3]), g6.fd, by omega, by omega, fun u H7 hu7 g7 => ?_⟩
    have e4 : ((n : Int) - 1 - (u : Int)) = ((n - 1 - u : Nat) : Int) := by omega
    refine ⟨_, rfl, _, rfl, _, _, rfl, rfl, _, rfl, _, rfl, _, _, rfl, rfl, _, rfl, _, _, rfl, rfl, f, n - 1 - u, (show [V.ref f, V.int ((n : Int) - 1 - (u : Int))] = _ by rw [e4]), g7.fd, by omega, by omega, fun v H8 hv8 g8 => ⟨_, _, rfl, rfl, show 2 ≤ sizeLine by decide, fun p hp => ?_⟩⟩
    have e5 : ((u : Int) + 1 + (v : Int)) = ((u + 1 + v : Nat) : Int) := by omega
    have hTL8 := TL.go g7.fd g8 (TL.go g6.fd g7 hTL6)
    have sp := Same.new (o := HO.tup [V.int (u : Int), V.int ((u : Int) + 1 + (v : Int))]) hp
    have g9 : Go f H (upd H8 p (.tup [V.int (u : Int), V.int ((u : Int) + 1 + (v : Int))])) := ((g6.trans g7).trans g8).trans (Go.of g8.fd sp)
    have hTL9 := TL.same sp hTL8
    have hpt : Tp (upd H8 p (.tup [V.int (u : Int), V.int ((u : Int) + 1 + (v : Int))])) (.ref p) (jl (u, u + 1 + v)) := ⟨p, rfl, by rw [upd_same]; exact congrArg (fun z => some (HO.tup [V.int (u : Int), V.int z])) e5⟩
    refine ⟨_, rfl, _, rfl, td (jl (u, u + 1 + v)), _, hpt.dp, hTL9.dp, shaped_td _, shaped_tds _, _, rfl, ?_⟩
    rw [any_td]
    by_cases hin : ((u, u + 1 + v) : J) ∈ js
    · rw [decide_eq_true (mem_map_jl.mpr hin)]
      exact iteF ⟨a, js, _, _, _, rfl, na, g9, hTL9, hv6, hnd6⟩
    · rw [decide_eq_false (fun z => hin (mem_map_jl.mp z))]
      obtain ⟨avs, ha, hat⟩ := hTL9
      have hlen := n64 hv6 hnd6
      have hal : avs.length = js.length := hat.lenm
      have e6 : ((avs.length : Int) + 1) = ((js.length + 1 : Nat) : Int) := by omega
      refine iteT ⟨_, rfl, .inl ⟨rfl, _, .inl (.inl ha)⟩, _, rfl, _, rfl, a, _, rfl, .inl (.inl (.inl ha)), _, _, rfl, rfl, f, js.length + 1, (show [V.ref f, V.int ((avs.length : Int) + 1)] = _ by rw [e6]), g9.fd, by omega, by omega, fun t3 H10 ht3 g10 => ⟨_, rfl, a, avs, (t3 : Int), .ref p, rfl, rfl, ?_, small1000 (by omega), by omega, by omega, ?_⟩⟩
      · exact g10.kp _ _ (TL.ne ⟨avs, ha, hat⟩ g9.fd) ha
      · have hat10 := hat.keep (g10.tk g9.fd)
        have hpt10 := hpt.keep (g10.tk g9.fd)
        have ha10 := g10.kp _ _ (TL.ne ⟨avs, ha, hat⟩ g9.fd) ha
        obtain ⟨nv, nn⟩ := ins_new (j := ((u, u + 1 + v) : J)) t3 hv6 hnd6 ⟨by show u < u + 1 + v; omega, by show u + 1 + v < n; omega⟩ hin
        have gk : Go f H (upd H10 a (.lst (avs.take t3 ++ [V.ref p] ++ avs.drop t3))) := ⟨fun b o nb e => by rw [upd_ne (ne_of_none e na)]; exact (g9.trans g10).kp b o nb e, fd_upd g10.fd (TL.ne ⟨avs, ha, hat⟩ g9.fd)⟩
        refine ⟨a, _, _, _, _, rfl, na, gk, ⟨_, upd_same, ?_⟩, nv, nn⟩
        · have kk : Tk H10 (upd H10 a (.lst (avs.take t3 ++ [V.ref p] ++ avs.drop t3))) := Tk.updL ha10
          have q1 := (hat10.take t3).keep kk
          have q2 := (hat10.drop t3).keep kk
          rw [List.map_append, List.map_append, List.map_take, List.map_drop]
          exact TpAll.app (TpAll.app q1 (show TpAll _ [V.ref p] [jl (u, u + 1 + v)] from ⟨hpt10.keep kk, trivial⟩)) q2
  · rintro σ H6 ⟨a, js, tt, uu, jj, rfl, na, g6, hTL6, hv6, hnd6⟩
    refine ⟨_, rfl, _, rfl, show 2 ≤ sizeLine by decide, fun p hp => ?_⟩
    have sp := Same.new (o := HO.lst [V.int (n : Int), .ref a]) hp
    exact q p a n js _ (g6.trans (Go.of g6.fd sp)) upd_same (TL.same sp hTL6) hv6 hnd6 hn2 hnm
end
end Rl

set_option Elab.async false
set_option linter.all false
set_option maxRecDepth 100000
set_option maxHeartbeats 2000000
/-! D20: _law_rows, _law_rests. -/
namespace Rl
open PySem PySem.Spec PyProof.Rows L2
section
variable {P : Program} {w : World} {K : PySem.W.Frag} {mg : Str → Option Value} {base : Heap}
def sp_rows : Sp := fun vs H Q _ => ∃ (n : Nat) (a : Addr) (js : List J), vs = [.int (n : Int), .ref a] ∧ TL H a (js.map jl) ∧ n ≤ 40 ∧ js.length ≤ 1000 ∧ ∀ l H', Same H H' → H l = none → TL H' l ((rowsOf n js).map jl) → Q (.ref l) H'
theorem sc_rows : FnScope ["_law_blocks", "_law_jumps", "_law_found", "_law_u", "_law_v"] ["_law_blocks", "_law_jumps"] (defScope s_law_rows) := ⟨rfl, rfl, rfl, by decide +kernel, rfl, by decide +kernel, by decide +kernel⟩
/-- the rows up to u -/
abbrev rowsTo (n : Nat) (js : List J) (i : Nat) : List J := (List.range i).flatMap (rowsFrom n js)
theorem rowsTo_succ (n : Nat) (js : List J) (i : Nat) : rowsTo n js (i + 1) = rowsTo n js i ++ rowsFrom n js i := by
  unfold rowsTo
  rw [List.range_succ, List.flatMap_append]
  simp
theorem rowsTo_len (n : Nat) (js : List J) : ∀ i : Nat, (rowsTo n js i).length ≤ i * n
  | 0 => by simp
  | i + 1 => by
    rw [rowsTo_succ, List.length_append, Nat.succ_mul]
    have h1 := rowsTo_len n js i
    have h2 := rowsFrom_len n js i
    omega
theorem ok_rows (T : Tx K mg) : Ok P w K mg base CX0 1 (He.ga K "_law_rows") ["_law_blocks", "_law_jumps"] sp_rows := by
  refine ok_of (d := d_law_rows) T (fnAt1 (i := 0) rfl) rfl rfl sc_rows (fun vs H Q E h => ?_) (fun _ _ _ _ _ _ us hl => match us, hl with | [_, _], _ => rfl) fun cdv A outer s H vs Q E hr h => ?_
  · obtain ⟨_, _, _, rfl, _⟩ := h; rfl
  obtain ⟨n, a, js, rfl, ⟨vs, hvs, hT⟩, hn, hlen, q⟩ := h
  refine ⟨_, PSs.nox (pss_cons (ps_set (i := 2) sc_rows.nd rfl (.inl rfl) (pe_lst pa_nil))
    (pss_cons (ps_for PassesOwn.never rfl (pi_range1 (by rfl) (T.free 5) (pa_cons (pv 0) pa_nil)) (pg_name (i := 3) sc_rows.nd rfl (.inr rfl))
      (pss_one (ps_set (i := 2) sc_rows.nd rfl (.inl rfl) (pe_op op_cat (pv 2) (pe_lc (own := [("_law_v", 4)]) (g := gName 4) rfl sc_rows.nd (pi_range2 (by rfl) (T.free 5) (pa_cons (pe_op op_add (pv 3) pe_int) (pa_cons (pv 0) pa_nil))) (blkOk_by (N := ["_law_blocks", "_law_jumps", "_law_found", "_law_u", "_law_v"]) (sc := defScope s_law_rows) (by decide +kernel))
        (fun _ _ _ _ _ => pg_name (i := 4) sc_rows.nd rfl (Or.inl rfl)) (fun _ _ _ _ _ => pts_one (pt_cmpR (r := rInD K) (op_inD (ru hr)) (pe_tup (pa_cons (pv 3) (pa_cons (pv 4) pa_nil))) (pv 1) rfl)) (fun _ _ _ _ _ => pe_tup (pa_cons (pv 3) (pa_cons (pv 4) pa_nil))))))))
    (pss_one (ps_ret (pv 2))))), ?_⟩
  refine ⟨show 0 ≤ sizeLine from Nat.zero_le _, fun a0 ha0 => ⟨_, rfl, _, rfl, by omega, by omega, for_range (fun i σ H' => ∃ (b : Addr) (u v : Option V), σ = [some (.int (n : Int)), some (.ref a), some (.ref b), u, v] ∧ Same H H' ∧ H b = none ∧ TL H' b ((rowsTo n js i).map jl)) ⟨a0, none, none, rfl, Same.new ha0, ha0, [], upd_same, trivial⟩ ?_ ?_⟩⟩
  · rintro i σ H1 hi ⟨b, u, v, rfl, k1, hb0, ⟨bvs, hb, hbt⟩⟩
    have hin : i < n := by omega
    have e0 : ((0 : Int) + (i : Int)) = (i : Int) := by omega
    rw [e0]
    refine ⟨_, rfl, _, rfl, _, _, rfl, rfl, _, rfl, _, _, rfl, ⟨by omega, by omega, by omega, by omega⟩, fun D hD => ?_⟩
    have hc : ((n : Int) - ((i : Int) + 1)).toNat = n - (i + 1) := by omega
    show ∃ W : Nat → Nat → Hp → Prop, _
    rw [hc]
    have hva := k1 _ _ hvs
    refine lc_rangeK No (fun _ => True) (fun m acc H' => TpAll H' acc ((((List.range' (i + 1) m).filter fun v => decide ((i, v) ∈ js)).map fun v => (i, v)).map jl)) hD (small1000 (by omega)) trivial (fun _ _ _ => trivial) trivial ?_ ?_
    · intro m hm acc H' Ny Nn k _ eD hP hy hnn
      have e1 : ((i : Int) + 1 + (m : Int)) = ((i + 1 + m : Nat) : Int) := by omega
      have et : (List.range' (i + 1) (m + 1)).filter (fun v => decide ((i, v) ∈ js)) = (List.range' (i + 1) m).filter (fun v => decide ((i, v) ∈ js)) ++ if (i, i + 1 + m) ∈ js then [i + 1 + m] else [] := by
        rw [List.range'_1_concat, List.filter_append]
        by_cases e : (i, i + 1 + m) ∈ js <;> simp [e]
      refine ⟨rfl, _, rfl, _, rfl, show 2 ≤ sizeLine by decide, fun t ht => ?_⟩
      have st := Same.new (o := HO.tup [V.int (i : Int), V.int ((i : Int) + 1 + (m : Int))]) ht
      have hpt : Tp (upd H' t (.tup [V.int (i : Int), V.int ((i : Int) + 1 + (m : Int))])) (.ref t) (jl (i, i + 1 + m)) := ⟨t, rfl, by rw [upd_same]; exact congrArg (fun z => some (HO.tup [V.int (i : Int), V.int z])) e1⟩
      have skt := k.same.trans st
      have eDt := st _ _ eD
      refine ⟨_, rfl, td (jl (i, i + 1 + m)), _, hpt.dp, TL.dp (qs := js.map jl) ⟨vs, skt _ _ hva, hT.keep (Same.tk (k1.trans skt))⟩, shaped_td _, shaped_tds _, _, rfl, ?_⟩
      rw [any_td]
      by_cases hjin : (i, i + 1 + m) ∈ js
      · rw [decide_eq_true (mem_map_jl.mpr hjin)]
        refine iteT ⟨_, rfl, _, rfl, show 2 ≤ sizeLine by decide, fun t2 ht2 => ?_⟩
        have st2 := Same.new (o := HO.tup [V.int (i : Int), V.int ((i : Int) + 1 + (m : Int))]) ht2
        have hpt2 : Tp (upd (upd H' t (.tup [V.int (i : Int), V.int ((i : Int) + 1 + (m : Int))])) t2 (.tup [V.int (i : Int), V.int ((i : Int) + 1 + (m : Int))])) (.ref t2) (jl (i, i + 1 + m)) := ⟨t2, rfl, by rw [upd_same]; exact congrArg (fun z => some (HO.tup [V.int (i : Int), V.int z])) e1⟩
        have eD2 := st2 _ _ eDt
        refine hy _ _ eD2 (k.trans (Same.kp (st.trans st2))) trivial ?_
        show TpAll _ _ ((((List.range' (i + 1) (m + 1)).filter fun v => decide ((i, v) ∈ js)).map fun v => (i, v)).map jl)
        rw [et, if_pos hjin, List.map_append, List.map_append]
        have kk := Tk.updL (l' := acc ++ [V.ref t2]) eD2
        exact TpAll.app ((hP.keep (Same.tk (st.trans st2))).keep kk) ⟨hpt2.keep kk, trivial⟩
      · rw [decide_eq_false (fun z => hjin (mem_map_jl.mp z))]
        refine iteF (hnn _ eDt (k.trans (Same.kp st)) trivial ?_)
        show TpAll _ _ ((((List.range' (i + 1) (m + 1)).filter fun v => decide ((i, v) ∈ js)).map fun v => (i, v)).map jl)
        rw [et, if_neg hjin, List.append_nil]
        exact hP.keep (Same.tk st)
    · intro acc H' k _ eD hP
      have hb' := k.same _ _ hb
      have l1 : bvs.length ≤ 2000 := by
        rw [hbt.lenm]
        have h1 := rowsTo_len n js i
        have h2 : i * n ≤ 40 * 40 := Nat.mul_le_mul (by omega) hn
        omega
      have l2 : acc.length ≤ 40 := by
        rw [hP.lenm]
        have := rowsFrom_len n js i
        unfold rowsFrom at this
        omega
      refine ⟨b, D, bvs, acc, rfl, rfl, hb', eD, by rw [sizeLine_eq]; omega, fun p hp => ?_⟩
      have sp := Same.new (o := HO.lst (bvs ++ acc)) hp
      have sall := (k1.trans k.same).trans sp
      refine ⟨p, _, _, rfl, sall, none_of (k1.trans k.same) hp, _, upd_same, ?_⟩
      rw [rowsTo_succ, List.map_append]
      exact TpAll.app ((hbt.keep (Same.tk k.same)).keep (Same.tk sp)) (hP.keep (Same.tk sp))
  · rintro σ H1 ⟨b, u, v, rfl, k1, hb0, hb⟩
    have e : ((n : Int)).toNat = n := by omega
    rw [e] at hb
    exact ⟨_, rfl, q b H1 k1 hb0 hb⟩
end
end Rl

set_option Elab.async false
set_option linter.all false
set_option maxRecDepth 100000
set_option maxHeartbeats 2000000
/-! D21: _law_rests. -/
namespace Rl
open PySem PySem.Spec PyProof.Rows L2
/-- the rest-runs by the first m of the blocks behind x -/
abbrev restsTo (last : Nat) (js : List J) (f x m : Nat) : List (List Nat) := ((List.range' (x + 1) m).filter fun v => decide ((x, v) ∈ js)).flatMap fun v => (rests last js f v).map (x :: ·)
theorem restsTo_succ (last : Nat) (js : List J) (f x m : Nat) : restsTo last js f x (m + 1) = restsTo last js f x m ++ if (x, x + 1 + m) ∈ js then (rests last js f (x + 1 + m)).map (x :: ·) else [] := by
  unfold restsTo
  rw [List.range'_1_concat, List.filter_append, List.flatMap_append]
  by_cases e : (x, x + 1 + m) ∈ js <;> simp [e]
theorem restsTo_len {last : Nat} {js : List J} {f x B : Nat} : ∀ {m : Nat}, (∀ i, i < m → (rests last js f (x + 1 + i)).length ≤ B) → (restsTo last js f x m).length ≤ m * B
  | 0, _ => by simp [restsTo]
  | m + 1, h => by
    rw [restsTo_succ, List.length_append, Nat.succ_mul]
    have h1 := restsTo_len (m := m) fun i hi => h i (by omega)
    have h2 := h m (by omega)
    split
    · rw [List.length_map]; omega
    · simp only [List.length_nil]; omega
theorem rests_len (last : Nat) (js : List J) (hl : last ≤ 7) : ∀ (f x : Nat), x ≤ last → (rests last js f x).length ≤ 7 ^ (last - x)
  | 0, x, _ => by simp [rests]
  | f + 1, x, hx => by
    by_cases e : x = last
    · have : rests last js (f + 1) x = [[last]] := by show (if x = last then [[last]] else _) = _; rw [if_pos e]
      rw [this, e]
      simp
    · have : rests last js (f + 1) x = restsTo last js f x (last - x) := by show (if x = last then [[last]] else _) = _; rw [if_neg e]
      rw [this]
      have h1 := restsTo_len (last := last) (js := js) (f := f) (x := x) (m := last - x) (B := 7 ^ (last - x - 1)) fun i hi => by
        refine Nat.le_trans (rests_len last js hl f (x + 1 + i) (by omega)) (Nat.pow_le_pow_right (by decide) (by omega))
      refine Nat.le_trans h1 ?_
      have h2 : (last - x) = (last - x - 1) + 1 := by omega
      rw [h2, Nat.pow_succ, Nat.mul_comm (7 ^ _) 7]
      exact Nat.mul_le_mul_right _ (by omega)
theorem rests_big {last : Nat} {js : List J} {f x : Nat} (hl : last ≤ 7) (hx : x ≤ last) : (rests last js f x).length ≤ 823543 := by
  refine Nat.le_trans (rests_len last js hl f x hx) (Nat.le_trans (Nat.pow_le_pow_right (by decide) (show last - x ≤ 7 by omega)) (by decide))
theorem restsTo_big {last : Nat} {js : List J} {f x m : Nat} (hl : last ≤ 7) (hx : x + m ≤ last) : (restsTo last js f x m).length ≤ 6000000 := by
  refine Nat.le_trans (restsTo_len (B := 823543) fun i hi => rests_big hl (by omega)) ?_
  have : m ≤ 7 := by omega
  omega
/-- .. are runs -/
theorem rests_short (last : Nat) (js : List J) : ∀ (f x : Nat), x ≤ last → ∀ r ∈ rests last js f x, r.length ≤ last - x + 1
  | 0, x, _, r, h => by cases h
  | f + 1, x, hx, r, h => by
    by_cases e : x = last
    · have : rests last js (f + 1) x = [[last]] := by show (if x = last then [[last]] else _) = _; rw [if_pos e]
      rw [this] at h
      rw [List.mem_singleton.mp h]; simp
    · have : rests last js (f + 1) x = restsTo last js f x (last - x) := by show (if x = last then [[last]] else _) = _; rw [if_neg e]
      rw [this] at h
      obtain ⟨v, hv, hr⟩ := List.mem_flatMap.mp h
      obtain ⟨r', hr', rfl⟩ := List.mem_map.mp hr
      have hv2 := List.mem_range'_1.mp (List.mem_filter.mp hv).1
      have := rests_short last js f v (by omega) r' hr'
      rw [List.length_cons]; omega
section
variable {P : Program} {w : World} {K : PySem.W.Frag} {mg : Str → Option Value} {base : Heap}
def sp_rests (f : Nat) : Sp := fun vs H Q _ => ∃ (x last : Nat) (a : Addr) (js : List J), vs = [.int (x : Int), .int (last : Int), .ref a] ∧ TL H a (js.map jl) ∧ x ≤ last ∧ last < x + f ∧ last ≤ 7 ∧ ∀ l H', Same H H' → H l = none → TL H' l (rests last js f x) → Q (.ref l) H'
theorem sc_rests : FnScope ["_law_block", "_law_last", "_law_jumps", "_law_found", "_law_v", "_law_rest"] ["_law_block", "_law_last", "_law_jumps"] (defScope s_law_rests) := ⟨rfl, rfl, rfl, by decide +kernel, rfl, by decide +kernel, by decide +kernel⟩
theorem ok_rests (T : Tx K mg) : ∀ f : Nat, Ok P w K mg base CX0 (f + 1) (He.ga K "_law_rests") ["_law_block", "_law_last", "_law_jumps"] (sp_rests f)
  | 0 => by
    refine ok_of (d := d_law_rests) T (fnAt1 (i := 1) rfl) rfl rfl sc_rests (fun vs H Q E h => ?_) (fun _ _ _ _ _ _ us hl => match us, hl with | [_, _, _], _ => rfl) fun cdv A outer s H vs Q E hr h => ?_
    · obtain ⟨_, _, _, _, rfl, _⟩ := h; rfl
    · obtain ⟨x, last, a, js, rfl, hT, h1, h2, _⟩ := h
      omega
  | f + 1 => by
    have IH := ok_rests T f
    refine ok_of (d := d_law_rests) T (fnAt1 (i := 1) rfl) rfl rfl sc_rests (fun vs H Q E h => ?_) (fun _ _ _ _ _ _ us hl => match us, hl with | [_, _, _], _ => rfl) fun cdv A outer s H vs Q E hr h => ?_
    · obtain ⟨_, _, _, _, rfl, _⟩ := h; rfl
    obtain ⟨x, last, a, js, rfl, ⟨vs, hvs, hT⟩, hxl, hfu, hl7, q⟩ := h
    refine ⟨_, PSs.nox (pss_cons (ps_if (pt_cmpR op_eq (pv 0) (pv 1) (nomark _)) (pss_one (ps_ret (pe_lst (pa_cons (pe_tup (pa_cons (pv 1) pa_nil)) pa_nil)))) pss_nil)
      (pss_cons (ps_set (i := 3) sc_rests.nd rfl (.inl rfl) (pe_lst pa_nil))
      (pss_cons (ps_for PassesOwn.never rfl (pi_range2 (by rfl) (T.free 5) (pa_cons (pe_op op_add (pv 0) pe_int) (pa_cons (pe_op op_add (pv 1) pe_int) pa_nil))) (pg_name (i := 4) sc_rests.nd rfl (.inl rfl))
        (pss_one (ps_if (pt_cmpR (op_inD (ru hr)) (pe_tup (pa_cons (pv 0) (pa_cons (pv 4) pa_nil))) (pv 2) rfl)
          (pss_one (ps_set (i := 3) sc_rests.nd rfl (.inl rfl) (pe_op op_cat (pv 3) (pe_lc (own := [("_law_rest", 5)]) (g := gName 5) (tt := tYes) rfl sc_rests.nd (pi_list (pc IH hr (T.glo 16) pass0 (pa_cons (pv 4) (pa_cons (pv 1) (pa_cons (pv 2) pa_nil))))) (blkOk_by (N := ["_law_block", "_law_last", "_law_jumps", "_law_found", "_law_v", "_law_rest"]) (sc := defScope s_law_rests) (by decide +kernel))
            (fun _ _ _ _ _ => pg_name (i := 5) sc_rests.nd rfl (Or.inl rfl)) (fun _ _ _ _ _ => pts_nil) (fun _ _ _ _ _ => pe_op (r := rCatT K) op_catT (pe_tup (pa_cons (pv 0) pa_nil)) (pv 5)))))) pss_nil)))
      (pss_one (ps_ret (pv 3)))))), ?_⟩
    have hR : rests last js (f + 1) x = if x = last then [[last]] else restsTo last js f x (last - x) := rfl
    refine ⟨_, rfl, _, rfl, rfl, _, rfl, ?_⟩
    rw [eqInt]
    by_cases hx : x = last
    · rw [decide_eq_true hx]
      rw [if_pos hx] at hR
      refine iteT ⟨_, rfl, show 1 ≤ sizeLine by decide, fun t ht => ⟨show 1 ≤ sizeLine by decide, fun l hl => ?_⟩⟩
      have s1 := Same.new (o := HO.tup [V.int (last : Int)]) ht
      have s2 := Same.new (o := HO.lst [V.ref t]) hl
      refine q l _ (s1.trans s2) (none_of s1 hl) ⟨_, upd_same, ?_⟩
      rw [hR]
      exact ⟨⟨t, rfl, s2 _ _ upd_same⟩, trivial⟩
    rw [decide_eq_false hx]
    rw [if_neg hx] at hR
    refine iteF ⟨show 0 ≤ sizeLine from Nat.zero_le _, fun a0 ha0 => ⟨_, rfl, _, _, rfl, rfl, _, rfl, _, _, rfl, rfl, _, _, rfl, ⟨by omega, by omega, by omega, by omega⟩, ?_⟩⟩
    have hc : ((last : Int) + 1 - ((x : Int) + 1)).toNat = last - x := by omega
    show ∃ W : Nat → Nat → L2.St → Hp → Prop, _
    rw [hc]
    refine for_range (fun i σ H' => ∃ (b : Addr) (v : Option V), σ = [some (.int (x : Int)), some (.int (last : Int)), some (.ref a), some (.ref b), v, none] ∧ Same H H' ∧ H b = none ∧ TL H' b (restsTo last js f x i)) ⟨a0, none, rfl, Same.new ha0, ha0, [], upd_same, trivial⟩ ?_ ?_
    · rintro i σ H1 hi ⟨b, v, rfl, k1, hb0, ⟨bvs, hb, hbt⟩⟩
      have e1 : ((x : Int) + 1 + (i : Int)) = ((x + 1 + i : Nat) : Int) := by omega
      refine ⟨_, rfl, _, rfl, show 2 ≤ sizeLine by decide, fun t ht => ?_⟩
      have st := Same.new (o := HO.tup [V.int (x : Int), V.int ((x : Int) + 1 + (i : Int))]) ht
      have hpt : Tp (upd H1 t (.tup [V.int (x : Int), V.int ((x : Int) + 1 + (i : Int))])) (.ref t) (jl (x, x + 1 + i)) := ⟨t, rfl, by rw [upd_same]; exact congrArg (fun z => some (HO.tup [V.int (x : Int), V.int z])) e1⟩
      have kt := k1.trans st
      refine ⟨_, rfl, td (jl (x, x + 1 + i)), _, hpt.dp, TL.dp (qs := js.map jl) ⟨vs, kt _ _ hvs, hT.keep (Same.tk kt)⟩, shaped_td _, shaped_tds _, _, rfl, ?_⟩
      rw [any_td]
      by_cases hjin : (x, x + 1 + i) ∈ js
      · rw [decide_eq_true (mem_map_jl.mpr hjin)]
        refine iteT ⟨_, rfl, _, rfl, _, rfl, _, rfl, x + 1 + i, last, a, js, (show [V.int ((x : Int) + 1 + (i : Int)), V.int (last : Int), V.ref a] = _ by rw [e1]), TL.same kt ⟨vs, hvs, hT⟩, by omega, by omega, hl7, fun l H2 sm2 hn2 ⟨lvs, hl, hlt⟩ => ⟨l, rfl, ⟨lvs, .inl (.inl hl)⟩, fun D hD => ?_⟩⟩
        have hbig := rests_big (js := js) (f := f) hl7 (show x + 1 + i ≤ last by omega)
        have hshort := rests_short last js f (x + 1 + i) (by omega)
        refine lc_listK (K := K) (a := l) (xs := lvs) No (fun _ => True) (fun m acc H' => TpAll H' acc (((rests last js f (x + 1 + i)).take m).map (x :: ·))) hD ?_ trivial (fun _ _ _ => trivial) trivial (fun H' k _ => .inl (.inl (k.same _ _ hl))) ?_ ?_
        · rw [hlt.len, sizeLine_eq]; omega
        · intro m xx hxx acc H' Ny Nn k _ eD hP hy hnn
          obtain ⟨r, er, pr, rfl, hpr⟩ := hlt.get hxx
          have hpr' := k.same _ _ hpr
          refine ⟨rfl, _, rfl, show 1 ≤ sizeLine by decide, fun t2 ht2 => ?_⟩
          have st2 := Same.new (o := HO.tup [V.int (x : Int)]) ht2
          have hrl := hshort r (List.mem_of_getElem? er)
          refine ⟨_, rfl, t2, pr, [V.int (x : Int)], It r, rfl, rfl, .inl (.inl upd_same), .inl (.inl (st2 _ _ hpr')), fun z => (by cases z), ?_, fun z => ?_, fun _ p hp => ?_⟩
          · rw [it_len, sizeLine_eq]; simp only [List.length_cons, List.length_nil]; omega
          · have : r = [] := by
              have z2 : (It r).length = 0 := by rw [z]; rfl
              rw [it_len] at z2
              exact List.eq_nil_of_length_eq_zero z2
            subst this
            exact hy _ _ (st2 _ _ eD) (k.trans (Same.kp st2)) trivial (map_step (rep := (x :: ·)) er (st2 _ _ eD) (hP.keep (Same.tk st2)) ⟨t2, rfl, upd_same⟩)
          · have sp := Same.new (o := HO.tup ([V.int (x : Int)] ++ It r)) hp
            have eDp := sp _ _ (st2 _ _ eD)
            exact hy _ _ eDp (k.trans (Same.kp (st2.trans sp))) trivial (map_step (rep := (x :: ·)) er eDp (hP.keep (Same.tk (st2.trans sp))) ⟨p, rfl, upd_same⟩)
        · intro acc H' k _ eD hP
          rw [hlt.len, List.take_length] at hP
          have kall := (kt.trans sm2).trans k.same
          have kb := (st.trans sm2).trans k.same
          have hb' := kb _ _ hb
          have l1 : bvs.length ≤ 6000000 := by rw [hbt.len]; exact restsTo_big hl7 (by omega)
          have l2 : acc.length ≤ 823543 := by rw [hP.len, List.length_map]; exact hbig
          refine ⟨b, D, bvs, acc, rfl, rfl, hb', eD, by rw [sizeLine_eq]; omega, fun p hp => ?_⟩
          have sp := Same.new (o := HO.lst (bvs ++ acc)) hp
          refine ⟨p, _, rfl, kall.trans sp, none_of kall hp, _, upd_same, ?_⟩
          rw [restsTo_succ, if_pos hjin]
          exact TpAll.app ((hbt.keep (Same.tk kb)).keep (Same.tk sp)) (hP.keep (Same.tk sp))
      · rw [decide_eq_false (fun z => hjin (mem_map_jl.mp z))]
        refine iteF ⟨b, _, rfl, kt, hb0, bvs, st _ _ hb, ?_⟩
        rw [restsTo_succ, if_neg hjin, List.append_nil]
        exact hbt.keep (Same.tk st)
    · rintro σ H1 ⟨b, v, rfl, k1, hb0, hb⟩
      refine ⟨_, rfl, q b H1 k1 hb0 ?_⟩
      rw [hR]; exact hb
end
end Rl

set_option Elab.async false
set_option linter.all false
set_option maxRecDepth 100000
set_option maxHeartbeats 2000000
/-! D22: _law_part. -/
namespace Rl
open PySem PySem.Spec PyProof.Rows L2
section
variable {P : Program} {w : World} {K : PySem.W.Frag} {mg : Str → Option Value} {base : Heap}
def sp_part : Sp := fun vs H Q _ => ∃ (f a b : Addr) (rows : List J) (runs : List (List Nat)), vs = [.ref f, .ref a, .ref b] ∧ Fd H f ∧ TL H a (rows.map jl) ∧ TL H b runs ∧ rows.length ≤ 100 ∧ runs.length ≤ 1000000 ∧ (∀ r ∈ runs, r.length ≤ 1000) ∧
  ∀ (l : Addr) (ss : List J) H', Go f H H' → H l = none → TL H' l (ss.map jl) → ss.Sublist rows → Q (.ref l) H'
theorem sc_part : FnScope ["_law_feed_here", "_law_rows_here", "_law_runs", "_law_case", "_law_found", "_law_turn", "_law_jump", "_law_bar"] ["_law_feed_here", "_law_rows_here", "_law_runs"] (defScope s_law_part) := ⟨rfl, rfl, rfl, by decide +kernel, rfl, by decide +kernel, by decide +kernel⟩
theorem ok_part (T : Tx K mg) : Ok P w K mg base CX0 3 (He.ga K "_law_part") ["_law_feed_here", "_law_rows_here", "_law_runs"] sp_part := by
  refine ok_of (d := d_law_part) T (fnAt1 (i := 2) rfl) rfl rfl sc_part (fun vs H Q E h => ?_) (fun _ _ _ _ _ _ us hl => match us, hl with | [_, _, _], _ => rfl) fun cdv A outer s H vs Q E hr h => ?_
  · obtain ⟨_, _, _, _, _, rfl, _⟩ := h; rfl
  obtain ⟨f, a, b, rows, runs, rfl, hf, hTa, hTb, hrl, hrun, hshort, q⟩ := h
  refine ⟨_, PSs.nox (pss_cons (ps_asg (pe_tup (pa_cons (pc (ok_take T) (hr.mono (by decide)) (T.glo 10) pass0 (pa_cons (pv 0) (pa_cons pe_int pa_nil))) (pa_cons (pe_lst pa_nil) pa_nil)))
      (pg_tup rfl (pgs_cons (pg_name (i := 3) sc_part.nd rfl (.inl rfl)) (pgs_cons (pg_name (i := 4) sc_part.nd rfl (.inr rfl)) pgs_nil))))
    (pss_cons (ps_if (pt_cmpR op_eq (pv 3) pe_int (nomark _)) (pss_one (ps_ret (pc (ok_pick T) hr (T.glo 11) pass0 (pa_cons (pv 0) (pa_cons (pe_lst (pa_cons (pe_lst pa_nil) (pa_cons (pe_callTy call_list_of (by rfl) (T.free 10) (by decide +kernel) (pa_cons (pv 1) pa_nil)) pa_nil))) pa_nil))))) pss_nil)
    (Evl.pss_cut (ps_if (PW.pt (pw_and (pt_cmpR op_lt (pv 3) pe_int (nomark _)) (pw_and1 (pt_cmpR (op_neD (ru4 hr)) (pv 2) (pe_lst pa_nil) (nomark _)))))
      (pss_cons (ps_for PassesOwn.never rfl (pi_range1 (by rfl) (T.free 5) (pa_cons (pe_op op_add pe_int (pc (ok_take T) (hr.mono (by decide)) (T.glo 10) pass0 (pa_cons (pv 0) (pa_cons pe_int pa_nil)))) pa_nil)) (pg_name (i := 5) sc_part.nd rfl (.inl rfl))
        (pss_one (ps_set (i := 4) sc_part.nd rfl (.inr rfl) (pe_op op_cat (pv 4) (pc (ok_steps T) (hr.mono (by decide)) (T.glo 12) pass0 (pa_cons (pc (ok_pick T) hr (T.glo 11) pass0 (pa_cons (pv 0) (pa_cons (pv 2) pa_nil))) pa_nil))))))
      (pss_one (ps_ret (pe_lc (own := [("_law_jump", 6)]) (g := gName 6) rfl sc_part.nd (pi_list (pv 1)) (blkOk_by (N := ["_law_feed_here", "_law_rows_here", "_law_runs", "_law_case", "_law_found", "_law_turn", "_law_jump", "_law_bar"]) (sc := defScope s_law_part) (by decide +kernel))
        (fun _ _ _ _ _ => pg_name (i := 6) sc_part.nd rfl (Or.inl rfl)) (fun _ _ _ _ _ => pts_one (pt_cmpR (r := rInD K) (op_inD (ru hr)) (pv 6) (pv 4) rfl)) (fun _ _ _ _ _ => pv 6))))) pss_nil)
    (pss_cons (ps_set (i := 7) sc_part.nd rfl (.inr rfl) (pe_op op_add pe_int (pc (ok_take T) (hr.mono (by decide)) (T.glo 10) pass0 (pa_cons (pv 0) (pa_cons pe_int pa_nil)))))
    (pss_one (ps_ret (pe_lc (own := [("_law_jump", 6)]) (g := gName 6) rfl sc_part.nd (pi_list (pv 1)) (blkOk_by (N := ["_law_feed_here", "_law_rows_here", "_law_runs", "_law_case", "_law_found", "_law_turn", "_law_jump", "_law_bar"]) (sc := defScope s_law_part) (by decide +kernel))
        (fun _ _ _ _ _ => pg_name (i := 6) sc_part.nd rfl (Or.inl rfl)) (fun _ _ _ _ _ => pts_one (pt_cmpR op_ge (pc (ok_take T) (hr.mono (by decide)) (T.glo 10) pass0 (pa_cons (pv 0) (pa_cons pe_int pa_nil))) (pv 7) (nomark _))) (fun _ _ _ _ _ => pv 6)))))))), ?_⟩
  refine ⟨_, rfl, f, 6, rfl, hf, by decide, by decide, fun c H1 hc g1 => ⟨show 0 ≤ sizeLine from Nat.zero_le _, fun a0 ha0 => ⟨show 2 ≤ sizeLine by decide, fun p0 hp0 => ⟨p0, _, rfl, .inl (.inl upd_same), rfl, _, _, rfl, _, _, rfl, rfl, ?_⟩⟩⟩⟩
  have sA := (Same.new (o := HO.lst []) ha0).trans (Same.new (o := HO.tup [V.int (c : Int), .ref a0]) hp0)
  have g2 := g1.trans (Go.of g1.fd sA)
  have ha1 : (upd (upd H1 a0 (.lst [])) p0 (.tup [V.int (c : Int), .ref a0])) a0 = some (.lst []) := by rw [upd_ne (ne_of_none upd_same hp0)]; exact upd_same
  generalize upd (upd H1 a0 (.lst [])) p0 (.tup [V.int (c : Int), .ref a0]) = H2 at ha1 g2
  obtain ⟨avs, hav, hat⟩ := TL.go hf g2 hTa
  have hTb2 := TL.go hf g2 hTb
  obtain ⟨bvs, hbv, hbt⟩ := id hTb2
  have lav : avs.length ≤ 100 := by rw [hat.lenm]; exact hrl
  refine ⟨_, rfl, rfl, _, rfl, ite2 (fun hb => ?_) fun hb => ?_⟩
  · refine ⟨_, rfl, show 0 ≤ sizeLine from Nat.zero_le _, fun e he => ?_⟩
    have s1 := Same.new (o := HO.lst []) he
    refine ⟨_, rfl, a, avs, rfl, .inl (.inl (.inl (s1 _ _ hav))), fun cc hcc => ⟨show 2 ≤ sizeLine by decide, fun l hl => ?_⟩⟩
    have s2 := Same.new (o := HO.lst avs) hcc
    have s3 := Same.new (o := HO.lst [V.ref e, V.ref cc]) hl
    have s123 := (s1.trans s2).trans s3
    have fd3 := g2.fd.same s123
    refine ⟨f, l, _, rfl, fd3, upd_same, ?_, show 1 ≤ 2 by decide, show 2 ≤ 1000000 by decide, fun i x H' hx g3 => ?_⟩
    · exact fd_ne (g2.fd.same (s1.trans s2)) hl
    have gall := (g2.trans (Go.of g2.fd s123)).trans g3
    match i, hx with
    | 0, hx =>
      cases hx
      exact q e [] H' gall (g2.none he) (TL.go fd3 g3 (qs := []) ⟨[], s3 _ _ (s2 _ _ upd_same), trivial⟩) (List.nil_sublist _)
    | 1, hx =>
      cases hx
      exact q cc rows H' gall (g2.none (none_of s1 hcc)) (TL.go fd3 g3 (qs := rows.map jl) ⟨avs, s3 _ _ upd_same, hat.keep (Same.tk s123)⟩) (List.Sublist.refl _)
    | i + 2, hx => simp at hx
  refine ⟨fun σ' H' => (∃ x4 x5, σ' = [some (.ref f), some (.ref a), some (.ref b), some (.int (c : Int)), x4, x5, none, none]) ∧ Go f H H' ∧ TL H' a (rows.map jl), ?_, ?_⟩
  · -- by runs
    refine ⟨_, rfl, _, _, rfl, rfl, _, rfl, ?_⟩
    refine ite2 (fun hb2 => ?_) fun hb2 => ?_
    · refine ⟨_, rfl, show 0 ≤ sizeLine from Nat.zero_le _, fun e he => ?_⟩
      have s1 := Same.new (o := HO.lst []) he
      refine ⟨_, _, TL.dp (TL.same s1 hTb2), Dp.lst (ds := []) (.inl (.inl upd_same)) .nil, shaped_tds _, by decide, ?_⟩
      have e1 : PyData.eqv (.list (runs.map td)) (.list []) = decide (runs = []) := by
        show PyData.eqv (.list _) (.list _) = _
        rw [PyData.eqv]
        cases runs with
        | nil => rfl
        | cons a l => simp [PyData.eqvAll]
      rw [e1]
      have g3 := g2.trans (Go.of g2.fd s1)
      have hTa3 : TL (upd H2 e (.lst [])) a (rows.map jl) := ⟨avs, s1 _ _ hav, hat.keep (Same.tk s1)⟩
      by_cases hr0 : runs = []
      · rw [decide_eq_true hr0]
        exact ⟨_, rfl, iteF ⟨⟨_, _, rfl⟩, g3, hTa3⟩⟩
      rw [decide_eq_false hr0]
      have hrpos : 1 ≤ runs.length := by
        cases runs with
        | nil => exact absurd rfl hr0
        | cons a l => simp
      refine ⟨_, rfl, iteT ⟨_, rfl, f, 3, rfl, g3.fd, by decide, by decide, fun t4 H4 ht4 g4 => ⟨_, _, rfl, rfl, _, rfl, by omega, by omega, ?_⟩⟩⟩
      have hn : ((1 : Int) + (t4 : Int)).toNat = 1 + t4 := by omega
      show ∃ W : Nat → Nat → L2.St → Hp → Prop, _
      rw [hn]
      refine for_range (fun i σ' H' => ∃ (d : Addr) (u : Option V) (ks : List J), σ' = [some (.ref f), some (.ref a), some (.ref b), some (.int (c : Int)), some (.ref d), u, none, none] ∧ Go f H H' ∧ TL H' d (ks.map jl) ∧ ks.length ≤ i * 1000) ⟨a0, none, [], rfl, g3.trans g4, TL.go g3.fd g4 (qs := []) ⟨[], s1 _ _ ha1, trivial⟩, Nat.zero_le _⟩ ?_ ?_
      · rintro i σ' H5 hi ⟨d, u, ks, rfl, g5, hTd, hkl⟩
        have hTb5 := TL.go hf g5 hTb
        obtain ⟨bvs5, hbv5, hbt5⟩ := id hTb5
        have lb : bvs5.length = runs.length := hbt5.len
        refine ⟨_, rfl, _, rfl, _, rfl, f, b, bvs5, rfl, g5.fd, hbv5, TL.ne hTb5 g5.fd, by omega, by omega, fun ii x H6 hx g6 => ?_⟩
        obtain ⟨r, er, hr⟩ := hbt5.get hx
        refine ⟨x, r, rfl, hr.keep (g6.tk g5.fd), hshort r (List.mem_of_getElem? er), fun l H7 sm7 hn7 ⟨lvs, hl, hlt⟩ => ?_⟩
        obtain ⟨dvs, hd, hdt⟩ := TL.go g5.fd g6 hTd
        have l1 : dvs.length ≤ 3000 := by rw [hdt.lenm]; omega
        have l2 : lvs.length ≤ 1000 := by
          rw [hlt.lenm, steps_len]
          have := hshort r (List.mem_of_getElem? er)
          omega
        refine ⟨d, l, dvs, lvs, rfl, rfl, sm7 _ _ hd, hl, by rw [sizeLine_eq]; omega, fun p hp => ?_⟩
        have sp := Same.new (o := HO.lst (dvs ++ lvs)) hp
        refine ⟨p, _, ks ++ steps r, rfl, (g5.trans g6).trans (Go.of g6.fd (sm7.trans sp)), ⟨_, upd_same, ?_⟩, ?_⟩
        · rw [List.map_append]
          exact TpAll.app ((hdt.keep (Same.tk sm7)).keep (Same.tk sp)) (hlt.keep (Same.tk sp))
        · rw [List.length_append, Nat.succ_mul]
          have := hlt.lenm
          omega
      · rintro σ' H5 ⟨d, u, ks, rfl, g5, hTd, hkl⟩
        obtain ⟨avs5, hav5, hat5⟩ := TL.go hf g5 hTa
        obtain ⟨dvs, hd, hdt⟩ := id hTd
        refine ⟨_, rfl, a, rfl, ⟨avs5, .inl (.inl hav5)⟩, fun D hD => ?_⟩
        refine lc_listK (K := K) (a := a) (xs := avs5) No (fun _ => True) (fun i acc H' => TpAll H' acc (((rows.take i).filter fun j => decide (j ∈ ks)).map jl)) hD ?_ trivial (fun _ _ _ => trivial) trivial (fun H' k _ => .inl (.inl (k.same _ _ hav5))) ?_ ?_
        · rw [hat5.lenm]; exact small1000 (by omega)
        · intro i xx hxx acc H' Ny Nn k _ eD hP hy hnn
          obtain ⟨j, ej, pj, rfl, hpj⟩ := hat5.item hxx
          have hpj' := k.same _ _ hpj
          refine ⟨rfl, _, rfl, _, rfl, td (jl j), _, Tp.dp (q := jl j) ⟨pj, rfl, hpj'⟩, TL.dp (qs := ks.map jl) (TL.same k.same hTd), shaped_td _, shaped_tds _, _, rfl, ?_⟩
          rw [any_td]
          by_cases hin : j ∈ ks
          · rw [decide_eq_true (mem_map_jl.mpr hin)]
            exact iteT ⟨_, rfl, hy _ _ eD k trivial (filt_yes ej (by simp [hin]) eD hP ⟨pj, rfl, hpj'⟩)⟩
          · rw [decide_eq_false (fun z => hin (mem_map_jl.mp z))]
            exact iteF (hnn _ eD k trivial (filt_no ej (by simp [hin]) hP))
        · intro acc H' k _ eD hP
          rw [hat5.lenm, List.take_length] at hP
          exact q D _ H' (g5.trans (Go.of g5.fd k.same)) (g5.none hD) ⟨acc, eD, hP⟩ List.filter_sublist
    · exact ⟨⟨_, _, rfl⟩, g2, avs, hav, hat⟩
  · rintro σ' H3 ⟨⟨x4, x5, rfl⟩, g3, hTa3⟩
    obtain ⟨avs3, hav3, hat3⟩ := id hTa3
    refine ⟨_, rfl, f, 3, rfl, g3.fd, by decide, by decide, fun t4 H4 ht4 g4 => ⟨_, _, rfl, rfl, ?_⟩⟩
    obtain ⟨avs4, hav4, hat4⟩ := TL.go g3.fd g4 hTa3
    have naf := TL.ne ⟨avs4, hav4, hat4⟩ g4.fd
    refine ⟨_, rfl, a, rfl, ⟨avs4, .inl (.inl hav4)⟩, fun D hD => ?_⟩
    have hDf : D ≠ f := fd_ne g4.fd hD
    refine lc_listK (K := K) (a := a) (xs := avs4) (· = f) (fun H => Fd H f) (fun i acc H' => ∃ ss : List J, TpAll H' acc (ss.map jl) ∧ ss.Sublist (rows.take i)) hD ?_ g4.fd (fun H l h => fd_upd h hDf) ⟨[], trivial, List.nil_sublist _⟩ (fun H' k _ => .inl (.inl (k _ _ naf hav4))) ?_ ?_
    · rw [hat4.lenm]; exact small1000 (by omega)
    · rintro i xx hxx acc H' Ny Nn k hf' eD ⟨ss, hP, hsub⟩ hy hnn
      obtain ⟨j, ej, pj, rfl, hpj⟩ := hat4.item hxx
      have et : rows.take (i + 1) = rows.take i ++ [j] := by rw [List.take_add_one, ej]; rfl
      refine ⟨rfl, _, rfl, f, 4, rfl, hf', by decide, by decide, fun t' H5 ht' g5 => ⟨_, rfl, _, _, rfl, rfl, _, rfl, ?_⟩⟩
      have eD5 := g5.kp _ _ hDf eD
      have gk : Go f H4 H' := Kp.go k hf'
      have hpj5 := (g5.tk hf') _ _ ((gk.tk g4.fd) _ _ hpj)
      have hP5 := hP.keep (g5.tk hf')
      refine ite2 (fun hb => ?_) fun hb => ?_
      · refine ⟨_, rfl, hy _ _ eD5 (k.trans g5.kp') g5.fd ⟨ss ++ [j], ?_, ?_⟩⟩
        · have kk := Tk.updL (l' := acc ++ [V.ref pj]) eD5
          rw [List.map_append]
          exact TpAll.app (hP5.keep kk) ⟨⟨pj, rfl, kk _ _ hpj5⟩, trivial⟩
        · rw [et]; exact hsub.append (List.Sublist.refl _)
      · refine hnn _ eD5 (k.trans g5.kp') g5.fd ⟨ss, hP5, ?_⟩
        rw [et]; exact hsub.trans (List.sublist_append_left _ _)
    · rintro acc H' k hf' eD ⟨ss, hP, hsub⟩
      rw [hat4.lenm, List.take_length] at hsub
      exact q D ss H' ((g3.trans g4).trans (Kp.go k hf')) ((g3.trans g4).none hD) ⟨acc, eD, hP⟩ hsub
end
end Rl

set_option Elab.async false
set_option linter.all false
set_option maxRecDepth 100000
set_option maxHeartbeats 2000000
/-! D23: _law_keeping, _law_named. -/
namespace Rl
open PySem PySem.Spec PyProof.Rows L2
abbrev scKeep : Scope := { kind := .function, names := [(".0", .local), ("_law_run_here", .local), ("_law_steps", .globalImplicit), ("_law_jumps", .cell)], isGenerator := false, isCoroutine := false }
theorem eqv_nil (q : List (List Nat)) : PyData.eqv (.list (q.map td)) (.list []) = decide (q = []) := by
  show PyData.eqv (.list _) (.list _) = _
  rw [PyData.eqv]
  cases q with
  | nil => rfl
  | cons a l => simp [PyData.eqvAll]
theorem filt_nil {l m : List J} : (l.filter fun j => decide (j ∉ m)) = [] ↔ ∀ j ∈ l, j ∈ m := by
  rw [List.filter_eq_nil_iff]
  simp
theorem pli {X : Cx} {K : PySem.W.Frag} {tg e : Expr} {te : TE} (hK : X.K = K) (he : PE X e te) : PI X tg e (iList K te) := by
  subst hK
  exact pi_list he
/-- the runs that keep to these jumps -/
def keep (ss : List J) (runs : List (List Nat)) : List (List Nat) := runs.filter fun r => decide (∀ j ∈ steps r, j ∈ ss)
section
variable {P : Program} {w : World} {K : PySem.W.Frag} {mg : Str → Option Value} {base : Heap}
def sp_keeping : Sp := fun vs H Q _ => ∃ (a b : Addr) (runs : List (List Nat)) (ss : List J), vs = [.ref a, .ref b] ∧ TL H a runs ∧ TL H b (ss.map jl) ∧ runs.length ≤ 1000000 ∧ (∀ r ∈ runs, r.length ≤ 1000) ∧
  ∀ (l : Addr) H', Same H H' → H l = none → TL H' l (keep ss runs) → Q (.ref l) H'
theorem sc_keeping : FnScope ["_law_runs", "_law_jumps", "_law_run_here", "_law_jump"] ["_law_runs", "_law_jumps"] (defScope s_law_keeping) := ⟨rfl, rfl, rfl, by decide +kernel, rfl, by decide +kernel, by decide +kernel⟩
theorem ok_keeping (T : Tx K mg) : Ok P w K mg base CX0 2 (He.ga K "_law_keeping") ["_law_runs", "_law_jumps"] sp_keeping := by
  refine ok_of (d := d_law_keeping) T (fnAt1 (i := 3) rfl) rfl rfl sc_keeping (fun vs H Q E h => ?_) (fun _ _ _ _ _ _ us hl => match us, hl with | [_, _], _ => rfl) fun cdv A outer s H vs Q E hr h => ?_
  · obtain ⟨_, _, _, _, rfl, _⟩ := h; rfl
  obtain ⟨a, b, runs, ss, rfl, ⟨vs, hvs, hT⟩, hTb, hrl, hshort, q⟩ := h
  refine ⟨_, PSs.nox (pss_one (ps_ret (pe_lc (own := [("_law_run_here", 2)]) (g := gName 2) rfl sc_keeping.nd (pi_list (pv 0)) (blkOk_by (N := ["_law_runs", "_law_jumps", "_law_run_here", "_law_jump"]) (sc := defScope s_law_keeping) (by decide +kernel))
      (fun _ _ _ _ _ => pg_name (i := 2) sc_keeping.nd rfl (Or.inl rfl)) (fun _ _ _ _ _ => pts_one (pt_cmpR (r := rEqD K) (op_eqD (ru4 hr)) (pe_lc (own := [("_law_jump", 3)]) (g := gName 3) rfl sc_keeping.nd (pli (K := K) rfl (pc (ok_steps T) hr (T.glo 12) pass0 (pa_cons (pv 2) pa_nil))) (blkOk_by (N := ["_law_runs", "_law_jumps", "_law_run_here", "_law_jump"]) (sc := scKeep) (by decide +kernel))
        (fun _ _ _ _ _ => pg_name (i := 3) sc_keeping.nd rfl (Or.inl rfl)) (fun _ _ _ _ _ => pts_one (pt_cmpR (r := rNotInD K) (op_notInD (ru hr)) (pv 3) (pv 1) rfl)) (fun _ _ _ _ _ => pv 3)) (pe_lst pa_nil) (nomark _))) (fun _ _ _ _ _ => pv 2)))), ?_⟩
  refine ⟨_, rfl, a, rfl, ⟨vs, .inl (.inl hvs)⟩, fun D hD => ?_⟩
  refine lc_listK (K := K) (a := a) (xs := vs) No (fun _ => True) (fun i acc H' => TpAll H' acc (keep ss (runs.take i))) hD ?_ trivial (fun _ _ _ => trivial) trivial (fun H' k _ => .inl (.inl (k.same _ _ hvs))) ?_ ?_
  · rw [hT.len, sizeLine_eq]; omega
  · intro i x hx acc H' Ny Nn k _ eD hP hy hnn
    obtain ⟨r, er, pr, rfl, hpr⟩ := hT.get hx
    have hrs := hshort r (List.mem_of_getElem? er)
    have et : keep ss (runs.take (i + 1)) = keep ss (runs.take i) ++ if (∀ j ∈ steps r, j ∈ ss) then [r] else [] := by
      unfold keep
      rw [List.take_add_one, er, List.filter_append]
      by_cases e : ∀ j ∈ steps r, j ∈ ss
      · rw [if_pos e]
        simp only [Option.toList_some, List.filter_cons, decide_eq_true e, List.filter_nil, if_true]
      · rw [if_neg e]
        simp only [Option.toList_some, List.filter_cons, decide_eq_false e, List.filter_nil]
        rfl
    refine ⟨rfl, _, rfl, _, r, rfl, ⟨pr, rfl, k.same _ _ hpr⟩, hrs, fun l H1 sm1 hn1 ⟨lvs, hl, hlt⟩ => ⟨l, rfl, ⟨lvs, .inl (.inl hl)⟩, fun D2 hD2 => ?_⟩⟩
    have hTb1 := TL.same (k.same.trans sm1) hTb
    refine lc_listK (K := K) (a := l) (xs := lvs) No (fun _ => True) (fun i acc H' => TpAll H' acc (((steps r).take i |>.filter fun j => decide (j ∉ ss)).map jl)) hD2 ?_ trivial (fun _ _ _ => trivial) trivial (fun H' k _ => .inl (.inl (k.same _ _ hl))) ?_ ?_
    · rw [hlt.lenm, steps_len]; exact small1000 (by omega)
    · intro ix xx hxx acc2 H2 Ny2 Nn2 k2 _ eD2 hP2 hy2 hnn2
      obtain ⟨j, ej, pj, rfl, hpj⟩ := hlt.item hxx
      have hpj' := k2.same _ _ hpj
      refine ⟨rfl, _, rfl, _, rfl, td (jl j), _, Tp.dp (q := jl j) ⟨pj, rfl, hpj'⟩, TL.dp (qs := ss.map jl) (TL.same k2.same hTb1), shaped_td _, shaped_tds _, _, rfl, ?_⟩
      rw [any_td]
      by_cases hin : j ∈ ss
      · rw [decide_eq_true (mem_map_jl.mpr hin)]
        exact iteF (hnn2 _ eD2 k2 trivial (filt_no ej (by simp [hin]) hP2))
      · rw [decide_eq_false (fun z => hin (mem_map_jl.mp z))]
        exact iteT ⟨_, rfl, hy2 _ _ eD2 k2 trivial (filt_yes ej (by simp [hin]) eD2 hP2 ⟨pj, rfl, hpj'⟩)⟩
    · intro acc2 H2 k2 _ eD2 hP2
      rw [hlt.lenm, List.take_length] at hP2
      refine ⟨show 0 ≤ sizeLine from Nat.zero_le _, fun e he => ?_⟩
      have se := Same.new (o := HO.lst []) he
      have s2 := (sm1.trans k2.same).trans se
      have eDs := s2 _ _ eD
      refine ⟨_, _, TL.dp (qs := ((steps r).filter fun j => decide (j ∉ ss)).map jl) ⟨acc2, se _ _ eD2, hP2.keep (Same.tk se)⟩, Dp.lst (ds := []) (.inl (.inl upd_same)) .nil, shaped_tds _, by decide, _, rfl, ?_⟩
      rw [eqv_nil]
      by_cases e : ∀ j ∈ steps r, j ∈ ss
      · rw [decide_eq_true (p := ((steps r).filter fun j => decide (j ∉ ss)).map jl = []) (by rw [filt_nil.mpr e]; rfl)]
        refine iteT ⟨_, rfl, hy _ _ eDs (k.trans (Same.kp s2)) trivial ?_⟩
        show TpAll _ _ (keep ss (runs.take (i + 1)))
        rw [et, if_pos e]
        have kk := Tk.updL (l' := acc ++ [V.ref pr]) eDs
        exact TpAll.app ((hP.keep (Same.tk s2)).keep kk) ⟨⟨pr, rfl, kk _ _ (s2 _ _ (k.same _ _ hpr))⟩, trivial⟩
      · rw [decide_eq_false (p := ((steps r).filter fun j => decide (j ∉ ss)).map jl = []) (fun z => e (filt_nil.mp (map_jl_inj (b := []) z)))]
        refine iteF (hnn _ eDs (k.trans (Same.kp s2)) trivial ?_)
        show TpAll _ _ (keep ss (runs.take (i + 1)))
        rw [et, if_neg e, List.append_nil]
        exact hP.keep (Same.tk s2)
  · intro acc H' k _ eD hP
    rw [hT.len, List.take_length] at hP
    exact q D H' k.same hD ⟨acc, eD, hP⟩
end
end Rl

set_option Elab.async false
set_option linter.all false
set_option maxRecDepth 100000
set_option maxHeartbeats 2000000
/-! D24: _law_named, _law_lacking, _law_other_rows. -/
namespace Rl
open PySem PySem.Spec PyProof.Rows L2
section
variable {P : Program} {w : World} {K : PySem.W.Frag} {mg : Str → Option Value} {base : Heap}
/-! ### _law_named -/
def sp_named : Sp := fun vs H Q _ => ∃ (f a : Addr) (ss : List J), vs = [.ref f, .ref a] ∧ Fd H f ∧ TL H a (ss.map jl) ∧ ss.length ≤ 100 ∧
  ∀ (l : Addr) (ks : List J) H', Go f H H' → H l = none → TL H' l (ks.map jl) → (∀ j, j ∈ ks ↔ j ∈ ss) → ks.length ≤ 1000 → Q (.ref l) H'
theorem sc_named : FnScope ["_law_feed_here", "_law_jumps", "_law_found", "_law_jump"] ["_law_feed_here", "_law_jumps"] (defScope s_law_named) := ⟨rfl, rfl, rfl, by decide +kernel, rfl, by decide +kernel, by decide +kernel⟩
theorem cut0 (xs : List V) (t : Nat) : cutV xs none (some (t : Int)) = xs.take (min t xs.length) := by
  unfold cutV
  rw [HT.sIx_none, HT.sIx_nat]
  simp
theorem ok_named (T : Tx K mg) : Ok P w K mg base CX0 2 (He.ga K "_law_named") ["_law_feed_here", "_law_jumps"] sp_named := by
  refine ok_of (d := d_law_named) T (fnAt1 (i := 4) rfl) rfl rfl sc_named (fun vs H Q E h => ?_) (fun _ _ _ _ _ _ us hl => match us, hl with | [_, _], _ => rfl) fun cdv A outer s H vs Q E hr h => ?_
  · obtain ⟨_, _, _, rfl, _⟩ := h; rfl
  obtain ⟨f, a, ss, rfl, hf, hTa, hsl, q⟩ := h
  refine ⟨_, PSs.nox (pss_cons (ps_set (i := 2) sc_named.nd rfl (.inl rfl) (pe_lst pa_nil))
    (pss_cons (ps_for PassesOwn.never rfl (pi_list (pv 1)) (pg_name (i := 3) sc_named.nd rfl (.inl rfl))
      (pss_one (ps_expr (pe_bm PySem.F.plainAttrs_list PySem.F.slot_list_insert PySem.F.type_list_insert mt_insert (pv 2) (pa_cons (pc (ok_take T) hr (T.glo 10) pass0 (pa_cons (pv 0) (pa_cons (pe_op op_add (pe_callB call_len_seq (by rfl) (T.free 0) boot_len (pa_cons (pv 2) pa_nil)) pe_int) pa_nil))) (pa_cons (pv 3) pa_nil))))))
    (pss_one (ps_ret (pe_op op_cat (pv 2) (pe_slice sl_list (pv 2) po_none (po_some (pc (ok_take T) hr (T.glo 10) pass0 (pa_cons (pv 0) (pa_cons pe_int pa_nil)))))))))), ?_⟩
  obtain ⟨avs, hav, hat⟩ := id hTa
  refine ⟨show 0 ≤ sizeLine from Nat.zero_le _, fun a0 ha0 => ?_⟩
  have s0 := Same.new (o := HO.lst []) ha0
  refine ⟨_, rfl, a, rfl, ⟨avs, .inl (.inl (s0 _ _ hav))⟩, for_list (K := K) (a := a) (xs := avs) (fun i σ H' => ∃ (u : Option V) (ks : List J), σ = [some (.ref f), some (.ref a), some (.ref a0), u] ∧ Go f H H' ∧ TL H' a0 (ks.map jl) ∧ ks.Perm (ss.take i))
    ⟨none, [], rfl, Go.of hf s0, ⟨[], upd_same, trivial⟩, List.Perm.refl _⟩ (fun i σ H' _ ⟨_, _, _, g, _⟩ => .inl (.inl (g.kp _ _ (TL.ne hTa hf) hav))) ?_ ?_⟩
  · rintro i x σ H1 hx ⟨u, ks, rfl, g1, ⟨kvs, hk, hkt⟩, hp⟩
    obtain ⟨j, ej, pj, rfl, hpj⟩ := hat.item hx
    have hTk : TL H1 a0 (ks.map jl) := ⟨kvs, hk, hkt⟩
    have hkl : ks.length ≤ 100 := by
      rw [hp.length_eq, List.length_take]; omega
    have lk : kvs.length = ks.length := hkt.lenm
    have e6 : ((kvs.length : Int) + 1) = ((ks.length + 1 : Nat) : Int) := by omega
    have hpj1 := (g1.tk hf) _ _ hpj
    refine ⟨_, rfl, .inl ⟨rfl, _, .inl (.inl hk)⟩, _, rfl, _, rfl, a0, _, rfl, .inl (.inl (.inl hk)), _, _, rfl, rfl, f, ks.length + 1, (show [V.ref f, V.int ((kvs.length : Int) + 1)] = _ by rw [e6]), g1.fd, by omega, by omega, fun t H2 ht g2 => ⟨_, rfl, a0, kvs, (t : Int), .ref pj, rfl, rfl, ?_, small1000 (by omega), by omega, by omega, ?_⟩⟩
    · exact g2.kp _ _ (TL.ne hTk g1.fd) hk
    · have hk2 := g2.kp _ _ (TL.ne hTk g1.fd) hk
      have hkt2 := hkt.keep (g2.tk g1.fd)
      have hpj2 := (g2.tk g1.fd) _ _ hpj1
      have kk : Tk H2 (upd H2 a0 (.lst (kvs.take t ++ [V.ref pj] ++ kvs.drop t))) := Tk.updL hk2
      refine ⟨_, ks.take t ++ [j] ++ ks.drop t, rfl, ⟨fun b o nb e => by rw [upd_ne (ne_of_none e ha0)]; exact (g1.trans g2).kp b o nb e, fd_upd g2.fd (TL.ne hTk g1.fd)⟩, ⟨_, upd_same, ?_⟩, ?_⟩
      · rw [List.map_append, List.map_append, List.map_take, List.map_drop]
        exact TpAll.app (TpAll.app ((hkt2.take t).keep kk) (show TpAll _ [V.ref pj] [jl j] from ⟨⟨pj, rfl, kk _ _ hpj2⟩, trivial⟩)) ((hkt2.drop t).keep kk)
      · rw [List.take_add_one, ej, List.append_assoc]
        refine (List.perm_middle).trans ?_
        show (j :: (ks.take t ++ ks.drop t)).Perm _
        rw [List.take_append_drop]
        exact ((List.Perm.cons j hp).trans (List.perm_append_singleton j (ss.take i)).symm)
  · rintro σ H1 ⟨u, ks, rfl, g1, ⟨kvs, hk, hkt⟩, hp⟩
    rw [hat.lenm, List.take_length] at hp
    have hTk : TL H1 a0 (ks.map jl) := ⟨kvs, hk, hkt⟩
    have hkl : ks.length ≤ 100 := by rw [hp.length_eq]; exact hsl
    have lk : kvs.length = ks.length := hkt.lenm
    refine ⟨_, rfl, _, rfl, _, rfl, f, 3, rfl, g1.fd, by decide, by decide, fun t H2 ht g2 => ?_⟩
    have hk2 := g2.kp _ _ (TL.ne hTk g1.fd) hk
    have hkt2 := hkt.keep (g2.tk g1.fd)
    refine ⟨_, rfl, a0, kvs, rfl, .inl (.inl hk2), fun p hp2 => ?_⟩
    have sp := Same.new (o := HO.lst (cutV kvs none (some (t : Int)))) hp2
    refine ⟨a0, p, kvs, _, rfl, rfl, sp _ _ hk2, upd_same, ?_, fun l hl => ?_⟩
    · rw [cut0, List.length_take, sizeLine_eq]; omega
    · have sl := Same.new (o := HO.lst (kvs ++ cutV kvs none (some (t : Int)))) hl
      refine q l (ks ++ ks.take (min t kvs.length)) _ ((g1.trans g2).trans (Go.of g2.fd (sp.trans sl))) ((g1.trans g2).none (none_of sp hl)) ⟨_, upd_same, ?_⟩ (fun j => ?_) ?_
      · rw [cut0, List.map_append, List.map_take]
        exact TpAll.app (hkt2.keep (Same.tk (sp.trans sl))) ((hkt2.take _).keep (Same.tk (sp.trans sl)))
      · rw [List.mem_append]
        constructor
        · rintro (h | h)
          · exact hp.mem_iff.mp h
          · exact hp.mem_iff.mp (List.mem_of_mem_take h)
        · exact fun h => .inl (hp.mem_iff.mpr h)
      · rw [List.length_append, List.length_take]; omega
/-! ### _law_lacking -/
def sp_lacking : Sp := fun vs H Q _ => ∃ (f a : Addr) (n : Nat) (rows : List J), vs = [.ref f, .int (n : Int), .ref a] ∧ Fd H f ∧ TL H a (rows.map jl) ∧ Val n rows ∧ n ≤ 40 ∧
  ∀ (v : V) (j : J) H', Go f H H' → Tp H' v (jl j) → (j ∉ rows ∧ j.1 ≤ n ∧ j.2 ≤ n) → Q v H'
theorem sc_lacking : FnScope ["_law_feed_here", "_law_blocks", "_law_rows_here", "_law_found", "_law_u", "_law_v"] ["_law_feed_here", "_law_blocks", "_law_rows_here"] (defScope s_law_lacking) := ⟨rfl, rfl, rfl, by decide +kernel, rfl, by decide +kernel, by decide +kernel⟩
theorem ok_lacking (T : Tx K mg) : Ok P w K mg base CX0 2 (He.ga K "_law_lacking") ["_law_feed_here", "_law_blocks", "_law_rows_here"] sp_lacking := by
  refine ok_of (d := d_law_lacking) T (fnAt1 (i := 5) rfl) rfl rfl sc_lacking (fun vs H Q E h => ?_) (fun _ _ _ _ _ _ us hl => match us, hl with | [_, _, _], _ => rfl) fun cdv A outer s H vs Q E hr h => ?_
  · obtain ⟨_, _, _, _, rfl, _⟩ := h; rfl
  obtain ⟨f, a, n, rows, rfl, hf, ⟨vs, hvs, hT⟩, hval, hn, q⟩ := h
  refine ⟨_, PSs.nox (pss_cons (ps_set (i := 3) sc_lacking.nd rfl (.inl rfl) (pe_lst (pa_cons (pe_tup (pa_cons pe_int (pa_cons (pv 1) pa_nil))) pa_nil)))
    (pss_cons (ps_for PassesOwn.never rfl (pi_range1 (by rfl) (T.free 5) (pa_cons (pv 1) pa_nil)) (pg_name (i := 4) sc_lacking.nd rfl (.inr rfl))
      (pss_one (ps_set (i := 3) sc_lacking.nd rfl (.inl rfl) (pe_op op_cat (pv 3) (pe_lc (own := [("_law_v", 5)]) (g := gName 5) rfl sc_lacking.nd (pi_range2 (by rfl) (T.free 5) (pa_cons (pe_op op_add (pv 4) pe_int) (pa_cons (pv 1) pa_nil))) (blkOk_by (N := ["_law_feed_here", "_law_blocks", "_law_rows_here", "_law_found", "_law_u", "_law_v"]) (sc := defScope s_law_lacking) (by decide +kernel))
        (fun _ _ _ _ _ => pg_name (i := 5) sc_lacking.nd rfl (Or.inl rfl)) (fun _ _ _ _ _ => pts_one (pt_cmpR (r := rNotInD K) (op_notInD (ru hr)) (pe_tup (pa_cons (pv 4) (pa_cons (pv 5) pa_nil))) (pv 2) rfl)) (fun _ _ _ _ _ => pe_tup (pa_cons (pv 4) (pa_cons (pv 5) pa_nil))))))))
    (pss_one (ps_ret (pe_ifExp (pt_cmpR op_eq (pe_callB call_len_seq (by rfl) (T.free 0) boot_len (pa_cons (pv 3) pa_nil)) pe_int (nomark _)) (pe_ix ix_list (pv 3) pe_int (fun _ _ => rfl))
      (pe_ix ix_list (pv 3) (pe_op op_add pe_int (pc (ok_take T) hr (T.glo 10) pass0 (pa_cons (pv 0) (pa_cons (pe_op op_sub (pe_callB call_len_seq (by rfl) (T.free 0) boot_len (pa_cons (pv 3) pa_nil)) pe_int) pa_nil)))) (fun _ _ => rfl))))))), ?_⟩
  refine ⟨_, rfl, show 2 ≤ sizeLine by decide, fun p0 hp0 => ⟨show 1 ≤ sizeLine by decide, fun a0 ha0 => ?_⟩⟩
  have s1 := Same.new (o := HO.tup [V.int 0, V.int (n : Int)]) hp0
  have s2 := Same.new (o := HO.lst [V.ref p0]) ha0
  have s12 := s1.trans s2
  refine ⟨_, rfl, _, rfl, by omega, by omega, for_range (fun i σ H' => ∃ (b : Addr) (u v : Option V) (ks : List J), σ = [some (.ref f), some (.int (n : Int)), some (.ref a), some (.ref b), u, v] ∧ Same H H' ∧ TL H' b (ks.map jl) ∧ (∀ j ∈ ks, j ∉ rows ∧ j.1 ≤ n ∧ j.2 ≤ n) ∧ 1 ≤ ks.length ∧ ks.length ≤ 1 + i * n)
    ⟨a0, none, none, [(0, n)], rfl, s12, ⟨_, upd_same, ⟨p0, rfl, s2 _ _ upd_same⟩, trivial⟩, fun j hj => ?_, Nat.le_refl _, (by simp)⟩ ?_ ?_⟩
  · rw [List.mem_singleton.mp hj]
    exact ⟨fun hin => absurd (hval _ hin).2 (Nat.lt_irrefl n), Nat.zero_le _, Nat.le_refl _⟩
  · rintro i σ H1 hi ⟨b, u, v, ks, rfl, k1, ⟨bvs, hb, hbt⟩, hno, hk1, hk2⟩
    have hin : i < n := by omega
    have e0 : ((0 : Int) + (i : Int)) = (i : Int) := by omega
    rw [e0]
    refine ⟨_, rfl, _, rfl, _, _, rfl, rfl, _, rfl, _, _, rfl, ⟨by omega, by omega, by omega, by omega⟩, fun D hD => ?_⟩
    have hc : ((n : Int) - ((i : Int) + 1)).toNat = n - (i + 1) := by omega
    show ∃ W : Nat → Nat → Hp → Prop, _
    rw [hc]
    have hva := k1 _ _ hvs
    refine lc_rangeK No (fun _ => True) (fun m acc H' => ∃ ls : List J, TpAll H' acc (ls.map jl) ∧ (∀ j ∈ ls, j ∉ rows ∧ j.1 ≤ n ∧ j.2 ≤ n) ∧ ls.length ≤ m) hD (small1000 (by omega)) trivial (fun _ _ _ => trivial) ⟨[], trivial, fun j hj => (by cases hj), Nat.le_refl _⟩ ?_ ?_
    · rintro m hm acc H' Ny Nn k _ eD ⟨ls, hP, hlno, hll⟩ hy hnn
      have e1 : ((i : Int) + 1 + (m : Int)) = ((i + 1 + m : Nat) : Int) := by omega
      refine ⟨rfl, _, rfl, _, rfl, show 2 ≤ sizeLine by decide, fun t ht => ?_⟩
      have st := Same.new (o := HO.tup [V.int (i : Int), V.int ((i : Int) + 1 + (m : Int))]) ht
      have hpt : Tp (upd H' t (.tup [V.int (i : Int), V.int ((i : Int) + 1 + (m : Int))])) (.ref t) (jl (i, i + 1 + m)) := ⟨t, rfl, by rw [upd_same]; exact congrArg (fun z => some (HO.tup [V.int (i : Int), V.int z])) e1⟩
      have skt := k.same.trans st
      have eDt := st _ _ eD
      refine ⟨_, rfl, td (jl (i, i + 1 + m)), _, hpt.dp, TL.dp (qs := rows.map jl) ⟨vs, skt _ _ hva, hT.keep (Same.tk (k1.trans skt))⟩, shaped_td _, shaped_tds _, _, rfl, ?_⟩
      rw [any_td]
      by_cases hjin : (i, i + 1 + m) ∈ rows
      · rw [decide_eq_true (mem_map_jl.mpr hjin)]
        exact iteF (hnn _ eDt (k.trans (Same.kp st)) trivial ⟨ls, hP.keep (Same.tk st), hlno, by omega⟩)
      · rw [decide_eq_false (fun z => hjin (mem_map_jl.mp z))]
        refine iteT ⟨_, rfl, _, rfl, show 2 ≤ sizeLine by decide, fun t2 ht2 => ?_⟩
        have st2 := Same.new (o := HO.tup [V.int (i : Int), V.int ((i : Int) + 1 + (m : Int))]) ht2
        have hpt2 : Tp (upd (upd H' t (.tup [V.int (i : Int), V.int ((i : Int) + 1 + (m : Int))])) t2 (.tup [V.int (i : Int), V.int ((i : Int) + 1 + (m : Int))])) (.ref t2) (jl (i, i + 1 + m)) := ⟨t2, rfl, by rw [upd_same]; exact congrArg (fun z => some (HO.tup [V.int (i : Int), V.int z])) e1⟩
        have eD2 := st2 _ _ eDt
        refine hy _ _ eD2 (k.trans (Same.kp (st.trans st2))) trivial ⟨ls ++ [(i, i + 1 + m)], ?_, fun j hj => ?_, by rw [List.length_append, List.length_singleton]; omega⟩
        · rw [List.map_append]
          have kk := Tk.updL (l' := acc ++ [V.ref t2]) eD2
          exact TpAll.app ((hP.keep (Same.tk (st.trans st2))).keep kk) ⟨hpt2.keep kk, trivial⟩
        · rcases List.mem_append.mp hj with z | z
          · exact hlno j z
          · rw [List.mem_singleton.mp z]; exact ⟨hjin, by show i ≤ n; omega, by show i + 1 + m ≤ n; omega⟩
    · rintro acc H' k _ eD ⟨ls, hP, hlno, hll⟩
      have hb' := k.same _ _ hb
      have hnn : i * n ≤ 40 * 40 := Nat.mul_le_mul (by omega) hn
      have l1 : bvs.length ≤ 2000 := by rw [hbt.lenm]; omega
      have l2 : acc.length ≤ 40 := by rw [hP.lenm]; omega
      refine ⟨b, D, bvs, acc, rfl, rfl, hb', eD, by rw [sizeLine_eq]; omega, fun p hp => ?_⟩
      have sp := Same.new (o := HO.lst (bvs ++ acc)) hp
      refine ⟨p, _, _, ks ++ ls, rfl, (k1.trans k.same).trans sp, ⟨_, upd_same, ?_⟩, fun j hj => ?_, by rw [List.length_append]; omega, ?_⟩
      · rw [List.map_append]
        exact TpAll.app ((hbt.keep (Same.tk k.same)).keep (Same.tk sp)) (hP.keep (Same.tk sp))
      · rcases List.mem_append.mp hj with z | z
        · exact hno j z
        · exact hlno j z
      · rw [List.length_append, Nat.succ_mul]; omega
  · rintro σ H1 ⟨b, u, v, ks, rfl, k1, ⟨bvs, hb, hbt⟩, hno, hk1, hk2⟩
    have e : ((n : Int)).toNat = n := by omega
    rw [e] at hk2
    have hnn : n * n ≤ 40 * 40 := Nat.mul_le_mul hn hn
    have lb : bvs.length = ks.length := hbt.lenm
    have fd1 := hf.same k1
    refine ⟨_, rfl, b, _, rfl, .inl (.inl (.inl hb)), rfl, _, rfl, ?_⟩
    refine ite2 (fun hb2 => ?_) fun hb2 => ?_
    · have h0 : 0 < bvs.length := by omega
      obtain ⟨j, ej, pj, e1, hpj⟩ := hbt.item (List.getElem?_eq_getElem h0)
      exact ⟨_, rfl, b, bvs, 0, _, rfl, rfl, .inl (.inl hb), atI_nat (j := 0) (List.getElem?_eq_getElem h0), q _ j _ (Go.of hf k1) ⟨pj, e1, hpj⟩ (hno j (List.mem_of_getElem? ej))⟩
    · have hne : bvs.length ≠ 1 := fun z => by
        rw [z] at hb2
        exact hb2 (by decide)
      have e3 : ((bvs.length : Int) - 1) = ((ks.length - 1 : Nat) : Int) := by omega
      refine ⟨_, rfl, _, rfl, _, rfl, b, _, rfl, .inl (.inl (.inl hb)), _, _, rfl, rfl, f, ks.length - 1, (show [V.ref f, V.int ((bvs.length : Int) - 1)] = _ by rw [e3]), fd1, by omega, by omega, fun t H2 ht g2 => ?_⟩
      have hb3 := g2.kp _ _ (TL.ne ⟨bvs, hb, hbt⟩ fd1) hb
      have h0 : 1 + t < bvs.length := by omega
      have e4 : ((1 : Int) + (t : Int)) = ((1 + t : Nat) : Int) := by omega
      obtain ⟨j, ej, pj, e1, hpj⟩ := (hbt.keep (g2.tk fd1)).item (List.getElem?_eq_getElem h0)
      refine ⟨_, _, rfl, rfl, b, bvs, _, _, rfl, rfl, .inl (.inl hb3), ?_, q _ j _ ((Go.of hf k1).trans g2) ⟨pj, e1, hpj⟩ (hno j (List.mem_of_getElem? ej))⟩
      rw [e4]
      exact atI_nat (List.getElem?_eq_getElem h0)
end
end Rl

set_option Elab.async false
set_option linter.all false
set_option maxRecDepth 100000
set_option maxHeartbeats 2000000
/-! D25: _law_other_rows. -/
namespace Rl
open PySem PySem.Spec PyProof.Rows L2
section
variable {P : Program} {w : World} {K : PySem.W.Frag} {mg : Str → Option Value} {base : Heap}
def sp_orows : Sp := fun vs H Q _ => ∃ (f a : Addr) (n : Nat) (rows : List J), vs = [.ref f, .int (n : Int), .ref a] ∧ Fd H f ∧ TL H a (rows.map jl) ∧ Val n rows ∧ rows.Nodup ∧ 2 ≤ n ∧ n ≤ 10 ∧
  ∀ (l : Addr) (js : List J) H', Go f H H' → TL H' l (js.map jl) → Val n js → js.Nodup → (∃ j, ¬ (j ∈ js ↔ j ∈ rows)) → Q (.ref l) H'
theorem sc_orows : FnScope ["_law_feed_here", "_law_blocks", "_law_rows_here", "_law_jump", "_law_one"] ["_law_feed_here", "_law_blocks", "_law_rows_here"] (defScope s_law_other_rows) := ⟨rfl, rfl, rfl, by decide +kernel, rfl, by decide +kernel, by decide +kernel⟩
theorem ok_orows (T : Tx K mg) : Ok P w K mg base CX0 3 (He.ga K "_law_other_rows") ["_law_feed_here", "_law_blocks", "_law_rows_here"] sp_orows := by
  refine ok_of (d := d_law_other_rows) T (fnAt1 (i := 11) rfl) rfl rfl sc_orows (fun vs H Q E h => ?_) (fun _ _ _ _ _ _ us hl => match us, hl with | [_, _, _], _ => rfl) fun cdv A outer s H vs Q E hr h => ?_
  · obtain ⟨_, _, _, _, rfl, _⟩ := h; rfl
  obtain ⟨f, a, n, rows, rfl, hf, hTa, hval, hnd, hn2, hn, q⟩ := h
  refine ⟨_, PSs.nox (pss_cons (ps_set (i := 3) sc_orows.nd rfl (.inr rfl) (pe_tup (pa_cons pe_int (pa_cons (pe_op op_sub (pv 1) pe_int) pa_nil))))
    (Evl.pss_cut (ps_if (PW.pt (pw_and (pt_cmpR op_eq (pc (ok_take T) (hr.mono (by decide)) (T.glo 10) pass0 (pa_cons (pv 0) (pa_cons pe_int pa_nil))) pe_int (nomark _)) (pw_and1 (pt_cmpR (op_neD (ru4 hr)) (pv 2) (pe_lst pa_nil) (nomark _)))))
      (pss_one (ps_set (i := 3) sc_orows.nd rfl (.inr rfl) (pc (ok_pick T) hr (T.glo 11) pass0 (pa_cons (pv 0) (pa_cons (pv 2) pa_nil))))) pss_nil)
    (pss_one (ps_ret (pe_ifExp (pt_cmpR (op_inD (ru hr)) (pv 3) (pv 2) rfl) (pe_lc (own := [("_law_one", 4)]) (g := gName 4) rfl sc_orows.nd (pi_list (pv 2)) (blkOk_by (N := ["_law_feed_here", "_law_blocks", "_law_rows_here", "_law_jump", "_law_one"]) (sc := defScope s_law_other_rows) (by decide +kernel))
        (fun _ _ _ _ _ => pg_name (i := 4) sc_orows.nd rfl (Or.inl rfl)) (fun _ _ _ _ _ => pts_one (pt_cmpR (r := rNeD K) (op_neD (ru4 hr)) (pv 4) (pv 3) (nomark _))) (fun _ _ _ _ _ => pv 4))
      (pe_op op_cat (pv 2) (pe_lst (pa_cons (pv 3) pa_nil)))))))), ?_⟩
  obtain ⟨avs, hav, hat⟩ := id hTa
  have hlen : rows.length ≤ 100 := by
    have h1 := val_len hnd hval
    have h2 : n * n ≤ 10 * 10 := Nat.mul_le_mul hn hn
    omega
  refine ⟨_, rfl, _, _, rfl, rfl, show 2 ≤ sizeLine by decide, fun t ht => ?_⟩
  have e1 : ((n : Int) - 1) = ((n - 1 : Nat) : Int) := by omega
  have st := Same.new (o := HO.tup [V.int 0, V.int ((n : Int) - 1)]) ht
  have hpt : Tp (upd H t (.tup [V.int 0, V.int ((n : Int) - 1)])) (.ref t) (jl (0, n - 1)) := ⟨t, rfl, by rw [upd_same]; exact congrArg (fun z => some (HO.tup [V.int 0, V.int z])) e1⟩
  have g0 := Go.of hf st
  refine ⟨fun σ' H' => ∃ (v : V) (j : J), σ' = [some (.ref f), some (.int (n : Int)), some (.ref a), some v, none] ∧ Go f H H' ∧ Tp H' v (jl j) ∧ j.1 < j.2 ∧ j.2 < n, ?_, ?_⟩
  · refine ⟨_, rfl, f, 2, rfl, g0.fd, by decide, by decide, fun t1 H1 ht1 g1 => ⟨rfl, _, rfl, ?_⟩⟩
    have g01 := g0.trans g1
    have base' : ∃ (v : V) (j : J), [some (V.ref f), some (.int (n : Int)), some (.ref a), some (.ref t), none] = [some (.ref f), some (.int (n : Int)), some (.ref a), some v, none] ∧ Go f H H1 ∧ Tp H1 v (jl j) ∧ j.1 < j.2 ∧ j.2 < n :=
      ⟨.ref t, (0, n - 1), rfl, g01, hpt.keep (g1.tk g0.fd), by show 0 < n - 1; omega, by show n - 1 < n; omega⟩
    refine ite2 (fun hb => ?_) fun hb => base'
    refine ⟨_, rfl, show 0 ≤ sizeLine from Nat.zero_le _, fun e he => ?_⟩
    have se := Same.new (o := HO.lst []) he
    have hTa1 := TL.go hf g01 hTa
    refine ⟨_, _, TL.dp (TL.same se hTa1), Dp.lst (ds := []) (.inl (.inl upd_same)) .nil, shaped_tds _, by decide, ?_⟩
    rw [eqv_nil]
    have g2 := g01.trans (Go.of g01.fd se)
    by_cases hr0 : rows.map jl = []
    · rw [decide_eq_true hr0]
      obtain ⟨v, j, e1, _, e3, e4⟩ := base'
      exact ⟨_, rfl, iteF ⟨v, j, e1, g2, e3.keep (Same.tk se), e4⟩⟩
    · rw [decide_eq_false hr0]
      obtain ⟨bvs, hb1, hbt⟩ := TL.same se hTa1
      have lb : bvs.length = rows.length := hbt.lenm
      have hpos : 1 ≤ rows.length := by
        cases rows with
        | nil => exact absurd rfl hr0
        | cons a l => simp
      refine ⟨_, rfl, iteT ⟨_, rfl, _, rfl, f, a, bvs, rfl, g2.fd, hb1, TL.ne (TL.same se hTa1) g2.fd, by omega, by omega, fun i x H3 hx g3 => ?_⟩⟩
      obtain ⟨j, ej, hj⟩ := hbt.item hx
      have hjv := hval j (List.mem_of_getElem? ej)
      exact ⟨x, j, rfl, g2.trans g3, hj.keep (g3.tk g2.fd), hjv⟩
  · rintro σ' H1 ⟨v, j, rfl, g1, hj, hjv⟩
    obtain ⟨bvs, hb1, hbt⟩ := TL.go hf g1 hTa
    have lb : bvs.length = rows.length := hbt.lenm
    refine ⟨_, rfl, _, rfl, td (jl j), _, hj.dp, TL.dp (qs := rows.map jl) ⟨bvs, hb1, hbt⟩, shaped_td _, shaped_tds _, _, rfl, ?_⟩
    rw [any_td]
    by_cases hin : j ∈ rows
    · rw [decide_eq_true (mem_map_jl.mpr hin)]
      refine iteT ⟨_, rfl, a, rfl, ⟨bvs, .inl (.inl hb1)⟩, fun D hD => ?_⟩
      refine lc_listK (K := K) (a := a) (xs := bvs) No (fun _ => True) (fun i acc H' => TpAll H' acc (((rows.take i).filter fun k => decide (k ≠ j)).map jl)) hD ?_ trivial (fun _ _ _ => trivial) trivial (fun H' k _ => .inl (.inl (k.same _ _ hb1))) ?_ ?_
      · rw [lb]; exact small1000 (by omega)
      · intro i xx hxx acc H' Ny Nn k _ eD hP hy hnn
        obtain ⟨m, em, pm, rfl, hpm⟩ := hbt.item hxx
        have hpm' := k.same _ _ hpm
        refine ⟨rfl, _, rfl, _, rfl, td (jl m), td (jl j), Tp.dp (q := jl m) ⟨pm, rfl, hpm'⟩, (hj.keep (Same.tk k.same)).dp, shaped_td _, shaped_td _, _, rfl, ?_⟩
        rw [eqv_td]
        by_cases e : m = j
        · rw [decide_eq_true (by rw [e] : jl m = jl j)]
          exact iteF (hnn _ eD k trivial (filt_no em (by simp [e]) hP))
        · rw [decide_eq_false (fun z => e (jl_inj z))]
          exact iteT ⟨_, rfl, hy _ _ eD k trivial (filt_yes em (by simp [e]) eD hP ⟨pm, rfl, hpm'⟩)⟩
      · intro acc H' k _ eD hP
        rw [lb, List.take_length] at hP
        refine q D _ H' (g1.trans (Go.of g1.fd k.same)) ⟨acc, eD, hP⟩ (fun m hm => hval m (List.mem_filter.mp hm).1) (hnd.filter _) ⟨j, fun h => ?_⟩
        have := (List.mem_filter.mp (h.mpr hin)).2
        simp at this
    · rw [decide_eq_false (fun z => hin (mem_map_jl.mp z))]
      refine iteF ⟨_, rfl, _, rfl, show 1 ≤ sizeLine by decide, fun l hl => ?_⟩
      have sl := Same.new (o := HO.lst [v]) hl
      refine ⟨a, l, bvs, _, rfl, rfl, sl _ _ hb1, upd_same, by rw [sizeLine_eq]; simp only [List.length_cons, List.length_nil]; omega, fun p hp => ?_⟩
      have sp := Same.new (o := HO.lst (bvs ++ [v])) hp
      refine q p (rows ++ [j]) _ (g1.trans (Go.of g1.fd (sl.trans sp))) ⟨_, upd_same, ?_⟩ (fun m hm => ?_) ?_ ⟨j, fun h => hin (h.mp (List.mem_append_right _ (List.mem_singleton.mpr rfl)))⟩
      · rw [List.map_append]
        exact TpAll.app (hbt.keep (Same.tk (sl.trans sp))) (show TpAll _ [v] [jl j] from ⟨hj.keep (Same.tk (sl.trans sp)), trivial⟩)
      · rcases List.mem_append.mp hm with z | z
        · exact hval m z
        · rw [List.mem_singleton.mp z]; exact hjv
      · rw [List.nodup_append]
        refine ⟨hnd, by simp, fun x hx y hy e => ?_⟩
        rw [List.mem_singleton.mp hy] at e
        exact hin (e ▸ hx)
end
end Rl

set_option Elab.async false
set_option linter.all false
set_option maxRecDepth 100000
set_option maxHeartbeats 2000000
/-! D26: repr; _law_run_by, _law_barred. -/
namespace Rl
open PySem PySem.Spec PyProof.Rows L2
/-- data whose repr is told -/
def Sm (d : PyData) : Prop := d.showable = true ∧ d.hasDict = false ∧ d.depth ≤ 8 ∧ d.shown.length ≤ 1000 ∧ PyData.strOk d.shown = true
section
variable {X : Cx}
theorem call_reprD (hg : X.A.guards = some []) (hu : X.A.units + 65 < cLine) : CallR X (.builtin "repr") (fun xs H Q => ∃ v d, xs = [v] ∧ Dp X.K H v d ∧ Sm d ∧ Q (.str d.shown) H) := by
  intro pins s σ H xs us Q I r h
  obtain ⟨v, d, rfl, hd, ⟨h1, h2, h3, h4, _⟩, q⟩ := h
  obtain ⟨u, rfl, rx⟩ := vals1 r
  have hz : d.shown.length ≤ sizeLine := by rw [sizeLine_eq]; omega
  have fin : ∀ x : Str, d.shown = x → EP X pins σ Q (.str x s.toks) { s with toks := s.toks + 1 } := fun x e => ⟨.str x, H, I.tok _, ⟨_, rfl⟩, e ▸ q⟩
  have big : ∀ a, u = .ref a → wpAny (model X.prog X.w) X.A (call (.builtin "repr") [.ref a]) (EP X pins σ Q) X.xe s := fun a ea => by
    subst ea
    obtain ⟨as, rd⟩ := Dp.reads I d v (.ref a) hd rx
    exact repr_of_reads' rd h1 (PySem.PyData.noDict_hsm h2) hg (by omega) (fun _ _ e => e) (fun h' u tk hk => ⟨.str d.shown, H, I.kept (t' := tk) hk, ⟨_, rfl⟩, q⟩) hz
  cases hd with
  | non =>
    cases rx
    exact PySem.P.repr_of_none (fin _ rfl)
  | bl b =>
    cases rx
    exact PySem.P.repr_of_bool (fin _ rfl)
  | int i =>
    obtain ⟨t, rfl⟩ := rx
    exact PySem.P.repr_of_int (by simpa [PyData.showable] using h1) (fin _ rfl)
  | str x =>
    obtain ⟨t, rfl⟩ := rx
    exact PySem.P.repr_of_str (fin _ rfl) hz
  | lst _ _ => cases rx; exact big _ rfl
  | tup _ _ => cases rx; exact big _ rfl
end
section
variable {P : Program} {w : World} {K : PySem.W.Frag} {mg : Str → Option Value} {base : Heap}
/-- a def run where no repr is under way -/
def FnRg (P : Program) (w : World) (K : PySem.W.Frag) (mg : Str → Option Value) (base : Heap) (CX : CXT) (k : Nat) (f : Addr) (sp : Sp) : Prop :=
  ∀ (A : Around) (outer : List Env) (s : Shared) (H : Hp) (us : List Value) (vs : List V) (Q : VK) (E : XK), Room k A → A.guards = some [] → Env0 P w K mg base A outer s H → Vals vs us → sp vs H Q E →
    codeAny (model P w) A (.call (.ref f) ⟨us, []⟩) (CR CX outer P w H s Q E) s
theorem fnrg_of {d : He.DefD} (T : Tx K mg) (hd : d ∈ fn) (h0 : d.dvs K = []) (h1 : d.kws K = []) {CX : CXT} {N ps : List Str} {k : Nat} {sp : Sp} (S : FnScope N ps d.scope) (len : ∀ vs H Q E, sp vs H Q E → vs.length = ps.length)
    (hb : ∀ (kV doc pm : Value) (an : Option Addr) (cdv ct : Value) (us : List Value), us.length = ps.length → bindArgs (PySem.W.fnOf d.name d.qual d.params d.body d.scope .none kV doc pm an cdv ct) ⟨us, []⟩ = pure (ps.zip us))
    (hbody : ∀ (cdv : Value) (A : Around) (outer : List Env) (s : Shared) (H : Hp) (vs : List V) (Q : VK) (E : XK), Room k (A.deeper (envOfC d.qual d.scope s.heap.objs.size (He.fAd K d.at_) cdv)) → A.guards = some [] → sp vs H Q E →
      ∃ t, PSs (cxOf CX P w K mg base N d.qual d.scope (He.fAd K d.at_) cdv A outer s H E) d.body t ∧ t { nx := fun _ H' => Q .non H', rt := Q } (start N vs) H) : FnRg P w K mg base CX (k + 1) (He.fAd K d.at_) sp := by
  obtain ⟨fd, F⟩ := T.def_ hd
  have F' : FunD K d.name d.qual d.params d.body d.scope [] (d.kws K) (He.fAd K d.at_) fd := by
    have q : FunD K d.name d.qual d.params d.body d.scope (d.dvs K) (d.kws K) (He.fAd K d.at_) fd := F
    rw [h0] at q; exact q
  have hB := F'.bindsN hb
  obtain ⟨oc, od, dV, kV, doc, pm, an, cdv, ct, osl, rfl, lk, hcd, _, _⟩ := F.ex
  intro A outer s H us vs Q E hr hg e0 r hsp
  have hl := len _ _ _ _ hsp
  have hlu : us.length = ps.length := by rw [← r.length]; exact hl
  have KX : K.In s.heap := e0.mod.kin.keeps fun b o e => (e0.bs b o e).1
  refine StX.run_bnd lk hcd S hr e0 (G := fun xs H2 => xs = vs ∧ H2 = H) (fun A' Ex Q' h => ?_) fun s2 H2 xs g hr' => ?_
  · have hb2 := hB s us KX (by rw [List.append_nil]; exact hlu)
    rw [List.append_nil] at hb2
    exact hb2 _ _ _ _ (h s H vs us e0 (Un.refl ..) rfl (fun _ _ z => z) r hl ⟨rfl, rfl⟩)
  · obtain ⟨rfl, rfl⟩ := g
    exact hbody cdv A outer s2 _ _ Q E hr' hg hsp
end
section
variable {X : Cx} {CX : CXT} {k : Nat} {sp : Sp} {E : XK} {x : Str} {p pos : Pos} {e : Expr} {es : List Expr} {t : TA}
theorem pcg (F : FnRg X.prog X.w X.K X.mg X.base CX k (He.ga X.K x) sp) (hr : Room k X.A) (hgd : X.A.guards = some []) (hk : PySem.W.keepIn X.K (.ref (He.ga X.K x)) = true) (hm : X.mg x = some (.ref (He.ga X.K x))) (hx : Passes CX X E) (ha : PA X (e :: es) t) (hg : Gl X x := by rfl)
    (hdb : (x == ("__debug__" : Str)) = false := by decide) (he : starEach (e :: es) X.env = (false, eval e X.env) :: starEach es X.env := by rfl) (hpl : (backTo pos (starEach es X.env)).any (·.1) = false := by rfl) :
    PE X (.Call (.Name x p) (e :: es) [] pos) (fun σ H Q => t σ H fun vs H1 => sp vs H1 Q E) := by
  refine ⟨fun pins s σ H Q I h => ?_⟩
  refine wpAny_Call_Name_kw (ld_glob I hg hm ?_ hdb)
  refine PySem.W.callWith_K (h₀ := X.base) I.ok.mod.kin hk (thn (ha.run pos pins s σ H _ I h) fun us s1 ⟨vs, H1, I1, r, q⟩ => ⟨I1.kIn, ?_⟩) he hpl
  refine wpAny_call (codeAny_mono (F X.A X.stack s1 H1 us vs Q E hr hgd I1.env0 r q) fun r s' hq => ?_)
  cases r with
  | error e => exact hx pins σ H1 s1 e s' I1 hq
  | ok fl =>
    cases fl with
    | ret u =>
      obtain ⟨z, H', I', rz, q⟩ := I1.after hq
      exact ⟨z, H', I', rz, q⟩
    | next => exact False.elim hq
    | brk => exact False.elim hq
    | cont => exact False.elim hq
end
end Rl

set_option Elab.async false
set_option linter.all false
set_option maxRecDepth 100000
set_option maxHeartbeats 2000000
/-! D27: _law_run_by, _law_barred. -/
namespace Rl
open PySem PySem.Spec PyProof.Rows L2
section
variable {P : Program} {w : World} {K : PySem.W.Frag} {mg : Str → Option Value} {base : Heap}
def sp_runby (K : PySem.W.Frag) : Sp := fun vs H Q _ => ∃ (o : Addr) (v : V) (d : PyData) (n : Nat) (js al us : List J), vs = [.ref o, v] ∧ PtAt K H o n js al us ∧ Dp K H v d ∧ Sm d ∧ (jumpD d (n : Int) = false ∨ ∃ j : J, Tp H v (jl j) ∧ j ∉ js) ∧
  ∀ p H', Same H H' → H' p = some (.tup [.str "none", .str d.shown]) → Q (.ref p) H'
theorem sc_runby : FnScope ["_law_part_here", "_law_jump", "e"] ["_law_part_here", "_law_jump"] (defScope s_law_run_by) := ⟨rfl, rfl, rfl, by decide +kernel, rfl, by decide +kernel, by decide +kernel⟩
theorem ok_runby (T : Tx K mg) : FnRg P w K mg base (L2.CX P w) 7 (He.ga K "_law_run_by") (sp_runby K) := by
  refine fnrg_of (d := d_law_run_by) T (fnAt1 (i := 6) rfl) rfl rfl sc_runby (fun vs H Q E h => ?_) (fun _ _ _ _ _ _ us hl => match us, hl with | [_, _], _ => rfl) fun cdv A outer s H vs Q E hr hgd h => ?_
  · obtain ⟨_, _, _, _, _, _, _, rfl, _⟩ := h; rfl
  obtain ⟨o, v, d, n, js, al, us, rfl, ho, hd, hsm, hbad, q⟩ := h
  refine ⟨_, (pss_one (ps_try_as (X := cxOf (L2.CX P w) P w K mg base ["_law_part_here", "_law_jump", "e"] d_law_run_by.qual d_law_run_by.scope (He.fAd K d_law_run_by.at_) cdv A outer s H E) (x := "NoJump") (n := "e") (i := 2) (c := .ref (cN K)) (tb := fun W => tRet (tMethS (cP K) "kept_run_by" (sp_krb K) (WE W) (tVar 0) (tCons (tVar 1) tNil)))
      (ts := fun a cls d => tRet (tTup (tCons (tC (.str "none")) (tCons (tCB (fun xs H Q => ∃ v d, xs = [v] ∧ Dp K H v d ∧ Sm d ∧ Q (.str d.shown) H) (tCons (tXf a cls d (cN K) "jump" (tVar 2)) tNil)) tNil)))) rfl rfl sc_runby.nd rfl rfl ⟨rfl, by decide, .inl (T.glo 30)⟩ (takes_of rfl rfl rfl rfl)
      (fun W pn xe tk hp => pss_one (ps_ret (pmS (pv 0) T.pt (T.mP 2) (ok_krb T) hr (fun σ => passAt tk σ) (pa_cons (pv 1) pa_nil))))
      (fun a oe cls d pn hz hf => pss_one (ps_ret (pe_tup (pa_cons pe_str (pa_cons (pe_callB (call_reprD hgd (have z := ru hr; z)) (by rfl) (T.free 14) (by decide +kernel) (pa_cons (pe_xf T.oex.2.2.2.2 T.oex.2.1 hz hf (pv 2)) pa_nil)) pa_nil))))))), ?_⟩
  obtain ⟨dx, rr, dd, l, h1, h2⟩ := id ho
  refine ⟨_, rfl, o, dx, _, rfl, h1, rfl, _, rfl, o, v, n, js, al, us, rfl, ho, .inr ⟨hbad.elim (fun z => .inl ⟨d, hd, z⟩) .inr, fun dE H' sm hn hxd => ?_⟩⟩
  refine ⟨true, He.exm_ok (T.f2 8), fun _ a ha => ?_, fun z => by cases z⟩
  refine ⟨_, rfl, rfl, rfl, dE, _, v, rfl, hxd, rfl, ⟨v, d, rfl, dp_same sm hd, hsm, show 2 ≤ sizeLine by decide, fun p hp => ?_⟩⟩
  exact q p _ (sm.trans (Same.new hp)) upd_same
def sp_barred (K : PySem.W.Frag) : Sp := fun vs H Q _ => ∃ (o o' : Addr) (n n' : Nat) (js al us js' al' us' : List J), vs = [.ref o, .ref o'] ∧ PtAt K H o n js al us ∧ PtAt K H o' n' js' al' us' ∧ ¬ (n = n' ∧ js = js') ∧ ∀ H', Same H H' → Q (.bl true) H'
theorem sc_barred : FnScope ["_law_one", "_law_other"] ["_law_one", "_law_other"] (defScope s_law_barred) := ⟨rfl, rfl, rfl, by decide +kernel, rfl, by decide +kernel, by decide +kernel⟩
theorem ok_barred (T : Tx K mg) : Ok P w K mg base (L2.CX P w) 9 (He.ga K "_law_barred") ["_law_one", "_law_other"] (sp_barred K) := by
  refine okX_of (d := d_law_barred) T (fnAt1 (i := 7) rfl) rfl rfl sc_barred (fun vs H Q E h => ?_) (fun _ _ _ _ _ _ us hl => match us, hl with | [_, _], _ => rfl) fun cdv A outer s H vs Q E hr h => ?_
  · obtain ⟨_, _, _, _, _, _, _, _, _, _, rfl, _⟩ := h; rfl
  obtain ⟨o, o', n, n', js, al, us, js', al', us', rfl, ho, ho', hne, q⟩ := h
  refine ⟨_, (pss_one (ps_try_only (X := cxOf (L2.CX P w) P w K mg base ["_law_one", "_law_other"] d_law_barred.qual d_law_barred.scope (He.fAd K d_law_barred.at_) cdv A outer s H E) (x := "OtherRoutine") (c := .ref (cO K)) (tb := fun W => tRet (tOp rEq (tMethS (cP K) "not_in" (sp_notin K) (WE W) (tVar 0) (tCons (tVar 1) tNil)) (tC (.int 0))))
      (ts := fun a cls d => tRet (tC (.bl true))) rfl rfl ⟨rfl, by decide, .inl (T.glo 31)⟩ (takes_of rfl rfl rfl rfl)
      (fun W pn xe tk hp => pss_one (ps_ret (pe_cmpR op_eq (pmS (pv 0) T.pt (T.mP 3) (ok_notin T) hr (fun σ => passAt tk σ) (pa_cons (pv 1) pa_nil)) pe_int (nomark _))))
      (fun a oe cls d pn hz hf => pss_one (ps_ret pe_bl)))), ?_⟩
  obtain ⟨dx, rr, dd, l, h1, h2⟩ := id ho
  refine ⟨_, rfl, o, dx, _, rfl, h1, rfl, _, rfl, o, o', n, n', js, al, us, js', al', us', rfl, ho, ho', .inr ⟨hne, fun H' sm => ?_⟩⟩
  exact ⟨true, He.exm_ok (T.f2 9), fun _ a ha => q H' sm, fun z => by cases z⟩
end
end Rl

set_option Elab.async false
set_option linter.all false
set_option maxRecDepth 100000
set_option maxHeartbeats 2000000
/-! D28: _law_runs_by_right, _law_not_in_right. -/
namespace Rl
open PySem PySem.Spec PyProof.Rows L2
/-- what kept_run_by tells is right -/
def RB (n : Nat) (us rows : List J) (kept : List (List Nat)) : Prop := ∀ j ∈ rows, (runBy n us j = none → ∀ r ∈ kept, j ∉ steps r) ∧ ∀ r, runBy n us j = some r → r ∈ kept ∧ j ∈ steps r
/-- what not_in and <= tell is right -/
def NI (n : Nat) (us al' : List J) (kept more : List (List Nat)) : Prop := (notIn n us al' = none → (∀ r ∈ kept, r ∈ more) ∧ ∀ j ∈ us, j ∈ al') ∧ ∀ r, notIn n us al' = some r → (r ∈ kept ∧ r ∉ more) ∧ ¬ ∀ j ∈ us, j ∈ al'
section
variable {P : Program} {w : World} {K : PySem.W.Frag} {mg : Str → Option Value} {base : Heap}
def sp_rbr (K : PySem.W.Frag) : Sp := fun vs H Q _ => ∃ (o a b : Addr) (n : Nat) (rows al us : List J) (kept : List (List Nat)), vs = [.ref o, .ref a, .ref b] ∧ PtAt K H o n rows al us ∧ TL H a (rows.map jl) ∧ TL H b kept ∧ Us n us ∧ RB n us rows kept ∧ kept.length ≤ 1000000 ∧ (∀ r ∈ kept, r.length ≤ 1000) ∧
  ∀ H', Same H H' → Q (.bl true) H'
theorem sc_rbr : FnScope ["_law_part_here", "_law_rows_here", "_law_kept", "_law_jump", "_law_due", "_law_told", "_law_run_here"] ["_law_part_here", "_law_rows_here", "_law_kept"] (defScope s_law_runs_by_right) := ⟨rfl, rfl, rfl, by decide +kernel, rfl, by decide +kernel, by decide +kernel⟩
theorem ok_rbr (T : Tx K mg) : Ok P w K mg base CX0 8 (He.ga K "_law_runs_by_right") ["_law_part_here", "_law_rows_here", "_law_kept"] (sp_rbr K) := by
  refine ok_of (d := d_law_runs_by_right) T (fnAt1 (i := 8) rfl) rfl rfl sc_rbr (fun vs H Q E h => ?_) (fun _ _ _ _ _ _ us hl => match us, hl with | [_, _, _], _ => rfl) fun cdv A outer s H vs Q E hr h => ?_
  · obtain ⟨_, _, _, _, _, _, _, _, rfl, _⟩ := h; rfl
  obtain ⟨o, a, b, n, rows, al, us, kept, rfl, ho, hTa, hTb, hus, hRB, hkl, hks, q⟩ := h
  refine ⟨_, PSs.nox (pss_cons (ps_for PassesOwn.never rfl (pi_list (pv 1)) (pg_name (i := 3) sc_rbr.nd rfl (.inr rfl))
      (pss_cons (ps_setLc (i := 4) (own := [("_law_run_here", 6)]) (g := gName 6) rfl sc_rbr.nd rfl rfl (by rfl) (pi_list (pv 2)) (blkOk_by (N := ["_law_part_here", "_law_rows_here", "_law_kept", "_law_jump", "_law_due", "_law_told", "_law_run_here"]) (sc := defScope s_law_runs_by_right) (by decide +kernel))
        (fun _ _ _ _ _ => pg_name (i := 6) sc_rbr.nd rfl (Or.inl rfl)) (fun _ _ _ _ _ => pts_one (pt_cmpR (r := rInD K) (op_inD (ru hr)) (pv 3) (pc (ok_steps T) (hr.mono (by decide)) (T.glo 12) pass0 (pa_cons (pv 6) pa_nil)) rfl)) (fun _ _ _ _ _ => pv 6))
      (pss_cons (ps_set (i := 5) sc_rbr.nd rfl (.inl rfl) (pm (pv 0) T.pt (T.mP 2) (ok_krb T) (hr.mono (by decide)) passL (pa_cons (pv 3) pa_nil)))
      (pss_cons (ps_if (pt_cmpR op_ne (pe_cmpR op_isN (pv 5) pe_non rfl) (pe_cmpR (op_eqD (ru4 hr)) (pv 4) (pe_lst pa_nil) (nomark _)) (nomark _)) (pss_one (ps_ret pe_bl)) pss_nil)
      (pss_one (ps_if (PW.pt (pw_and (pt_cmpR op_notN (pv 5) pe_non rfl) (pw_and1 (PW.pt (pw_or (pt_not (pt_val (pe_callB call_isi (by rfl) (T.free 6) (by decide +kernel) (pa_cons (pv 5) (pa_cons (pe_bltn (v := .ty "tuple") (by rfl) (T.free 7) (by decide +kernel) rfl) pa_nil)))))
        (pw_or1 (pt_cmpR (op_notInD (ru hr)) (pv 5) (pv 4) rfl))))))) (pss_one (ps_ret pe_bl)) pss_nil))))))
    (pss_one (ps_ret pe_bl))), ?_⟩
  obtain ⟨avs, hav, hat⟩ := id hTa
  obtain ⟨bvs, hbv, hbt⟩ := id hTb
  have lb : bvs.length = kept.length := hbt.len
  refine ⟨_, rfl, a, rfl, ⟨avs, .inl (.inl hav)⟩, for_list (K := K) (a := a) (xs := avs) (fun i σ H' => ∃ j4 j5 j6, σ = [some (.ref o), some (.ref a), some (.ref b), j4, j5, j6, none] ∧ Same H H') ⟨none, none, none, rfl, Same.refl H⟩ (fun i σ H' _ ⟨_, _, _, _, k⟩ => .inl (.inl (k _ _ hav))) ?_ ?_⟩
  · rintro i x σ H1 hx ⟨j4, j5, j6, rfl, k1⟩
    obtain ⟨j, ej, pj, rfl, hpj⟩ := hat.item hx
    have hjr : j ∈ rows := List.mem_of_getElem? ej
    obtain ⟨RB1, RB2⟩ := hRB j hjr
    have hpj1 := k1 _ _ hpj
    -- due
    refine ⟨_, rfl, b, rfl, ⟨bvs, .inl (.inl (k1 _ _ hbv))⟩, fun D hD => ?_⟩
    refine lc_listK (K := K) (a := b) (xs := bvs) No (fun _ => True) (fun i acc H' => TpAll H' acc ((kept.take i).filter fun r => decide (j ∈ steps r))) hD ?_ trivial (fun _ _ _ => trivial) trivial (fun H' k _ => .inl (.inl (k.same _ _ (k1 _ _ hbv)))) ?_ ?_
    · rw [lb, sizeLine_eq]; omega
    · intro ix xx hxx acc H' Ny Nn k _ eD hP hy hnn
      obtain ⟨r, er, pr, rfl, hpr⟩ := hbt.get hxx
      have ks := k1.trans k.same
      have hpr' := ks _ _ hpr
      refine ⟨rfl, _, rfl, _, rfl, _, r, rfl, ⟨pr, rfl, hpr'⟩, hks r (List.mem_of_getElem? er), fun l H2 sm2 hn2 hT2 => ?_⟩
      have eD2 := sm2 _ _ eD
      have et : (kept.take (ix + 1)).filter (fun r => decide (j ∈ steps r)) = (kept.take ix).filter (fun r => decide (j ∈ steps r)) ++ if j ∈ steps r then [r] else [] := by
        rw [List.take_add_one, er, List.filter_append]
        by_cases e : j ∈ steps r <;> simp [e]
      refine ⟨td (jl j), _, Tp.dp (q := jl j) ⟨pj, rfl, sm2 _ _ (ks _ _ hpj)⟩, hT2.dp, shaped_td _, shaped_tds _, _, rfl, ?_⟩
      rw [any_td]
      by_cases hin : j ∈ steps r
      · rw [decide_eq_true (mem_map_jl.mpr hin)]
        refine iteT ⟨_, rfl, hy _ _ eD2 (k.trans (Same.kp sm2)) trivial ?_⟩
        show TpAll _ _ ((kept.take (ix + 1)).filter fun r => decide (j ∈ steps r))
        rw [et, if_pos hin]
        have kk := Tk.updL (l' := acc ++ [V.ref pr]) eD2
        exact TpAll.app ((hP.keep (Same.tk sm2)).keep kk) ⟨⟨pr, rfl, kk _ _ (sm2 _ _ hpr')⟩, trivial⟩
      · rw [decide_eq_false (fun z => hin (mem_map_jl.mp z))]
        refine iteF (hnn _ eD2 (k.trans (Same.kp sm2)) trivial ?_)
        show TpAll _ _ ((kept.take (ix + 1)).filter fun r => decide (j ∈ steps r))
        rw [et, if_neg hin, List.append_nil]
        exact hP.keep (Same.tk sm2)
    intro acc H2 k _ eD hP
    rw [lb, List.take_length] at hP
    generalize hdue : (kept.filter fun r => decide (j ∈ steps r)) = due at hP
    have k2 := k1.trans k.same
    -- told
    obtain ⟨dx, rr, dd, l, g1, g2⟩ := id (ho.same k2)
    have dueE : ∀ H3, Same H2 H3 → Dp K H3 (.ref D) (.list (due.map td)) := fun H3 s => TL.dp ⟨acc, s _ _ eD, hP.keep (Same.tk s)⟩
    refine ⟨_, rfl, o, dx, _, rfl, g1, rfl, _, rfl, o, .ref pj, n, rows, al, us, rfl, ho.same k2, .inl ⟨j, ⟨pj, rfl, k2 _ _ hpj⟩, hjr, hus, fun H3 s3 e3 => ?_, fun H3 x r s3 e3 ht3 => ?_⟩⟩
    · have hdn : due = [] := by
        rw [← hdue, List.filter_eq_nil_iff]
        intro r hr
        simpa using RB1 e3 r hr
      refine ⟨_, rfl, rfl, _, rfl, show 0 ≤ sizeLine from Nat.zero_le _, fun e he => ?_⟩
      have se := Same.new (o := HO.lst []) he
      refine ⟨_, _, dueE _ (s3.trans se), Dp.lst (ds := []) (.inl (.inl upd_same)) .nil, shaped_tds _, by decide, rfl, ?_⟩
      rw [eqv_nil, decide_eq_true hdn]
      refine ⟨_, rfl, iteF ⟨_, rfl, rfl, _, rfl, iteF ⟨_, _, _, rfl, (k2.trans s3).trans se⟩⟩⟩
    · have hrk := RB2 r e3
      have hrd : r ∈ due := by
        rw [← hdue]
        exact List.mem_filter.mpr ⟨hrk.1, decide_eq_true hrk.2⟩
      have hdn : ¬ due = [] := fun z => by rw [z] at hrd; cases hrd
      obtain ⟨px, rfl, hpx⟩ := ht3
      refine ⟨_, rfl, rfl, _, rfl, show 0 ≤ sizeLine from Nat.zero_le _, fun e he => ?_⟩
      have se := Same.new (o := HO.lst []) he
      refine ⟨_, _, dueE _ (s3.trans se), Dp.lst (ds := []) (.inl (.inl upd_same)) .nil, shaped_tds _, by decide, rfl, ?_⟩
      rw [eqv_nil, decide_eq_false hdn]
      refine ⟨_, rfl, iteF ⟨_, rfl, rfl, _, rfl, ?_⟩⟩
      have tpx : SqT K (upd H3 e (.lst [])) px (It r) := .inl (.inl (se _ _ hpx))
      refine ⟨_, rfl, .ref px, .ty "tuple", _, _, true, rfl, .ty _, .base (.tup (se _ _ hpx)), kit_ty (by decide +kernel), _, rfl, ?_⟩
      refine ⟨_, rfl, _, rfl, td r, _, Tp.dp (q := r) ⟨px, rfl, se _ _ hpx⟩, dueE _ (s3.trans se), shaped_td _, shaped_tds _, ?_⟩
      rw [any_td, decide_eq_true hrd]
      exact ⟨_, rfl, iteF ⟨_, _, _, rfl, (k2.trans s3).trans se⟩⟩
  · rintro σ H1 ⟨j4, j5, j6, rfl, k1⟩
    exact q H1 k1
end
end Rl

set_option Elab.async false
set_option linter.all false
set_option maxRecDepth 100000
set_option maxHeartbeats 2000000
/-! D29: _law_not_in_right. -/
namespace Rl
open PySem PySem.Spec PyProof.Rows L2
section
variable {P : Program} {w : World} {K : PySem.W.Frag} {mg : Str → Option Value} {base : Heap}
def sp_nir (K : PySem.W.Frag) : Sp := fun vs H Q _ => ∃ (o o' a b : Addr) (n : Nat) (rows al us al' us' : List J) (kept more : List (List Nat)), vs = [.ref o, .ref o', .ref a, .ref b] ∧ PtAt K H o n rows al us ∧ PtAt K H o' n rows al' us' ∧ TL H a kept ∧ TL H b more ∧ Us n us ∧ (∀ j ∈ us, j ∈ rows) ∧ NI n us al' kept more ∧ kept.length ≤ 1000000 ∧
  ∀ H', Same H H' → Q (.bl true) H'
theorem sc_nir : FnScope ["_law_one", "_law_other", "_law_kept", "_law_more", "_law_told", "_law_due", "_law_run_here"] ["_law_one", "_law_other", "_law_kept", "_law_more"] (defScope s_law_not_in_right) := ⟨rfl, rfl, rfl, by decide +kernel, rfl, by decide +kernel, by decide +kernel⟩
theorem ok_nir (T : Tx K mg) : Ok P w K mg base CX0 10 (He.ga K "_law_not_in_right") ["_law_one", "_law_other", "_law_kept", "_law_more"] (sp_nir K) := by
  refine ok_of (d := d_law_not_in_right) T (fnAt1 (i := 9) rfl) rfl rfl sc_nir (fun vs H Q E h => ?_) (fun _ _ _ _ _ _ us hl => match us, hl with | [_, _, _, _], _ => rfl) fun cdv A outer s H vs Q E hr h => ?_
  · obtain ⟨_, _, _, _, _, _, _, _, _, _, _, _, rfl, _⟩ := h; rfl
  obtain ⟨o, o', a, b, n, rows, al, us, al', us', kept, more, rfl, ho, ho', hTa, hTb, hus, husr, hNI, hkl, q⟩ := h
  refine ⟨_, PSs.nox (pss_cons (ps_par (i := 4) (j := 5) rfl sc_nir.nd rfl rfl (by decide) rfl rfl (pa_cons (pm (pv 0) T.pt (T.mP 3) (ok_notin T) (hr.mono (by decide)) passL (pa_cons (pv 1) pa_nil)) (pa_cons (pe_lc (own := [("_law_run_here", 6)]) (g := gName 6) rfl sc_nir.nd (pi_list (pv 2)) (blkOk_by (N := ["_law_one", "_law_other", "_law_kept", "_law_more", "_law_told", "_law_due", "_law_run_here"]) (sc := defScope s_law_not_in_right) (by decide +kernel))
        (fun _ _ _ _ _ => pg_name (i := 6) sc_nir.nd rfl (Or.inl rfl)) (fun _ _ _ _ _ => pts_one (pt_cmpR (r := rNotInD K) (op_notInD (ru hr)) (pv 6) (pv 3) rfl)) (fun _ _ _ _ _ => pv 6)) pa_nil)) (by rfl))
    (pss_cons (ps_if (pt_cmpR (op_eqD (ru4 hr)) (pv 5) (pe_lst pa_nil) (nomark _)) (pss_one (ps_ret (pe_and (pe_cmpR op_isN (pv 4) pe_non rfl) (pe_one (pe_cmpR (op_leO (ok_ple T) (hr.mono (by decide)) pass0 (T.mP 1)) (pv 0) (pv 1) (nomark _)))))) pss_nil)
    (pss_one (ps_ret (pe_and (pe_cmpR (op_inD (ru hr)) (pv 4) (pv 5) rfl) (pe_and (pe_callB call_isi (by rfl) (T.free 6) (by decide +kernel) (pa_cons (pv 4) (pa_cons (pe_bltn (v := .ty "tuple") (by rfl) (T.free 7) (by decide +kernel) rfl) pa_nil))) (pe_one (pe_not (pe_cmpR (op_leO (ok_ple T) (hr.mono (by decide)) pass0 (T.mP 1)) (pv 0) (pv 1) (nomark _)))))))))), ?_⟩
  obtain ⟨avs, hav, hat⟩ := id hTa
  have la : avs.length = kept.length := hat.len
  obtain ⟨dx, rr, dd, l, g1, g2⟩ := id ho
  obtain ⟨dx', rr', dd', l', g1', g2'⟩ := id ho'
  obtain ⟨NI1, NI2⟩ := hNI
  -- the runs that are kept by the one and not the other
  have due : ∀ (H1 : Hp) (R : V → Hp → Prop), Same H H1 → (∀ D H2, Same H1 H2 → TL H2 D (kept.filter fun r => decide (r ∉ more)) → R (.ref D) H2) → (tLc (iList K (tVar 2)) (gName 6) (tTest (tOp (rNotInD K) (tVar 6) (tVar 3))) (tVar 6) [6]) [some (.ref o), some (.ref o'), some (.ref a), some (.ref b), none, none, none] H1 R := by
    intro H1 R k1 hR
    refine ⟨_, rfl, a, rfl, ⟨avs, .inl (.inl (k1 _ _ hav))⟩, fun D hD => ?_⟩
    refine lc_listK (K := K) (a := a) (xs := avs) No (fun _ => True) (fun i acc H' => TpAll H' acc ((kept.take i).filter fun r => decide (r ∉ more))) hD ?_ trivial (fun _ _ _ => trivial) trivial (fun H' k _ => .inl (.inl (k.same _ _ (k1 _ _ hav)))) ?_ ?_
    · rw [la, sizeLine_eq]; omega
    · intro ix xx hxx acc H' Ny Nn k _ eD hP hy hnn
      obtain ⟨r, er, pr, rfl, hpr⟩ := hat.get hxx
      have ks := k1.trans k.same
      have hpr' := ks _ _ hpr
      have et : (kept.take (ix + 1)).filter (fun r => decide (r ∉ more)) = (kept.take ix).filter (fun r => decide (r ∉ more)) ++ if r ∈ more then [] else [r] := by
        rw [List.take_add_one, er, List.filter_append]
        by_cases e : r ∈ more <;> simp [e]
      refine ⟨rfl, _, rfl, _, rfl, td r, _, Tp.dp (q := r) ⟨pr, rfl, hpr'⟩, (TL.same ks hTb).dp, shaped_td _, shaped_tds _, _, rfl, ?_⟩
      rw [any_td]
      by_cases hin : r ∈ more
      · rw [decide_eq_true hin]
        refine iteF (hnn _ eD k trivial ?_)
        show TpAll _ _ ((kept.take (ix + 1)).filter fun r => decide (r ∉ more))
        rw [et, if_pos hin, List.append_nil]
        exact hP
      · rw [decide_eq_false hin]
        refine iteT ⟨_, rfl, hy _ _ eD k trivial ?_⟩
        show TpAll _ _ ((kept.take (ix + 1)).filter fun r => decide (r ∉ more))
        rw [et, if_neg hin]
        have kk := Tk.updL (l' := acc ++ [V.ref pr]) eD
        exact TpAll.app (hP.keep kk) ⟨⟨pr, rfl, kk _ _ hpr'⟩, trivial⟩
    · intro acc H' k _ eD hP
      rw [la, List.take_length] at hP
      exact hR D H' k.same ⟨acc, eD, hP⟩
  have hle : ∀ {H1 : Hp}, Same H H1 → ∀ {R : VK}, (∀ H2, Same H H2 → R (.bl (decide (∀ j ∈ us, j ∈ al'))) H2) → rLeO (cP K) (sp_ple K) E0 (.ref o) (.ref o') H1 R := by
    intro H1 k1 R hR
    refine ⟨o, o', dx, dx', _, _, rfl, rfl, k1 _ _ g1, k1 _ _ g1', o, o', n, n, rows, al, us, rows, al', us', rfl, ho.same k1, ho'.same k1, fun H2 s2 => ⟨_, rfl, ?_⟩⟩
    have e : leP n n rows rows us al' = decide (∀ j ∈ us, j ∈ al') := by
      unfold leP
      rw [decide_eq_true (⟨rfl, rfl⟩ : n = n ∧ rows = rows), Bool.true_and]
    rw [e]
    exact hR H2 (k1.trans s2)
  refine ⟨_, rfl, o, dx, _, rfl, g1, rfl, _, rfl, o, o', n, n, rows, al, us, rows, al', us', rfl, ho, ho', .inl ⟨⟨rfl, rfl⟩, hus, husr, fun H1 s1 e1 => ?_, fun H1 x r s1 e1 ht => ?_⟩⟩
  · obtain ⟨m1, m2⟩ := NI1 e1
    refine due H1 _ s1 fun D H2 s2 hTD => ⟨_, _, rfl, _, rfl, show 0 ≤ sizeLine from Nat.zero_le _, fun e he => ?_⟩
    have se := Same.new (o := HO.lst []) he
    have sall := (s1.trans s2).trans se
    refine ⟨_, _, (TL.same se hTD).dp, Dp.lst (ds := []) (.inl (.inl upd_same)) .nil, shaped_tds _, by decide, ?_⟩
    have hnil : (kept.filter fun r => decide (r ∉ more)) = [] := by
      rw [List.filter_eq_nil_iff]
      intro r hr
      simpa using m1 r hr
    rw [eqv_nil, decide_eq_true hnil]
    refine ⟨_, rfl, iteT ⟨_, rfl, rfl, _, rfl, iteT ⟨_, rfl, _, rfl, hle sall fun H3 s3 => ?_⟩⟩⟩
    rw [decide_eq_true m2]
    exact q H3 s3
  · obtain ⟨⟨m1, m2⟩, m3⟩ := NI2 r e1
    obtain ⟨px, rfl, hpx⟩ := ht
    refine due H1 _ s1 fun D H2 s2 hTD => ⟨_, _, rfl, _, rfl, show 0 ≤ sizeLine from Nat.zero_le _, fun e he => ?_⟩
    have se := Same.new (o := HO.lst []) he
    have sall := (s1.trans s2).trans se
    have hrd : r ∈ kept.filter fun r => decide (r ∉ more) := List.mem_filter.mpr ⟨m1, decide_eq_true m2⟩
    refine ⟨_, _, (TL.same se hTD).dp, Dp.lst (ds := []) (.inl (.inl upd_same)) .nil, shaped_tds _, by decide, ?_⟩
    rw [eqv_nil, decide_eq_false (fun z => by rw [z] at hrd; cases hrd)]
    have hpx2 := se _ _ (s2 _ _ hpx)
    refine ⟨_, rfl, iteF ⟨_, rfl, _, rfl, td r, _, Tp.dp (q := r) ⟨px, rfl, hpx2⟩, (TL.same se hTD).dp, shaped_td _, shaped_tds _, ?_⟩⟩
    rw [any_td, decide_eq_true hrd]
    refine ⟨_, rfl, iteT ⟨_, rfl, .ref px, .ty "tuple", _, _, true, rfl, .ty _, .base (.tup hpx2), kit_ty (by decide +kernel), _, rfl, iteT ⟨_, rfl, _, rfl, hle sall fun H3 s3 => ?_⟩⟩⟩
    rw [decide_eq_false m3]
    exact ⟨_, rfl, q H3 s3⟩
end
end Rl

set_option linter.all false
/-! M3: what lies on a run. Plain. -/
namespace Rl
/-! ### the blocks to which and from which the jumps lead -/
theorem ct_mono {q : List J} : ∀ {S : List Nat} {x : Nat}, x ∈ S → x ∈ q.foldl toStep S := by
  induction q with
  | nil => exact fun h => h
  | cons j q ih =>
    intro S x h
    refine ih ?_
    unfold toStep
    split
    · exact List.mem_cons_of_mem _ h
    · exact h
theorem ct_split {q : List J} : ∀ {S : List Nat} {x : Nat}, x ∈ q.foldl toStep S → x ∈ S ∨ ∃ i ∈ q, i.2 = x := by
  induction q with
  | nil => exact fun h => .inl h
  | cons j q ih =>
    intro S x h
    rcases ih (show x ∈ q.foldl toStep (toStep S j) from h) with h | ⟨i, hi, e⟩
    · unfold toStep at h
      split at h
      · rcases List.mem_cons.mp h with e | e
        · exact .inr ⟨j, List.mem_cons_self, e.symm⟩
        · exact .inl e
      · exact .inl h
    · exact .inr ⟨i, List.mem_cons_of_mem _ hi, e⟩
theorem ct_why {q : List J} : ∀ {S : List Nat} {x : Nat}, x ∈ q.foldl toStep S → x ∈ S ∨ ∃ i ∈ q, i.2 = x ∧ i.1 ∈ q.foldl toStep S := by
  induction q with
  | nil => exact fun h => .inl h
  | cons j q ih =>
    intro S x h
    rcases ih (show x ∈ q.foldl toStep (toStep S j) from h) with h | ⟨i, hi, e, e'⟩
    · by_cases hj : j.1 ∈ S
      · rw [toStep, if_pos hj] at h
        rcases List.mem_cons.mp h with e | e
        · exact .inr ⟨j, List.mem_cons_self, e.symm, ct_mono (q := j :: q) hj⟩
        · exact .inl e
      · rw [toStep, if_neg hj] at h
        exact .inl h
    · exact .inr ⟨i, List.mem_cons_of_mem _ hi, e, e'⟩
theorem cf_mono {q : List J} : ∀ {S : List Nat} {x : Nat}, x ∈ S → x ∈ q.foldl fromStep S := by
  induction q with
  | nil => exact fun h => h
  | cons j q ih =>
    intro S x h
    refine ih ?_
    unfold fromStep
    split
    · exact List.mem_cons_of_mem _ h
    · exact h
theorem cf_split {q : List J} : ∀ {S : List Nat} {x : Nat}, x ∈ q.foldl fromStep S → x ∈ S ∨ ∃ i ∈ q, i.1 = x := by
  induction q with
  | nil => exact fun h => .inl h
  | cons j q ih =>
    intro S x h
    rcases ih (show x ∈ q.foldl fromStep (fromStep S j) from h) with h | ⟨i, hi, e⟩
    · unfold fromStep at h
      split at h
      · rcases List.mem_cons.mp h with e | e
        · exact .inr ⟨j, List.mem_cons_self, e.symm⟩
        · exact .inl e
      · exact .inl h
    · exact .inr ⟨i, List.mem_cons_of_mem _ hi, e⟩
theorem cf_why {q : List J} : ∀ {S : List Nat} {x : Nat}, x ∈ q.foldl fromStep S → x ∈ S ∨ ∃ i ∈ q, i.1 = x ∧ i.2 ∈ q.foldl fromStep S := by
  induction q with
  | nil => exact fun h => .inl h
  | cons j q ih =>
    intro S x h
    rcases ih (show x ∈ q.foldl fromStep (fromStep S j) from h) with h | ⟨i, hi, e, e'⟩
    · by_cases hj : j.2 ∈ S
      · rw [fromStep, if_pos hj] at h
        rcases List.mem_cons.mp h with e | e
        · exact .inr ⟨j, List.mem_cons_self, e.symm, cf_mono (q := j :: q) hj⟩
        · exact .inl e
      · rw [fromStep, if_neg hj] at h
        exact .inl h
    · exact .inr ⟨i, List.mem_cons_of_mem _ hi, e, e'⟩
section
variable {n : Nat} {js : List J}
theorem ct0 : 0 ∈ comeTo js := ct_mono (List.mem_singleton.mpr rfl)
theorem cf0 : n - 1 ∈ comeFrom n js := cf_mono (List.mem_singleton.mpr rfl)
theorem ct_back {x : Nat} (h : x ∈ comeTo js) (h0 : x ≠ 0) : ∃ i ∈ js, i.2 = x ∧ i.1 ∈ comeTo js := by
  rcases ct_why h with z | z
  · exact absurd (List.mem_singleton.mp z) h0
  · exact z
theorem cf_forth {x : Nat} (h : x ∈ comeFrom n js) (h0 : x ≠ n - 1) : ∃ i ∈ js, i.1 = x ∧ i.2 ∈ comeFrom n js := by
  rcases cf_why h with z | ⟨i, hi, e⟩
  · exact absurd (List.mem_singleton.mp z) h0
  · exact ⟨i, List.mem_reverse.mp hi, e⟩
theorem ct_step (hs : js.Pairwise lexLt) (hv : Val n js) {j : J} (hj : j ∈ js) (h : j.1 ∈ comeTo js) : j.2 ∈ comeTo js := by
  obtain ⟨p, q, rfl⟩ := List.append_of_mem hj
  obtain ⟨_, hs2, _⟩ := List.pairwise_append.mp hs
  obtain ⟨hs3, _⟩ := List.pairwise_cons.mp hs2
  have hjv := hv j hj
  unfold comeTo at h ⊢
  rw [List.foldl_append] at h ⊢
  have h1 : j.1 ∈ p.foldl toStep [0] := by
    rcases ct_split h with z | ⟨i, hi, e⟩
    · exact z
    · rcases List.mem_cons.mp hi with e2 | e2
      · subst e2; omega
      · have h3 := hs3 i e2
        have hiv := hv i (List.mem_append_right _ (List.mem_cons_of_mem _ e2))
        unfold lexLt at h3
        omega
  show j.2 ∈ q.foldl toStep (toStep (p.foldl toStep [0]) j)
  refine ct_mono ?_
  rw [toStep, if_pos h1]
  exact List.mem_cons_self
theorem cf_step (hs : js.Pairwise lexLt) (hv : Val n js) {j : J} (hj : j ∈ js) (h : j.2 ∈ comeFrom n js) : j.1 ∈ comeFrom n js := by
  obtain ⟨p, q, rfl⟩ := List.append_of_mem hj
  obtain ⟨_, _, hs2⟩ := List.pairwise_append.mp hs
  have hjv := hv j hj
  unfold comeFrom at h ⊢
  rw [List.reverse_append, List.reverse_cons, List.append_assoc, List.foldl_append] at h ⊢
  have h1 : j.2 ∈ q.reverse.foldl fromStep [n - 1] := by
    rcases cf_split h with z | ⟨i, hi, e⟩
    · exact z
    · rcases List.mem_append.mp hi with e2 | e2
      · rw [List.mem_singleton.mp e2] at e; omega
      · have hip := List.mem_reverse.mp e2
        have h3 := hs2 i hip j List.mem_cons_self
        have hiv := hv i (List.mem_append_left _ hip)
        unfold lexLt at h3
        omega
  show j.1 ∈ p.reverse.foldl fromStep (fromStep (q.reverse.foldl fromStep [n - 1]) j)
  refine cf_mono ?_
  rw [fromStep, if_pos h1]
  exact List.mem_cons_self
theorem mem_useful {j : J} : j ∈ useful n js ↔ j ∈ js ∧ j.1 ∈ comeTo js ∧ j.2 ∈ comeFrom n js := by
  unfold useful
  rw [List.mem_filter]
  simp
theorem us_useful (hs : js.Pairwise lexLt) (hv : Val n js) (hn : n ≤ 1000) : Us n (useful n js) := by
  refine ⟨hn, fun j hj => hv j (mem_useful.mp hj).1, fun j hj h0 => ?_, fun j hj h0 => ?_⟩
  · obtain ⟨h1, h2, h3⟩ := mem_useful.mp hj
    obtain ⟨i, hi, e, h4⟩ := ct_back h2 h0
    exact ⟨i, mem_useful.mpr ⟨hi, h4, by rw [e]; exact cf_step hs hv h1 h3⟩, e⟩
  · obtain ⟨h1, h2, h3⟩ := mem_useful.mp hj
    obtain ⟨i, hi, e, h4⟩ := cf_forth h3 h0
    exact ⟨i, mem_useful.mpr ⟨hi, by rw [e]; exact ct_step hs hv h1 h2, h4⟩, e⟩
theorem useful_sorted (hs : js.Pairwise lexLt) : (useful n js).Pairwise lexLt := hs.filter _
end
/-! ### runs -/
/-- a run from x to last by these jumps -/
def RunFrom (js : List J) (last x : Nat) (r : List Nat) : Prop := r.head? = some x ∧ r.getLast? = some last ∧ ∀ j ∈ steps r, j ∈ js
theorem steps_cons {x y : Nat} {r : List Nat} (h : r.head? = some y) : steps (x :: r) = (x, y) :: steps r := by
  cases r with
  | nil => cases h
  | cons z r => cases h; rfl
theorem RunFrom.cons {js : List J} {last x y : Nat} {r : List Nat} (h : RunFrom js last y r) (hj : (x, y) ∈ js) : RunFrom js last x (x :: r) := by
  obtain ⟨h1, h2, h3⟩ := h
  refine ⟨rfl, ?_, fun j hj' => ?_⟩
  · cases r with
    | nil => cases h1
    | cons z r => rw [List.getLast?_cons_cons]; exact h2
  · rw [steps_cons h1] at hj'
    rcases List.mem_cons.mp hj' with e | e
    · rw [e]; exact hj
    · exact h3 j e
theorem RunFrom.uncons {js : List J} {last x : Nat} {r : List Nat} (h : RunFrom js last x r) (hne : x ≠ last) : ∃ y r', r = x :: r' ∧ (x, y) ∈ js ∧ RunFrom js last y r' := by
  obtain ⟨h1, h2, h3⟩ := h
  match r, h1, h2, h3 with
  | [z], h1, h2, h3 =>
    cases h1
    cases h2
    exact absurd rfl hne
  | z :: y :: r, h1, h2, h3 =>
    cases h1
    rw [List.getLast?_cons_cons] at h2
    exact ⟨y, y :: r, rfl, h3 _ List.mem_cons_self, rfl, h2, fun j hj => h3 j (List.mem_cons_of_mem _ hj)⟩
theorem RunFrom.at_last {js : List J} {last : Nat} {r : List Nat} (hv : ∀ j ∈ js, j.1 < j.2 ∧ j.2 ≤ last) (h : RunFrom js last last r) : r = [last] := by
  obtain ⟨h1, h2, h3⟩ := h
  match r, h1, h2, h3 with
  | [z], h1, h2, h3 => cases h1; rfl
  | z :: y :: r, h1, h2, h3 =>
    cases h1
    have := hv _ (h3 _ List.mem_cons_self)
    simp at this
    omega
theorem rests_runs {last : Nat} {js : List J} (hv : ∀ j ∈ js, j.1 < j.2 ∧ j.2 ≤ last) : ∀ {f x : Nat} {r : List Nat}, x ≤ last → last < x + f → (r ∈ rests last js f x ↔ RunFrom js last x r)
  | 0, x, r, h1, h2 => by omega
  | f + 1, x, r, h1, h2 => by
    by_cases e : x = last
    · have hr : rests last js (f + 1) x = [[last]] := by show (if x = last then [[last]] else _) = _; rw [if_pos e]
      rw [hr, List.mem_singleton]
      subst e
      exact ⟨fun h => by rw [h]; exact ⟨rfl, rfl, fun j hj => by cases hj⟩, fun h => h.at_last hv⟩
    · have hr : rests last js (f + 1) x = restsTo last js f x (last - x) := by show (if x = last then [[last]] else _) = _; rw [if_neg e]
      rw [hr]
      constructor
      · intro h
        obtain ⟨v, hv', hr'⟩ := List.mem_flatMap.mp h
        obtain ⟨r', hr'', rfl⟩ := List.mem_map.mp hr'
        obtain ⟨hv1, hv2⟩ := List.mem_filter.mp hv'
        have hv3 := List.mem_range'_1.mp hv1
        have := (rests_runs hv (by omega) (by omega)).mp hr''
        exact this.cons (of_decide_eq_true hv2)
      · intro h
        obtain ⟨y, r', rfl, hj, h'⟩ := h.uncons e
        have hjv := hv _ hj
        simp at hjv
        refine List.mem_flatMap.mpr ⟨y, List.mem_filter.mpr ⟨List.mem_range'_1.mpr ⟨by omega, by omega⟩, decide_eq_true hj⟩, List.mem_map.mpr ⟨r', (rests_runs hv (by omega) (by omega)).mpr h', rfl⟩⟩
theorem mem_keep {ss : List J} {runs : List (List Nat)} {r : List Nat} : r ∈ keep ss runs ↔ r ∈ runs ∧ ∀ j ∈ steps r, j ∈ ss := by
  unfold keep
  rw [List.mem_filter]
  simp
theorem keep_runs {last : Nat} {rows ss : List J} (hv : ∀ j ∈ rows, j.1 < j.2 ∧ j.2 ≤ last) (hsub : ∀ j ∈ ss, j ∈ rows) {f x : Nat} {r : List Nat} (h1 : x ≤ last) (h2 : last < x + f) : r ∈ keep ss (rests last rows f x) ↔ RunFrom ss last x r := by
  rw [mem_keep, rests_runs hv h1 h2]
  exact ⟨fun ⟨⟨a, b, _⟩, c⟩ => ⟨a, b, c⟩, fun ⟨a, b, c⟩ => ⟨⟨a, b, fun j hj => hsub j (c j hj)⟩, c⟩⟩
/-- every step of a run is useful -/
theorem run_useful {n : Nat} {ss : List J} (hs : ss.Pairwise lexLt) (hv : Val n ss) : ∀ {r : List Nat} {x : Nat}, RunFrom ss (n - 1) x r → x ∈ comeTo ss → x ∈ comeFrom n ss ∧ ∀ j ∈ steps r, j ∈ useful n ss
  | [], x, h, _ => by cases h.1
  | [z], x, ⟨h1, h2, h3⟩, hx => by
    cases h1
    cases h2
    exact ⟨cf0, fun j hj => by cases hj⟩
  | z :: y :: r, x, ⟨h1, h2, h3⟩, hx => by
    cases h1
    have hj : (z, y) ∈ ss := h3 _ List.mem_cons_self
    rw [List.getLast?_cons_cons] at h2
    have hy : y ∈ comeTo ss := ct_step hs hv hj hx
    obtain ⟨i1, i2⟩ := run_useful hs hv (r := y :: r) ⟨rfl, h2, fun j hj => h3 j (List.mem_cons_of_mem _ hj)⟩ hy
    refine ⟨cf_step hs hv hj i1, fun j hj' => ?_⟩
    rcases List.mem_cons.mp (show j ∈ (z, y) :: steps (y :: r) from hj') with e | e
    · rw [e]; exact mem_useful.mpr ⟨hj, hx, i1⟩
    · exact i2 j e
end Rl

set_option linter.all false
/-! M4: the runs that are told. Plain. -/
namespace Rl
theorem steps_snoc : ∀ {r : List Nat} {y z : Nat}, r.getLast? = some y → steps (r ++ [z]) = steps r ++ [(y, z)]
  | [], y, z, h => by cases h
  | [a], y, z, h => by cases h; rfl
  | a :: b :: r, y, z, h => by
    rw [List.getLast?_cons_cons] at h
    show (a, b) :: steps ((b :: r) ++ [z]) = (a, b) :: steps (b :: r) ++ [(y, z)]
    rw [steps_snoc h]; rfl
section
variable {n : Nat} {us : List J}
theorem back_run (hu : Us n us) : ∀ {f x : Nat} {r : List Nat}, x < f → (x = 0 ∨ ∃ i ∈ us, i.2 = x) → (∀ j ∈ steps (x :: r), j ∈ us) →
    (back us f (x :: r)).head? = some 0 ∧ (back us f (x :: r)).getLast? = (x :: r).getLast? ∧ (∀ j ∈ steps (back us f (x :: r)), j ∈ us) ∧ ∀ j ∈ steps (x :: r), j ∈ steps (back us f (x :: r))
  | 0, x, r, h, _, _ => by omega
  | f + 1, x, r, h, hp, hs => by
    by_cases h0 : x = 0
    · have e : back us (f + 1) (x :: r) = x :: r := by show (if x = 0 then _ else _) = _; rw [if_pos h0]
      rw [e]
      exact ⟨by rw [h0]; rfl, rfl, hs, fun j hj => hj⟩
    · obtain ⟨i0, hi0, hi0e⟩ := hp.resolve_left h0
      obtain ⟨i, hh, hiu, hie, hhd⟩ := hd_of (f := fun j => decide (j.2 = x)) ⟨i0, hi0, decide_eq_true hi0e⟩
      have hix : i.2 = x := of_decide_eq_true hie
      have hiv := hu.2.1 i hiu
      have e : back us (f + 1) (x :: r) = back us f (i.1 :: x :: r) := by
        show (if x = 0 then _ else back us f (((us.filter fun j => decide (j.2 = x)).headD (0, 0)).1 :: x :: r)) = _
        rw [if_neg h0, hhd]
      have hst : steps (i.1 :: x :: r) = (i.1, x) :: steps (x :: r) := rfl
      have hi' : (i.1, x) = i := by rw [← hix]
      obtain ⟨a1, a2, a3, a4⟩ := back_run hu (f := f) (x := i.1) (r := x :: r) (by omega) (by
        by_cases z : i.1 = 0
        · exact .inl z
        · exact .inr (hu.2.2.1 i hiu z)) (by
        intro j hj
        rw [hst] at hj
        rcases List.mem_cons.mp hj with z | z
        · rw [z, hi']; exact hiu
        · exact hs j z)
      rw [e]
      refine ⟨a1, by rw [a2, List.getLast?_cons_cons], a3, fun j hj => a4 j ?_⟩
      rw [hst]
      exact List.mem_cons_of_mem _ hj
theorem forth_run (hu : Us n us) : ∀ {f y : Nat} {r : List Nat}, r.getLast? = some y → y < n → n - 1 - y < f → (y = n - 1 ∨ ∃ i ∈ us, i.1 = y) → (∀ j ∈ steps r, j ∈ us) →
    (forth (n - 1) us f r).head? = r.head? ∧ (forth (n - 1) us f r).getLast? = some (n - 1) ∧ (∀ j ∈ steps (forth (n - 1) us f r), j ∈ us) ∧ ∀ j ∈ steps r, j ∈ steps (forth (n - 1) us f r)
  | 0, y, r, _, _, h, _, _ => by omega
  | f + 1, y, r, hl, hy, h, hp, hs => by
    by_cases h0 : y = n - 1
    · have e : forth (n - 1) us (f + 1) r = r := by show (if r.getLast? = some (n - 1) then r else _) = _; rw [if_pos (by rw [hl, h0])]
      rw [e]
      exact ⟨rfl, by rw [hl, h0], hs, fun j hj => hj⟩
    · obtain ⟨i0, hi0, hi0e⟩ := hp.resolve_left h0
      obtain ⟨i, hh, hiu, hie, hhd⟩ := hd_of (f := fun j => decide (j.1 = y)) ⟨i0, hi0, decide_eq_true hi0e⟩
      have hix : i.1 = y := of_decide_eq_true hie
      have hiv := hu.2.1 i hiu
      have e : forth (n - 1) us (f + 1) r = forth (n - 1) us f (r ++ [i.2]) := by
        show (if r.getLast? = some (n - 1) then r else forth (n - 1) us f (r ++ [((us.filter fun j => decide (some j.1 = r.getLast?)).headD (0, 0)).2])) = _
        have e5 : (us.filter fun j => decide (some j.1 = r.getLast?)) = us.filter fun j => decide (j.1 = y) := by
          rw [hl]
          congr 1
          funext jj
          simp
        rw [if_neg (by rw [hl]; exact fun z => h0 (Option.some.inj z)), e5, hhd]
      have hst := steps_snoc (z := i.2) hl
      have hi' : (y, i.2) = i := by rw [← hix]
      obtain ⟨a1, a2, a3, a4⟩ := forth_run hu (f := f) (y := i.2) (r := r ++ [i.2]) List.getLast?_concat hiv.2 (by omega) (by
        by_cases z : i.2 = n - 1
        · exact .inl z
        · exact .inr (hu.2.2.2 i hiu z)) (by
        intro j hj
        rw [hst] at hj
        rcases List.mem_append.mp hj with z | z
        · exact hs j z
        · rw [List.mem_singleton.mp z, hi']; exact hiu)
      rw [e]
      refine ⟨?_, a2, a3, fun j hj => a4 j ?_⟩
      · rw [a1]
        cases r with
        | nil => cases hl
        | cons a r => rfl
      · rw [hst]
        exact List.mem_append_left _ hj
theorem runBy_run (hu : Us n us) {j : J} {r : List Nat} (h : runBy n us j = some r) : RunFrom us (n - 1) 0 r ∧ j ∈ steps r ∧ j ∈ us := by
  unfold runBy at h
  by_cases hj : j ∈ us
  · rw [if_pos hj] at h
    have hjv := hu.2.1 j hj
    have hst : steps [j.1, j.2] = [j] := rfl
    obtain ⟨a1, a2, a3, a4⟩ := back_run hu (f := n) (x := j.1) (r := [j.2]) (by omega) (by
      by_cases z : j.1 = 0
      · exact .inl z
      · exact .inr (hu.2.2.1 j hj z)) (by
      intro i hi
      rw [hst] at hi
      rw [List.mem_singleton.mp hi]; exact hj)
    obtain ⟨b1, b2, b3, b4⟩ := forth_run hu (f := n) (y := j.2) (r := back us n [j.1, j.2]) (by rw [a2]; rfl) hjv.2 (by omega) (by
      by_cases z : j.2 = n - 1
      · exact .inl z
      · exact .inr (hu.2.2.2 j hj z)) a3
    injection h with h
    rw [h] at b1 b2 b3 b4
    exact ⟨⟨by rw [b1, a1], b2, b3⟩, b4 j (a4 j (by rw [hst]; exact List.mem_singleton.mpr rfl)), hj⟩
  · rw [if_neg hj] at h
    cases h
theorem runBy_none {j : J} : runBy n us j = none ↔ j ∉ us := by
  unfold runBy
  by_cases hj : j ∈ us
  · rw [if_pos hj]
    exact ⟨fun h => (by cases h), fun h => absurd hj h⟩
  · rw [if_neg hj]
    exact ⟨fun _ => hj, fun _ => rfl⟩
end
section
variable {n : Nat} {rows ss ts : List J} {f : Nat}
/-- kept_run_by is right -/
theorem rb_right (hs : ss.Pairwise lexLt) (hv : Val n ss) (hrv : Val n rows) (hsub : ∀ j ∈ ss, j ∈ rows) (hn : n ≤ 1000) (hn2 : 2 ≤ n) (hf : n - 1 < f) : RB n (useful n ss) rows (keep ss (rests (n - 1) rows f 0)) := by
  have hu := us_useful hs hv hn
  have hrv' : ∀ j ∈ rows, j.1 < j.2 ∧ j.2 ≤ n - 1 := fun j hj => ⟨(hrv j hj).1, by have := (hrv j hj).2; omega⟩
  intro j hj
  refine ⟨fun h r hr hjr => ?_, fun r h => ?_⟩
  · have h1 := (keep_runs hrv' hsub (Nat.zero_le _) (by omega)).mp hr
    exact runBy_none.mp h ((run_useful hs hv h1 ct0).2 j hjr)
  · obtain ⟨⟨h1, h2, h3⟩, h4, h5⟩ := runBy_run hu h
    exact ⟨(keep_runs hrv' hsub (Nat.zero_le _) (by omega)).mpr ⟨h1, h2, fun i hi => (mem_useful.mp (h3 i hi)).1⟩, h4⟩
theorem notIn_none {us al' : List J} (h : notIn n us al' = none) : ∀ j ∈ us, j ∈ al' := by
  unfold notIn at h
  cases e : us.filter fun j => decide (j ∉ al') with
  | nil => exact filt_nil.mp e
  | cons a l =>
    rw [e] at h
    have ha : a ∈ us.filter fun j => decide (j ∉ al') := by rw [e]; exact List.mem_cons_self
    exact absurd (List.mem_filter.mp ha).1 (runBy_none.mp h)
theorem notIn_some {us al' : List J} {r : List Nat} (h : notIn n us al' = some r) : ∃ j, runBy n us j = some r ∧ j ∈ us ∧ j ∉ al' := by
  unfold notIn at h
  cases e : us.filter fun j => decide (j ∉ al') with
  | nil => rw [e] at h; cases h
  | cons a l =>
    rw [e] at h
    have ha : a ∈ us.filter fun j => decide (j ∉ al') := by rw [e]; exact List.mem_cons_self
    obtain ⟨h1, h2⟩ := List.mem_filter.mp ha
    exact ⟨a, h, h1, of_decide_eq_true h2⟩
/-- not_in and <= are right -/
theorem ni_right (hs : ss.Pairwise lexLt) (hv : Val n ss) (hrv : Val n rows) (hsub : ∀ j ∈ ss, j ∈ rows) (hsub' : ∀ j ∈ ts, j ∈ rows) (hn : n ≤ 1000) (hn2 : 2 ≤ n) (hf : n - 1 < f) :
    NI n (useful n ss) ts (keep ss (rests (n - 1) rows f 0)) (keep ts (rests (n - 1) rows f 0)) := by
  have hu := us_useful hs hv hn
  have hrv' : ∀ j ∈ rows, j.1 < j.2 ∧ j.2 ≤ n - 1 := fun j hj => ⟨(hrv j hj).1, by have := (hrv j hj).2; omega⟩
  refine ⟨fun h => ?_, fun r h => ?_⟩
  · have h1 := notIn_none h
    refine ⟨fun r hr => ?_, h1⟩
    have h2 := (keep_runs hrv' hsub (Nat.zero_le _) (by omega)).mp hr
    exact (keep_runs hrv' hsub' (Nat.zero_le _) (by omega)).mpr ⟨h2.1, h2.2.1, fun j hj => h1 j ((run_useful hs hv h2 ct0).2 j hj)⟩
  · obtain ⟨j, h1, h2, h3⟩ := notIn_some h
    obtain ⟨⟨a1, a2, a3⟩, a4, a5⟩ := runBy_run hu h1
    refine ⟨⟨(keep_runs hrv' hsub (Nat.zero_le _) (by omega)).mpr ⟨a1, a2, fun i hi => (mem_useful.mp (a3 i hi)).1⟩, fun hr => ?_⟩, fun hall => h3 (hall j h2)⟩
    exact h3 ((keep_runs hrv' hsub' (Nat.zero_le _) (by omega)).mp hr |>.2.2 j a4)
/-- the kept runs, in order -/
theorem from_rows (hs : ss.Pairwise lexLt) (hv : Val n ss) (x : Nat) : ss.filter (fun j => decide (j.1 = x)) = rowsFrom n ss x := by
  refine sorted_ext (hs.filter _) (rowsFrom_sorted n ss x) fun j => ?_
  rw [List.mem_filter, rowsFrom_mem]
  constructor
  · rintro ⟨h1, h2⟩
    have := hv j h1
    have h3 : j.1 = x := of_decide_eq_true h2
    exact ⟨h3, by omega, this.2, h1⟩
  · rintro ⟨h1, _, _, h4⟩
    exact ⟨h4, decide_eq_true h1⟩
theorem keep_append (a b : List (List Nat)) : keep ss (a ++ b) = keep ss a ++ keep ss b := List.filter_append ..
theorem keep_flatMap {g : Nat → List (List Nat)} : ∀ l : List Nat, keep ss (l.flatMap g) = l.flatMap fun v => keep ss (g v)
  | [] => rfl
  | v :: l => by rw [List.flatMap_cons, keep_append, keep_flatMap l, List.flatMap_cons]
theorem flatMap_cond {g h : Nat → List (List Nat)} {p q : Nat → Bool} : ∀ l : List Nat, (∀ v ∈ l, (if p v then g v else []) = if q v then h v else []) → (l.filter p).flatMap g = (l.filter q).flatMap h
  | [], _ => rfl
  | v :: l, H => by
    have ih := flatMap_cond l fun w hw => H w (List.mem_cons_of_mem _ hw)
    have h1 := H v List.mem_cons_self
    rw [List.filter_cons, List.filter_cons]
    cases hp : p v <;> cases hq : q v <;> rw [hp, hq] at h1 <;> simp only [if_true, if_false, Bool.false_eq_true, List.flatMap_cons, ih] at h1 ⊢
    · rw [← h1]; rfl
    · rw [h1]; rfl
    · rw [h1]
theorem kept_eq (hs : ss.Pairwise lexLt) (hv : Val n ss) (hrv : Val n rows) (hsub : ∀ j ∈ ss, j ∈ rows) (hn2 : 2 ≤ n) : ∀ {f g x : Nat}, x ≤ n - 1 → n - 1 < x + f → n - 1 < x + g → x ∈ comeTo ss →
    keep ss (rests (n - 1) rows f x) = (cont (n - 1) (useful n ss) g x).map (x :: ·)
  | 0, g, x, h1, h2, h3, _ => by omega
  | f + 1, 0, x, h1, h2, h3, _ => by omega
  | f + 1, g + 1, x, h1, h2, h3, hx => by
    have hrv' : ∀ j ∈ rows, j.1 < j.2 ∧ j.2 ≤ n - 1 := fun j hj => ⟨(hrv j hj).1, by have := (hrv j hj).2; omega⟩
    have hc : cont (n - 1) (useful n ss) (g + 1) x = (if x = n - 1 then [[]] else []) ++ ((useful n ss).filter fun j => decide (j.1 = x)).flatMap fun j => (cont (n - 1) (useful n ss) g j.2).map (j.2 :: ·) := rfl
    have huv : Val n (useful n ss) := fun j hj => hv j (mem_useful.mp hj).1
    rw [hc, from_rows (useful_sorted hs) huv]
    by_cases e : x = n - 1
    · have hr : rests (n - 1) rows (f + 1) x = [[n - 1]] := by show (if x = n - 1 then [[n - 1]] else _) = _; rw [if_pos e]
      have hrf : rowsFrom n (useful n ss) x = [] := by
        unfold rowsFrom
        rw [show n - (x + 1) = 0 by omega]
        rfl
      rw [hr, hrf, if_pos e, e]
      rfl
    · have hr : rests (n - 1) rows (f + 1) x = restsTo (n - 1) rows f x (n - 1 - x) := by show (if x = n - 1 then [[n - 1]] else _) = _; rw [if_neg e]
      rw [hr, if_neg e, List.nil_append]
      unfold restsTo rowsFrom
      rw [keep_flatMap, List.flatMap_map, List.map_flatMap, show n - (x + 1) = n - 1 - x by omega]
      refine flatMap_cond _ fun v hv' => ?_
      have hv3 := List.mem_range'_1.mp hv'
      have hmv : (x + 1) + (n - 1 - x) = n := by omega
      have hk : keep ss ((rests (n - 1) rows f v).map (x :: ·)) = if (x, v) ∈ ss then (keep ss (rests (n - 1) rows f v)).map (x :: ·) else [] := by
        have hst : ∀ r ∈ rests (n - 1) rows f v, steps (x :: r) = (x, v) :: steps r := fun r hr => steps_cons ((rests_runs hrv' (by omega) (by omega)).mp hr).1
        unfold keep
        rw [List.filter_map]
        by_cases hin : (x, v) ∈ ss
        · rw [if_pos hin]
          congr 1
          refine List.filter_congr fun r hr => ?_
          show decide (∀ j ∈ steps (x :: r), j ∈ ss) = _
          rw [hst r hr]
          rw [Bool.eq_iff_iff, decide_eq_true_eq, decide_eq_true_eq]
          exact ⟨fun h j hj => h j (List.mem_cons_of_mem _ hj), fun h j hj => by
            rcases List.mem_cons.mp hj with z | z
            · rw [z]; exact hin
            · exact h j z⟩
        · rw [if_neg hin]
          have : (rests (n - 1) rows f v).filter ((fun r => decide (∀ j ∈ steps r, j ∈ ss)) ∘ (x :: ·)) = [] := by
            rw [List.filter_eq_nil_iff]
            intro r hr h
            have h' : decide (∀ j ∈ steps (x :: r), j ∈ ss) = true := h
            rw [hst r hr] at h'
            exact hin (of_decide_eq_true h' _ List.mem_cons_self)
          rw [this]; rfl
      rw [hk]
      by_cases hin : (x, v) ∈ ss
      · have hvc : v ∈ comeTo ss := ct_step hs hv (j := (x, v)) hin hx
        have IH := kept_eq hs hv hrv hsub hn2 (f := f) (g := g) (x := v) (by omega) (by omega) (by omega) hvc
        rw [decide_eq_true (hsub _ hin), if_pos rfl, if_pos hin]
        by_cases hcf : v ∈ comeFrom n ss
        · have hu : (x, v) ∈ useful n ss := mem_useful.mpr ⟨hin, hx, hcf⟩
          rw [decide_eq_true hu, if_pos rfl, IH]
        · have hu : (x, v) ∉ useful n ss := fun z => hcf (mem_useful.mp z).2.2
          rw [decide_eq_false hu]
          have hnil : keep ss (rests (n - 1) rows f v) = [] := by
            cases hk2 : keep ss (rests (n - 1) rows f v) with
            | nil => rfl
            | cons r l =>
              have hrm : r ∈ keep ss (rests (n - 1) rows f v) := by rw [hk2]; exact List.mem_cons_self
              have hrun := (keep_runs hrv' hsub (by omega) (by omega)).mp hrm
              exact absurd (run_useful hs hv hrun hvc).1 hcf
          rw [hnil]
          rfl
      · have hu : (x, v) ∉ useful n ss := fun z => hin (mem_useful.mp z).1
        rw [decide_eq_false hu, if_neg hin]
        cases decide ((x, v) ∈ rows) <;> rfl
end
end Rl

set_option Elab.async false
set_option linter.all false
set_option maxRecDepth 100000
set_option maxHeartbeats 2000000
/-! D30: making routines and parts. -/
namespace Rl
open PySem PySem.Spec PyProof.Rows L2
section
variable {P : Program} {w : World} {K : PySem.W.Frag} {mg : Str → Option Value} {base : Heap}
theorem Tx.mkR (T : Tx K mg) : Mk K (cR K) (He.ma K (cR K) "__init__") := He.mkr_ok (T.f2 5)
theorem Tx.mkP (T : Tx K mg) : Mk K (cP K) (He.ma K (cP K) "__init__") := He.mkr_ok (T.f2 6)
theorem made_keep {H1 : Hp} {x dx : Addr} {C : Addr} (hx : H1 x = none) (hd : H1 dx = none) : Same H1 (upd (upd H1 dx (.own x)) x (.ins C dx [])) := fun b o e => by
  rw [upd_ne (ne_of_none e hx), upd_ne (ne_of_none e hd)]; exact e
theorem up_some {H H' : Hp} {D : Addr} (k : Same H H') (h : H D ≠ none) : H' D ≠ none := by
  cases e : H D with
  | none => exact absurd e h
  | some o => rw [k _ _ e]; exact fun z => by cases z
theorem use_mkR {H1 : Hp} {R : Addr → Hp → Prop} {E : XK} {n : Nat} {a : Addr} {js : List J} (hT : TL H1 a (js.map jl)) (hn2 : 2 ≤ n) (hn : n ≤ 40) (hnd : js.Nodup) (hv : Val n js) (hl : js.length ≤ 120) (hR : ∀ x H2, Same H1 H2 → H1 x = none → (∀ D, H1 D ≠ none → RtO K D H2 x n (rowsOf n js)) → RtAt K H2 x n (rowsOf n js) → R x H2) :
    ∀ x dx, H1 x = none → H1 dx = none → dx ≠ x → sp_rinit K [.ref x, .int (n : Int), .ref a] (upd (upd H1 dx (.own x)) x (.ins (cR K) dx [])) (fun v H2 => v = .non ∧ R x H2) E := by
  intro x dx hx hd hne
  have sm := made_keep (C := cR K) hx hd
  refine ⟨x, dx, a, n, js, rfl, upd_same, hn2, hn, TL.same sm hT, hnd, hv, hl, fun H' k hro hrt => ⟨rfl, hR x H' (fun b o e => k b o (ne_of_none e hx) (sm _ _ e)) hx (fun D hD => hro D (up_some sm hD)) hrt⟩⟩
theorem use_mkP {H1 : Hp} {R : Addr → Hp → Prop} {E : XK} {n : Nat} {r a : Addr} {rows js : List J} (hr : RtAt K H1 r n rows) (hnd : rows.Nodup) (hT : TL H1 a (js.map jl)) (hl : js.length ≤ 1000) (hs : ∀ j ∈ js, j ∈ rows)
    (hR : ∀ x H2, Same H1 H2 → H1 x = none → (∀ D, H1 D ≠ none → RtO K D H1 r n rows → PtO K D H2 x n rows (rows.filter fun j => decide (j ∈ js)) (useful n (rows.filter fun j => decide (j ∈ js)))) → PtAt K H2 x n rows (rows.filter fun j => decide (j ∈ js)) (useful n (rows.filter fun j => decide (j ∈ js))) → R x H2) :
    ∀ x dx, H1 x = none → H1 dx = none → dx ≠ x → sp_pinit K [.ref x, .ref r, .ref a] (upd (upd H1 dx (.own x)) x (.ins (cP K) dx [])) (fun v H2 => v = .non ∧ R x H2) E := by
  intro x dx hx hd hne
  have sm := made_keep (C := cP K) hx hd
  refine ⟨x, dx, r, a, n, rows, js, rfl, upd_same, hr.same sm, hnd, TL.same sm hT, hl, hs, fun H' k hpo hpt => ⟨rfl, hR x H' (fun b o e => k b o (ne_of_none e hx) (sm _ _ e)) hx (fun D hD hro => hpo D (up_some sm hD) (hro.same sm)) hpt⟩⟩
/-- a sorted choice of the rows is what is chosen of them -/
theorem filter_sub {rows ss : List J} (hr : rows.Pairwise lexLt) (hs : ss.Sublist rows) : (rows.filter fun j => decide (j ∈ ss)) = ss := by
  refine sorted_ext (hr.filter _) (hr.sublist hs) fun j => ?_
  rw [List.mem_filter]
  simp only [decide_eq_true_eq]
  exact ⟨fun h => h.2, fun h => ⟨hs.subset h, h⟩⟩
theorem filter_same {rows ss ks : List J} (h : ∀ j, j ∈ ks ↔ j ∈ ss) : (rows.filter fun j => decide (j ∈ ks)) = rows.filter fun j => decide (j ∈ ss) := by
  refine List.filter_congr fun j _ => ?_
  rw [Bool.eq_iff_iff, decide_eq_true_eq, decide_eq_true_eq]
  exact h j
/-- three things stand in a list -/
def L3 (H : Hp) (a : Addr) (R : Nat → V → Hp → Prop) : Prop := ∃ vs, H a = some (.lst vs) ∧ vs.length = 3 ∧ ∀ m v, vs[m]? = some v → R m v H
theorem L3.at_ {H : Hp} {a : Addr} {R : Nat → V → Hp → Prop} (h : L3 H a R) {m : Nat} (hm : m < 3) : ∃ vs v, H a = some (.lst vs) ∧ vs[m]? = some v ∧ R m v H := by
  obtain ⟨vs, e, hl, hR⟩ := h
  exact ⟨vs, vs[m], e, List.getElem?_eq_getElem (by omega), hR m _ (List.getElem?_eq_getElem (by omega))⟩
theorem L3.same {H H' : Hp} {a : Addr} {R : Nat → V → Hp → Prop} (k : Same H H') (hR : ∀ m v, R m v H → R m v H') (h : L3 H a R) : L3 H' a R := by
  obtain ⟨vs, e, hl, hr⟩ := h
  exact ⟨vs, k _ _ e, hl, fun m v hv => hR m v (hr m v hv)⟩
theorem L3.go {H H' : Hp} {f a : Addr} {R : Nat → V → Hp → Prop} (hf : Fd H f) (g : Go f H H') (hR : ∀ m v, R m v H → R m v H') (h : L3 H a R) : L3 H' a R := by
  obtain ⟨vs, e, hl, hr⟩ := h
  refine ⟨vs, g.keep hf e (fun d s z => ?_), hl, fun m v hv => hR m v (hr m v hv)⟩
  cases z
  simp at hl
/-- one after another, in a comprehension -/
def Ac (R : Nat → V → Hp → Prop) (i : Nat) (acc : List V) (H : Hp) : Prop := acc.length = i ∧ ∀ m v, acc[m]? = some v → R m v H
theorem Ac.nil {R : Nat → V → Hp → Prop} {H : Hp} : Ac R 0 [] H := ⟨rfl, fun m v h => by simp at h⟩
theorem Ac.snoc {R R' : Nat → V → Hp → Prop} {i : Nat} {acc : List V} {H H' : Hp} {y : V} (h : Ac R i acc H) (k : ∀ m v, m < i → R m v H → R' m v H') (hy : R' i y H') : Ac R' (i + 1) (acc ++ [y]) H' := by
  refine ⟨by rw [List.length_append, h.1]; rfl, fun m v hv => ?_⟩
  rcases Nat.lt_or_ge m acc.length with hm | hm
  · rw [List.getElem?_append_left hm] at hv
    exact k m v (by rw [← h.1]; exact hm) (h.2 m v hv)
  · rw [List.getElem?_append_right hm] at hv
    have hm0 : m - acc.length = 0 := by
      rcases Nat.eq_zero_or_pos (m - acc.length) with z | z
      · exact z
      · rw [List.getElem?_eq_none (by simp; omega)] at hv; cases hv
    rw [hm0] at hv
    cases hv
    have : m = i := by rw [← h.1]; omega
    rw [this]; exact hy
theorem Ac.keep {R : Nat → V → Hp → Prop} {i : Nat} {acc : List V} {H H' : Hp} (h : Ac R i acc H) (k : ∀ m v, R m v H → R m v H') : Ac R i acc H' := ⟨h.1, fun m v hv => k m v (h.2 m v hv)⟩
theorem Ac.l3 {R : Nat → V → Hp → Prop} {acc : List V} {H : Hp} {a : Addr} (h : Ac R 3 acc H) (e : H a = some (.lst acc)) : L3 H a R := ⟨acc, e, h.1, h.2⟩
/-- .. apart from D -/
abbrev rTLo (D : Addr) (ss : Nat → List J) : Nat → V → Hp → Prop := fun m v H => ∃ p, v = .ref p ∧ p ≠ D ∧ TL H p ((ss m).map jl)
abbrev rKpo (D : Addr) (ks : Nat → List (List Nat)) : Nat → V → Hp → Prop := fun m v H => ∃ p, v = .ref p ∧ p ≠ D ∧ TL H p (ks m)
abbrev rPto (K : PySem.W.Frag) (D : Addr) (n : Nat) (rows : List J) (ss : Nat → List J) : Nat → V → Hp → Prop := fun m v H => ∃ p, v = .ref p ∧ PtO K D H p n rows (ss m) (useful n (ss m))
abbrev rTL (ss : Nat → List J) : Nat → V → Hp → Prop := fun m v H => ∃ p, v = .ref p ∧ TL H p ((ss m).map jl)
abbrev rKp (ks : Nat → List (List Nat)) : Nat → V → Hp → Prop := fun m v H => ∃ p, v = .ref p ∧ TL H p (ks m)
abbrev rPt (K : PySem.W.Frag) (n : Nat) (rows : List J) (ss : Nat → List J) : Nat → V → Hp → Prop := fun m v H => ∃ p, v = .ref p ∧ PtAt K H p n rows (ss m) (useful n (ss m))
end
end Rl

set_option Elab.async false
set_option linter.all false
set_option maxRecDepth 100000
set_option maxHeartbeats 4000000
/-! D31: the law's drawing. -/
namespace Rl
open PySem PySem.Spec PyProof.Rows L2 Zed
abbrev lawN : List Str := ["_law_script", "_law_k", "_law_feed_here", "_law_blocks", "_law_drawn", "_law_routine_here", "_law_rows_here", "_law_runs", "_law_sets", "_law_kept", "_law_parts", "_law_others", "_law_j", "_law_i", "_law_odd", "_law_bad", "_law_more", "_law_other", "_law_turn", "_law_some", "_law_one"]
abbrev lawX (P : Program) (w : World) (K : PySem.W.Frag) (mg : Str → Option Value) (base : Heap) (cdv : Value) (A : Around) (outer : List Env) (s : Shared) (H : Hp) : Cx :=
  (cxOf CX0 P w K mg base lawN d_law.qual d_law.scope (He.fAd K d_law.at_) cdv A outer s H (fun _ _ _ => False)).nox
theorem sc_law : FnScope lawN ["_law_script"] (defScope s_law) := ⟨rfl, rfl, rfl, by decide +kernel, rfl, by decide +kernel, by decide +kernel⟩
def forBody : Stmt → List Stmt
  | .For _ _ b _ _ => b
  | _ => []
/-- the statements of a turn -/
def lb (i : Nat) : Stmt := (forBody ((defBody s_law).getD 1 (.Pass ⟨0, 0, 0, 0⟩))).getD i (.Pass ⟨0, 0, 0, 0⟩)
/-- what a turn works on -/
structure Wd (K : PySem.W.Frag) (H0 H : Hp) (f ra wa ua sa ka pa oa : Addr) (n : Nat) (rows : List J) (ss : Nat → List J) : Prop where
  sm : Same H0 H
  fd : Fd H f
  fnew : H0 f = none
  n2 : 2 ≤ n
  n8 : n ≤ 8
  srt : rows.Pairwise lexLt
  val : Val n rows
  rt : RtAt K H ra n rows
  rw_ : TL H wa (rows.map jl)
  ru_ : TL H ua (rests (n - 1) rows 8 0)
  sub : ∀ m, m < 3 → (ss m).Sublist rows
  st : L3 H sa (rTL ss)
  kp : L3 H ka (rKp fun m => keep (ss m) (rests (n - 1) rows 8 0))
  pt : L3 H pa (rPt K n rows ss)
  ot : L3 H oa (rPt K n rows ss)
section
variable {P : Program} {w : World} {K : PySem.W.Frag} {mg : Str → Option Value} {base : Heap} {cdv : Value} {A : Around} {outer : List Env} {s0 : Shared} {H00 : Hp}
/-- the slots behind the drawing -/
abbrev sgD (a : Addr) (k : Nat) (f : Addr) (n : Nat) (d : Option V) (ra wa ua sa ka pa oa : Addr) (l : List (Option V)) : L2.St := [some (.ref a), some (.int (k : Int)), some (.ref f), some (.int (n : Int)), d, some (.ref ra), some (.ref wa), some (.ref ua), some (.ref sa), some (.ref ka), some (.ref pa), some (.ref oa)] ++ l
theorem law_draw (T : Tx K mg) (hr : Room 60 (lawX P w K mg base cdv A outer s0 H00).A) {rest : List Stmt} {u : TS} (hu : PSsz (lawX P w K mg base cdv A outer s0 H00) rest u) :
    ∃ t, PSsz (lawX P w K mg base cdv A outer s0 H00) (lb 0 :: lb 1 :: lb 2 :: lb 3 :: lb 4 :: lb 5 :: lb 6 :: lb 7 :: rest) t ∧ ∀ (D : Ends) (H : Hp) (a : Addr) (ns : List Int) (k : Nat) (x2 x3 x4 x5 x6 x7 x8 x9 x10 x11 x12 x13 x14 x15 x16 x17 : Option V), SqL K H a (ns.map V.int) → k ≤ 100 →
      (∀ H' f ra wa ua sa ka pa oa n rows ss d, Wd K H H' f ra wa ua sa ka pa oa n rows ss → u D (sgD a k f n d ra wa ua sa ka pa oa [x12, x13, x14, x15, x16, x17, none, none, none]) H') →
      t D [some (.ref a), some (.int (k : Int)), x2, x3, x4, x5, x6, x7, x8, x9, x10, x11, x12, x13, x14, x15, x16, x17, none, none, none] H := by
  refine ⟨_, pssz_cons (psz (ps_set (i := 2) sc_law.nd rfl (.inr rfl) (pc (ok_feed T) (hr.mono (by decide)) (T.glo 9) pass0 (pa_cons (pv 0) (pa_cons (pv 1) pa_nil)))))
    (pssz_cons (psz (ps_asg (pc (ok_routine T) (hr.mono (by decide)) (T.glo 14) pass0 (pa_cons (pv 2) (pa_cons pe_int pa_nil))) (pg_lst rfl (pgs_cons (pg_name (i := 3) sc_law.nd rfl (.inr rfl)) (pgs_cons (pg_name (i := 4) sc_law.nd rfl (.inl rfl)) pgs_nil)))))
    (pssz_cons (psz (ps_asg (pe_tup (pa_cons (StX.pe_makeR T.mkR (ok_rinit T).r (hr.mono (by decide)) (by rfl) (T.glo 28) pass0 (pa_cons (pv 3) (pa_cons (pv 4) pa_nil))) (pa_cons (pc (ok_rows T) (hr.mono (by decide)) (T.glo 15) pass0 (pa_cons (pv 3) (pa_cons (pv 4) pa_nil))) pa_nil)))
      (pg_tup rfl (pgs_cons (pg_name (i := 5) sc_law.nd rfl (.inr rfl)) (pgs_cons (pg_name (i := 6) sc_law.nd rfl (.inr rfl)) pgs_nil)))))
    (pssz_cons (psz (ps_set (i := 7) sc_law.nd rfl (.inr rfl) (pc (ok_rests T 8) (hr.mono (by decide)) (T.glo 16) pass0 (pa_cons pe_int (pa_cons (pe_op op_sub (pv 3) pe_int) (pa_cons (pv 6) pa_nil))))))
    (pssz_cons (psz (ps_setLc (i := 8) (own := [("_law_turn", 18)]) (g := gName 18) (tt := tYes) rfl sc_law.nd rfl rfl (by rfl) (pi_range1 (by rfl) (T.free 5) (pa_cons pe_int pa_nil)) (blkOk_by (N := lawN) (sc := defScope s_law) (by decide +kernel))
      (fun _ _ _ _ _ => pg_name (i := 18) sc_law.nd rfl (Or.inl rfl)) (fun _ _ _ _ _ => pts_nil) (fun _ _ _ _ _ => pc (ok_part T) (hr.mono (by decide)) (T.glo 17) pass0 (pa_cons (pv 2) (pa_cons (pv 6) (pa_cons (pv 7) pa_nil))))))
    (pssz_cons (psz (ps_setLc (i := 9) (own := [("_law_some", 19)]) (g := gName 19) (tt := tYes) rfl sc_law.nd rfl rfl (by rfl) (pi_list (pv 8)) (blkOk_by (N := lawN) (sc := defScope s_law) (by decide +kernel))
      (fun _ _ _ _ _ => pg_name (i := 19) sc_law.nd rfl (Or.inl rfl)) (fun _ _ _ _ _ => pts_nil) (fun _ _ _ _ _ => pc (ok_keeping T) (hr.mono (by decide)) (T.glo 18) pass0 (pa_cons (pv 7) (pa_cons (pv 19) pa_nil)))))
    (pssz_cons (psz (ps_set (i := 10) sc_law.nd rfl (.inr rfl) (pe_lc (own := [("_law_some", 19)]) (g := gName 19) (tt := tYes) rfl sc_law.nd (pi_list (pv 8)) (blkOk_by (N := lawN) (sc := defScope s_law) (by decide +kernel))
      (fun _ _ _ _ _ => pg_name (i := 19) sc_law.nd rfl (Or.inl rfl)) (fun _ _ _ _ _ => pts_nil) (fun _ _ _ _ _ => StX.pe_makeR (C := cP K) (f := He.ma K (cP K) "__init__") T.mkP (ok_pinit T).r (hr.mono (by decide)) (by rfl) (T.glo 29) pass0 (pa_cons (pv 5) (pa_cons (pv 19) pa_nil))))))
    (pssz_cons (psz (ps_set (i := 11) sc_law.nd rfl (.inr rfl) (pe_lc (own := [("_law_some", 19)]) (g := gName 19) (tt := tYes) rfl sc_law.nd (pi_list (pv 8)) (blkOk_by (N := lawN) (sc := defScope s_law) (by decide +kernel))
      (fun _ _ _ _ _ => pg_name (i := 19) sc_law.nd rfl (Or.inl rfl)) (fun _ _ _ _ _ => pts_nil) (fun _ _ _ _ _ => StX.pe_makeR (C := cP K) (f := He.ma K (cP K) "__init__") T.mkP (ok_pinit T).r (hr.mono (by decide)) (by rfl) (T.glo 29) pass0 (pa_cons (StX.pe_makeR (C := cR K) (f := He.ma K (cR K) "__init__") T.mkR (ok_rinit T).r (hr.mono (by decide)) (by rfl) (T.glo 28) pass0 (pa_cons (pv 3) (pa_cons (pv 6) pa_nil)))
        (pa_cons (pc (ok_named T) (hr.mono (by decide)) (T.glo 19) pass0 (pa_cons (pv 2) (pa_cons (pv 19) pa_nil))) pa_nil))))))
    hu))))))), ?_⟩
  intro D H a ns k x2 x3 x4 x5 x6 x7 x8 x9 x10 x11 x12 x13 x14 x15 x16 x17 ha hk q
  refine ⟨_, rfl, _, rfl, a, ns, k, rfl, ha, hk, fun f H1 s1 nf hf => ?_⟩
  refine ⟨_, rfl, f, 8, rfl, hf, by decide, by decide, fun p l n drawn H2 g2 hp hl hv hnd hn2 hn8 => ⟨p, _, rfl, .inl (.inl hp), rfl, _, _, rfl, _, _, rfl, rfl, ?_⟩⟩
  have hdl : drawn.length ≤ 100 := by
    have h1 := val_len hnd hv
    have h2 : n * n ≤ 8 * 8 := Nat.mul_le_mul hn8 hn8
    omega
  refine ⟨_, rfl, _, rfl, use_mkR hl hn2 (by omega) hnd hv (by omega) fun ra H3 s3 nra _ hrt => ?_⟩
  refine ⟨_, rfl, _, rfl, n, l, drawn, rfl, TL.same s3 hl, by omega, by omega, fun wa H4 s4 nwa hw => ⟨show 2 ≤ sizeLine by decide, fun t ht => ⟨t, _, rfl, .inl (.inl upd_same), rfl, _, _, rfl, _, _, rfl, rfl, ?_⟩⟩⟩
  have st := Same.new (o := HO.tup [V.ref ra, V.ref wa]) ht
  have g5 := g2.trans (Go.of g2.fd ((s3.trans s4).trans st))
  have hrt5 := (hrt.same s4).same st
  have hw5 := TL.same st hw
  generalize upd H4 t (.tup [V.ref ra, V.ref wa]) = H5 at g5 hrt5 hw5
  have hsrt := rowsOf_sorted n drawn
  have hval := rowsOf_val n drawn
  have hrl : (rowsOf n drawn).length ≤ 100 := by rw [rowsOf_len hnd hv]; exact hdl
  generalize rowsOf n drawn = rows at hrt5 hw5 hsrt hval hrl
  have e1 : ((n : Int) - 1) = ((n - 1 : Nat) : Int) := by omega
  refine ⟨_, rfl, _, _, rfl, rfl, _, rfl, 0, n - 1, wa, rows, (show [V.int 0, V.int ((n : Int) - 1), V.ref wa] = _ by rw [e1]; rfl), hw5, Nat.zero_le _, by omega, by omega, fun ua H6 s6 nua hu6 => ?_⟩
  have g6 := g5.trans (Go.of g5.fd s6)
  have hrt6 := hrt5.same s6
  have hw6 := TL.same s6 hw5
  have hbig := rests_big (last := n - 1) (js := rows) (f := 8) (x := 0) (by omega) (Nat.zero_le _)
  have hshort : ∀ r ∈ rests (n - 1) rows 8 0, r.length ≤ 1000 := fun r hr => by
    have := rests_short (n - 1) rows 8 0 (Nat.zero_le _) r hr
    omega
  generalize hruns : rests (n - 1) rows 8 0 = runs at hu6 hbig hshort
  -- the sets
  refine ⟨3, rfl, by decide, by decide, fun D1 hD1 => ?_⟩
  have hD1f : D1 ≠ f := fd_ne g6.fd hD1
  show ∃ W : Nat → Nat → Hp → Prop, _
  refine lc_rangeK (n := 3) (· = f) (fun H => Fd H f) (fun i acc H' => ∃ ss : Nat → List J, Ac (rTLo D1 ss) i acc H' ∧ ∀ m, m < i → (ss m).Sublist rows) hD1 (show 3 < sizeLine by decide) g6.fd (fun H l h => fd_upd h hD1f) ⟨fun _ => [], Ac.nil, fun m h => by omega⟩ ?_ ?_
  · rintro i hi acc H' Ny Nn kp hf' eD ⟨ss, hac, hsub⟩ hy hnn
    have gk : Go f H6 H' := Kp.go kp hf'
    refine ⟨rfl, _, rfl, _, rfl, _, rfl, f, wa, ua, rows, runs, rfl, hf', TL.go g6.fd gk hw6, TL.go g6.fd gk hu6, hrl, by omega, hshort, fun l s' H7 g7 nl hl7 hs7 => ?_⟩
    have eD7 := g7.kp _ _ hD1f eD
    have nlD : l ≠ D1 := fun z => by rw [z, eD] at nl; cases nl
    refine hy _ _ eD7 (kp.trans g7.kp') g7.fd ⟨fun m => if m = i then s' else ss m, hac.snoc (fun m v hm hR => ?_) ⟨l, rfl, nlD, ?_⟩, fun m hm => ?_⟩
    · obtain ⟨p, e, np, tp⟩ := hR
      refine ⟨p, e, np, ?_⟩
      show TL _ p ((if m = i then s' else ss m).map jl)
      rw [if_neg (show ¬ m = i by omega)]
      exact (TL.go hf' g7 tp).off np eD7
    · show TL _ l ((if i = i then s' else ss i).map jl)
      rw [if_pos rfl]
      exact hl7.off nlD eD7
    · by_cases e : m = i
      · show (if m = i then s' else ss m).Sublist rows
        rw [if_pos e]; exact hs7
      · show (if m = i then s' else ss m).Sublist rows
        rw [if_neg e]; exact hsub m (by omega)
  rintro acc1 H7 kp7 hf7 eD1 ⟨ss, hac1, hsub⟩
  have g67 : Go f H6 H7 := Kp.go kp7 hf7
  have hrt7 := hrt6.go g6.fd g67
  have hw7 := TL.go g6.fd g67 hw6
  have hu7 := TL.go g6.fd g67 hu6
  have hssl : ∀ m, m < 3 → (ss m).length ≤ 100 := fun m hm => Nat.le_trans (hsub m hm).length_le hrl
  have hD1f7 := hD1f
  -- what is kept
  refine ⟨_, rfl, D1, rfl, ⟨acc1, .inl (.inl eD1)⟩, fun D2 hD2 => ?_⟩
  refine lc_listK (K := K) (a := D1) (xs := acc1) No (fun _ => True) (fun i acc H' => Ac (rKpo D2 fun m => keep (ss m) runs) i acc H') hD2 (by rw [hac1.1]; decide) trivial (fun _ _ _ => trivial) Ac.nil (fun H' k _ => .inl (.inl (k.same _ _ eD1))) ?_ ?_
  · intro i x hx acc H' Ny Nn kk _ eD hP hy hnn
    have hi : i < 3 := by rw [← hac1.1]; exact (List.getElem?_eq_some_iff.mp hx).1
    obtain ⟨p, rfl, _, hp⟩ := hac1.2 i x hx
    refine ⟨rfl, _, rfl, _, rfl, ua, p, runs, ss i, rfl, TL.same kk.same hu7, TL.same kk.same hp, by omega, hshort, fun l H9 s9 nl hl9 => ?_⟩
    have eD9 := s9 _ _ eD
    have nlD : l ≠ D2 := fun z => by rw [z, eD] at nl; cases nl
    exact hy _ _ eD9 (kk.trans (Same.kp s9)) trivial (hP.snoc (fun m v _ ⟨p, e, np, tp⟩ => ⟨p, e, np, (TL.same s9 tp).off np eD9⟩) ⟨l, rfl, nlD, hl9.off nlD eD9⟩)
  intro acc2 H8 kp8 _ eD2 hac2
  rw [hac1.1] at hac2
  have s78 := kp8.same
  have eD18 := s78 _ _ eD1
  have hrt8 := hrt7.same s78
  have hac18 : Ac (rTL ss) 3 acc1 H8 := ⟨hac1.1, fun m v hv => let ⟨p, e, _, tp⟩ := hac1.2 m v hv; ⟨p, e, TL.same s78 tp⟩⟩
  -- the parts
  refine ⟨_, rfl, D1, rfl, ⟨acc1, .inl (.inl eD18)⟩, fun D3 hD3 => ?_⟩
  have hro8 := hrt8.off hD3
  refine lc_listK (K := K) (a := D1) (xs := acc1) No (fun _ => True) (fun i acc H' => Ac (rPto K D3 n rows ss) i acc H') hD3 (by rw [hac1.1]; decide) trivial (fun _ _ _ => trivial) Ac.nil (fun H' k _ => .inl (.inl (k.same _ _ eD18))) ?_ ?_
  · intro i x hx acc H' Ny Nn kk _ eD hP hy hnn
    have hi : i < 3 := by rw [← hac1.1]; exact (List.getElem?_eq_some_iff.mp hx).1
    obtain ⟨p, rfl, hp⟩ := hac18.2 i x hx
    refine ⟨rfl, _, rfl, _, rfl, use_mkP (hrt8.same kk.same) (sorted_nodup hsrt) (TL.same kk.same hp) (by have := hssl i hi; omega) (fun j hj => (hsub i hi).subset hj) fun x H9 s9 nx hpo hpt => ?_⟩
    have eD9 := s9 _ _ eD
    have hpo' := hpo D3 (by rw [eD]; exact fun z => by cases z) (hro8.same kk.same)
    rw [filter_sub hsrt (hsub i hi)] at hpo'
    exact hy _ _ eD9 (kk.trans (Same.kp s9)) trivial (hP.snoc (fun m v _ ⟨p, e, tp⟩ => ⟨p, e, (tp.same s9).upd eD9⟩) ⟨x, rfl, hpo'.upd eD9⟩)
  intro acc3 H9 kp9 _ eD3 hac3
  rw [hac1.1] at hac3
  have s89 := kp9.same
  have eD19 := s89 _ _ eD18
  have hw9 := TL.same (s78.trans s89) hw7
  have fd9 : Fd H9 f := (hf7.same s78).same s89
  have hac19 : Ac (rTL ss) 3 acc1 H9 := hac18.keep fun m v ⟨p, e, tp⟩ => ⟨p, e, TL.same s89 tp⟩
  -- the others
  refine ⟨_, rfl, D1, rfl, ⟨acc1, .inl (.inl eD19)⟩, fun D4 hD4 => ?_⟩
  have hD4f : D4 ≠ f := fd_ne fd9 hD4
  refine lc_listK (K := K) (a := D1) (xs := acc1) (· = f) (fun H => Fd H f) (fun i acc H' => Ac (rPto K D4 n rows ss) i acc H') hD4 (by rw [hac1.1]; decide) fd9 (fun H l h => fd_upd h hD4f) Ac.nil (fun H' k _ => .inl (.inl (k _ _ hD1f eD19))) ?_ ?_
  · intro i x hx acc H' Ny Nn kk hf' eD hP hy hnn
    have hi : i < 3 := by rw [← hac1.1]; exact (List.getElem?_eq_some_iff.mp hx).1
    obtain ⟨p, rfl, hp⟩ := hac19.2 i x hx
    have gk : Go f H9 H' := Kp.go kk hf'
    refine ⟨rfl, _, rfl, _, rfl, use_mkR (TL.go fd9 gk hw9) hn2 (by omega) (sorted_nodup hsrt) hval (by omega) fun r2 H10 s10 nr2 hro hrt2 => ?_⟩
    rw [rowsOf_sorted_eq hsrt hval] at hrt2
    have hro' := hro D4 (by rw [eD]; exact fun z => by cases z)
    rw [rowsOf_sorted_eq hsrt hval] at hro'
    have fd10 := hf'.same s10
    have eD10 := s10 _ _ eD
    refine ⟨_, rfl, _, rfl, f, p, ss i, rfl, fd10, TL.same s10 (TL.go fd9 gk hp), hssl i hi, fun l ks H11 g11 nl hl11 hks hkl => ?_⟩
    have eD11 := g11.kp _ _ hD4f eD10
    refine use_mkP (hrt2.go fd10 g11) (sorted_nodup hsrt) hl11 hkl (fun j hj => (hsub i hi).subset ((hks j).mp hj)) fun x H12 s12 nx hpo hpt => ?_
    have eD12 := s12 _ _ eD11
    have hpo' := hpo D4 (by rw [eD11]; exact fun z => by cases z) (hro'.go fd10 g11)
    rw [filter_same hks, filter_sub hsrt (hsub i hi)] at hpo'
    have g12 : Go f H' H12 := ((Go.of hf' s10).trans g11).trans (Go.of g11.fd s12)
    exact hy _ _ eD12 (kk.trans g12.kp') g12.fd (hP.snoc (fun m v _ ⟨p, e, tp⟩ => ⟨p, e, (tp.go hf' g12).upd eD12⟩) ⟨x, rfl, hpo'.upd eD12⟩)
  intro acc4 H10 kp10 hf10 eD4 hac4
  rw [hac1.1] at hac4
  have g910 : Go f H9 H10 := Kp.go kp10 hf10
  have gall : Go f H1 H10 := (((g6.trans g67).trans (Go.of hf7 s78)).trans (Go.of (hf7.same s78) s89)).trans g910
  have sall : Same H H10 := fun b o e => gall.kp b o (ne_of_none e nf) (s1 _ _ e)
  have s79 := s78.trans s89
  have g710 : Go f H7 H10 := (Go.of hf7 s79).trans g910
  refine q H10 f ra wa ua D1 D2 D3 D4 n rows ss _ ⟨sall, hf10, nf, hn2, hn8, hsrt, hval, hrt7.go hf7 g710, TL.go hf7 g710 hw7, ?_, hsub, ?_, ?_, ?_, ?_⟩
  · rw [hruns]; exact TL.go hf7 g710 hu7
  · exact (hac19.keep fun m v ⟨p, e, tp⟩ => ⟨p, e, TL.go fd9 g910 tp⟩).l3 (g910.kp _ _ hD1f eD19)
  · have h2 : Ac (rKp fun m => keep (ss m) runs) 3 acc2 H10 := ⟨hac2.1, fun m v hv => let ⟨p, e, _, tp⟩ := hac2.2 m v hv; ⟨p, e, TL.go fd9 g910 (TL.same s89 tp)⟩⟩
    rw [hruns]
    exact h2.l3 (g910.kp _ _ (fd_ne hf7 hD2) (s89 _ _ eD2))
  · have h3 : Ac (rPt K n rows ss) 3 acc3 H10 := ⟨hac3.1, fun m v hv => let ⟨p, e, tp⟩ := hac3.2 m v hv; ⟨p, e, (tp.pt).go fd9 g910⟩⟩
    exact h3.l3 (g910.kp _ _ (fd_ne (hf7.same s78) hD3) eD3)
  · have h4 : Ac (rPt K n rows ss) 3 acc4 H10 := ⟨hac4.1, fun m v hv => let ⟨p, e, tp⟩ := hac4.2 m v hv; ⟨p, e, tp.pt⟩⟩
    exact h4.l3 eD4
end
end Rl

set_option Elab.async false
set_option linter.all false
set_option maxRecDepth 100000
set_option maxHeartbeats 4000000
/-! D32: the law's checks of parts and others. -/
namespace Rl
open PySem PySem.Spec PyProof.Rows L2 Zed
/-- what kept_run_by and not_in tell, as data -/
def dO : Option (List Nat) → PyData
  | none => .none
  | some r => td r
theorem shaped_dO (o : Option (List Nat)) : SeqAt.shaped (dO o) = true := by
  cases o with
  | none => decide
  | some r => exact shaped_td r
theorem eqv_dO (o : Option (List Nat)) : PyData.eqv (dO o) (dO o) = true := by
  cases o with
  | none => rfl
  | some r => show PyData.eqv (td r) (td r) = true; rw [eqv_td]; simp
section
variable {P : Program} {w : World} {K : PySem.W.Frag} {mg : Str → Option Value} {base : Heap} {cdv : Value} {A : Around} {outer : List Env} {s0 : Shared} {H00 : Hp}
theorem Wd.same {H0 H H' : Hp} {f ra wa ua sa ka pa oa : Addr} {n : Nat} {rows : List J} {ss : Nat → List J} (h : Wd K H0 H f ra wa ua sa ka pa oa n rows ss) (k : Same H H') : Wd K H0 H' f ra wa ua sa ka pa oa n rows ss :=
  ⟨h.sm.trans k, h.fd.same k, h.fnew, h.n2, h.n8, h.srt, h.val, h.rt.same k, TL.same k h.rw_, TL.same k h.ru_, h.sub, h.st.same k fun m v ⟨p, e, t⟩ => ⟨p, e, TL.same k t⟩, h.kp.same k fun m v ⟨p, e, t⟩ => ⟨p, e, TL.same k t⟩, h.pt.same k fun m v ⟨p, e, t⟩ => ⟨p, e, t.same k⟩, h.ot.same k fun m v ⟨p, e, t⟩ => ⟨p, e, t.same k⟩⟩
theorem Wd.go {H0 H H' : Hp} {f ra wa ua sa ka pa oa : Addr} {n : Nat} {rows : List J} {ss : Nat → List J} (h : Wd K H0 H f ra wa ua sa ka pa oa n rows ss) (g : Go f H H') : Wd K H0 H' f ra wa ua sa ka pa oa n rows ss :=
  ⟨fun b o e => g.kp b o (ne_of_none e h.fnew) (h.sm _ _ e), g.fd, h.fnew, h.n2, h.n8, h.srt, h.val, h.rt.go h.fd g, TL.go h.fd g h.rw_, TL.go h.fd g h.ru_, h.sub, h.st.go h.fd g fun m v ⟨p, e, t⟩ => ⟨p, e, TL.go h.fd g t⟩, h.kp.go h.fd g fun m v ⟨p, e, t⟩ => ⟨p, e, TL.go h.fd g t⟩,
    h.pt.go h.fd g fun m v ⟨p, e, t⟩ => ⟨p, e, t.go h.fd g⟩, h.ot.go h.fd g fun m v ⟨p, e, t⟩ => ⟨p, e, t.go h.fd g⟩⟩
theorem Wd.sv {H0 H : Hp} {f ra wa ua sa ka pa oa : Addr} {n : Nat} {rows : List J} {ss : Nat → List J} (h : Wd K H0 H f ra wa ua sa ka pa oa n rows ss) {m : Nat} (hm : m < 3) : (ss m).Pairwise lexLt ∧ Val n (ss m) ∧ (∀ j ∈ ss m, j ∈ rows) ∧ Us n (useful n (ss m)) ∧ ∀ j ∈ useful n (ss m), j ∈ rows := by
  have h1 := h.srt.sublist (h.sub m hm)
  have h2 : Val n (ss m) := fun j hj => h.val j ((h.sub m hm).subset hj)
  have h3 : ∀ j ∈ ss m, j ∈ rows := fun j hj => (h.sub m hm).subset hj
  exact ⟨h1, h2, h3, us_useful h1 h2 (by have := h.n8; omega), fun j hj => h3 j (mem_useful.mp hj).1⟩
theorem Wd.lens {H0 H : Hp} {f ra wa ua sa ka pa oa : Addr} {n : Nat} {rows : List J} {ss : Nat → List J} (h : Wd K H0 H f ra wa ua sa ka pa oa n rows ss) (m : Nat) : (keep (ss m) (rests (n - 1) rows 8 0)).length ≤ 1000000 ∧ (∀ r ∈ keep (ss m) (rests (n - 1) rows 8 0), r.length ≤ 1000) ∧ rows.length ≤ 100 := by
  have hn := h.n8
  have h1 := rests_big (last := n - 1) (js := rows) (f := 8) (x := 0) (by omega) (Nat.zero_le _)
  refine ⟨Nat.le_trans (List.length_filter_le ..) (by omega), fun r hr => ?_, ?_⟩
  · have := rests_short (n - 1) rows 8 0 (Nat.zero_le _) r (mem_keep.mp hr).1
    omega
  · have h2 := val_len (sorted_nodup h.srt) h.val
    have h3 : n * n ≤ 8 * 8 := Nat.mul_le_mul hn hn
    omega
/-- kept_run_by of a part that stands, told as data -/
theorem use_krb {H : Hp} {p pj : Addr} {n : Nat} {rows al us : List J} {j : J} {R : VK} {E : XK} (hp : PtAt K H p n rows al us) (hj : Tp H (.ref pj) (jl j)) (hr : j ∈ rows) (hu : Us n us) (hR : ∀ v H', Same H H' → Dp K H' v (dO (runBy n us j)) → R v H') : sp_krb K [.ref p, .ref pj] H R E :=
  ⟨p, .ref pj, n, rows, al, us, rfl, hp, .inl ⟨j, hj, hr, hu, fun H' s e => hR _ _ s (by rw [e]; exact .non), fun H' x r s e ht => hR _ _ s (by rw [e]; exact ht.dp)⟩⟩
theorem use_notin {H : Hp} {p p' : Addr} {n : Nat} {rows al us al' us' : List J} {R : VK} {E : XK} (hp : PtAt K H p n rows al us) (hp' : PtAt K H p' n rows al' us') (hu : Us n us) (hs : ∀ j ∈ us, j ∈ rows) (hR : ∀ v H', Same H H' → Dp K H' v (dO (notIn n us al')) → R v H') : sp_notin K [.ref p, .ref p'] H R E :=
  ⟨p, p', n, n, rows, al, us, rows, al', us', rfl, hp, hp', .inl ⟨⟨rfl, rfl⟩, hu, hs, fun H' s e => hR _ _ s (by rw [e]; exact .non), fun H' x r s e ht => hR _ _ s (by rw [e]; exact ht.dp)⟩⟩
theorem pt_ins {H : Hp} {p : Addr} {n : Nat} {js al us : List J} (h : PtAt K H p n js al us) : ∃ dx r d l, H p = some (.ins (cP K) dx (ptF r d l)) := let ⟨dx, r, d, l, e, _⟩ := h; ⟨dx, r, d, l, e⟩
theorem law_check (T : Tx K mg) (hr : Room 60 (lawX P w K mg base cdv A outer s0 H00).A) :
    ∃ t, PS (lawX P w K mg base cdv A outer s0 H00) (lb 8) t ∧ ∀ (D : Ends) (H0 H : Hp) (a f ra wa ua sa ka pa oa : Addr) (k n : Nat) (rows : List J) (ss : Nat → List J) (d x12 x13 x14 x15 x16 x17 : Option V), Wd K H0 H f ra wa ua sa ka pa oa n rows ss →
      (∀ H' y12 y13, Same H H' → D.nx (sgD a k f n d ra wa ua sa ka pa oa [y12, y13, x14, x15, x16, x17, none, none, none]) H') → t D (sgD a k f n d ra wa ua sa ka pa oa [x12, x13, x14, x15, x16, x17, none, none, none]) H := by
  refine ⟨_, ps_for PassesOwn.never rfl (pi_range1 (by rfl) (T.free 5) (pa_cons pe_int pa_nil)) (pg_name (i := 12) sc_law.nd rfl (.inr rfl))
    (pss_cons (ps_if (pt_not (pt_val (pc (ok_rbr T) (hr.mono (by decide)) (T.glo 23) pass0 (pa_cons (pe_ix ix_list (pv 10) (pv 12) (fun _ _ => rfl)) (pa_cons (pv 6) (pa_cons (pe_ix ix_list (pv 9) (pv 12) (fun _ _ => rfl)) pa_nil)))))) pss_never pss_nil)
    (pss_cons (ps_if (pt_cmpR (op_neD (ru4 hr)) (pe_lc (own := [("_law_one", 20)]) (g := gName 20) rfl sc_law.nd (pi_list (pv 6)) (blkOk_by (N := lawN) (sc := defScope s_law) (by decide +kernel))
        (fun _ _ _ _ _ => pg_name (i := 20) sc_law.nd rfl (Or.inl rfl)) (fun _ _ _ _ _ => pts_one (pt_cmpR (r := rNeD K) (op_neD (ru4 hr)) (pm (C := cP K) (sp := sp_krb K) (pe_ix (r := rIxL K) ix_list (pv 10) (pv 12) (fun _ _ => rfl)) T.pt (T.mP 2) (ok_krb T) (hr.mono (by decide)) passL (pa_cons (pv 20) pa_nil)) (pm (C := cP K) (sp := sp_krb K) (pe_ix (r := rIxL K) ix_list (pv 11) (pv 12) (fun _ _ => rfl)) T.pt (T.mP 2) (ok_krb T) (hr.mono (by decide)) passL (pa_cons (pv 20) pa_nil)) (nomark _))) (fun _ _ _ _ _ => pv 20)) (pe_lst pa_nil) (nomark _)) pss_never pss_nil)
    (pss_one (ps_for PassesOwn.never rfl (pi_range1 (by rfl) (T.free 5) (pa_cons pe_int pa_nil)) (pg_name (i := 13) sc_law.nd rfl (.inl rfl))
      (pss_cons (ps_if (pt_not (pt_val (pc (ok_nir T) (hr.mono (by decide)) (T.glo 24) pass0 (pa_cons (pe_ix ix_list (pv 10) (pv 12) (fun _ _ => rfl)) (pa_cons (pe_ix ix_list (pv 10) (pv 13) (fun _ _ => rfl)) (pa_cons (pe_ix ix_list (pv 9) (pv 12) (fun _ _ => rfl)) (pa_cons (pe_ix ix_list (pv 9) (pv 13) (fun _ _ => rfl)) pa_nil))))))) pss_never pss_nil)
      (pss_one (ps_if (pt_cmpR (op_neD (ru4 hr)) (pm (pe_ix ix_list (pv 10) (pv 12) (fun _ _ => rfl)) T.pt (T.mP 3) (ok_notin T) (hr.mono (by decide)) passL (pa_cons (pe_ix ix_list (pv 10) (pv 13) (fun _ _ => rfl)) pa_nil)) (pm (pe_ix ix_list (pv 11) (pv 12) (fun _ _ => rfl)) T.pt (T.mP 3) (ok_notin T) (hr.mono (by decide)) passL (pa_cons (pe_ix ix_list (pv 11) (pv 13) (fun _ _ => rfl)) pa_nil)) (nomark _)) pss_never pss_nil))))))), ?_⟩
  intro D H0 H a f ra wa ua sa ka pa oa k n rows ss d x12 x13 x14 x15 x16 x17 hW q
  have ix : ∀ {H' : Hp} {c : Addr} {vs : List V} {m : Nat} {v : V}, H' c = some (.lst vs) → vs[m]? = some v → SqL K H' c vs ∧ atI vs ((0 : Int) + (m : Int)) = some v := fun {H' c vs m v} e h => by
    have e0 : ((0 : Int) + (m : Int)) = ((m : Nat) : Int) := by omega
    rw [e0]
    exact ⟨.inl (.inl e), atI_nat h⟩
  refine ⟨3, rfl, by decide, by decide, ?_⟩
  show ∃ W : Nat → Nat → L2.St → Hp → Prop, _
  refine for_range (n := 3) (fun i σ H' => ∃ y12 y13, σ = sgD a k f n d ra wa ua sa ka pa oa [y12, y13, x14, x15, x16, x17, none, none, none] ∧ Same H H') ⟨x12, x13, rfl, Same.refl H⟩ ?_ ?_
  · rintro i σ H1 hi ⟨y12, y13, rfl, k1⟩
    have W1 := hW.same k1
    obtain ⟨v1, v2, v3, v4, v5⟩ := W1.sv hi
    obtain ⟨pvs, pv_, ep, hpv, ⟨p, rfl, hp⟩⟩ := W1.pt.at_ hi
    obtain ⟨kvs, kv_, ek, hkv, ⟨kk, rfl, hk⟩⟩ := W1.kp.at_ hi
    obtain ⟨ovs, ov_, eo, hov, ⟨o, rfl, ho⟩⟩ := W1.ot.at_ hi
    obtain ⟨l1, l2, l3⟩ := W1.lens i
    have hn8 := W1.n8
    have hn2 := W1.n2
    -- kept_run_by
    refine ⟨_, rfl, _, rfl, pa, pvs, _, _, rfl, rfl, (ix ep hpv).1, (ix ep hpv).2, _, rfl, _, rfl, _, rfl, ka, kvs, _, _, rfl, rfl, (ix ek hkv).1, (ix ek hkv).2, ?_⟩
    refine ⟨p, wa, kk, n, rows, ss i, useful n (ss i), _, rfl, hp, W1.rw_, hk, v4, rb_right v1 v2 W1.val v3 (by omega) hn2 (by omega), l1, l2, fun H2 s2 => ⟨_, rfl, iteF ?_⟩⟩
    have W2 := W1.same s2
    have hp2 := hp.same s2
    have ho2 := ho.same s2
    have ep2 := s2 _ _ ep
    have eo2 := s2 _ _ eo
    obtain ⟨wvs, hwv, hwt⟩ := W2.rw_
    refine ⟨_, rfl, wa, rfl, ⟨wvs, .inl (.inl hwv)⟩, fun D1 hD1 => ?_⟩
    refine lc_listK (K := K) (a := wa) (xs := wvs) No (fun _ => True) (fun i acc _ => acc = []) hD1 (by rw [hwt.lenm]; exact small1000 (by omega)) trivial (fun _ _ _ => trivial) rfl (fun H' k _ => .inl (.inl (k.same _ _ hwv))) ?_ ?_
    · rintro ii xx hxx acc H' Ny Nn kx _ eD rfl hy hnn
      obtain ⟨j, ej, pj, rfl, hpj⟩ := hwt.item hxx
      have hjr := List.mem_of_getElem? ej
      have ks := kx.same
      obtain ⟨dx, r, dd, l, gi⟩ := pt_ins hp2
      obtain ⟨dx', r', dd', l', gi'⟩ := pt_ins ho2
      refine ⟨rfl, _, rfl, _, rfl, pa, pvs, _, _, rfl, rfl, (ix (ks _ _ ep2) hpv).1, (ix (ks _ _ ep2) hpv).2, p, dx, _, rfl, ks _ _ gi, rfl, _, rfl, ?_⟩
      dsimp only [tNil]
      refine use_krb (hp2.same ks) ⟨pj, rfl, ks _ _ hpj⟩ hjr v4 fun w1 H3 s3 h3 => ?_
      have ks3 := ks.trans s3
      refine ⟨_, rfl, _, rfl, oa, ovs, _, _, rfl, rfl, (ix (ks3 _ _ eo2) hov).1, (ix (ks3 _ _ eo2) hov).2, o, dx', _, rfl, ks3 _ _ gi', rfl, _, rfl, ?_⟩
      dsimp only [tNil]
      refine use_krb (ho2.same ks3) ⟨pj, rfl, ks3 _ _ hpj⟩ hjr v4 fun w2 H4 s4 h4 => ?_
      refine ⟨_, _, dp_same s4 h3, h4, shaped_dO _, shaped_dO _, _, rfl, ?_⟩
      rw [eqv_dO]
      exact iteF (hnn H4 (s4 _ _ (s3 _ _ eD)) (kx.trans (Same.kp (s3.trans s4))) trivial rfl)
    rintro acc H3 kx _ eD rfl
    have s3 := kx.same
    refine ⟨show 0 ≤ sizeLine from Nat.zero_le _, fun e he => ?_⟩
    have se := Same.new (o := HO.lst []) he
    refine ⟨_, _, Dp.lst (ds := []) (.inl (.inl (se _ _ eD))) .nil, Dp.lst (ds := []) (.inl (.inl upd_same)) .nil, by decide, by decide, _, rfl, iteF ?_⟩
    have s14 := (s2.trans s3).trans se
    have k4 := k1.trans s14
    -- not_in
    refine ⟨3, rfl, by decide, by decide, ?_⟩
    show ∃ W : Nat → Nat → L2.St → Hp → Prop, _
    refine for_range (n := 3) (fun ii σ H' => ∃ y13, σ = sgD a k f n d ra wa ua sa ka pa oa [some (.int ((0 : Int) + (i : Int))), y13, x14, x15, x16, x17, none, none, none] ∧ Same H H') ⟨y13, rfl, k4⟩ ?_ ?_
    · rintro ii σ H5 hii ⟨z13, rfl, k5⟩
      have W5 := hW.same k5
      obtain ⟨pvs, pv_, ep, hpv, ⟨p, rfl, hp⟩⟩ := W5.pt.at_ hi
      obtain ⟨pvs2, pv2_, ep2, hpv2, ⟨p2, rfl, hp2⟩⟩ := W5.pt.at_ hii
      obtain ⟨kvs, kv_, ek, hkv, ⟨kk, rfl, hk⟩⟩ := W5.kp.at_ hi
      obtain ⟨kvs2, kv2_, ek2, hkv2, ⟨kk2, rfl, hk2⟩⟩ := W5.kp.at_ hii
      obtain ⟨ovs, ov_, eo, hov, ⟨o, rfl, ho⟩⟩ := W5.ot.at_ hi
      obtain ⟨ovs2, ov2_, eo2, hov2, ⟨o2, rfl, ho2⟩⟩ := W5.ot.at_ hii
      obtain ⟨u1, u2, u3, u4, u5⟩ := W5.sv hii
      refine ⟨_, rfl, _, rfl, pa, pvs, _, _, rfl, rfl, (ix ep hpv).1, (ix ep hpv).2, _, rfl, _, rfl, pa, pvs2, _, _, rfl, rfl, (ix ep2 hpv2).1, (ix ep2 hpv2).2, _, rfl, _, rfl, ka, kvs, _, _, rfl, rfl, (ix ek hkv).1, (ix ek hkv).2, _, rfl, _, rfl, ka, kvs2, _, _, rfl, rfl, (ix ek2 hkv2).1, (ix ek2 hkv2).2, ?_⟩
      refine ⟨p, p2, kk, kk2, n, rows, ss i, useful n (ss i), ss ii, useful n (ss ii), _, _, rfl, hp, hp2, hk, hk2, v4, v5, ni_right v1 v2 W5.val v3 u3 (by omega) hn2 (by omega), l1, fun H6 s6 => ⟨_, rfl, iteF ?_⟩⟩
      obtain ⟨dx, r, dd, l, gi⟩ := pt_ins hp
      obtain ⟨dx', r', dd', l', gi'⟩ := pt_ins ho
      refine ⟨_, rfl, _, rfl, pa, pvs, _, _, rfl, rfl, (ix (s6 _ _ ep) hpv).1, (ix (s6 _ _ ep) hpv).2, p, dx, _, rfl, s6 _ _ gi, rfl, _, rfl, _, rfl, pa, pvs2, _, _, rfl, rfl, (ix (s6 _ _ ep2) hpv2).1, (ix (s6 _ _ ep2) hpv2).2, ?_⟩
      dsimp only [tNil]
      refine use_notin (hp.same s6) (hp2.same s6) v4 v5 fun w1 H7 s7 h7 => ?_
      have s67 := s6.trans s7
      refine ⟨_, rfl, _, rfl, oa, ovs, _, _, rfl, rfl, (ix (s67 _ _ eo) hov).1, (ix (s67 _ _ eo) hov).2, o, dx', _, rfl, s67 _ _ gi', rfl, _, rfl, _, rfl, oa, ovs2, _, _, rfl, rfl, (ix (s67 _ _ eo2) hov2).1, (ix (s67 _ _ eo2) hov2).2, ?_⟩
      dsimp only [tNil]
      refine use_notin (ho.same s67) (ho2.same s67) v4 v5 fun w2 H8 s8 h8 => ?_
      refine ⟨_, _, dp_same s8 h7, h8, shaped_dO _, shaped_dO _, _, rfl, ?_⟩
      rw [eqv_dO]
      exact iteF ⟨_, rfl, k5.trans (s67.trans s8)⟩
    · rintro σ H5 ⟨z13, rfl, k5⟩
      exact ⟨_, _, rfl, k5⟩
  · rintro σ H1 ⟨y12, y13, rfl, k1⟩
    exact q H1 _ _ k1
end
end Rl

set_option Elab.async false
set_option linter.all false
set_option maxRecDepth 100000
set_option maxHeartbeats 4000000
/-! D33: what is no jump of the routine. -/
namespace Rl
open PySem PySem.Spec PyProof.Rows L2 Zed
instance (d : PyData) : Decidable (Sm d) := inferInstanceAs (Decidable (_ ∧ _ ∧ _ ∧ _ ∧ _))
theorem sm_none : Sm .none := by decide +kernel
theorem sm_zero : Sm (.int 0) := by decide +kernel
theorem sm_text : Sm (.str "0 1") := by decide +kernel
theorem sm_list : Sm (.list [.int 0, .int 1]) := by decide +kernel
theorem sm_tru : Sm (.tuple [.int 0, .bool true]) := by decide +kernel
theorem sm_in : Sm (.tuple [.int 0, .list [.int 1]]) := by decide +kernel
theorem sm_two' : ∀ u v : Fin 9, Sm (.tuple [.int ((u.val : Nat) : Int), .int ((v.val : Nat) : Int)]) := by decide +kernel
theorem sm_two {u v : Nat} (hu : u ≤ 8) (hv : v ≤ 8) : Sm (.tuple [.int (u : Int), .int (v : Int)]) := sm_two' ⟨u, by omega⟩ ⟨v, by omega⟩
theorem shaped_txt {a b : Str} (ha : PyData.strOk a = true) (hb : PyData.strOk b = true) : SeqAt.shaped (.tuple [.str a, .str b]) = true := by
  show (PyData.canLay0 (.tuple [.str a, .str b]) && decide (PyData.depth (.tuple [.str a, .str b]) ≤ 64)) = true
  rw [Bool.and_eq_true]
  exact ⟨by simp [PyData.canLay0, PyData.canLayAll0, ha, hb], decide_eq_true (by simp [PyData.depth, PyData.depthAll])⟩
theorem eqv_txt (a b : Str) : PyData.eqv (.tuple [.str a, .str b]) (.tuple [.str a, .str b]) = true := by
  simp [PyData.eqv, PyData.eqvAll]
section
variable {P : Program} {w : World} {K : PySem.W.Frag} {mg : Str → Option Value} {base : Heap} {cdv : Value} {A : Around} {outer : List Env} {s0 : Shared} {H00 : Hp}
theorem okk_runby (T : Tx K mg) : PySem.W.keepIn K (.ref (He.ga K "_law_run_by")) = true := by
  obtain ⟨fd, F⟩ := T.def_ (fnAt1 (i := 6) rfl : d_law_run_by ∈ fn)
  exact F.kp
/-- no jump of these rows -/
def Bad (K : PySem.W.Frag) (n : Nat) (rows : List J) (v : V) (H : Hp) : Prop := ∃ d, Dp K H v d ∧ Sm d ∧ (jumpD d (n : Int) = false ∨ ∃ j : J, Tp H v (jl j) ∧ j ∉ rows)
theorem Bad.same {n : Nat} {rows : List J} {v : V} {H H' : Hp} (k : Same H H') (h : Bad K n rows v H) : Bad K n rows v H' := by
  obtain ⟨d, h1, h2, h3⟩ := h
  exact ⟨d, dp_same k h1, h2, h3.elim .inl fun ⟨j, t, z⟩ => .inr ⟨j, t.keep (Same.tk k), z⟩⟩
theorem jumpD_ge {a b n : Int} (h : b ≤ a) : jumpD (.tuple [.int a, .int b]) n = false := by
  show (decide (0 ≤ a) && decide (a ≤ n - 1) && (decide (0 ≤ b) && decide (b ≤ n - 1)) && decide (a < b)) = false
  rw [decide_eq_false (show ¬ a < b by omega), Bool.and_false]
theorem jumpD_big {a b n : Int} (h : n ≤ b) : jumpD (.tuple [.int a, .int b]) n = false := by
  show (decide (0 ≤ a) && decide (a ≤ n - 1) && (decide (0 ≤ b) && decide (b ≤ n - 1)) && decide (a < b)) = false
  rw [decide_eq_false (show ¬ b ≤ n - 1 by omega), Bool.and_false, Bool.and_false, Bool.false_and]
theorem bad_two {H : Hp} {p : Addr} {u v n : Nat} {rows : List J} (hp : H p = some (.tup [.int (u : Int), .int (v : Int)])) (hu : u ≤ 8) (hv : v ≤ 8) (h : v ≤ u ∨ n ≤ v) : Bad K n rows (.ref p) H := by
  refine ⟨.tuple [.int (u : Int), .int (v : Int)], .tup (.inl (.inl hp)) (.cons (.int _) (.cons (.int _) .nil)), sm_two hu hv, .inl ?_⟩
  rcases h with h | h
  · exact jumpD_ge (by omega)
  · exact jumpD_big (by omega)
theorem law_bad (T : Tx K mg) (hr : Room 60 (lawX P w K mg base cdv A outer s0 H00).A) (hgd : (lawX P w K mg base cdv A outer s0 H00).A.guards = some []) {rest : List Stmt} {u : TS} (hu : PSsz (lawX P w K mg base cdv A outer s0 H00) rest u) :
    ∃ t, PSsz (lawX P w K mg base cdv A outer s0 H00) (lb 9 :: lb 10 :: rest) t ∧ ∀ (D : Ends) (H0 H : Hp) (a f ra wa ua sa ka pa oa : Addr) (k n : Nat) (rows : List J) (ss : Nat → List J) (d x12 x13 x14 x15 x16 x17 : Option V), Wd K H0 H f ra wa ua sa ka pa oa n rows ss →
      (∀ H' y14 y15, Wd K H0 H' f ra wa ua sa ka pa oa n rows ss → u D (sgD a k f n d ra wa ua sa ka pa oa [x12, x13, y14, y15, x16, x17, none, none, none]) H') → t D (sgD a k f n d ra wa ua sa ka pa oa [x12, x13, x14, x15, x16, x17, none, none, none]) H := by
  refine ⟨_, pssz_cons (psz (ps_set (i := 14) sc_law.nd rfl (.inl rfl) (pe_lst (pa_cons (pc (ok_lacking T) (hr.mono (by decide)) (T.glo 20) pass0 (pa_cons (pv 2) (pa_cons (pv 3) (pa_cons (pv 6) pa_nil)))) (pa_cons (pe_tup (pa_cons pe_int (pa_cons (pe_lst (pa_cons pe_int pa_nil)) pa_nil))) (pa_cons (pe_tup (pa_cons (pe_op op_sub (pv 3) pe_int) (pa_cons pe_int pa_nil))) pa_nil))))))
    (pssz_cons (psz (ps_for PassesOwn.never rfl (pi_list (pe_op op_cat (pe_lst (pa_cons pe_non (pa_cons pe_int (pa_cons (pe_tup (pa_cons pe_int (pa_cons pe_int pa_nil))) (pa_cons (pe_lst (pa_cons pe_int (pa_cons pe_int pa_nil))) (pa_cons (pe_tup (pa_cons pe_int (pa_cons (pv 3) pa_nil))) (pa_cons (pe_tup (pa_cons pe_int (pa_cons pe_int pa_nil))) (pa_cons (pe_tup (pa_cons pe_int (pa_cons pe_bl pa_nil))) (pa_cons pe_str pa_nil))))))))) (pv 14))) (pg_name (i := 15) sc_law.nd rfl (.inl rfl))
      (pss_one (ps_if (pt_cmpR (op_neD (ru4 hr)) (pcg (ok_runby T) (hr.mono (by decide)) hgd (okk_runby T) (T.glo 21) passL (pa_cons (pe_ix ix_list (pv 10) pe_int (fun _ _ => rfl)) (pa_cons (pv 15) pa_nil))) (pe_tup (pa_cons pe_str (pa_cons (pe_callB (call_reprD hgd (ru hr)) (by rfl) (T.free 14) (by decide +kernel) (pa_cons (pv 15) pa_nil)) pa_nil))) (nomark _)) pss_never pss_nil))))
    hu), ?_⟩
  intro D H0 H a f ra wa ua sa ka pa oa k n rows ss d x12 x13 x14 x15 x16 x17 hW q
  have hn2 := hW.n2
  have hn8 := hW.n8
  refine ⟨_, rfl, _, rfl, _, rfl, f, wa, n, rows, rfl, hW.fd, hW.rw_, hW.val, by omega, fun v j H1 g1 hv ⟨hj1, hj2, hj3⟩ => ?_⟩
  have W1 := hW.go g1
  refine ⟨show 1 ≤ sizeLine by decide, fun l1 hl1 => ⟨show 2 ≤ sizeLine by decide, fun t1 ht1 => ⟨_, rfl, _, _, rfl, rfl, show 2 ≤ sizeLine by decide, fun t2 ht2 => ⟨show 3 ≤ sizeLine by decide, fun lo hlo => ?_⟩⟩⟩⟩
  have e1 : ((n : Int) - 1) = ((n - 1 : Nat) : Int) := by omega
  have c1 := Same.new (o := HO.lst [V.int 1]) hl1
  have c2 := Same.new (o := HO.tup [V.int 0, V.ref l1]) ht1
  have c3 := Same.new (o := HO.tup [V.int ((n : Int) - 1), V.int 0]) ht2
  have c4 := Same.new (o := HO.lst [v, V.ref t1, V.ref t2]) hlo
  have b1 : Bad K n rows v H1 := ⟨td (jl j), hv.dp, sm_two (show j.1 ≤ 8 by omega) (show j.2 ≤ 8 by omega), .inr ⟨j, hv, hj1⟩⟩
  have b2 : Bad K n rows (.ref t1) (upd (upd H1 l1 (.lst [V.int 1])) t1 (.tup [V.int 0, V.ref l1])) :=
    ⟨.tuple [.int 0, .list [.int 1]], .tup (.inl (.inl upd_same)) (.cons (.int _) (.cons (.lst (.inl (.inl (c2 _ _ upd_same))) (.cons (.int _) .nil)) .nil)), sm_in, .inl rfl⟩
  have b3 : Bad K n rows (.ref t2) (upd (upd (upd H1 l1 (.lst [V.int 1])) t1 (.tup [V.int 0, V.ref l1])) t2 (.tup [V.int ((n : Int) - 1), V.int 0])) :=
    bad_two (u := n - 1) (v := 0) (by rw [upd_same, e1]; rfl) (by omega) (by omega) (.inl (Nat.zero_le _))
  have B1 := b1.same (((c1.trans c2).trans c3).trans c4)
  have B2 := b2.same (c3.trans c4)
  have B3 := b3.same c4
  have W2 := W1.same (((c1.trans c2).trans c3).trans c4)
  have hlo' : (upd (upd (upd (upd H1 l1 (.lst [V.int 1])) t1 (.tup [V.int 0, V.ref l1])) t2 (.tup [V.int ((n : Int) - 1), V.int 0])) lo (.lst [v, V.ref t1, V.ref t2])) lo = some (.lst [v, V.ref t1, V.ref t2]) := upd_same
  generalize upd (upd (upd (upd H1 l1 (.lst [V.int 1])) t1 (.tup [V.int 0, V.ref l1])) t2 (.tup [V.int ((n : Int) - 1), V.int 0])) lo (.lst [v, V.ref t1, V.ref t2]) = H2 at B1 B2 B3 W2 hlo'
  refine ⟨show 2 ≤ sizeLine by decide, fun p1 hp1 => ⟨show 2 ≤ sizeLine by decide, fun p2 hp2 => ⟨_, rfl, show 2 ≤ sizeLine by decide, fun p3 hp3 => ⟨show 2 ≤ sizeLine by decide, fun p4 hp4 => ⟨show 2 ≤ sizeLine by decide, fun p5 hp5 => ⟨show 8 ≤ sizeLine by decide, fun l8 hl8 => ⟨_, rfl, ?_⟩⟩⟩⟩⟩⟩⟩
  have d1 := Same.new (o := HO.tup [V.int 0, V.int 0]) hp1
  have d2 := Same.new (o := HO.lst [V.int 0, V.int 1]) hp2
  have d3 := Same.new (o := HO.tup [V.int 0, V.int (n : Int)]) hp3
  have d4 := Same.new (o := HO.tup [V.int 1, V.int 0]) hp4
  have d5 := Same.new (o := HO.tup [V.int 0, V.bl true]) hp5
  have d8 := Same.new (o := HO.lst [V.non, V.int 0, V.ref p1, V.ref p2, V.ref p3, V.ref p4, V.ref p5, V.str "0 1"]) hl8
  have dall := ((((d1.trans d2).trans d3).trans d4).trans d5).trans d8
  refine ⟨l8, lo, _, _, rfl, rfl, upd_same, dall _ _ hlo', show 11 ≤ sizeLine by decide, fun lb_ hlb => ?_⟩
  have d9 := Same.new (o := HO.lst ([V.non, V.int 0, V.ref p1, V.ref p2, V.ref p3, V.ref p4, V.ref p5, V.str "0 1"] ++ [v, V.ref t1, V.ref t2])) hlb
  have B4 := (bad_two (K := K) (n := n) (rows := rows) (u := 0) (v := 0) (H := upd H2 p1 (.tup [V.int 0, V.int 0])) (p := p1) (by rw [upd_same]; rfl) (by omega) (by omega) (.inl (Nat.le_refl _))).same (((((d2.trans d3).trans d4).trans d5).trans d8).trans d9)
  have b5 : Bad K n rows (.ref p2) (upd (upd H2 p1 (.tup [V.int 0, V.int 0])) p2 (.lst [V.int 0, V.int 1])) := ⟨.list [.int 0, .int 1], .lst (.inl (.inl upd_same)) (.cons (.int _) (.cons (.int _) .nil)), sm_list, .inl rfl⟩
  have B5 := b5.same ((((d3.trans d4).trans d5).trans d8).trans d9)
  have b6 : Bad K n rows (.ref p3) (upd (upd (upd H2 p1 (.tup [V.int 0, V.int 0])) p2 (.lst [V.int 0, V.int 1])) p3 (.tup [V.int 0, V.int (n : Int)])) := bad_two (u := 0) (v := n) (by rw [upd_same]; rfl) (by omega) hn8 (.inr (Nat.le_refl _))
  have B6 := b6.same (((d4.trans d5).trans d8).trans d9)
  have b7 : Bad K n rows (.ref p4) (upd (upd (upd (upd H2 p1 (.tup [V.int 0, V.int 0])) p2 (.lst [V.int 0, V.int 1])) p3 (.tup [V.int 0, V.int (n : Int)])) p4 (.tup [V.int 1, V.int 0])) := bad_two (u := 1) (v := 0) (by rw [upd_same]; rfl) (by omega) (by omega) (.inl (Nat.zero_le _))
  have B7 := b7.same ((d5.trans d8).trans d9)
  have b8 : Bad K n rows (.ref p5) (upd (upd (upd (upd (upd H2 p1 (.tup [V.int 0, V.int 0])) p2 (.lst [V.int 0, V.int 1])) p3 (.tup [V.int 0, V.int (n : Int)])) p4 (.tup [V.int 1, V.int 0])) p5 (.tup [V.int 0, V.bl true])) := ⟨.tuple [.int 0, .bool true], .tup (.inl (.inl upd_same)) (.cons (.int _) (.cons (.bl _) .nil)), sm_tru, .inl rfl⟩
  have B8 := b8.same (d8.trans d9)
  have d19 := dall.trans d9
  generalize hxs : [V.non, V.int 0, V.ref p1, V.ref p2, V.ref p3, V.ref p4, V.ref p5, V.str "0 1"] ++ [v, V.ref t1, V.ref t2] = xs
  rw [hxs] at d19 B4 B5 B6 B7 B8
  have hbad : ∀ x ∈ xs, Bad K n rows x (upd (upd (upd (upd (upd (upd (upd H2 p1 (.tup [V.int 0, V.int 0])) p2 (.lst [V.int 0, V.int 1])) p3 (.tup [V.int 0, V.int (n : Int)])) p4 (.tup [V.int 1, V.int 0])) p5 (.tup [V.int 0, V.bl true])) l8 (.lst [V.non, V.int 0, V.ref p1, V.ref p2, V.ref p3, V.ref p4, V.ref p5, V.str "0 1"])) lb_ (.lst xs)) := by
    intro x hx
    rw [← hxs] at hx
    simp only [List.mem_append, List.mem_cons, List.not_mem_nil, or_false] at hx
    rcases hx with (rfl | rfl | rfl | rfl | rfl | rfl | rfl | rfl) | (rfl | rfl | rfl)
    · exact ⟨.none, .non, sm_none, .inl rfl⟩
    · exact ⟨.int 0, .int _, sm_zero, .inl rfl⟩
    · exact B4
    · exact B5
    · exact B6
    · exact B7
    · exact B8
    · exact ⟨.str "0 1", .str _, sm_text, .inl rfl⟩
    · exact B1.same d19
    · exact B2.same d19
    · exact B3.same d19
  have W3 := W2.same d19
  refine ⟨lb_, rfl, ⟨xs, .inl (.inl upd_same)⟩, ?_⟩
  have hlb' : (upd (upd (upd (upd (upd (upd (upd H2 p1 (.tup [V.int 0, V.int 0])) p2 (.lst [V.int 0, V.int 1])) p3 (.tup [V.int 0, V.int (n : Int)])) p4 (.tup [V.int 1, V.int 0])) p5 (.tup [V.int 0, V.bl true])) l8 (.lst [V.non, V.int 0, V.ref p1, V.ref p2, V.ref p3, V.ref p4, V.ref p5, V.str "0 1"])) lb_ (.lst xs)) lb_ = some (.lst xs) := upd_same
  generalize upd (upd (upd (upd (upd (upd (upd H2 p1 (.tup [V.int 0, V.int 0])) p2 (.lst [V.int 0, V.int 1])) p3 (.tup [V.int 0, V.int (n : Int)])) p4 (.tup [V.int 1, V.int 0])) p5 (.tup [V.int 0, V.bl true])) l8 (.lst [V.non, V.int 0, V.ref p1, V.ref p2, V.ref p3, V.ref p4, V.ref p5, V.str "0 1"])) lb_ (.lst xs) = H3 at hbad W3 hlb'
  refine for_list (K := K) (a := lb_) (xs := xs) (fun i σ H' => ∃ y15, σ = sgD a k f n d ra wa ua sa ka pa oa [x12, x13, some (.ref lo), y15, x16, x17, none, none, none] ∧ Same H3 H') ⟨x15, rfl, Same.refl H3⟩ (fun i σ H' _ ⟨_, _, kk⟩ => .inl (.inl (kk _ _ hlb'))) ?_ ?_
  · rintro i x σ H4 hx ⟨y15, rfl, k4⟩
    have W4 := W3.same k4
    obtain ⟨dd, hd, hsm, hb⟩ := (hbad x (List.mem_of_getElem? hx)).same k4
    obtain ⟨pvs, pv_, ep, hpv, ⟨p, rfl, hp⟩⟩ := W4.pt.at_ (m := 0) (by decide)
    refine ⟨_, rfl, pa, pvs, 0, _, rfl, rfl, .inl (.inl ep), atI_nat (j := 0) hpv, _, rfl, p, x, dd, n, rows, ss 0, useful n (ss 0), rfl, hp, hd, hsm, hb, fun pr H5 s5 hpr => ?_⟩
    refine ⟨_, rfl, x, dd, rfl, dp_same s5 hd, hsm, show 2 ≤ sizeLine by decide, fun pt hpt => ?_⟩
    have s6 := Same.new (o := HO.tup [V.str "none", V.str dd.shown]) hpt
    refine ⟨.tuple [.str "none", .str dd.shown], .tuple [.str "none", .str dd.shown], .tup (.inl (.inl (s6 _ _ hpr))) (.cons (.str _) (.cons (.str _) .nil)), .tup (.inl (.inl upd_same)) (.cons (.str _) (.cons (.str _) .nil)), shaped_txt (by decide +kernel) hsm.2.2.2.2, shaped_txt (by decide +kernel) hsm.2.2.2.2, _, rfl, ?_⟩
    rw [eqv_txt]
    exact iteF ⟨_, rfl, (k4.trans s5).trans s6⟩
  · rintro σ H4 ⟨y15, rfl, k4⟩
    exact q H4 _ _ (W3.same k4)
end
end Rl

set_option Elab.async false
set_option linter.all false
set_option maxRecDepth 100000
set_option maxHeartbeats 4000000
/-! D34: the end of a turn. -/
namespace Rl
open PySem PySem.Spec PyProof.Rows L2 Zed
theorem tups_tp {H : Hp} : ∀ {vs : List V} {qs : List (List Nat)}, TupsAt H vs (qs.map It) → TpAll H vs qs
  | [], [], _ => trivial
  | [], _ :: _, h => h.elim
  | _ :: _, [], h => h.elim
  | v :: vs, q :: qs, h => by
    obtain ⟨⟨p, e, hp⟩, r⟩ := h
    exact ⟨⟨p, e, hp⟩, tups_tp r⟩
section
variable {P : Program} {w : World} {K : PySem.W.Frag} {mg : Str → Option Value} {base : Heap} {cdv : Value} {A : Around} {outer : List Env} {s0 : Shared} {H00 : Hp}
theorem law_last (T : Tx K mg) (hr : Room 60 (lawX P w K mg base cdv A outer s0 H00).A) :
    ∃ t, PSsz (lawX P w K mg base cdv A outer s0 H00) [lb 11, lb 12, lb 13] t ∧ ∀ (D : Ends) (H0 H : Hp) (a f ra wa ua sa ka pa oa : Addr) (k n : Nat) (rows : List J) (ss : Nat → List J) (d x12 x13 x14 x15 x16 x17 : Option V), Wd K H0 H f ra wa ua sa ka pa oa n rows ss →
      (∀ H' y16 y17, Wd K H0 H' f ra wa ua sa ka pa oa n rows ss → D.nx (sgD a k f n d ra wa ua sa ka pa oa [x12, x13, x14, x15, y16, y17, none, none, none]) H') → t D (sgD a k f n d ra wa ua sa ka pa oa [x12, x13, x14, x15, x16, x17, none, none, none]) H := by
  have G := okg_kr (P := P) (w := w) (base := base) T
  refine ⟨_, pssz_cons (psz_if (ptz_or (pt_not (pt_val (pc (ok_rbr T) (hr.mono (by decide)) (T.glo 23) pass0 (pa_cons (pe_ix ix_list (pv 10) pe_int (fun _ _ => rfl)) (pa_cons (pv 6) (pa_cons (pe_ix ix_list (pv 9) pe_int (fun _ _ => rfl)) pa_nil))))))
      (ptz_cmp (op_neD (ru4 hr)) (pez_list (pe_ix ix_list (pv 10) pe_int (fun _ _ => rfl)) T.pt (T.mP 4) G.ex.choose_spec.1 (hr.mono (by decide)) G.ex.choose_spec.2 (by rfl) (T.free 10) (by decide +kernel)) (pe_ix ix_list (pv 9) pe_int (fun _ _ => rfl)) (nomark _))) (pssz pss_never) (pssz pss_nil))
    (pssz (pss_cons (ps_set (i := 16) sc_law.nd rfl (.inl rfl) (pc (ok_orows T) (hr.mono (by decide)) (T.glo 26) pass0 (pa_cons (pv 2) (pa_cons (pv 3) (pa_cons (pv 6) pa_nil)))))
    (pss_one (ps_for PassesOwn.never rfl (pi_tup (pe_tup (pa_cons (StX.pe_makeR T.mkR (ok_rinit T).r (hr.mono (by decide)) (by rfl) (T.glo 28) pass0 (pa_cons (pe_op op_add (pv 3) pe_int) (pa_cons (pv 6) pa_nil))) (pa_cons (StX.pe_makeR T.mkR (ok_rinit T).r (hr.mono (by decide)) (by rfl) (T.glo 28) pass0 (pa_cons (pv 3) (pa_cons (pv 16) pa_nil))) pa_nil)))) (pg_name (i := 17) sc_law.nd rfl (.inl rfl))
      (pss_one (ps_if (PW.pt (pw_or (pt_not (pt_val (pc (ok_barred T) (hr.mono (by decide)) (T.glo 22) passL (pa_cons (pe_ix ix_list (pv 10) pe_int (fun _ _ => rfl)) (pa_cons (StX.pe_makeR T.mkP (ok_pinit T).r (hr.mono (by decide)) (by rfl) (T.glo 29) pass0 (pa_cons (pv 17) (pa_cons (pe_lst pa_nil) pa_nil))) pa_nil)))))
        (pw_or1 (pt_not (pt_val (pc (ok_barred T) (hr.mono (by decide)) (T.glo 22) passL (pa_cons (StX.pe_makeR T.mkP (ok_pinit T).r (hr.mono (by decide)) (by rfl) (T.glo 29) pass0 (pa_cons (pv 17) (pa_cons (pe_lst pa_nil) pa_nil))) (pa_cons (pe_ix ix_list (pv 10) pe_int (fun _ _ => rfl)) pa_nil)))))))) pss_never pss_nil)))))), ?_⟩
  intro D H0 H a f ra wa ua sa ka pa oa k n rows ss d x12 x13 x14 x15 x16 x17 hW q
  have hn2 := hW.n2
  have hn8 := hW.n8
  obtain ⟨v1, v2, v3, v4, v5⟩ := hW.sv (m := 0) (by decide)
  obtain ⟨pvs, pv_, ep, hpv, ⟨p, rfl, hp⟩⟩ := hW.pt.at_ (m := 0) (by decide)
  obtain ⟨kvs, kv_, ek, hkv, ⟨kk, rfl, hk⟩⟩ := hW.kp.at_ (m := 0) (by decide)
  obtain ⟨l1, l2, l3⟩ := hW.lens 0
  refine ⟨_, rfl, pa, pvs, 0, _, rfl, rfl, .inl (.inl ep), atI_nat (j := 0) hpv, _, rfl, _, rfl, ka, kvs, 0, _, rfl, rfl, .inl (.inl ek), atI_nat (j := 0) hkv, ?_⟩
  refine ⟨p, wa, kk, n, rows, ss 0, useful n (ss 0), _, rfl, hp, hW.rw_, hk, v4, rb_right v1 v2 hW.val v3 (by omega) hn2 (by omega), l1, l2, fun H1 s1 => ⟨_, rfl, ?_⟩⟩
  have W1 := hW.same s1
  have hp1 := hp.same s1
  have ep1 := s1 _ _ ep
  obtain ⟨dx, r, dd, l, gi⟩ := pt_ins hp1
  have hke := kept_eq v1 v2 hW.val v3 hn2 (f := 8) (g := 10) (x := 0) (Nat.zero_le _) (by omega) (by omega) ct0
  have hqs : ((cont (n - 1) (useful n (ss 0)) 10 0).map fun r => It ([0] ++ r)) = (keep (ss 0) (rests (n - 1) rows 8 0)).map It := by
    rw [hke, List.map_map]; rfl
  have hmain : ∀ S H2 ys, H2 S = none → Ext H1 H2 → TupsAt H2 ys ((cont (n - 1) (useful n (ss 0)) 10 0).map fun r => It ([0] ++ r)) → Same H1 (upd H2 S (.lst ys)) ∧ Dp K (upd H2 S (.lst ys)) (.ref S) (.list ((keep (ss 0) (rests (n - 1) rows 8 0)).map td)) := fun S H2 ys hS hx ht => by
    rw [hqs] at ht
    have ss2 := Same.new (o := HO.lst ys) hS
    exact ⟨fun b o e => ss2 _ _ (hx _ _ e), TL.dp ⟨ys, upd_same, (tups_tp ht).keep (Same.tk ss2)⟩⟩
  refine ⟨_, rfl, pa, pvs, 0, _, rfl, rfl, .inl (.inl ep1), atI_nat (j := 0) hpv, p, dx, _, _, rfl, gi, rfl, ⟨p, n, rows, ss 0, useful n (ss 0), rfl, hp1, v4.2.1, by omega, rfl⟩, ?_, fun S H2 ys hS hx ht => ?_⟩
  · rw [hqs, List.length_map, sizeLine_eq]
    exact Nat.le_trans l1 (by decide)
  obtain ⟨s2, hdp⟩ := hmain S H2 ys hS hx ht
  have s12 := s1.trans s2
  refine ⟨_, rfl, ka, kvs, 0, _, rfl, rfl, .inl (.inl (s12 _ _ ek)), atI_nat (j := 0) hkv, _, _, hdp, TL.dp (TL.same s12 hk), shaped_tds _, shaped_tds _, _, rfl, ?_⟩
  have e2 : PyData.eqv (.list ((keep (ss 0) (rests (n - 1) rows 8 0)).map td)) (.list ((keep (ss 0) (rests (n - 1) rows 8 0)).map td)) = true := by
    show PyData.eqv (.list _) (.list _) = _
    rw [PyData.eqv, eqv_tds]
    simp
  rw [e2]
  refine iteF ?_
  have W2 := hW.same s12
  -- other rows
  refine ⟨_, rfl, _, rfl, _, rfl, f, wa, n, rows, rfl, W2.fd, W2.rw_, W2.val, sorted_nodup W2.srt, hn2, by omega, fun la more H3 g3 hla hmv hmn hmd => ?_⟩
  have W3 := W2.go g3
  have hlm : more.length ≤ 100 := by
    have h1 := val_len hmn hmv
    have h2 : n * n ≤ 8 * 8 := Nat.mul_le_mul hn8 hn8
    omega
  have hval1 : Val (n + 1) rows := fun j hj => ⟨(W3.val j hj).1, by have := (W3.val j hj).2; omega⟩
  refine ⟨_, rfl, _, _, rfl, rfl, _, rfl, use_mkR (n := n + 1) W3.rw_ (by omega) (by omega) (sorted_nodup W3.srt) hval1 (by omega) fun r1 H4 s4 nr1 _ hrt1 => ?_⟩
  have hrt1' : RtAt K H4 r1 (n + 1) rows := by rw [rowsOf_sorted_eq W3.srt hval1] at hrt1; exact hrt1
  refine ⟨_, rfl, _, rfl, use_mkR (TL.same s4 hla) hn2 (by omega) hmn hmv (by omega) fun r2 H5 s5 nr2 _ hrt2 => ⟨show 2 ≤ sizeLine by decide, fun tp htp => ?_⟩⟩
  have s6 := Same.new (o := HO.tup [V.ref r1, V.ref r2]) htp
  have W6 := ((W3.same s4).same s5).same s6
  have hne2 : ¬ (n = n ∧ rows = rowsOf n more) := fun z => by
    obtain ⟨j, hj⟩ := hmd
    exact hj (by rw [← rowsOf_mem hmv, ← z.2])
  have hboth : ∀ x, x ∈ [V.ref r1, V.ref r2] → ∃ r n' rows', x = .ref r ∧ RtAt K (upd H5 tp (.tup [V.ref r1, V.ref r2])) r n' rows' ∧ rows'.Nodup ∧ ¬ (n = n' ∧ rows = rows') := by
    intro x hx
    rcases List.mem_cons.mp hx with rfl | hx
    · exact ⟨r1, n + 1, rows, rfl, (hrt1'.same s5).same s6, sorted_nodup W3.srt, fun z => by omega⟩
    · rw [List.mem_singleton.mp hx]
      exact ⟨r2, n, rowsOf n more, rfl, hrt2.same s6, sorted_nodup (rowsOf_sorted n more), hne2⟩
  refine ⟨tp, rfl, ⟨_, .inl (.inl upd_same)⟩, ?_⟩
  have htp' : (upd H5 tp (.tup [V.ref r1, V.ref r2])) tp = some (.tup [V.ref r1, V.ref r2]) := upd_same
  generalize upd H5 tp (.tup [V.ref r1, V.ref r2]) = H6 at W6 hboth htp'
  refine for_tup (K := K) (a := tp) (xs := [V.ref r1, V.ref r2]) (fun i σ H' => ∃ y17, σ = sgD a k f n d ra wa ua sa ka pa oa [x12, x13, x14, x15, some (.ref la), y17, none, none, none] ∧ Same H6 H') ⟨x17, rfl, Same.refl H6⟩ (fun i σ H' _ ⟨_, _, kx⟩ => .inl (.inl (kx _ _ htp'))) ?_ ?_
  · rintro i x σ H7 hx ⟨y17, rfl, k7⟩
    obtain ⟨ro, n', rows', rfl, hrt, hnd', hne⟩ := hboth x (List.mem_of_getElem? hx)
    have W7 := W6.same k7
    obtain ⟨pvs, pv_, ep, hpv, ⟨p, rfl, hp⟩⟩ := W7.pt.at_ (m := 0) (by decide)
    have hrt7 := hrt.same k7
    refine ⟨_, rfl, pa, pvs, 0, _, rfl, rfl, .inl (.inl ep), atI_nat (j := 0) hpv, _, rfl, show 0 ≤ sizeLine from Nat.zero_le _, fun e1 he1 => ?_⟩
    have t1 := Same.new (o := HO.lst []) he1
    refine use_mkP (js := []) (hrt7.same t1) hnd' ⟨[], upd_same, trivial⟩ (Nat.zero_le _) (fun j hj => by cases hj) fun p2 H8 s8 np2 _ hp2 => ?_
    have s78 := t1.trans s8
    refine ⟨p, p2, n, n', rows, ss 0, useful n (ss 0), rows', _, _, rfl, hp.same s78, hp2, hne, fun H9 s9 => ⟨_, rfl, ?_⟩⟩
    have s79 := s78.trans s9
    refine ⟨_, rfl, show 0 ≤ sizeLine from Nat.zero_le _, fun e2 he2 => ?_⟩
    have t2 := Same.new (o := HO.lst []) he2
    refine use_mkP (js := []) ((hrt7.same s79).same t2) hnd' ⟨[], upd_same, trivial⟩ (Nat.zero_le _) (fun j hj => by cases hj) fun p3 H10 s10 np3 _ hp3 => ?_
    have s710 := (s79.trans t2).trans s10
    refine ⟨_, rfl, pa, pvs, 0, _, rfl, rfl, .inl (.inl (s710 _ _ ep)), atI_nat (j := 0) hpv, ?_⟩
    refine ⟨p3, p, n', n, rows', _, _, rows, ss 0, useful n (ss 0), rfl, hp3, hp.same s710, fun z => hne ⟨z.1.symm, z.2.symm⟩, fun H11 s11 => ⟨_, rfl, ?_⟩⟩
    exact iteF ⟨_, rfl, (k7.trans s710).trans s11⟩
  · rintro σ H7 ⟨y17, rfl, k7⟩
    exact q H7 _ _ (W6.same k7)
end
end Rl

set_option Elab.async false
set_option linter.all false
set_option maxRecDepth 100000
set_option maxHeartbeats 4000000
/-! D36: the law's body. -/
namespace Rl
open PySem PySem.Spec PyProof.Rows L2 Zed
def sp_many : Sp := fun vs H Q _ => vs = [] ∧ ∀ H', Same H H' → Q (.bl true) H'
section
variable {P : Program} {w : World} {K : PySem.W.Frag} {mg : Str → Option Value} {base : Heap} {cdv : Value} {A : Around} {outer : List Env} {s0 : Shared} {H00 : Hp}
theorem law_body (T : Tx K mg) (M : Ok P w K mg base CX0 20 (He.ga K "_law_many_right") [] sp_many) (hr : Room 60 (lawX P w K mg base cdv A outer s0 H00).A) (hgd : (lawX P w K mg base cdv A outer s0 H00).A.guards = some []) :
    ∃ t, PSsz (lawX P w K mg base cdv A outer s0 H00) d_law.body t ∧ ∀ (D : Ends) (H : Hp) (a : Addr) (ns : List Int), SqL K H a (ns.map V.int) → (∀ H', D.rt (.bl true) H') → t D (start lawN [.ref a]) H := by
  obtain ⟨t4, h4, p4⟩ := law_last (P := P) (w := w) (base := base) (cdv := cdv) (A := A) (outer := outer) (s0 := s0) (H00 := H00) T hr
  obtain ⟨t3, h3, p3⟩ := law_bad T hr hgd h4
  obtain ⟨t2, h2, p2⟩ := law_check (P := P) (w := w) (base := base) (cdv := cdv) (A := A) (outer := outer) (s0 := s0) (H00 := H00) T hr
  obtain ⟨t1, h1, p1⟩ := law_draw T hr (pssz_cons (psz h2) h3)
  refine ⟨_, pssz_cons (psz (ps_if (pt_not (pt_val (pc0 M (hr.mono (by decide)) (T.glo 25) pass0))) pss_never pss_nil))
    (pssz_cons (psz_for rfl rfl (pi_range1 (by rfl) (T.free 5) (pa_cons (pe_callB (call_max2 rfl) (by rfl) (T.free 1) (by decide +kernel) (pa_cons pe_int (pa_cons (pe_callB (call_min2 rfl) (by rfl) (T.free 2) (by decide +kernel) (pa_cons pe_int (pa_cons (pe_callB call_len_seq (by rfl) (T.free 0) boot_len (pa_cons (pv 0) pa_nil)) pa_nil))) pa_nil))) pa_nil)) (pg_name (i := 1) sc_law.nd rfl (.inl rfl)) h1)
    (pssz (pss_one (ps_ret pe_bl)))), ?_⟩
  intro D H a ns ha hq
  refine ⟨rfl, fun H1 s1 => ⟨_, rfl, iteF ?_⟩⟩
  have ha1 := s1.seq ha
  refine ⟨_, rfl, a, _, rfl, .inl ha1, 3, _, rfl, 1, _, rfl, ?_⟩
  generalize hm : (if (if ((ns.map V.int).length : Int) < 3 then ((ns.map V.int).length : Int) else 3) > 1 then (if ((ns.map V.int).length : Int) < 3 then ((ns.map V.int).length : Int) else 3) else 1) = m
  have hm3 : m ≤ 3 := by
    rw [← hm]
    split <;> first | (split <;> omega) | omega
  have hm0 : 1 ≤ m := by
    rw [← hm]
    split <;> first | (split <;> omega) | omega
  refine ⟨m, rfl, by omega, by omega, ?_⟩
  refine for_range (fun i σ H' => ∃ x1 x2 x3 x4 x5 x6 x7 x8 x9 x10 x11 x12 x13 x14 x15 x16 x17, σ = [some (.ref a), x1, x2, x3, x4, x5, x6, x7, x8, x9, x10, x11, x12, x13, x14, x15, x16, x17, none, none, none] ∧ Same H H') ⟨_, _, _, _, _, _, _, _, _, _, _, _, _, _, _, _, _, rfl, s1⟩ ?_ ?_
  · rintro i σ H2 hi ⟨x1, x2, x3, x4, x5, x6, x7, x8, x9, x10, x11, x12, x13, x14, x15, x16, x17, rfl, k2⟩
    have e0 : ((0 : Int) + (i : Int)) = ((i : Nat) : Int) := by omega
    rw [e0]
    refine p1 _ H2 a ns i x2 x3 x4 x5 x6 x7 x8 x9 x10 x11 x12 x13 x14 x15 x16 x17 (k2.seq ha) (by omega) fun H3 f ra wa ua sa ka pa oa n rows ss d W3 => ?_
    refine p2 _ H2 H3 a f ra wa ua sa ka pa oa i n rows ss d x12 x13 x14 x15 x16 x17 W3 fun H4 y12 y13 k4 => ?_
    refine p3 _ H2 H4 a f ra wa ua sa ka pa oa i n rows ss d y12 y13 x14 x15 x16 x17 (W3.same k4) fun H5 y14 y15 W5 => ?_
    refine p4 _ H2 H5 a f ra wa ua sa ka pa oa i n rows ss d y12 y13 y14 y15 x16 x17 W5 fun H6 y16 y17 W6 => ?_
    exact ⟨_, _, _, _, _, _, _, _, _, _, _, _, _, _, _, _, _, rfl, k2.trans W6.sm⟩
  · rintro σ H2 ⟨x1, x2, x3, x4, x5, x6, x7, x8, x9, x10, x11, x12, x13, x14, x15, x16, x17, rfl, k2⟩
    exact hq H2
end
end Rl

set_option Elab.async false
set_option linter.all false
set_option maxRecDepth 100000
set_option maxHeartbeats 4000000
/-! D35: _law_many_right. -/
namespace Rl
open PySem PySem.Spec PyProof.Rows L2
/-! ### the doors and steps -/
def rowDoor (r u : Nat) : List J := ([3 * r + 4, 3 * r + 5, 3 * r + 6].filter fun v => decide (v < 37)).map fun v => (u, v)
def doorsTo (i : Nat) : List J := [(0, 1), (0, 2), (0, 3)] ++ (List.range i).flatMap fun r => [3 * r + 1, 3 * r + 2, 3 * r + 3].flatMap fun u => rowDoor r u
def doors : List J := doorsTo 12 ++ [(34, 37), (35, 37), (36, 37)]
def stepOf (u : Nat) : List J := ([u + 1, u + 2].filter fun v => decide (v < 39)).map fun v => (u, v)
def stepsTo (i : Nat) : List J := [(0, 39)] ++ (List.range i).flatMap stepOf
def stepsM : List J := stepsTo 38
def open17 : List J := doors.filter fun j => decide (j.1 ≠ 17 ∧ j.2 ≠ 17)
theorem doors_val : Val 38 doors := by
  have h : (doors.all fun j => decide (j.1 < j.2) && decide (j.2 < 38)) = true := by decide +kernel
  intro j hj
  have := List.all_eq_true.mp h j hj
  simpa using this
theorem steps_val : Val 40 stepsM := by
  have h : (stepsM.all fun j => decide (j.1 < j.2) && decide (j.2 < 40)) = true := by decide +kernel
  intro j hj
  have := List.all_eq_true.mp h j hj
  simpa using this
def sortedB : List J → Bool
  | a :: b :: l => (decide (a.1 < b.1) || (decide (a.1 = b.1) && decide (a.2 < b.2))) && sortedB (b :: l)
  | _ => true
theorem lexLt_trans {a b c : J} (h : lexLt a b) (h' : lexLt b c) : lexLt a c := by
  unfold lexLt at *
  omega
theorem sorted_of : ∀ {l : List J}, sortedB l = true → l.Pairwise lexLt
  | [], _ => .nil
  | [a], _ => List.pairwise_singleton _ _
  | a :: b :: l, h => by
    obtain ⟨h1, h2⟩ := Bool.and_eq_true_iff.mp (show ((decide (a.1 < b.1) || (decide (a.1 = b.1) && decide (a.2 < b.2))) && sortedB (b :: l)) = true from h)
    have ih := sorted_of h2
    have hab : lexLt a b := by
      simp only [Bool.or_eq_true, Bool.and_eq_true, decide_eq_true_eq] at h1
      exact h1
    refine List.pairwise_cons.mpr ⟨fun c hc => ?_, ih⟩
    rcases List.mem_cons.mp hc with e | e
    · rw [e]; exact hab
    · exact lexLt_trans hab ((List.pairwise_cons.mp ih).1 c e)
theorem doors_sorted : doors.Pairwise lexLt := sorted_of (by decide +kernel)
theorem steps_len' : stepsM.length ≤ 120 := by decide +kernel
theorem doors_len : doors.length ≤ 120 := by decide +kernel
theorem steps_nodup : stepsM.Nodup := by decide +kernel
theorem m1 : ((20, 23) : J) ∈ useful 38 open17 := by decide +kernel
theorem m2 : ((13, 17) : J) ∈ useful 38 doors := by decide +kernel
theorem m3 : ((13, 17) : J) ∉ open17 := by decide +kernel
theorem m4 : ((5, 6) : J) ∉ useful 40 (rowsOf 40 stepsM) := by decide +kernel
theorem m5 : ∀ j ∈ useful 40 (rowsOf 40 stepsM), j = (0, 39) := by decide +kernel
theorem m6 : ((20, 23) : J) ∈ doors ∧ ((13, 17) : J) ∈ doors ∧ ((5, 6) : J) ∈ stepsM ∧ ((0, 39) : J) ∈ stepsM := by decide +kernel
end Rl

set_option Elab.async false
set_option linter.all false
set_option maxRecDepth 100000
set_option maxHeartbeats 4000000
/-! D39: _law_many_right, walked. -/
namespace Rl
open PySem PySem.Spec PyProof.Rows L2
theorem doorsTo_succ (i : Nat) : doorsTo (i + 1) = doorsTo i ++ [3 * i + 1, 3 * i + 2, 3 * i + 3].flatMap fun u => rowDoor i u := by
  unfold doorsTo
  rw [List.range_succ, List.flatMap_append, ← List.append_assoc]
  simp
theorem stepsTo_succ (i : Nat) : stepsTo (i + 1) = stepsTo i ++ stepOf i := by
  unfold stepsTo
  rw [List.range_succ, List.flatMap_append, ← List.append_assoc]
  simp
theorem doorsTo_len (i : Nat) : (doorsTo i).length ≤ 3 + i * 9 := by
  induction i with
  | zero => decide
  | succ i ih =>
    rw [doorsTo_succ, List.length_append]
    have h : ∀ u, (rowDoor i u).length ≤ 3 := fun u => by
      unfold rowDoor
      rw [List.length_map]
      exact List.length_filter_le ..
    have h1 := h (3 * i + 1)
    have h2 := h (3 * i + 2)
    have h3 := h (3 * i + 3)
    simp only [List.flatMap_cons, List.flatMap_nil, List.length_append, List.length_nil]
    omega
theorem stepsTo_len (i : Nat) : (stepsTo i).length ≤ 1 + i * 2 := by
  induction i with
  | zero => decide
  | succ i ih =>
    rw [stepsTo_succ, List.length_append]
    have h : (stepOf i).length ≤ 2 := by
      unfold stepOf
      rw [List.length_map]
      exact List.length_filter_le ..
    omega
theorem run_len : ∀ {r : List Nat} {x y : Nat}, (∀ j ∈ steps r, j.1 < j.2) → r.head? = some x → r.getLast? = some y → x + r.length ≤ y + 1
  | [], x, y, _, h, _ => by cases h
  | [a], x, y, _, h, h' => by cases h; cases h'; simp
  | a :: b :: r, x, y, hs, h, h' => by
    cases h
    rw [List.getLast?_cons_cons] at h'
    have h1 := hs (a, b) List.mem_cons_self
    have ih := run_len (r := b :: r) (fun j hj => hs j (List.mem_cons_of_mem _ hj)) rfl h'
    rw [List.length_cons]
    simp at h1
    omega
theorem run_two {r : List Nat} {j : J} (h : j ∈ steps r) : 2 ≤ r.length := by
  match r, h with
  | [], h => cases h
  | [_], h => cases h
  | a :: b :: r, _ => simp
section
variable {P : Program} {w : World} {K : PySem.W.Frag} {mg : Str → Option Value} {base : Heap}
theorem Tx.callO (T : Tx K mg) : StX.CallO K (cP K) (He.ma K (cP K) "__call__") := by
  refine ⟨(T.mP 0).at_, (T.mP 0).fn, ?_⟩
  obtain ⟨fd, F⟩ := T.def_ (fnAt2 (i := 3) rfl : d_Part_call ∈ fn)
  obtain ⟨oc, od, dV, kV, doc, pm, an, cdv, ct, osl, rfl, lk, hcd, _, _⟩ := F.ex
  unfold PySem.W.fnIn
  have lk' : K.lookup (He.ma K (cP K) "__call__") = _ := lk
  rw [lk']
/-- [(u, v) for v in t if v < B] -/
theorem door_lc {p D : Addr} {vals : List Nat} {u : Nat} {B : Int} {σ : L2.St} {H1 : Hp} {Qd : Hp → Prop} (hD : H1 D = none) (h2 : (wipe σ [11])[2]? = some (some (.int (u : Int)))) (hl : 11 < (wipe σ [11]).length) (hp : H1 p = some (.tup (It vals))) (hv : vals.length ≤ 10)
    (hw : ∀ x, wipe ((wipe σ [11]).set 11 x) [11] = wipe σ [11])
    (done : ∀ acc H', Same H1 H' → H' D = some (.lst acc) → TpAll H' acc (((vals.filter fun (v : Nat) => decide ((v : Int) < B)).map fun v => (u, v)).map jl) → Qd H') :
    ∃ W : Nat → Nat → Hp → Prop, (∃ m, W 0 m (upd H1 D (.lst []))) ∧ ∀ i m H, W i m H →
      ((Itt K p).stop i H ∧ Qd H) ∨ ((Itt K p).go i H ∧ ∃ Nx : Hp → Prop, (∀ H', Nx H' → ∃ m', m' < m ∧ W (i + 1) m' H') ∧ ∀ x H', (Itt K p).yld i H x H' → gName 11 x (wipe σ [11]) H' fun σ2 H2 => wipe σ2 [11] = wipe σ [11] ∧ (tTest (tOp (rI0 fun i j => V.bl (decide (i < j))) (tVar 11) (tC (.int B)))) σ2 H2 fun b H3 =>
        if b = true then (tTup (tCons (tVar 2) (tCons (tVar 11) tNil))) σ2 H3 fun y H4 => ∃ acc, H4 D = some (.lst acc) ∧ acc.length < sizeLine ∧ Nx (upd H4 D (.lst (acc ++ [y]))) else Nx H3) := by
  refine lc_tupK (K := K) (a := p) (xs := It vals) No (fun _ => True) (fun q acc H' => TpAll H' acc ((((vals.take q).filter fun (v : Nat) => decide ((v : Int) < B)).map fun v => (u, v)).map jl)) hD (by rw [it_len]; exact small1000 (by omega)) trivial (fun _ _ _ => trivial) trivial (fun H' k _ => .inl (.inl (k.same _ _ hp))) ?_ ?_
  · intro q x hx acc H' Ny Nn k _ eD hP hy hnn
    obtain ⟨v, ev, rfl⟩ : ∃ v : Nat, vals[q]? = some v ∧ x = .int (v : Int) := by
      rw [List.getElem?_map] at hx
      cases e : vals[q]? with
      | none => rw [e] at hx; cases hx
      | some v => rw [e] at hx; cases hx; exact ⟨v, rfl, rfl⟩
    have g11 : ((wipe σ [11]).set 11 (some (V.int (v : Int))))[11]? = some (some (.int (v : Int))) := by
      rw [List.getElem?_set_self hl]
    have g2 : ((wipe σ [11]).set 11 (some (V.int (v : Int))))[2]? = some (some (.int (u : Int))) := by
      rw [List.getElem?_set_ne (by decide)]; exact h2
    have et : (vals.take (q + 1)).filter (fun (v : Nat) => decide ((v : Int) < B)) = (vals.take q).filter (fun (v : Nat) => decide ((v : Int) < B)) ++ if (v : Int) < B then [v] else [] := by
      rw [List.take_add_one, ev, List.filter_append]
      by_cases e : (v : Int) < B <;> simp [e]
    refine ⟨hw _, _, g11, _, _, rfl, rfl, _, rfl, ?_⟩
    by_cases hb : (v : Int) < B
    · rw [decide_eq_true hb]
      refine iteT ⟨_, g2, _, g11, show 2 ≤ sizeLine by decide, fun t ht => ?_⟩
      have st := Same.new (o := HO.tup [V.int (u : Int), V.int (v : Int)]) ht
      have eDt := st _ _ eD
      refine hy _ _ eDt (k.trans (Same.kp st)) trivial ?_
      show TpAll _ _ ((((vals.take (q + 1)).filter fun (v : Nat) => decide ((v : Int) < B)).map fun v => (u, v)).map jl)
      rw [et, if_pos hb, List.map_append, List.map_append]
      have kk := Tk.updL (l' := acc ++ [V.ref t]) eDt
      exact TpAll.app ((hP.keep (Same.tk st)).keep kk) ⟨⟨t, rfl, kk _ _ upd_same⟩, trivial⟩
    · rw [decide_eq_false hb]
      refine iteF (hnn _ eD k trivial ?_)
      show TpAll _ _ ((((vals.take (q + 1)).filter fun (v : Nat) => decide ((v : Int) < B)).map fun v => (u, v)).map jl)
      rw [et, if_neg hb, List.append_nil]
      exact hP
  · intro acc H' k _ eD hP
    rw [it_len, List.take_length] at hP
    exact done acc H' k.same eD hP
theorem in17 (j : J) : (!inV (.int 17) (It (jl j))) = decide (j.1 ≠ 17 ∧ j.2 ≠ 17) := by
  show (!(eqV (.int (j.1 : Int)) (.int 17) || (eqV (.int (j.2 : Int)) (.int 17) || false))) = _
  have e : ∀ a : Nat, eqV (.int (a : Int)) (.int 17) = decide (a = 17) := fun a => by
    show ((a : Int) == (17 : Int)) = _
    rw [Bool.eq_iff_iff, beq_iff_eq, decide_eq_true_eq]
    omega
  rw [e, e]
  by_cases h1 : j.1 = 17 <;> by_cases h2 : j.2 = 17 <;> simp [h1, h2]
theorem filter_all (l : List J) : (l.filter fun j => decide (j ∈ l)) = l := by
  rw [List.filter_eq_self]
  intro j hj
  simpa using hj
theorem is_run_of {n : Nat} {js : List J} {r : List Nat} (h : RunFrom js (n - 1) 0 r) {rows : List J} (hs : ∀ j ∈ js, j ∈ rows) : isRun n rows r = true := by
  obtain ⟨h1, h2, h3⟩ := h
  unfold isRun
  rw [decide_eq_true (fun j hj => hs j (h3 j hj) : ∀ j ∈ steps r, j ∈ rows), h1, h2]
  simp
theorem filt_int (vals : List Nat) (n : Nat) : (vals.filter fun (v : Nat) => decide ((v : Int) < (n : Int))) = vals.filter fun v => decide (v < n) := by
  refine List.filter_congr fun v _ => ?_
  rw [Bool.eq_iff_iff, decide_eq_true_eq, decide_eq_true_eq]
  omega
abbrev manyN : List Str := ["_law_doors", "_law_row", "_law_u", "_law_routine_here", "_law_part_here", "_law_every", "_law_told", "_law_other", "_law_steps_here", "_law_dead", "_law_alone", "_law_v", "_law_jump"]
theorem sc_many : FnScope manyN [] (defScope s_law_many_right) := ⟨rfl, rfl, rfl, by decide +kernel, rfl, by decide +kernel, by decide +kernel⟩
theorem ok_many (T : Tx K mg) : Ok P w K mg base CX0 20 (He.ga K "_law_many_right") [] sp_many := by
  refine ok_of (d := d_law_many_right) T (fnAt1 (i := 10) rfl) rfl rfl sc_many (fun vs H Q E h => ?_) (fun _ _ _ _ _ _ us hl => match us, hl with | [], _ => rfl) fun cdv A outer s H vs Q E hr h => ?_
  · obtain ⟨rfl, _⟩ := h; rfl
  obtain ⟨rfl, q⟩ := h
  have hr2 : ∀ {k : Nat}, k ≤ 19 → Room k (A.deeper (envOfC d_law_many_right.qual d_law_many_right.scope s.heap.objs.size (He.fAd K d_law_many_right.at_) cdv)) := fun h => hr.mono h
  refine ⟨_, PSs.nox (pss_cons (ps_set (i := 0) sc_many.nd rfl (.inl rfl) (pe_lst (pa_cons (pe_tup (pa_cons pe_int (pa_cons pe_int pa_nil))) (pa_cons (pe_tup (pa_cons pe_int (pa_cons pe_int pa_nil))) (pa_cons (pe_tup (pa_cons pe_int (pa_cons pe_int pa_nil))) pa_nil)))))
    (Evl.pss_cut (ps_for PassesOwn.never rfl (pi_range1 (by rfl) (T.free 5) (pa_cons pe_int pa_nil)) (pg_name (i := 1) sc_many.nd rfl (.inl rfl))
      (pss_one (ps_for PassesOwn.never rfl (pi_tup (pe_tup (pa_cons (pe_op op_add (pe_op op_mul pe_int (pv 1)) pe_int) (pa_cons (pe_op op_add (pe_op op_mul pe_int (pv 1)) pe_int) (pa_cons (pe_op op_add (pe_op op_mul pe_int (pv 1)) pe_int) pa_nil))))) (pg_name (i := 2) sc_many.nd rfl (.inr rfl))
        (pss_one (ps_set (i := 0) sc_many.nd rfl (.inl rfl) (pe_op op_cat (pv 0) (pe_lc (own := [("_law_v", 11)]) (g := gName 11) rfl sc_many.nd (pi_tup (pe_tup (pa_cons (pe_op op_add (pe_op op_mul pe_int (pv 1)) pe_int) (pa_cons (pe_op op_add (pe_op op_mul pe_int (pv 1)) pe_int) (pa_cons (pe_op op_add (pe_op op_mul pe_int (pv 1)) pe_int) pa_nil))))) (blkOk_by (N := manyN) (sc := defScope s_law_many_right) (by decide +kernel))
          (fun _ _ _ _ _ => pg_name (i := 11) sc_many.nd rfl (Or.inl rfl)) (fun _ _ _ _ _ => pts_one (pt_cmpR op_lt (pv 11) pe_int (nomark _))) (fun _ _ _ _ _ => pe_tup (pa_cons (pv 2) (pa_cons (pv 11) pa_nil))))))))))
    (Evl.pss_cut (ps_for PassesOwn.never rfl (pi_tup (pe_tup (pa_cons pe_int (pa_cons pe_int (pa_cons pe_int pa_nil))))) (pg_name (i := 2) sc_many.nd rfl (.inr rfl))
      (pss_one (ps_expr (pe_bm PySem.F.plainAttrs_list PySem.F.slot_list_append PySem.F.type_list_append mt_append (pv 0) (pa_cons (pe_tup (pa_cons (pv 2) (pa_cons pe_int pa_nil))) pa_nil)))))
    (pss_cons (ps_set (i := 3) sc_many.nd rfl (.inl rfl) (StX.pe_makeR T.mkR (ok_rinit T).r (hr2 (by decide)) (by rfl) (T.glo 28) pass0 (pa_cons pe_int (pa_cons (pv 0) pa_nil))))
    (pss_cons (ps_set (i := 4) sc_many.nd rfl (.inl rfl) (StX.pe_makeR T.mkP (ok_pinit T).r (hr2 (by decide)) (by rfl) (T.glo 29) pass0 (pa_cons (pv 3) (pa_cons (pe_lc (own := [("_law_jump", 12)]) (g := gName 12) rfl sc_many.nd (pi_list (pv 0)) (blkOk_by (N := manyN) (sc := defScope s_law_many_right) (by decide +kernel))
          (fun _ _ _ _ _ => pg_name (i := 12) sc_many.nd rfl (Or.inl rfl)) (fun _ _ _ _ _ => pts_one (pt_cmpR (r := rIn K true) op_notIn_seq pe_int (pv 12) rfl)) (fun _ _ _ _ _ => pv 12)) pa_nil))))
    (Evl.pss_cut (ps_set (i := 5) sc_many.nd rfl (.inl rfl) (StX.pe_makeR T.mkP (ok_pinit T).r (hr2 (by decide)) (by rfl) (T.glo 29) pass0 (pa_cons (pv 3) (pa_cons (pv 0) pa_nil))))
    (pss_cons (ps_par (i := 6) (j := 7) rfl sc_many.nd rfl rfl (by decide) rfl rfl (pa_cons (pm (pv 4) T.pt (T.mP 2) (ok_krb T) (hr2 (by decide)) passL (pa_cons (pe_tup (pa_cons pe_int (pa_cons pe_int pa_nil))) pa_nil)) (pa_cons (pm (pv 5) T.pt (T.mP 3) (ok_notin T) (hr2 (by decide)) passL (pa_cons (pv 4) pa_nil)) pa_nil)) (by rfl))
    (pss_cons (ps_if (PW.pt (pw_or (pt_cmpR op_isN (pv 6) pe_non rfl) (pw_or (pt_cmpR op_isN (pv 7) pe_non rfl) (pw_or (pt_not (pt_val (StX.pe_callO (pv 4) T.callO (ok_pcall T).r (hr2 (by decide)) pass0 (pa_cons (pv 6) pa_nil)))) (pw_or1 (pt_cmpR (op_notInD (ru hr)) (pe_tup (pa_cons pe_int (pa_cons pe_int pa_nil))) (pc (ok_steps T) (hr2 (by decide)) (T.glo 12) pass0 (pa_cons (pv 6) pa_nil)) rfl)))))) pss_never pss_nil)
    (Evl.pss_cut (ps_if (PW.pt (pw_or (pt_cmpR op_notN (pm (pv 4) T.pt (T.mP 2) (ok_krb T) (hr2 (by decide)) passL (pa_cons (pe_tup (pa_cons pe_int (pa_cons pe_int pa_nil))) pa_nil)) pe_non rfl) (pw_or1 (pt_val (StX.pe_callO (pv 4) T.callO (ok_pcall T).r (hr2 (by decide)) pass0 (pa_cons (pv 7) pa_nil)))))) pss_never pss_nil)
    (pss_cons (ps_set (i := 8) sc_many.nd rfl (.inl rfl) (pe_lst (pa_cons (pe_tup (pa_cons pe_int (pa_cons pe_int pa_nil))) pa_nil)))
    (Evl.pss_cut (ps_for PassesOwn.never rfl (pi_range1 (by rfl) (T.free 5) (pa_cons pe_int pa_nil)) (pg_name (i := 2) sc_many.nd rfl (.inr rfl))
      (pss_one (ps_set (i := 8) sc_many.nd rfl (.inl rfl) (pe_op op_cat (pv 8) (pe_lc (own := [("_law_v", 11)]) (g := gName 11) rfl sc_many.nd (pi_tup (pe_tup (pa_cons (pe_op op_add (pv 2) pe_int) (pa_cons (pe_op op_add (pv 2) pe_int) pa_nil)))) (blkOk_by (N := manyN) (sc := defScope s_law_many_right) (by decide +kernel))
          (fun _ _ _ _ _ => pg_name (i := 11) sc_many.nd rfl (Or.inl rfl)) (fun _ _ _ _ _ => pts_one (pt_cmpR op_lt (pv 11) pe_int (nomark _))) (fun _ _ _ _ _ => pe_tup (pa_cons (pv 2) (pa_cons (pv 11) pa_nil))))))))
    (pss_cons (ps_set (i := 3) sc_many.nd rfl (.inl rfl) (StX.pe_makeR T.mkR (ok_rinit T).r (hr2 (by decide)) (by rfl) (T.glo 28) pass0 (pa_cons pe_int (pa_cons (pv 8) pa_nil))))
    (pss_cons (ps_par (i := 9) (j := 10) rfl sc_many.nd rfl rfl (by decide) rfl rfl (pa_cons (StX.pe_makeR T.mkP (ok_pinit T).r (hr2 (by decide)) (by rfl) (T.glo 29) pass0 (pa_cons (pv 3) (pa_cons (pv 8) pa_nil))) (pa_cons (StX.pe_makeR T.mkP (ok_pinit T).r (hr2 (by decide)) (by rfl) (T.glo 29) pass0 (pa_cons (pv 3) (pa_cons (pe_lst (pa_cons (pe_tup (pa_cons pe_int (pa_cons pe_int pa_nil))) pa_nil)) pa_nil))) pa_nil)) (by rfl))
    (pss_cons (ps_if (PW.pt (pw_or (pt_cmpR op_notN (pm (pv 9) T.pt (T.mP 2) (ok_krb T) (hr2 (by decide)) passL (pa_cons (pe_tup (pa_cons pe_int (pa_cons pe_int pa_nil))) pa_nil)) pe_non rfl) (pw_or1 (pt_cmpR op_notN (pm (pv 9) T.pt (T.mP 3) (ok_notin T) (hr2 (by decide)) passL (pa_cons (pv 10) pa_nil)) pe_non rfl)))) pss_never pss_nil)
    (pss_one (ps_ret (pe_cmpR op_isN (pm (pv 4) T.pt (T.mP 3) (ok_notin T) (hr2 (by decide)) passL (pa_cons (pv 5) pa_nil)) pe_non rfl))))))))))))))))), ?_⟩
  have no9 : ∀ {α : Type} (x : α), x = x := fun _ => rfl
  -- the first three
  refine ⟨show 2 ≤ sizeLine by decide, fun p1 hp1 => ⟨show 2 ≤ sizeLine by decide, fun p2 hp2 => ⟨show 2 ≤ sizeLine by decide, fun p3 hp3 => ⟨show 3 ≤ sizeLine by decide, fun d0 hd0 => ?_⟩⟩⟩⟩
  have c1 := Same.new (o := HO.tup [V.int 0, V.int 1]) hp1
  have c2 := Same.new (o := HO.tup [V.int 0, V.int 2]) hp2
  have c3 := Same.new (o := HO.tup [V.int 0, V.int 3]) hp3
  have c4 := Same.new (o := HO.lst [V.ref p1, V.ref p2, V.ref p3]) hd0
  have c123 := (c1.trans c2).trans c3
  have hT0 : TL (upd (upd (upd (upd H p1 (.tup [V.int 0, V.int 1])) p2 (.tup [V.int 0, V.int 2])) p3 (.tup [V.int 0, V.int 3])) d0 (.lst [V.ref p1, V.ref p2, V.ref p3])) d0 ((doorsTo 0).map jl) :=
    ⟨_, upd_same, ⟨p1, rfl, c4 _ _ (c3 _ _ (c2 _ _ upd_same))⟩, ⟨p2, rfl, c4 _ _ (c3 _ _ upd_same)⟩, ⟨p3, rfl, c4 _ _ upd_same⟩, trivial⟩
  have k0 := c123.trans c4
  have nd0 : H d0 = none := none_of c123 hd0
  generalize upd (upd (upd (upd H p1 (.tup [V.int 0, V.int 1])) p2 (.tup [V.int 0, V.int 2])) p3 (.tup [V.int 0, V.int 3])) d0 (.lst [V.ref p1, V.ref p2, V.ref p3]) = H1 at hT0 k0
  -- the doors
  refine ⟨fun σ H' => ∃ dl y1 y2, σ = [some (.ref dl), y1, y2, none, none, none, none, none, none, none, none, none, none] ∧ Same H H' ∧ H dl = none ∧ TL H' dl ((doorsTo 12).map jl), ?_, ?_⟩
  · refine ⟨12, rfl, by decide, by decide, ?_⟩
    show ∃ W : Nat → Nat → L2.St → Hp → Prop, _
    refine for_range (n := 12) (fun i σ H' => ∃ dl y1 y2, σ = [some (.ref dl), y1, y2, none, none, none, none, none, none, none, none, none, none] ∧ Same H H' ∧ H dl = none ∧ TL H' dl ((doorsTo i).map jl)) ⟨d0, none, none, rfl, k0, nd0, hT0⟩ ?_ fun σ H' z => z
    rintro i σ H2 hi ⟨dl, y1, y2, rfl, k2, nl, hT2⟩
    have e0 : ((0 : Int) + (i : Int)) = (i : Int) := by omega
    rw [e0]
    have ei : ∀ c : Nat, (3 * (i : Int) + (c : Int)) = ((3 * i + c : Nat) : Int) := fun c => by omega
    have hi64 : -(2 ^ 64) < (i : Int) ∧ (i : Int) < 2 ^ 64 := by constructor <;> omega
    refine ⟨_, rfl, 3, (i : Int), rfl, rfl, .inr hi64, _, _, rfl, rfl, _, rfl, 3, (i : Int), rfl, rfl, .inr hi64, _, _, rfl, rfl, _, rfl, 3, (i : Int), rfl, rfl, .inr hi64, _, _, rfl, rfl, show 3 ≤ sizeLine by decide, fun pt hpt => ⟨pt, rfl, ⟨_, .inl (.inl upd_same)⟩, ?_⟩⟩
    have sp := Same.new (o := HO.tup [V.int (3 * (i : Int) + 1), V.int (3 * (i : Int) + 2), V.int (3 * (i : Int) + 3)]) hpt
    have hpt' : (upd H2 pt (.tup [V.int (3 * (i : Int) + 1), V.int (3 * (i : Int) + 2), V.int (3 * (i : Int) + 3)])) pt = some (.tup (It [3 * i + 1, 3 * i + 2, 3 * i + 3])) := by
      rw [upd_same, show (3 * (i : Int) + 1) = ((3 * i + 1 : Nat) : Int) from ei 1, show (3 * (i : Int) + 2) = ((3 * i + 2 : Nat) : Int) from ei 2, show (3 * (i : Int) + 3) = ((3 * i + 3 : Nat) : Int) from ei 3]
      rfl
    have kp := k2.trans sp
    have hTp := TL.same sp hT2
    show ∃ W : Nat → Nat → L2.St → Hp → Prop, _
    generalize upd H2 pt (.tup [V.int (3 * (i : Int) + 1), V.int (3 * (i : Int) + 2), V.int (3 * (i : Int) + 3)]) = H3 at hpt' kp hTp
    refine for_tup (K := K) (a := pt) (xs := It [3 * i + 1, 3 * i + 2, 3 * i + 3]) (fun m σ H' => ∃ dl y2, σ = [some (.ref dl), some (.int (i : Int)), y2, none, none, none, none, none, none, none, none, none, none] ∧ Same H H' ∧ Same H3 H' ∧ H dl = none ∧ TL H' dl ((doorsTo i ++ ([3 * i + 1, 3 * i + 2, 3 * i + 3].take m).flatMap fun u => rowDoor i u).map jl))
      ⟨dl, y2, rfl, kp, Same.refl H3, nl, by rw [List.take_zero, List.flatMap_nil, List.append_nil]; exact hTp⟩ (fun m σ H' _ ⟨_, _, _, _, k3, _⟩ => .inl (.inl (k3 _ _ hpt'))) ?_ ?_
    · rintro m x σ H4 hx ⟨dl, y2, rfl, k4, k34, nl, ⟨dvs, hd, hdt⟩⟩
      obtain ⟨u, eu, rfl⟩ : ∃ u : Nat, [3 * i + 1, 3 * i + 2, 3 * i + 3][m]? = some u ∧ x = .int (u : Int) := by
        rw [List.getElem?_map] at hx
        cases e : [3 * i + 1, 3 * i + 2, 3 * i + 3][m]? with
        | none => rw [e] at hx; cases hx
        | some v => rw [e] at hx; cases hx; exact ⟨v, rfl, rfl⟩
      refine ⟨_, rfl, _, rfl, 3, (i : Int), rfl, rfl, .inr hi64, _, _, rfl, rfl, _, rfl, 3, (i : Int), rfl, rfl, .inr hi64, _, _, rfl, rfl, _, rfl, 3, (i : Int), rfl, rfl, .inr hi64, _, _, rfl, rfl, show 3 ≤ sizeLine by decide, fun qt hqt => ⟨qt, rfl, ⟨_, .inl (.inl upd_same)⟩, fun D hD => ?_⟩⟩
      have sq := Same.new (o := HO.tup [V.int (3 * (i : Int) + 4), V.int (3 * (i : Int) + 5), V.int (3 * (i : Int) + 6)]) hqt
      have hqt' : (upd H4 qt (.tup [V.int (3 * (i : Int) + 4), V.int (3 * (i : Int) + 5), V.int (3 * (i : Int) + 6)])) qt = some (.tup (It [3 * i + 4, 3 * i + 5, 3 * i + 6])) := by
        rw [upd_same, show (3 * (i : Int) + 4) = ((3 * i + 4 : Nat) : Int) from ei 4, show (3 * (i : Int) + 5) = ((3 * i + 5 : Nat) : Int) from ei 5, show (3 * (i : Int) + 6) = ((3 * i + 6 : Nat) : Int) from ei 6]
        rfl
      refine door_lc (B := 37) (u := u) (vals := [3 * i + 4, 3 * i + 5, 3 * i + 6]) hD rfl (show 11 < 13 by decide) hqt' (show 3 ≤ 10 by decide) (fun x => rfl) fun acc H5 s5 eD hP => ?_
      have s45 := sq.trans s5
      have hd5 := s45 _ _ hd
      have hdt5 := hdt.keep (Same.tk s45)
      have l1 : dvs.length ≤ 300 := by
        rw [hdt.lenm, List.length_append]
        have h1 := doorsTo_len i
        have h2 : (([3 * i + 1, 3 * i + 2, 3 * i + 3].take m).flatMap fun u => rowDoor i u).length ≤ 9 := by
          rw [List.length_flatMap]
          have h3 := sum_le (l := ([3 * i + 1, 3 * i + 2, 3 * i + 3].take m).map fun u => (rowDoor i u).length) (n := 3) fun x hx => by
            obtain ⟨u, _, rfl⟩ := List.mem_map.mp hx
            unfold rowDoor
            rw [List.length_map]
            exact List.length_filter_le ..
          rw [List.length_map, List.length_take] at h3
          simp only [List.length_cons, List.length_nil] at h3
          omega
        omega
      have l2 : acc.length ≤ 3 := by
        rw [hP.lenm, List.length_map]
        exact List.length_filter_le ..
      refine ⟨dl, D, dvs, acc, rfl, rfl, hd5, eD, by rw [sizeLine_eq]; omega, fun p hp => ?_⟩
      have sp2 := Same.new (o := HO.lst (dvs ++ acc)) hp
      have kall := (k4.trans s45).trans sp2
      refine ⟨p, _, rfl, kall, (k34.trans s45).trans sp2, none_of (k4.trans s45) hp, _, upd_same, ?_⟩
      rw [List.take_add_one, eu]
      show TpAll _ _ ((doorsTo i ++ (([3 * i + 1, 3 * i + 2, 3 * i + 3].take m) ++ [u]).flatMap fun u => rowDoor i u).map jl)
      rw [List.flatMap_append, ← List.append_assoc, List.map_append (l₂ := [u].flatMap _)]
      refine TpAll.app (hdt5.keep (Same.tk sp2)) ?_
      have hP2 := hP.keep (Same.tk sp2)
      have e2 := filt_int [3 * i + 4, 3 * i + 5, 3 * i + 6] 37
      have e3 : ([u].flatMap fun u => rowDoor i u) = rowDoor i u := by simp
      rw [e3]
      unfold rowDoor
      rw [← e2]
      exact hP2
    · rintro σ H4 ⟨dl, y2, rfl, k4, _, nl, hT4⟩
      refine ⟨dl, _, _, rfl, k4, nl, ?_⟩
      rw [doorsTo_succ]
      exact hT4
  rintro σ H2 ⟨dl, y1, y2, rfl, k2, nl, hT2⟩
  refine ⟨fun σ H' => ∃ y2, σ = [some (.ref dl), y1, y2, none, none, none, none, none, none, none, none, none, none] ∧ Same H H' ∧ TL H' dl (doors.map jl), ?_, ?_⟩
  · refine ⟨show 3 ≤ sizeLine by decide, fun pt hpt => ⟨pt, rfl, ⟨_, .inl (.inl upd_same)⟩, ?_⟩⟩
    have sp := Same.new (o := HO.tup [V.int 34, V.int 35, V.int 36]) hpt
    refine for_tup (K := K) (a := pt) (xs := It [34, 35, 36]) (fun m σ H' => ∃ y2, σ = [some (.ref dl), y1, y2, none, none, none, none, none, none, none, none, none, none] ∧ Same H H' ∧ H' pt = some (.tup (It [34, 35, 36])) ∧ TL H' dl ((doorsTo 12 ++ ([34, 35, 36].take m).map fun u => (u, 37)).map jl))
      ⟨y2, rfl, k2.trans sp, upd_same, by rw [List.take_zero, List.map_nil, List.append_nil]; exact TL.same sp hT2⟩ (fun m σ H' _ ⟨_, _, _, k3, _⟩ => .inl (.inl k3)) ?_ ?_
    · rintro m x σ H4 hx ⟨y2, rfl, k4, hpt4, ⟨dvs, hd, hdt⟩⟩
      obtain ⟨u, eu, rfl⟩ : ∃ u : Nat, [34, 35, 36][m]? = some u ∧ x = .int (u : Int) := by
        rw [List.getElem?_map] at hx
        cases e : [34, 35, 36][m]? with
        | none => rw [e] at hx; cases hx
        | some v => rw [e] at hx; cases hx; exact ⟨v, rfl, rfl⟩
      refine ⟨_, rfl, .inl ⟨rfl, _, .inl (.inl hd)⟩, _, rfl, show 2 ≤ sizeLine by decide, fun t ht => ?_⟩
      have st := Same.new (o := HO.tup [V.int (u : Int), V.int 37]) ht
      have hd' := st _ _ hd
      have hpd : pt ≠ dl := fun z => by rw [z, hd] at hpt4; cases hpt4
      have l1 : dvs.length ≤ 300 := by
        rw [hdt.lenm, List.length_append, List.length_map, List.length_take]
        have h1 := doorsTo_len 12
        simp only [List.length_cons, List.length_nil]
        omega
      refine ⟨dl, dvs, _, rfl, rfl, hd', by rw [sizeLine_eq]; omega, _, rfl, Same.upd (k4.trans st) nl, by rw [upd_ne hpd]; exact st _ _ hpt4, _, upd_same, ?_⟩
      rw [List.take_add_one, eu]
      show TpAll _ _ ((doorsTo 12 ++ (([34, 35, 36].take m) ++ [u]).map fun u => (u, 37)).map jl)
      rw [List.map_append (l₁ := [34, 35, 36].take m), ← List.append_assoc, List.map_append (l₂ := [u].map _)]
      have kk := Tk.updL (l' := dvs ++ [V.ref t]) hd'
      exact TpAll.app ((hdt.keep (Same.tk st)).keep kk) ⟨⟨t, rfl, kk _ _ upd_same⟩, trivial⟩
    · rintro σ H4 ⟨y2, rfl, k4, _, hT4⟩
      exact ⟨_, rfl, k4, hT4⟩
  rintro σ H3 ⟨y2, rfl, k3, hT3⟩
  -- the routine of 38 blocks
  refine ⟨_, rfl, use_mkR (n := 38) hT3 (by decide) (by decide) (sorted_nodup doors_sorted) doors_val doors_len fun ra H4 s4 _ _ hrt0 => ?_⟩
  have hrt : RtAt K H4 ra 38 doors := by rw [rowsOf_sorted_eq doors_sorted doors_val] at hrt0; exact hrt0
  obtain ⟨dvs, hd4, hdt4⟩ := TL.same s4 hT3
  refine ⟨_, rfl, _, rfl, dl, rfl, ⟨dvs, .inl (.inl hd4)⟩, fun D hD => ?_⟩
  refine lc_listK (K := K) (a := dl) (xs := dvs) No (fun _ => True) (fun i acc H' => TpAll H' acc (((doors.take i).filter fun j => decide (j.1 ≠ 17 ∧ j.2 ≠ 17)).map jl)) hD ?_ trivial (fun _ _ _ => trivial) trivial (fun H' k _ => .inl (.inl (k.same _ _ hd4))) ?_ ?_
  · rw [hdt4.lenm]; exact small1000 (by have := doors_len; omega)
  · intro ix xx hxx acc H' Ny Nn kx _ eD hP hy hnn
    obtain ⟨j, ej, pj, rfl, hpj⟩ := hdt4.item hxx
    have hpj' := kx.same _ _ hpj
    refine ⟨rfl, _, rfl, pj, It (jl j), rfl, .inr (.inl (.inl hpj')), rfl, rfl, _, rfl, ?_⟩
    rw [if_pos rfl, in17]
    by_cases hj : j.1 ≠ 17 ∧ j.2 ≠ 17
    · rw [decide_eq_true hj]
      exact iteT ⟨_, rfl, hy _ _ eD kx trivial (filt_yes ej (decide_eq_true hj) eD hP ⟨pj, rfl, hpj'⟩)⟩
    · rw [decide_eq_false hj]
      exact iteF (hnn _ eD kx trivial (filt_no ej (decide_eq_false hj) hP))
  intro acc H5 kx5 _ eD5 hP5
  rw [hdt4.lenm, List.take_length] at hP5
  have s5 := kx5.same
  have hsub17 : open17.Sublist doors := List.filter_sublist
  have h17l : open17.length ≤ 1000 := Nat.le_trans hsub17.length_le (by have := doors_len; omega)
  refine use_mkP (js := open17) (hrt.same s5) (sorted_nodup doors_sorted) ⟨acc, eD5, hP5⟩ h17l (fun j hj => hsub17.subset hj) fun pa H6 s6 _ _ hp0 => ?_
  have hpP : PtAt K H6 pa 38 doors open17 (useful 38 open17) := by rw [filter_sub doors_sorted hsub17] at hp0; exact hp0
  have s46 := s5.trans s6
  refine ⟨fun σ H' => ∃ ea, σ = [some (.ref dl), y1, y2, some (.ref ra), some (.ref pa), some (.ref ea), none, none, none, none, none, none, none] ∧ Same H6 H' ∧ PtAt K H' ea 38 doors doors (useful 38 doors), ?_, ?_⟩
  · refine ⟨_, rfl, _, rfl, use_mkP (js := doors) (hrt.same s46) (sorted_nodup doors_sorted) (TL.same s46 ⟨dvs, hd4, hdt4⟩) (by have := doors_len; omega) (fun j hj => hj) fun ea H7 s7 _ _ he0 => ⟨ea, rfl, s7, ?_⟩⟩
    rw [filter_all] at he0; exact he0
  rintro σ H7 ⟨ea, rfl, s7, heP⟩
  have hpP7 := hpP.same s7
  have hk7 : Same H H7 := ((k3.trans s4).trans s46).trans s7
  have hus1 : Us 38 (useful 38 open17) := us_useful (doors_sorted.sublist hsub17) (fun j hj => doors_val j (hsub17.subset hj)) (by decide)
  have hus2 : Us 38 (useful 38 doors) := us_useful doors_sorted doors_val (by decide)
  have hu1 : ∀ j ∈ useful 38 open17, j ∈ open17 := fun j hj => (mem_useful.mp hj).1
  have hu2 : ∀ j ∈ useful 38 doors, j ∈ doors := fun j hj => (mem_useful.mp hj).1
  obtain ⟨dx, r_, dd, ll, gi⟩ := pt_ins hpP7
  obtain ⟨dx', r_', dd', ll', gi'⟩ := pt_ins heP
  have lens : ∀ {us : List J} {r : List Nat} {j : J}, Us 38 us → RunFrom us 37 0 r → j ∈ steps r → 2 ≤ r.length ∧ r.length ≤ 1000 := fun hu h hj => by
    refine ⟨run_two hj, ?_⟩
    have := run_len (fun i hi => (hu.2.1 i (h.2.2 i hi)).1) h.1 h.2.1
    omega
  -- told, other
  refine ⟨_, rfl, pa, dx, _, rfl, gi, rfl, show 2 ≤ sizeLine by decide, fun t1 ht1 => ?_⟩
  have st1 := Same.new (o := HO.tup [V.int 20, V.int 23]) ht1
  refine ⟨pa, .ref t1, 38, doors, open17, useful 38 open17, rfl, hpP7.same st1, .inl ⟨(20, 23), ⟨t1, rfl, upd_same⟩, m6.1, hus1, fun H' s e => absurd m1 (runBy_none.mp e), fun H8 x1 r1 s8 e1 hx1 => ?_⟩⟩
  obtain ⟨hr1, hr1s, _⟩ := runBy_run hus1 e1
  obtain ⟨px1, rfl, hpx1⟩ := hx1
  have s78 := st1.trans s8
  refine ⟨_, rfl, ea, dx', _, rfl, s78 _ _ gi', rfl, _, rfl, ?_⟩
  refine ⟨ea, pa, 38, 38, doors, doors, useful 38 doors, doors, open17, useful 38 open17, rfl, heP.same s78, hpP7.same s78, .inl ⟨⟨rfl, rfl⟩, hus2, hu2, fun H' s e => absurd (notIn_none e _ m2) m3, fun H9 x2 r2 s9 e2 hx2 => ⟨_, _, rfl, ?_⟩⟩⟩
  obtain ⟨j2, e2', hj2u, hj2n⟩ := notIn_some e2
  obtain ⟨hr2, hr2s, _⟩ := runBy_run hus2 e2'
  obtain ⟨px2, rfl, hpx2⟩ := hx2
  have s79 := s78.trans s9
  have hpx1' := s9 _ _ hpx1
  -- told is right
  refine ⟨_, rfl, rfl, _, rfl, _, rfl, rfl, _, rfl, _, rfl, pa, rfl, _, rfl, .inr ⟨dx, _, s79 _ _ gi⟩, ?_⟩
  refine ⟨pa, .ref px1, 38, doors, open17, useful 38 open17, r1, rfl, hpP7.same s79, ⟨px1, rfl, hpx1'⟩, (lens hus1 hr1 hr1s).1, (lens hus1 hr1 hr1s).2, is_run_of hr1 fun j hj => hsub17.subset (hu1 j hj), fun H10 s10 => ⟨_, rfl, ?_⟩⟩
  rw [decide_eq_true (fun j hj => hu1 j (hr1.2.2 j hj) : ∀ j ∈ steps r1, j ∈ open17)]
  refine iteF ⟨show 2 ≤ sizeLine by decide, fun t2 ht2 => ?_⟩
  have st2 := Same.new (o := HO.tup [V.int 20, V.int 23]) ht2
  have s710 := s79.trans s10
  refine ⟨_, rfl, .ref px1, r1, rfl, ⟨px1, rfl, st2 _ _ (s10 _ _ hpx1')⟩, (lens hus1 hr1 hr1s).2, fun l1 H11 s11 _ hl1 => ?_⟩
  refine ⟨td (jl (20, 23)), _, Tp.dp (q := jl (20, 23)) ⟨t2, rfl, s11 _ _ upd_same⟩, hl1.dp, shaped_td _, shaped_tds _, _, rfl, ?_⟩
  rw [any_td, decide_eq_true (mem_map_jl.mpr hr1s)]
  refine iteF ?_
  have s711 := (s710.trans st2).trans s11
  have hpx2' := s11 _ _ (st2 _ _ (s10 _ _ hpx2))
  -- what is closed; the other
  refine ⟨fun σ H' => σ = [some (.ref dl), y1, y2, some (.ref ra), some (.ref pa), some (.ref ea), some (.ref px1), some (.ref px2), none, none, none, none, none] ∧ Same H7 H', ?_, ?_⟩
  · refine ⟨_, rfl, pa, dx, _, rfl, s711 _ _ gi, rfl, show 2 ≤ sizeLine by decide, fun t3 ht3 => ?_⟩
    have st3 := Same.new (o := HO.tup [V.int 13, V.int 17]) ht3
    have n13 : ((13, 17) : J) ∉ useful 38 open17 := fun z => m3 (hu1 _ z)
    refine ⟨pa, .ref t3, 38, doors, open17, useful 38 open17, rfl, (hpP7.same s711).same st3, .inl ⟨(13, 17), ⟨t3, rfl, upd_same⟩, m6.2.1, hus1, fun H12 s12 _ => ?_, fun H' x r s e _ => absurd (runBy_run hus1 e).2.2 n13⟩⟩
    have s712 := (s711.trans st3).trans s12
    refine ⟨rfl, _, rfl, _, rfl, pa, rfl, _, rfl, .inr ⟨dx, _, s712 _ _ gi⟩, ?_⟩
    refine ⟨pa, .ref px2, 38, doors, open17, useful 38 open17, r2, rfl, hpP7.same s712, ⟨px2, rfl, s12 _ _ (st3 _ _ hpx2')⟩, (lens hus2 hr2 hr2s).1, (lens hus2 hr2 hr2s).2, is_run_of hr2 hu2, fun H13 s13 => ⟨_, rfl, ?_⟩⟩
    rw [decide_eq_false (fun z => hj2n (z j2 hr2s) : ¬ ∀ j ∈ steps r2, j ∈ open17)]
    exact iteF ⟨rfl, s712.trans s13⟩
  rintro σ H14 ⟨rfl, s14⟩
  -- the steps
  refine ⟨show 2 ≤ sizeLine by decide, fun q1 hq1 => ⟨show 1 ≤ sizeLine by decide, fun sl0 hsl0 => ?_⟩⟩
  have u1 := Same.new (o := HO.tup [V.int 0, V.int 39]) hq1
  have u2 := Same.new (o := HO.lst [V.ref q1]) hsl0
  have s15 := (s14.trans u1).trans u2
  have hS0 : TL (upd (upd H14 q1 (.tup [V.int 0, V.int 39])) sl0 (.lst [V.ref q1])) sl0 ((stepsTo 0).map jl) := ⟨_, upd_same, ⟨q1, rfl, u2 _ _ upd_same⟩, trivial⟩
  refine ⟨fun σ H' => ∃ sl y2, σ = [some (.ref dl), y1, y2, some (.ref ra), some (.ref pa), some (.ref ea), some (.ref px1), some (.ref px2), some (.ref sl), none, none, none, none] ∧ Same H7 H' ∧ TL H' sl (stepsM.map jl), ?_, ?_⟩
  · refine ⟨38, rfl, by decide, by decide, ?_⟩
    show ∃ W : Nat → Nat → L2.St → Hp → Prop, _
    refine for_range (n := 38) (fun i σ H' => ∃ sl y2, σ = [some (.ref dl), y1, y2, some (.ref ra), some (.ref pa), some (.ref ea), some (.ref px1), some (.ref px2), some (.ref sl), none, none, none, none] ∧ Same H7 H' ∧ TL H' sl ((stepsTo i).map jl)) ⟨sl0, y2, rfl, s15, hS0⟩ ?_ fun σ H' z => z
    rintro i σ H16 hi ⟨sl, z2, rfl, s16, ⟨svs, hs, hst⟩⟩
    have e0 : ((0 : Int) + (i : Int)) = (i : Int) := by omega
    rw [e0]
    refine ⟨_, rfl, _, rfl, _, _, rfl, rfl, _, rfl, _, _, rfl, rfl, show 2 ≤ sizeLine by decide, fun qt hqt => ⟨qt, rfl, ⟨_, .inl (.inl upd_same)⟩, fun D hD => ?_⟩⟩
    have sq := Same.new (o := HO.tup [V.int ((i : Int) + 1), V.int ((i : Int) + 2)]) hqt
    have hqt' : (upd H16 qt (.tup [V.int ((i : Int) + 1), V.int ((i : Int) + 2)])) qt = some (.tup (It [i + 1, i + 2])) := by
      rw [upd_same, show ((i : Int) + 1) = ((i + 1 : Nat) : Int) by omega, show ((i : Int) + 2) = ((i + 2 : Nat) : Int) by omega]
      rfl
    refine door_lc (B := 39) (u := i) (vals := [i + 1, i + 2]) hD rfl (show 11 < 13 by decide) hqt' (show 2 ≤ 10 by decide) (fun x => rfl) fun acc H17 s17 eD hP => ?_
    have s167 := sq.trans s17
    have hs7 := s167 _ _ hs
    have l1 : svs.length ≤ 100 := by
      rw [hst.lenm]
      have := stepsTo_len i
      omega
    have l2 : acc.length ≤ 2 := by
      rw [hP.lenm, List.length_map]
      exact List.length_filter_le ..
    refine ⟨sl, D, svs, acc, rfl, rfl, hs7, eD, by rw [sizeLine_eq]; omega, fun p hp => ?_⟩
    have sp2 := Same.new (o := HO.lst (svs ++ acc)) hp
    refine ⟨p, _, rfl, (s16.trans s167).trans sp2, _, upd_same, ?_⟩
    rw [stepsTo_succ, List.map_append]
    refine TpAll.app ((hst.keep (Same.tk s167)).keep (Same.tk sp2)) ?_
    have hP2 := hP.keep (Same.tk sp2)
    have e2 := filt_int [i + 1, i + 2] 39
    unfold stepOf
    rw [← e2]
    exact hP2
  rintro σ H18 ⟨sl, z2, rfl, s18, hS⟩
  have hr40s := rowsOf_sorted 40 stepsM
  have hr40v := rowsOf_val 40 stepsM
  -- the routine of 40 blocks
  refine ⟨_, rfl, use_mkR (n := 40) hS (by decide) (by decide) steps_nodup steps_val steps_len' fun rb H19 s19 _ _ hrb => ?_⟩
  refine ⟨_, rfl, _, rfl, use_mkP (js := stepsM) hrb (sorted_nodup hr40s) (TL.same s19 hS) (by have := steps_len'; omega) (fun j hj => (rowsOf_mem steps_val).mpr hj) fun da H20 s20 _ _ hda0 => ?_⟩
  have hda : PtAt K H20 da 40 (rowsOf 40 stepsM) (rowsOf 40 stepsM) (useful 40 (rowsOf 40 stepsM)) := by
    have e : ((rowsOf 40 stepsM).filter fun j => decide (j ∈ stepsM)) = rowsOf 40 stepsM := by
      rw [List.filter_eq_self]
      intro j hj
      exact decide_eq_true ((rowsOf_mem steps_val).mp hj)
    rw [e] at hda0; exact hda0
  refine ⟨_, rfl, show 2 ≤ sizeLine by decide, fun q2 hq2 => ⟨show 1 ≤ sizeLine by decide, fun l2 hl2 => ?_⟩⟩
  have w1 := Same.new (o := HO.tup [V.int 0, V.int 39]) hq2
  have w2 := Same.new (o := HO.lst [V.ref q2]) hl2
  refine use_mkP (js := [(0, 39)]) ((hrb.same s20).same (w1.trans w2)) (sorted_nodup hr40s) ⟨_, upd_same, ⟨q2, rfl, w2 _ _ upd_same⟩, trivial⟩ (by decide) (fun j hj => by rw [List.mem_singleton.mp hj]; exact (rowsOf_mem steps_val).mpr m6.2.2.2) fun aa H21 s21 _ _ haa => ⟨_, _, rfl, ?_⟩
  have w13 := (w1.trans w2).trans s21
  have hda1 := hda.same w13
  have hus3 : Us 40 (useful 40 (rowsOf 40 stepsM)) := us_useful hr40s hr40v (by decide)
  obtain ⟨ex, er, ed, el, gd⟩ := pt_ins hda1
  have sT : Same H7 H21 := ((s18.trans s19).trans s20).trans w13
  -- nothing goes on
  refine ⟨_, rfl, da, ex, _, rfl, gd, rfl, show 2 ≤ sizeLine by decide, fun q3 hq3 => ?_⟩
  have w4 := Same.new (o := HO.tup [V.int 5, V.int 6]) hq3
  refine ⟨da, .ref q3, 40, rowsOf 40 stepsM, rowsOf 40 stepsM, useful 40 (rowsOf 40 stepsM), rfl, hda1.same w4, .inl ⟨(5, 6), ⟨q3, rfl, upd_same⟩, (rowsOf_mem steps_val).mpr m6.2.2.1, hus3, fun H22 s22 _ => ?_, fun H' x r s e _ => absurd (runBy_run hus3 e).2.2 m4⟩⟩
  have w5 := w4.trans s22
  refine ⟨rfl, _, rfl, _, rfl, da, ex, _, rfl, w5 _ _ gd, rfl, _, rfl, ?_⟩
  have hni : notIn 40 (useful 40 (rowsOf 40 stepsM)) ((rowsOf 40 stepsM).filter fun j => decide (j ∈ [((0, 39) : J)])) = none := by
    have e : ((useful 40 (rowsOf 40 stepsM)).filter fun j => decide (j ∉ (rowsOf 40 stepsM).filter fun j => decide (j ∈ [((0, 39) : J)]))) = [] := by
      rw [filt_nil]
      intro j hj
      rw [m5 j hj]
      exact List.mem_filter.mpr ⟨(rowsOf_mem steps_val).mpr m6.2.2.2, by decide⟩
    unfold notIn
    rw [e]
  refine ⟨da, aa, 40, 40, rowsOf 40 stepsM, rowsOf 40 stepsM, useful 40 (rowsOf 40 stepsM), rowsOf 40 stepsM, _, _, rfl, hda1.same w5, haa.same w5, .inl ⟨⟨rfl, rfl⟩, hus3, fun j hj => (mem_useful.mp hj).1, fun H23 s23 _ => ?_, fun H' x r s e _ => by rw [hni] at e; cases e⟩⟩
  refine ⟨rfl, _, rfl, iteF ?_⟩
  have sU := (sT.trans w5).trans s23
  have hni2 : notIn 38 (useful 38 open17) doors = none := by
    have e : ((useful 38 open17).filter fun j => decide (j ∉ doors)) = [] := filt_nil.mpr fun j hj => hsub17.subset (hu1 j hj)
    unfold notIn
    rw [e]
  refine ⟨_, rfl, pa, dx, _, rfl, sU _ _ gi, rfl, _, rfl, ?_⟩
  refine ⟨pa, ea, 38, 38, doors, open17, useful 38 open17, doors, doors, useful 38 doors, rfl, hpP7.same sU, heP.same sU, .inl ⟨⟨rfl, rfl⟩, hus1, fun j hj => hsub17.subset (hu1 j hj), fun H24 s24 _ => ?_, fun H' x r s e _ => by rw [hni2] at e; cases e⟩⟩
  exact ⟨rfl, q H24 ((hk7.trans sU).trans s24)⟩
end
end Rl

set_option Elab.async false
set_option linter.all false
set_option maxRecDepth 100000
set_option maxHeartbeats 0
/-! D37h: the head's run, what is told behind it. -/
namespace Rl
open PySem PySem.W PySem.Calls PyProof.Rows
abbrev Rw : OpenRow := OpenLaw.row PySem.Challenge.rw_runledger_k15_whole_papers_of_parts
abbrev qv : Program := view Rw.prog [43]
def names1 : List PySem.Str := ["_wall", "RunError", "BadBlocks", "BadJump", "TooLarge", "NoJump", "NoRun", "OtherRoutine", "MOST_BLOCKS", "MOST_JUMPS", "is_integer", "within", "is_jump", "jumps_of", "come_to", "come_from", "useful_jumps", "runs_from", "going_on", "Routine"]
def names2 : List PySem.Str := ["Part", "_law_feed", "_law_take", "_law_pick", "_law_steps", "_law_run", "_law_routine", "_law_rows", "_law_rests", "_law_part", "_law_keeping", "_law_named", "_law_lacking", "_law_run_by", "_law_barred", "_law_runs_by_right", "_law_not_in_right", "_law_many_right", "_law_other_rows"]
def names : List PySem.Str := names1 ++ names2
abbrev hk : PySem.W.Hook := He.hookX 6 fa fn [] [] extra
def ob (s : PySem.W.SharedT) : He.AlX := He.obsX 6 fa fn [] [] extra (HandSHeadRun.getT s)
theorem ob_eq (s : PySem.W.SharedT) : ob s = hk.obs s.abs := He.obsX_eq (HandSHeadRun.getT_eq s)
theorem head_run (w : World) : HandSHeadRun.RunEq Rw qv hk ob 6000 names w := by
  intro os
  kernel_rfl
end Rl

set_option Elab.async false
set_option linter.all false
set_option maxRecDepth 100000
set_option maxHeartbeats 4000000
/-! D37: the law holds. -/
namespace Rl
open PySem PySem.Spec PySem.W PyProof.Rows L2 Zed
theorem law_call {P : Program} {w : World} {K : PySem.W.Frag} {mg mb : Str → Option Value} {fa_ a : Addr} {s1 : Shared} {vs : List Value} {ns : List Int} (M : ∀ base, Tx K mg → Ok P w K mg base CX0 20 (He.ga K "_law_many_right") [] sp_many)
    (KX : K.In s1.heap) (hns : s1.heap.Ns mainGlobals mg) (hb : s1.heap.Ns builtinsNs mb) (hbb : ∀ x : Str, x ≠ "__name__" → mb x = bootBuiltins x) (hlim : s1.heap.NoLimit) (hg : s1.gens = #[])
    (ha : s1.heap.get? a = some { cls := .type "list", data := .seq vs.toArray }) (hi : IntsAre vs ns) (hl : ns.length ≤ sizeLine) (c : He.SaysD fa fn K) (hm : extra K = true) (hfa : mg ("law" : Str) = some (.ref fa_)) : CallOk P w s1 fa_ a := by
  refine callz KX hns hb hbb hlim hg ha hi hl fun base H hK hN hO hS e0 => ?_
  have T : Tx K mg := ⟨c, hm, base, hK, hN⟩
  have e := hfa.symm.trans (T.glo 27)
  cases e
  obtain ⟨fd, F⟩ := T.def_ (fnAt1 (i := 12) rfl : d_law ∈ fn)
  have F' : FunD K d_law.name d_law.qual d_law.params d_law.body d_law.scope [] (d_law.kws K) (He.fAd K d_law.at_) fd := F
  have hB := F'.bindsN (ps := ["_law_script"]) (fun _ _ _ _ _ _ us hl => match us, hl with | [_], _ => rfl)
  obtain ⟨oc, od, dV, kV, doc, pm, an, cdv, ct, osl, rfl, lk, hcd, _, _⟩ := F.ex
  have hb2 := hB s1 [.ref a] KX rfl
  rw [List.append_nil] at hb2
  have hroom : Room 61 callerA := ⟨rfl, by decide, by decide⟩
  refine fnz_of (N := lawN) (ps := ["_law_script"]) (us := [.ref a]) (vs := [.ref a]) lk hcd sc_law hroom e0 hb2 (.cons rfl .nil) rfl fun hr => ?_
  obtain ⟨t, h, q⟩ := law_body (P := P) (w := w) (base := base) (cdv := cdv) (A := callerA) (outer := []) (s0 := s1) (H00 := H) T (M base T) hr rfl
  exact ⟨t, h, q _ H a ns hS fun H' => rfl⟩
end Rl

set_option Elab.async false
set_option linter.all false
set_option maxRecDepth 100000
set_option maxHeartbeats 4000000
/-! D38: from the parts to the row. -/
open PySem PySem.W PySem.Calls PyProof.Rows
theorem Rl.holds_of (M : ∀ (P : Program) (w : World) (K : PySem.W.Frag) (mg : Str → Option Value) (base : Heap), Rl.Tx K mg → Rl.Ok P w K mg base L2.CX0 20 (He.ga K "_law_many_right") [] Rl.sp_many) : PySem.Challenge.rw_runledger_k15_whole_papers_of_parts.Holds := by
  w_on; o_law
  have left : LeftO Rl.Rw.prog Rl.qv Rl.names (fun s => xlAt Rl.qv [] s && recOk Rl.Rw.toRowW.records s) Rl.hk.obs Rl.hk.val (6000 + 600) true :=
    HandSHeadRun.left_one (M := 6000) (by kernel_rfl) (Nat.ble_eq_true_of_le (by omega)) (fun s => by kernel_rfl) (Nat.ble_eq_true_of_le (by omega)) fun w os => by
      have z := Rl.head_run w os
      have eo : Rl.ob = fun s => Rl.hk.obs s.abs := funext Rl.ob_eq
      rw [eo] at z
      simp only [HandSHeadRun.endQ_eq, HandSHeadRun.seenQ_eq]
      exact z
  refine Zed.law_holds (l := PySem.Challenge.rw_runledger_k15_whole_papers_of_parts) (n := 63) (q := Rl.qv) (loose := Rl.names) (XP := XL Rl.qv []) (YP := Rl.hk.says) (d := HandSHeadRun.topDef Rl.Rw.prog 43) left Rl.hk.of Rl.hk.keeps (fun s z => xl_of s (Bool.and_eq_true_iff.mp z).1) XL.keeps
    (by kernel_rfl) (by kernel_rfl) (by kernel_rfl) (fun s z => recFacts_of (Bool.and_eq_true_iff.mp z).2) (by rfl) (by first | assumption | decide +kernel) (by decide +kernel) ⟨rfl, rfl, rfl, rfl, rfl, by decide +kernel⟩ ?hw rfl (by kernel_rfl) ?hc
  case hw => w_witness2
  case hc =>
    intro w s0 s1 mg mb fa a vs ns G Y hmg0 ha hi hl hg
    obtain ⟨K, KX, c⟩ := Y
    have hmg : mg ("law" : PySem.Str) = some (.ref fa) := by
      have e : (HandSHeadRun.topDef Rl.Rw.prog 43).name = ("law" : PySem.Str) := by kernel_rfl
      rw [← e]
      exact hmg0
    exact Rl.law_call (fun base T => M _ w K mg base T) KX G.T.g G.T.b G.T.builtins G.T.nolimit hg ha hi (Nat.le_trans hl (by decide)) c.t.d c.more hmg

theorem PySem.Challenge.cw_runledger_k15_whole_papers_of_parts_holds : PySem.Challenge.rw_runledger_k15_whole_papers_of_parts.Holds := by
  exact Rl.holds_of fun P w K mg base T => Rl.ok_many T
