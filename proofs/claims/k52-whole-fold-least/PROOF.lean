import PyProof.Rows.All
import Wide.All
import OpenK.AllK
import Wide.FinOn
import HandS.Base
import HandS.GenOver
import HandS.GenList
import HandS.Call
import HandS.Words
import HandS.Flow
import HandS.List
import PySem.Challenge.RW_lentpages_k52_whole_fold_least
import HandS.ForMost
import HandS.Evl
import HandS.Defaults
import HandS.Rev
import HandS.IsInst
import HandS.Walk
import HandS.Deep
import HandS.Wide
import HandS.Codes
import HandS.WordsDict
import HandS.SortInts
import HandS.SortRule
import KE.KStateDown
import HandS.Ends
import HandS.More
import HandS.WordsExc
import HandS.Head0
import HandS.Head1
import HandS.Head2
import HandS.HeadEnd
import HandS.HeadHook1
import HandS.HeadHook2
import HandS.EndBits
set_option Elab.async false
section
set_option Elab.async false
set_option linter.all false
set_option maxRecDepth 100000
/-! Lp.G1: a machine-level logic in continuation-passing style, in which a generator may sleep over another one. -/
namespace Lp
open PySem
open Sem (wp)

/-! ### threads that the scheduler takes as the plain machine does -/
structure OverGen (s : Shared) (t : Thread) : Prop where
  ex : ∃ v l k fs b rest a more kw o n, t.cur = .yield v true l k ∧ splitAtGen t.stack = some (fs, b, rest) ∧ fs.any Frame.guarded = false ∧
    t.code = .builtin "proto.yield_from" ⟨.ref a :: more, kw⟩ ∧ s.heap.get? a = some o ∧ o.genNumber? = some n
def Tame (s : Shared) (t : Thread) : Prop := t.calm = true ∨ OverGen s t

section
variable {den : Code → Sem PySem.Fin} {P : Program} {w : World}

theorem OverGen.forget {s s1 : Shared} {t t1 : Thread} (hs : s1.forget = s.forget) (ht : t1.forget = t.forget) (h : OverGen s t) : OverGen s1 t1 := by
  obtain ⟨v, l, k, fs, b, rest, a, more, kw, o, n, h1, h2, h3, h4, h5, h6⟩ := h.ex
  obtain ⟨cur, code, pos, stack⟩ := t
  obtain ⟨cur1, code1, pos1, stack1⟩ := t1
  simp only [Thread.forget, Thread.mk.injEq] at ht
  obtain ⟨e1, e2, e3, e4⟩ := ht
  subst e1 e2 e3
  have e5 := splitAtGen_forgetAll stack1
  rw [e4, splitAtGen_forgetAll stack] at e5
  have h2' : splitAtGen stack = some (fs, b, rest) := h2
  rw [h2'] at e5
  cases q : splitAtGen stack1 with
  | none => rw [q] at e5; cases e5
  | some x =>
    obtain ⟨fs1, b1, rest1⟩ := x
    rw [q] at e5
    simp only [Option.map_some, Option.some.injEq, Prod.mk.injEq] at e5
    refine ⟨v, l, k, fs1, b1, rest1, a, more, kw, o, n, h1, q, ?_, h4, ?_, h6⟩
    · rw [← any_guarded_forgetAll, ← e5.1, any_guarded_forgetAll]
      exact h3
    · rw [(Shared.forget_eq hs).1]
      exact h5
theorem Tame.forget {s s1 : Shared} {t t1 : Thread} (hs : s1.forget = s.forget) (ht : t1.forget = t.forget) (h : Tame s t) : Tame s1 t1 := by
  rcases h with h | h
  · left
    rw [← Thread.calm_forget t1, ht, Thread.calm_forget]
    exact h
  · exact .inr (h.forget hs ht)

theorem overGen_life {others : List Value} {s : Shared} {t : Thread} (h : OverGen s t) (hz : s.asleep) : lifeStep den P w others s t = step den P w s t := by
  obtain ⟨v, l, k, fs, b, rest, a, more, kw, o, n, h1, h2, h3, h4, h5, h6⟩ := h.ex
  obtain ⟨cur, code, pos, stack⟩ := t
  simp only at h1 h2 h4
  subst h1 h4
  have hsp : Thread.special ⟨.yield v true l k, .builtin "proto.yield_from" ⟨.ref a :: more, kw⟩, pos, stack⟩ = true := by
    simp [Thread.special, Thread.yieldsInsideHandler]
  have hd : delegateShows s (.ref a) = false := by
    simp only [delegateShows, h5, h6, hz.1]
    rfl
  unfold lifeStep
  rw [if_pos hsp]
  simp only [collectorTurn?, h2]
  have hc : closingShows s fs (.builtin "proto.yield_from" ⟨.ref a :: more, kw⟩) true = false := by
    simp only [closingShows, h3, hd, Bool.and_false, Bool.or_false]
  rw [hc]
  simp only [Bool.false_eq_true, if_false, Bool.false_and]
  have he : Thread.atItsEnd ⟨.yield v true l k, .builtin "proto.yield_from" ⟨.ref a :: more, kw⟩, pos, stack⟩ = false := rfl
  rw [he]
  simp only [Bool.false_eq_true, if_false, stepCounting, hz.2, Bool.false_and]
theorem overGen_moves (pr : Profile) {s : Shared} {t : Thread} (h : OverGen s t) : (Config.single s t).moves pr = [.run 0] := by
  obtain ⟨v, l, k, fs, b, rest, a, more, kw, o, n, h1, h2, h3, h4, h5, h6⟩ := h.ex
  obtain ⟨cur, code, pos, stack⟩ := t
  simp only at h1
  subst h1
  simp_all [Config.moves, Config.single, movesFrom, Thread.moves, Thread.atomic, Thread.rests, Thread.tells]
theorem overGen_pick {s : Shared} {t : Thread} (h : OverGen s t) (hr : s.heap.life.registered = []) : (Config.single s t).pick w = .ok (.run 0, .single s t) := by
  have h1 : (Config.single s t).collect? w.params = none := by
    simp [Config.collect?, Config.single, (nothing_to_collect _ _ _ s t hr).1]
  have h2 : (Config.single s t).collectable = [] := by
    simp [Config.collectable, Config.single, (nothing_to_collect w.params _ _ s t hr).2]
  simp only [Config.pick, h1, h2, Config.pickThread, overGen_moves _ h]
  cases w.params.lifetimes <;> simp
theorem overGen_run {s : Shared} {t : Thread} (h : OverGen s t) (hl : ∀ others, lifeStep den P w others s t = step den P w s t) :
    (Config.single s t).run den P w 0 = (step den P w s t).lift := by
  obtain ⟨v, l, k, fs, b, rest, a, more, kw, o, n, h1, h2, h3, h4, h5, h6⟩ := h.ex
  obtain ⟨cur, code, pos, stack⟩ := t
  simp only at h1
  subst h1
  simp only [Config.run, Config.single]
  first
    | rfl
    | (simp [hl, others_single, frozenBadly, ThreadState.insideWrite]; split <;> simp_all [Step.lift, Config.single]; done)
    | (simp [hl, others_single, frozenBadly, ThreadState.insideWrite]; split <;> simp_all [Step.lift, Config.single] <;> split <;> simp; done)
    | (simp [hl, others_single, frozenBadly, ThreadState.insideWrite, Thread.finalizes]; split <;> simp_all [Step.lift, Config.single]; done)
    | (simp [hl, others_single, frozenBadly, ThreadState.insideWrite, Thread.finalizes]; split <;> simp_all [Step.lift, Config.single] <;> split <;> simp; done)
theorem tame_sstep {s : Shared} {t : Thread} (h : Tame s t) (hz : s.asleep) : sstep den P w (.single s t) = (step den P w s t).lift ∨ step den P w s t = .halt (.unsupported "lifetime:generator-with-cleanup-left-suspended") s := by
  rcases h with h | h
  · exact sstep_single den P w s t h hz
  · exact .inl (by simp only [sstep, overGen_pick h hz.1, Config.move, overGen_run h fun others => overGen_life h hz])

/-! ### the thread halts well -/
inductive Hk (den : Code → Sem PySem.Fin) (P : Program) (w : World) (Post : Outcome → Shared → Prop) : Shared → Thread → Prop
  | stop {s : Shared} {t : Thread} {o : Outcome} {s' : Shared} : Tame s t → stepK den P w s t = .halt o s' → o.ends = true → Post o s' → Hk den P w Post s t
  | go {s : Shared} {t : Thread} {s1 : Shared} {t1 : Thread} : Tame s t → stepK den P w s t = .go s1 t1 → Hk den P w Post s1 t1 → Hk den P w Post s t

theorem Hk.sched {Post : Outcome → Shared → Prop} {s : Shared} {t : Thread} (h : Hk den P w Post s t) : ∀ (s1 : Shared) (t1 : Thread), s1.forget = s.forget → t1.forget = t.forget → s1.asleep →
    ∃ n o s2, schedN den P w n (.single s1 t1) = .halted o s2 ∧ s2.heap.life = s1.heap.life ∧ ∃ s', s2.forget = s'.forget ∧ o.ends = true ∧ Post o s' := by
  induction h with
  | @stop s t o s' ht hs ho hp =>
    intro s1 t1 es et hz
    have e := (step_same den P w es et).trans (stepK_forget den P w s t).symm
    rw [hs] at e
    cases q : step den P w s1 t1 with
    | go a b => rw [q] at e; cases e
    | halt o2 s2 =>
      rw [q] at e
      simp only [Step.forget] at e
      injection e with e1 e2
      subst e1
      have he2 := step_halt_same den P w s1 s2 t1 o2 q
      rcases tame_sstep (den := den) (P := P) (w := w) (ht.forget es et) hz with y | y
      · refine ⟨1, o2, s2, ?_, by rw [he2], s', e2, ho, hp⟩
        simp only [schedN, y, q, Step.lift]
      · rw [q] at y
        injection y with y1 _
        subst y1
        cases ho
  | @go s t sa ta ht hs _ ih =>
    intro s1 t1 es et hz
    have e := (step_same den P w es et).trans (stepK_forget den P w s t).symm
    rw [hs] at e
    cases q : step den P w s1 t1 with
    | halt o2 s2 => rw [q] at e; cases e
    | go sb tb =>
      rw [q] at e
      simp only [Step.forget] at e
      injection e with e1 e2
      have hl := step_life den P w s1 sb t1 tb q
      obtain ⟨n, o, s2, h1, h2, h3⟩ := ih sb tb e1 e2 (Shared.asleep_of_life hl hz)
      rcases tame_sstep (den := den) (P := P) (w := w) (ht.forget es et) hz with y | y
      · refine ⟨n + 1, o, s2, ?_, h2.trans hl, h3⟩
        simp only [schedN, y, q, Step.lift]
        exact h1
      · rw [q] at y; cases y
end
end Lp
end
section
set_option Elab.async false
set_option linter.all false
set_option maxRecDepth 100000
/-! Lp.G2: the logic's base: what the library proves is carried over; calls, leaves, loops. -/
namespace Lp
open PySem
open Sem (wp)

abbrev HkM (M : Model) (Post : Outcome → Shared → Prop) : Shared → Thread → Prop := Hk M.den M.prog M.w Post
section
variable {M : Model} {Post : Outcome → Shared → Prop}

theorem step_tame {s s1 : Shared} {t t1 : Thread} (h : M.step s t = .go s1 t1) : t.calm = true ∧ stepK M.den M.prog M.w s t = .go s1 t1 := by
  cases hl : t.loud with
  | true =>
    rw [M.step_loud hl] at h
    cases h
  | false =>
    rw [M.step_quiet hl] at h
    refine ⟨?_, h⟩
    rw [Thread.calm_eq, hl]
    cases hr : t.refused with
    | false => rfl
    | true =>
      obtain ⟨what, e⟩ := stepK_refused M.den M.prog M.w (s := s) hr
      rw [e] at h
      cases h
theorem hk_step {s s1 : Shared} {t t1 : Thread} (h : M.step s t = .go s1 t1) (q : HkM M Post s1 t1) : HkM M Post s t :=
  .go (.inl (step_tame h).1) (step_tame h).2 q
theorem hk_reach {base : List Frame} {s s' : Shared} {t : Sem PySem.Fin} {c : Code} {p : Pos} {pre : List Frame} {e : End} (h : Reach M base s t c p pre s' e) :
    (∀ t' c' p' pre', Exits e t' c' p' pre' → HkM M Post s' ⟨t', c', p', pre' ++ base⟩) → HkM M Post s ⟨t, c, p, pre ++ base⟩ := by
  induction h with
  | exit hx => intro q; exact q _ _ _ _ hx
  | step hs _ ih => intro q; exact hk_step hs (ih q)
theorem hk_exit_gen {e₁ : End} {t' : Sem PySem.Fin} {c' : Code} {p' : Pos} {pre' : List Frame} {s₁ : Shared} {g : Nat} {k : GenResult → Sem PySem.Fin} {l : List Value} {c : Code} {p : Pos} {st : List Frame}
    (hx : Exits e₁ t' c' p' pre') (hq : e₁.quiet = true) (q : HkM M Post (s₁.setGen g e₁.genState) ⟨k e₁.result, c, p, st⟩) : HkM M Post s₁ ⟨t', c', p', pre' ++ .gen g k l c p :: st⟩ :=
  hk_step (step_exit_gen s₁ g k l c p st hx hq) q

theorem wp_hk {α : Type} {Γ : Ctx} {st : List Frame} (hf : Γ.Fits st) (K : α → Sem PySem.Fin) (H : Value → Sem PySem.Fin) (gd : Bool → Bool) (lv : List Value → List Value) (m : Sem α) :
    ∀ {Q : α → Pos → Shared → Prop} {E : Value → Pos → Shared → Prop} {p : Pos} {s : Shared}, wp M Γ m Q E p s →
      (∀ a p' s', Q a p' s' → HkM M Post s' ⟨K a, Γ.code, p', st⟩) → (∀ x p' s', E x p' s' → HkM M Post s' ⟨H x, Γ.code, p', st⟩) →
      HkM M Post s ⟨m.wrap K H gd lv, Γ.code, p, st⟩ := by
  induction m with
  | pure a => intro Q E p s h hQ _; exact hQ a p s h
  | raise x => intro Q E p s h _ hE; exact hE x p s h
  | unsupported what => intro Q E p s h; exact h.elim
  | finish x => intro Q E p s h; exact h.elim
  | register a k => intro Q E p s h; exact h.elim
  | yield v g l k => intro Q E p s h; exact h.elim
  | fork c k => intro Q E p s h; exact h.elim
  | await a f d l k => intro Q E p s h; exact h.elim
  | rule tag k ih => intro Q E p s h hQ hE; exact hk_step (step_rule M s Γ.code p st tag _) (ih () h hQ hE)
  | «at» p' k ih => intro Q E p s h hQ hE; exact hk_step (step_at M s Γ.code p st p' _) (ih () h hQ hE)
  | load a part k ih =>
    intro Q E p s h hQ hE
    obtain ⟨o, ho, h⟩ := h
    exact hk_step (step_load M s Γ.code p st part _ ho) (ih o h hQ hE)
  | update a part f k ih =>
    intro Q E p s h hQ hE
    obtain ⟨ha, h⟩ := h
    exact hk_step (step_update M s Γ.code p st part f _ ha) (ih () h hQ hE)
  | alloc o k ih => intro Q E p s h hQ hE; exact hk_step (step_alloc M s Γ.code p st o _) (ih _ h hQ hE)
  | loadIfAlive a k ih => intro Q E p s h hQ hE; exact hk_step (step_loadIfAlive M s Γ.code p st a _) (ih _ h hQ hE)
  | point l k ih => intro Q E p s h hQ hE; exact hk_step (step_point M s Γ.code p st (lv l) _) (ih () h hQ hE)
  | fresh k ih => intro Q E p s h hQ hE; exact hk_step (step_fresh M s Γ.code p st _) (ih _ h hQ hE)
  | ask k ih => intro Q E p s h hQ hE; exact hk_step (step_ask M s Γ.code p st _) (ih _ h hQ hE)
  | choose src n k ih =>
    intro Q E p s h hQ hE
    obtain ⟨hn, h⟩ := h
    exact hk_step (step_choose M s Γ.code p st src _ hn) (ih _ h hQ hE)
  | os q l k ih => intro Q E p s h hQ hE; exact hk_step (step_os M s Γ.code p st q (lv l) _) (ih _ h hQ hE)
  | call c hd g l k ih =>
    intro Q E p s hw hQ hE
    obtain ⟨r, s₁, hret, hw⟩ := hw
    refine hk_step (step_call M s Γ.code p st c hd (gd g) (lv l) _) ?_
    have rr := runs_reach hret (.ret (fun x => (k x).wrap K H gd lv) hd (gd g) (lv l) Γ.code p [] :: st) (hf.enter c _ hd (gd g) (lv l) p [])
    refine hk_reach (pre := []) rr ?_
    rintro _ _ _ _ ⟨rfl, rfl⟩
    exact hk_step (step_leaf_ret M s₁ _ _ st r _ _ _ _ _ _ _) (ih r hw hQ hE)
  | handled own k ih =>
    intro Q E p s h hQ hE
    refine hk_step (step_handled M s Γ.code p st own _) ?_
    have e : topHandled (if own = true then ownFrames st else st) = (if own = true then Γ.own else Γ.handled) := by
      cases own with
      | true => exact hf.own.symm
      | false => exact hf.handled.symm
    rw [e]
    exact ih _ h hQ hE
  | newGen c k ih => intro Q E p s h hQ hE; exact hk_step (step_newGen M s Γ.code p st c _) (ih _ h hQ hE)
  | genState g k ih =>
    intro Q E p s h hQ hE
    obtain ⟨x, hg, h⟩ := h
    exact hk_step (step_genState M s Γ.code p st _ hg) (ih _ h hQ hE)
  | resume g r l k ih =>
    intro Q E p s h hQ hE
    obtain ⟨res, s₁, hw, h⟩ := h
    have fin := ih res h hQ hE
    unfold Wakes at hw
    cases hg : s.gens[g]? with
    | none => rw [hg] at hw; exact hw.elim
    | some gs =>
      rw [hg] at hw
      cases gs with
      | fresh c =>
        cases r with
        | send v =>
          by_cases hv : v = .none
          · subst hv
            obtain ⟨e₁, s₂, h₁, hq, rfl, rfl⟩ := hw
            refine hk_step (step_resume_fresh M s Γ.code p st (lv l) _ hg) ?_
            have rr := runs_reach h₁ (.gen g (fun x => (k x).wrap K H gd lv) (lv l) Γ.code p :: st) (hf.wake c g _ (lv l) p)
            refine hk_reach (pre := []) rr ?_
            intro t' c' p' pre' hx
            exact hk_exit_gen hx hq fin
          · have e : res = .justStarted ∧ s₁ = s := by cases v <;> first | exact absurd rfl hv | exact hw
            obtain ⟨rfl, rfl⟩ := e
            exact hk_step (step_resume_justStarted M s₁ Γ.code p st (lv l) _ hg hv) fin
        | throw x =>
          obtain ⟨rfl, rfl⟩ := hw
          exact hk_step (step_resume_throwFresh M s Γ.code p st x (lv l) _ hg) fin
      | suspended k₀ l₀ c₀ p₀ fs cl =>
        obtain ⟨e₁, s₂, h₁, hq, rfl, rfl⟩ := hw
        refine hk_step (step_resume_suspended M s Γ.code p st r (lv l) _ hg) ?_
        have rr := runs_reach h₁ (.gen g (fun x => (k x).wrap K H gd lv) (lv l) Γ.code p :: st) (hf.wake c₀ g _ (lv l) p)
        refine hk_reach (pre := fs) rr ?_
        intro t' c' p' pre' hx
        exact hk_exit_gen hx hq fin
      | running =>
        obtain ⟨rfl, rfl⟩ := hw
        exact hk_step (step_resume_running M s₁ Γ.code p st r (lv l) _ hg) fin
      | finished =>
        obtain ⟨rfl, rfl⟩ := hw
        exact hk_step (step_resume_finished M s₁ Γ.code p st r (lv l) _ hg) fin
  | stack k ih =>
    intro Q E p s h hQ hE
    refine hk_step (step_stack M s Γ.code p st _) ?_
    rw [← hf.below]
    exact ih _ h hQ hE
  | thread k ih => intro Q E p s h hQ hE; exact hk_step (step_thread M s Γ.code p st _) (ih _ h hQ hE)
end

/-! ### what a tree is worth: for every continuation, whatever is wanted at the very end -/
def wpC {α : Type} (M : Model) (A : Around) (m : Sem α) (Q : α → Shared → Prop) (E : Value → Shared → Prop) (s : Shared) : Prop :=
  ∀ (Post : Outcome → Shared → Prop) (c : Code) (K : α → Sem PySem.Fin) (H : Value → Sem PySem.Fin) (gd : Bool → Bool) (lv : List Value → List Value) (st : List Frame) (p : Pos), (Ctx.of c st).In A →
    (∀ a p' s', Q a s' → HkM M Post s' ⟨K a, c, p', st⟩) → (∀ x p' s', E x s' → HkM M Post s' ⟨H x, c, p', st⟩) → HkM M Post s ⟨m.wrap K H gd lv, c, p, st⟩
def codeC (M : Model) (A : Around) (c : Code) (R : Result → Shared → Prop) (s : Shared) : Prop :=
  ∀ (Post : Outcome → Shared → Prop) (st : List Frame) (p : Pos), (Ctx.of c st).Below A → (∀ r c' p' s', R r s' → HkM M Post s' ⟨leafOf r, c', p', st⟩) → HkM M Post s ⟨M.den c, c, p, st⟩

section
variable {α β : Type} {M : Model} {A : Around} {E E' : Value → Shared → Prop} {s : Shared}
theorem wpC_of {m : Sem α} {Q : α → Shared → Prop} (h : wpAny M A m Q E s) : wpC M A m Q E s := fun Post c K H gd lv st p hA hQ hE =>
  wp_hk (Γ := Ctx.of c st) (Ctx.fits_of c st) K H gd lv m (h (Ctx.of c st) p hA) hQ hE
theorem wpC_mono {m : Sem α} {Q Q' : α → Shared → Prop} (h : wpC M A m Q E s) (hQ : ∀ a s, Q a s → Q' a s) (hE : ∀ e s, E e s → E' e s) : wpC M A m Q' E' s :=
  fun Post c K H gd lv st p hA q e => h Post c K H gd lv st p hA (fun a p' s' x => q a p' s' (hQ a s' x)) fun x p' s' y => e x p' s' (hE x s' y)
theorem wpC_pure {a : α} {Q : α → Shared → Prop} (h : Q a s) : wpC M A (pure a) Q E s := fun Post c K H gd lv st p _ q _ => q a p s h
theorem wpC_wrap {m : Sem α} {K : α → Sem β} {H : Value → Sem β} {gd : Bool → Bool} {lv : List Value → List Value} {Q : β → Shared → Prop}
    (h : wpC M A m (fun a s' => wpC M A (K a) Q E s') (fun x s' => wpC M A (H x) Q E s') s) : wpC M A (m.wrap K H gd lv) Q E s := fun Post c K' H' gd' lv' st p hA q e => by
  rw [Sem.wrap_wrap]
  exact h Post c _ _ _ _ st p hA (fun a p' s' x => x Post c K' H' gd' lv' st p' hA q e) fun x p' s' y => y Post c K' H' gd' lv' st p' hA q e
theorem wpC_raise {x : Value} {Q : α → Shared → Prop} (h : E x s) : wpC M A (.raise x : Sem α) Q E s := fun Post c K H gd lv st p _ _ e => e x p s h
theorem wpC_bind {m : Sem α} {f : α → Sem β} {Q : β → Shared → Prop} (h : wpC M A m (fun a s' => wpC M A (f a) Q E s') E s) : wpC M A (m >>= f) Q E s := by
  rw [Sem.bind_eq_wrap']
  exact wpC_wrap (wpC_mono h (fun _ _ x => x) fun _ _ x => wpC_raise x)
theorem wpC_map {m : Sem α} {f : α → β} {Q : β → Shared → Prop} (h : wpC M A m (fun a s' => Q (f a) s') E s) : wpC M A (f <$> m) Q E s := by
  show wpC M A (m >>= fun a => pure (f a)) Q E s
  exact wpC_bind (wpC_mono h (fun _ _ x => wpC_pure x) fun _ _ x => x)
theorem wpC_onRaise {m : Sem α} {k : Value → Sem Unit} {Q : α → Shared → Prop} (h : wpC M A m Q (fun e s' => wpC M A (k e) (fun _ s'' => E e s'') E s') s) : wpC M A (m.onRaise k) Q E s := by
  rw [Sem.onRaise_eq_wrap]
  refine wpC_wrap (wpC_mono h (fun _ _ x => wpC_pure x) fun e s' x => ?_)
  show wpC M A ((k e) >>= fun _ => .raise e) Q E s'
  exact wpC_bind (wpC_mono x (fun _ _ y => wpC_raise y) fun _ _ y => y)
theorem wpC_attempt {m : Sem α} {Q : Except Value α → Shared → Prop} (h : wpC M A m (fun a => Q (.ok a)) (fun e => Q (.error e)) s) : wpC M A m.attempt Q E s := by
  show wpC M A ((m >>= fun a => pure (Except.ok a)).tryCatch fun e => pure (Except.error e)) Q E s
  rw [Sem.tryCatch_eq_wrap]
  refine wpC_wrap ?_
  refine wpC_bind (wpC_mono h (fun _ _ x => wpC_pure (wpC_pure x)) fun _ _ x => wpC_pure x)
theorem wpC_holding {vs : List Value} {m : Sem α} {Q : α → Shared → Prop} (h : wpC M A m Q E s) : wpC M A (holding vs m) Q E s := by
  rw [holding_eq_keep, Sem.keep_eq_wrap]
  exact wpC_wrap (wpC_mono h (fun _ _ x => wpC_pure x) fun _ _ x => wpC_raise x)
theorem wpC_of_eq {m : Sem α} {a : α} {Q : α → Shared → Prop} (e : m = pure a) (h : Q a s) : wpC M A m Q E s := by
  rw [e]
  exact wpC_pure h
theorem wpC_standAt {pos : Pos} {Q : Unit → Shared → Prop} (h : Q () s) : wpC M A (standAt pos) Q E s := wpC_of (wpAny_standAt h)

/-! ### code -/
theorem codeC_of {c : Code} {R : Result → Shared → Prop} (h : codeAny M A c R s) : codeC M A c R s := fun Post st p hA q => by
  obtain ⟨r, s', hr, hR⟩ := h (Ctx.of c st) p rfl hA
  refine hk_reach (pre := []) (runs_reach hr st (Ctx.fits_of c st)) ?_
  rintro _ c' p' _ ⟨rfl, rfl⟩
  exact q r c' p' s' hR
theorem codeC_mono {c : Code} {R R' : Result → Shared → Prop} (h : codeC M A c R s) (hR : ∀ r s, R r s → R' r s) : codeC M A c R' s :=
  fun Post st p hA q => h Post st p hA fun r c' p' s' x => q r c' p' s' (hR r s' x)
theorem ctx_of_enter (c c' : Code) (k : Result → Sem PySem.Fin) (h : Option Value) (g : Bool) (l : List Value) (p : Pos) (kp : List Value) (st : List Frame) : Ctx.of c' (.ret k h g l c p kp :: st) = (Ctx.of c st).enter c' h p := by
  have f1 := Ctx.fits_of c' (.ret k h g l c p kp :: st)
  have f2 := (Ctx.fits_of c st).enter c' k h g l p kp
  obtain ⟨a1, a2, a3, a4⟩ := f1
  obtain ⟨b1, b2, b3, b4⟩ := f2
  have e1 : (Ctx.of c' (.ret k h g l c p kp :: st)).code = c' := rfl
  show (⟨_, _, _, _, _⟩ : Ctx) = ⟨_, _, _, _, _⟩
  have b1' := b1; have b2' := b2; have b3' := b3; have b4' := b4
  simp only [Ctx.enter] at b1' b2' b3' b4' ⊢
  simp only [Ctx.of] at b1' b2' b3' b4' ⊢
  rw [b1', b2', b3', b4']
theorem wpC_run {c : Code} {h : Option Value} {Q : Flow → Shared → Prop} (hc : codeC M (A.mark h) c (fun r s' => match r with | .ok f => Q f s' | .error e => E e s') s) (hnb : h ≠ some byPass := by intro x; cases x) : wpC M A (run c h) Q E s := by
  intro Post c0 K H gd lv st p hA q e
  refine hk_step (step_call M s c0 p st c h (gd false) (lv []) _) ?_
  refine hc Post _ p ?_ ?_
  · rw [ctx_of_enter]
    exact hA.enter c h p hnb
  · intro r c' p' s' hr
    refine hk_step (step_leaf_ret M s' c' p' st r _ _ _ _ _ _ _) ?_
    cases r with
    | ok f => exact q f p s' hr
    | error x => exact e x p s' hr
theorem wpC_runValue {c : Code} {Q : Value → Shared → Prop} (hc : codeC M A c (fun r s' => match r with | .ok (.ret v) => Q v s' | .ok _ => False | .error e => E e s') s) : wpC M A (runValue c) Q E s := by
  intro Post c0 K H gd lv st p hA q e
  refine hk_step (step_call M s c0 p st c none (gd false) (lv []) _) ?_
  refine hc Post _ p ?_ ?_
  · rw [ctx_of_enter]
    exact hA.enter c none p (by intro x; cases x)
  · intro r c' p' s' hr
    refine hk_step (step_leaf_ret M s' c' p' st r _ _ _ _ _ _ _) ?_
    cases r with
    | ok f =>
      cases f with
      | ret v => exact q v p s' hr
      | next => exact hr.elim
      | brk => exact hr.elim
      | cont => exact hr.elim
    | error x => exact e x p s' hr
theorem wpC_call {f : Value} {pos : List Value} {kw : List (Str × Value)} {Q : Value → Shared → Prop} (hc : codeC M A (.call f ⟨pos, kw⟩) (fun r s' => match r with | .ok (.ret v) => Q v s' | .ok _ => False | .error e => E e s') s) : wpC M A (call f pos kw) Q E s := wpC_runValue hc
theorem codeC_of_tree {c : Code} {R : Result → Shared → Prop}
    (h : wpC M (A.under c) (M.den c) (fun fin s' => match fin with | .done f => R (.ok f) s' | .again c' => c'.quiet = true ∧ codeC M A c' R s') (fun e s' => R (.error e) s') s) : codeC M A c R s := by
  intro Post st p hA q
  have e : (M.den c).wrap (fun f => .pure f) .raise id id = M.den c := by
    have e2 := Sem.bind_eq_wrap (M.den c) (fun f => .pure f)
    rw [← e2]
    exact bind_pure (M.den c)
  rw [← e]
  refine h Post c _ _ id id st p hA.in (fun fin p' s' hf => ?_) fun x p' s' hx => q (.error x) c p' s' hx
  cases fin with
  | done f => exact q (.ok f) c p' s' hf
  | again c' => exact hk_step (step_again M s' c p' st c' hf.1) (hf.2 Post st p' hA q)
end
end Lp
end
section
set_option Elab.async false
set_option linter.all false
set_option maxRecDepth 100000
/-! Lp.G3: a generator's code between being woken and handing out. -/
namespace Lp
open PySem L2
open Sem (wp)

section
variable (M : Model) (A : Around) (g : Nat) (Ok : Value → Shared → Prop) (Np : Value → Shared → Shared → Prop) (Rt : Shared → Prop)
/-- what whoever woke it has ready: behind its end, behind the next item -/
def Cont : Nat → (Outcome → Shared → Prop) → (GenResult → Sem PySem.Fin) → Code → Pos → List Frame → Prop
  | 0, Post, k, cc, pp, st => ∀ s1, Rt s1 → HkM M Post (s1.setGen g .finished) ⟨k (.returned .none), cc, pp, st⟩
  | xs + 1, Post, k, cc, pp, st => ∀ v s1 k' l' c' p' fs' fl, Ok v s1 →
      (∀ s2, Np v s1 s2 → ∀ Post2 k2 l2 cc2 pp2 st2 p2, (Ctx.of cc2 st2).In A → Cont xs Post2 k2 cc2 pp2 st2 → HkM M Post2 s2 ⟨k' (.send .none), c', p2, fs' ++ .gen g k2 l2 cc2 pp2 :: st2⟩) →
      HkM M Post (s1.setGen g (.suspended k' l' c' p' fs' fl)) ⟨k (.yielded v), cc, pp, st⟩
/-- awake: it hands out so many items, then ends -/
def Bd (xs : Nat) (t : Sem PySem.Fin) (c : Code) (fs : List Frame) (s : Shared) : Prop :=
  ∀ Post k l cc pp st p, (Ctx.of cc st).In A → Cont M A g Ok Np Rt xs Post k cc pp st → HkM M Post s ⟨t, c, p, fs ++ .gen g k l cc pp :: st⟩
end

theorem ctx_wake (c c' : Code) (g : Nat) (k : GenResult → Sem PySem.Fin) (l : List Value) (p : Pos) (st : List Frame) : Ctx.of c' (.gen g k l c p :: st) = (Ctx.of c st).wake c' p := rfl
theorem ctx_over {c cc : Code} {g : Nat} {k : GenResult → Sem PySem.Fin} {l : List Value} {pp : Pos} {st fs : List Frame} {A : Around} (h : (Ctx.of cc st).In A) : (Ctx.of c (fs ++ .gen g k l cc pp :: st)).In (A.over c fs) := by
  rw [Ctx.of_append, ctx_wake]
  exact (h.wake c pp).over fs

section
variable {M : Model} {A : Around} {g : Nat} {Ok : Value → Shared → Prop} {Np : Value → Shared → Shared → Prop} {Rt : Shared → Prop} {xs : Nat} {c : Code} {fs : List Frame} {s : Shared}
theorem bd_wrap {α : Type} {m : Sem α} {K : α → Sem PySem.Fin} {H : Value → Sem PySem.Fin} {gd : Bool → Bool} {lv : List Value → List Value}
    (h : wpC M (A.over c fs) m (fun a s' => Bd M A g Ok Np Rt xs (K a) c fs s') (fun x s' => Bd M A g Ok Np Rt xs (H x) c fs s') s) : Bd M A g Ok Np Rt xs (m.wrap K H gd lv) c fs s :=
  fun Post k l cc pp st p hA hc => h Post c K H gd lv (fs ++ .gen g k l cc pp :: st) p (ctx_over hA) (fun a p' s' q => q Post k l cc pp st p' hA hc) fun x p' s' q => q Post k l cc pp st p' hA hc
theorem bd_bind {α : Type} {m : Sem α} {K : α → Sem PySem.Fin} (h : wpC M (A.over c fs) m (fun a s' => Bd M A g Ok Np Rt xs (K a) c fs s') (fun x s' => Bd M A g Ok Np Rt xs (.raise x) c fs s') s) : Bd M A g Ok Np Rt xs (m >>= K) c fs s := by
  rw [Sem.bind_eq_wrap']
  exact bd_wrap h
theorem bd_bind_wrap {α β : Type} {m : Sem α} {f : α → Sem β} {K : β → Sem PySem.Fin} {H : Value → Sem PySem.Fin} {gd : Bool → Bool} {lv : List Value → List Value}
    (h : wpC M (A.over c fs) m (fun a s' => Bd M A g Ok Np Rt xs ((f a).wrap K H gd lv) c fs s') (fun x s' => Bd M A g Ok Np Rt xs (H x) c fs s') s) : Bd M A g Ok Np Rt xs ((m >>= f).wrap K H gd lv) c fs s := by
  rw [Sem.bind_eq_wrap', Sem.wrap_wrap]
  exact bd_wrap h
theorem bd_at {p' : Pos} {k : Unit → Sem PySem.Fin} (h : Bd M A g Ok Np Rt xs (k ()) c fs s) : Bd M A g Ok Np Rt xs (.at p' k) c fs s := fun Post kk l cc pp st p hA hc =>
  hk_step (step_at M s c p _ p' _) (h Post kk l cc pp st p' hA hc)
theorem bd_point {l : List Value} {k : Unit → Sem PySem.Fin} (h : Bd M A g Ok Np Rt xs (k ()) c fs s) : Bd M A g Ok Np Rt xs (.point l k) c fs s := fun Post kk l' cc pp st p hA hc =>
  hk_step (step_point M s c p _ l _) (h Post kk l' cc pp st p hA hc)
theorem bd_rule {tag : String} {k : Unit → Sem PySem.Fin} (h : Bd M A g Ok Np Rt xs (k ()) c fs s) : Bd M A g Ok Np Rt xs (.rule tag k) c fs s := fun Post kk l' cc pp st p hA hc =>
  hk_step (step_rule M s c p _ tag _) (h Post kk l' cc pp st p hA hc)
theorem bd_call {c' : Code} {h : Option Value} {gd : Bool} {l : List Value} {k : Result → Sem PySem.Fin} (hc : ∀ p, Bd M A g Ok Np Rt xs (M.den c') c' (.ret k h gd l c p [] :: fs) s) : Bd M A g Ok Np Rt xs (.call c' h gd l k) c fs s :=
  fun Post kk l' cc pp st p hA hk => hk_step (step_call M s c p _ c' h gd l _) (hc p Post kk l' cc pp st p hA hk)
theorem bd_leaf {k : Result → Sem PySem.Fin} {h : Option Value} {gd : Bool} {l : List Value} {c₁ : Code} {p₁ : Pos} {kp : List Value} (r : Result) (hk : Bd M A g Ok Np Rt xs (k r) c₁ fs s) : Bd M A g Ok Np Rt xs (leafOf r) c (.ret k h gd l c₁ p₁ kp :: fs) s :=
  fun Post kk l' cc pp st p hA hc => hk_step (step_leaf_ret M s c p _ r k h gd l c₁ p₁ kp) (hk Post kk l' cc pp st p₁ hA hc)
theorem bd_again {c' : Code} (hq : c'.quiet = true) (h : Bd M A g Ok Np Rt xs (M.den c') c' fs s) : Bd M A g Ok Np Rt xs (.pure (.again c')) c fs s :=
  fun Post kk l' cc pp st p hA hc => hk_step (step_again M s c p _ c' hq) (h Post kk l' cc pp st p hA hc)
/-- the end -/
theorem bd_end (r : Result) (hr : r = .ok (.ret .none) ∨ r = .ok .next) (h : Rt s) : Bd M A g Ok Np Rt 0 (leafOf r) c [] s := fun Post kk l' cc pp st p hA hc => by
  have q := hc s h
  refine hk_step (step_leaf_gen M s c p st r g kk l' cc pp) ?_
  have e : End.result (.ret r) = .returned .none := by rcases hr with e | e <;> rw [e] <;> rfl
  rw [e]
  exact q
/-- an item -/
theorem bd_yield {v : Value} {l : List Value} {k : Resume → Sem PySem.Fin} (hfs : splitAtGen fs = none) (hgd : fs.any Frame.guarded = false) (ok : Ok v s) (h : ∀ s2, Np v s s2 → Bd M A g Ok Np Rt xs (k (.send .none)) c fs s2) :
    Bd M A g Ok Np Rt (xs + 1) (.yield v false l k) c fs s := fun Post kk l' cc pp st p hA hc => by
  have hsp : splitAtGen (fs ++ .gen g kk l' cc pp :: st) = some (fs, (g, kk, cc, pp), st) := by rw [splitAtGen_append_none _ hfs, splitAtGen_gen]; simp
  refine hk_step (step_yield M s c p _ v false l k hsp (by simp [End.quiet, hgd])) ?_
  exact hc v s k l c p fs _ ok fun s2 n Post2 k2 l2 cc2 pp2 st2 p2 hA2 hc2 => h s2 n Post2 k2 l2 cc2 pp2 st2 p2 hA2 hc2
/-- an item of another generator, handed on -/
theorem bd_yield_over {v : Value} {l : List Value} {k : Resume → Sem PySem.Fin} {a : Addr} {more : List Value} {kw : List (Str × Value)} {o : Obj} {n : Nat} (hcode : c = .builtin "proto.yield_from" ⟨.ref a :: more, kw⟩) (ho : s.heap.get? a = some o) (hn : o.genNumber? = some n)
    (hfs : splitAtGen fs = none) (hgd : fs.any Frame.guarded = false) (ok : Ok v s) (h : ∀ s2, Np v s s2 → Bd M A g Ok Np Rt xs (k (.send .none)) c fs s2) :
    Bd M A g Ok Np Rt (xs + 1) (.yield v true l k) c fs s := fun Post kk l' cc pp st p hA hc => by
  have hsp : splitAtGen (fs ++ .gen g kk l' cc pp :: st) = some (fs, (g, kk, cc, pp), st) := by rw [splitAtGen_append_none _ hfs, splitAtGen_gen]; simp
  refine Hk.go (s1 := s.setGen g (.suspended k l c p fs true)) (t1 := ⟨kk (.yielded v), cc, pp, st⟩) (.inr ⟨v, l, k, fs, _, _, a, more, kw, o, n, rfl, hsp, hgd, hcode, ho, hn⟩) ?_ ?_
  · show step M.den M.prog M.w s ⟨.yield v true l k, c, p, fs ++ .gen g kk l' cc pp :: st⟩ = _
    obtain ⟨heap, gens, drawn, toks, os⟩ := s
    simp only [step, hsp, Bool.true_or]
    rfl
  · exact hc v s k l c p fs true ok fun s2 n Post2 k2 l2 cc2 pp2 st2 p2 hA2 hc2 => h s2 n Post2 k2 l2 cc2 pp2 st2 p2 hA2 hc2

/-! ### asleep: what it would do if woken -/
def Rdy (M : Model) (A : Around) (g : Nat) (Ok : Value → Shared → Prop) (Np : Value → Shared → Shared → Prop) (Rt : Shared → Prop) (xs : Nat) (gs : GenState) (s : Shared) : Prop :=
  match gs with
  | .fresh c => Bd M A g Ok Np Rt xs (M.den c) c [] s
  | .suspended k _ c _ fs _ => Bd M A g Ok Np Rt xs (k (.send .none)) c fs s
  | _ => False
/-- woken; s: the state with «running» in its place -/
theorem hk_resume {gs : GenState} {Post : Outcome → Shared → Prop} {k : GenResult → Sem PySem.Fin} {l : List Value} {cc : Code} {pp : Pos} {st : List Frame} (hg : s.gens[g]? = some gs) (h : Rdy M A g Ok Np Rt xs gs (s.setGen g .running)) (hA : (Ctx.of cc st).In A)
    (hc : Cont M A g Ok Np Rt xs Post k cc pp st) : HkM M Post s ⟨.resume g (.send .none) l k, cc, pp, st⟩ := by
  cases gs with
  | fresh c => exact hk_step (step_resume_fresh M s cc pp st l k hg) (h Post k l cc pp st pp hA hc)
  | suspended k0 l0 c0 p0 fs0 cl => exact hk_step (step_resume_suspended M s cc pp st (.send .none) l k hg) (h Post k l cc pp st p0 hA hc)
  | running => exact h.elim
  | finished => exact h.elim
end
end Lp
end
section
set_option Elab.async false
set_option linter.all false
set_option maxRecDepth 100000
set_option maxHeartbeats 1000000
/-! Lp.G4: the next item of a generator. -/
namespace Lp
open PySem L2
open Sem (wp)

section
variable {P : Program} {w : World} {A : Around} {E : Value → Shared → Prop} {s : Shared} {R : Result → Shared → Prop}
theorem codeC_builtin {id : String} {args : Args} {b : Builtin} (hb : entryFor table id = some b) (hq : plainId id = true)
    (h : wpC (model P w) A.in1 (b args) (fun fin s' => match fin with | .done f => R (.ok f) s' | .again c' => c'.quiet = true ∧ codeC (model P w) A c' R s') (fun e s' => R (.error e) s') s) : codeC (model P w) A (.builtin id args) R s := by
  refine codeC_of_tree ?_
  rw [Around.under_plainId hq args]
  show wpC _ _ (match entryFor table id with | some b => b args | none => unsupported ((withoutEnding? id "#data").getD id)) _ _ s
  rw [hb]
  exact h
theorem codeC_call_builtin {id : String} {args : Args} {b : Builtin} (hq : plainId id = true) (hb : entryFor table id = some b)
    (h : wpAny (model P w) A.in1 (checkBuiltinCall id args) (fun _ s₁ => wpC (model P w) A.in1 (b args)
      (fun fin s' => match fin with | .done f => R (.ok f) s' | .again c' => c'.quiet = true ∧ codeC (model P w) A c' R s') (fun e s' => R (.error e) s') s₁) (fun e s' => R (.error e) s') s) : codeC (model P w) A (.call (.builtin id) args) R s := by
  refine codeC_of_tree ?_
  show wpC _ A.in1 (do checkBuiltinCall id args; again (.builtin id args)) _ _ s
  exact wpC_bind (wpC_mono (wpC_of h) (fun _ s₁ h₁ => wpC_pure (And.intro (plainId_quiet hq args) (codeC_builtin hb hq h₁))) fun _ _ h' => h')
theorem callSpecialC_slot {self : Value} {T : String} {name : Str} {id : String} {args : List Value} {kw : List (Str × Value)} {Q : Option Value → Shared → Prop} (hT : s.TypeIs self T) (h : Slot T name id)
    (hc : wpC (model P w) A (call (.builtin id) (self :: args) kw) (fun v => Q (some v)) E s) : wpC (model P w) A (callSpecial? self name args kw) Q E s := by
  simp only [callSpecial?]
  refine wpC_bind (wpC_of (wpAny_specialOf hT h.lookup ?_))
  simp only [h.bind]
  exact wpC_holding (wpC_bind (wpC_pure (wpC_bind (wpC_mono hc (fun v s' h' => wpC_pure h') fun _ _ h' => h'))))
theorem call_entryC {T : String} {name : Str} {id : String} {b : Builtin} {self : Value} {rest : List Value} {Q : Value → Shared → Prop} (h : Slot T name id) (hT : s.TypeIs self T) (hb : entryFor table id = some b)
    (hc : wpC (model P w) A.in1 (b ⟨self :: rest, []⟩) (fun fin s' => ∃ v, fin = .done (.ret v) ∧ Q v s') E s) (ha : argsOk id ⟨self :: rest, []⟩ := by rfl) : wpC (model P w) A (call (.builtin id) (self :: rest)) Q E s := by
  refine wpC_call (codeC_call_builtin h.plain hb (h.check _ _ _ _ _ _ _ _ hT ha (wpC_mono hc (fun fin s' h' => ?_) fun _ _ h' => h')))
  obtain ⟨v, rfl, hv⟩ := h'
  exact hv
end

/-- a generator's object; its slots: how often it is slept over (not now) -/
def IsGenS (h : Heap) (a : Addr) (g : Nat) : Prop := ∃ o nm qn, h.get? a = some o ∧ o.cls = .type "generator" ∧ o.data = .fields #[.int g 0, nm, qn] ∧ ∀ n t, o.slots[0]? = some (some (.int n t)) → n ≤ 0
theorem IsGenS.keeps {h h' : Heap} {a : Addr} {g : Nat} (x : IsGenS h a g) (hk : ∀ o, h.get? a = some o → h'.get? a = some o) : IsGenS h' a g :=
  let ⟨o, nm, qn, ho, r⟩ := x; ⟨o, nm, qn, hk _ ho, r⟩
theorem IsGenS.typeIs {s : Shared} {a : Addr} {g : Nat} (x : IsGenS s.heap a g) : s.TypeIs (.ref a) "generator" := let ⟨o, nm, qn, ho, hc, _⟩ := x; ⟨o, ho, hc⟩
theorem IsGenS.of {h : Heap} {a : Addr} {g : Nat} (x : h.IsGen a g) : IsGenS h a g := let ⟨o, nm, qn, ho, hc, hd, hs⟩ := x; ⟨o, nm, qn, ho, hc, hd, fun n t e => by rw [hs] at e; simp at e⟩
theorem IsGenS.number {h : Heap} {a : Addr} {g : Nat} (x : IsGenS h a g) : ∃ o, h.get? a = some o ∧ o.cls = .type "generator" ∧ o.genNumber? = some g := by
  obtain ⟨o, nm, qn, ho, hc, hd, _⟩ := x
  refine ⟨o, ho, hc, ?_⟩
  unfold Obj.genNumber?
  rw [hc, hd]
  show some ((g : Int).toNat) = some g
  rw [Int.toNat_natCast]

section
variable {M : Model} {A : Around} {E : Value → Shared → Prop} {s : Shared}
theorem genNumberS {a : Addr} {g : Nat} {Q : Nat → Shared → Prop} (hg : IsGenS s.heap a g) (h : Q g s) : wpAny M A (Builtin.Generator.genNumber (.ref a)) Q E s := by
  obtain ⟨o, nm, qn, ho, _, hd, hsl⟩ := hg
  unfold Builtin.Generator.genNumber
  refine wpAny_bind (wpAny_load ho ?_)
  rw [hd]
  have fin : wpAny M A (pure ((g : Int).toNat) : Sem Nat) Q E s := by
    rw [Int.toNat_natCast]
    exact wpAny_pure h
  cases e : o.slots[0]? with
  | none => exact fin
  | some y =>
    cases y with
    | none => exact fin
    | some v =>
      cases v with
      | int n t =>
        have hn := hsl n t e
        show wpAny M A (if n > 0 then _ else _) Q E s
        rw [if_neg (by omega)]
        exact fin
      | _ => exact fin
theorem wpC_resume {α : Type} {g : Nat} {Ok : Value → Shared → Prop} {Np : Value → Shared → Shared → Prop} {Rt : Shared → Prop} {xs : Nat} {gs : GenState} {l : List Value} {k : GenResult → Sem α} {Q : α → Shared → Prop} (hg : s.gens[g]? = some gs)
    (h : Rdy M A g Ok Np Rt xs gs (s.setGen g .running))
    (hk : match xs with
      | 0 => ∀ s1, Rt s1 → wpC M A (k (.returned .none)) Q E (s1.setGen g .finished)
      | xs' + 1 => ∀ v s1 gs', Ok v s1 → (∀ s2, Np v s1 s2 → Rdy M A g Ok Np Rt xs' gs' s2) → wpC M A (k (.yielded v)) Q E (s1.setGen g gs')) :
    wpC M A (.resume g (.send .none) l k) Q E s := fun Post c K H gd lv st p hA q e => by
  refine hk_resume (xs := xs) hg h hA ?_
  cases xs with
  | zero => exact fun s1 hr => hk s1 hr Post c K H gd lv st p hA q e
  | succ xs' =>
    intro v s1 k' l' c' p' fs' fl ok nx
    exact hk v s1 (.suspended k' l' c' p' fs' fl) ok (fun s2 n Post2 k2 l2 cc2 pp2 st2 p2 hA2 hc2 => nx s2 n Post2 k2 l2 cc2 pp2 st2 p2 hA2 hc2) Post c K H gd lv st p hA q e
end

section
variable {P : Program} {w : World} {A : Around} {E : Value → Shared → Prop} {s : Shared}
theorem nextC {a : Addr} {g : Nat} {gs : GenState} {Ok : Value → Shared → Prop} {Np : Value → Shared → Shared → Prop} {Rt : Shared → Prop} {xs : Nat} {Q : Option Value → Shared → Prop} (hh : A.handled = none) (hl : s.heap.NoLimit) (hroom : A.depth < recursionLimit)
    (hg : IsGenS s.heap a g) (hgs : s.gens[g]? = some gs) (h : Rdy (model P w) A.in1 g Ok Np Rt xs gs (s.setGen g .running))
    (hk : match xs with
      | 0 => ∀ s1, Rt s1 → ∀ e h', StopX e h' → (∀ b o, s1.heap.get? b = some o → h'.get? b = some o) → E e { s1.setGen g .finished with heap := h' }
      | xs' + 1 => ∀ v s1 gs', Ok v s1 → (∀ s2, Np v s1 s2 → Rdy (model P w) A.in1 g Ok Np Rt xs' gs' s2) → Q (some v) (s1.setGen g gs')) :
    wpC (model P w) A (callSpecial? (.ref a) "__next__") Q E s := by
  refine callSpecialC_slot (name := Str.ofString "__next__") hg.typeIs slot_gen_next (call_entryC slot_gen_next hg.typeIs entry_gen_next ?_ (args_gen_next _))
  show wpC _ A.in1 (Builtin.Generator.genWake (.ref a) (.send .none)) _ _ s
  unfold Builtin.Generator.genWake
  refine wpC_bind (wpC_of (wpAny_holding (genNumberS hg ?_)))
  refine wpC_bind (wpC_of (wpAny_genState hgs ?_))
  cases gs with
  | running => exact h.elim
  | finished => exact h.elim
  | _ =>
    refine wpC_bind (wpC_of (wpAny_roomToWake hl hroom ?_))
    refine wpC_resume (xs := xs) hgs h ?_
    cases xs with
    | zero =>
      intro s1 hr
      refine wpC_of ?_
      show wpAny _ A.in1 (newExc (.type "StopIteration") [] >>= _) _ _ _
      refine wpAny_bind ?_
      simp only [newExc, newTuple]
      refine wpAny_bind (wpAny_newObj_type ?_ (by size_fits))
      refine wpAny_bind (m := firstArgMember _ _) (wpAny_of_eq (a := Value.none) (by first | rfl | (simp only [firstArgMember]; rfl)) ?_)
      refine wpAny_newObj_type ?_ (by size_fits)
      simp only [raiseNew]
      refine wpAny_bind (wpAny_bind (wpAny_handled ?_))
      first | rw [show A.in1.handled = none from hh] | rw [hh]
      refine wpAny_throw ?_
      exact hk s1 hr _ _ ⟨_, _, _, rfl, Heap.get?_push_size _ rfl, rfl, rfl, rfl⟩ fun b o hb => Heap.get?_push_of_some _ (Heap.get?_push_of_some _ hb)
    | succ xs' =>
      intro v s1 gs' ok nx
      exact wpC_pure ⟨v, rfl, hk v s1 gs' ok nx⟩
theorem pyNextC {a : Addr} {g : Nat} {gs : GenState} {Ok : Value → Shared → Prop} {Np : Value → Shared → Shared → Prop} {Rt : Shared → Prop} {xs : Nat} {Q : Option Value → Shared → Prop} (hh : A.handled = none) (hl : s.heap.NoLimit) (hroom : A.depth < recursionLimit)
    (hg : IsGenS s.heap a g) (hgs : s.gens[g]? = some gs) (h : Rdy (model P w) A.in1 g Ok Np Rt xs gs (s.setGen g .running))
    (hk : match xs with
      | 0 => ∀ s1, Rt s1 → ∀ h', (∀ b o, s1.heap.get? b = some o → h'.get? b = some o) → Q none { s1.setGen g .finished with heap := h' }
      | xs' + 1 => ∀ v s1 gs', Ok v s1 → (∀ s2, Np v s1 s2 → Rdy (model P w) A.in1 g Ok Np Rt xs' gs' s2) → Q (some v) (s1.setGen g gs')) :
    wpC (model P w) A (pyNext (.ref a)) Q E s := by
  unfold pyNext
  refine wpC_bind (wpC_attempt (nextC (xs := xs) hh hl hroom hg hgs h ?_))
  cases xs with
  | zero =>
    intro s1 hr e h' hs hk'
    obtain ⟨x, o, vs, rfl, ho, hc, _⟩ := hs
    refine wpC_of (wpAny_bind (wpAny_isInstance (T := "StopIteration") (b := true) ⟨o, ho, hc⟩ isSubtype_stop ?_))
    exact wpAny_pure (hk s1 hr _ hk')
  | succ xs' =>
    intro v s1 gs' ok nx
    exact wpC_pure (hk v s1 gs' ok nx)
end
end Lp
end
section
set_option Elab.async false
set_option linter.all false
set_option maxRecDepth 100000
set_option maxHeartbeats 1000000
namespace Lp
open PySem L2 PyProof.Rows
open Sem (wp)
theorem codeC_builtinU {P : Program} {w : World} {A : Around} {s : Shared} {R : Result → Shared → Prop} {id : String} {args : Args} {b : Builtin} (hb : entryFor table id = some b)
    (h : wpC (model P w) (A.under (.builtin id args)) (b args) (fun fin s' => match fin with | .done f => R (.ok f) s' | .again c' => c'.quiet = true ∧ codeC (model P w) A c' R s') (fun e s' => R (.error e) s') s) : codeC (model P w) A (.builtin id args) R s := by
  refine codeC_of_tree ?_
  show wpC _ _ (match entryFor table id with | some b => b args | none => unsupported ((withoutEnding? id "#data").getD id)) _ _ s
  rw [hb]
  exact h
abbrev wantsC (Q : Value → Shared → Prop) (E : Value → Shared → Prop) : Result → Shared → Prop := fun r s' => match r with | .ok (.ret v) => Q v s' | .ok _ => False | .error e => E e s'
/-- list(u), up to its __init__ -/
theorem call_listC {P : Program} {w : World} {A : Around} {E : Value → Shared → Prop} {s : Shared} {Q : Value → Shared → Prop} {u : Value}
    (h : wpC (model P w) A.in1.in1 (Builtin.«list.__init__» ⟨[.ref s.heap.objs.size, u], []⟩)
      (fun fin s' => match fin with
        | .done f => wantsC (fun r s2 => r = .none ∧ Q (.ref s.heap.objs.size) s2) E (.ok f) s'
        | .again c' => c'.quiet = true ∧ codeC (model P w) A.in1 c' (wantsC (fun r s2 => r = .none ∧ Q (.ref s.heap.objs.size) s2) E) s') (fun e s' => E e s')
      { s with heap := s.heap.push { cls := .type "list", data := .seq #[] } }) : wpC (model P w) A (call (.type "list") [u]) Q E s := by
  obtain ⟨c, tl, hmro⟩ := F.called_list.mro
  have hmade := F.called_list.made
  have hsub := F.called_list.sub
  have h1 := F.called_list.notType
  have h2 := F.called_list.canCreate
  refine wpC_call (codeC_of_tree ?_)
  show wpC _ _ (callAny (.type "list") _) _ _ _
  refine wpC_pure ⟨Code.quiet_builtin _ (by decide +kernel), codeC_builtinU F.entry_type_call ?_⟩
  rw [Around.under_plain (weight_type_call_type "list" [u] []) rfl]
  unfold Builtin.«type.__call__»
  dsimp only
  rw [if_neg (by rw [h1]; exact Bool.false_ne_true)]
  rw [if_neg (by rw [h2]; exact Bool.false_ne_true)]
  refine wpC_bind (wpC_of (wpAny_of_eq (F.typeCall_list_1 u) ?_))
  refine wpC_bind (wpC_of (wpAny_of_eq hmro ?_))
  rw [if_neg (by simp)]
  refine wpC_bind (wpC_of (wpAny_of_eq hmade ?_))
  dsimp only
  refine wpC_bind (wpC_pure ?_)
  have z := code_list_new (prog := P) (w := w) (A := A.in1) (E := E) (s := s) (Q₁ := fun obj s1 => obj = .ref s.heap.objs.size ∧ s1 = { s with heap := s.heap.push { cls := .type "list", data := .seq #[] } }) u ⟨rfl, rfl⟩
  refine wpC_bind (wpC_of (wpAny_holding (wpAny_call (codeAny_mono z ?_))))
  intro r s1 hr
  cases r with
  | error e => exact hr
  | ok f =>
    cases f with
    | next => exact hr
    | brk => exact hr
    | cont => exact hr
    | ret obj =>
      obtain ⟨rfl, rfl⟩ := hr
      have hT : ({ s with heap := s.heap.push { cls := .type "list", data := .seq #[] } } : Shared).TypeIs (.ref s.heap.objs.size) "list" := ⟨_, Heap.get?_push_size _ rfl, rfl⟩
      refine wpC_bind (wpC_of (wpAny_isInstance hT hsub ?_))
      rw [if_neg (by decide)]
      refine wpC_bind (wpC_holding (callSpecialC_slot (name := Str.ofString "__init__") hT F.called_list.init ?_))
      refine wpC_call (codeC_call_builtin F.called_list.init.plain F.entry_list_init (F.called_list.init.check _ _ _ _ _ _ _ _ hT (F.args_list_init_2 _ _) ?_))
      refine wpC_mono h (fun fin s' hf => ?_) fun e s' he => he
      cases fin with
      | again c' =>
        refine ⟨hf.1, codeC_mono hf.2 fun r s2 hr => ?_⟩
        cases r with
        | error e => exact hr
        | ok f =>
          cases f with
          | next => exact hr
          | brk => exact hr
          | cont => exact hr
          | ret v =>
            obtain ⟨rfl, q⟩ := hr
            dsimp only
            rw [if_neg (by decide)]
            exact wpC_pure q
      | done f =>
        cases f with
        | next => exact hf
        | brk => exact hf
        | cont => exact hf
        | ret v =>
          obtain ⟨rfl, q⟩ := hf
          dsimp only
          rw [if_neg (by decide)]
          exact wpC_pure q

/-! ### the list that draws from a generator -/
/-- these numbers run again, all else as it was -/
structure GsRel (Gs : List Nat) (x y : Array GenState) : Prop where
  size : y.size = x.size
  same : ∀ j, j ∉ Gs → y[j]? = x[j]?
  run : ∀ j ∈ Gs, j < x.size → y[j]? = some .running
theorem GsRel.bare {Gs : List Nat} {x y : Array GenState} (h : GsRel Gs x y) (b : AllBare x) : AllBare y := fun z hz => by
  obtain ⟨i, hi, e⟩ := Array.mem_iff_getElem.mp hz
  have e2 : y[i]? = some z := by rw [Array.getElem?_eq_getElem hi, e]
  by_cases hm : i ∈ Gs
  · rw [h.run i hm (by rw [← h.size]; exact hi)] at e2
    cases e2
    rfl
  · rw [h.same i hm] at e2
    exact b z (Array.mem_of_getElem? e2)
/-- the generators (own, or an ancestor's delegate) that a yield on its way up marks: D -/
structure Nap (S : Addr) (D : Addr → Prop) (Gs : List Nat) (v : Value) (s1 s2 : Shared) : Prop where
  os : s2.os = s1.os
  gens : GsRel Gs s1.gens s2.gens
  keep : ∀ b o, b ≠ S → ¬ D b → s1.heap.get? b = some o → s2.heap.get? b = some o
  slot : ∀ b o, D b → s1.heap.get? b = some o → ∃ sl, s2.heap.get? b = some { o with slots := sl }
  gen : ∀ b g, D b → IsGenS s1.heap b g → IsGenS s2.heap b g
  own : ∀ acc c, s1.heap.get? S = some (lstObj acc c) → ∃ c', s2.heap.get? S = some (lstObj (acc.push v) c')
/-- what the list asks when an item comes; ch: the generator, whoever delegates to it .. -/
structure OkC (S : Addr) (ch : List (Addr × Nat)) (s1 : Shared) : Prop where
  limit : s1.heap.NoLimit
  gen : ∀ q ∈ ch, IsGenS s1.heap q.1 q.2 ∧ q.2 < s1.gens.size
  lst : ∃ acc c, s1.heap.get? S = some (lstObj acc c) ∧ acc.size < sizeLine
theorem gs_own {G : Array GenState} {g : Nat} {x : GenState} : GsRel [g] G ((G.setIfInBounds g x).setIfInBounds g .running) := by
  refine ⟨by simp, fun j hj => ?_, fun j hj hl => ?_⟩
  · have e : g ≠ j := fun z => hj (by rw [z]; exact List.mem_singleton.mpr rfl)
    rw [Array.getElem?_setIfInBounds_ne e, Array.getElem?_setIfInBounds_ne e]
  · rw [List.mem_singleton.mp hj] at hl ⊢
    simp [hl]
section
variable {P : Program} {w : World} {A : Around} {s : Shared} {R : Result → Shared → Prop} {S a : Addr} {g : Nat} {D : Addr → Prop} {Rt : Shared → Prop} {res : Value}
theorem loopC (hh : A.handled = none) (hd : A.depth < recursionLimit) (hSa : S ≠ a) (hSc : S ≠ cStatics) (hDS : ¬ D S) (hend : ∀ s1 h', Rt s1 → (∀ b o, s1.heap.get? b = some o → h'.get? b = some o) → R (.ok (.ret res)) { s1.setGen g .finished with heap := h' }) :
    ∀ (xs : Nat) (gs : GenState) (s : Shared), IsGenS s.heap a g → s.heap.NoLimit → s.gens[g]? = some gs → Rdy (model P w) A.in1.in1 g (fun _ => OkC S [(a, g)]) (Nap S D [g]) Rt xs gs (s.setGen g .running) →
      codeC (model P w) A (.builtin "list.extend.loop" ⟨[.ref S, .ref a, res], []⟩) R s := by
  intro xs
  induction xs with
  | zero =>
    intro gs s hg hl hgs hr
    refine codeC_builtin F.entry_extend_loop F.plain_extend_loop ?_
    show wpC _ A.in1 (pyNext (.ref a) >>= _) _ _ s
    refine wpC_bind (pyNextC (xs := 0) (A := A.in1) hh hl hd hg hgs hr fun s1 h1 h' hk => ?_)
    exact wpC_pure (hend s1 h' h1 hk)
  | succ xs ih =>
    intro gs s hg hl hgs hr
    refine codeC_builtin F.entry_extend_loop F.plain_extend_loop ?_
    show wpC _ A.in1 (pyNext (.ref a) >>= _) _ _ s
    refine wpC_bind (pyNextC (xs := xs + 1) (A := A.in1) hh hl hd hg hgs hr fun v s1 gs' ok nx => ?_)
    obtain ⟨hl1, hch, acc, c, hS1, hasz⟩ := ok
    obtain ⟨hg1, hgsz⟩ := hch (a, g) (List.mem_singleton.mpr rfl)
    show wpC _ A.in1 (updateSeq S (·.push v) >>= _) _ _ _
    refine wpC_bind (wpC_of ?_)
    refine wpAny_updateSeq hS1 rfl (wpC_pure ⟨plainId_quiet F.plain_extend_loop _, ?_⟩) (Nat.le_of_lt hasz) (by show (acc.push v).size ≤ sizeLine + 1; rw [Array.size_push]; omega)
    have keep3 : ∀ b o, b ≠ S → s1.heap.get? b = some o → (s1.heap.update S (Obj.mapSeq (·.push v))).get? b = some o := fun b o hb e => (Heap.get?_update_other _ _ (Ne.symm hb)).trans e
    have hS2 : ∀ acc c, s1.heap.get? S = some (lstObj acc c) → ∃ c', (s1.heap.update S (Obj.mapSeq (·.push v))).get? S = some (lstObj (acc.push v) c') := fun acc' c' e => by
      rw [hS1] at e
      cases e
      exact ⟨_, Heap.get?_update_self _ hS1 rfl⟩
    refine ih gs' { s1.setGen g gs' with heap := s1.heap.update S (Obj.mapSeq (·.push v)) } (hg1.keeps fun o e => keep3 a o (Ne.symm hSa) e) ?_ ?_ ?_
    · obtain ⟨mc, hns, hnn⟩ := hl1
      exact ⟨mc, hns.at' fun o e => keep3 _ o (Ne.symm hSc) e, hnn⟩
    · exact setGen_at hgsz
    · refine nx _ ⟨rfl, gs_own, fun b o hb _ e => keep3 b o hb e, fun b o hb e => ?_, fun b g' hb e => ?_, hS2⟩
      · exact ⟨o.slots, keep3 b o (fun z => hDS (z ▸ hb)) e⟩
      · exact e.keeps fun o q => keep3 b o (fun z => hDS (z ▸ hb)) q
end
end Lp
end
section
set_option Elab.async false
set_option linter.all false
set_option maxRecDepth 100000
set_option maxHeartbeats 1000000
/-! Lp.G6: list(g). -/
namespace Lp
open PySem L2 PyProof.Rows
open Sem (wp)
section
variable {P : Program} {w : World} {A : Around} {s : Shared} {a : Addr} {g : Nat} {D : Addr → Prop} {Rt : Shared → Prop} {xs : Nat} {gs : GenState} {Q : Value → Shared → Prop} {E : Value → Shared → Prop}
theorem list_genC (hh : A.handled = none) (hd : A.depth < recursionLimit) (hg : IsGenS s.heap a g) (hl : s.heap.NoLimit) (hgs : s.gens[g]? = some gs) (hDS : ¬ D s.heap.objs.size)
    (wake : ∀ s2 : Shared, s2.os = s.os → s2.gens = s.gens.setIfInBounds g .running → (∀ b o, s.heap.get? b = some o → s2.heap.get? b = some o) → (∃ c, s2.heap.get? s.heap.objs.size = some (lstObj #[] c)) →
      Rdy (model P w) A.in1.in1.in1 g (fun _ => OkC s.heap.objs.size [(a, g)]) (Nap s.heap.objs.size D [g]) Rt xs gs s2)
    (hend : ∀ s1 h', Rt s1 → (∀ b o, s1.heap.get? b = some o → h'.get? b = some o) → Q (.ref s.heap.objs.size) { s1.setGen g .finished with heap := h' }) :
    wpC (model P w) A (call (.type "list") [.ref a]) Q E s := by
  have ha : a < s.heap.objs.size := let ⟨_, _, _, e, _⟩ := hg; Heap.lt_size e
  have hSa : s.heap.objs.size ≠ a := Nat.ne_of_gt ha
  have hcl : cStatics < s.heap.objs.size := let ⟨_, hn, _⟩ := hl; hn.lt
  have hSc : s.heap.objs.size ≠ cStatics := Nat.ne_of_gt hcl
  have hS : (s.heap.push { cls := .type "list", data := .seq #[] }).get? s.heap.objs.size = some { cls := .type "list", data := .seq #[] } := Heap.get?_push_size _ rfl
  refine call_listC ?_
  show wpC _ A.in1.in1 (do let old ← Builtin.List.listItems (.ref s.heap.objs.size); Builtin.List.listUpdate (.ref s.heap.objs.size) (fun _ => #[]); letGo old.toList.reverse; Builtin.List.listExtendWith (.ref s.heap.objs.size) (.ref a) .none) _ _ _
  refine wpC_of (wpAny_bind ?_)
  unfold Builtin.List.listItems
  refine wpAny_bind (wpAny_seqItems hS rfl (wpAny_pure ?_))
  show wpAny _ A.in1.in1 (updateSeq s.heap.objs.size (fun _ => #[]) >>= fun _ => letGo (#[] : Array Value).toList.reverse >>= fun _ => Builtin.List.listExtendWith (.ref s.heap.objs.size) (.ref a) .none) _ _ _
  refine wpAny_bind (wpAny_updateSeq hS rfl ?_)
  have hS2 := Heap.get?_update_self (Obj.mapSeq (fun _ => (#[] : Array Value))) hS rfl
  refine wpAny_bind (wpAny_letGo ?_)
  unfold Builtin.List.listExtendWith
  have up : ∀ (h : Heap) (f : Obj → Obj), (∀ b o, s.heap.get? b = some o → h.get? b = some o) → ∀ b o, s.heap.get? b = some o → (h.update s.heap.objs.size f).get? b = some o := fun h f q b o e =>
    (Heap.get?_update_other _ _ (Ne.symm (Nat.ne_of_lt (Heap.lt_size e)))).trans (q b o e)
  have k1 : ∀ b o, s.heap.get? b = some o → (s.heap.push { cls := .type "list", data := .seq #[] }).get? b = some o := fun b o e => Heap.get?_push_of_some _ e
  have k2 := up _ (Obj.mapSeq (fun _ => (#[] : Array Value))) k1
  have gty : ∀ {h : Heap}, (∀ b o, s.heap.get? b = some o → h.get? b = some o) → IsGenS h a g := fun {h} q => hg.keeps fun o e => q a o e
  refine wpAny_bind (wpAny_typeOf (IsGenS.typeIs (s := { s with heap := _ }) (gty k2)) ?_)
  have h1 : Builtin.List.listSameRef (.ref s.heap.objs.size) (.ref a) = false := by simp [Builtin.List.listSameRef, hSa]
  have h2 : (Value.type "generator" == Value.type "list") = false := by decide
  have h3 : (Value.type "generator" == Value.type "tuple") = false := by decide
  simp only [h1, h2, h3, Bool.or_false, Bool.false_eq_true, if_false]
  have iter : ∀ {Q : Value → Shared → Prop} {E : Value → Shared → Prop} {s' : Shared} {B : Around}, IsGenS s'.heap a g → Q (.ref a) s' → wpAny (model P w) B (pyIter (.ref a)) Q E s' := by
    intro Q E s' B x q
    refine wpAny_pyIter_slot x.typeIs slot_gen_iter (wpAny_call_entry slot_gen_iter x.typeIs entry_gen_iter ?_ (args_gen_iter _))
    show wpAny _ _ (ret (.ref a)) _ _ s'
    exact wpAny_pure ⟨_, rfl, "generator", _, x.typeIs, slot_gen_next.lookup, q⟩
  refine wpAny_bind (iter (gty k2) ?_)
  refine wpAny_bind (wpAny_holding ?_)
  unfold Builtin.List.listLengthHint
  refine wpAny_bind (wpAny_specialOf (IsGenS.typeIs (s := { s with heap := _ }) (gty k2)) F.gen_no_len ?_)
  show wpAny _ A.in1.in1 (specialOf (Value.ref a) (Str.ofString "__length_hint__") >>= _) _ _ _
  refine wpAny_bind (wpAny_specialOf (IsGenS.typeIs (s := { s with heap := _ }) (gty k2)) F.gen_no_hint ?_)
  refine wpAny_pure ?_
  show wpAny _ A.in1.in1 (rule "list.extend.makes-room" >>= fun _ => Builtin.List.listTouch (.ref s.heap.objs.size) >>= fun _ =>
    again (.builtin "list.extend.loop" ⟨[.ref s.heap.objs.size, .ref a, .none], []⟩)) _ _ _
  refine wpAny_bind (wpAny_rule ?_)
  refine wpAny_bind ?_
  show wpAny _ A.in1.in1 (updateSeq s.heap.objs.size (·.push .none) >>= fun _ => updateSeq s.heap.objs.size (·.pop)) _ _ _
  refine wpAny_bind (wpAny_updateSeq hS2 rfl ?_)
  have hS3 := Heap.get?_update_self (Obj.mapSeq (·.push Value.none)) hS2 rfl
  refine wpAny_updateSeq (hz := by seq_fits) hS3 rfl ?_
  have hS4 := Heap.get?_update_self (Obj.mapSeq (·.pop)) hS3 rfl
  have k4 := up _ (Obj.mapSeq (·.pop)) (up _ (Obj.mapSeq (·.push Value.none)) k2)
  refine wpAny_pure ⟨plainId_quiet F.plain_extend_loop _, ?_⟩
  refine loopC (A := A.in1) (D := D) (Rt := Rt) hh hd hSa hSc hDS (fun s1 h' hr hk => ⟨rfl, hend s1 h' hr hk⟩) xs gs _ (gty k4) (hl.keeps k4) hgs ?_
  exact wake _ rfl rfl k4 ⟨_, hS4⟩
end
end Lp
end
section
set_option Elab.async false
set_option linter.all false
set_option maxRecDepth 100000
set_option maxHeartbeats 1000000
/-! Lp.G7: the state of a generator's body; statements, items. -/
namespace Lp
open PySem PySem.Spec L2 PyProof.Rows GenW
open Sem (wp)

/-- a generator's body between two statements: ys stands in the consumer's list at S; ch: the generator, whoever delegates to it .. -/
structure GIv (X : Cx) (S : Addr) (ch : List (Addr × Nat)) (ip : List (Addr × Obj)) (ys : List V) (σ : L2.St) (H : Hp) (s : Shared) : Prop where
  inv : Inv X ip σ H s
  lst : ∃ acc c, s.heap.get? S = some (lstObj acc c) ∧ Vals ys acc.toList
  gen : ∀ q ∈ ch, IsGenS s.heap q.1 q.2 ∧ q.2 < s.gens.size
  fp : ∀ b ∈ S :: ch.map (·.1), FpOk X ip H b
  nS : S ∉ ch.map (·.1)
section
variable {X : Cx} {S : Addr} {ch : List (Addr × Nat)} {ip : List (Addr × Obj)} {ys : List V} {σ : L2.St} {H : Hp} {s : Shared}
abbrev chPins (S : Addr) (ch : List (Addr × Nat)) (h : Heap) : List (Addr × Obj) := pinsAt (S :: ch.map (·.1)) h
theorem GIv.pinned (I : GIv X S ch ip ys σ H s) : Inv X (ip ++ chPins S ch s.heap) σ H s := by
  refine I.inv.pinned I.fp fun b hb => ?_
  rcases List.mem_cons.mp hb with e | hb
  · obtain ⟨acc, c, h1, _⟩ := I.lst
    exact ⟨_, e ▸ h1, fun v q => by cases q⟩
  · obtain ⟨q, hq, e⟩ := List.mem_map.mp hb
    obtain ⟨⟨o, nm, qn, h1, _, h3, _⟩, _⟩ := I.gen q hq
    exact ⟨o, e ▸ h1, fun v z => by rw [h3] at z; cases z⟩
theorem GIv.back {σ' : L2.St} {H' : Hp} {s' : Shared} (I : GIv X S ch ip ys σ H s) (J : Inv X (ip ++ chPins S ch s.heap) σ' H' s') (hz : s.gens.size ≤ s'.gens.size) : GIv X S ch ip ys σ' H' s' := by
  have at_ : ∀ b ∈ S :: ch.map (·.1), ∀ o, s.heap.get? b = some o → s'.heap.get? b = some o ∧ H' b = none := fun b hb o e => by
    obtain ⟨h1, h2, _⟩ := J.pin (b, o) (List.mem_append_right _ (List.mem_append_right _ (mem_pinsAt hb e)))
    exact ⟨h1, h2⟩
  have free : ∀ b ∈ S :: ch.map (·.1), H' b = none := fun b hb => by
    rcases List.mem_cons.mp hb with e | hb'
    · obtain ⟨acc, c, h1, _⟩ := I.lst
      exact (at_ b hb _ (e ▸ h1)).2
    · obtain ⟨q, hq, e⟩ := List.mem_map.mp hb'
      obtain ⟨⟨o, nm, qn, h1, _⟩, _⟩ := I.gen q hq
      exact (at_ b hb o (e ▸ h1)).2
  refine ⟨J.pins_of fun p hp => J.pin p (List.mem_append_right _ (List.mem_append_left _ hp)), ?_, fun q hq => ?_, fun b hb => ⟨free b hb, (I.fp b hb).2⟩, I.nS⟩
  · obtain ⟨acc, c, h1, h2⟩ := I.lst
    exact ⟨acc, c, (at_ S List.mem_cons_self _ h1).1, h2⟩
  · obtain ⟨hg, hl⟩ := I.gen q hq
    refine ⟨hg.keeps fun o e => (at_ q.1 (List.mem_cons_of_mem _ (List.mem_map.mpr ⟨q, hq, rfl⟩)) o e).1, Nat.lt_of_lt_of_le hl hz⟩
/-- what the library proves of a piece, within a generator's body -/
theorem GIv.run {α : Type} {t : Sem α} {Post : List (Addr × Obj) → α → Shared → Prop} {M : Model} {A : Around} {E : Value → Shared → Prop} (I : GIv X S ch ip ys σ H s) (h : ∀ pins, Inv X pins σ H s → wpAny M A t (Post pins) E s) :
    wpAny M A t (fun a s' => Post (ip ++ chPins S ch s.heap) a s' ∧ s.gens.size ≤ s'.gens.size) E s :=
  wpAny_gsz (Nat.le_refl _) (wpAny_mono (h _ I.pinned) (fun _ _ x hz => ⟨x, hz⟩) fun _ _ x _ => x)
/-- woken: x stands behind -/
theorem GIv.woken {x : V} {v : Value} {Dl : List Addr} {Gs : List Nat} {s' : Shared} (I : GIv X S ch ip ys σ H s) (hD : ∀ b ∈ Dl, b ∈ ch.map (·.1)) (rv : RelV x v) (z : Nap S (· ∈ Dl) Gs v s s') : GIv X S ch ip (ys ++ [x]) σ H s' := by
  obtain ⟨z1, z2, z3, z4, z5, z6⟩ := z
  obtain ⟨acc, c, hS, ra⟩ := I.lst
  obtain ⟨c', hS'⟩ := z6 acc c hS
  have nc : ∀ b, b ∉ S :: Dl → b ≠ S ∧ b ∉ Dl := fun b hb => ⟨fun e => hb (by rw [e]; exact List.mem_cons_self), fun e => hb (List.mem_cons_of_mem _ e)⟩
  have sub : ∀ b ∈ S :: Dl, b ∈ S :: ch.map (·.1) := fun b hb => by
    rcases List.mem_cons.mp hb with e | hb
    · rw [e]; exact List.mem_cons_self
    · exact List.mem_cons_of_mem _ (hD b hb)
  have nt : ∀ b u, H b = some u → b ∉ S :: Dl := fun b u q hb => by
    have := (I.fp b (sub b hb)).1
    rw [this] at q
    cases q
  have keep : ∀ b o, b ∉ S :: Dl → s.heap.get? b = some o → s'.heap.get? b = some o := fun b o hb e => z3 b o (nc b hb).1 (nc b hb).2 e
  obtain ⟨hh, gg, d, t, o⟩ := s'
  have ho : o = s.os := z1
  subst ho
  have J : Inv X ip σ H { s with heap := hh, gens := gg, drawn := d, toks := t } := by
    refine I.inv.step (g' := gg) (t' := t) (d' := d) (ch := S :: Dl) (fun b hb => ?_)
      (fun b ob _ _ hc q _ => keep b ob hc q) (fun b ob _ _ hc q _ => ⟨ob.slots, keep b ob hc q⟩) (fun _ _ _ _ n => n) (fun b ob hc q => ⟨ob, keep b ob hc q⟩)
      (fun _ _ q => q) (fun _ _ _ q => q) (fun b ps q => ⟨#[], by rw [q]; simp⟩) (fun m hm => ?_) (fun b u q => ?_) (z2.bare I.inv.bare)
    · obtain ⟨_, f1, _, f3, f4, f5⟩ := I.fp b (sub b hb)
      exact ⟨f3, f1, f4, f5⟩
    · obtain ⟨ob, es, ep, ho, r⟩ := hm
      exact ⟨ob, es, ep, keep _ ob (fun hb => (I.fp _ (sub _ hb)).2.1 rfl) ho, r⟩
    · refine (I.inv.hok b u q).stay (fun cc v hc y => keep cc v ?_ y) (fun _ y => y) fun _ _ y => y
      rcases hc with y | y
      · rw [y]; exact nt b u q
      · exact nt cc _ y
  refine ⟨J, ⟨acc.push v, c', hS', ?_⟩, fun q hq => ?_, I.fp, I.nS⟩
  · rw [Array.toList_push]
    exact ra.append (.cons rv .nil)
  · obtain ⟨hg, hl⟩ := I.gen q hq
    refine ⟨?_, by rw [z2.size]; exact hl⟩
    by_cases hb : q.1 ∈ Dl
    · exact z5 q.1 q.2 hb hg
    · exact hg.keeps fun o e => z3 q.1 o (fun e2 => I.nS (by rw [← e2]; exact List.mem_map.mpr ⟨q, hq, rfl⟩)) hb e
theorem GIv.ok (I : GIv X S ch ip ys σ H s) (hz : ys.length < sizeLine) : OkC S ch s := by
  obtain ⟨acc, c, h1, h2⟩ := I.lst
  refine ⟨I.inv.nolimit, I.gen, acc, c, h1, ?_⟩
  have e1 := h2.length
  have e2 : acc.toList.length = acc.size := by simp
  exact Nat.lt_of_le_of_lt (Nat.le_of_eq (e2.symm.trans e1.symm)) hz
end

/-! ### statements -/
/-- where a generator's code stands -/
structure GCd (X : Cx) (A : Around) (c : Code) (fs : List Frame) (gd : Bool → Bool) : Prop where
  over : A.over c fs = X.A
  split : splitAtGen fs = none
  guard : fs.any Frame.guarded = false
  gd : gd false = false
  nox : X.xe = fun _ _ => False
abbrev GB (X : Cx) (A : Around) (g : Nat) (S : Addr) (ch : List (Addr × Nat)) (Dl : List Addr) (Gs : List Nat) (Rt : Shared → Prop) : Nat → Sem PySem.Fin → Code → List Frame → Shared → Prop :=
  Bd (model X.prog X.w) A g (fun _ => OkC S ch) (Nap S (· ∈ Dl) Gs) Rt
def GSPx (X : Cx) (S : Addr) (ch : List (Addr × Nat)) (ip : List (Addr × Obj)) (ys : List V) (D : Ends) (f : Flow) (s : Shared) : Prop :=
  match f with
  | .next => ∃ σ H, GIv X S ch ip ys σ H s ∧ D.nx σ H
  | .brk => ∃ σ H, GIv X S ch ip ys σ H s ∧ D.bk σ H
  | .cont => ∃ σ H, GIv X S ch ip ys σ H s ∧ D.ct σ H
  | .ret u => ∃ v σ H, GIv X S ch ip ys σ H s ∧ RelV v u ∧ D.rt v H
section
variable {X : Cx} {A : Around} {g : Nat} {S : Addr} {ch : List (Addr × Nat)} {Dl : List Addr} {Gs : List Nat} {Rt : Shared → Prop} {n : Nat} {c : Code} {fs : List Frame} {K : Flow → Sem PySem.Fin} {J : Value → Sem PySem.Fin} {gd : Bool → Bool} {lv : List Value → List Value}
  {ip : List (Addr × Obj)} {ys : List V} {σ : L2.St} {H : Hp} {s : Shared}
theorem gb_ps {st : Stmt} {t : TS} {D : Ends} (h : PS X st t) (G : GCd X A c fs gd) (I : GIv X S ch ip ys σ H s) (ht : t D σ H) (k : ∀ f s', GSPx X S ch ip ys D f s' → GB X A g S ch Dl Gs Rt n (K f) c fs s') :
    GB X A g S ch Dl Gs Rt n ((exec st X.env).wrap K J gd lv) c fs s := by
  refine bd_wrap (wpC_of ?_)
  rw [G.over]
  have r := I.run (M := model X.prog X.w) (A := X.A) (t := exec st X.env) (Post := fun pins => SP X pins D) (E := X.xe) fun pins J => h.run pins s σ H D J ht
  refine wpAny_mono r (fun f s' ⟨q, hz⟩ => ?_) fun x s' hx => ?_
  · refine k f s' ?_
    cases f with
    | next => obtain ⟨σ', H', J, q⟩ := q; exact ⟨σ', H', I.back J hz, q⟩
    | brk => obtain ⟨σ', H', J, q⟩ := q; exact ⟨σ', H', I.back J hz, q⟩
    | cont => obtain ⟨σ', H', J, q⟩ := q; exact ⟨σ', H', I.back J hz, q⟩
    | ret v => obtain ⟨v', σ', H', J, q⟩ := q; exact ⟨v', σ', H', I.back J hz, q⟩
  · rw [G.nox] at hx
    exact hx.elim
theorem gb_nil (k : GB X A g S ch Dl Gs Rt n (K .next) c fs s) : GB X A g S ch Dl Gs Rt n ((execs [] X.env).wrap K J gd lv) c fs s := k
theorem gb_cons {st : Stmt} {rest : List Stmt} (h : GB X A g S ch Dl Gs Rt n ((exec st X.env).wrap (fun f => match f with | .next => (execs rest X.env).wrap K J gd lv | f => K f) J gd lv) c fs s) :
    GB X A g S ch Dl Gs Rt n ((execs (st :: rest) X.env).wrap K J gd lv) c fs s := by
  rw [execs_cons_wrap]
  exact h
/-- a plain statement that goes on -/
theorem gb_step {st : Stmt} {rest : List Stmt} {t : TS} {nx : L2.St → Hp → Prop} (h : PS X st t) (G : GCd X A c fs gd) (I : GIv X S ch ip ys σ H s) (ht : t { nx := nx, rt := fun _ _ => False } σ H)
    (k : ∀ s' σ' H', GIv X S ch ip ys σ' H' s' → nx σ' H' → GB X A g S ch Dl Gs Rt n ((execs rest X.env).wrap K J gd lv) c fs s') : GB X A g S ch Dl Gs Rt n ((execs (st :: rest) X.env).wrap K J gd lv) c fs s := by
  refine gb_cons (gb_ps h G I ht fun f s' q => ?_)
  cases f with
  | next => obtain ⟨σ', H', I', q⟩ := q; exact k s' σ' H' I' q
  | brk => obtain ⟨_, _, _, q⟩ := q; exact q.elim
  | cont => obtain ⟨_, _, _, q⟩ := q; exact q.elim
  | ret v => obtain ⟨_, _, _, _, _, q⟩ := q; exact q.elim
/-- if -/
theorem gb_if {test : Expr} {b1 b2 : List Stmt} {pos : Pos} {tc : TT} {Qb : Bool → Hp → Prop} (h : PT X test tc) (G : GCd X A c fs gd) (I : GIv X S ch ip ys σ H s) (ht : tc σ H Qb)
    (k1 : ∀ s' H', GIv X S ch ip ys σ H' s' → Qb true H' → GB X A g S ch Dl Gs Rt n ((execs b1 X.env).wrap K J gd lv) c fs s')
    (k2 : ∀ s' H', GIv X S ch ip ys σ H' s' → Qb false H' → GB X A g S ch Dl Gs Rt n ((execs b2 X.env).wrap K J gd lv) c fs s') : GB X A g S ch Dl Gs Rt n ((exec (.If test b1 b2 pos) X.env).wrap K J gd lv) c fs s := by
  show GB X A g S ch Dl Gs Rt n (.at pos fun _ => (isTrue test X.env (eval test X.env) >>= fun b => if b then execs b1 X.env else execs b2 X.env).wrap K J gd lv) c fs s
  refine bd_at ?_
  refine bd_bind_wrap (wpC_of ?_)
  rw [G.over]
  have r := I.run (M := model X.prog X.w) (A := X.A) (t := isTrue test X.env (eval test X.env)) (Post := fun pins => TP X pins σ Qb) (E := X.xe) fun pins J => h.run pins s σ H Qb J ht
  refine wpAny_mono r (fun b s' ⟨⟨H', J, q⟩, hz⟩ => ?_) fun x s' hx => ?_
  · cases b with
    | true => exact k1 s' H' (I.back J hz) q
    | false => exact k2 s' H' (I.back J hz) q
  · rw [G.nox] at hx
    exact hx.elim
/-- yield e -/
theorem gb_yield {e : Expr} {yp pos : Pos} {te : TE} {Qe : VK} (he : PE X e te) (G : GCd X A c fs gd) (hD : ∀ b ∈ Dl, b ∈ ch.map (·.1)) (I : GIv X S ch ip ys σ H s) (hz : ys.length < sizeLine) (ht : te σ H Qe)
    (k : ∀ x s' H', GIv X S ch ip (ys ++ [x]) σ H' s' → Qe x H' → GB X A g S ch Dl Gs Rt n (K .next) c fs s')
    (hco : X.env.scope.isCoroutine = false := by rfl) (hi : interactive X.env = false := by rfl) : GB X A g S ch Dl Gs Rt (n + 1) ((exec (.Expr (.Yield (some e) yp) pos) X.env).wrap K J gd lv) c fs s := by
  rw [exec_Expr X.env _ pos hi rfl]
  show GB X A g S ch Dl Gs Rt (n + 1) (.at pos fun _ => ((eval e X.env >>= fun v => (standAt yp >>= fun _ => yieldOut X.env v)) >>= fun x => dropValue (.Yield (some e) yp) pos x).wrap K J gd lv) c fs s
  have hy : ∀ v, yieldOut X.env v = yieldValue v := fun v => by simp only [yieldOut, hco, Bool.false_eq_true, if_false]
  simp only [hy]
  refine bd_at ?_
  rw [Sem.bind_eq_wrap', Sem.bind_eq_wrap', Sem.wrap_wrap, Sem.wrap_wrap]
  refine bd_wrap (wpC_of ?_)
  rw [G.over]
  have r := I.run (M := model X.prog X.w) (A := X.A) (t := eval e X.env) (Post := fun pins => EP X pins σ Qe) (E := X.xe) fun pins J => he.run pins s σ H Qe J ht
  refine wpAny_mono r (fun v s' ⟨⟨x, H', J, rv, q⟩, hg⟩ => ?_) fun x s' hx => ?_
  · have I' := I.back J hg
    refine bd_at ?_
    have hgd : (id (id (gd false))) = false := G.gd
    show GB X A g S ch Dl Gs Rt (n + 1) (.yield v (gd false) _ _) c fs s'
    rw [G.gd]
    refine bd_yield G.split G.guard (I'.ok hz) fun s2 z => ?_
    exact k x s2 H' (I'.woken hD rv z) q
  · rw [G.nox] at hx
    exact hx.elim
end
end Lp
end
section
set_option Elab.async false
set_option linter.all false
set_option maxRecDepth 100000
set_option maxHeartbeats 1000000
/-! Lp.G8: a loop in a generator's body. -/
namespace Lp
open PySem PySem.Spec L2 PyProof.Rows GenW
open Sem (wp)
section
variable {X : Cx} {A : Around} {g : Nat} {S : Addr} {ch : List (Addr × Nat)} {Dl : List Addr} {Gs : List Nat} {Rt : Shared → Prop} {n : Nat} {c : Code} {fs : List Frame} {K : Flow → Sem PySem.Fin} {J : Value → Sem PySem.Fin} {gd : Bool → Bool} {lv : List Value → List Value}
  {ip : List (Addr × Obj)} {ys : List V} {σ : L2.St} {H : Hp} {s : Shared}
theorem fpOk_more {pins more : List (Addr × Obj)} {b : Addr} (h : FpOk X pins H b) (hm : ∀ p ∈ more, p.1 ≠ b) : FpOk X (pins ++ more) H b := by
  obtain ⟨h0, h1, h2, h3, h4, h5⟩ := h
  refine ⟨h0, h1, h2, h3, h4, fun p hp => ?_⟩
  rcases List.mem_append.mp hp with z | z
  · exact h5 p (List.mem_append_left _ z)
  · rcases List.mem_append.mp z with z | z
    · exact h5 p (List.mem_append_right _ z)
    · exact hm p z
theorem fpOk_less {pins more : List (Addr × Obj)} {b : Addr} (h : FpOk X (pins ++ more) H b) : FpOk X pins H b := by
  obtain ⟨h0, h1, h2, h3, h4, h5⟩ := h
  refine ⟨h0, h1, h2, h3, h4, fun p hp => ?_⟩
  rcases List.mem_append.mp hp with z | z
  · exact h5 p (List.mem_append_left _ z)
  · exact h5 p (List.mem_append_right _ (List.mem_append_left _ z))
theorem chPins_mem {h : Heap} {p : Addr × Obj} (hp : p ∈ chPins S ch h) : p.1 ∈ S :: ch.map (·.1) := (of_pinsAt hp).1
/-- the iterator's objects, as they stand, pinned too -/
theorem GIv.more {fp : List Addr} (I : GIv X S ch ip ys σ H s) (hf : ∀ b ∈ fp, FpOk X ip H b) (hd : ∀ b ∈ fp, b ∉ S :: ch.map (·.1)) (ho : ∀ b ∈ fp, ∃ o, s.heap.get? b = some o ∧ ∀ v, o.data ≠ .cell v) : GIv X S ch (ip ++ pinsAt fp s.heap) ys σ H s :=
  ⟨I.inv.pinned hf ho, I.lst, I.gen, fun b hb => fpOk_more (I.fp b hb) fun p hp e => hd p.1 (of_pinsAt hp).1 (e ▸ hb), I.nS⟩
theorem GIv.less {more : List (Addr × Obj)} (I : GIv X S ch (ip ++ more) ys σ H s) : GIv X S ch ip ys σ H s :=
  ⟨I.inv.unpinned, I.lst, I.gen, fun b hb => fpOk_less (I.fp b hb), I.nS⟩

theorem gcd_loop {c' : Code} {k : Result → Sem PySem.Fin} {l kp : List Value} {p : Pos} (G : GCd X A c fs gd) (hw : c'.weight = 0) (hu : c'.cUnits = 0) : GCd X A c' (.ret k none (gd false) l c p kp :: fs) id where
  over := (over_loop hw hu).trans G.over
  split := by
    show (splitAtGen fs).map _ = none
    rw [G.split]; rfl
  guard := by
    show (gd false || fs.any Frame.guarded) = false
    rw [G.gd, G.guard]; rfl
  gd := rfl
  nox := G.nox

theorem gb_for {tg iter : Expr} {body : List Stmt} {pos : Pos} {wi : TI} {gt : TG} {N : Nat} {W B : Nat → List V → L2.St → Hp → Prop} {rem : Nat → Nat} (hc : X.calm = true) (hi : PI X tg iter wi) (hg : PG X tg gt) (G : GCd X A c fs gd) (I : GIv X S ch ip ys σ H s)
    (hw : wi σ H fun Jt H1 => W 0 ys σ H1 ∧ (∀ ys σ H, W N ys σ H → Jt.stop N H) ∧ ∀ i ys σ H, i < N → W i ys σ H → Jt.go i H ∧ ∀ x H', Jt.yld i H x H' → gt x σ H' (B i ys))
    (hb : ∀ i ip' ys' σ' H' s' c' fs' K' J' gd' lv', i < N → GCd X A c' fs' gd' → GIv X S ch ip' ys' σ' H' s' → B i ys' σ' H' →
      (∀ s2 ys2 σ2 H2, GIv X S ch ip' ys2 σ2 H2 s2 → W (i + 1) ys2 σ2 H2 → GB X A g S ch Dl Gs Rt (rem (i + 1)) (K' .next) c' fs' s2) → GB X A g S ch Dl Gs Rt (rem i) ((execs body X.env).wrap K' J' gd' lv') c' fs' s')
    (k : ∀ s' ys' σ' H', GIv X S ch ip ys' σ' H' s' → W N ys' σ' H' → GB X A g S ch Dl Gs Rt (rem N) (K .next) c fs s') (hs : ∀ x, foldedSetIterable iter X.env x = pure x := by intro _; rfl) :
    GB X A g S ch Dl Gs Rt (rem 0) ((exec (.For tg iter body [] pos) X.env).wrap K J gd lv) c fs s := by
  rw [exec_For]
  refine bd_bind_wrap (wpC_standAt ?_)
  refine bd_bind_wrap (wpC_of ?_)
  rw [G.over]
  have r := I.run (M := model X.prog X.w) (A := X.A) (t := eval iter X.env) (Post := fun pins v s1 => wpAny (model X.prog X.w) X.A (pyIter v) (PIE X pins σ tg fun Jt H1 => W 0 ys σ H1 ∧ (∀ ys σ H, W N ys σ H → Jt.stop N H) ∧ ∀ i ys σ H, i < N → W i ys σ H → Jt.go i H ∧ ∀ x H', Jt.yld i H x H' → gt x σ H' (B i ys)) X.xe s1) (E := X.xe)
    fun pins J => hi.run pins s σ H _ J hw
  refine wpAny_mono r (fun v s1 ⟨h1, hz1⟩ => ?_) fun x s' hx => by rw [G.nox] at hx; exact hx.elim
  refine bd_bind_wrap (wpC_of_eq (hs v) ?_)
  refine bd_bind_wrap (wpC_standAt ?_)
  refine bd_bind_wrap (wpC_of (wpAny_holding ?_))
  rw [G.over]
  refine wpAny_mono (wpAny_gsz (n := s.gens.size) hz1 (wpAny_mono h1 (fun _ _ x hz => And.intro x hz) fun _ _ x _ => x)) (fun itv s2 ⟨h2, hz2⟩ => ?_) fun x s' hx => by rw [G.nox] at hx; exact hx.elim
  obtain ⟨it, fp, tn, Jt, H2, e, I2, T, st2, f2, w0, wend, wturn⟩ := h2
  subst e
  have I2' := I.back I2 hz2
  have dis : ∀ b ∈ fp, b ∉ S :: ch.map (·.1) := fun b hb hm => by
    obtain ⟨_, _, _, _, _, f5⟩ := f2 b hb
    have ho : ∃ o, s.heap.get? b = some o := by
      rcases List.mem_cons.mp hm with e | hm
      · obtain ⟨acc, cc, h1, _⟩ := I.lst
        exact ⟨_, e ▸ h1⟩
      · obtain ⟨q, hq, e⟩ := List.mem_map.mp hm
        obtain ⟨⟨o, _, _, h1, _⟩, _⟩ := I.gen q hq
        exact ⟨o, e ▸ h1⟩
    obtain ⟨o, ho⟩ := ho
    exact f5 (b, o) (List.mem_append_right _ (List.mem_append_right _ (mem_pinsAt hm ho))) rfl
  refine bd_call fun p => ?_
  -- the loop
  have gl := fun (kk : Result → Sem PySem.Fin) => gcd_loop (k := kk) (c' := .forLoop tg (.ref it) body [] X.env) (l := lv []) (kp := []) (p := p) G rfl rfl
  have loop : ∀ (m i : Nat) (ys : List V) (σ : L2.St) (H : Hp) (s : Shared), i + m = N → W i ys σ H → GIv X S ch ip ys σ H s → tn i s.heap → (∀ b ∈ fp, FpOk X ip H b) →
      GB X A g S ch Dl Gs Rt (rem i) ((model X.prog X.w).den (.forLoop tg (.ref it) body [] X.env)) (.forLoop tg (.ref it) body [] X.env)
        (.ret (fun r => ((match r with | .ok f => (.pure f : Sem Flow) | .error e => .raise e).onRaise fun (x : Value) => do
          if (← field x 1) == Value.none then unsupported "frame.own-activation:exception-without-traceback"
          setFlight x X.env.frame).wrap K J gd lv) none (gd false) (lv []) c p [] :: fs) s := by
    intro m
    induction m with
    | zero =>
      intro i ys σ H s hi w Iv st f
      have ei : i = N := by omega
      subst ei
      show GB X A g S ch Dl Gs Rt _ ((forTurn tg (.ref it) body [] X.env).onRaise (fun x => do noteFrame x X.env; theTreesLotGoes x)) _ _ s
      rw [Sem.onRaise_eq_wrap]
      unfold forTurn
      refine bd_bind_wrap (wpC_standAt ?_)
      refine bd_bind_wrap (wpC_of (wpAny_onRaise ?_))
      rw [(gl _).over]
      have Ip := Iv.pinned
      have fp' : ∀ b ∈ fp, FpOk X (ip ++ chPins S ch s.heap) H b := fun b hb => fpOk_more (f b hb) fun q hq e => dis b hb (e ▸ chPins_mem hq)
      refine wpAny_mono (wpAny_gsz (n := s.gens.size) (Nat.le_refl _) (wpAny_mono (T.done X rfl rfl rfl hc i _ s σ H (fun _ _ => False) Ip fp' st (wend ys σ H w)) (fun _ _ x hz => And.intro x hz) fun _ _ x _ => x)) (fun r s4 ⟨⟨hr, I4⟩, hz⟩ => ?_) fun x s' hx => hx.elim
      subst hr
      refine bd_again (c' := .block [] X.env) rfl ?_
      show GB X A g S ch Dl Gs Rt _ (.pure (.done .next)) _ _ s4
      refine bd_leaf (.ok .next) ?_
      exact k s4 ys σ H (Iv.back I4 hz) w
    | succ m ih =>
      intro i ys σ H s hi w Iv st f
      have hlt : i < N := by omega
      obtain ⟨go, step⟩ := wturn i ys σ H hlt w
      show GB X A g S ch Dl Gs Rt _ ((forTurn tg (.ref it) body [] X.env).onRaise (fun x => do noteFrame x X.env; theTreesLotGoes x)) _ _ s
      rw [Sem.onRaise_eq_wrap]
      unfold forTurn
      refine bd_bind_wrap (wpC_standAt ?_)
      refine bd_bind_wrap (wpC_of (wpAny_onRaise ?_))
      rw [(gl _).over]
      have Ip := Iv.pinned
      have fp' : ∀ b ∈ fp, FpOk X (ip ++ chPins S ch s.heap) H b := fun b hb => fpOk_more (f b hb) fun q hq e => dis b hb (e ▸ chPins_mem hq)
      refine wpAny_mono (wpAny_gsz (n := s.gens.size) (Nat.le_refl _) (wpAny_mono (T.item X rfl rfl rfl hc i _ s σ H (fun _ _ => False) Ip fp' st go) (fun _ _ x hz => And.intro x hz) fun _ _ x _ => x)) (fun r s4 ⟨⟨u, hr, h4⟩, hz4⟩ => ?_) fun x s' hx => hx.elim
      subst hr
      refine bd_bind_wrap (wpC_of ?_)
      rw [(gl _).over]
      refine wpAny_mono (wpAny_gsz (n := s.gens.size) hz4 (wpAny_mono h4 (fun _ _ x hz => And.intro x hz) fun _ _ x _ => x)) (fun _ s5 ⟨⟨x, H5, I5, r5, y5, st5, fr5⟩, hz5⟩ => ?_) fun x s' hx => hx.elim
      have Iv5 := Iv.back I5 hz5
      have f5 : ∀ b ∈ fp, FpOk X ip H5 b := fun b hb => ⟨fr5 b hb, (f b hb).2⟩
      have Iv5' := Iv5.more f5 dis (T.obj _ _ st5)
      refine bd_bind_wrap (wpC_of ?_)
      rw [(gl _).over]
      have ra := Iv5'.run (M := model X.prog X.w) (A := X.A) (t := assign tg X.env u) (Post := fun pins _ s' => ∃ σ' H', Inv X pins σ' H' s' ∧ B i ys σ' H') (E := X.xe) fun pins J => hg.run pins s5 σ H5 x u _ J r5 (step x H5 y5)
      refine wpAny_mono ra (fun _ s6 ⟨⟨σ6, H6, I6, q6⟩, hz6⟩ => ?_) fun x s' hx => by rw [G.nox] at hx; exact hx.elim
      have Iv6 := Iv5'.back I6 hz6
      rw [Sem.bind_eq_wrap', Sem.wrap_wrap]
      refine hb i _ ys σ6 H6 s6 _ _ _ _ _ _ hlt ⟨(gl _).over, (gl _).split, (gl _).guard, rfl, G.nox⟩ Iv6 q6 fun s7 ys7 σ7 H7 Iv7 w7 => ?_
      refine bd_again (c' := .forLoop tg (.ref it) body [] X.env) rfl ?_
      refine ih (i + 1) ys7 σ7 H7 s7 (by omega) w7 Iv7.less (T.keep _ _ _ st5 fun b hb o e => ?_) fun b hb => ?_
      · exact (Iv7.inv.pin (b, o) (List.mem_append_right _ (List.mem_append_right _ (mem_pinsAt hb e)))).1
      · obtain ⟨o, e, _⟩ := T.obj _ _ st5 b hb
        exact ⟨(Iv7.inv.pin (b, o) (List.mem_append_right _ (List.mem_append_right _ (mem_pinsAt hb e)))).2.1, (f b hb).2⟩
  exact loop N 0 ys σ H2 s2 (Nat.zero_add _) w0 I2' st2 fun b hb => fpOk_less (f2 b hb)
end
end Lp
end
section
set_option Elab.async false
set_option linter.all false
set_option maxRecDepth 100000
set_option maxHeartbeats 2000000
/-! Lp.G9: a generator def, by its body. -/
namespace Lp
open PySem PySem.Spec L2 PyProof.Rows GenW
open Sem (wp)

/-- the context of the body; exs: what its consumer, and the delegates above it, own -/
def gx (P : Program) (w : World) (K : PySem.W.Frag) (mg : Str → Option Value) (base : Heap) (N : List Str) (qual : Str) (scope : Scope) (f : Addr) (cd : Value) (A : Around) (outer : List Env) (s : Shared) (H : Hp) (exs : List Addr) : Cx :=
  { cxOf CX0 P w K mg base N qual scope f cd A outer s H E0 with
    ex := exs
    xe := fun _ _ => False }
section
variable {P : Program} {w : World} {K : PySem.W.Frag} {mg : Str → Option Value} {base : Heap} {N : List Str} {qual : Str} {scope : Scope} {f : Addr} {cd : Value} {A : Around} {outer : List Env} {s : Shared} {H : Hp}
theorem gx_inv {E : XK} {σ : L2.St} {H' : Hp} {s1 : Shared} {exs : List Addr} (I : Inv (gcxOf P w K mg base N qual scope f cd A outer s H E []) [] σ H' s1) (hb : ∀ b o, base.get? b = some o → b ∉ exs) (hf : ∀ b ∈ exs, b ∉ frs outer)
    (hl : ∀ b ∈ exs, b < s.heap.objs.size ∨ s1.heap.objs.size ≤ b) : Inv (gx P w K mg base N qual scope f cd A outer s H exs) [] σ H' s1 := by
  refine ⟨⟨I.ok.mod, I.ok.kind, I.ok.glob, I.ok.blt, I.ok.above, I.ok.inj, I.ok.has, I.ok.cab, I.ok.hd, I.ok.frames, I.ok.stk, fun b hm => ?_, I.ok.bs, I.ok.bsz, hb, hf, I.ok.funs, I.ok.frf⟩, I.os, I.bare, ?_, I.loc, I.cell, I.free, I.freeC, fun p hp => ?_, I.hok, I.len⟩
  · have h1 : s.heap.objs.size ≤ (gcxOf P w K mg base N qual scope f cd A outer s H E []).env.locals := I.ok.above
    have h2 := I.lt
    refine ⟨fun e => ?_, fun x c hc e => ?_⟩
    · have e2 : b = (gcxOf P w K mg base N qual scope f cd A outer s H E []).env.locals := e
      rcases hl b hm with q | q
      · rw [e2] at q; exact absurd (Nat.lt_of_lt_of_le q h1) (Nat.lt_irrefl _)
      · rw [e2] at q; exact absurd (Nat.lt_of_lt_of_le h2 q) (Nat.lt_irrefl _)
    · have hc' : (gcxOf P w K mg base N qual scope f cd A outer s H E []).env.cells.lookup x = some c := hc
      obtain ⟨v, hv⟩ := I.cell x c hc'
      have h3 := hv.lt
      have h4 := I.ok.cab x c rfl hc'
      rw [e] at h3 h4
      rcases hl b hm with q | q
      · exact absurd (Nat.lt_of_lt_of_le q h4) (Nat.lt_irrefl _)
      · exact absurd (Nat.lt_of_lt_of_le h3 q) (Nat.lt_irrefl _)
  · exact I.base.mono (fun _ z => z) fun b z => absurd (show b ∈ ([] : List Addr) from z) (by simp)
  · exact absurd (show p ∈ ([] : List (Addr × Obj)) from hp) (by simp)
end

theorem bd_func {P : Program} {w : World} {A : Around} {g : Nat} {Ok : Value → Shared → Prop} {Np : Value → Shared → Shared → Prop} {Rt : Shared → Prop} {n : Nat} {fs : List Frame} {s : Shared} {body : List Stmt} {env : Env}
    (h : Bd (model P w) A g Ok Np Rt n ((execs body env).wrap (fun f => .pure (.done (.ret (match f with | .ret v => v | _ => .none)))) (fun e => (leaving env e).wrap (fun _ => .raise e) .raise id id) id id) (.func body env) fs s) :
    Bd (model P w) A g Ok Np Rt n ((model P w).den (.func body env)) (.func body env) fs s := by
  show Bd _ A g Ok Np Rt n (.point [] fun _ => ((execs body env).onRaise (leaving env)) >>= _) _ fs s
  refine bd_point ?_
  rw [Sem.onRaise_eq_wrap, Sem.bind_eq_wrap', Sem.wrap_wrap]
  rw [Sem.wrap_congr (execs body env) _ _ (K' := fun f => .pure (.done (.ret (match f with | .ret v => v | _ => .none))))
    (H' := fun e => (leaving env e).wrap (fun _ => .raise e) .raise id id) (fun f => by cases f <;> rfl)
    (fun e => by rw [Sem.bind_eq_wrap, Sem.wrap_wrap]; rfl)]
  exact h

/-- behind the end -/
def RtC (P : Program) (w : World) (outer : List Env) (H : Hp) (s : Shared) (S : Addr) (chA : List (Addr × Nat)) (pre : List V) (n : Nat) (Q : List V → Hp → Prop) (s1 : Shared) : Prop :=
  ∃ H' ys acc c, s1.os = s.os ∧ AllBare s1.gens ∧ Un (frs outer) (S :: chA.map (·.1)) H H' s.heap s1.heap ∧ HOk P w H' s1.heap ∧ (∀ b ∈ S :: chA.map (·.1), H' b = none) ∧ s1.heap.get? S = some (lstObj acc c) ∧ Vals (pre ++ ys) acc.toList ∧ ys.length = n ∧
    (∀ q ∈ chA, IsGenS s1.heap q.1 q.2 ∧ q.2 < s1.gens.size) ∧ Q ys H'
/-- what a call of the generator def gives: a generator that has not begun, and what it does if woken -/
def GMd (P : Program) (w : World) (base : Heap) (k : Nat) (outer : List Env) (H : Hp) (s : Shared) (n : Nat) (Q : List V → Hp → Prop) (u : Value) (s' : Shared) : Prop :=
  ∃ (a : Addr) (g : Nat) (c : Code), u = .ref a ∧ s.heap.objs.size ≤ a ∧ a < s'.heap.objs.size ∧ IsGenS s'.heap a g ∧ s.gens.size ≤ g ∧ s'.gens[g]? = some (.fresh c) ∧ s'.os = s.os ∧ AllBare s'.gens ∧ s'.heap.NoLimit ∧ (∀ b o, s.heap.get? b = some o → s'.heap.get? b = some o) ∧
    ∀ (A : Around) (S : Addr) (chA : List (Addr × Nat)) (DlA : List Addr) (GsA : List Nat) (pre : List V) (s2 : Shared), Room k A → A.frames = some outer →
      (∀ b ∈ S :: chA.map (·.1), (∀ o, base.get? b ≠ some o) ∧ b ∉ frs outer ∧ (b < s.heap.objs.size ∨ s'.heap.objs.size ≤ b) ∧ H b = none) → S ∉ chA.map (·.1) → (∀ b ∈ DlA, b ∈ chA.map (·.1)) → (∀ j ∈ GsA, j ∈ chA.map (·.2)) →
      s2.os = s.os → AllBare s2.gens → (∀ b o, s'.heap.get? b = some o → s2.heap.get? b = some o) → (∃ acc c, s2.heap.get? S = some (lstObj acc c) ∧ Vals pre acc.toList) → pre.length + n ≤ sizeLine →
      (∀ q ∈ chA, IsGenS s2.heap q.1 q.2 ∧ q.2 < s2.gens.size) → g < s2.gens.size →
      Rdy (model P w) A g (fun _ => OkC S ((a, g) :: chA)) (Nap S (· ∈ a :: DlA) (g :: GsA)) (RtC P w outer H s S chA pre n Q) n (.fresh c) s2
/-- a generator def's promise: arguments, heap, how many items, what is wanted of the items and the heap behind them -/
abbrev SpN := List V → Hp → Nat → (List V → Hp → Prop) → Prop
structure GFnC (P : Program) (w : World) (K : PySem.W.Frag) (mg : Str → Option Value) (base : Heap) (k : Nat) (f : Addr) (fd : FuncData) (ps : List Str) (sp : SpN) : Prop where
  len : ∀ vs H n Q, sp vs H n Q → vs.length = ps.length
  run : ∀ (A : Around) (outer : List Env) (s : Shared) (H : Hp) (args : Args) (us : List Value) (vs : List V) (n : Nat) (Q : List V → Hp → Prop), Room k A → Env0 P w K mg base A outer s H → BindsTo s fd args (ps.zip us) → Vals vs us → sp vs H n Q →
    codeAny (model P w) A (.call (.ref f) args) (fun r s' => match r with | .ok (.ret u) => GMd P w base k outer H s n Q u s' | _ => False) s

theorem gen_of {P : Program} {w : World} {K : PySem.W.Frag} {mg : Str → Option Value} {base : Heap} {k : Nat} {f : Addr} {name qual : Str} {params : Arguments} {body : List Stmt} {scope : Scope} {dV kV doc pm cdv ct oc : Value} {an od : Option Addr}
    {osl : Array (Option Value)} {N ps : List Str} {sp : SpN} (lk : K.lookup f = some ⟨oc, od, .func (PySem.W.fnOf name qual params body scope dV kV doc pm an cdv ct), osl⟩) (hcd : PySem.W.codeIn K cdv qual = true) (S : GScope N ps scope)
    (len : ∀ vs H n Q, sp vs H n Q → vs.length = ps.length)
    (hbody : ∀ (A : Around) (outer : List Env) (s : Shared) (H : Hp) (vs : List V) (n : Nat) (Q : List V → Hp → Prop), Room k (A.deeper (envOfC qual scope s.heap.objs.size f cdv)) → sp vs H n Q →
      ∀ (Sx a : Addr) (g : Nat) (chA : List (Addr × Nat)) (DlA : List Addr) (GsA : List Nat) (pre : List V) (s2 : Shared) (Rt : Shared → Prop) (J : Value → Sem PySem.Fin), (∀ b ∈ DlA, b ∈ chA.map (·.1)) → (∀ j ∈ GsA, j ∈ chA.map (·.2)) → pre.length + n ≤ sizeLine →
        GIv (gx P w K mg base N qual scope f cdv A outer s H (Sx :: chA.map (·.1))) Sx ((a, g) :: chA) [] pre (start N vs) H s2 →
        (∀ s3 σ3 H3 ys, GIv (gx P w K mg base N qual scope f cdv A outer s H (Sx :: chA.map (·.1))) Sx ((a, g) :: chA) [] (pre ++ ys) σ3 H3 s3 → ys.length = n → Q ys H3 → Rt s3) →
        GB (gx P w K mg base N qual scope f cdv A outer s H (Sx :: chA.map (·.1))) A g Sx ((a, g) :: chA) (a :: DlA) (g :: GsA) Rt n
          ((execs body (envOfC qual scope s.heap.objs.size f cdv)).wrap (fun f => .pure (.done (.ret (match f with | .ret v => v | _ => .none)))) J id id) (.func body (envOfC qual scope s.heap.objs.size f cdv)) [] s2) :
    GFnC P w K mg base (k + 1) f (PySem.W.fnOf name qual params body scope dV kV doc pm an cdv ct) ps sp := by
  refine ⟨len, fun A outer s H args us vs n Q hr e0 hb r hsp => ?_⟩
  have hl := len _ _ _ _ hsp
  have KX : K.In s.heap := e0.mod.kin.keeps fun b o e => (e0.bs b o e).1
  have lim : s.heap.NoLimit := e0.mod.nolimit.keeps fun b o e => (e0.bs b o e).1
  have hkind : ∀ y ∈ ps.zip us, scope.names.lookup y.1 = some .local ∨ (scope.names.lookup y.1 = some .cell ∧ ((cellsFrom (s.heap.objs.size + 1) scope.names []).lookup y.1).isSome = true) := fun ⟨n, v⟩ hy => by
    rcases S.par n (List.of_mem_zip hy).1 with q | q
    · exact .inl q
    · exact .inr ⟨q, PySem.W.cellsFrom_some _ _ _ (.inl q)⟩
  refine codeAny_call_generator hr.depth (KX _ _ lk) rfl S.co S.gen rfl (PySem.W.codeRec_of KX hcd) (hb _ _ _ _ ?_)
  refine wpAny_newFunctionEnv_cells S.kind hkind fun env he s1 x => ?_
  subst he
  have lim1 : s1.heap.NoLimit := lim.keeps x.toInCall.keep
  refine ⟨lim1, ?_⟩
  obtain ⟨h1, tk, es1, hk1⟩ := x.done
  have os1 : s1.os = s.os := by rw [es1]
  have gen1 : s1.gens = s.gens := by rw [es1]
  have lt1 : s.heap.objs.size < s1.heap.objs.size := x.toInCall.ns.lt
  have sz1 : s.heap.objs.size ≤ s1.heap.objs.size := Nat.le_of_lt lt1
  have kp1 : ∀ b o, s.heap.get? b = some o → s1.heap.get? b = some o := x.toInCall.keep
  have main : ∀ (go : Obj) (nm qn : Value) (tk2 : Nat), go.cls = .type "generator" → go.data = .fields #[.int s1.gens.size 0, nm, qn] → go.slots = #[] → (∀ h : Heap, (h.push go).get? h.objs.size = some go) →
      GMd P w base (k + 1) outer H s n Q (.ref s1.heap.objs.size) { s1 with gens := s1.gens.push (.fresh (.func body (envOfC qual scope s.heap.objs.size f cdv))), toks := tk2, heap := s1.heap.push go } := by
    intro go nm qn tk2 hgc hgd0 hgs hgp
    have hgen : ∀ h : Heap, h.get? s1.heap.objs.size = some go → IsGenS h s1.heap.objs.size s1.gens.size := fun h e => .of ⟨go, nm, qn, e, hgc, hgd0, hgs⟩
    have hpushed : (s1.heap.push go).get? s1.heap.objs.size = some go := hgp _
    refine ⟨s1.heap.objs.size, s1.gens.size, _, rfl, sz1, ?_, hgen _ hpushed, by rw [gen1]; exact Nat.le_refl _, Array.getElem?_push_size .., os1, ?_, lim1.keeps fun b o e => Heap.get?_push_of_some _ e, fun b o e => Heap.get?_push_of_some _ (kp1 b o e), ?_⟩
    · show _ < (s1.heap.push _).objs.size
      rw [Heap.size_push]; exact Nat.lt_succ_self _
    · exact AllBare.push (by rw [gen1]; exact e0.bare) rfl
    intro Aw Sx chA DlA GsA pre s2 hrw hfr hst hnS hDl hGs hos hba hk2 hSo hpre hch hg2
    have e0w : Env0 P w K mg base Aw outer s H := ⟨hfr, e0.mod, e0.bs, e0.bsz, e0.funs, e0.frf, e0.hok, e0.bare⟩
    have I1g : Inv (gcxOf P w K mg base N qual scope f cdv Aw outer s H E0 []) [] (start N vs) H s1 := inv_startG S hrw.hd e0w hl r x
    have szp : (s1.heap.push go).objs.size = s1.heap.objs.size + 1 := Heap.size_push ..
    have I1 : Inv (gx P w K mg base N qual scope f cdv Aw outer s H (Sx :: chA.map (·.1))) [] (start N vs) H s1 := gx_inv I1g (fun b o e hm => (hst b hm).1 o e) (fun b hm => (hst b hm).2.1) fun b hm => (hst b hm).2.2.1.imp id fun z => by
      have z' : (s1.heap.push go).objs.size ≤ b := z
      rw [szp] at z'
      exact Nat.le_of_succ_le z'
    have kp2 : ∀ b o, s1.heap.get? b = some o → s2.heap.get? b = some o := fun b o e => hk2 b o (Heap.get?_push_of_some _ e)
    have I2 : Inv (gx P w K mg base N qual scope f cdv Aw outer s H (Sx :: chA.map (·.1))) [] (start N vs) H s2 :=
      I1.call' (ch := []) (hos.trans os1.symm) (Un.kept kp2) (I1.hok.kept kp2) hba fun b z => by simp at z
    have hea : s2.heap.get? s1.heap.objs.size = some go := hk2 s1.heap.objs.size go hpushed
    have hGI : GIv (gx P w K mg base N qual scope f cdv Aw outer s H (Sx :: chA.map (·.1))) Sx ((s1.heap.objs.size, s1.gens.size) :: chA) [] pre (start N vs) H s2 := by
      have own : FpOk (gx P w K mg base N qual scope f cdv Aw outer s H (Sx :: chA.map (·.1))) [] H s1.heap.objs.size := I1.fpOk (Nat.le_refl _) (I1.hok.fresh (Nat.le_refl _))
      have oth : ∀ b ∈ Sx :: chA.map (·.1), FpOk (gx P w K mg base N qual scope f cdv Aw outer s H (Sx :: chA.map (·.1))) [] H b := fun b hm => by
        obtain ⟨_, h2, h3, h4⟩ := hst b hm
        obtain ⟨h5, h6⟩ := I1.ok.exf b hm
        exact ⟨h4, h5, h2, .inl hm, h6, fun p hp => absurd (show p ∈ ([] : List (Addr × Obj)) from hp) (by simp)⟩
      refine ⟨I2, hSo, fun q hq => ?_, fun b hm => ?_, fun hm => ?_⟩
      · rcases List.mem_cons.mp hq with e | hq
        · rw [e]; exact ⟨hgen _ hea, hg2⟩
        · exact hch q hq
      · rcases List.mem_cons.mp hm with e | hm
        · rw [e]; exact oth Sx List.mem_cons_self
        · rcases List.mem_cons.mp hm with e | hm
          · rw [e]; exact own
          · exact oth b (List.mem_cons_of_mem _ hm)
      · rcases List.mem_cons.mp hm with e | hm
        · have z := (hst Sx List.mem_cons_self).2.2.1
          have e' : Sx = s1.heap.objs.size := e
          rw [e'] at z
          rcases z with z | z
          · exact absurd (Nat.lt_of_lt_of_le z sz1) (Nat.lt_irrefl _)
          · have z' : (s1.heap.push go).objs.size ≤ s1.heap.objs.size := z
            rw [szp] at z'
            exact absurd z' (Nat.not_succ_le_self _)
        · exact hnS hm
    refine bd_func ?_
    refine hbody Aw outer s H vs n Q (hrw.deeper _) hsp Sx s1.heap.objs.size s1.gens.size chA DlA GsA pre s2 _ _ hDl hGs hpre hGI fun s3 σ3 H3 ys I3 hn hQ => ?_
    obtain ⟨acc, cc, hS3, ra⟩ := I3.lst
    refine ⟨H3, ys, acc, cc, I3.inv.os, I3.inv.bare, I3.inv.base, I3.inv.hok, fun b hm => ?_, hS3, ra, hn, fun q hq => I3.gen q (List.mem_cons_of_mem _ hq), hQ⟩
    refine (I3.fp b ?_).1
    rcases List.mem_cons.mp hm with e | hm
    · rw [e]; exact List.mem_cons_self
    · exact List.mem_cons_of_mem _ (List.mem_cons_of_mem _ hm)
  exact main _ _ _ _ rfl rfl rfl fun h => Heap.get?_push_size _ rfl
end Lp
end
section
set_option Elab.async false
set_option linter.all false
set_option maxRecDepth 100000
set_option maxHeartbeats 2000000
/-! Lp.G10: «yield from» a generator; list of a generator. -/
namespace Lp
open PySem PySem.Spec L2 PyProof.Rows GenW
open Sem (wp)

theorem gen_close : ∃ v, typeLookup (.type "generator") "close" = pure (some v) := ⟨.builtin "generator.close", by rw [typeLookup_type, builtinLookup_eq_fast]; kernel_rfl⟩
def sleepN (o : Obj) : Int := match (o.slots[0]? : Option (Option Value)) with
  | some (some (Value.int n _)) => n
  | _ => 0
theorem slot_first (sl : Array (Option Value)) (v : Value) : ((sl ++ Array.replicate (0 + 1 - sl.size) none).setIfInBounds 0 (some v))[0]? = some (some v) := by
  rw [Array.getElem?_setIfInBounds, if_pos rfl, if_pos]
  rw [Array.size_append, Array.size_replicate]
  omega
theorem slept_run {M : Model} {A : Around} {E : Value → Shared → Prop} {s : Shared} {a : Addr} {o : Obj} {vs : Array Value} {more : Bool} {Q : Unit → Shared → Prop} (ho : s.heap.get? a = some o) (hc : o.cls = .type "generator") (hd : o.data = .fields vs)
    (h : ∀ h' sl, (∀ b u, b ≠ a → s.heap.get? b = some u → h'.get? b = some u) → h'.get? a = some { o with slots := sl } → sl[0]? = some (some (.int (if more then sleepN o + 1 else sleepN o - 1) 0)) → Q () { s with heap := h' }) :
    wpAny M A (Builtin.Generator.sleptOver (.ref a) more) Q E s := by
  unfold Builtin.Generator.sleptOver
  refine wpAny_bind (wpAny_load ho ?_)
  rw [if_neg (by rw [hc]; decide)]
  show wpAny M A (setSlotAt a 0 (some (rawInt (if more = true then sleepN o + 1 else sleepN o - 1)))) Q E s
  unfold setSlotAt
  rw [if_neg (by decide)]
  refine wpAny_updatePart ho ?_
  refine h _ _ (fun b u hb e => (Heap.get?_update_other _ _ (Ne.symm hb)).trans e) (Heap.get?_update_self _ ho ?_) (slot_first _ _)
  show Obj.isFreed { o with slots := _ } = false
  obtain ⟨c, dd, dt, sl⟩ := o
  simp only at hd
  subst hd
  rfl

/-! ### «yield from» -/
theorem over_yf {A : Around} {c : Code} {fs : List Frame} {k : Result → Sem PySem.Fin} {gd : Bool} {l kp : List Value} {p : Pos} {args : Args} : A.over (.builtin "proto.yield_from" args) (.ret k none gd l c p kp :: fs) = (A.over c fs).in1 := by
  have hw : (Code.builtin "proto.yield_from" args).weight = 0 := plainId_weight plain_yf args
  have hu : (Code.builtin "proto.yield_from" args).cUnits = 1 := plainId_units plain_yf args
  have e2 : A.depth + frameCount ((Frame.ret k none gd l c p kp :: fs).map Frame.where_) + (Code.builtin "proto.yield_from" args).weight = A.depth + frameCount (fs.map Frame.where_) + c.weight := by
    show A.depth + frameCount ((c, p) :: fs.map Frame.where_) + (Code.builtin "proto.yield_from" args).weight = _
    rw [frameCount_cons, hw]; omega
  have e3 : pushEnvs (Code.builtin "proto.yield_from" args).envs (pushEnvs (envsOf ((Frame.ret k none gd l c p kp :: fs).map Frame.where_)) A.frames) = pushEnvs c.envs (pushEnvs (envsOf (fs.map Frame.where_)) A.frames) := by
    show pushEnvs (Code.builtin "proto.yield_from" args).envs (pushEnvs (envsOf ((c, p) :: fs.map Frame.where_)) A.frames) = _
    rw [Code.envs_of_weight hw, envsOf_cons]
    simp only [pushEnvs_eq]
    cases A.frames <;> simp [List.append_assoc]
  have e4 : pushGuards (Code.builtin "proto.yield_from" args).guards (pushGuards (guardsOf ((Frame.ret k none gd l c p kp :: fs).map Frame.where_)) A.guards) = pushGuards c.guards (pushGuards (guardsOf (fs.map Frame.where_)) A.guards) := by
    show pushGuards (Code.builtin "proto.yield_from" args).guards (pushGuards (guardsOf ((c, p) :: fs.map Frame.where_)) A.guards) = _
    rw [Code.guards_of_weight hw, guardsOf_cons]
    simp only [pushGuards_eq]
    cases A.guards <;> simp [List.append_assoc]
  have e5 : A.units + unitsOf ((Frame.ret k none gd l c p kp :: fs).map Frame.where_) + (Code.builtin "proto.yield_from" args).cUnits = A.units + unitsOf (fs.map Frame.where_) + c.cUnits + 1 := by
    show A.units + unitsOf ((c, p) :: fs.map Frame.where_) + (Code.builtin "proto.yield_from" args).cUnits = _
    rw [unitsOf_cons, hu]; omega
  show (⟨(marksOver (Frame.ret k none gd l c p kp :: fs) (A.handled, A.handled)).1, A.depth + frameCount ((Frame.ret k none gd l c p kp :: fs).map Frame.where_) + (Code.builtin "proto.yield_from" args).weight,
    pushEnvs (Code.builtin "proto.yield_from" args).envs (pushEnvs (envsOf ((Frame.ret k none gd l c p kp :: fs).map Frame.where_)) A.frames), pushGuards (Code.builtin "proto.yield_from" args).guards (pushGuards (guardsOf ((Frame.ret k none gd l c p kp :: fs).map Frame.where_)) A.guards),
    A.units + unitsOf ((Frame.ret k none gd l c p kp :: fs).map Frame.where_) + (Code.builtin "proto.yield_from" args).cUnits⟩ : Around) = _
  rw [e2, e3, e4, e5]
  rfl
theorem gs_two {Gs : List Nat} {g : Nat} {G G2 : Array GenState} {x : GenState} (h : GsRel Gs (G.setIfInBounds g x) G2) : GsRel (g :: Gs) G (G2.setIfInBounds g .running) := by
  refine ⟨by simp [h.size], fun j hj => ?_, fun j hj hl => ?_⟩
  · have e : g ≠ j := fun z => hj (by rw [z]; exact List.mem_cons_self)
    rw [Array.getElem?_setIfInBounds_ne e, h.same j fun z => hj (List.mem_cons_of_mem _ z), Array.getElem?_setIfInBounds_ne e]
  · by_cases e : g = j
    · subst e
      rw [Array.getElem?_setIfInBounds, if_pos rfl, if_pos (by rw [h.size]; simpa using hl)]
    · rw [Array.getElem?_setIfInBounds_ne e]
      rcases List.mem_cons.mp hj with z | z
      · exact absurd z.symm e
      · exact h.run j z (by simpa using hl)

section
variable {X : Cx} {A : Around} {g : Nat} {S : Addr} {ch : List (Addr × Nat)} {Dl : List Addr} {Gs : List Nat} {Rt RtI : Shared → Prop} {n : Nat} {c : Code} {fs : List Frame}
/-- the turns -/
theorem gb_yf {ai : Addr} {gi : Nat} {k : Result → Sem PySem.Fin} {l : List Value} {p : Pos} {gd : Bool} (hh : X.A.handled = none) (hroom : X.A.depth < recursionLimit) (hover : A.over c fs = X.A) (hsp : splitAtGen fs = none) (hgd : gd = false) (hfg : fs.any Frame.guarded = false)
    (haS : ai ≠ S) (haD : ai ∉ Dl) (hac : ∀ q ∈ ch, q.1 ≠ ai) (haC : ai ≠ cStatics) (hSc : S ≠ cStatics) (hDc : cStatics ∉ Dl) (hgi : gi ∉ Gs) (hnS : S ∉ ch.map (·.1)) (hSD : S ∉ Dl)
    (hend : ∀ (s1 : Shared) (h' : Heap), RtI s1 → (∀ b o, s1.heap.get? b = some o → h'.get? b = some o) → GB X A g S ch Dl Gs Rt n (k (.ok (.ret .none))) c fs { s1.setGen gi .finished with heap := h' }) :
    ∀ (m : Nat) (gs : GenState) (s : Shared), IsGenS s.heap ai gi → s.heap.NoLimit → s.gens[gi]? = some gs → Rdy (model X.prog X.w) X.A.in1.in1 gi (fun _ => OkC S ((ai, gi) :: ch)) (Nap S (· ∈ ai :: Dl) (gi :: Gs)) RtI m gs (s.setGen gi .running) →
      GB X A g S ch Dl Gs Rt (m + n) ((model X.prog X.w).den (.builtin "proto.yield_from" ⟨[.ref ai, .bool false, .none], []⟩)) (.builtin "proto.yield_from" ⟨[.ref ai, .bool false, .none], []⟩) (.ret k none gd l c p [] :: fs) s := by
  have ov : A.over (.builtin "proto.yield_from" ⟨[.ref ai, .bool false, .none], []⟩) (.ret k none gd l c p [] :: fs) = X.A.in1 := by rw [over_yf, hover]
  intro m
  induction m with
  | zero =>
    intro gs s hg hl hgs hr
    rw [den_yf]
    unfold Builtin.«proto.yield_from»
    try dsimp only
    refine bd_bind (wpC_pure ?_)
    try dsimp only
    rw [Nat.zero_add]
    refine bd_bind (wpC_attempt (wpC_holding ?_))
    rw [if_neg Bool.false_ne_true, if_pos (show (Value.none == Value.none) = true from rfl)]
    refine wpC_bind (wpC_of (wpAny_rule ?_))
    refine wpC_bind ?_
    rw [ov]
    refine nextC (xs := 0) (A := X.A.in1) hh hl hroom hg hgs hr fun s1 h1 e h' hS hk => ?_
    obtain ⟨x, o, vs, rfl, hoa, hcls, hdat, h5⟩ := hS
    try dsimp only
    refine bd_bind (wpC_of (wpAny_endsTurn hoa hcls ?_))
    try dsimp only
    rw [if_pos rfl]
    first
      | refine bd_bind (wpC_of (wpAny_rule ?_))
      | (rw [if_neg Bool.false_ne_true]; refine bd_bind (wpC_of (wpAny_rule ?_)))
      | (rw [if_neg Bool.false_ne_true]; refine bd_bind (wpC_pure ?_); refine bd_bind (wpC_of (wpAny_rule ?_)))
    refine bd_bind (wpC_of (wpAny_field hoa hdat h5 ?_))
    exact bd_leaf (.ok (.ret .none)) (hend s1 h' h1 hk)
  | succ m ih =>
    intro gs s hg hl hgs hr
    rw [den_yf]
    unfold Builtin.«proto.yield_from»
    try dsimp only
    refine bd_bind (wpC_pure ?_)
    try dsimp only
    rw [show m + 1 + n = (m + n) + 1 by omega]
    refine bd_bind (wpC_attempt (wpC_holding ?_))
    rw [if_neg Bool.false_ne_true, if_pos (show (Value.none == Value.none) = true from rfl)]
    refine wpC_bind (wpC_of (wpAny_rule ?_))
    refine wpC_bind ?_
    rw [ov]
    refine nextC (xs := m + 1) (A := X.A.in1) hh hl hroom hg hgs hr fun v s1 gs' ok nx => ?_
    obtain ⟨hl1, hch, acc, cc, hS1, hasz⟩ := ok
    obtain ⟨hg1, hgsz⟩ := hch (ai, gi) List.mem_cons_self
    refine wpC_pure ?_
    try dsimp only
    refine bd_bind (wpC_of (wpAny_typeOf (T := "generator") (IsGenS.typeIs (s := s1.setGen gi gs') hg1) ?_))
    try dsimp only
    obtain ⟨cl, hcl⟩ := gen_close
    refine bd_bind (wpC_bind (m := typeLookup (.type "generator") "close") (wpC_of (wpAny_of_eq hcl (wpC_pure ?_))))
    try dsimp only
    refine bd_bind (wpC_pure ?_)
    try dsimp only at hg1 hgsz
    obtain ⟨o, nm, qn, ho, hc, hd, hsl⟩ := hg1
    refine bd_bind (wpC_of (slept_run (s := s1.setGen gi gs') ho hc hd fun h2 sl hk2 ho2 hs2 => ?_))
    have hs0 : sleepN o ≤ 0 := by
      unfold sleepN
      split
      · rename_i z t e
        exact hsl _ _ e
      · exact Int.le_refl _
    have num : ∃ o', h2.get? ai = some o' ∧ o'.genNumber? = some gi := ⟨_, ho2, by simp [Obj.genNumber?, hc, hd]⟩
    obtain ⟨o2, ho2', hn2⟩ := num
    have okc : OkC S ch { s1.setGen gi gs' with heap := h2 } := by
      refine ⟨?_, fun q hq => ?_, acc, cc, hk2 S _ haS.symm hS1, hasz⟩
      · obtain ⟨mc, hns, hnn⟩ := hl1
        exact ⟨mc, hns.at' fun o e => hk2 _ o (Ne.symm haC) e, hnn⟩
      · obtain ⟨h1, h3⟩ := hch q (List.mem_cons_of_mem _ hq)
        exact ⟨h1.keeps fun o e => hk2 _ o (hac q hq) e, by simpa [Shared.setGen] using h3⟩
    have hfs2 : splitAtGen (Frame.ret k none gd l c p [] :: fs) = none := by show (splitAtGen fs).map _ = none; rw [hsp]; rfl
    have hgd2 : (Frame.ret k none gd l c p [] :: fs).any Frame.guarded = false := by show (gd || fs.any Frame.guarded) = false; rw [hgd, hfg]; rfl
    rw [show suspend v (!(some cl).isNone) = .yield v true [] .pure from rfl]
    show GB X A g S ch Dl Gs Rt (m + n + 1) (.yield v true [] fun r => (Sem.pure r >>= _)) _ _ _
    refine bd_yield_over (c := .builtin "proto.yield_from" ⟨[.ref ai, .bool false, .none], []⟩) rfl ho2' hn2 hfs2 hgd2 okc fun s2 z => ?_
    have hai2 : s2.heap.get? ai = some { o with slots := sl } := z.keep ai _ haS haD ho2
    refine bd_bind (wpC_pure ?_)
    refine bd_bind (wpC_of (slept_run (s := s2) (more := false) hai2 hc hd fun h3 sl3 hk3 ho3 hs3 => ?_))
    have esl : sleepN { o with slots := sl } = sleepN o + 1 := by
      unfold sleepN
      simp only [hs2]
      rfl
    have hs3' : sl3[0]? = some (some (.int (sleepN o) 0)) := by
      rw [hs3, esl]
      have : (if false = true then sleepN o + 1 + 1 else sleepN o + 1 - 1) = sleepN o := by simp
      rw [this]
    have gen3 : IsGenS h3 ai gi := ⟨_, nm, qn, ho3, hc, hd, fun n t e => by
      have e' : sl3[0]? = some (some (.int n t)) := e
      rw [hs3'] at e'
      cases e'
      exact hs0⟩
    show GB X A g S ch Dl Gs Rt (m + n) (.pure (.again (.builtin "proto.yield_from" ⟨[.ref ai, .bool false, .none], []⟩))) _ _ _
    refine bd_again (plainId_quiet plain_yf _) ?_
    refine ih gs' { s2 with heap := h3 } gen3 ?_ ?_ ?_
    · obtain ⟨mc, hns, hnn⟩ := hl1
      exact ⟨mc, hns.at' fun o e => hk3 _ o (Ne.symm haC) (z.keep _ o (Ne.symm hSc) hDc (hk2 _ o (Ne.symm haC) e)), hnn⟩
    · show s2.gens[gi]? = some gs'
      rw [z.gens.same gi hgi]
      exact setGen_at hgsz
    · refine nx _ ⟨z.os, gs_two z.gens, fun b u hb hD e => ?_, fun b u hb e => ?_, fun b j hb e => ?_, fun acc' c' e => ?_⟩
      · have hba : b ≠ ai := fun e => hD (e ▸ List.mem_cons_self)
        exact hk3 b u hba (z.keep b u hb (fun h => hD (List.mem_cons_of_mem _ h)) (hk2 b u hba e))
      · by_cases hba : b = ai
        · subst hba
          have : u = o := by
            have e2 : (s1.setGen gi gs').heap.get? b = some u := e
            exact (Option.some.inj (ho.symm.trans e2)).symm
          subst this
          exact ⟨sl3, ho3⟩
        · rcases List.mem_cons.mp hb with q | q
          · exact absurd q hba
          · obtain ⟨sl', e'⟩ := z.slot b u q (hk2 b u hba e)
            exact ⟨sl', hk3 b _ hba e'⟩
      · by_cases hba : b = ai
        · subst hba
          obtain ⟨u, nm', qn', hu, hc', hd', _⟩ := e
          have e2 : (s1.setGen gi gs').heap.get? b = some u := hu
          have e3 : o = u := Option.some.inj (ho.symm.trans e2)
          subst e3
          exact ⟨_, nm', qn', ho3, hc', hd', fun n t e => by
            have e' : sl3[0]? = some (some (.int n t)) := e
            rw [hs3'] at e'
            cases e'
            exact hs0⟩
        · rcases List.mem_cons.mp hb with q | q
          · exact absurd q hba
          · have e2 : IsGenS h2 b j := e.keeps fun o q => hk2 b o hba q
            exact (z.gen b j q e2).keeps fun o q => hk3 b o hba q
      · obtain ⟨c2, e2⟩ := z.own acc' c' (hk2 S _ haS.symm e)
        exact ⟨c2, hk3 S _ haS.symm e2⟩
end
end Lp
end
section
set_option Elab.async false
set_option linter.all false
set_option maxRecDepth 100000
set_option maxHeartbeats 2000000
/-! Lp.G11: a call of a generator def; «yield from» it; list of it. -/
namespace Lp
open PySem PySem.Spec L2 PyProof.Rows GenW
open Sem (wp)

abbrev TGenC := L2.St → Hp → Nat → (List V → Hp → Prop) → Prop
/-- an expression that makes a generator -/
structure PGenC (X : Cx) (k : Nat) (e : Expr) (tg : TGenC) : Prop where
  run : ∀ (pins : List (Addr × Obj)) (s : Shared) (σ : L2.St) (H : Hp) (n : Nat) (cont : List V → Hp → Prop), Inv X pins σ H s → tg σ H n cont → wpAny (model X.prog X.w) X.A (eval e X.env)
    (fun u s' => ∃ H1 sc, Inv X pins σ H1 sc ∧ s.gens.size ≤ sc.gens.size ∧ GMd X.prog X.w X.base k X.stack H1 sc n cont u s') X.xe s
section
variable {X : Cx} {k : Nat} {f : Addr} {fd : FuncData} {ps : List Str} {sp : SpN} {dvs : List V} {ds : List Value} {x : Str} {p pos : Pos}
theorem run_gfnC {pins : List (Addr × Obj)} {σ : L2.St} {H : Hp} {s : Shared} {us : List Value} {vs : List V} {n : Nat} {cont : List V → Hp → Prop} {E1 : Value → Shared → Prop} {g0 : Nat} (F : GFnC X.prog X.w X.K X.mg X.base k f fd ps sp) (hr : Room k X.A) (hb : Binds X.K fd ps ds) (hd : Vals dvs ds)
    (I : Inv X pins σ H s) (hz : g0 ≤ s.gens.size) (r : Vals vs us) (h : sp (vs ++ dvs) H n cont) :
    wpAny (model X.prog X.w) X.A (call (.ref f) us) (fun u s' => ∃ H1 sc, Inv X pins σ H1 sc ∧ g0 ≤ sc.gens.size ∧ GMd X.prog X.w X.base k X.stack H1 sc n cont u s') E1 s := by
  have r2 : Vals (vs ++ dvs) (us ++ ds) := r.append hd
  have hl2 : (us ++ ds).length = ps.length := by rw [← r2.length]; exact F.len _ _ _ _ h
  refine wpAny_call (codeAny_mono (F.run X.A X.stack s H ⟨us, []⟩ (us ++ ds) (vs ++ dvs) n cont hr I.env0 (hb s us I.kIn hl2) r2 h) fun r s' hq => ?_)
  cases r with
  | error e => exact False.elim hq
  | ok fl =>
    cases fl with
    | ret u => exact ⟨H, s, I, hz, hq⟩
    | next => exact False.elim hq
    | brk => exact False.elim hq
    | cont => exact False.elim hq
def tCallC (sp : SpN) (dvs : List V) (t : TA) : TGenC := fun σ H n cont => t σ H fun vs H1 => sp (vs ++ dvs) H1 n cont
theorem pgen_callC {e : Expr} {es : List Expr} {t : TA} (F : GFnC X.prog X.w X.K X.mg X.base k f fd ps sp) (hr : Room k X.A) (hg : Gl X x) (hm : X.mg x = some (.ref f)) (hk : PySem.W.keepIn X.K (.ref f) = true) (hb : Binds X.K fd ps ds) (hd : Vals dvs ds)
    (ha : PA X (e :: es) t) (hdb : (x == ("__debug__" : Str)) = false := by decide) (he : starEach (e :: es) X.env = (false, eval e X.env) :: starEach es X.env := by rfl) (hpl : (backTo pos (starEach es X.env)).any (·.1) = false := by rfl) :
    PGenC X k (.Call (.Name x p) (e :: es) [] pos) (tCallC sp dvs t) := by
  refine ⟨fun pins s σ H n cont I h => ?_⟩
  refine wpAny_Call_Name_kw (ld_glob I hg hm ?_ hdb)
  refine PySem.W.callWith_K (h₀ := X.base) I.ok.mod.kin hk (thn (wpAny_gsz (n := s.gens.size) (Nat.le_refl _) (wpAny_mono (ha.run pos pins s σ H _ I h) (fun _ _ x hz => And.intro x hz) fun _ _ x _ => x)) fun us s1 ⟨⟨vs, H1, I1, r, q⟩, hz⟩ => ⟨I1.kIn, ?_⟩) he hpl
  exact run_gfnC F hr hb hd I1 hz r q

theorem fp_wild {pins : List (Addr × Obj)} {σ : L2.St} {H H' : Hp} {s : Shared} {b : Addr} (I : Inv X pins σ H s) (f : FpOk X pins H' b) : (∀ o, X.base.get? b ≠ some o) ∧ b ∉ frs X.stack := by
  obtain ⟨f0, f1, f2, f3, f4, f5⟩ := f
  refine ⟨fun o e => ?_, fun hm => ?_⟩
  · rcases f3 with z | z
    · exact I.ok.noex b o e z
    · exact absurd (Nat.lt_of_lt_of_le (Nat.lt_of_lt_of_le (Heap.lt_size e) I.ok.bsz) z) (Nat.lt_irrefl _)
  · rcases List.mem_cons.mp (I.stkSub b hm) with z | z
    · exact f1 z
    · exact f2 z
end
section
variable {X : Cx} {A : Around} {g : Nat} {S : Addr} {ch : List (Addr × Nat)} {Dl : List Addr} {Gs : List Nat} {Rt : Shared → Prop} {n : Nat} {c : Code} {fs : List Frame} {K : Flow → Sem PySem.Fin} {J : Value → Sem PySem.Fin} {gd : Bool → Bool} {lv : List Value → List Value}
  {ip : List (Addr × Obj)} {ys : List V} {σ : L2.St} {H : Hp} {s : Shared}
theorem gb_yieldFrom {k0 m : Nat} {e : Expr} {yp pos : Pos} {tg : TGenC} {cont : List V → Hp → Prop} (he : PGenC X k0 e tg) (hcm : X.calm = true) (hr : Room (k0 + 1) X.A) (G : GCd X A c fs gd) (I : GIv X S ch ip ys σ H s) (hD : ∀ b ∈ Dl, b ∈ ch.map (·.1)) (hGs : ∀ j ∈ Gs, j ∈ ch.map (·.2)) (hz : ys.length + m ≤ sizeLine) (ht : tg σ H m cont)
    (k : ∀ s' ys' H', GIv X S ch ip (ys ++ ys') σ H' s' → ys'.length = m → cont ys' H' → GB X A g S ch Dl Gs Rt n (K .next) c fs s') (hi : interactive X.env = false := by rfl) :
    GB X A g S ch Dl Gs Rt (m + n) ((exec (.Expr (.YieldFrom e yp) pos) X.env).wrap K J gd lv) c fs s := by
  rw [exec_Expr X.env _ pos hi rfl]
  show GB X A g S ch Dl Gs Rt (m + n) (.at pos fun _ => ((eval e X.env >>= fun v => (standAt yp >>= fun _ => yieldFrom X.env v)) >>= fun x => dropValue (.YieldFrom e yp) pos x).wrap K J gd lv) c fs s
  refine bd_at ?_
  rw [Sem.bind_eq_wrap', Sem.bind_eq_wrap', Sem.wrap_wrap, Sem.wrap_wrap]
  refine bd_wrap (wpC_of ?_)
  rw [G.over]
  refine wpAny_mono (he.run _ s σ H m cont I.pinned ht) (fun v s1 ⟨H1, sc, I1, hzc, ai, gi, c0, hv, ha1, ha2, hgen, hg1, hgs, hos, hba, hlim, hkp, wake⟩ => ?_) fun x s' hx => ?_
  rotate_left
  · rw [G.nox] at hx
    exact hx.elim
  subst hv
  have I' := I.back I1 hzc
  have gisz : gi < s1.gens.size := (Array.getElem?_eq_some_iff.mp hgs).1
  have ltc : ∀ b ∈ S :: ch.map (·.1), b < sc.heap.objs.size := fun b hb => by
    rcases List.mem_cons.mp hb with e | hb
    · obtain ⟨acc, cc, h1, _⟩ := I'.lst
      exact e ▸ Heap.lt_size h1
    · obtain ⟨q, hq, e⟩ := List.mem_map.mp hb
      obtain ⟨⟨o, _, _, h1, _⟩, _⟩ := I'.gen q hq
      exact e ▸ Heap.lt_size h1
  have nea : ∀ b ∈ S :: ch.map (·.1), b ≠ ai := fun b hb e => by
    have := ltc b hb
    rw [e] at this
    exact absurd (Nat.lt_of_lt_of_le this ha1) (Nat.lt_irrefl _)
  obtain ⟨mc, hns, hnn⟩ := I'.inv.nolimit
  have hcl : cStatics < sc.heap.objs.size := hns.lt
  have cst : ∀ b ∈ S :: ch.map (·.1), b ≠ cStatics := fun b hb e => by
    obtain ⟨mb, hnsb, hnnb⟩ := I'.inv.ok.mod.nolimit
    have h2 := (fp_wild I'.inv (I'.fp b hb)).1
    obtain ⟨o, ho⟩ : ∃ o, X.base.get? cStatics = some o := by
      exact let ⟨o, _, _, ho, _⟩ := hnsb; ⟨o, ho⟩
    exact h2 o (e ▸ ho)
  refine bd_at ?_
  show GB X A g S ch Dl Gs Rt (m + n) ((yieldFrom X.env (.ref ai)).wrap (fun b => (dropValue (.YieldFrom e yp) pos b).wrap K J gd lv) J gd lv) c fs s1
  unfold yieldFrom
  refine bd_bind_wrap (wpC_of (wpAny_typeOf (T := "generator") (IsGenS.typeIs (s := s1) hgen) ?_))
  rw [if_neg (by decide)]
  refine bd_bind_wrap (wpC_of (wpAny_holding ?_))
  have iter : ∀ {Q : Value → Shared → Prop} {E : Value → Shared → Prop} {s' : Shared} {B : Around}, IsGenS s'.heap ai gi → Q (.ref ai) s' → wpAny (model X.prog X.w) B (pyIter (.ref ai)) Q E s' := by
    intro Q E s' B x q
    refine wpAny_pyIter_slot x.typeIs slot_gen_iter (wpAny_call_entry slot_gen_iter x.typeIs entry_gen_iter ?_ (args_gen_iter _))
    show wpAny _ _ (ret (.ref ai)) _ _ s'
    exact wpAny_pure ⟨_, rfl, "generator", _, x.typeIs, slot_gen_next.lookup, q⟩
  refine iter hgen ?_
  refine bd_call fun p => ?_
  refine gb_yf (ai := ai) (gi := gi) (RtI := RtC X.prog X.w X.stack H1 sc S ch ys m cont) (I'.inv.ok.hd hcm) (by have := hr.dp; omega) G.over G.split G.gd G.guard (fun e => nea S List.mem_cons_self e.symm) (fun e => nea ai (List.mem_cons_of_mem _ (hD ai e)) rfl) (fun q hq e => nea q.1 (List.mem_cons_of_mem _ (List.mem_map.mpr ⟨q, hq, rfl⟩)) e)
    (fun e => absurd (Nat.lt_of_lt_of_le hcl ha1) (by rw [e]; exact Nat.lt_irrefl _)) (cst S List.mem_cons_self) (fun e => cst _ (List.mem_cons_of_mem _ (hD _ e)) rfl) (fun e => ?_) I'.nS (fun e => I'.nS (hD _ e)) (fun s2 h' hRt hk => ?_) m (.fresh c0) s1 hgen hlim hgs ?_
  · obtain ⟨q, hq, e2⟩ := List.mem_map.mp (hGs _ e)
    have := (I'.gen q hq).2
    rw [e2] at this
    exact absurd (Nat.lt_of_lt_of_le this hg1) (Nat.lt_irrefl _)
  · obtain ⟨H', ys', acc, cc, os2, ba2, un2, hok2, hn2, hS2, hv2, hl2, hch2, hq2⟩ := hRt
    refine k _ ys' H' ⟨?_, ⟨acc, cc, hk _ _ hS2, hv2⟩, fun q hq => ?_, fun b hb => ⟨hn2 b hb, (I'.fp b hb).2⟩, I'.nS⟩ hl2 hq2
    · exact I'.inv.call' (ch := S :: ch.map (·.1)) os2 (un2.trans (Un.kept hk)) (hok2.kept hk) (allBare_setGen ba2 rfl) fun b hb => let ⟨_, f1, _, f3, f4, f5⟩ := I'.fp b hb; ⟨f3, f1, f4, f5⟩
    · obtain ⟨h1, h2⟩ := hch2 q hq
      exact ⟨h1.keeps fun o e => hk _ o e, by simpa [Shared.setGen] using h2⟩
  · obtain ⟨acc, cc, h1, h2⟩ := I'.lst
    refine wake X.A.in1.in1 S ch Dl Gs ys (s1.setGen gi .running) ⟨?_, ?_, ?_⟩ ?_ (fun b hb => ?_) I'.nS hD hGs hos (allBare_setGen hba rfl) (fun b o e => e) ⟨acc, cc, hkp _ _ h1, h2⟩ hz (fun q hq => ?_) (by simpa [Shared.setGen] using gisz)
    · exact hr.hd
    · have := hr.dp
      show X.A.depth + 3 * k0 + 5 < _
      omega
    · have := hr.un
      show X.A.units + 1 + 1 + 16 * k0 + 200 < _
      omega
    · exact I'.inv.ok.frames
    · obtain ⟨z1, z2⟩ := fp_wild I'.inv (I'.fp b hb)
      exact ⟨z1, z2, .inl (ltc b hb), (I'.fp b hb).1⟩
    · obtain ⟨q1, q2⟩ := I'.gen q hq
      refine ⟨q1.keeps fun o e => hkp _ o e, ?_⟩
      have : q.2 < s1.gens.size := Nat.lt_of_lt_of_le q2 (Nat.le_of_lt (Nat.lt_of_le_of_lt hg1 gisz))
      simpa [Shared.setGen] using this
end
end Lp
end
section
set_option Elab.async false
set_option linter.all false
set_option maxRecDepth 100000
set_option maxHeartbeats 2000000
/-! Lp.G12: expressions, statements, defs that may hold a list of a generator. -/
namespace Lp
open PySem PySem.Spec L2 PyProof.Rows GenW
open Sem (wp)

section
variable {α β : Type} {M : Model} {A : Around} {E E' : Value → Shared → Prop} {s : Shared}
theorem thnC {t : Sem α} {Q Q' : α → Shared → Prop} (h : wpC M A t Q E s) (hQ : ∀ a s, Q a s → Q' a s) : wpC M A t Q' E s := wpC_mono h hQ fun _ _ x => x
theorem wpC_keep {vs : List Value} {m : Sem α} {Q : α → Shared → Prop} (h : wpC M A m Q E s) : wpC M A (m.keep vs) Q E s := by
  rw [Sem.keep_eq_wrap]
  exact wpC_wrap (wpC_mono h (fun _ _ x => wpC_pure x) fun _ _ x => wpC_raise x)
theorem wpAny_release {vs kp : List Value} {Q : Unit → Shared → Prop} (h : Q () s) : wpAny M A (release vs kp) Q E s := fun Γ p _ => by
  rw [Sem.wp_release]; exact h
theorem wpC_operate {vs : List Value} {m : Sem Value} {Q : Value → Shared → Prop} (h : wpC M A m Q E s) : wpC M A (operate vs m) Q E s := by
  unfold operate
  exact wpC_bind (wpC_holding (thnC h fun r s1 q => wpC_bind (wpC_of (wpAny_release (wpC_pure q)))))
theorem wpC_spliced_nil {Q : List Value → Shared → Prop} (h : Q [] s) : wpC M A (spliced []) Q E s := wpC_pure h
theorem wpC_spliced_cons {x : Sem Value} {rest : List (Bool × Sem Value)} {Q : List Value → Shared → Prop} (h : wpC M A x (fun v s1 => wpC M A (spliced rest) (fun vs s2 => Q (v :: vs) s2) E s1) E s) : wpC M A (spliced ((false, x) :: rest)) Q E s := by
  rw [spliced]
  refine wpC_bind (thnC h fun v s1 h1 => ?_)
  simp only [Bool.false_eq_true, if_false]
  exact wpC_bind (wpC_pure (wpC_bind (wpC_holding (thnC h1 fun vs s2 h2 => wpC_pure h2))))
theorem wpC_evalArgs {f : Value} {x : Sem Value} {rest : List (Bool × Sem Value)} {Q : Args → Shared → Prop} (h : wpC M A (spliced ((false, x) :: rest)) (fun vs s' => Q ⟨vs, []⟩ s') E s) : wpC M A (evalArgs f true ((false, x) :: rest) []) Q E s := by
  unfold evalArgs
  show wpC M A (spliced ((false, x) :: rest) >>= _) Q E s
  refine wpC_bind (thnC h fun vs s' h' => ?_)
  refine wpC_holding ?_
  exact wpC_bind (wpC_pure (wpC_bind (wpC_pure (wpC_pure h'))))
theorem wpC_callWith {P : Heap → Prop} {pos : Pos} {f : Value} {first : List Value} {args : List (Bool × Sem Value)} {Q : Value → Shared → Prop} (hplain : args.any (·.1) = false)
    (hk : ∀ h, P h → ∃ k, (k = Keeper.frame ∨ k = Keeper.machine ∨ k = Keeper.boundFrame) ∧ PySem.W.Looks M h (keeperOf f) k)
    (h : wpC M A (evalArgs f true args []) (fun a s1 => P s1.heap ∧ wpC M A (call f (first ++ a.pos) a.kw) Q E s1) E s) : wpC M A (callWith pos f first args []) Q E s := by
  unfold callWith
  refine wpC_bind (wpC_holding (thnC h fun a s1 h1 => wpC_bind (wpC_standAt ?_)))
  obtain ⟨k, hk', L⟩ := hk _ h1.1
  simp only [hplain, List.any_nil, Bool.or_self, List.length_nil, Nat.mul_zero, Nat.add_zero]
  refine wpC_bind (wpC_of (L.here ?_))
  have tail : ∀ {t : Sem Value}, wpC M A t Q E s1 → wpC M A (t >>= fun r => holding [r] point >>= fun _ => pure r) Q E s1 :=
    fun ht => wpC_bind (thnC ht fun r s2 hr => wpC_bind (wpC_holding (wpC_of (wpAny_point (wpC_pure hr)))))
  have marked (mk : Value) : wpC M A (callMarked mk f (first ++ a.pos) a.kw) Q E s1 := by unfold callMarked; exact wpC_keep h1.2
  rcases hk' with rfl | rfl | rfl <;> (try dsimp only) <;> first | exact tail h1.2 | (split <;> first | exact tail h1.2 | exact tail (marked _))
theorem wpC_execs_cons {env : Env} {st : Stmt} {rest : List Stmt} {Q : Flow → Shared → Prop} (h : wpC M A (exec st env) (fun f s' => match f with | .next => wpC M A (execs rest env) Q E s' | f => Q f s') E s) : wpC M A (execs (st :: rest) env) Q E s := by
  rw [execs_cons]
  refine wpC_bind (thnC h fun f s' h' => ?_)
  cases f <;> first | exact h' | exact wpC_pure h'
end

/-! ### judgements -/
structure PE2 (X : Cx) (e : Expr) (t : TE) : Prop where
  run : ∀ (pins : List (Addr × Obj)) (s : Shared) (σ : L2.St) (H : Hp) (Q : VK), Inv X pins σ H s → t σ H Q → wpC (model X.prog X.w) X.A (eval e X.env) (EP X pins σ Q) X.xe s
structure PT2 (X : Cx) (e : Expr) (t : TT) : Prop where
  run : ∀ (pins : List (Addr × Obj)) (s : Shared) (σ : L2.St) (H : Hp) (Q : Bool → Hp → Prop), Inv X pins σ H s → t σ H Q → wpC (model X.prog X.w) X.A (isTrue e X.env (eval e X.env)) (TP X pins σ Q) X.xe s
structure PA2 (X : Cx) (es : List Expr) (t : TA) : Prop where
  run : ∀ (pos : Pos) (pins : List (Addr × Obj)) (s : Shared) (σ : L2.St) (H : Hp) (Q : List V → Hp → Prop), Inv X pins σ H s → t σ H Q → wpC (model X.prog X.w) X.A (spliced (backTo pos (starEach es X.env))) (AP X pins σ Q) X.xe s
structure PS2 (X : Cx) (st : Stmt) (t : TS) : Prop where
  run : ∀ (pins : List (Addr × Obj)) (s : Shared) (σ : L2.St) (H : Hp) (D : Ends), Inv X pins σ H s → t D σ H → wpC (model X.prog X.w) X.A (exec st X.env) (SP X pins D) X.xe s
structure PSs2 (X : Cx) (st : List Stmt) (t : TS) : Prop where
  run : ∀ (pins : List (Addr × Obj)) (s : Shared) (σ : L2.St) (H : Hp) (D : Ends), Inv X pins σ H s → t D σ H → wpC (model X.prog X.w) X.A (execs st X.env) (SP X pins D) X.xe s
section
variable {X : Cx} {e e2 o test : Expr} {es : List Expr} {st : Stmt} {rest b1 b2 : List Stmt} {te te2 ta : TE} {tt : TT} {tl : TA} {t u : TS} {pos pos' : Pos}
theorem PE2.of (h : PE X e te) : PE2 X e te := ⟨fun pins s σ H Q I q => wpC_of (h.run pins s σ H Q I q)⟩
theorem PT2.of (h : PT X e tt) : PT2 X e tt := ⟨fun pins s σ H Q I q => wpC_of (h.run pins s σ H Q I q)⟩
theorem PA2.of (h : PA X es tl) : PA2 X es tl := ⟨fun pos pins s σ H Q I q => wpC_of (h.run pos pins s σ H Q I q)⟩
theorem PS2.of (h : PS X st t) : PS2 X st t := ⟨fun pins s σ H D I q => wpC_of (h.run pins s σ H D I q)⟩
theorem PSs2.of (h : PSs X rest t) : PSs2 X rest t := ⟨fun pins s σ H D I q => wpC_of (h.run pins s σ H D I q)⟩
theorem pa2_cons (h : PE2 X e te) (hr : PA2 X es tl) (he : starEach (e :: es) X.env = (false, eval e X.env) :: starEach es X.env := by rfl) : PA2 X (e :: es) (tCons te tl) := by
  refine ⟨fun pos pins s σ H Q I q => ?_⟩
  rw [he]
  show wpC _ _ (spliced ((false, eval e X.env) :: backTo pos (starEach es X.env))) _ _ s
  refine wpC_spliced_cons (thnC (h.run pins s σ H _ I q) fun v s1 ⟨x, H1, I1, r, q1⟩ => ?_)
  exact thnC (hr.run pos pins s1 σ H1 _ I1 q1) fun vs s2 ⟨xs, H2, I2, r2, q2⟩ => ⟨x :: xs, H2, I2, .cons r r2, q2⟩
theorem pss2_nil : PSs2 X [] tNext := .of pss_nil
theorem pss2_cons (h1 : PS2 X st t) (h2 : PSs2 X rest u) : PSs2 X (st :: rest) (tSeq t u) := by
  refine ⟨fun pins s σ H D I h => ?_⟩
  refine wpC_execs_cons (thnC (h1.run pins s σ H { D with nx := u D } I h) fun f s1 q => ?_)
  cases f with
  | next =>
    obtain ⟨σ', H', I', q⟩ := q
    exact h2.run pins s1 σ' H' D I' q
  | ret v => exact q
  | brk => exact q
  | cont => exact q
theorem pss2_one (h1 : PS2 X st t) : PSs2 X [st] t := by
  refine ⟨fun pins s σ H D I h => ?_⟩
  refine wpC_execs_cons (thnC (h1.run pins s σ H D I h) fun f s1 q => ?_)
  cases f with
  | next => exact wpC_pure q
  | ret v => exact q
  | brk => exact q
  | cont => exact q
theorem ps2_if (hc : PT2 X test tt) (ha : PSs2 X b1 t) (hb : PSs2 X b2 u) : PS2 X (.If test b1 b2 pos) (tIfS tt t u) := by
  refine ⟨fun pins s σ H D I h => ?_⟩
  rw [exec_If]
  refine wpC_bind (wpC_standAt (wpC_bind (thnC (hc.run pins s σ H _ I h) fun d s1 ⟨H1, I1, q1⟩ => ?_)))
  cases d with
  | true => exact ha.run pins s1 σ H1 D I1 q1
  | false => exact hb.run pins s1 σ H1 D I1 q1
theorem ps2_ret (he : PE2 X e te) : PS2 X (.Return (some e) pos) (tRet te) := by
  refine ⟨fun pins s σ H D I h => ?_⟩
  rw [exec_Return_some]
  exact wpC_bind (wpC_standAt (wpC_bind (thnC (he.run pins s σ H _ I h) fun v s1 ⟨x, H1, I1, r1, q1⟩ => wpC_pure ⟨x, σ, H1, I1, r1, q1⟩)))
theorem ps2_expr (he : PE2 X e te) (hs : swapsWith e none pos.line X.env = pure false := by rfl) : PS2 X (.Expr e pos) (tDrop te) := by
  refine ⟨fun pins s σ H D I h => ?_⟩
  rw [exec_Expr X.env e pos I.quiet hs]
  exact wpC_bind (wpC_standAt (wpC_bind (thnC (he.run pins s σ H _ I h) fun v s1 ⟨x, H1, I1, r1, q1⟩ => wpC_of (wpAny_dropValue ⟨σ, H1, I1, q1⟩))))
theorem ps2_set {i : Nat} {x : Str} (hN : X.N.Nodup) (hi : X.N[i]? = some x) (hx : Loc X.env.scope x) (he : PE2 X e te) (hs : swapsWith e (some (.Name x pos')) pos.line X.env = pure false := by rfl) (hf : X.fn x = true ∨ X.env.scope.names.lookup x = some .local := by first | exact .inl rfl | exact .inr rfl | assumption) :
    PS2 X (.Assign [.Name x pos'] e pos) (tAsg te (gName i)) := by
  refine ⟨fun pins s σ H D I h => ?_⟩
  rw [exec_Assign_Name X.env x pos' e pos hs]
  refine wpC_bind (wpC_standAt (wpC_bind (thnC (he.run pins s σ H _ I h) fun v s1 ⟨y, H1, I1, r1, q1⟩ => wpC_bind (wpC_standAt ?_))))
  refine wpC_bind (wpC_of (wpAny_bindName ?_))
  exact store_ok I1 hN hi hx r1 (fun s2 I2 => wpC_pure ⟨_, H1, I2, q1⟩) hf
theorem ps2_fld {f : Str} (ha : PE X o ta) (hv : PE2 X e te) (hs : swapsWith e (some (.Attribute o f pos')) pos.line X.env = pure false := by rfl) : PS2 X (.Assign [.Attribute o f pos'] e pos) (sFld X.K ta te f) := by
  refine ⟨fun pins s σ H D I h => ?_⟩
  rw [plainObj_exec_Assign_Attribute o f pos' e pos hs]
  refine wpC_bind (wpC_standAt (wpC_bind (thnC (hv.run pins s σ H _ I h) fun u s1 ⟨y, H1, I1, ry, q⟩ => ?_)))
  rw [assign_Attribute]
  refine wpC_bind (wpC_of (wpAny_bind (wpAny_holding (thn (ha.run pins s1 σ H1 _ I1 q) fun ov s2 ⟨x, H2, I2, rx, a, C, dx, fs, ex, ea, c, n, l, q2⟩ => wpAny_bind (wpAny_standAt (wpAny_bind (wpAny_holding ?_)))))))
  subst ex
  obtain rfl : ov = Value.ref a := rx
  exact setattr_ok I2 ea c n l ry fun s3 I3 => wpAny_release (wpC_pure ⟨σ, _, I3, q2⟩)
theorem ps2_assert {msg : Option Expr} (hc : PT2 X test tt) : PS2 X (.Assert test msg pos) (tAssert tt) := by
  refine ⟨fun pins s σ H D I h => ?_⟩
  rw [arm_exec_Assert]
  refine wpC_bind (wpC_standAt (wpC_bind (thnC (hc.run pins s σ H (fun b H1 => b = true ∧ D.nx σ H1) I h) fun b s1 ⟨H1, I1, e1, q⟩ => ?_)))
  subst e1
  exact wpC_pure ⟨σ, H1, I1, q⟩
theorem pt2_val (h : PE2 X e te) (he : ∀ whole, isTrue e X.env whole = (do let v ← whole; standAt e.pos; holding [v] (truthy v)) := by intro _; rfl) : PT2 X e (tB te) := by
  refine ⟨fun pins s σ H Q I hw => ?_⟩
  rw [he]
  refine wpC_bind (thnC (h.run pins s σ H _ I hw) fun v s1 ⟨x, H1, I1, r1, q1⟩ => wpC_bind (wpC_standAt (wpC_holding ?_)))
  obtain ⟨d, rfl, q⟩ := q1
  cases r1
  exact wpC_of (wpAny_truthy_bool ⟨H1, I1, q⟩)
theorem pt2_not (ha : PT2 X e tt) : PT2 X (.UnaryOp .Not e pos) (tNot tt) := by
  refine ⟨fun pins s σ H Q I h => ?_⟩
  show wpC _ _ (do return !(← isTrue e X.env (eval e X.env))) _ _ s
  exact wpC_bind (thnC (ha.run pins s σ H (fun c H1 => Q (!c) H1) I h) fun c s' h' => wpC_pure h')
theorem pt2_cmpR {op : CmpOp} {r : R2} (ho : OpR X (compareOp op) r) (ha : PE2 X e te) (hb : PE2 X e2 te2) (hm : behindInMarks op e2 = false) : PT2 X (.Compare e [op] [e2] pos) (tTest (tOp r te te2)) := by
  refine ⟨fun pins s σ H Q I h => ?_⟩
  rw [isTrue_Compare1]
  refine wpC_bind (thnC (ha.run pins s σ H _ I h) fun v s1 ⟨x, H1, I1, r1, q1⟩ => wpC_bind (wpC_holding ?_))
  rw [markedBehindIn_of_false hm]
  refine thnC (hb.run pins s1 σ H1 _ I1 q1) fun u s2 ⟨y, H2, I2, r2, q2⟩ => wpC_bind (wpC_standAt (wpC_bind (wpC_operate (wpC_of ?_))))
  refine thn (ho pins s2 σ H2 x y v u _ I2 r1 r2 q2) fun c s3 ⟨z, H3, I3, r3, k, e, q3⟩ => wpC_holding ?_
  subst e
  cases r3
  exact wpC_of (wpAny_truthy_bool ⟨H3, I3, q3⟩)
end
end Lp
end
section
set_option Elab.async false
set_option linter.all false
set_option maxRecDepth 100000
set_option maxHeartbeats 2000000
/-! Lp.G13: defs whose bodies may hold a list of a generator; their calls. -/
namespace Lp
open PySem PySem.Spec L2 PyProof.Rows GenW
open Sem (wp)

section
variable {P : Program} {w : World} {A : Around} {s : Shared} {R : Result → Shared → Prop}
theorem codeC_call_function {a : Addr} {args : Args} {o : Obj} {fd : FuncData} {body : List Stmt} (hroom : A.depth < recursionLimit)
    (ho : s.heap.get? a = some o)
    (hd' : o.data = .func fd) (hco : fd.scope.isCoroutine = false) (hgen : fd.scope.isGenerator = false) (hbody : fd.body = .stmts body) (hcd : s.heap.CodeRec fd.code fd.qualname)
    (h : wpAny (model P w) A.in1 (bindArgs fd args) (fun binds s₁ =>
      wpAny (model P w) A.in1 (newFunctionEnv fd.scope fd.globals fd.closure binds (fd.qualname ++ ".<locals>.") (some a) fd.code none fd.builtins)
        (fun env s₂ => s₂.heap.NoLimit ∧ codeC (model P w) A (.func body env) R s₂) (fun e s' => R (.error e) s') s₁) (fun e s' => R (.error e) s') s) :
    codeC (model P w) A (.call (.ref a) args) R s := by
  refine codeC_of_tree (wpC_of ?_)
  show wpAny _ A.in1 (callAny (.ref a) args) _ _ s
  simp only [callAny]
  refine wpAny_bind (wpAny_load ho ?_)
  obtain ⟨c, oc, vs, tq, hc, hoc, hdc, hq⟩ := hcd
  simp only [hd', callFunction, hco, hgen, hbody, hc]
  rw [hc] at h
  refine wpAny_bind (m := field (.ref c) 1) (wpAny_field hoc hdc hq (wpAny_bind (wpAny_pure ?_)))
  exact wpAny_bind (wpAny_mono h (fun binds s₁ h₁ => wpAny_bind (wpAny_mono h₁ (fun env s₂ h₂ => wpAny_bind (wpAny_enterFrame h₂.1 hroom
    (wpAny_pure (And.intro rfl h₂.2)))) fun _ _ h' => h')) fun _ _ h' => h')
theorem codeC_func {body : List Stmt} {env : Env} (h : wpC (model P w) (A.deeper env) (execs body env) (fun f s' => R (.ok (.ret (match f with | .ret v => v | _ => .none))) s') (fun _ _ => False) s) : codeC (model P w) A (.func body env) R s := by
  refine codeC_of_tree ?_
  show wpC _ (A.deeper env) (do point; match ← (execs body env).onRaise (leaving env) with | .ret v => ret v | _ => ret .none) _ _ s
  refine wpC_bind (wpC_of (wpAny_point (wpC_bind (wpC_onRaise (wpC_mono h (fun f s' h' => ?_) fun _ _ h' => h'.elim)))))
  cases f <;> exact wpC_pure h'
theorem codeC_call_builtin_at {id : String} {args : Args} {b : Builtin} (hq : (Code.builtin id args).quiet = true) (hb : entryFor table id = some b)
    (h : wpAny (model P w) A.in1 (checkBuiltinCall id args) (fun _ s₁ => wpC (model P w) (A.under (.builtin id args)) (b args)
      (fun fin s' => match fin with | .done f => R (.ok f) s' | .again c' => c'.quiet = true ∧ codeC (model P w) A c' R s') (fun e s' => R (.error e) s') s₁)
      (fun e s' => R (.error e) s') s) : codeC (model P w) A (.call (.builtin id) args) R s := by
  refine codeC_of_tree (wpC_of ?_)
  show wpAny _ A.in1 (do checkBuiltinCall id args; again (.builtin id args)) _ _ s
  exact wpAny_bind (wpAny_mono h (fun _ s₁ h₁ => wpAny_pure (And.intro hq (codeC_builtinU hb h₁))) fun _ _ h' => h')
end

/-- a def's promise, its body may hold a list of a generator; no exception leaves it -/
structure FnOk2 (P : Program) (w : World) (K : PySem.W.Frag) (mg : Str → Option Value) (base : Heap) (k : Nat) (f : Addr) (fd : FuncData) (ps : List Str) (sp : Sp) : Prop where
  len : ∀ vs H Q E, sp vs H Q E → vs.length = ps.length
  run : ∀ (A : Around) (outer : List Env) (s : Shared) (H : Hp) (args : Args) (us : List Value) (vs : List V) (Q : VK), Room k A → Env0 P w K mg base A outer s H → BindsTo s fd args (ps.zip us) → Vals vs us → sp vs H Q E0 →
    codeC (model P w) A (.call (.ref f) args) (fun r s' => match r with | .ok (.ret u) => CE outer P w H s Q u s' | _ => False) s
section
variable {P : Program} {w : World} {K : PySem.W.Frag} {mg : Str → Option Value} {base : Heap}
theorem FnOk2.of {k : Nat} {f : Addr} {fd : FuncData} {ps : List Str} {sp : Sp} (F : FnOk P w K mg base CX0 k f fd ps sp) : FnOk2 P w K mg base k f fd ps sp := ⟨F.len, fun A outer s H args us vs Q hr e0 hb r h =>
  codeC_of (codeAny_mono (F.run A outer s H args us vs Q E0 hr e0 hb r h) fun r s' q => by
    cases r with
    | error e => exact q
    | ok fl => cases fl <;> exact q)⟩
theorem FnOk2.mono {j k : Nat} {f : Addr} {fd : FuncData} {ps : List Str} {sp : Sp} (F : FnOk2 P w K mg base j f fd ps sp) (h : j ≤ k) : FnOk2 P w K mg base k f fd ps sp :=
  ⟨F.len, fun A outer s H args us vs Q hr => F.run A outer s H args us vs Q (hr.mono h)⟩

theorem fun2_ok {x qual : Str} {st : Stmt} {f : Addr} {fd : FuncData} {N ps : List Str} {k : Nat} {sp : Sp} (F : Fun K x qual st f fd) (S : FnScope N ps (defScope st)) (len : ∀ vs H Q E, sp vs H Q E → vs.length = ps.length)
    (hbody : ∀ (cdv : Value) (A : Around) (outer : List Env) (s : Shared) (H : Hp) (vs : List V) (Q : VK), Room k (A.deeper (envOfC qual (defScope st) s.heap.objs.size f cdv)) → sp vs H Q E0 →
      ∃ t, PSs2 (cxOf CX0 P w K mg base N qual (defScope st) f cdv A outer s H E0).nox (defBody st) t ∧ t { nx := fun _ H' => Q .non H', rt := Q } (start N vs) H) : FnOk2 P w K mg base (k + 1) f fd ps sp := by
  obtain ⟨oc, od, kV, doc, pm, an, cdv, ct, osl, rfl, lk, hcd⟩ := F.ex
  refine ⟨len, fun A outer s H args us vs Q hr e0 hb r hsp => ?_⟩
  have hl := len _ _ _ _ hsp
  have KX : K.In s.heap := e0.mod.kin.keeps fun b o e => (e0.bs b o e).1
  have lim : s.heap.NoLimit := e0.mod.nolimit.keeps fun b o e => (e0.bs b o e).1
  have hkind : ∀ y ∈ ps.zip us, (defScope st).names.lookup y.1 = some .local ∨ ((defScope st).names.lookup y.1 = some .cell ∧ ((cellsFrom (s.heap.objs.size + 1) (defScope st).names []).lookup y.1).isSome = true) := fun ⟨n, v⟩ hy => by
    rcases S.par n (List.of_mem_zip hy).1 with q | q
    · exact .inl q
    · exact .inr ⟨q, PySem.W.cellsFrom_some _ _ _ (.inl q)⟩
  refine codeC_call_function hr.depth (KX _ _ lk) rfl S.co S.gen rfl (PySem.W.codeRec_of KX hcd) (hb _ _ _ _ ?_)
  refine wpAny_newFunctionEnv_cells S.kind hkind fun env he s1 x => ?_
  subst he
  refine ⟨lim.keeps x.toInCall.keep, codeC_func ?_⟩
  obtain ⟨t, ht, hq⟩ := hbody cdv A outer s H vs Q (hr.deeper _) hsp
  have I : Inv (cxOf CX0 P w K mg base N qual (defScope st) f cdv A outer s H E0) [] (start N vs) H s1 := inv_start S hr.hd e0 hl r x
  refine wpC_mono (ht.run [] s1 (start N vs) H _ (I.wish _) hq) (fun fl s' hs => ?_) fun e s' hs => hs
  have fin : ∀ {σ' : L2.St} {H' : Hp} {v : V} {u : Value}, Inv (cxOf CX0 P w K mg base N qual (defScope st) f cdv A outer s H E0).nox [] σ' H' s' → RelV v u → Q v H' → CE outer P w H s Q u s' :=
    fun {σ' H' v u} J rv q => ⟨v, H', J.os, J.bare, J.base, J.hok, rv, q⟩
  cases fl with
  | ret u =>
    obtain ⟨v, σ', H', J, rv, q⟩ := hs
    exact fin J rv q
  | next =>
    obtain ⟨σ', H', J, q⟩ := hs
    exact fin (v := V.non) (u := Value.none) J rfl q
  | brk =>
    obtain ⟨_, _, _, q⟩ := hs
    exact False.elim q
  | cont =>
    obtain ⟨_, _, _, q⟩ := hs
    exact False.elim q
end

/-! ### calls -/
section
variable {X : Cx} {k : Nat} {f C : Addr} {fd : FuncData} {ps : List Str} {sp : Sp} {dvs : List V} {ds : List Value} {x m : Str} {p pos apos : Pos} {e o : Expr} {es : List Expr} {t : TA} {ta : TE}
theorem run_fn2 {pins : List (Addr × Obj)} {σ : L2.St} {H : Hp} {s : Shared} {Q : VK} {us : List Value} {vs : List V} {E1 : Value → Shared → Prop} (F : FnOk2 X.prog X.w X.K X.mg X.base k f fd ps sp) (hr : Room k X.A) (hb : Binds X.K fd ps ds) (hd : Vals dvs ds)
    (I : Inv X pins σ H s) (r : Vals vs us) (h : sp (vs ++ dvs) H Q E0) : wpC (model X.prog X.w) X.A (call (.ref f) us) (EP X pins σ Q) E1 s := by
  have r2 : Vals (vs ++ dvs) (us ++ ds) := r.append hd
  have hl2 : (us ++ ds).length = ps.length := by rw [← r2.length]; exact F.len _ _ _ _ h
  refine wpC_call (codeC_mono (F.run X.A X.stack s H ⟨us, []⟩ (us ++ ds) (vs ++ dvs) Q hr I.env0 (hb s us I.kIn hl2) r2 h) fun r s' hq => ?_)
  cases r with
  | error e => exact False.elim hq
  | ok fl =>
    cases fl with
    | ret u => exact I.after hq
    | next => exact False.elim hq
    | brk => exact False.elim hq
    | cont => exact False.elim hq
theorem wpC_callK {pos : Pos} {f : Value} {first : List Value} {s : Shared} {A : Around} {Q : Value → Shared → Prop} {E : Value → Shared → Prop} {M : Model} {K : PySem.W.Frag} {env : Env} (hk : PySem.W.keepIn K f = true)
    (h : wpC M A (spliced (backTo pos (starEach (e :: es) env))) (fun vs s1 => K.In s1.heap ∧ wpC M A (call f (first ++ vs)) Q E s1) E s)
    (he : starEach (e :: es) env = (false, eval e env) :: starEach es env) (hpl : (backTo pos (starEach es env)).any (·.1) = false) : wpC M A (callWith pos f first (backTo pos (starEach (e :: es) env)) []) Q E s := by
  rw [he] at h ⊢
  exact wpC_callWith (P := fun h => K.In h) (by show (false || (backTo pos (starEach es env)).any (·.1)) = false; rw [hpl]; rfl) (PySem.W.keeps_K hk) (wpC_evalArgs h)
/-- f(e, ..) -/
theorem pe2_call (F : FnOk2 X.prog X.w X.K X.mg X.base k f fd ps sp) (hr : Room k X.A) (hg : Gl X x) (hm : X.mg x = some (.ref f)) (hk : PySem.W.keepIn X.K (.ref f) = true) (hb : Binds X.K fd ps ds) (hd : Vals dvs ds)
    (ha : PA2 X (e :: es) t) (hdb : (x == ("__debug__" : Str)) = false := by decide) (he : starEach (e :: es) X.env = (false, eval e X.env) :: starEach es X.env := by rfl) (hpl : (backTo pos (starEach es X.env)).any (·.1) = false := by rfl) :
    PE2 X (.Call (.Name x p) (e :: es) [] pos) (tCall sp dvs E0 t) := by
  refine ⟨fun pins s σ H Q I h => ?_⟩
  rw [arm_eval_Call_Name']
  refine wpC_bind (wpC_of (ld_glob I hg hm ?_ hdb))
  exact wpC_callK hk (thnC (ha.run pos pins s σ H _ I h) fun us s1 ⟨vs, H1, I1, r, q⟩ => ⟨I1.kIn, run_fn2 F hr hb hd I1 r q⟩) he hpl
/-- o.m(..) -/
theorem pe2_meth0 {pl : Sem Bool} (he : PE X o ta) (c : Cls X.K C) (hm : Meth X.K C m f) (F : FnOk2 X.prog X.w X.K X.mg X.base k f fd ps sp) (hr : Room k X.A) (hb : Binds X.K fd ps ds) (hd : Vals dvs ds)
    (ht : eval (.Call (.Attribute o m apos) [] [] pos) X.env = (do
      let ov ← eval o X.env
      standAt apos.atName
      let (f, first) ← holding [ov] (getMethod ov m pl)
      callWith pos f first (backTo pos (starEach [] X.env)) (backToKw pos (keywordEach [] X.env))) := by rfl) :
    PE2 X (.Call (.Attribute o m apos) [] [] pos) (tMeth C m sp dvs E0 ta tNil) := by
  refine ⟨fun pins s σ H Q I h => ?_⟩
  rw [ht]
  refine wpC_bind (wpC_of (thn (he.run pins s σ H _ I h) fun u s1 ⟨x, H1, I1, rx, a, dx, fs, ex, ea, l, q⟩ => ?_))
  subst ex
  obtain rfl : u = Value.ref a := rx
  refine wpC_bind (wpC_standAt (wpC_bind (wpC_holding (wpC_of (getmeth_ok I1 ea c hm l ?_)))))
  refine wpC_callWith (P := fun h => X.K.In h) (args := []) rfl (PySem.W.keeps_K hm.kp) ?_
  refine wpC_of (PyProof.Rows.evalArgs_nil3 ⟨I1.kIn, ?_⟩)
  exact run_fn2 (us := [.ref a]) (vs := [.ref a]) F hr hb hd I1 (.cons rfl .nil) q
end
end Lp
end
section
set_option Elab.async false
set_option linter.all false
set_option maxRecDepth 100000
set_option maxHeartbeats 2000000
/-! Lp.G14: list(g) as an expression; append; for; C(..). -/
namespace Lp
open PySem PySem.Spec L2 PyProof.Rows GenW
open Sem (wp)

section
variable {X : Cx} {k : Nat} {f C : Addr} {fd : FuncData} {ps : List Str} {sp : Sp} {dvs : List V} {ds : List Value} {x : Str} {p pos cpos apos : Pos} {e o : Expr} {es : List Expr} {t : TA} {to : TE} {r : V → List V → Hp → VK → Prop}
def tListC (tg : TGenC) : TE := fun σ H Q => ∃ n cont, tg σ H n cont ∧ n ≤ sizeLine ∧ ∀ ys H2, ys.length = n → cont ys H2 → ∀ l, H2 l = none → Q (.ref l) (upd H2 l (.lst ys))
theorem pe2_listG {nm : Str} {tg : TGenC} (h : PGenC X k e tg) (hc : X.calm = true) (hr : Room (k + 3) X.A) (hg : Gl X nm) (hmg : X.mg nm = none) (hv : bootBuiltins nm = some (.type "list")) (hnm : nm ≠ "__name__" := by decide) (hdb : (nm == ("__debug__" : Str)) = false := by decide)
    (he : starEach [e] X.env = (false, eval e X.env) :: starEach [] X.env := by rfl) : PE2 X (.Call (.Name nm p) [e] [] pos) (tListC tg) := by
  refine ⟨fun pins s σ H Q I ⟨n, cont, hq, hn, hQ⟩ => ?_⟩
  rw [arm_eval_Call_Name']
  refine wpC_bind (wpC_of (ld_blt I hg hmg hv ?_ hnm hdb))
  rw [he]
  refine wpC_callWith (P := fun _ => True) (by rfl) (fun h _ => ⟨.machine, .inr (.inl rfl), PySem.W.Looks.of_pure rfl⟩) ?_
  refine wpC_evalArgs ?_
  refine wpC_spliced_cons (wpC_of (thn (h.run pins s σ H n cont I hq) fun u s1 ⟨H1, sc, I1, hz, hG⟩ => wpC_spliced_nil ⟨trivial, ?_⟩))
  obtain ⟨a, g, c, rfl, ha1, ha2, hgen, hg1, hgs, hos, hba, hlim, hkp, wake⟩ := hG
  have fpS : FpOk X pins H1 s1.heap.objs.size := I1.fpOk (Nat.le_trans ha1 (Nat.le_of_lt ha2)) (I1.hok.fresh (Nat.le_trans ha1 (Nat.le_of_lt ha2)))
  obtain ⟨w1, w2⟩ := fp_wild I1 fpS
  refine list_genC (D := (· ∈ [a])) (xs := n) (gs := .fresh c) (Rt := RtC X.prog X.w X.stack H1 sc s1.heap.objs.size [] [] n cont) (I1.ok.hd hc) hr.depth hgen hlim hgs (fun hm => ?_) (fun s2 ho2 hg2 hk2 ⟨c2, hS2⟩ => ?_) fun s2 h' hR hk => ?_
  · rw [List.mem_singleton.mp hm] at ha2
    exact absurd ha2 (Nat.lt_irrefl _)
  · refine wake _ _ [] [] [] [] s2 ⟨hr.hd, ?_, ?_⟩ I1.ok.frames (fun b hb => ?_) (by simp) (by simp) (by simp) (ho2.trans hos) ?_ hk2 ⟨#[], c2, hS2, .nil⟩ (by simpa using hn) (by simp) ?_
    · have := hr.dp
      show X.A.depth + 3 * k + 5 < _
      omega
    · have := hr.un
      show X.A.units + 1 + 1 + 1 + 16 * k + 200 < _
      omega
    · have e : b = s1.heap.objs.size := by simpa using hb
      rw [e]
      exact ⟨w1, w2, .inr (Nat.le_refl _), fpS.1⟩
    · rw [hg2]
      exact allBare_setGen (s := s1) hba rfl
    · rw [hg2]
      simpa using (Array.getElem?_eq_some_iff.mp hgs).1
  · obtain ⟨H', ys, acc, cc, os2, ba2, un2, hok2, hn2, hS2, hv2, hl2, _, hq2⟩ := hR
    have hnS : H' s1.heap.objs.size = none := hn2 _ (by simp)
    refine ⟨.ref s1.heap.objs.size, upd H' s1.heap.objs.size (.lst ys), ?_, rfl, hQ ys H' hl2 hq2 _ hnS⟩
    refine I1.drained (ex := [s1.heap.objs.size]) (acc := acc) (c := cc) (Nat.le_trans ha1 (Nat.le_of_lt ha2)) (by rw [hl2]; exact hn) (hk _ _ hS2) (by simpa using hv2) (fun b hb => ?_) os2 (allBare_setGen ba2 rfl) ((show Un (frs X.stack) [s1.heap.objs.size] H1 H' sc.heap s2.heap from un2).trans (Un.kept hk)) (hok2.kept hk) hnS
    have e : b = s1.heap.objs.size := by simpa using hb
    rw [e]
    obtain ⟨_, f1, _, f3, f4, f5⟩ := fpS
    exact ⟨f3, f1, f4, f5⟩

/-- xs.append(e) -/
theorem pe2_bm {T id : String} {name : Str} (pa : PlainAttrs T) (slot : Slot T name id) (hty : typeOf (.builtin id) = pure (.type "method_descriptor")) (hm : MtR X id r) (ho : PE X o to) (ha : PA2 X (e :: es) t)
    (hbase : attributeBase o name X.env (eval o X.env) = eval o X.env := by rfl)
    (hfew : ((backTo cpos (starEach (e :: es) X.env)).all (fun x => !x.1) && (backToKw cpos (keywordEach [] X.env)).all (fun x => x.1.isSome)
      && decide ((e :: es).length + ([] : List Keyword).length + (if ([] : List Keyword).isEmpty then 0 else 1) < 30)) = true := by rfl)
    (hline : (apos.endLine == cpos.line) = true := by rfl) (hs : starEach (e :: es) X.env = (false, eval e X.env) :: starEach es X.env := by rfl) (hplain : (backTo cpos (starEach es X.env)).any (·.1) = false := by rfl) :
    PE2 X (.Call (.Attribute o name apos) (e :: es) [] cpos) (tBM X.K T r to t) := by
  refine ⟨fun pins s σ H Q I h => ?_⟩
  rw [arm_eval_Call, hbase]
  refine wpC_bind (wpC_of (thn (ho.run pins s σ H _ I h) fun v s1 ⟨x, H1, I1, r1, ty, q1⟩ => ?_))
  obtain ⟨h1, h2⟩ := tyV_is I1 r1 ty
  refine wpC_bind (wpC_standAt ?_)
  have hform : methodCallForm ((e :: es).length + ([] : List Keyword).length) (backTo cpos (starEach (e :: es) X.env)) (backToKw cpos (keywordEach [] X.env)) = true := hfew
  have hpos : methodCallPos true o X.env apos cpos = pure cpos := by unfold methodCallPos; simp [hline]
  unfold methodCall
  rw [hform]
  refine wpC_bind (wpC_holding (wpC_of (getMethod_builtin h1 pa slot hty h2 ?_)))
  refine wpC_bind (wpC_of_eq hpos ?_)
  have hA := ha.run cpos pins s1 σ H1 _ I1 q1
  rw [hs] at hA ⊢
  refine wpC_callWith (P := fun _ => True) (by show (false || (backTo cpos (starEach es X.env)).any (·.1)) = false; rw [hplain]; rfl) (fun h _ => ⟨.machine, .inr (.inl rfl), PySem.W.Looks.of_pure rfl⟩) (wpC_evalArgs ?_)
  exact thnC hA fun us s2 ⟨vs, H2, I2, r2, q2⟩ => ⟨trivial, wpC_of (hm pins s2 σ H2 x vs v us Q I2 r1 r2 q2)⟩
end

/-! ### for -/
section
variable {P : Program} {w : World} {A : Around}
theorem codeC_block_nil {env : Env} {R : Result → Shared → Prop} {s : Shared} (h : R (.ok .next) s) : codeC (model P w) A (.block [] env) R s := codeC_of_tree (c := .block [] env) (by
  show wpC _ _ (.pure (PySem.Fin.done .next)) _ _ s
  exact wpC_pure h)
end
section
variable {X : Cx} {t : TS} {tg : Expr} {g : TG}
theorem ps2_for {iter : Expr} {body : List Stmt} {wi : TI} {tb : TS} {pos : Pos} (hx : X.xe = fun _ _ => False) (hc : X.calm = true) (hi : PI X tg iter wi) (hg : PG X tg g) (hb : PSs2 X body tb)
    (hs : ∀ x, foldedSetIterable iter X.env x = pure x := by intro _; rfl) : PS2 X (.For tg iter body [] pos) (tFor wi g tb) := by
  refine ⟨fun pins s σ H D I h => ?_⟩
  rw [exec_For]
  refine wpC_bind (wpC_standAt (wpC_bind (wpC_of (thn (hi.run pins s σ H _ I h) fun v s1 h1 => ?_))))
  refine wpC_bind (wpC_of_eq (hs v) (wpC_bind (wpC_standAt (wpC_bind (wpC_holding (wpC_of (thn h1 fun itv s2 h2 => ?_)))))))
  obtain ⟨it, fp, tn, J, H2, e, I2, T, st2, f2, W, ⟨m0, w0⟩, turn⟩ := h2
  subst e
  have stat : ∀ {H' : Hp}, (∀ b ∈ fp, H' b = none) → ∀ b ∈ fp, FpOk X pins H' b := fun hn b hb => ⟨hn b hb, (f2 b hb).2⟩
  unfold runOwn
  refine wpC_onRaise (wpC_mono (E := fun _ _ => False) (wpC_run (h := none) ?_) (fun _ _ z => z) fun _ _ z => z.elim)
  have key : ∀ (n i : Nat) (s3 : Shared) (σ3 : L2.St) (H3 : Hp), Inv X pins σ3 H3 s3 → tn i s3.heap → (∀ b ∈ fp, H3 b = none) → W i n σ3 H3 →
      codeC (model X.prog X.w) (X.A.mark none) (.forLoop tg (.ref it) body [] X.env) (fun r s' => match r with | .ok f => SP X pins D f s' | .error e => False) s3 := by
    intro n
    induction n using Nat.strongRecOn with
    | ind n ih =>
      intro i s3 σ3 H3 I3 st3 fr3 w3
      refine codeC_of_tree ?_
      have eA : (X.A.mark none).under (.forLoop tg (.ref it) body [] X.env) = X.A := rfl
      rw [eA]
      show wpC _ X.A ((forTurn tg (.ref it) body [] X.env).onRaise (fun x => do noteFrame x X.env; theTreesLotGoes x)) _ _ s3
      refine wpC_onRaise (wpC_mono (E := fun _ _ => False) ?_ (fun _ _ z => z) fun _ _ z => z.elim)
      unfold forTurn
      refine wpC_bind (wpC_standAt (wpC_bind (wpC_onRaise (wpC_mono (E := fun _ _ => False) (wpC_of ?_) (fun _ _ z => z) fun _ _ z => z.elim))))
      rcases turn i n σ3 H3 w3 with ⟨stop, qn⟩ | ⟨go, N, hN, step⟩
      · refine thn (T.done X rfl rfl rfl hc i pins s3 σ3 H3 (fun _ _ => False) I3 (stat fr3) st3 stop) fun r s4 ⟨hr, I4⟩ => ?_
        subst hr
        exact wpC_pure ⟨rfl, codeC_block_nil ⟨σ3, H3, I4, qn⟩⟩
      · refine thn (T.item X rfl rfl rfl hc i pins s3 σ3 H3 (fun _ _ => False) I3 (stat fr3) st3 go) fun r s4 ⟨u, hr, h4⟩ => ?_
        subst hr
        refine wpC_bind (wpC_of (thn h4 fun _ s5 ⟨x, H5, I5, r5, y5, st5, fr5⟩ => ?_))
        have I5' := I5.pinned (stat fr5) (T.obj _ _ st5)
        refine wpC_bind (wpC_of (wpAny_mono (hg.run _ s5 σ3 H5 x u _ I5' r5 (step x H5 y5)) (fun _ s6 ⟨σ6, H6, I6, q6⟩ => ?_) fun _ _ z => by rw [hx] at z; exact z))
        refine wpC_bind (wpC_mono (hb.run _ s6 σ6 H6 _ I6 q6) (fun f s7 q7 => ?_) fun _ _ z => by rw [hx] at z; exact z)
        have again : ∀ {σ7 : L2.St} {H7 : Hp}, Inv X (pins ++ pinsAt fp s5.heap) σ7 H7 s7 → N σ7 H7 → codeC (model X.prog X.w) (X.A.mark none) (.forLoop tg (.ref it) body [] X.env) (fun r s' => match r with | .ok f => SP X pins D f s' | .error e => False) s7 := fun {σ7 H7} I7 n7 => by
          obtain ⟨m', hm, w7⟩ := hN σ7 H7 n7
          refine ih m' hm (i + 1) s7 σ7 H7 I7.unpinned (T.keep _ _ _ st5 fun b hb o e => (I7.pin (b, o) (List.mem_append_right _ (List.mem_append_right _ (mem_pinsAt hb e)))).1) (fun b hb => ?_) w7
          obtain ⟨o, e, d⟩ := T.obj _ _ st5 b hb
          exact (I7.pin (b, o) (List.mem_append_right _ (List.mem_append_right _ (mem_pinsAt hb e)))).2.1
        cases f with
        | next => obtain ⟨σ7, H7, I7, n7⟩ := q7; exact wpC_pure ⟨rfl, again I7 n7⟩
        | cont => obtain ⟨σ7, H7, I7, n7⟩ := q7; exact wpC_pure ⟨rfl, again I7 n7⟩
        | brk => obtain ⟨σ7, H7, I7, q7⟩ := q7; exact wpC_pure ⟨σ7, H7, I7.unpinned, q7⟩
        | ret v => obtain ⟨x7, σ7, H7, I7, r7, q7⟩ := q7; exact wpC_pure ⟨x7, σ7, H7, I7.unpinned, r7, q7⟩
  exact codeC_mono (key m0 0 s2 σ H2 I2 st2 (fun b hb => (f2 b hb).1) w0) fun r s' q => by
    cases r with
    | ok f => exact q
    | error e => exact q.elim
end
end Lp
end
section
set_option Elab.async false
set_option linter.all false
set_option maxRecDepth 100000
set_option maxHeartbeats 2000000
/-! Lp.G15: C(..) whose __init__ may hold a list of a generator. -/
namespace Lp
open PySem PySem.Spec L2 PyProof.Rows GenW
open Sem (wp)
section
variable {P : Program} {w : World} {A : Around} {K : PySem.W.Frag} {C : Addr} {R : Result → Shared → Prop} {h : Heap} {g : Array GenState} {d : Drawn} {t : Nat} {os : OsState}
theorem make_coreC {rest : List Value} {f : Addr} (Y : PySem.W.Makes (model P w) h C) (hi : PySem.W.Looks (model P w) h (typeLookup (.ref C) "__init__") (some (.ref f)))
    (hb : ∀ self, PySem.W.Looks (model P w) h (bindSpecial (.ref f) self) (.ref f, [self]))
    (hq : codeC (model P w) (A.under (.builtin "type.__call__" ⟨.ref C :: rest, []⟩)) (.call (.ref f) ⟨.ref (h.objs.size + 1) :: rest, []⟩) (PySem.W.InitBack (h.objs.size + 1) R) ⟨(h.push PySem.W.emptyDict).push (PySem.W.instObj C h.objs.size), g, d, t, os⟩) :
    codeC (model P w) A (.call (.ref C) ⟨rest, []⟩) R ⟨h, g, d, t, os⟩ := by
  have Y' := Y
  obtain ⟨⟨oc, od, cd, sl, hC, e1, e2, e4⟩, made, base, self, top, call, typ⟩ := Y
  refine codeC_of_tree (wpC_of ?_)
  show wpAny _ _ (callAny (.ref C) _) _ _ _
  refine PySem.W.nd_load hC ?_
  show wpAny _ _ (callAny.viaDunder (.ref C) _) _ _ _
  unfold callAny.viaDunder
  refine wpAny_bind (call.at ?_)
  dsimp only
  rw [tc_bind]
  refine wpAny_bind (wpAny_pure (wpAny_bind (wpAny_pure ?_)))
  refine wpAny_pure (a := PySem.Fin.again (.call (.builtin "type.__call__") ⟨.ref C :: rest, []⟩)) (And.intro rfl ?_)
  refine codeC_call_builtin_at (Code.quiet_builtin _ (by decide +kernel)) entry_typeCall (PySem.W.check_slot tc_kind tc_split typ (PySem.W.tc_args _ _ _) ?_)
  have hm : PySem.W.Looks (model P w) h (mroOf (.ref C)) cd.mro := ((PySem.W.Looks.ld (part := none) hC).andThen .now).andThen .now
  have k : ∀ b o, h.get? b = some o → ((h.push PySem.W.emptyDict).push (PySem.W.instObj C h.objs.size)).get? b = some o := fun b o e => Heap.get?_push_of_some _ (Heap.get?_push_of_some _ e)
  have hx : ((h.push PySem.W.emptyDict).push (PySem.W.instObj C h.objs.size)).get? (h.objs.size + 1) = some (PySem.W.instObj C h.objs.size) := by heap_get
  have t1 : PySem.W.Looks (model P w) ((h.push PySem.W.emptyDict).push (PySem.W.instObj C h.objs.size)) (typeOf (.ref (h.objs.size + 1))) (.ref C) := (PySem.W.Looks.ld hx).andThen .now
  have s1 := self.keeps k
  have i1 := hi.keeps k
  have b1 := (hb (.ref (h.objs.size + 1))).keeps k
  show wpC _ _ (do
    if (← mroOf (.ref C)).isEmpty then rule "type.call.half-made"; raiseError "TypeError" s!"cannot create '{← typeName (.ref C)}' instances"
    let new ← match ← Bind.madeBy (.ref C) with
      | some id => pure (.builtin id)
      | none => getAttr (.ref C) "__new__"
    let obj ← holding [new] (PySem.call new (.ref C :: rest) [])
    if !(← isInstance obj (.ref C)) then rule "type.call.new-gave-other-type"; return ← ret obj
    match ← holding [obj] (callSpecial? obj "__init__" rest []) with
    | none => ret obj
    | some r =>
      if r != .none then
        rule "type.call.init-returned-value"
        raiseError "TypeError" s!"__init__() should return None, not '{← typeNameOf r}'"
      ret obj) _ _ _
  refine wpC_bind (wpC_of (hm.at ?_))
  rw [if_neg (by rw [e4]; exact Bool.false_ne_true)]
  refine wpC_bind (wpC_of (made.at ?_))
  refine wpC_bind (wpC_pure ?_)
  refine wpC_bind (wpC_of (wpAny_holding (wpAny_call (PySem.W.new_K Y' hi (.inl rfl) ?_))))
  refine wpC_bind (wpC_of ?_)
  · unfold isInstance
    refine wpAny_bind (t1.at ?_)
    refine s1.at ?_
    rw [if_neg (by decide)]
    unfold callSpecial? specialOf
    refine wpC_bind (wpC_holding (wpC_bind (wpC_of (wpAny_bind (t1.at (i1.at ?_))))))
    dsimp only
    refine wpC_holding (wpC_bind (wpC_of (b1.at ?_)))
    dsimp only
    refine wpC_bind (wpC_call (codeC_mono hq fun r s' z => ?_))
    rcases r with e | (v | _ | _ | _) <;> first | exact z | exact z.elim | skip
    obtain ⟨rfl, z⟩ := z
    exact wpC_pure (wpC_pure z)
end
section
variable {X : Cx} {k : Nat} {f C : Addr} {fd : FuncData} {ps : List Str} {sp : Sp} {dvs : List V} {ds : List Value} {x : Str} {p pos : Pos} {e : Expr} {es : List Expr} {t : TA}
theorem run_make2 {pins : List (Addr × Obj)} {σ : L2.St} {H : Hp} {s : Shared} {Q : VK} {us : List Value} {vs : List V} {E1 : Value → Shared → Prop} (M : Mk X.K C f) (F : FnOk2 X.prog X.w X.K X.mg X.base k f fd ps sp) (hr : Room (k + 1) X.A) (hb : Binds X.K fd ps ds) (hd : Vals dvs ds)
    (I : Inv X pins σ H s) (r : Vals vs us)
    (h : ∀ x dx, H x = none → H dx = none → dx ≠ x → sp (.ref x :: (vs ++ dvs)) (upd (upd H dx (.own x)) x (.ins C dx [])) (fun v H2 => v = .non ∧ Q (.ref x) H2) E0) :
    wpC (model X.prog X.w) X.A (call (.ref C) us) (EP X pins σ Q) E1 s := by
  have hq := h (s.heap.objs.size + 1) s.heap.objs.size (I.hok.fresh (Nat.le_succ _)) (I.hok.fresh (Nat.le_refl _)) (Nat.ne_of_lt (Nat.lt_succ_self _))
  have I2 := L2.Inv.made (C := C) I
  have r2 : Vals (V.ref (s.heap.objs.size + 1) :: (vs ++ dvs)) (Value.ref (s.heap.objs.size + 1) :: (us ++ ds)) := .cons rfl (r.append hd)
  have hl : (Value.ref (s.heap.objs.size + 1) :: us ++ ds).length = ps.length := by
    have e := r2.length
    rw [F.len _ _ _ _ hq] at e
    exact e.symm
  refine wpC_call (make_coreC (f := f) (PySem.W.makes_of I.kIn M.makes) (PySem.W.looks_findIn I.kIn M.init) (fun self => PySem.W.bind_fn I.kIn self (beq_iff_eq.mp M.fn)) (codeC_mono (F.run _ X.stack _ _ ⟨Value.ref (s.heap.objs.size + 1) :: us, []⟩ (Value.ref (s.heap.objs.size + 1) :: (us ++ ds)) _ _ (hr.make C us [])
    (I2.env0.make C us []) (hb _ (Value.ref (s.heap.objs.size + 1) :: us) I2.kIn hl) r2 hq) fun r s' hq' => ?_))
  cases r with
  | error e => exact hq'.elim
  | ok fl =>
    cases fl with
    | ret u =>
      obtain ⟨v, H', I3, rv, ev, q3⟩ := I2.after hq'
      subst ev
      exact ⟨rv, ⟨V.ref (s.heap.objs.size + 1), H', I3, rfl, q3⟩⟩
    | next => exact False.elim hq'
    | brk => exact False.elim hq'
    | cont => exact False.elim hq'
/-- C(e, ..) -/
theorem pe2_make (M : Mk X.K C f) (F : FnOk2 X.prog X.w X.K X.mg X.base k f fd ps sp) (hr : Room (k + 1) X.A) (hg : Gl X x) (hm : X.mg x = some (.ref C)) (hb : Binds X.K fd ps ds) (hd : Vals dvs ds)
    (ha : PA2 X (e :: es) t) (hdb : (x == ("__debug__" : Str)) = false := by decide) (he : starEach (e :: es) X.env = (false, eval e X.env) :: starEach es X.env := by rfl) (hpl : (backTo pos (starEach es X.env)).any (·.1) = false := by rfl) :
    PE2 X (.Call (.Name x p) (e :: es) [] pos) (tMake C sp dvs E0 t) := by
  refine ⟨fun pins s σ H Q I h => ?_⟩
  rw [arm_eval_Call_Name']
  refine wpC_bind (wpC_of (ld_glob I hg hm ?_ hdb))
  exact wpC_callK M.kp (thnC (ha.run pos pins s σ H _ I h) fun us s1 ⟨vs, H1, I1, r, q⟩ => ⟨I1.kIn, run_make2 M F hr hb hd I1 r q⟩) he hpl
end
end Lp
end
section
set_option Elab.async false
set_option linter.all false
set_option maxRecDepth 100000
set_option maxHeartbeats 2000000
/-! Lp.T: the text by places. -/
namespace Lp
open PySem L2
abbrev PW : PySem.Program := PySem.Challenge.pw_lentpages_k52_whole_fold_least
def tp (i : Nat) : Stmt := PW.main.body.getD i (.Pass ⟨0, 0, 0, 0⟩)
abbrev s_advanced : Stmt := tp 2
abbrev s_successor : Stmt := tp 3
abbrev s_continues : Stmt := tp 4
abbrev s_check_range : Stmt := tp 11
abbrev s_mark_in : Stmt := tp 13
abbrev s_clipped : Stmt := tp 16
abbrev s_joined : Stmt := tp 17
abbrev s_are_regions : Stmt := tp 18
abbrev s_Regions_init : Stmt := inClass (tp 19) 0
abbrev s_Regions_as_list : Stmt := inClass (tp 19) 3
abbrev s_Regions_put_parts : Stmt := inClass (tp 19) 6
abbrev s_Regions_assign : Stmt := inClass (tp 19) 7
abbrev s_Regions_unassign : Stmt := inClass (tp 19) 8
abbrev s_marked_blocks : Stmt := tp 21
abbrev s_stands_for_one : Stmt := tp 22
abbrev s_is_table : Stmt := tp 23
abbrev s_folded : Stmt := tp 24
abbrev s_tables_in : Stmt := tp 25
abbrev s_copied : Stmt := tp 26
abbrev s_FoldedTable_init : Stmt := inClass (tp 27) 0
abbrev s_FoldedTable_entries : Stmt := inClass (tp 27) 2
abbrev s_FoldedTable_table_count : Stmt := inClass (tp 27) 3
abbrev s_FoldedTable_tree : Stmt := inClass (tp 27) 4
abbrev s_Shape_init : Stmt := inClass (tp 29) 0
abbrev s_Shape_span : Stmt := inClass (tp 29) 1
abbrev s_Shape_block_at : Stmt := inClass (tp 29) 4
abbrev s_level_of : Stmt := tp 30
abbrev s_largest_block : Stmt := tp 31
abbrev s_is_cover : Stmt := tp 32
abbrev s_cover : Stmt := tp 33
abbrev s_law_number : Stmt := tp 35
abbrev s_law_is_whole : Stmt := tp 36
abbrev s_law_same : Stmt := tp 37
abbrev s_law_fan_spans : Stmt := tp 38
abbrev s_law_fan : Stmt := tp 39
abbrev s_law_fold_fan : Stmt := tp 40
abbrev s_law_fold_many : Stmt := tp 41
abbrev s_law_file_names : Stmt := tp 42
abbrev s_law_fold_deed : Stmt := tp 43
abbrev s_law_marks_do : Stmt := tp 44
abbrev s_law_marks_ask : Stmt := tp 45
abbrev s_law_fold_tell : Stmt := tp 46
abbrev s_law_after : Stmt := tp 47
abbrev s_law_uniform : Stmt := tp 48
abbrev s_law_describes : Stmt := tp 49
abbrev s_law_is_block : Stmt := tp 50
abbrev s_law_apart : Stmt := tp 51
abbrev s_law_entries_least : Stmt := tp 52
abbrev s_law_tables_at : Stmt := tp 53
abbrev s_law_needed_tables : Stmt := tp 54
abbrev s_law_least_good : Stmt := tp 55
abbrev s_law : Stmt := tp 56
abbrev n_advanced : List PySem.Str := ["mark", "steps", "rights", "name", "number"]
abbrev p_advanced : List PySem.Str := ["mark", "steps"]
theorem c_advanced : FnScope n_advanced p_advanced (defScope s_advanced) := ⟨rfl, rfl, rfl, by decide +kernel, rfl, by decide +kernel, by decide +kernel⟩
abbrev n_successor : List PySem.Str := ["mark"]
abbrev p_successor : List PySem.Str := ["mark"]
theorem c_successor : FnScope n_successor p_successor (defScope s_successor) := ⟨rfl, rfl, rfl, by decide +kernel, rfl, by decide +kernel, by decide +kernel⟩
abbrev n_continues : List PySem.Str := ["mark", "following"]
abbrev p_continues : List PySem.Str := ["mark", "following"]
theorem c_continues : FnScope n_continues p_continues (defScope s_continues) := ⟨rfl, rfl, rfl, by decide +kernel, rfl, by decide +kernel, by decide +kernel⟩
abbrev n_check_range : List PySem.Str := ["start", "end", "limit"]
abbrev p_check_range : List PySem.Str := ["start", "end", "limit"]
theorem c_check_range : FnScope n_check_range p_check_range (defScope s_check_range) := ⟨rfl, rfl, rfl, by decide +kernel, rfl, by decide +kernel, by decide +kernel⟩
abbrev n_mark_in : List PySem.Str := ["row", "page"]
abbrev p_mark_in : List PySem.Str := ["row", "page"]
theorem c_mark_in : FnScope n_mark_in p_mark_in (defScope s_mark_in) := ⟨rfl, rfl, rfl, by decide +kernel, rfl, by decide +kernel, by decide +kernel⟩
abbrev n_clipped : List PySem.Str := ["rows", "start", "end", "parts", "row", "low", "high"]
abbrev p_clipped : List PySem.Str := ["rows", "start", "end"]
theorem c_clipped : FnScope n_clipped p_clipped (defScope s_clipped) := ⟨rfl, rfl, rfl, by decide +kernel, rfl, by decide +kernel, by decide +kernel⟩
abbrev n_joined : List PySem.Str := ["rows", "regions", "row", "last"]
abbrev p_joined : List PySem.Str := ["rows"]
theorem c_joined : FnScope n_joined p_joined (defScope s_joined) := ⟨rfl, rfl, rfl, by decide +kernel, rfl, by decide +kernel, by decide +kernel⟩
abbrev n_are_regions : List PySem.Str := ["rows", "limit", "end", "following", "row"]
abbrev p_are_regions : List PySem.Str := ["rows", "limit"]
theorem c_are_regions : FnScope n_are_regions p_are_regions (defScope s_are_regions) := ⟨rfl, rfl, rfl, by decide +kernel, rfl, by decide +kernel, by decide +kernel⟩
abbrev n_Regions_init : List PySem.Str := ["self", "limit"]
abbrev p_Regions_init : List PySem.Str := ["self", "limit"]
theorem c_Regions_init : FnScope n_Regions_init p_Regions_init (defScope s_Regions_init) := ⟨rfl, rfl, rfl, by decide +kernel, rfl, by decide +kernel, by decide +kernel⟩
abbrev n_Regions_as_list : List PySem.Str := ["self"]
abbrev p_Regions_as_list : List PySem.Str := ["self"]
theorem c_Regions_as_list : FnScope n_Regions_as_list p_Regions_as_list (defScope s_Regions_as_list) := ⟨rfl, rfl, rfl, by decide +kernel, rfl, by decide +kernel, by decide +kernel⟩
abbrev n_Regions_put_parts : List PySem.Str := ["self", "start", "end", "parts", "before", "behind"]
abbrev p_Regions_put_parts : List PySem.Str := ["self", "start", "end", "parts"]
theorem c_Regions_put_parts : FnScope n_Regions_put_parts p_Regions_put_parts (defScope s_Regions_put_parts) := ⟨rfl, rfl, rfl, by decide +kernel, rfl, by decide +kernel, by decide +kernel⟩
abbrev n_Regions_assign : List PySem.Str := ["self", "start", "end", "rights", "file", "index"]
abbrev p_Regions_assign : List PySem.Str := ["self", "start", "end", "rights", "file", "index"]
theorem c_Regions_assign : FnScope n_Regions_assign p_Regions_assign (defScope s_Regions_assign) := ⟨rfl, rfl, rfl, by decide +kernel, rfl, by decide +kernel, by decide +kernel⟩
abbrev n_Regions_unassign : List PySem.Str := ["self", "start", "end"]
abbrev p_Regions_unassign : List PySem.Str := ["self", "start", "end"]
theorem c_Regions_unassign : FnScope n_Regions_unassign p_Regions_unassign (defScope s_Regions_unassign) := ⟨rfl, rfl, rfl, by decide +kernel, rfl, by decide +kernel, by decide +kernel⟩
abbrev n_marked_blocks : List PySem.Str := ["shape", "level", "start", "entries", "span", "later", "number", "entry", "low"]
abbrev p_marked_blocks : List PySem.Str := ["shape", "level", "start", "entries"]
theorem c_marked_blocks : GScope n_marked_blocks p_marked_blocks (defScope s_marked_blocks) := ⟨rfl, rfl, rfl, by decide +kernel, rfl, by decide +kernel, by decide +kernel⟩
abbrev n_stands_for_one : List PySem.Str := ["entries", "span", "entry", "mark", "later"]
abbrev p_stands_for_one : List PySem.Str := ["entries", "span"]
theorem c_stands_for_one : FnScope n_stands_for_one p_stands_for_one (defScope s_stands_for_one) := ⟨rfl, rfl, rfl, by decide +kernel, rfl, by decide +kernel, by decide +kernel⟩
abbrev n_is_table : List PySem.Str := ["shape", "level", "start", "entries", "rows", "tables", "entry", "table"]
abbrev p_is_table : List PySem.Str := ["shape", "level", "start", "entries", "rows"]
theorem c_is_table : FnScope n_is_table p_is_table (defScope s_is_table) := ⟨rfl, rfl, rfl, by decide +kernel, rfl, by decide +kernel, by decide +kernel⟩
abbrev n_folded : List PySem.Str := ["shape", "level", "start", "rows", "span", "entries", "number", "low", "inside"]
abbrev p_folded : List PySem.Str := ["shape", "level", "start", "rows"]
theorem c_folded : FnScope n_folded p_folded (defScope s_folded) := ⟨rfl, rfl, rfl, by decide +kernel, rfl, by decide +kernel, by decide +kernel⟩
abbrev n_tables_in : List PySem.Str := ["entries", "entry"]
abbrev p_tables_in : List PySem.Str := ["entries"]
theorem c_tables_in : FnScope n_tables_in p_tables_in (defScope s_tables_in) := ⟨rfl, rfl, rfl, by decide +kernel, rfl, by decide +kernel, by decide +kernel⟩
abbrev n_copied : List PySem.Str := ["entries", "entry"]
abbrev p_copied : List PySem.Str := ["entries"]
theorem c_copied : FnScope n_copied p_copied (defScope s_copied) := ⟨rfl, rfl, rfl, by decide +kernel, rfl, by decide +kernel, by decide +kernel⟩
abbrev n_FoldedTable_init : List PySem.Str := ["self", "shape", "regions"]
abbrev p_FoldedTable_init : List PySem.Str := ["self", "shape", "regions"]
theorem c_FoldedTable_init : FnScope n_FoldedTable_init p_FoldedTable_init (defScope s_FoldedTable_init) := ⟨rfl, rfl, rfl, by decide +kernel, rfl, by decide +kernel, by decide +kernel⟩
abbrev n_FoldedTable_entries : List PySem.Str := ["self"]
abbrev p_FoldedTable_entries : List PySem.Str := ["self"]
theorem c_FoldedTable_entries : FnScope n_FoldedTable_entries p_FoldedTable_entries (defScope s_FoldedTable_entries) := ⟨rfl, rfl, rfl, by decide +kernel, rfl, by decide +kernel, by decide +kernel⟩
abbrev n_FoldedTable_table_count : List PySem.Str := ["self"]
abbrev p_FoldedTable_table_count : List PySem.Str := ["self"]
theorem c_FoldedTable_table_count : FnScope n_FoldedTable_table_count p_FoldedTable_table_count (defScope s_FoldedTable_table_count) := ⟨rfl, rfl, rfl, by decide +kernel, rfl, by decide +kernel, by decide +kernel⟩
abbrev n_FoldedTable_tree : List PySem.Str := ["self"]
abbrev p_FoldedTable_tree : List PySem.Str := ["self"]
theorem c_FoldedTable_tree : FnScope n_FoldedTable_tree p_FoldedTable_tree (defScope s_FoldedTable_tree) := ⟨rfl, rfl, rfl, by decide +kernel, rfl, by decide +kernel, by decide +kernel⟩
abbrev n_Shape_init : List PySem.Str := ["self", "widths", "spans", "width"]
abbrev p_Shape_init : List PySem.Str := ["self", "widths"]
theorem c_Shape_init : FnScope n_Shape_init p_Shape_init (defScope s_Shape_init) := ⟨rfl, rfl, rfl, by decide +kernel, rfl, by decide +kernel, by decide +kernel⟩
abbrev n_Shape_span : List PySem.Str := ["self", "level"]
abbrev p_Shape_span : List PySem.Str := ["self", "level"]
theorem c_Shape_span : FnScope n_Shape_span p_Shape_span (defScope s_Shape_span) := ⟨rfl, rfl, rfl, by decide +kernel, rfl, by decide +kernel, by decide +kernel⟩
abbrev n_Shape_block_at : List PySem.Str := ["self", "level", "page", "span", "start"]
abbrev p_Shape_block_at : List PySem.Str := ["self", "level", "page"]
theorem c_Shape_block_at : FnScope n_Shape_block_at p_Shape_block_at (defScope s_Shape_block_at) := ⟨rfl, rfl, rfl, by decide +kernel, rfl, by decide +kernel, by decide +kernel⟩
abbrev n_level_of : List PySem.Str := ["shape", "start", "end", "level"]
abbrev p_level_of : List PySem.Str := ["shape", "start", "end"]
theorem c_level_of : FnScope n_level_of p_level_of (defScope s_level_of) := ⟨rfl, rfl, rfl, by decide +kernel, rfl, by decide +kernel, by decide +kernel⟩
abbrev n_largest_block : List PySem.Str := ["shape", "page", "end", "level", "block"]
abbrev p_largest_block : List PySem.Str := ["shape", "page", "end"]
theorem c_largest_block : FnScope n_largest_block p_largest_block (defScope s_largest_block) := ⟨rfl, rfl, rfl, by decide +kernel, rfl, by decide +kernel, by decide +kernel⟩
abbrev n_is_cover : List PySem.Str := ["shape", "blocks", "start", "end", "page", "first", "last", "level", "outer"]
abbrev p_is_cover : List PySem.Str := ["shape", "blocks", "start", "end"]
theorem c_is_cover : FnScope n_is_cover p_is_cover (defScope s_is_cover) := ⟨rfl, rfl, rfl, by decide +kernel, rfl, by decide +kernel, by decide +kernel⟩
abbrev n_cover : List PySem.Str := ["shape", "start", "end", "blocks", "page", "block"]
abbrev p_cover : List PySem.Str := ["shape", "start", "end"]
theorem c_cover : FnScope n_cover p_cover (defScope s_cover) := ⟨rfl, rfl, rfl, by decide +kernel, rfl, by decide +kernel, by decide +kernel⟩
abbrev n_law_number : List PySem.Str := ["_law_script", "_law_at", "_law_k", "_law_size", "_law_cell", "_law_turn", "_law_pick", "_law_rest", "_law_step", "_law_mixed"]
abbrev p_law_number : List PySem.Str := ["_law_script", "_law_at", "_law_k", "_law_size"]
theorem c_law_number : FnScope n_law_number p_law_number (defScope s_law_number) := ⟨rfl, rfl, rfl, by decide +kernel, rfl, by decide +kernel, by decide +kernel⟩
abbrev n_law_is_whole : List PySem.Str := ["_law_told"]
abbrev p_law_is_whole : List PySem.Str := ["_law_told"]
theorem c_law_is_whole : FnScope n_law_is_whole p_law_is_whole (defScope s_law_is_whole) := ⟨rfl, rfl, rfl, by decide +kernel, rfl, by decide +kernel, by decide +kernel⟩
abbrev n_law_same : List PySem.Str := ["_law_told", "_law_due", "_law_k"]
abbrev p_law_same : List PySem.Str := ["_law_told", "_law_due"]
theorem c_law_same : FnScope n_law_same p_law_same (defScope s_law_same) := ⟨rfl, rfl, rfl, by decide +kernel, rfl, by decide +kernel, by decide +kernel⟩
abbrev n_law_fan_spans : List PySem.Str := ["_law_fan_here", "_law_spans", "_law_level", "_law_span", "_law_one"]
abbrev p_law_fan_spans : List PySem.Str := ["_law_fan_here"]
theorem c_law_fan_spans : FnScope n_law_fan_spans p_law_fan_spans (defScope s_law_fan_spans) := ⟨rfl, rfl, rfl, by decide +kernel, rfl, by decide +kernel, by decide +kernel⟩
abbrev n_law_fan : List PySem.Str := ["_law_script", "_law_at", "_law_most", "_law_fan_here", "_law_total", "_law_k", "_law_width"]
abbrev p_law_fan : List PySem.Str := ["_law_script", "_law_at", "_law_most"]
theorem c_law_fan : FnScope n_law_fan p_law_fan (defScope s_law_fan) := ⟨rfl, rfl, rfl, by decide +kernel, rfl, by decide +kernel, by decide +kernel⟩
abbrev n_law_fold_fan : List PySem.Str := ["_law_script"]
abbrev p_law_fold_fan : List PySem.Str := ["_law_script"]
theorem c_law_fold_fan : FnScope n_law_fold_fan p_law_fold_fan (defScope s_law_fold_fan) := ⟨rfl, rfl, rfl, by decide +kernel, rfl, by decide +kernel, by decide +kernel⟩
abbrev n_law_fold_many : List PySem.Str := ["_law_script", "_law_total", "_law_many"]
abbrev p_law_fold_many : List PySem.Str := ["_law_script", "_law_total"]
theorem c_law_fold_many : FnScope n_law_fold_many p_law_fold_many (defScope s_law_fold_many) := ⟨rfl, rfl, rfl, by decide +kernel, rfl, by decide +kernel, by decide +kernel⟩
abbrev n_law_file_names : List PySem.Str := ["_law_script", "_law_letters", "_law_many", "_law_base", "_law_step", "_law_first", "_law_second", "_law_spot", "_law_third", "_law_names", "_law_one", "_law_k"]
abbrev p_law_file_names : List PySem.Str := ["_law_script"]
theorem c_law_file_names : FnScope n_law_file_names p_law_file_names (defScope s_law_file_names) := ⟨rfl, rfl, rfl, by decide +kernel, rfl, by decide +kernel, by decide +kernel⟩
abbrev n_law_fold_deed : List PySem.Str := ["_law_script", "_law_at", "_law_fan_here", "_law_names", "_law_spans", "_law_total", "_law_source", "_law_low", "_law_span", "_law_many", "_law_high", "_law_rights", "_law_name", "_law_number_here"]
abbrev p_law_fold_deed : List PySem.Str := ["_law_script", "_law_at", "_law_fan_here", "_law_names"]
theorem c_law_fold_deed : FnScope n_law_fold_deed p_law_fold_deed (defScope s_law_fold_deed) := ⟨rfl, rfl, rfl, by decide +kernel, rfl, by decide +kernel, by decide +kernel⟩
abbrev n_law_marks_do : List PySem.Str := ["_law_marks", "_law_deed", "_law_limit", "_law_low", "_law_high", "_law_page"]
abbrev p_law_marks_do : List PySem.Str := ["_law_marks", "_law_deed", "_law_limit"]
theorem c_law_marks_do : FnScope n_law_marks_do p_law_marks_do (defScope s_law_marks_do) := ⟨rfl, rfl, rfl, by decide +kernel, rfl, by decide +kernel, by decide +kernel⟩
abbrev n_law_marks_ask : List PySem.Str := ["_law_regions", "_law_deed", "e"]
abbrev p_law_marks_ask : List PySem.Str := ["_law_regions", "_law_deed"]
theorem c_law_marks_ask : FnScope n_law_marks_ask p_law_marks_ask (defScope s_law_marks_ask) := ⟨rfl, rfl, rfl, by decide +kernel, rfl, by decide +kernel, by decide +kernel⟩
abbrev n_law_fold_tell : List PySem.Str := ["_law_regions", "_law_shape", "_law_deed", "_law_blockwise", "_law_block", "_law_number_here"]
abbrev p_law_fold_tell : List PySem.Str := ["_law_regions", "_law_shape", "_law_deed", "_law_blockwise"]
theorem c_law_fold_tell : FnScope n_law_fold_tell p_law_fold_tell (defScope s_law_fold_tell) := ⟨rfl, rfl, rfl, by decide +kernel, rfl, by decide +kernel, by decide +kernel⟩
abbrev n_law_after : List PySem.Str := ["_law_mark"]
abbrev p_law_after : List PySem.Str := ["_law_mark"]
theorem c_law_after : FnScope n_law_after p_law_after (defScope s_law_after) := ⟨rfl, rfl, rfl, by decide +kernel, rfl, by decide +kernel, by decide +kernel⟩
abbrev n_law_uniform : List PySem.Str := ["_law_marks", "_law_low", "_law_high", "_law_page"]
abbrev p_law_uniform : List PySem.Str := ["_law_marks", "_law_low", "_law_high"]
theorem c_law_uniform : FnScope n_law_uniform p_law_uniform (defScope s_law_uniform) := ⟨rfl, rfl, rfl, by decide +kernel, rfl, by decide +kernel, by decide +kernel⟩
abbrev n_law_describes : List PySem.Str := ["_law_rows", "_law_marks", "_law_limit", "_law_found", "_law_edge", "_law_row", "_law_mark", "_law_page"]
abbrev p_law_describes : List PySem.Str := ["_law_rows", "_law_marks", "_law_limit"]
theorem c_law_describes : FnScope n_law_describes p_law_describes (defScope s_law_describes) := ⟨rfl, rfl, rfl, by decide +kernel, rfl, by decide +kernel, by decide +kernel⟩
abbrev n_law_is_block : List PySem.Str := ["_law_fan_here", "_law_low", "_law_high", "_law_span"]
abbrev p_law_is_block : List PySem.Str := ["_law_fan_here", "_law_low", "_law_high"]
theorem c_law_is_block : FnScope n_law_is_block p_law_is_block (defScope s_law_is_block) := ⟨rfl, rfl, rfl, by decide +kernel, rfl, by decide +kernel, by decide +kernel⟩
abbrev n_law_apart : List PySem.Str := ["_law_marks", "_law_fan_here", "_law_page", "_law_later", "_law_span", "_law_low"]
abbrev p_law_apart : List PySem.Str := ["_law_marks", "_law_fan_here", "_law_page", "_law_later"]
theorem c_law_apart : FnScope n_law_apart p_law_apart (defScope s_law_apart) := ⟨rfl, rfl, rfl, by decide +kernel, rfl, by decide +kernel, by decide +kernel⟩
abbrev n_law_entries_least : List PySem.Str := ["_law_told", "_law_marks", "_law_fan_here", "_law_total", "_law_row", "_law_k"]
abbrev p_law_entries_least : List PySem.Str := ["_law_told", "_law_marks", "_law_fan_here"]
theorem c_law_entries_least : FnScope n_law_entries_least p_law_entries_least (defScope s_law_entries_least) := ⟨rfl, rfl, rfl, by decide +kernel, rfl, by decide +kernel, by decide +kernel⟩
abbrev n_law_tables_at : List PySem.Str := ["_law_told", "_law_fan_here", "_law_level", "_law_first", "_law_span", "_law_found", "_law_k", "_law_inner"]
abbrev p_law_tables_at : List PySem.Str := ["_law_told", "_law_fan_here", "_law_level", "_law_first"]
theorem c_law_tables_at : FnScope n_law_tables_at p_law_tables_at (defScope s_law_tables_at) := ⟨rfl, rfl, rfl, by decide +kernel, rfl, by decide +kernel, by decide +kernel⟩
abbrev n_law_needed_tables : List PySem.Str := ["_law_marks", "_law_fan_here", "_law_spans", "_law_total", "_law_found", "_law_level", "_law_k", "_law_low", "_law_mapped", "_law_page"]
abbrev p_law_needed_tables : List PySem.Str := ["_law_marks", "_law_fan_here"]
theorem c_law_needed_tables : FnScope n_law_needed_tables p_law_needed_tables (defScope s_law_needed_tables) := ⟨rfl, rfl, rfl, by decide +kernel, rfl, by decide +kernel, by decide +kernel⟩
abbrev n_law_least_good : List PySem.Str := ["_law_table", "_law_marks", "_law_fan_here", "_law_found"]
abbrev p_law_least_good : List PySem.Str := ["_law_table", "_law_marks", "_law_fan_here"]
theorem c_law_least_good : FnScope n_law_least_good p_law_least_good (defScope s_law_least_good) := ⟨rfl, rfl, rfl, by decide +kernel, rfl, by decide +kernel, by decide +kernel⟩
abbrev n_law : List PySem.Str := ["_law_script", "_law_fan_here", "_law_total", "_law_names", "_law_shape", "_law_regions", "_law_marks", "_law_at", "_law_deed", "_law_due"]
abbrev p_law : List PySem.Str := ["_law_script"]
theorem c_law : FnScope n_law p_law (defScope s_law) := ⟨rfl, rfl, rfl, by decide +kernel, rfl, by decide +kernel, by decide +kernel⟩
end Lp
end
section
set_option Elab.async false
set_option linter.all false
set_option maxRecDepth 100000
set_option maxHeartbeats 2000000
/-! Lp.U: calls by name, the data. -/
namespace Lp
open PySem PySem.Spec PyProof.Rows L2

/-! ### defs that may be called -/
/-- a def of the module by its name, as the top leaves it -/
def Dfd (K : PySem.W.Frag) (mg : PySem.Str → Option Value) (x : PySem.Str) (st : Stmt) (ps : List PySem.Str) : Prop := ∃ f fd, L2.Fun K x x st f fd ∧ mg x = some (.ref f) ∧ Binds K fd ps []
/-- a method of the class at C -/
def Mfd (K : PySem.W.Frag) (C : Addr) (m q : PySem.Str) (st : Stmt) (ps : List PySem.Str) : Prop := ∃ f fd, L2.Fun K m q st f fd ∧ Cls K C ∧ Meth K C m f ∧ Binds K fd ps []
/-- a class's __init__ -/
def Ifd (K : PySem.W.Frag) (mg : PySem.Str → Option Value) (x : PySem.Str) (C : Addr) (q : PySem.Str) (st : Stmt) (ps : List PySem.Str) : Prop := ∃ f fd, L2.Fun K "__init__" q st f fd ∧ Mk K C f ∧ mg x = some (.ref C) ∧ Binds K fd ps []
section
variable (P : Program) (w : World) (K : PySem.W.Frag) (mg : PySem.Str → Option Value) (base : Heap)
def Cl (k : Nat) (x : PySem.Str) (sp : Sp) : Prop := ∃ f fd ps, FnOk P w K mg base L2.CX0 k f fd ps sp ∧ mg x = some (.ref f) ∧ PySem.W.keepIn K (.ref f) = true ∧ Binds K fd ps []
def Mt (k : Nat) (C : Addr) (m : PySem.Str) (sp : Sp) : Prop := ∃ f fd ps, FnOk P w K mg base L2.CX0 k f fd ps sp ∧ Cls K C ∧ Meth K C m f ∧ Binds K fd ps []
def Ma (k : Nat) (x : PySem.Str) (C : Addr) (sp : Sp) : Prop := ∃ f fd ps, FnOk P w K mg base L2.CX0 k f fd ps sp ∧ Mk K C f ∧ mg x = some (.ref C) ∧ Binds K fd ps []
def Cl2 (k : Nat) (x : PySem.Str) (sp : Sp) : Prop := ∃ f fd ps, FnOk2 P w K mg base k f fd ps sp ∧ mg x = some (.ref f) ∧ PySem.W.keepIn K (.ref f) = true ∧ Binds K fd ps []
def Mt2 (k : Nat) (C : Addr) (m : PySem.Str) (sp : Sp) : Prop := ∃ f fd ps, FnOk2 P w K mg base k f fd ps sp ∧ Cls K C ∧ Meth K C m f ∧ Binds K fd ps []
def Ma2 (k : Nat) (x : PySem.Str) (C : Addr) (sp : Sp) : Prop := ∃ f fd ps, FnOk2 P w K mg base k f fd ps sp ∧ Mk K C f ∧ mg x = some (.ref C) ∧ Binds K fd ps []
end
section
variable {P : Program} {w : World} {K : PySem.W.Frag} {mg : PySem.Str → Option Value} {base : Heap} {x m q : PySem.Str} {C : Addr} {st : Stmt} {N ps : List PySem.Str} {k : Nat} {sp : Sp}
abbrev Body (P : Program) (w : World) (K : PySem.W.Frag) (mg : PySem.Str → Option Value) (base : Heap) (N : List PySem.Str) (q : PySem.Str) (st : Stmt) (k : Nat) (sp : Sp) : Prop :=
  ∀ (f : Addr) (cdv : Value) (A : Around) (outer : List Env) (s : Shared) (H : Hp) (vs : List V) (Q : VK) (E : XK), Room k (A.deeper (envOfC q (defScope st) s.heap.objs.size f cdv)) → sp vs H Q E →
      ∃ t, PSs (cxOf L2.CX0 P w K mg base N q (defScope st) f cdv A outer s H E).nox (defBody st) t ∧ t { nx := fun _ H' => Q .non H', rt := Q } (L2.start N vs) H
abbrev Body2 (P : Program) (w : World) (K : PySem.W.Frag) (mg : PySem.Str → Option Value) (base : Heap) (N : List PySem.Str) (q : PySem.Str) (st : Stmt) (k : Nat) (sp : Sp) : Prop :=
  ∀ (f : Addr) (cdv : Value) (A : Around) (outer : List Env) (s : Shared) (H : Hp) (vs : List V) (Q : VK), Room k (A.deeper (envOfC q (defScope st) s.heap.objs.size f cdv)) → sp vs H Q L2.E0 →
      ∃ t, PSs2 (cxOf L2.CX0 P w K mg base N q (defScope st) f cdv A outer s H L2.E0).nox (defBody st) t ∧ t { nx := fun _ H' => Q .non H', rt := Q } (L2.start N vs) H
abbrev Len (ps : List PySem.Str) (sp : Sp) : Prop := ∀ vs H Q E, sp vs H Q E → vs.length = ps.length
theorem cl_of (D : Dfd K mg x st ps) (S : FnScope N ps (defScope st)) (len : Len ps sp) (b : Body P w K mg base N x st k sp) : Cl P w K mg base (k + 1) x sp :=
  let ⟨f, fd, F, hm, hb⟩ := D
  ⟨f, fd, ps, F.ok S len (b f), hm, F.kp, hb⟩
theorem mt_of (D : Mfd K C m q st ps) (S : FnScope N ps (defScope st)) (len : Len ps sp) (b : Body P w K mg base N q st k sp) : Mt P w K mg base (k + 1) C m sp :=
  let ⟨f, fd, F, hc, hm, hb⟩ := D
  ⟨f, fd, ps, F.ok S len (b f), hc, hm, hb⟩
theorem ma_of (D : Ifd K mg x C q st ps) (S : FnScope N ps (defScope st)) (len : Len ps sp) (b : Body P w K mg base N q st k sp) : Ma P w K mg base (k + 1) x C sp :=
  let ⟨f, fd, F, hc, hm, hb⟩ := D
  ⟨f, fd, ps, F.ok S len (b f), hc, hm, hb⟩
theorem cl2_of (D : Dfd K mg x st ps) (S : FnScope N ps (defScope st)) (len : Len ps sp) (b : Body2 P w K mg base N x st k sp) : Cl2 P w K mg base (k + 1) x sp :=
  let ⟨f, fd, F, hm, hb⟩ := D
  ⟨f, fd, ps, fun2_ok F S len (b f), hm, F.kp, hb⟩
theorem mt2_of (D : Mfd K C m q st ps) (S : FnScope N ps (defScope st)) (len : Len ps sp) (b : Body2 P w K mg base N q st k sp) : Mt2 P w K mg base (k + 1) C m sp :=
  let ⟨f, fd, F, hc, hm, hb⟩ := D
  ⟨f, fd, ps, fun2_ok F S len (b f), hc, hm, hb⟩
theorem ma2_of (D : Ifd K mg x C q st ps) (S : FnScope N ps (defScope st)) (len : Len ps sp) (b : Body2 P w K mg base N q st k sp) : Ma2 P w K mg base (k + 1) x C sp :=
  let ⟨f, fd, F, hc, hm, hb⟩ := D
  ⟨f, fd, ps, fun2_ok F S len (b f), hc, hm, hb⟩
theorem Cl.two (c : Cl P w K mg base k x sp) : Cl2 P w K mg base k x sp := let ⟨f, fd, ps, F, r⟩ := c; ⟨f, fd, ps, .of F, r⟩
theorem Mt.two (c : Mt P w K mg base k C m sp) : Mt2 P w K mg base k C m sp := let ⟨f, fd, ps, F, r⟩ := c; ⟨f, fd, ps, .of F, r⟩
end
section
variable {X : Cx} {k j : Nat} {C : Addr} {x m : PySem.Str} {sp : Sp} {p pos apos : Pos} {e o : Expr} {es : List Expr} {ta : TE} {t : TA}
theorem pc (c : Cl X.prog X.w X.K X.mg X.base k x sp) (hr : Room j X.A) (hk : k ≤ j) (hg : Gl X x) (ha : PA X (e :: es) t)
    (hdb : (x == ("__debug__" : PySem.Str)) = false := by decide) (he : starEach (e :: es) X.env = (false, eval e X.env) :: starEach es X.env := by rfl) (hpl : (backTo pos (starEach es X.env)).any (·.1) = false := by rfl) :
    PE X (.Call (.Name x p) (e :: es) [] pos) (tCall sp [] L2.E0 t) := by
  obtain ⟨f, fd, ps, F, hm, kp, b⟩ := c
  exact pe_call F (hr.mono hk) hg hm kp b .nil L2.pass0 ha hdb he hpl
theorem pc2 (c : Cl2 X.prog X.w X.K X.mg X.base k x sp) (hr : Room j X.A) (hk : k ≤ j) (hg : Gl X x) (ha : PA2 X (e :: es) t)
    (hdb : (x == ("__debug__" : PySem.Str)) = false := by decide) (he : starEach (e :: es) X.env = (false, eval e X.env) :: starEach es X.env := by rfl) (hpl : (backTo pos (starEach es X.env)).any (·.1) = false := by rfl) :
    PE2 X (.Call (.Name x p) (e :: es) [] pos) (tCall sp [] L2.E0 t) := by
  obtain ⟨f, fd, ps, F, hm, kp, b⟩ := c
  exact pe2_call (F.mono hk) hr hg hm kp b .nil ha hdb he hpl
theorem pm (c : Mt X.prog X.w X.K X.mg X.base k C m sp) {pl : Sem Bool} (hr : Room j X.A) (hk : k ≤ j) (he : PE X o ta) (ha : PA X (e :: es) t)
    (hst : starEach (e :: es) X.env = (false, eval e X.env) :: starEach es X.env := by rfl) (hpl : (backTo pos (starEach es X.env)).any (·.1) = false := by rfl)
    (ht : eval (.Call (.Attribute o m apos) (e :: es) [] pos) X.env = (do
      let ov ← eval o X.env
      standAt apos.atName
      let (f, first) ← holding [ov] (getMethod ov m pl)
      callWith pos f first (backTo pos (starEach (e :: es) X.env)) (backToKw pos (keywordEach [] X.env))) := by rfl) :
    PE X (.Call (.Attribute o m apos) (e :: es) [] pos) (tMeth C m sp [] L2.E0 ta t) := by
  obtain ⟨f, fd, ps, F, hc, hm, b⟩ := c
  exact pe_meth (pl := pl) he hc hm F (hr.mono hk) b .nil L2.pass0 ha hst hpl ht
theorem pm0 (c : Mt X.prog X.w X.K X.mg X.base k C m sp) {pl : Sem Bool} (hr : Room j X.A) (hk : k ≤ j) (he : PE X o ta)
    (ht : eval (.Call (.Attribute o m apos) [] [] pos) X.env = (do
      let ov ← eval o X.env
      standAt apos.atName
      let (f, first) ← holding [ov] (getMethod ov m pl)
      callWith pos f first (backTo pos (starEach [] X.env)) (backToKw pos (keywordEach [] X.env))) := by rfl) :
    PE X (.Call (.Attribute o m apos) [] [] pos) (tMeth C m sp [] L2.E0 ta tNil) := by
  obtain ⟨f, fd, ps, F, hc, hm, b⟩ := c
  exact pe_meth0 (pl := pl) he hc hm F (hr.mono hk) b .nil L2.pass0 ht
theorem pm20 (c : Mt2 X.prog X.w X.K X.mg X.base k C m sp) {pl : Sem Bool} (hr : Room j X.A) (hk : k ≤ j) (he : PE X o ta)
    (ht : eval (.Call (.Attribute o m apos) [] [] pos) X.env = (do
      let ov ← eval o X.env
      standAt apos.atName
      let (f, first) ← holding [ov] (getMethod ov m pl)
      callWith pos f first (backTo pos (starEach [] X.env)) (backToKw pos (keywordEach [] X.env))) := by rfl) :
    PE2 X (.Call (.Attribute o m apos) [] [] pos) (tMeth C m sp [] L2.E0 ta tNil) := by
  obtain ⟨f, fd, ps, F, hc, hm, b⟩ := c
  exact pe2_meth0 (pl := pl) he hc hm (F.mono hk) hr b .nil ht
theorem pmk (c : Ma X.prog X.w X.K X.mg X.base k x C sp) (hr : Room j X.A) (hk : k + 1 ≤ j) (hg : Gl X x) (ha : PA X (e :: es) t)
    (hdb : (x == ("__debug__" : PySem.Str)) = false := by decide) (he : starEach (e :: es) X.env = (false, eval e X.env) :: starEach es X.env := by rfl) (hpl : (backTo pos (starEach es X.env)).any (·.1) = false := by rfl) :
    PE X (.Call (.Name x p) (e :: es) [] pos) (tMake C sp [] L2.E0 t) := by
  obtain ⟨f, fd, ps, F, M, hm, b⟩ := c
  exact pe_make M F (hr.mono hk) hg hm b .nil L2.pass0 ha hdb he hpl
theorem pmk2 (c : Ma2 X.prog X.w X.K X.mg X.base k x C sp) (hr : Room j X.A) (hk : k + 1 ≤ j) (hg : Gl X x) (ha : PA2 X (e :: es) t)
    (hdb : (x == ("__debug__" : PySem.Str)) = false := by decide) (he : starEach (e :: es) X.env = (false, eval e X.env) :: starEach es X.env := by rfl) (hpl : (backTo pos (starEach es X.env)).any (·.1) = false := by rfl) :
    PE2 X (.Call (.Name x p) (e :: es) [] pos) (tMake C sp [] L2.E0 t) := by
  obtain ⟨f, fd, ps, F, M, hm, b⟩ := c
  exact pe2_make M F (hr.mono hk) hg hm b .nil ha hdb he hpl

/-! ### o.m(e, .., k = v, ..), every parameter given -/
variable {f : Addr} {fd : FuncData} {ps ks : List PySem.Str} {g : List Value → List Value → List Value} {gV : List V → List V → List V} {CX : CXT} {E : XK} {kws : List Keyword} {tk : TA}
def tMethK (C : Addr) (m : PySem.Str) (sp : Sp) (gV : List V → List V → List V) (E : XK) (ta : TE) (t tk : TA) : TE := fun σ H Q => ta σ H fun x H1 => ∃ a dx fs, x = .ref a ∧ H1 a = some (.ins C dx fs) ∧ fs.lookup m = none ∧
  t σ H1 fun vs H2 => tk σ H2 fun zs H3 => sp (gV (x :: vs) zs) H3 Q E
theorem pe_methK {pl : Sem Bool} (he : PE X o ta) (c : Cls X.K C) (hm : Meth X.K C m f) (F : FnOk X.prog X.w X.K X.mg X.base CX k f fd ps sp) (hr : Room k X.A) (hb : KBinds X.K fd ps ks g gV) (hx : Passes CX X E) (ha : PA X (e :: es) t) (hkw : PK X kws tk)
    (hall : (backToKw pos (keywordEach kws X.env)).all (·.1.isSome) = true := by rfl) (hks : (backToKw pos (keywordEach kws X.env)).filterMap (·.1) = ks := by rfl)
    (hst : starEach (e :: es) X.env = (false, eval e X.env) :: starEach es X.env := by rfl) (hpl : ((backTo pos (starEach (e :: es) X.env)).any (·.1) || (backToKw pos (keywordEach kws X.env)).any (·.1.isNone)) = false := by rfl)
    (ht : eval (.Call (.Attribute o m apos) (e :: es) kws pos) X.env = (do
      let ov ← eval o X.env
      standAt apos.atName
      let (f, first) ← holding [ov] (getMethod ov m pl)
      callWith pos f first (backTo pos (starEach (e :: es) X.env)) (backToKw pos (keywordEach kws X.env))) := by rfl) :
    PE X (.Call (.Attribute o m apos) (e :: es) kws pos) (tMethK C m sp gV E ta t tk) := by
  refine ⟨fun pins s σ H Q I h => ?_⟩
  refine PySem.W.methodCall_KW (pl := pl) (thn (he.run pins s σ H _ I h) fun u s1 ⟨x, H1, I1, rx, a, dx, fs, ex, ea, l, q⟩ => ?_) ht
  subst ex
  obtain rfl : u = Value.ref a := rx
  refine getmeth_ok I1 ea c hm l ?_
  refine PySem.W.callWith_KW (first := [.ref a]) (h₀ := X.base) I.ok.mod.kin hm.kp hall (thn (ha.run pos pins s1 σ H1 _ I1 q) fun us s2 ⟨vs, H2, I2, r, q2⟩ => ?_) hpl hst
  refine thn (hkw.run pos pins s2 σ H2 _ I2 q2) fun ws s3 ⟨zs, H3, I3, rz, q3⟩ => ⟨I3.kIn, ?_⟩
  rw [hks]
  exact run_fnk (us := .ref a :: us) (vs := .ref a :: vs) F hr hb hx I3 (.cons rfl r) rz q3
end
end Lp
end
section
set_option Elab.async false
set_option linter.all false
set_option maxRecDepth 100000
set_option maxHeartbeats 2000000
/-! Lp.D: marks, regions, lists of them; readings that give something of them. -/
namespace Lp
open PySem PySem.Spec PyProof.Rows L2 Evl

structure Mark where
  r : PySem.Str
  f : PySem.Str
  i : Int
deriving DecidableEq
structure Row where
  s : Int
  e : Int
  m : Mark
deriving DecidableEq
def mv (m : Mark) : List V := [.str m.r, .str m.f, .int m.i]
def rv (r : Row) : List V := [.int r.s, .int r.e, .str r.m.r, .str r.m.f, .int r.m.i]
def md (m : Mark) : PyData := .tuple [.str m.r, .str m.f, .int m.i]
def rd (r : Row) : PyData := .tuple [.int r.s, .int r.e, .str r.m.r, .str r.m.f, .int r.m.i]
/-- a tuple of these stands at v -/
def TpAt (xs : List V) (v : V) (H : Hp) : Prop := ∃ p, v = .ref p ∧ H p = some (.tup xs)
abbrev MkAt (m : Mark) : V → Hp → Prop := TpAt (mv m)
abbrev RwAt (r : Row) : V → Hp → Prop := TpAt (rv r)
theorem TpAt.ex {xs : List V} {v : V} {H H' : Hp} (e : Ex H H') (h : TpAt xs v H) : TpAt xs v H' := let ⟨p, h1, h2⟩ := h; ⟨p, h1, e _ _ h2⟩
inductive F2 {α : Type} (R : α → V → Prop) : List α → List V → Prop
  | nil : F2 R [] []
  | cons {a : α} {v : V} {as : List α} {vs : List V} : R a v → F2 R as vs → F2 R (a :: as) (v :: vs)
section
variable {α : Type} {R R' : α → V → Prop} {as bs : List α} {vs ws : List V}
theorem F2.imp (h : F2 R as vs) (i : ∀ a v, R a v → R' a v) : F2 R' as vs := by
  induction h with
  | nil => exact .nil
  | cons h _ ih => exact .cons (i _ _ h) ih
theorem F2.length (h : F2 R as vs) : as.length = vs.length := by
  induction h with
  | nil => rfl
  | cons _ _ ih => simp [ih]
theorem F2.append (h : F2 R as vs) (k : F2 R bs ws) : F2 R (as ++ bs) (vs ++ ws) := by
  induction h with
  | nil => exact k
  | cons h _ ih => exact .cons h ih
theorem F2.one {a : α} {v : V} (h : R a v) : F2 R [a] [v] := .cons h .nil
theorem F2.at (h : F2 R as vs) {i : Nat} {v : V} (e : vs[i]? = some v) : ∃ a, as[i]? = some a ∧ R a v := by
  induction h generalizing i with
  | nil => simp at e
  | cons h _ ih =>
    cases i with
    | zero => simp at e; subst e; exact ⟨_, rfl, h⟩
    | succ i => exact ih (by simpa using e)
theorem F2.at' (h : F2 R as vs) {i : Nat} {a : α} (e : as[i]? = some a) : ∃ v, vs[i]? = some v ∧ R a v := by
  induction h generalizing i with
  | nil => simp at e
  | cons h _ ih =>
    cases i with
    | zero => simp at e; subst e; exact ⟨_, rfl, h⟩
    | succ i => exact ih (by simpa using e)
theorem F2.take (h : F2 R as vs) (n : Nat) : F2 R (as.take n) (vs.take n) := by
  induction h generalizing n with
  | nil => cases n <;> exact .nil
  | cons h _ ih =>
    cases n with
    | zero => exact .nil
    | succ n => exact .cons h (ih n)
theorem F2.drop (h : F2 R as vs) (n : Nat) : F2 R (as.drop n) (vs.drop n) := by
  induction h generalizing n with
  | nil => cases n <;> exact .nil
  | cons h t ih =>
    cases n with
    | zero => exact .cons h t
    | succ n => exact ih n
theorem F2.dropLast (h : F2 R as vs) : F2 R as.dropLast vs.dropLast := by
  rw [List.dropLast_eq_take, List.dropLast_eq_take, h.length]
  exact h.take _
end
abbrev RwsOf (H : Hp) (rs : List Row) (vs : List V) : Prop := F2 (fun r v => RwAt r v H) rs vs
theorem RwsOf.ex {H H' : Hp} {rs : List Row} {vs : List V} (e : Ex H H') (h : RwsOf H rs vs) : RwsOf H' rs vs := h.imp fun _ _ x => x.ex e
/-- a list of regions at v -/
def LrAt (rs : List Row) (v : V) (H : Hp) : Prop := ∃ p vs, v = .ref p ∧ H p = some (.lst vs) ∧ RwsOf H rs vs
theorem LrAt.ex {rs : List Row} {v : V} {H H' : Hp} (e : Ex H H') (h : LrAt rs v H) : LrAt rs v H' := let ⟨p, vs, h1, h2, h3⟩ := h; ⟨p, vs, h1, e _ _ h2, h3.ex e⟩

/-! ### readings -/
/-- gives a value of which P holds, the heap grows -/
def EvP (te : TE) (σ : L2.St) (H : Hp) (P : V → Hp → Prop) : Prop := ∀ H1, Ex H H1 → ∀ Q : VK, (∀ v H2, Ex H1 H2 → P v H2 → Q v H2) → te σ H1 Q
/-- .. a new one -/
def EvN (te : TE) (σ : L2.St) (H : Hp) (P : Addr → Hp → Prop) : Prop := ∀ H1, Ex H H1 → ∀ Q : VK, (∀ p H2, H1 p = none → Ex H1 H2 → P p H2 → Q (.ref p) H2) → te σ H1 Q
section
variable {σ : L2.St} {H : Hp} {te ta tb : TE} {P P' : V → Hp → Prop} {v : V} {K : PySem.W.Frag} {D : Ends}
theorem evp (h : Ev te σ H v) : EvP te σ H (fun u _ => u = v) := fun H1 e Q q => h H1 e Q fun H2 e2 => q v H2 e2 rfl
theorem eup {xs : List V} (h : EvU te σ H xs) : EvP te σ H (TpAt xs) := fun H1 e Q q => h H1 e Q fun p H2 _ e2 hp => q (.ref p) H2 e2 ⟨p, rfl, hp⟩
theorem EvN.p {P : Addr → Hp → Prop} (h : EvN te σ H P) : EvP te σ H (fun u H => ∃ p, u = .ref p ∧ P p H) := fun H1 e Q q => h H1 e Q fun p H2 _ e2 hp => q (.ref p) H2 e2 ⟨p, rfl, hp⟩
theorem EvP.imp (h : EvP te σ H P) (i : ∀ v H, P v H → P' v H) : EvP te σ H P' := fun H1 e Q q => h H1 e Q fun v H2 e2 hp => q v H2 e2 (i _ _ hp)
theorem EvP.mono {H' : Hp} (e : Ex H H') (h : EvP te σ H P) : EvP te σ H' P := fun H1 a Q q => h H1 (e.trans a) Q q
theorem evp_var {i : Nat} (h : σ[i]? = some (some v)) (hp : ∀ H1, Ex H H1 → P v H1) : EvP (tVar i) σ H P := fun H1 e Q q => ⟨v, h, q v H1 (Ex.refl H1) (hp H1 e)⟩
theorem evt_var {i : Nat} {xs : List V} (h : σ[i]? = some (some v)) (hp : TpAt xs v H) : EvP (tVar i) σ H (TpAt xs) := evp_var h fun H1 e => hp.ex e
theorem evp_bind {r : V → Hp → VK → Prop} {f : TE} (h : EvP ta σ H P) (k : ∀ x H1, Ex H H1 → P x H1 → ∀ Q : VK, (∀ v H2, Ex H1 H2 → P' v H2 → Q v H2) → r x H1 Q) (e : f = fun σ H Q => ta σ H fun x H1 => r x H1 Q) : EvP f σ H P' := by
  subst e
  exact fun H1 e Q q => h H1 e _ fun x H2 e2 hp => k x H2 (e.trans e2) hp Q fun v H3 e3 hv => q v H3 (e2.trans e3) hv
/-- a op b -/
theorem evp_op {r : R2} {Pa Pb P : V → Hp → Prop} (ha : EvP ta σ H Pa) (hb : EvP tb σ H Pb) (hm : ∀ v H H', Ex H H' → Pa v H → Pa v H') (k : ∀ x y H1, Ex H H1 → Pa x H1 → Pb y H1 → ∀ Q : VK, (∀ v H2, Ex H1 H2 → P v H2 → Q v H2) → r x y H1 Q) : EvP (tOp r ta tb) σ H P :=
  fun H1 e Q q => ha H1 e _ fun x H2 e2 hx => hb H2 (e.trans e2) _ fun y H3 e3 hy => k x y H3 ((e.trans e2).trans e3) (hm _ _ _ e3 hx) hy Q fun v H4 e4 hv => q v H4 ((e2.trans e3).trans e4) hv
/-- t[lo:hi] -/
theorem evp_slT {tl th : TO} {xs : List V} {lo hi : Option Int} (h : EvP te σ H (TpAt xs)) (h1 : EvO tl σ H lo) (h2 : EvO th σ H hi) (hw : ¬ (HT.sIx xs.length 0 lo = 0 ∧ HT.sIx xs.length xs.length hi = xs.length)) : EvP (tSl (rSlT K) te tl th) σ H (TpAt (cutV xs lo hi)) := fun H1 e Q q =>
  h H1 e _ fun x H2 e2 ⟨p, hx, hp⟩ => h1 H2 (e.trans e2) _ fun H3 e3 => h2 H3 ((e.trans e2).trans e3) _ fun H4 e4 => ⟨p, xs, hx, st_of (e4 _ _ (e3 _ _ hp)), hw, fun t ht => q _ _ (((e2.trans e3).trans e4).trans (Ex.new ht)) ⟨t, rfl, upd_same⟩⟩
/-- t + u -/
theorem evp_cat {xs ys : List V} (ha : EvP ta σ H (TpAt xs)) (hb : EvP tb σ H (TpAt ys)) (hx : xs ≠ []) (hy : ys ≠ []) (hl : xs.length + ys.length ≤ 1000) : EvP (tOp (rCatT K) ta tb) σ H (TpAt (xs ++ ys)) :=
  evp_op ha hb (fun _ _ _ e h => h.ex e) fun x y H1 _ ⟨p, ex, hp⟩ ⟨q, ey, hq⟩ Q k => ⟨p, q, xs, ys, ex, ey, st_of hp, st_of hq, hx, sz_of (by omega), fun e => absurd e hy, fun _ t ht => k _ _ (Ex.new ht) ⟨t, rfl, upd_same⟩⟩
/-- t[i] -/
theorem ev_ixT {xs : List V} {i : Int} {z : V} (ha : EvP ta σ H (TpAt xs)) (hb : Ev tb σ H (.int i)) (hz : atI xs i = some z) : Ev (tOp (rIxT K) ta tb) σ H z := fun H1 e Q q =>
  ha H1 e _ fun x H2 e2 ⟨p, ex, hp⟩ => hb H2 (e.trans e2) _ fun H3 e3 => ⟨p, xs, i, z, ex, rfl, st_of (e3 _ _ hp), hz, q _ (e2.trans e3)⟩
/-- the same data at any depth -/
theorem et_eqD {Pa Pb : V → Hp → Prop} {d1 d2 : PyData} (ha : EvP ta σ H Pa) (hb : EvP tb σ H Pb) (hm : ∀ v H H', Ex H H' → Pa v H → Pa v H') (h1 : ∀ v H, Pa v H → Dp K H v d1) (h2 : ∀ v H, Pb v H → Dp K H v d2) (s1 : SeqAt.shaped d1 = true) (s2 : SeqAt.shaped d2 = true) :
    Ev (tOp (rEqD K) ta tb) σ H (.bl (PyData.eqv d1 d2)) := fun H1 e Q q =>
  ha H1 e _ fun x H2 e2 hx => hb H2 (e.trans e2) _ fun y H3 e3 hy => ⟨d1, d2, h1 _ _ (hm _ _ _ e3 hx), h2 _ _ hy, s1, s2, q _ (e2.trans e3)⟩
theorem et_neD {Pa Pb : V → Hp → Prop} {d1 d2 : PyData} (ha : EvP ta σ H Pa) (hb : EvP tb σ H Pb) (hm : ∀ v H H', Ex H H' → Pa v H → Pa v H') (h1 : ∀ v H, Pa v H → Dp K H v d1) (h2 : ∀ v H, Pb v H → Dp K H v d2) (s1 : SeqAt.shaped d1 = true) (s2 : SeqAt.shaped d2 = true) :
    Ev (tOp (rNeD K) ta tb) σ H (.bl (!PyData.eqv d1 d2)) := fun H1 e Q q =>
  ha H1 e _ fun x H2 e2 hx => hb H2 (e.trans e2) _ fun y H3 e3 hy => ⟨d1, d2, h1 _ _ (hm _ _ _ e3 hx), h2 _ _ hy, s1, s2, q _ (e2.trans e3)⟩
/-! arguments -/
/-- the values, each with what holds of it -/
def EvAP (ta : TA) (σ : L2.St) (H : Hp) (P : List V → Hp → Prop) : Prop := ∀ H1, Ex H H1 → ∀ Q : List V → Hp → Prop, (∀ vs H2, Ex H1 H2 → P vs H2 → Q vs H2) → ta σ H1 Q
theorem eap_nil : EvAP tNil σ H (fun vs _ => vs = []) := fun H1 _ Q q => q [] H1 (Ex.refl H1) rfl
theorem eap_cons {tr : TA} {P : V → Hp → Prop} {R : List V → Hp → Prop} (h : EvP te σ H P) (hr : EvAP tr σ H R) (hm : ∀ v H H', Ex H H' → P v H → P v H') : EvAP (tCons te tr) σ H (fun vs H => ∃ v ws, vs = v :: ws ∧ P v H ∧ R ws H) := fun H1 e Q q =>
  h H1 e _ fun v H2 e2 hv => hr H2 (e.trans e2) _ fun ws H3 e3 hw => q _ _ (e2.trans e3) ⟨v, ws, rfl, hm _ _ _ e3 hv, hw⟩
theorem eap {ta : TA} {vs : List V} (h : EvA ta σ H vs) : EvAP ta σ H (fun us _ => us = vs) := fun H1 e Q q => h H1 e Q fun H2 e2 => q vs H2 e2 rfl
/-- f(..) -/
theorem evp_call {sp : Sp} {E : XK} {ta : TA} {R : List V → Hp → Prop} {P : V → Hp → Prop} (h : EvAP ta σ H R) (k : ∀ vs H1, Ex H H1 → R vs H1 → ∀ Q : VK, (∀ v H2, Ex H1 H2 → P v H2 → Q v H2) → sp vs H1 Q E) : EvP (tCall sp [] E ta) σ H P := fun H1 e Q q =>
  h H1 e _ fun vs H2 e2 hv => by
    rw [List.append_nil]
    exact k vs H2 (e.trans e2) hv Q fun v H3 e3 hp => q v H3 (e2.trans e3) hp
theorem evn_call {sp : Sp} {E : XK} {ta : TA} {R : List V → Hp → Prop} {P : Addr → Hp → Prop} (h : EvAP ta σ H R) (k : ∀ vs H1, Ex H H1 → R vs H1 → ∀ Q : VK, (∀ p H2, H1 p = none → Ex H1 H2 → P p H2 → Q (.ref p) H2) → sp vs H1 Q E) : EvN (tCall sp [] E ta) σ H P := fun H1 e Q q =>
  h H1 e _ fun vs H2 e2 hv => by
    rw [List.append_nil]
    exact k vs H2 (e.trans e2) hv Q fun p H3 hp e3 h3 => q p H3 (fresh_back e2 hp) (e2.trans e3) h3
theorem ev_callV {sp : Sp} {E : XK} {ta : TA} {R : List V → Hp → Prop} (h : EvAP ta σ H R) (k : ∀ vs H1, Ex H H1 → R vs H1 → ∀ Q : VK, (∀ H2, Ex H1 H2 → Q v H2) → sp vs H1 Q E) : Ev (tCall sp [] E ta) σ H v := fun H1 e Q q =>
  h H1 e _ fun vs H2 e2 hv => by
    rw [List.append_nil]
    exact k vs H2 (e.trans e2) hv Q fun H3 e3 => q H3 (e2.trans e3)
/-! statements -/
theorem s_asgP {i : Nat} (h : EvP te σ H P) (k : ∀ v H1, Ex H H1 → P v H1 → D.nx (σ.set i (some v)) H1) : tAsg te (gName i) D σ H := h H (Ex.refl H) _ fun v H1 e hp => k v H1 e hp
theorem q_asgP {i : Nat} {tz : TS} (h : EvP te σ H P) (k : ∀ v H1, Ex H H1 → P v H1 → tz D (σ.set i (some v)) H1) : tSeq (tAsg te (gName i)) tz D σ H := s_asgP (D := { D with nx := tz D }) h k
theorem s_retP (h : EvP te σ H P) (k : ∀ v H1, Ex H H1 → P v H1 → D.rt v H1) : tRet te D σ H := h H (Ex.refl H) _ k
theorem s_retN {P : Addr → Hp → Prop} (h : EvN te σ H P) (k : ∀ p H1, H p = none → Ex H H1 → P p H1 → D.rt (.ref p) H1) : tRet te D σ H := h H (Ex.refl H) _ k
theorem s_appP {l : Addr} {xs : List V} (hl : H l = some (.lst xs)) (ha : Ev ta σ H (.ref l)) (h : EvP te σ H P) (hz : xs.length < 100000) (k : ∀ v H1, Ex H H1 → P v H1 → D.nx σ (upd H1 l (.lst (xs ++ [v])))) :
    tDrop (tBM K "list" rAppend ta (tCons te tNil)) D σ H := ha H (Ex.refl H) _ fun H1 e1 =>
  ⟨Or.inl ⟨rfl, xs, sq_of (e1 l _ hl)⟩, h H1 e1 _ fun v H2 e2 hv => ⟨l, xs, v, rfl, rfl, e2 l _ (e1 l _ hl), sz_lt hz, k v H2 (e1.trans e2) hv⟩⟩
theorem q_appP {l : Addr} {xs : List V} {tz : TS} (hl : H l = some (.lst xs)) (ha : Ev ta σ H (.ref l)) (h : EvP te σ H P) (hz : xs.length < 100000) (k : ∀ v H1, Ex H H1 → P v H1 → tz D σ (upd H1 l (.lst (xs ++ [v])))) :
    tSeq (tDrop (tBM K "list" rAppend ta (tCons te tNil))) tz D σ H := s_appP (D := { D with nx := tz D }) hl ha h hz k
theorem s_assert {tt : TT} {b : Bool} (h : EvT tt σ H b) (hb : b = true) (k : ∀ H1, Ex H H1 → D.nx σ H1) : tAssert tt D σ H := h H (Ex.refl H) _ fun H1 e => ⟨hb, k H1 e⟩
theorem q_assert {tt : TT} {tz : TS} {b : Bool} (h : EvT tt σ H b) (hb : b = true) (k : ∀ H1, Ex H H1 → tz D σ H1) : tSeq (tAssert tt) tz D σ H := s_assert (D := { D with nx := tz D }) h hb k
end
/-! ### chains of three -/
section
variable {X : Cx} {a b c d : Expr} {ta tb tc td : TE} {r r' r'' : R2} {op op' op'' : CmpOp} {pos : Pos} {σ : L2.St} {H : Hp}
def tChain3 (r r' r'' : R2) (ta tb tc td : TE) : TT := fun σ H Q => ta σ H fun x H1 => tb σ H1 fun y H2 => r x y H2 fun z H3 => ∃ k, z = .bl k ∧
  (if k = true then tc σ H3 fun w' H4 => r' y w' H4 fun z' H5 => ∃ k', z' = .bl k' ∧ (if k' = true then td σ H5 fun u' H6 => r'' w' u' H6 fun z2 H7 => ∃ k2, z2 = .bl k2 ∧ Q k2 H7 else Q false H5) else Q false H3)
theorem pt_chain3 (ho : OpR X (compareOp op) r) (ho' : OpR X (compareOp op') r') (ho'' : OpR X (compareOp op'') r'') (ha : PE X a ta) (hb : PE X b tb) (hc : PE X c tc) (hd : PE X d td)
    (hm : lastMarks [op, op', op''] [b, c, d] = false := by with_unfolding_all rfl) : PT X (.Compare a [op, op', op''] [b, c, d] pos) (tChain3 r r' r'' ta tb tc td) := by
  refine ⟨fun pins s σ H Q I h => ?_⟩
  refine isTrue_chain (thn (ha.run pins s σ H _ I h) fun v s1 ⟨x, H1, I1, r1, q1⟩ => test_link (thn (hb.run pins s1 σ H1 _ I1 q1) fun u s2 ⟨y, H2, I2, r2, q2⟩ =>
    thn (ho pins s2 σ H2 x y v u _ I2 r1 r2 q2) fun d s3 ⟨z, H3, I3, r3, k, e, q3⟩ => ?_)) hm
  subst e
  cases r3
  refine wpAny_truthy_bool ?_
  cases k with
  | false => exact ite_ff ⟨H3, I3, q3⟩
  | true =>
    refine ite_tt (test_link (thn (hc.run pins s3 σ H3 _ I3 q3) fun w' s4 ⟨z', H4, I4, r4, q4⟩ => thn (ho' pins s4 σ H4 y z' u w' _ I4 r2 r4 q4) fun d' s5 ⟨z2, H5, I5, r5, k2, e2, q5⟩ => ?_))
    subst e2
    cases r5
    refine wpAny_truthy_bool ?_
    cases k2 with
    | false => exact ite_ff ⟨H5, I5, q5⟩
    | true =>
      refine ite_tt (test_last (thn (hd.run pins s5 σ H5 _ I5 q5) fun w6 s6 ⟨z6, H6, I6, r6, q6⟩ => thn (ho'' pins s6 σ H6 z' z6 w' w6 _ I6 r4 r6 q6) fun d7 s7 ⟨z7, H7, I7, r7, k7, e7, q7⟩ => ?_))
      subst e7
      cases r7
      exact wpAny_truthy_bool ⟨H7, I7, q7⟩
theorem et_chain3 {f g h : Int → Int → Bool} {i j k l : Int} (ha : Ev ta σ H (.int i)) (hb : Ev tb σ H (.int j)) (hc : Ev tc σ H (.int k)) (hd : Ev td σ H (.int l)) :
    EvT (tChain3 (rI0 fun i j => .bl (f i j)) (rI0 fun i j => .bl (g i j)) (rI0 fun i j => .bl (h i j)) ta tb tc td) σ H (f i j && (g j k && h k l)) := fun H1 e Q q =>
  ha H1 e _ fun H2 e2 => hb H2 (e.trans e2) _ fun H3 e3 => ⟨i, j, rfl, rfl, f i j, rfl, by
    cases hf : f i j with
    | false =>
      rw [if_neg Bool.false_ne_true]
      have := q H3 (e2.trans e3)
      rw [hf] at this
      exact this
    | true =>
      rw [if_pos rfl]
      refine hc H3 ((e.trans e2).trans e3) _ fun H4 e4 => ⟨j, k, rfl, rfl, g j k, rfl, ?_⟩
      cases hg : g j k with
      | false =>
        rw [if_neg Bool.false_ne_true]
        have := q H4 ((e2.trans e3).trans e4)
        rw [hf, hg] at this
        exact this
      | true =>
        rw [if_pos rfl]
        refine hd H4 (((e.trans e2).trans e3).trans e4) _ fun H5 e5 => ⟨k, l, rfl, rfl, h k l, rfl, ?_⟩
        have := q H5 (((e2.trans e3).trans e4).trans e5)
        rw [hf, hg] at this
        exact this⟩
theorem et_chain2 {f g : Int → Int → Bool} {i j k : Int} (ha : Ev ta σ H (.int i)) (hb : Ev tb σ H (.int j)) (hc : Ev tc σ H (.int k)) :
    EvT (tTest (tChain (rI0 fun i j => .bl (f i j)) (rI0 fun i j => .bl (g i j)) ta tb tc)) σ H (f i j && g j k) := fun H1 e Q q =>
  ha H1 e _ fun H2 e2 => hb H2 (e.trans e2) _ fun H3 e3 => ⟨i, j, rfl, rfl, f i j, rfl, by
    cases hf : f i j with
    | false =>
      rw [if_neg Bool.false_ne_true]
      have := q H3 (e2.trans e3)
      rw [hf] at this
      exact ⟨false, rfl, this⟩
    | true =>
      rw [if_pos rfl]
      refine hc H3 ((e.trans e2).trans e3) _ fun H4 e4 => ⟨j, k, rfl, rfl, g j k, rfl, ?_⟩
      have := q H4 ((e2.trans e3).trans e4)
      rw [hf] at this
      exact this⟩
end
/-- a new object's place is apart from what stood -/
theorem Ex.at {H H' : Hp} {a : Addr} {o : HO} (e : Ex H H') (h : H a = some o) : H' a = some o := e a o h
end Lp
end
section
set_option Elab.async false
set_option linter.all false
set_option maxRecDepth 100000
set_option maxHeartbeats 2000000
/-! Lp.W1: marks, regions. -/
namespace Lp
open PySem PySem.Spec PyProof.Rows L2 Evl
section
variable {P : Program} {w : World} {K : PySem.W.Frag} {mg : PySem.Str → Option Value} {base : Heap}
def advM (m : Mark) (k : Int) : Mark := if m.f = ("" : PySem.Str) then m else { m with i := m.i + k }
def spAdvanced : Sp := fun vs H Q _ => ∃ v k m, vs = [v, .int k] ∧ MkAt m v H ∧ ∀ v' H', Ex H H' → MkAt (advM m k) v' H' → Q v' H'
theorem b_advanced : Body P w K mg base n_advanced "advanced" s_advanced 0 spAdvanced := by
  intro f cdv A outer s H vs Q E hr h
  obtain ⟨v, k, m, rfl, hm, kq⟩ := h
  obtain ⟨p, rfl, hp⟩ := id hm
  refine ⟨_, pss_cons (ps_asg (pv 0) (pg_tup rfl (pgs_cons (pg_name (i := 2) c_advanced.nd rfl (.inl rfl)) (pgs_cons (pg_name (i := 3) c_advanced.nd rfl (.inl rfl)) (pgs_cons (pg_name (i := 4) c_advanced.nd rfl (.inl rfl)) pgs_nil)))))
    (pss_cons (ps_if (pt_cmpR op_eq (pv 3) pe_str (nomark _)) (pss_one (ps_ret (pv 0))) pss_nil)
    (pss_one (ps_ret (pe_tup (pa_cons (pv 2) (pa_cons (pv 3) (pa_cons (pe_op op_add (pv 4) (pv 1)) pa_nil))))))), ?_⟩
  refine ⟨_, rfl, p, _, rfl, st_of hp, rfl, _, _, rfl, _, _, rfl, _, _, rfl, rfl, ?_⟩
  refine q_when (et_test (ev_op (ev_var rfl) ev_c (rv_eq rfl))) (fun hb H1 e => s_ret (ev_var rfl) fun H2 e2 => ?_) (fun hb H1 e => s_retP (eup (eu_tup (ea_cons (ev_var rfl) (ea_cons (ev_var rfl) (ea_cons (ev_op (ev_var rfl) (ev_var rfl) rv_I0) ea_nil))) (by show 3 ≤ 100000; decide))) fun v' H2 e2 h2 => ?_)
  · refine kq _ H2 (e.trans e2) ?_
    have hf : m.f = ("" : PySem.Str) := by simpa using hb
    rw [advM, if_pos hf]
    exact hm.ex (e.trans e2)
  · refine kq _ H2 (e.trans e2) ?_
    have hf : ¬ m.f = ("" : PySem.Str) := by simpa using hb
    rw [advM, if_neg hf]
    exact h2
def okM (m : Mark) : Prop := PyData.strOk m.r = true ∧ PyData.strOk m.f = true
theorem okM.adv {m : Mark} (h : okM m) (k : Int) : okM (advM m k) := by
  unfold advM
  split
  · exact h
  · exact ⟨h.1, h.2⟩
theorem dp_mk {v : V} {H : Hp} {m : Mark} (h : MkAt m v H) : Dp K H v (md m) := by
  obtain ⟨p, rfl, hp⟩ := h
  exact .tup (st_of hp) (.cons (.str _) (.cons (.str _) (.cons (.int _) .nil)))
theorem dp_rw {v : V} {H : Hp} {r : Row} (h : RwAt r v H) : Dp K H v (rd r) := by
  obtain ⟨p, rfl, hp⟩ := h
  exact .tup (st_of hp) (.cons (.int _) (.cons (.int _) (.cons (.str _) (.cons (.str _) (.cons (.int _) .nil)))))
theorem shaped_mk {m : Mark} (h : okM m) : SeqAt.shaped (md m) = true := by
  have e : PyData.depth (md m) ≤ 64 := by
    show PyData.depth (.tuple [.str m.r, .str m.f, .int m.i]) ≤ 64
    simp [PyData.depth, PyData.depthAll]
  have e2 : PyData.canLay0 (md m) = true := by simp [md, PyData.canLay0, PyData.canLayAll0, h.1, h.2]
  unfold SeqAt.shaped
  rw [e2, decide_eq_true e]
  rfl
theorem eqv_mk (a b : Mark) : PyData.eqv (md a) (md b) = decide (a = b) := by
  obtain ⟨r, f, i⟩ := a
  obtain ⟨r', f', i'⟩ := b
  simp only [md, PyData.eqv, PyData.eqvAll, Bool.and_true]
  rw [Bool.eq_iff_iff]
  simp [Mark.mk.injEq]
def spSuccessor : Sp := fun vs H Q _ => ∃ v m, vs = [v] ∧ MkAt m v H ∧ ∀ v' H', Ex H H' → MkAt (advM m 1) v' H' → Q v' H'
theorem ev_adv {ta tb : TE} {σ : L2.St} {H : Hp} {m : Mark} {k : Int} {E : XK} (ha : EvP ta σ H (MkAt m)) (hb : Ev tb σ H (.int k)) : EvP (tCall spAdvanced [] E (tCons ta (tCons tb tNil))) σ H (MkAt (advM m k)) :=
  evp_call (eap_cons ha (eap_cons (evp hb) eap_nil fun _ _ _ _ h => h) fun _ _ _ e h => h.ex e) fun vs H1 _ ⟨v, ws, e1, hv, u, us, e2, hu, e3⟩ Q q => ⟨v, k, m, by rw [e1, e2, e3, hu], hv, q⟩
theorem b_successor (cA : Cl P w K mg base 1 "advanced" spAdvanced) : Body P w K mg base n_successor "successor" s_successor 1 spSuccessor := by
  intro f cdv A outer s H vs Q E hr h
  obtain ⟨v, m, rfl, hm, kq⟩ := h
  obtain ⟨p, rfl, hp⟩ := id hm
  refine ⟨_, pss_one (ps_ret (pc cA hr (by decide) (by rfl) (pa_cons (pv 0) (pa_cons pe_int pa_nil)))), ?_⟩
  exact s_retP (ev_adv (evt_var rfl hm) ev_c) fun v' H1 e h => kq v' H1 e h
def spContinues : Sp := fun vs H Q _ => ∃ v u a b, vs = [v, u] ∧ MkAt a v H ∧ MkAt b u H ∧ okM a ∧ okM b ∧ RetV (.bl (decide (b = advM a 1))) H Q
theorem ev_succ {ta : TE} {σ : L2.St} {H : Hp} {m : Mark} {E : XK} (ha : EvP ta σ H (MkAt m)) : EvP (tCall spSuccessor [] E (tCons ta tNil)) σ H (MkAt (advM m 1)) :=
  evp_call (eap_cons ha eap_nil fun _ _ _ e h => h.ex e) fun vs H1 _ ⟨v, ws, e1, hv, e2⟩ Q q => ⟨v, m, by rw [e1, e2], hv, q⟩
theorem b_continues (cS : Cl P w K mg base 2 "successor" spSuccessor) : Body P w K mg base n_continues "continues" s_continues 2 spContinues := by
  intro f cdv A outer s H vs Q E hr h
  obtain ⟨v, u, a, b, rfl, ha, hb, oa, ob, kq⟩ := h
  refine ⟨_, pss_one (ps_ret (pe_cmpR (op_eqD hr.units) (pv 1) (pc cS hr (by decide) (by rfl) (pa_cons (pv 0) pa_nil)) (nomark _))), ?_⟩
  refine s_ret (et_eqD (evt_var rfl hb) (ev_succ (evt_var rfl ha)) (fun _ _ _ e h => h.ex e) (fun _ _ h => dp_mk h) (fun _ _ h => dp_mk h) (shaped_mk ob) (shaped_mk (oa.adv 1))) fun H1 e => ?_
  rw [eqv_mk]
  exact kq H1 e
def spCheck : Sp := fun vs H Q _ => ∃ a b l : Int, vs = [.int a, .int b, .int l] ∧ 0 ≤ a ∧ a < b ∧ b ≤ l ∧ RetV .non H Q
theorem b_check : Body P w K mg base n_check_range "check_range" s_check_range 0 spCheck := by
  intro f cdv A outer s H vs Q E hr h
  obtain ⟨a, b, l, rfl, h1, h2, h3, kq⟩ := h
  refine ⟨_, pss_one (ps_if (pt_not (pt_chain3 op_le op_lt op_le pe_int (pv 0) (pv 1) (pv 2))) pss_never pss_nil), ?_⟩
  refine s_when (et_not (et_chain3 ev_c (ev_var rfl) (ev_var rfl) (ev_var rfl))) (fun hb => ?_) fun _ H1 e => kq H1 e
  simp [h1, h2, h3] at hb
def spMarkIn : Sp := fun vs H Q _ => ∃ v p r, vs = [v, .int p] ∧ RwAt r v H ∧ ∀ v' H', Ex H H' → MkAt (advM r.m (p - r.s)) v' H' → Q v' H'
theorem cut2 (r : Row) : cutV (rv r) (some 2) none = mv r.m := rfl
theorem ev_sl2 {te : TE} {σ : L2.St} {H : Hp} {r : Row} (h : EvP te σ H (RwAt r)) : EvP (tSl (rSlT K) te (tPart (tC (.int 2))) tNoPart) σ H (MkAt r.m) := by
  have z := evp_slT (K := K) h (eo_some ev_c) eo_none (lo := some 2) (by show ¬ ((2 : Nat) = 0 ∧ _); intro q; exact absurd q.1 (by decide))
  rw [cut2] at z
  exact z
theorem b_mark_in (cA : Cl P w K mg base 1 "advanced" spAdvanced) : Body P w K mg base n_mark_in "mark_in" s_mark_in 1 spMarkIn := by
  intro f cdv A outer s H vs Q E hr h
  obtain ⟨v, p, r, rfl, hv, kq⟩ := h
  refine ⟨_, pss_one (ps_ret (pc cA hr (by decide) (by rfl) (pa_cons (pe_slice sl_tup (pv 0) (po_some pe_int) po_none) (pa_cons (pe_op op_sub (pv 1) (pe_ix ix_tup (pv 0) pe_int (fun _ _ => rfl))) pa_nil)))), ?_⟩
  exact s_retP (ev_adv (ev_sl2 (evt_var rfl hv)) (ev_op (ev_var rfl) (ev_ixT (evt_var rfl hv) ev_c rfl) rv_I0)) fun v' H1 e h => kq v' H1 e h
def mxI (i j : Int) : Int := if j > i then j else i
def mnI (i j : Int) : Int := if j < i then j else i
def clip1 (s e : Int) (r : Row) : Option Row := if mxI s r.s < mnI e r.e then some ⟨mxI s r.s, mnI e r.e, advM r.m (mxI s r.s - r.s)⟩ else none
def clipR (rs : List Row) (s e : Int) : List Row := rs.filterMap (clip1 s e)
theorem ev_min2 {ta tb : TE} {σ : L2.St} {H : Hp} {i j : Int} (ha : Ev ta σ H (.int i)) (hb : Ev tb σ H (.int j)) : Ev (tCB (fun xs H Q => ∃ i j, xs = [.int i, .int j] ∧ Q (.int (if j < i then j else i)) H) (tCons ta (tCons tb tNil))) σ H (.int (mnI i j)) := fun H1 e Q q =>
  ha H1 e _ fun H2 e2 => hb H2 (e.trans e2) _ fun H3 e3 => ⟨i, j, rfl, q H3 (e2.trans e3)⟩
theorem ev_mark_in {ta tb : TE} {σ : L2.St} {H : Hp} {r : Row} {k : Int} {E : XK} (ha : EvP ta σ H (RwAt r)) (hb : Ev tb σ H (.int k)) : EvP (tCall spMarkIn [] E (tCons ta (tCons tb tNil))) σ H (MkAt (advM r.m (k - r.s))) :=
  evp_call (eap_cons ha (eap_cons (evp hb) eap_nil fun _ _ _ _ h => h) fun _ _ _ e h => h.ex e) fun vs H1 _ ⟨v, ws, e1, hv, u, us, e2, hu, e3⟩ Q q => ⟨v, k, r, by rw [e1, e2, e3, hu], hv, q⟩
theorem take_next {α : Type} {xs : List α} {i : Nat} {x : α} (h : xs[i]? = some x) : xs.take (i + 1) = xs.take i ++ [x] := by
  rw [List.take_add_one, h]; rfl
def spClipped : Sp := fun vs H Q _ => ∃ (v : V) (rs : List Row) (a b : Int), vs = [v, .int a, .int b] ∧ LrAt rs v H ∧ rs.length ≤ 20000 ∧ ∀ p H', H p = none → Ex H H' → (∃ us, H' p = some (.lst us) ∧ RwsOf H' (clipR rs a b) us) → Q (.ref p) H'
theorem b_clipped (mx : mg "max" = none) (mn : mg "min" = none) (cM : Cl P w K mg base 2 "mark_in" spMarkIn) : Body P w K mg base n_clipped "clipped" s_clipped 2 spClipped := by
  intro f cdv A outer s H vs Q E hr h
  obtain ⟨v, rs, a, b, rfl, ⟨q, us, rfl, hq, hrs⟩, hz, kq⟩ := h
  refine ⟨_, pss_cons (ps_set (i := 3) c_clipped.nd rfl (.inl rfl) (pe_lst pa_nil))
    (pss_cons (ps_for PassesOwn.never rfl (pi_list (pv 0)) (pg_name (i := 4) c_clipped.nd rfl (.inl rfl))
      (pss_cons (ps_set (i := 5) c_clipped.nd rfl (.inl rfl) (pe_callB (call_max2 rfl) (by rfl) mx boot_max (pa_cons (pv 1) (pa_cons (pe_ix ix_tup (pv 4) pe_int (fun _ _ => rfl)) pa_nil))))
      (pss_cons (ps_set (i := 6) c_clipped.nd rfl (.inl rfl) (pe_callB (call_min2 rfl) (by rfl) mn boot_min (pa_cons (pv 2) (pa_cons (pe_ix ix_tup (pv 4) pe_int (fun _ _ => rfl)) pa_nil))))
      (pss_one (ps_if (pt_cmpR op_lt (pv 5) (pv 6) (nomark _)) (pss_one (ps_expr (pe_bm PySem.F.plainAttrs_list PySem.F.slot_list_append PySem.F.type_list_append mt_append (pv 3) (pa_cons (pe_op op_catT (pe_tup (pa_cons (pv 5) (pa_cons (pv 6) pa_nil))) (pc cM hr (by decide) (by rfl) (pa_cons (pv 4) (pa_cons (pv 5) pa_nil)))) pa_nil)))) pss_nil)))))
    (pss_one (ps_ret (pv 3)))), ?_⟩
  refine q_asgL (el_lst ea_nil (by decide)) fun l H1 hl e1 hl1 => ?_
  refine q_forL (ev_var rfl) (sq_of (e1 _ _ hq)) (fun i σ' H' => ∃ r1 r2 r3 ws, σ' = [some (.ref q), some (.int a), some (.int b), some (.ref l), r1, r2, r3] ∧ Ex H H' ∧ H' l = some (.lst ws) ∧ RwsOf H' (clipR (rs.take i) a b) ws) (fun H2 e2 => ⟨none, none, none, [], rfl, e1.trans e2, e2 _ _ hl1, .nil⟩) (fun i σ' H' _ ⟨_, _, _, _, _, e, _⟩ => sq_of (e _ _ hq)) (fun i x σ' H' hx ⟨r1, r2, r3, ws, eσ, e, hw, hws⟩ => ?_) fun σ' H' ⟨r1, r2, r3, ws, eσ, e, hw, hws⟩ => ?_
  · subst eσ
    obtain ⟨r, hri, hra⟩ := hrs.at hx
    have hlen : ws.length < 100000 := by
      have h1 := hws.length
      have h2 : (clipR (rs.take i) a b).length ≤ (rs.take i).length := List.length_filterMap_le _ _
      have h3 : (rs.take i).length ≤ rs.length := by rw [List.length_take]; omega
      omega
    have hx' : RwAt r x H' := hra.ex e
    refine q_asg (ev_max2 (ev_var rfl) (ev_ixT (evt_var rfl hx') ev_c rfl)) fun H2 e2 => ?_
    refine q_asg (ev_min2 (ev_var rfl) (ev_ixT (evt_var rfl (hx'.ex e2)) ev_c rfl)) fun H3 e3 => ?_
    have hx3 : RwAt r x H3 := (hx'.ex e2).ex e3
    have et : clipR (rs.take (i + 1)) a b = clipR (rs.take i) a b ++ (clip1 a b r).toList := by
      unfold clipR
      rw [take_next hri, List.filterMap_append]
      congr 1
    refine s_when (et_test (ev_op (ev_var rfl) (ev_var rfl) rv_I0)) (fun hb H4 e4 => ?_) (fun hb H4 e4 => ?_)
    · have hw4 : H4 l = some (.lst ws) := e4 _ _ (e3 _ _ (e2 _ _ hw))
      refine s_appP hw4 (ev_var rfl) (evp_cat (eup (eu_tup (ea_cons (ev_var rfl) (ea_cons (ev_var rfl) ea_nil)) (by show 2 ≤ 100000; decide))) (ev_mark_in (evt_var rfl (hx3.ex e4)) (ev_var rfl)) (by simp) (by simp [mv]) (by show 2 + 3 ≤ 1000; decide)) hlen fun v5 H5 e5 h5 => ?_
      have ec : clip1 a b r = some ⟨mxI a r.s, mnI b r.e, advM r.m (mxI a r.s - r.s)⟩ := by
        rw [clip1, if_pos (by simpa [mxI] using hb)]
      have eall : Ex H H5 := e.trans (e2.trans (e3.trans (e4.trans e5)))
      refine ⟨_, _, _, ws ++ [v5], rfl, Ex.mut eall hl, upd_same, ?_⟩
      rw [et, ec]
      have nl : ∀ {xs : List V} {u : V}, TpAt xs u H5 → TpAt xs u (upd H5 l (.lst (ws ++ [v5]))) := fun {xs u} ⟨p, h1, h2⟩ => ⟨p, h1, by
        rw [upd_ne (fun z => by rw [z, e5 _ _ hw4] at h2; cases h2)]; exact h2⟩
      refine (hws.imp fun r u h => nl ((((h.ex e2).ex e3).ex e4).ex e5)).append (F2.one (nl ?_))
      exact h5
    · refine ⟨_, _, _, ws, rfl, e.trans (e2.trans (e3.trans e4)), e4 _ _ (e3 _ _ (e2 _ _ hw)), ?_⟩
      have ec : clip1 a b r = none := by
        rw [clip1, if_neg (by simpa [mxI] using hb)]
      rw [et, ec]
      simp only [Option.toList, List.append_nil]
      exact ((hws.ex e2).ex e3).ex e4
  · subst eσ
    refine s_ret (ev_var rfl) fun H2 e2 => ?_
    have en : rs.take us.length = rs := by rw [← hrs.length]; exact List.take_length
    rw [en] at hws
    exact kq l H2 hl (e.trans e2) ⟨ws, e2 _ _ hw, hws.ex e2⟩
end
end Lp
end
section
set_option Elab.async false
set_option linter.all false
set_option maxRecDepth 100000
set_option maxHeartbeats 2000000
/-! Lp.W2: joined, are_regions. -/
namespace Lp
open PySem PySem.Spec PyProof.Rows L2 Evl
theorem TpAt.upd {xs ws : List V} {u : V} {H : Hp} {l : Addr} {o : HO} (h : TpAt xs u H) (hl : H l = some (.lst ws)) : TpAt xs u (upd H l o) := by
  obtain ⟨p, h1, h2⟩ := h
  exact ⟨p, h1, by rw [upd_ne (fun z => by rw [z, hl] at h2; cases h2)]; exact h2⟩
theorem RwsOf.upd {rs : List Row} {vs ws : List V} {H : Hp} {l : Addr} {o : HO} (h : RwsOf H rs vs) (hl : H l = some (.lst ws)) : RwsOf (upd H l o) rs vs := h.imp fun _ _ x => x.upd hl
def joinStep (acc : List Row) (r : Row) : List Row := match acc.getLast? with
  | some la => if la.e = r.s ∧ r.m = advM (advM la.m (la.e - 1 - la.s)) 1 then acc.dropLast ++ [⟨la.s, r.e, la.m⟩] else acc ++ [r]
  | none => acc ++ [r]
def joinR (rs : List Row) : List Row := rs.foldl joinStep []
theorem joinR_next (rs : List Row) (r : Row) : joinR (rs ++ [r]) = joinStep (joinR rs) r := by
  unfold joinR
  rw [List.foldl_append]
  rfl
theorem joinStep_len (acc : List Row) (r : Row) : (joinStep acc r).length ≤ acc.length + 1 := by
  unfold joinStep
  split
  · split
    · simp
    · simp
  · simp
theorem foldl_join_len (rs : List Row) (acc : List Row) : (rs.foldl joinStep acc).length ≤ acc.length + rs.length := by
  induction rs generalizing acc with
  | nil => simp
  | cons r rs ih =>
    have h1 := ih (joinStep acc r)
    have h2 := joinStep_len acc r
    simp only [List.foldl_cons, List.length_cons]
    omega
theorem joinR_len (rs : List Row) : (joinR rs).length ≤ rs.length := by
  have := foldl_join_len rs []
  simpa [joinR] using this
theorem joinStep_ok {acc : List Row} {r : Row} (h : ∀ q ∈ acc, okM q.m) (hr : okM r.m) : ∀ q ∈ joinStep acc r, okM q.m := by
  intro q hq
  unfold joinStep at hq
  split at hq
  · rename_i la hla
    have hm := List.mem_of_getLast? hla
    split at hq
    · rcases List.mem_append.mp hq with z | z
      · exact h q (List.dropLast_subset _ z)
      · rw [List.mem_singleton.mp z]
        exact h la hm
    · rcases List.mem_append.mp hq with z | z
      · exact h q z
      · rw [List.mem_singleton.mp z]; exact hr
  · rcases List.mem_append.mp hq with z | z
    · exact h q z
    · rw [List.mem_singleton.mp z]; exact hr
theorem joinR_ok {rs : List Row} (h : ∀ q ∈ rs, okM q.m) : ∀ q ∈ joinR rs, okM q.m := by
  have z : ∀ (rs acc : List Row), (∀ q ∈ rs, okM q.m) → (∀ q ∈ acc, okM q.m) → ∀ q ∈ rs.foldl joinStep acc, okM q.m := by
    intro rs
    induction rs with
    | nil => exact fun acc _ h => h
    | cons r rs ih => exact fun acc h1 h2 => ih _ (fun q hq => h1 q (List.mem_cons_of_mem _ hq)) (joinStep_ok h2 (h1 r List.mem_cons_self))
  exact z rs [] h fun q hq => by simp at hq
section
variable {P : Program} {w : World} {K : PySem.W.Frag} {mg : PySem.Str → Option Value} {base : Heap}
def spJoined : Sp := fun vs H Q _ => ∃ (v : V) (rs : List Row), vs = [v] ∧ LrAt rs v H ∧ rs.length ≤ 20000 ∧ (∀ r ∈ rs, okM r.m) ∧ ∀ p H', H p = none → Ex H H' → (∃ us, H' p = some (.lst us) ∧ RwsOf H' (joinR rs) us) → Q (.ref p) H'
theorem ev_cont {ta tb : TE} {σ : L2.St} {H : Hp} {a b : Mark} {E : XK} (ha : EvP ta σ H (MkAt a)) (hb : EvP tb σ H (MkAt b)) (oa : okM a) (ob : okM b) : Ev (tCall spContinues [] E (tCons ta (tCons tb tNil))) σ H (.bl (decide (b = advM a 1))) :=
  ev_callV (eap_cons ha (eap_cons hb eap_nil fun _ _ _ e h => h.ex e) fun _ _ _ e h => h.ex e) fun vs H1 _ ⟨v, ws, e1, hv, u, us, e2, hu, e3⟩ Q q => ⟨v, u, a, b, by rw [e1, e2, e3], hv, hu, oa, ob, q⟩
theorem b_joined (cM : Cl P w K mg base 2 "mark_in" spMarkIn) (cC : Cl P w K mg base 3 "continues" spContinues) : Body P w K mg base n_joined "joined" s_joined 3 spJoined := by
  intro f cdv A outer s H vs Q E hr h
  obtain ⟨v, rs, rfl, ⟨q, us, rfl, hq, hrs⟩, hz, ok, kq⟩ := h
  refine ⟨_, pss_cons (ps_set (i := 1) c_joined.nd rfl (.inl rfl) (pe_lst pa_nil))
    (pss_cons (ps_for PassesOwn.never rfl (pi_list (pv 0)) (pg_name (i := 2) c_joined.nd rfl (.inl rfl))
      (pss_cons (ps_if (pt_truth (pv 1) (by intro _; rfl))
        (pss_cons (ps_set (i := 3) c_joined.nd rfl (.inl rfl) (pe_ix ix_list (pv 1) (pe_un un_neg pe_int) (fun _ _ => rfl)))
        (pss_one (ps_if (PW.pt (pw_and (pt_cmpR op_eq (pe_ix ix_tup (pv 3) pe_int (fun _ _ => rfl)) (pe_ix ix_tup (pv 2) pe_int (fun _ _ => rfl)) (nomark _))
            (pw_and1 (pt_val (pc cC hr (by decide) (by rfl) (pa_cons (pc cM hr (by decide) (by rfl) (pa_cons (pv 3) (pa_cons (pe_op op_sub (pe_ix ix_tup (pv 3) pe_int (fun _ _ => rfl)) pe_int) pa_nil))) (pa_cons (pe_slice sl_tup (pv 2) (po_some pe_int) po_none) pa_nil)))))))
          (pss_cons (ps_set (i := 2) c_joined.nd rfl (.inl rfl) (pe_op op_catT (pe_tup (pa_cons (pe_ix ix_tup (pv 3) pe_int (fun _ _ => rfl)) (pa_cons (pe_ix ix_tup (pv 2) pe_int (fun _ _ => rfl)) pa_nil))) (pe_slice sl_tup (pv 3) (po_some pe_int) po_none)))
          (pss_one (ps_expr (pe_bm0 PySem.F.plainAttrs_list PySem.F.slot_list_pop PySem.F.type_list_pop mt_pop (pv 1)))))
          pss_nil))) pss_nil)
      (pss_one (ps_expr (pe_bm PySem.F.plainAttrs_list PySem.F.slot_list_append PySem.F.type_list_append mt_append (pv 1) (pa_cons (pv 2) pa_nil))))))
    (pss_one (ps_ret (pv 1)))), ?_⟩
  refine q_asgL (el_lst ea_nil (by decide)) fun l H1 hl e1 hl1 => ?_
  have nql : q ≠ l := ne_of_none hq hl
  refine q_forL (ev_var rfl) (sq_of (e1 _ _ hq)) (fun i σ' H' => ∃ r1 r2 ws, σ' = [some (.ref q), some (.ref l), r1, r2] ∧ Ex H H' ∧ H' l = some (.lst ws) ∧ RwsOf H' (joinR (rs.take i)) ws) (fun H2 e2 => ⟨none, none, [], rfl, e1.trans e2, e2 _ _ hl1, .nil⟩) (fun i σ' H' _ ⟨_, _, _, _, e, _⟩ => sq_of (e _ _ hq)) (fun i x σ' H' hx ⟨r1, r2, ws, eσ, e, hw, hws⟩ => ?_) fun σ' H' ⟨r1, r2, ws, eσ, e, hw, hws⟩ => ?_
  · subst eσ
    obtain ⟨r, hri, hra⟩ := hrs.at hx
    have hx' : RwAt r x H' := hra.ex e
    have okr : okM r.m := ok r (List.mem_of_getElem? hri)
    have okw : ∀ q ∈ joinR (rs.take i), okM q.m := joinR_ok fun q hq => ok q (List.mem_of_mem_take hq)
    have len1 : (joinR (rs.take i)).length ≤ 20000 := by
      have h2 := joinR_len (rs.take i)
      have h3 : (rs.take i).length ≤ rs.length := by rw [List.length_take]; omega
      omega
    have hlen : ws.length ≤ 20000 := by rw [← hws.length]; exact len1
    have fin : ∀ (x' : V) (r2' : Option V) (H3 : Hp) (ws' : List V) (rs' : List Row) (r' : Row), Ex H H3 → H3 l = some (.lst ws') → ws'.length ≤ 20000 → RwsOf H3 rs' ws' → RwAt r' x' H3 → rs' ++ [r'] = joinR (rs.take (i + 1)) →
        tDrop (tBM K "list" rAppend (tVar 1) (tCons (tVar 2) tNil)) { nx := fun σ' H' => ∃ r1 r2 ws, σ' = [some (.ref q), some (.ref l), r1, r2] ∧ Ex H H' ∧ H' l = some (.lst ws) ∧ RwsOf H' (joinR (rs.take (i + 1))) ws, rt := Q, ct := fun σ' H' => ∃ r1 r2 ws, σ' = [some (.ref q), some (.ref l), r1, r2] ∧ Ex H H' ∧ H' l = some (.lst ws) ∧ RwsOf H' (joinR (rs.take (i + 1))) ws, bk := (tRet (tVar 1)) { nx := fun _ H' => Q .non H', rt := Q } } [some (.ref q), some (.ref l), some x', r2'] H3 := by
      intro x' r2' H3 ws' rs' r' e3 hw3 hl3 hws3 hx3 ee
      refine s_app hw3 (ev_var rfl) (ev_var rfl) (by omega) fun H4 e4 => ?_
      refine ⟨_, _, ws' ++ [x'], rfl, Ex.mut (e3.trans e4) hl, upd_same, ?_⟩
      rw [← ee]
      exact RwsOf.upd ((hws3.ex e4).append (F2.one (hx3.ex e4))) (e4 _ _ hw3)
    have ej : joinR (rs.take (i + 1)) = joinStep (joinR (rs.take i)) r := by rw [take_next hri, joinR_next]
    -- if regions
    show tSeq _ _ _ _ _
    refine ⟨_, rfl, !ws.isEmpty, .inl ⟨ws, sq_of hw, rfl⟩, ?_⟩
    cases hla : (joinR (rs.take i)).getLast? with
    | none =>
      have ea : joinR (rs.take i) = [] := List.getLast?_eq_none_iff.mp hla
      have ew : ws = [] := by
        have h1 := hws.length
        rw [ea] at h1
        exact List.eq_nil_of_length_eq_zero h1.symm
      subst ew
      refine iteF ?_
      refine fin x r2 H' [] [] r e hw (by decide) .nil hx' ?_
      rw [ej, ea]
      rfl
    | some la =>
      obtain ⟨ac, ea⟩ := List.getLast?_eq_some_iff.mp hla
      have okl : okM la.m := okw la (by rw [ea]; simp)
      obtain ⟨ws0, vl, ew, hws0, hvl⟩ : ∃ ws0 vl, ws = ws0 ++ [vl] ∧ RwsOf H' ac ws0 ∧ RwAt la vl H' := by
        have hws' := hws
        rw [ea] at hws'
        have h1 := hws'.take ac.length
        have h2 := hws'.drop ac.length
        rw [List.take_left] at h1
        rw [List.drop_left] at h2
        cases h3 : ws.drop ac.length with
        | nil => rw [h3] at h2; cases h2
        | cons v r =>
          rw [h3] at h2
          cases h2 with
          | cons a b =>
            cases b
            exact ⟨ws.take ac.length, v, by rw [← h3, List.take_append_drop], h1, a⟩
      subst ew
      have ne : (!(ws0 ++ [vl]).isEmpty) = true := by simp
      rw [ne]
      refine iteT ?_
      refine q_asg (v := vl) (ev_op (ev_var rfl) (ev_un ev_c ru_neg) (rv_ixL (sq_of hw) (atI_last ws0 vl))) fun H2 e2 => ?_
      have hvl2 := hvl.ex e2
      have hx2 := hx'.ex e2
      refine s_when (et_and (et_test (ev_op (ev_ixT (evt_var rfl hvl2) ev_c rfl) (ev_ixT (evt_var rfl hx2) ev_c rfl) (rv_eq rfl))) (fun _ => et_B (ev_cont (ev_mark_in (evt_var rfl hvl2) (ev_op (ev_ixT (evt_var rfl hvl2) ev_c rfl) ev_c rv_I0)) (ev_sl2 (evt_var rfl hx2)) (okl.adv _) okr))) (fun hb H3 e3 => ?_) (fun hb H3 e3 => ?_)
      · refine q_asgP (P := RwAt ⟨la.s, r.e, la.m⟩) (evp_cat (eup (eu_tup (ea_cons (ev_ixT (evt_var rfl (hvl2.ex e3)) ev_c rfl) (ea_cons (ev_ixT (evt_var rfl (hx2.ex e3)) ev_c rfl) ea_nil)) (by show 2 ≤ 100000; decide))) (ev_sl2 (r := la) (evt_var rfl (hvl2.ex e3))) (by simp) (by simp [mv]) (by show 2 + 3 ≤ 1000; decide)) fun x4 H4 e4 h4 => ?_
        have hw4 : H4 l = some (.lst (ws0 ++ [vl])) := e4 _ _ (e3 _ _ (e2 _ _ hw))
        refine ⟨_, rfl, .inl ⟨rfl, _, sq_of hw4⟩, l, ws0 ++ [vl], vl, rfl, rfl, hw4, by simp, ?_⟩
        have ed : (ws0 ++ [vl]).dropLast = ws0 := by simp
        rw [ed]
        have hb' : la.e = r.s ∧ r.m = advM (advM la.m (la.e - 1 - la.s)) 1 := by
          simpa using hb
        refine fin x4 _ _ ws0 ac ⟨la.s, r.e, la.m⟩ (Ex.mut (e.trans (e2.trans (e3.trans e4))) hl) upd_same (by simp at hlen; omega) (RwsOf.upd (((hws0.ex e2).ex e3).ex e4) hw4) (h4.upd hw4) ?_
        rw [ej, joinStep, hla]
        simp only []
        rw [if_pos hb', ea]
        simp
      · have hb' : ¬ (la.e = r.s ∧ r.m = advM (advM la.m (la.e - 1 - la.s)) 1) := by
          simpa using hb
        refine fin x _ H3 (ws0 ++ [vl]) (joinR (rs.take i)) r (e.trans (e2.trans e3)) (e3 _ _ (e2 _ _ hw)) hlen ((hws.ex e2).ex e3) (hx2.ex e3) ?_
        rw [ej, joinStep, hla]
        simp only []
        rw [if_neg hb']
  · subst eσ
    refine s_ret (ev_var rfl) fun H2 e2 => ?_
    have en : rs.take us.length = rs := by rw [← hrs.length]; exact List.take_length
    rw [en] at hws
    exact kq l H2 hl (e.trans e2) ⟨ws, e2 _ _ hw, hws.ex e2⟩
end
end Lp
end
section
set_option Elab.async false
set_option linter.all false
set_option maxRecDepth 100000
set_option maxHeartbeats 2000000
/-! Lp.W3: are_regions; the class Regions. -/
namespace Lp
open PySem PySem.Spec PyProof.Rows L2 Evl
def AreOk (l : Int) : Int → Option Mark → List Row → Prop
  | _, _, [] => True
  | e, f, r :: rs => e ≤ r.s ∧ r.s < r.e ∧ r.e ≤ l ∧ ¬ (r.s = e ∧ f = some r.m) ∧ AreOk l r.e (some (advM r.m (r.e - r.s))) rs
def FlAt : Option Mark → V → Hp → Prop
  | none, v, _ => v = .non
  | some m, v, H => MkAt m v H
def fdd : Option Mark → PyData
  | none => .none
  | some m => md m
theorem FlAt.ex {f : Option Mark} {v : V} {H H' : Hp} (e : Ex H H') (h : FlAt f v H) : FlAt f v H' := by
  cases f with
  | none => exact h
  | some m => exact TpAt.ex e h
section
variable {P : Program} {w : World} {K : PySem.W.Frag} {mg : PySem.Str → Option Value} {base : Heap}
theorem dp_fl {f : Option Mark} {v : V} {H : Hp} (h : FlAt f v H) : Dp K H v (fdd f) := by
  cases f with
  | none => have e : v = .non := h; subst e; exact .non
  | some m => exact dp_mk h
theorem shaped_fl {f : Option Mark} (h : ∀ m, f = some m → okM m) : SeqAt.shaped (fdd f) = true := by
  cases f with
  | none => rfl
  | some m => exact shaped_mk (h m rfl)
theorem eqv_fl (a : Mark) (f : Option Mark) : PyData.eqv (md a) (fdd f) = decide (f = some a) := by
  cases f with
  | none => simp [md, fdd, PyData.eqv]
  | some m =>
    rw [show fdd (some m) = md m from rfl, eqv_mk]
    simp [eq_comm]
def spAre : Sp := fun vs H Q _ => ∃ (v : V) (rs : List Row) (l : Int), vs = [v, .int l] ∧ LrAt rs v H ∧ (∀ r ∈ rs, okM r.m) ∧ AreOk l 0 none rs ∧ RetV (.bl true) H Q
theorem b_are (cA : Cl P w K mg base 1 "advanced" spAdvanced) : Body P w K mg base n_are_regions "are_regions" s_are_regions 1 spAre := by
  intro f cdv A outer s H vs Q E hr h
  obtain ⟨v, rs, lim, rfl, ⟨q, us, rfl, hq, hrs⟩, ok, are, kq⟩ := h
  refine ⟨_, pss_cons (ps_set (i := 2) c_are_regions.nd rfl (.inl rfl) pe_int) (pss_cons (ps_set (i := 3) c_are_regions.nd rfl (.inl rfl) pe_non)
    (pss_cons (ps_for PassesOwn.never rfl (pi_list (pv 0)) (pg_name (i := 4) c_are_regions.nd rfl (.inl rfl))
      (pss_cons (ps_if (pt_not (pt_chain3 op_le op_lt op_le (pv 2) (pe_ix ix_tup (pv 4) pe_int (fun _ _ => rfl)) (pe_ix ix_tup (pv 4) pe_int (fun _ _ => rfl)) (pv 1))) (pss_one (ps_ret pe_bl)) pss_nil)
      (pss_cons (ps_if (PW.pt (pw_and (pt_cmpR op_eq (pe_ix ix_tup (pv 4) pe_int (fun _ _ => rfl)) (pv 2) (nomark _)) (pw_and1 (pt_cmpR (op_eqD hr.units) (pe_slice sl_tup (pv 4) (po_some pe_int) po_none) (pv 3) (nomark _))))) (pss_one (ps_ret pe_bl)) pss_nil)
      (pss_cons (ps_set (i := 2) c_are_regions.nd rfl (.inl rfl) (pe_ix ix_tup (pv 4) pe_int (fun _ _ => rfl)))
      (pss_one (ps_set (i := 3) c_are_regions.nd rfl (.inl rfl) (pc cA hr (by decide) (by rfl) (pa_cons (pe_slice sl_tup (pv 4) (po_some pe_int) po_none) (pa_cons (pe_op op_sub (pe_ix ix_tup (pv 4) pe_int (fun _ _ => rfl)) (pe_ix ix_tup (pv 4) pe_int (fun _ _ => rfl))) pa_nil)))))))))
    (pss_one (ps_ret pe_bl)))), ?_⟩
  refine q_asg ev_c fun H1 e1 => q_asg ev_c fun H2 e2 => ?_
  refine q_forL (ev_var rfl) (sq_of (e2 _ _ (e1 _ _ hq))) (fun i σ' H' => ∃ (e : Int) (f : Option Mark) (fv : V) (r1 : Option V), σ' = [some (.ref q), some (.int lim), some (.int e), some fv, r1] ∧ Ex H H' ∧ FlAt f fv H' ∧ (∀ m, f = some m → okM m) ∧ AreOk lim e f (rs.drop i)) (fun H3 e3 => ⟨0, none, .non, none, rfl, (e1.trans e2).trans e3, rfl, (fun m z => by cases z), are⟩) (fun i σ' H' _ ⟨_, _, _, _, _, e, _⟩ => sq_of (e _ _ hq)) (fun i x σ' H' hx ⟨e, f, fv, r1, eσ, ex, hf, okf, are⟩ => ?_) fun σ' H' ⟨e, f, fv, r1, eσ, ex, _⟩ => ?_
  · subst eσ
    obtain ⟨r, hri, hra⟩ := hrs.at hx
    have hx' : RwAt r x H' := hra.ex ex
    have okr : okM r.m := ok r (List.mem_of_getElem? hri)
    have ed : rs.drop i = r :: rs.drop (i + 1) := by
      rw [List.drop_eq_getElem_cons (List.getElem?_eq_some_iff.mp hri).1]
      congr 1
      exact (List.getElem?_eq_some_iff.mp hri).2
    rw [ed] at are
    obtain ⟨a1, a2, a3, a4, a5⟩ := are
    refine q_when (et_not (et_chain3 (ev_var rfl) (ev_ixT (evt_var rfl hx') ev_c rfl) (ev_ixT (evt_var rfl hx') ev_c rfl) (ev_var rfl))) (fun hb => ?_) (fun _ H3 e3 => ?_)
    · simp [a1, a2, a3] at hb
    have hx3 := hx'.ex e3
    refine q_when (b := decide (V.int r.s = V.int e) && decide (f = some r.m)) (et_and (et_test (ev_op (ev_ixT (evt_var rfl hx3) ev_c rfl) (ev_var rfl) (rv_eq rfl))) (fun _ => et_test ?_)) (fun hb => ?_) (fun _ H4 e4 => ?_)
    · rw [← eqv_fl]
      exact et_eqD (ev_sl2 (evt_var rfl hx3)) (evp_var (P := FlAt f) rfl fun H1 e1 => (hf.ex e3).ex e1) (fun _ _ _ e h => h.ex e) (fun _ _ h => dp_mk h) (fun _ _ h => dp_fl h) (shaped_mk okr) (shaped_fl okf)
    · have hb' : r.s = e ∧ f = some r.m := by simpa using hb
      exact absurd hb' a4
    have hx4 := hx3.ex e4
    refine q_asg (ev_ixT (evt_var rfl hx4) ev_c rfl) fun H5 e5 => ?_
    have hx5 := hx4.ex e5
    refine s_asgP (ev_adv (ev_sl2 (evt_var rfl hx5)) (ev_op (ev_ixT (evt_var rfl hx5) ev_c rfl) (ev_ixT (evt_var rfl hx5) ev_c rfl) rv_I0)) fun v6 H6 e6 h6 => ?_
    exact ⟨r.e, some (advM r.m (r.e - r.s)), v6, _, rfl, ex.trans (e3.trans (e4.trans (e5.trans e6))), h6, (fun m z => by cases z; exact okr.adv _), a5⟩
  · subst eσ
    exact s_ret ev_c fun H3 e3 => kq H3 (ex.trans e3)
/-! ### the class Regions -/
theorem nlr : ¬ (("limit" : PySem.Str) = "rows") := by decide +kernel
theorem nrl : ¬ (("rows" : PySem.Str) = "limit") := by decide +kernel
def FR (n : Int) (a : Addr) : List (PySem.Str × V) := putF "rows" (V.ref a) (putF "limit" (V.int n) [])
theorem fr_eq (n : Int) (a : Addr) : FR n a = ([("limit", V.int n), ("rows", V.ref a)] : List (PySem.Str × V)) := by
  show (if ("limit" : PySem.Str) = "rows" then [(("limit" : PySem.Str), V.ref a)] else (("limit" : PySem.Str), V.int n) :: putF "rows" (V.ref a) []) = _
  rw [if_neg nlr]
  rfl
theorem fr_rows (n : Int) (a : Addr) : (FR n a).lookup ("rows" : PySem.Str) = some (V.ref a) := by
  unfold FR
  rw [lookup_putF, if_pos rfl]
theorem fr_limit (n : Int) (a : Addr) : (FR n a).lookup ("limit" : PySem.Str) = some (V.int n) := by
  unfold FR
  rw [lookup_putF, if_neg nlr, lookup_putF, if_pos rfl]
theorem fr_no (n : Int) (a : Addr) {m : PySem.Str} (h1 : ¬ m = "limit") (h2 : ¬ m = "rows") : (FR n a).lookup m = none := by
  unfold FR
  rw [lookup_putF, if_neg h2, lookup_putF, if_neg h1]
  rfl
theorem fr_put (n : Int) (a b : Addr) : putF "rows" (V.ref b) (FR n a) = FR n b := by
  rw [fr_eq, fr_eq]
  show (if ("limit" : PySem.Str) = "rows" then _ else (("limit" : PySem.Str), V.int n) :: (if ("rows" : PySem.Str) = "rows" then [(("rows" : PySem.Str), V.ref b)] else _)) = _
  rw [if_neg nlr, if_pos rfl]
/-- a Regions object at p: n pages, these regions -/
def RgAt (C : Addr) (H : Hp) (p : Addr) (n : Int) (rs : List Row) : Prop := ∃ dx a us, H p = some (.ins C dx (FR n a)) ∧ H a = some (.lst us) ∧ RwsOf H rs us
/-- all but p stands as it was -/
def ExP (p : Addr) (H H' : Hp) : Prop := ∀ b o, H b = some o → b ≠ p → H' b = some o
theorem exp_of {H H' : Hp} {p : Addr} (e : Ex H H') : ExP p H H' := fun b o h _ => e b o h
theorem ExP.trans {H H' H2 : Hp} {p : Addr} (a : ExP p H H') (b : ExP p H' H2) : ExP p H H2 := fun c o h n => b c o (a c o h n) n
theorem RgAt.ex {C : Addr} {H H' : Hp} {p : Addr} {n : Int} {rs : List Row} (e : Ex H H') (h : RgAt C H p n rs) : RgAt C H' p n rs := let ⟨dx, a, us, h1, h2, h3⟩ := h; ⟨dx, a, us, e _ _ h1, e _ _ h2, h3.ex e⟩
structure TR (K : PySem.W.Frag) (C : Addr) : Prop where
  cl : Cls K C
  nL : NoAttr K C "limit"
  nR : NoAttr K C "rows"
def spRInit (C : Addr) : Sp := fun vs H Q _ => ∃ (p dx : Addr) (n : Int), vs = [.ref p, .int n] ∧ H p = some (.ins C dx []) ∧ ∀ H', ExP p H H' → RgAt C H' p n [] → Q .non H'
theorem b_rinit {C : Addr} (T : TR K C) : Body P w K mg base n_Regions_init "Regions.__init__" s_Regions_init 0 (spRInit C) := by
  intro f cdv A outer s H vs Q E hr h
  obtain ⟨p, dx, n, rfl, hp, kq⟩ := h
  refine ⟨_, (pss_cons (ps_fld (pv 0) (pv 1) rfl) (pss_one (ps_fld (pv 0) (pe_lst pa_nil) rfl))), ?_⟩
  refine ⟨_, rfl, _, rfl, p, C, dx, [], rfl, hp, T.cl, T.nL, (by show 0 < 1000; decide), ?_⟩
  refine ⟨(by show 0 ≤ sizeLine; decide), fun l hl => ?_⟩
  have npl : p ≠ l := by
    intro e
    rw [← e, upd_same] at hl
    cases hl
  have hl' : H l = none := by
    rw [upd_ne npl.symm] at hl
    exact hl
  refine ⟨_, rfl, p, C, dx, putF "limit" (V.int n) [], rfl, (by rw [upd_ne npl]; exact upd_same), T.cl, T.nR, (by show 1 < 1000; decide), ?_⟩
  refine kq _ (fun b o hb hn => ?_) ⟨dx, l, [], upd_same, by rw [upd_ne npl.symm]; exact upd_same, .nil⟩
  rw [upd_ne hn, upd_ne (ne_of_none hb hl'), upd_ne hn]
  exact hb
theorem ev_rows {C p : Addr} {n : Int} {rs : List Row} {te : TE} {σ : L2.St} {H : Hp} (T : TR K C) (h : RgAt C H p n rs) (hv : Ev te σ H (.ref p)) : EvP (tFld K te "rows") σ H (LrAt rs) := fun H1 e Q q =>
  hv H1 e _ fun H2 e2 => let ⟨dx, a, us, h1, h2, h3⟩ := (h.ex e).ex e2; ⟨p, C, dx, FR n a, V.ref a, rfl, h1, T.cl, T.nR, fr_rows n a, q _ _ e2 ⟨a, us, rfl, h2, h3⟩⟩
theorem ev_limit {C p : Addr} {n : Int} {rs : List Row} {te : TE} {σ : L2.St} {H : Hp} (T : TR K C) (h : RgAt C H p n rs) (hv : Ev te σ H (.ref p)) : Ev (tFld K te "limit") σ H (.int n) := fun H1 e Q q =>
  hv H1 e _ fun H2 e2 => let ⟨dx, a, us, h1, h2, h3⟩ := (h.ex e).ex e2; ⟨p, C, dx, FR n a, V.int n, rfl, h1, T.cl, T.nL, fr_limit n a, q _ e2⟩
def spAsList (C : Addr) : Sp := fun vs H Q _ => ∃ (p : Addr) (n : Int) (rs : List Row), vs = [.ref p] ∧ RgAt C H p n rs ∧ ∀ l H', H l = none → Ex H H' → (∃ us, H' l = some (.lst us) ∧ RwsOf H' rs us) → Q (.ref l) H'
theorem b_as_list {C : Addr} (T : TR K C) (m_list : mg "list" = none) : Body P w K mg base n_Regions_as_list "Regions.as_list" s_Regions_as_list 0 (spAsList C) := by
  intro f cdv A outer s H vs Q E hr h
  obtain ⟨p, n, rs, rfl, hR, kq⟩ := h
  refine ⟨_, (pss_one (ps_ret (pe_callTy call_list_of (by rfl) m_list boot_list (pa_cons (pe_fld (pv 0) rfl) pa_nil)))), ?_⟩
  refine ev_rows T hR (ev_var rfl) H (Ex.refl H) _ fun v H1 e1 ⟨a, us, ev, ha, hus⟩ => ?_
  subst ev
  refine ⟨a, us, rfl, .inl (sq_of ha), fun l hl => ?_⟩
  have hl' := fresh_back e1 hl
  exact kq l _ hl' (e1.trans (Ex.new hl)) ⟨us, upd_same, hus.ex (Ex.new hl)⟩
/-- what put_parts makes of them -/
def putR (rs ps : List Row) (a b n : Int) : List Row := joinR (clipR rs 0 a ++ ps ++ clipR rs b n)
def spPut (C : Addr) : Sp := fun vs H Q _ => ∃ (p : Addr) (n a b : Int) (v : V) (rs ps : List Row), vs = [.ref p, .int a, .int b, v] ∧ RgAt C H p n rs ∧ LrAt ps v H ∧ rs.length ≤ 5000 ∧ ps.length ≤ 5000 ∧ (∀ r ∈ rs, okM r.m) ∧ (∀ r ∈ ps, okM r.m) ∧
  AreOk n 0 none (putR rs ps a b n) ∧ ∀ H', ExP p H H' → RgAt C H' p n (putR rs ps a b n) → Q .non H'
theorem clipR_ok {rs : List Row} {a b : Int} (h : ∀ r ∈ rs, okM r.m) : ∀ r ∈ clipR rs a b, okM r.m := by
  intro r hr
  obtain ⟨q, hq, e⟩ := List.mem_filterMap.mp hr
  unfold clip1 at e
  split at e
  · cases e
    exact (h q hq).adv _
  · cases e
theorem clipR_len (rs : List Row) (a b : Int) : (clipR rs a b).length ≤ rs.length := List.length_filterMap_le _ _
theorem en_clip {ta tb tc : TE} {σ : L2.St} {H : Hp} {rs : List Row} {a b : Int} {E : XK} (ha : EvP ta σ H (LrAt rs)) (hz : rs.length ≤ 20000) (hb : Ev tb σ H (.int a)) (hc : Ev tc σ H (.int b)) : EvN (tCall spClipped [] E (tCons ta (tCons tb (tCons tc tNil)))) σ H (fun p H' => ∃ us, H' p = some (.lst us) ∧ RwsOf H' (clipR rs a b) us) :=
  evn_call (eap_cons ha (eap_cons (evp hb) (eap_cons (evp hc) eap_nil fun _ _ _ _ h => h) fun _ _ _ _ h => h) fun _ _ _ e h => h.ex e) fun vs H1 _ ⟨v, ws, e1, hv, u, us, e2, hu, z, zs, e3, hz', e4⟩ Q q => ⟨v, rs, a, b, by rw [e1, e2, e3, e4, hu, hz'], hv, hz, q⟩
theorem b_put {C : Addr} (T : TR K C) (d_clipped : Cl P w K mg base 3 "clipped" spClipped) (d_joined : Cl P w K mg base 4 "joined" spJoined) (d_are_regions : Cl P w K mg base 2 "are_regions" spAre) : Body P w K mg base n_Regions_put_parts "Regions.put_parts" s_Regions_put_parts 4 (spPut C) := by
  intro f cdv A outer s H vs Q E hr h
  obtain ⟨p, n, a, b, v, rs, ps, rfl, hR, hps, z1, z2, ok1, ok2, are, kq⟩ := h
  refine ⟨_, (pss_cons (ps_set (i := 4) c_Regions_put_parts.nd rfl (.inl rfl) (pc d_clipped hr (by decide) (by rfl) (pa_cons (pe_fld (pv 0) rfl) (pa_cons pe_int (pa_cons (pv 1) pa_nil))))) (pss_cons (ps_set (i := 5) c_Regions_put_parts.nd rfl (.inl rfl) (pc d_clipped hr (by decide) (by rfl) (pa_cons (pe_fld (pv 0) rfl) (pa_cons (pv 2) (pa_cons (pe_fld (pv 0) rfl) pa_nil))))) (pss_cons (ps_fld (pv 0) (pc d_joined hr (by decide) (by rfl) (pa_cons (pe_op op_cat (pe_op op_cat (pv 4) (pv 3)) (pv 5)) pa_nil)) rfl) (pss_one (ps_assert (pt_val (pc d_are_regions hr (by decide) (by rfl) (pa_cons (pe_fld (pv 0) rfl) (pa_cons (pe_fld (pv 0) rfl) pa_nil))))))))), ?_⟩
  refine q_asgP (en_clip (ev_rows T hR (ev_var rfl)) (by omega) ev_c (ev_var rfl)).p fun v1 H1 e1 ⟨b1, ev1, us1, hb1, hus1⟩ => ?_
  subst ev1
  have hR1 := hR.ex e1
  refine q_asgP (en_clip (ev_rows T hR1 (ev_var rfl)) (by omega) (ev_var rfl) (ev_limit T hR1 (ev_var rfl))).p fun v2 H2 e2 ⟨b2, ev2, us2, hb2, hus2⟩ => ?_
  subst ev2
  have hR2 := hR1.ex e2
  obtain ⟨bp, ups, rfl, hbp, hups⟩ := (hps.ex e1).ex e2
  have hb12 : H2 b1 = some (.lst us1) := e2 _ _ hb1
  have hus12 := hus1.ex e2
  have l1 : us1.length ≤ 5000 := by rw [← hus1.length]; exact Nat.le_trans (clipR_len _ _ _) z1
  have l2 : us2.length ≤ 5000 := by rw [← hus2.length]; exact Nat.le_trans (clipR_len _ _ _) z1
  have l3 : ups.length ≤ 5000 := by rw [← hups.length]; exact z2
  -- the three lists put together
  refine ⟨_, rfl, _, rfl, b1, bp, us1, ups, rfl, rfl, hb12, hbp, sz_of (by omega), fun c hc => ?_⟩
  have e3 := Ex.new (o := HO.lst (us1 ++ ups)) hc
  refine ⟨_, rfl, c, b2, us1 ++ ups, us2, rfl, rfl, upd_same, e3 _ _ hb2, sz_of (by simp; omega), fun d hd => ?_⟩
  have e4 := Ex.new (o := HO.lst (us1 ++ ups ++ us2)) hd
  have okall : ∀ r ∈ clipR rs 0 a ++ ps ++ clipR rs b n, okM r.m := by
    intro r hr
    simp only [List.mem_append] at hr
    rcases hr with (z | z) | z
    · exact clipR_ok ok1 r z
    · exact ok2 r z
    · exact clipR_ok ok1 r z
  have lall : (clipR rs 0 a ++ ps ++ clipR rs b n).length ≤ 20000 := by
    have h1 := clipR_len rs 0 a
    have h2 := clipR_len rs b n
    simp only [List.length_append]
    omega
  refine ⟨.ref d, clipR rs 0 a ++ ps ++ clipR rs b n, rfl, ⟨d, _, rfl, upd_same, ((((hus12.ex e3).append (hups.ex e3)).append (hus2.ex e3))).imp fun r v h => h.ex e4⟩, lall, okall, fun q H5 hq e5 ⟨us5, hq5, hus5⟩ => ?_⟩
  obtain ⟨dx, a0, us0, hp2, ha0, hus0⟩ := ((hR2.ex e3).ex e4).ex e5
  refine ⟨_, rfl, p, C, dx, FR n a0, rfl, hp2, T.cl, T.nR, (by rw [fr_eq]; show 2 < 1000; decide), ?_⟩
  rw [fr_put]
  have npq : q ≠ p := by
    intro e
    obtain ⟨dx', a', _, this, _⟩ := hR
    have h2 := e4 _ _ (e3 _ _ (e2 _ _ (e1 _ _ this)))
    rw [← e, hq] at h2
    cases h2
  have tr : ∀ {xs : List V} {u : V}, TpAt xs u H5 → TpAt xs u (upd H5 p (.ins C dx (FR n q))) := fun {xs u} ⟨t, h1, h2⟩ => ⟨t, h1, by
    rw [upd_ne (fun z => by rw [z, hp2] at h2; cases h2)]; exact h2⟩
  have hR6 : RgAt C (upd H5 p (.ins C dx (FR n q))) p n (putR rs ps a b n) := ⟨dx, q, us5, upd_same, by rw [upd_ne npq]; exact hq5, hus5.imp fun r u h => tr h⟩
  have exp : ExP p H (upd H5 p (.ins C dx (FR n q))) := fun x o hx hn => by
    rw [upd_ne hn]
    exact e5 _ _ (e4 _ _ (e3 _ _ (e2 _ _ (e1 _ _ hx))))
  refine s_assert (et_B (ev_callV (v := .bl true) (eap_cons (ev_rows T hR6 (ev_var rfl)) (eap_cons (evp (ev_limit T hR6 (ev_var rfl))) eap_nil fun _ _ _ _ h => h) fun _ _ _ e h => h.ex e) fun vs H1 ex ⟨v, ws, e1, hv, u, us, e2, hu, e3⟩ Q q => ⟨v, putR rs ps a b n, n, by rw [e1, e2, e3, hu], hv, joinR_ok okall, are, q⟩)) rfl fun H7 e7 => ?_
  exact kq H7 (exp.trans (exp_of e7)) (hR6.ex e7)
end
end Lp
end
section
set_option Elab.async false
set_option linter.all false
set_option maxRecDepth 100000
set_option maxHeartbeats 2000000
/-! Lp.W4: assign, unassign; the class Shape. -/
namespace Lp
open PySem PySem.Spec PyProof.Rows L2 Evl
section
variable {P : Program} {w : World} {K : PySem.W.Frag} {mg : PySem.Str → Option Value} {base : Heap}
theorem ev_check {ta tb tc : TE} {σ : L2.St} {H : Hp} {a b l : Int} {E : XK} (ha : Ev ta σ H (.int a)) (hb : Ev tb σ H (.int b)) (hc : Ev tc σ H (.int l)) (h1 : 0 ≤ a) (h2 : a < b) (h3 : b ≤ l) : Ev (tCall spCheck [] E (tCons ta (tCons tb (tCons tc tNil)))) σ H .non :=
  ev_callV (eap (ea_cons ha (ea_cons hb (ea_cons hc ea_nil)))) fun vs H1 _ e Q q => ⟨a, b, l, e, h1, h2, h3, q⟩
def mkOf (r f : PySem.Str) (i : Int) : Mark := ⟨r, f, if f = ("" : PySem.Str) then 0 else i⟩
def spAssign (C : Addr) : Sp := fun vs H Q _ => ∃ (p : Addr) (n a b : Int) (r f : PySem.Str) (i : Int) (rs : List Row), vs = [.ref p, .int a, .int b, .str r, .str f, .int i] ∧ RgAt C H p n rs ∧ 0 ≤ a ∧ a < b ∧ b ≤ n ∧ rs.length ≤ 5000 ∧ (∀ r ∈ rs, okM r.m) ∧ okM (mkOf r f i) ∧
  AreOk n 0 none (putR rs [⟨a, b, mkOf r f i⟩] a b n) ∧ ∀ H', ExP p H H' → RgAt C H' p n (putR rs [⟨a, b, mkOf r f i⟩] a b n) → Q .non H'
theorem b_assign {C : Addr} (T : TR K C) (d_check_range : Cl P w K mg base 1 "check_range" spCheck) (d_put_parts : Mt P w K mg base 5 C "put_parts" (spPut C)) : Body P w K mg base n_Regions_assign "Regions.assign" s_Regions_assign 5 (spAssign C) := by
  intro fa cdv A outer s H vs Q E hr h
  obtain ⟨p, n, a, b, r, f, i, rs, rfl, hR, h1, h2, h3, z1, ok1, ok2, are, kq⟩ := h
  refine ⟨_, (pss_cons (ps_expr (pc d_check_range hr (by decide) (by rfl) (pa_cons (pv 1) (pa_cons (pv 2) (pa_cons (pe_fld (pv 0) rfl) pa_nil))))) (pss_cons (ps_if (pt_cmpR op_eq (pv 4) pe_str (nomark _)) (pss_one (ps_set (i := 5) c_Regions_assign.nd rfl (.inl rfl) pe_int)) pss_nil) (pss_one (ps_expr (pm d_put_parts hr (by decide) (pv 0) (pa_cons (pv 1) (pa_cons (pv 2) (pa_cons (pe_lst (pa_cons (pe_tup (pa_cons (pv 1) (pa_cons (pv 2) (pa_cons (pv 3) (pa_cons (pv 4) (pa_cons (pv 5) pa_nil)))))) pa_nil)) pa_nil)))))))), ?_⟩
  refine q_drop (ev_check (ev_var rfl) (ev_var rfl) (ev_limit T hR (ev_var rfl)) h1 h2 h3) fun H1 e1 => ?_
  have hR1 := hR.ex e1
  refine q_ifAsg (v := .int (mkOf r f i).i) (et_test (ev_op (ev_var rfl) ev_c (rv_eq rfl))) (fun hb => ?_) (fun hb => ?_) fun H2 e2 => ?_
  · have hf : f = ("" : PySem.Str) := by simpa using hb
    have e0 : (mkOf r f i).i = 0 := by show (if f = ("" : PySem.Str) then (0 : Int) else i) = 0; rw [if_pos hf]
    rw [e0]
    exact ev_c
  · have hf : ¬ f = ("" : PySem.Str) := by simpa using hb
    have e0 : (mkOf r f i).i = i := by show (if f = ("" : PySem.Str) then (0 : Int) else i) = i; rw [if_neg hf]
    rw [e0]
    rfl
  have hR2 := hR1.ex e2
  obtain ⟨dx, a0, us0, hp2, ha0, hus0⟩ := id hR2
  refine ⟨_, rfl, p, dx, FR n a0, rfl, hp2, fr_no n a0 (by decide +kernel) (by decide +kernel), ?_⟩
  refine ⟨_, rfl, _, rfl, _, rfl, _, rfl, _, rfl, _, rfl, _, rfl, ?_⟩
  refine ⟨(by show 5 ≤ sizeLine; decide), fun t ht => ⟨(by show 1 ≤ sizeLine; decide), fun l hl => ?_⟩⟩
  have e3 := Ex.new (o := HO.tup (rv ⟨a, b, mkOf r f i⟩)) ht
  have e4 := Ex.new (o := HO.lst [V.ref t]) hl
  refine ⟨p, n, a, b, .ref l, rs, [⟨a, b, mkOf r f i⟩], rfl, (hR2.ex e3).ex e4, ⟨l, [.ref t], rfl, upd_same, F2.one ⟨t, rfl, e4 _ _ upd_same⟩⟩, z1, (by show 1 ≤ 5000; decide), ok1, (fun q hq => by rw [List.mem_singleton.mp hq]; exact ok2), are, fun H' ex hR' => kq H' ?_ hR'⟩
  exact (exp_of (e1.trans (e2.trans (e3.trans e4)))).trans ex
def spUnassign (C : Addr) : Sp := fun vs H Q _ => ∃ (p : Addr) (n a b : Int) (rs : List Row), vs = [.ref p, .int a, .int b] ∧ RgAt C H p n rs ∧ 0 ≤ a ∧ a < b ∧ b ≤ n ∧ rs.length ≤ 5000 ∧ (∀ r ∈ rs, okM r.m) ∧
  AreOk n 0 none (putR rs [] a b n) ∧ ∀ H', ExP p H H' → RgAt C H' p n (putR rs [] a b n) → Q .non H'
theorem b_unassign {C : Addr} (T : TR K C) (d_check_range : Cl P w K mg base 1 "check_range" spCheck) (d_put_parts : Mt P w K mg base 5 C "put_parts" (spPut C)) : Body P w K mg base n_Regions_unassign "Regions.unassign" s_Regions_unassign 5 (spUnassign C) := by
  intro fa cdv A outer s H vs Q E hr h
  obtain ⟨p, n, a, b, rs, rfl, hR, h1, h2, h3, z1, ok1, are, kq⟩ := h
  refine ⟨_, (pss_cons (ps_expr (pc d_check_range hr (by decide) (by rfl) (pa_cons (pv 1) (pa_cons (pv 2) (pa_cons (pe_fld (pv 0) rfl) pa_nil))))) (pss_one (ps_expr (pm d_put_parts hr (by decide) (pv 0) (pa_cons (pv 1) (pa_cons (pv 2) (pa_cons (pe_lst pa_nil) pa_nil))))))), ?_⟩
  refine q_drop (ev_check (ev_var rfl) (ev_var rfl) (ev_limit T hR (ev_var rfl)) h1 h2 h3) fun H1 e1 => ?_
  have hR1 := hR.ex e1
  obtain ⟨dx, a0, us0, hp2, ha0, hus0⟩ := id hR1
  refine ⟨_, rfl, p, dx, FR n a0, rfl, hp2, fr_no n a0 (by decide +kernel) (by decide +kernel), ?_⟩
  refine ⟨_, rfl, _, rfl, (by show 0 ≤ sizeLine; decide), fun l hl => ?_⟩
  have e4 := Ex.new (o := HO.lst []) hl
  refine ⟨p, n, a, b, .ref l, rs, [], rfl, hR1.ex e4, ⟨l, [], rfl, upd_same, .nil⟩, z1, (by show 0 ≤ 5000; decide), ok1, (fun q hq => by simp at hq), are, fun H' ex hR' => kq H' ?_ hR'⟩
  exact (exp_of (e1.trans e4)).trans ex
end
end Lp
end
section
set_option Elab.async false
set_option linter.all false
set_option maxRecDepth 100000
set_option maxHeartbeats 2000000
/-! Lp.W5: the class Shape. -/
namespace Lp
open PySem PySem.Spec PyProof.Rows L2 Evl
def prodI : List Int → Int
  | [] => 1
  | x :: xs => x * prodI xs
def spansOf (ws : List Int) : List Int := (List.range ws.length).map fun k => prodI (ws.drop (k + 1))
theorem spans_rev (ws : List Int) : ((List.range ws.length).map fun j => prodI (ws.drop (ws.length - j))).reverse = spansOf ws := by
  apply List.ext_getElem
  · simp [spansOf]
  · intro i h1 h2
    simp only [List.length_reverse, List.length_map, List.length_range] at h1
    simp only [spansOf, List.getElem_reverse, List.getElem_map, List.getElem_range, List.length_map, List.length_range]
    congr 2
    omega
def F3 (tw : Addr) (L n : Int) : List (PySem.Str × V) := putF "page_count" (V.int n) (putF "levels" (V.int L) (putF "widths" (V.ref tw) []))
def FS (tw : Addr) (L n : Int) (ts : Addr) : List (PySem.Str × V) := putF "spans" (V.ref ts) (F3 tw L n)
theorem n1 : ¬ (("widths" : PySem.Str) = "levels") := by decide +kernel
theorem n2 : ¬ (("widths" : PySem.Str) = "page_count") := by decide +kernel
theorem n3 : ¬ (("levels" : PySem.Str) = "page_count") := by decide +kernel
theorem n4 : ¬ (("widths" : PySem.Str) = "spans") := by decide +kernel
theorem n5 : ¬ (("levels" : PySem.Str) = "spans") := by decide +kernel
theorem n6 : ¬ (("page_count" : PySem.Str) = "spans") := by decide +kernel
theorem f2_eq (tw : Addr) (L : Int) : putF "levels" (V.int L) (putF "widths" (V.ref tw) []) = ([("widths", V.ref tw), ("levels", V.int L)] : List (PySem.Str × V)) := by
  show (if ("widths" : PySem.Str) = "levels" then [(("widths" : PySem.Str), V.int L)] else (("widths" : PySem.Str), V.ref tw) :: putF "levels" (V.int L) []) = _
  rw [if_neg n1]
  rfl
theorem f3_eq (tw : Addr) (L n : Int) : F3 tw L n = ([("widths", V.ref tw), ("levels", V.int L), ("page_count", V.int n)] : List (PySem.Str × V)) := by
  unfold F3
  rw [f2_eq]
  show (if ("widths" : PySem.Str) = "page_count" then _ else (("widths" : PySem.Str), V.ref tw) :: (if ("levels" : PySem.Str) = "page_count" then _ else (("levels" : PySem.Str), V.int L) :: putF "page_count" (V.int n) [])) = _
  rw [if_neg n2, if_neg n3]
  rfl
theorem f3_put (tw : Addr) (L n m : Int) : putF "page_count" (V.int m) (F3 tw L n) = F3 tw L m := by
  rw [f3_eq, f3_eq]
  show (if ("widths" : PySem.Str) = "page_count" then _ else (("widths" : PySem.Str), V.ref tw) :: (if ("levels" : PySem.Str) = "page_count" then _ else (("levels" : PySem.Str), V.int L) :: (if ("page_count" : PySem.Str) = "page_count" then [(("page_count" : PySem.Str), V.int m)] else _))) = _
  rw [if_neg n2, if_neg n3, if_pos rfl]
theorem f3_w (tw : Addr) (L n : Int) : (F3 tw L n).lookup ("widths" : PySem.Str) = some (V.ref tw) := by
  unfold F3
  rw [lookup_putF, if_neg n2, lookup_putF, if_neg n1, lookup_putF, if_pos rfl]
theorem f3_p (tw : Addr) (L n : Int) : (F3 tw L n).lookup ("page_count" : PySem.Str) = some (V.int n) := by
  unfold F3
  rw [lookup_putF, if_pos rfl]
theorem f3_l (tw : Addr) (L n : Int) : (F3 tw L n).lookup ("levels" : PySem.Str) = some (V.int L) := by
  unfold F3
  rw [lookup_putF, if_neg n3, lookup_putF, if_pos rfl]
theorem fs_w (tw : Addr) (L n : Int) (ts : Addr) : (FS tw L n ts).lookup ("widths" : PySem.Str) = some (V.ref tw) := by
  unfold FS
  rw [lookup_putF, if_neg n4, f3_w]
theorem fs_p (tw : Addr) (L n : Int) (ts : Addr) : (FS tw L n ts).lookup ("page_count" : PySem.Str) = some (V.int n) := by
  unfold FS
  rw [lookup_putF, if_neg n6, f3_p]
theorem fs_l (tw : Addr) (L n : Int) (ts : Addr) : (FS tw L n ts).lookup ("levels" : PySem.Str) = some (V.int L) := by
  unfold FS
  rw [lookup_putF, if_neg n5, f3_l]
theorem fs_s (tw : Addr) (L n : Int) (ts : Addr) : (FS tw L n ts).lookup ("spans" : PySem.Str) = some (V.ref ts) := by
  unfold FS
  rw [lookup_putF, if_pos rfl]
theorem fs_no (tw : Addr) (L n : Int) (ts : Addr) {m : PySem.Str} (h1 : ¬ m = "widths") (h2 : ¬ m = "levels") (h3 : ¬ m = "page_count") (h4 : ¬ m = "spans") : (FS tw L n ts).lookup m = none := by
  unfold FS F3
  rw [lookup_putF, if_neg h4, lookup_putF, if_neg h3, lookup_putF, if_neg h2, lookup_putF, if_neg h1]
  rfl
abbrev iv (l : List Int) : List V := l.map V.int
/-- a Shape of these widths at v -/
def ShAt (C : Addr) (ws : List Int) (v : V) (H : Hp) : Prop := ∃ p dx tw ts, v = .ref p ∧ H p = some (.ins C dx (FS tw ws.length (prodI ws) ts)) ∧ H tw = some (.tup (iv ws)) ∧ H ts = some (.tup (iv (spansOf ws)))
theorem ShAt.ex {C : Addr} {ws : List Int} {v : V} {H H' : Hp} (e : Ex H H') (h : ShAt C ws v H) : ShAt C ws v H' := let ⟨p, dx, tw, ts, h0, h1, h2, h3⟩ := h; ⟨p, dx, tw, ts, h0, e _ _ h1, e _ _ h2, e _ _ h3⟩
structure TS (K : PySem.W.Frag) (C : Addr) : Prop where
  cl : Cls K C
  nW : NoAttr K C "widths"
  nL : NoAttr K C "levels"
  nP : NoAttr K C "page_count"
  nS : NoAttr K C "spans"
/-- the products of a shape's last widths are small -/
def WOk (ws : List Int) : Prop := ws.length ≤ 4 ∧ ∀ k, 1 ≤ prodI (ws.drop k) ∧ prodI (ws.drop k) ≤ 4096
theorem s_forRevT {K : PySem.W.Frag} {a : Addr} {xs : List V} {tl : TE} {g : TG} {tu : L2.TS} {D : Ends} {σ : L2.St} {H : Hp} (h : EvP tl σ H (fun v H => v = .ref a ∧ H a = some (.tup xs))) (Pv : Nat → L2.St → Hp → Prop) (h0 : ∀ H1, Ex H H1 → Pv 0 σ H1) (hl : ∀ i σ' H', i ≤ xs.length → Pv i σ' H' → SqT K H' a xs)
    (hs : ∀ i x σ' H', i < xs.length → xs[xs.length - 1 - i]? = some x → Pv i σ' H' → g x σ' H' fun σ2 H2 => tu { D with nx := Pv (i + 1), ct := Pv (i + 1), bk := D.nx } σ2 H2) (hd : ∀ σ' H', Pv xs.length σ' H' → D.nx σ' H') : tFor (RT.iRevA K tl) g tu D σ H :=
  h H (Ex.refl H) _ fun v H1 e ⟨ev, ha⟩ => ⟨a, xs, ev, .inr ⟨st_of ha, ⟨fun i m σ H => m = xs.length - i ∧ i ≤ xs.length ∧ Pv i σ H, ⟨xs.length, by simp, Nat.zero_le _, h0 H1 e⟩, by
    rintro i m σ H ⟨rfl, hi, p⟩
    have q := hl i σ H hi p
    rcases Nat.lt_or_ge i xs.length with c | c
    · have hx : xs[xs.length - 1 - i]? = some (xs[xs.length - 1 - i]'(by omega)) := List.getElem?_eq_getElem _
      refine .inr ⟨⟨c, xs, _, q, hx⟩, Pv (i + 1), fun σ' H' p' => ⟨xs.length - (i + 1), by omega, rfl, c, p'⟩, fun x H' hy => ?_⟩
      obtain ⟨rfl, hy⟩ := hy
      exact hs i x σ H' c (hy xs q) p
    · have : i = xs.length := by omega
      subst this
      exact .inl ⟨Nat.le_refl _, hd σ H p⟩⟩⟩⟩
theorem q_forRevT {K : PySem.W.Frag} {a : Addr} {xs : List V} {tl : TE} {g : TG} {tu tz : L2.TS} {D : Ends} {σ : L2.St} {H : Hp} (h : EvP tl σ H (fun v H => v = .ref a ∧ H a = some (.tup xs))) (Pv : Nat → L2.St → Hp → Prop) (h0 : ∀ H1, Ex H H1 → Pv 0 σ H1) (hl : ∀ i σ' H', i ≤ xs.length → Pv i σ' H' → SqT K H' a xs)
    (hs : ∀ i x σ' H', i < xs.length → xs[xs.length - 1 - i]? = some x → Pv i σ' H' → g x σ' H' fun σ2 H2 => tu { D with nx := Pv (i + 1), ct := Pv (i + 1), bk := tz D } σ2 H2) (hd : ∀ σ' H', Pv xs.length σ' H' → tz D σ' H') : tSeq (tFor (RT.iRevA K tl) g tu) tz D σ H :=
  s_forRevT (D := { D with nx := tz D }) h Pv h0 hl hs hd
section
variable {P : Program} {w : World} {K : PySem.W.Frag} {mg : PySem.Str → Option Value} {base : Heap}
def spSInit (C : Addr) : Sp := fun vs H Q _ => ∃ (p dx a : Addr) (ws : List Int), vs = [.ref p, .ref a] ∧ H p = some (.ins C dx []) ∧ H a = some (.lst (iv ws)) ∧ WOk ws ∧ ∀ H', ExP p H H' → ShAt C ws (.ref p) H' → Q .non H'
theorem b_sinit {C : Addr} (T : TS K C) (m_tuple : mg "tuple" = none) (m_len : mg "len" = none) (m_reversed : mg "reversed" = none) : Body P w K mg base n_Shape_init "Shape.__init__" s_Shape_init 0 (spSInit C) := by
  intro f cdv A outer s H vs Q E hr h
  obtain ⟨p, dx, a, ws, rfl, hp, ha, ⟨hw4, hwk⟩, kq⟩ := h
  refine ⟨_, (pss_cons (ps_fld (pv 0) (pe_callTy call_tuple_of (by rfl) m_tuple boot_tuple (pa_cons (pv 1) pa_nil)) rfl) (pss_cons (ps_fld (pv 0) (pe_callB call_len_seq (by rfl) m_len boot_len (pa_cons (pe_fld (pv 0) rfl) pa_nil)) rfl) (pss_cons (ps_fld (pv 0) pe_int rfl) (pss_cons (ps_set (i := 2) c_Shape_init.nd rfl (.inl rfl) (pe_lst pa_nil)) (pss_cons (ps_for PassesOwn.never rfl (RT.pi_revA (by rfl) m_reversed (pe_fld (pv 0) rfl)) (pg_name (i := 3) c_Shape_init.nd rfl (.inl rfl)) (pss_cons (ps_expr (pe_bm PySem.F.plainAttrs_list PySem.F.slot_list_append PySem.F.type_list_append mt_append (pv 2) (pa_cons (pe_fld (pv 0) rfl) pa_nil))) (pss_one (ps_fld (pv 0) (pe_op op_mul (pe_fld (pv 0) rfl) (pv 3)) rfl)))) (pss_cons (ps_expr (pe_bm0 PySem.F.plainAttrs_list PySem.F.slot_list_reverse PySem.F.type_list_reverse mt_reverse (pv 2))) (pss_one (ps_fld (pv 0) (pe_callTy call_tuple_of (by rfl) m_tuple boot_tuple (pa_cons (pv 2) pa_nil)) rfl)))))))), ?_⟩
  have npa : p ≠ a := ne_of hp ha (by intro z; cases z)
  refine ⟨_, rfl, a, iv ws, rfl, .inl ⟨sq_of ha, fun tw htw => ?_⟩⟩
  have npw : p ≠ tw := ne_of_none hp htw
  have naw : a ≠ tw := ne_of_none ha htw
  refine ⟨_, rfl, p, C, dx, [], rfl, (by rw [upd_ne npw]; exact hp), T.cl, T.nW, (by show 0 < 1000; decide), ?_⟩
  refine ⟨_, rfl, p, C, dx, _, _, rfl, upd_same, T.cl, T.nW, rfl, tw, iv ws, rfl, .inr (st_of (by rw [upd_ne npw.symm]; exact upd_same)), ?_⟩
  refine ⟨_, rfl, p, C, dx, _, rfl, upd_same, T.cl, T.nL, (by show 1 < 1000; decide), ?_⟩
  refine ⟨_, rfl, p, C, dx, _, rfl, upd_same, T.cl, T.nP, (by rw [f2_eq]; show 2 < 1000; decide), ?_⟩
  have eL : ((iv ws).length : Int) = (ws.length : Int) := by simp
  refine q_asgL (el_lst ea_nil (by decide)) fun l H1 hl e1 hl1 => ?_
  have npl : p ≠ l := by
    intro e
    rw [← e, upd_same] at hl
    cases hl
  have nwl : tw ≠ l := by
    intro e
    rw [← e, upd_ne npw.symm, upd_ne npw.symm, upd_ne npw.symm, upd_same] at hl
    cases hl
  have hl' : H l = none := by
    rw [upd_ne npl.symm, upd_ne npl.symm, upd_ne npl.symm, upd_ne nwl.symm] at hl
    exact hl
  have hp1 : H1 p = some (.ins C dx (F3 tw ws.length 1)) := e1 _ _ (by rw [upd_same, eL]; rfl)
  have htw1 : H1 tw = some (.tup (iv ws)) := e1 _ _ (by rw [upd_ne npw.symm, upd_ne npw.symm, upd_ne npw.symm, upd_same])
  have ex1 : ExP p H H1 := fun b o hb hn => e1 _ _ (by rw [upd_ne hn, upd_ne hn, upd_ne hn, upd_ne (ne_of_none hb htw)]; exact hb)
  -- the loop
  refine q_forRevT (a := tw) (xs := iv ws) (fun H2 e Q q => ⟨_, rfl, p, C, dx, F3 tw ws.length 1, V.ref tw, rfl, e _ _ hp1, T.cl, T.nW, f3_w _ _ _, q _ _ (Ex.refl _) ⟨rfl, e _ _ htw1⟩⟩)
    (fun i σ' H' => ∃ r1, σ' = [some (.ref p), some (.ref a), some (.ref l), r1] ∧ ExP p H H' ∧ H' p = some (.ins C dx (F3 tw ws.length (prodI (ws.drop (ws.length - i))))) ∧ H' tw = some (.tup (iv ws)) ∧ H' l = some (.lst (iv ((List.range i).map fun j => prodI (ws.drop (ws.length - j))))))
    (fun H2 e => ⟨none, rfl, ex1.trans (exp_of e), by rw [Nat.sub_zero, List.drop_length]; exact e _ _ hp1, e _ _ htw1, e _ _ hl1⟩)
    (fun i σ' H' _ ⟨_, _, _, _, h, _⟩ => st_of h) (fun i x σ' H' hi hx ⟨r1, eσ, ex, hp', htw', hl1⟩ => ?_) fun σ' H' ⟨r1, eσ, ex, hp', htw', hl1⟩ => ?_
  · subst eσ
    have hi' : i < ws.length := by simpa using hi
    obtain ⟨wi, hwi, rfl⟩ : ∃ wi, ws[ws.length - 1 - i]? = some wi ∧ x = V.int wi := by
      simp only [List.length_map, List.getElem?_map] at hx
      cases hq : ws[ws.length - 1 - i]? with
      | none => rw [hq] at hx; cases hx
      | some z => rw [hq] at hx; exact ⟨z, rfl, by cases hx; rfl⟩
    have pc := hwk (ws.length - i)
    have epr : prodI (ws.drop (ws.length - (i + 1))) = wi * prodI (ws.drop (ws.length - i)) := by
      have e1 : ws.length - (i + 1) = ws.length - 1 - i := by omega
      have e2 : ws.length - i = (ws.length - 1 - i) + 1 := by omega
      rw [e1, e2, List.drop_eq_getElem_cons (List.getElem?_eq_some_iff.mp hwi).1, (List.getElem?_eq_some_iff.mp hwi).2]
      rfl
    refine ⟨_, rfl, .inl ⟨rfl, _, sq_of hl1⟩, _, rfl, p, C, dx, _, _, rfl, hp', T.cl, T.nP, f3_p _ _ _, l, _, _, rfl, rfl, hl1, (by simp; exact sz_lt (by omega)), ?_⟩
    refine ⟨_, rfl, p, C, dx, _, _, rfl, (by rw [upd_ne npl]; exact hp'), T.cl, T.nP, f3_p _ _ _, _, rfl, _, _, rfl, rfl, .inl ⟨by omega, by omega⟩, ?_⟩
    refine ⟨_, rfl, p, C, dx, _, rfl, (by rw [upd_ne npl]; exact hp'), T.cl, T.nP, (by rw [f3_eq]; show 3 < 1000; decide), ?_⟩
    rw [f3_put]
    refine ⟨_, rfl, fun b o hb hn => ?_, ?_, ?_, ?_⟩
    · rw [upd_ne hn, upd_ne (ne_of_none hb hl')]
      exact ex _ _ hb hn
    · rw [upd_same, epr, Int.mul_comm]
    · rw [upd_ne npw.symm, upd_ne nwl]
      exact htw'
    · rw [upd_ne npl.symm, upd_same, List.range_succ]
      simp
  · subst eσ
    have en : (iv ws).length = ws.length := by simp
    rw [en] at hp' hl1
    rw [Nat.sub_self, List.drop_zero] at hp'
    refine ⟨_, rfl, .inl ⟨rfl, _, sq_of hl1⟩, l, _, rfl, rfl, hl1, ?_⟩
    have erev : (iv ((List.range ws.length).map fun j => prodI (ws.drop (ws.length - j)))).reverse = iv (spansOf ws) := by
      rw [← List.map_reverse, spans_rev]
    rw [erev]
    refine ⟨_, rfl, l, iv (spansOf ws), rfl, .inl ⟨sq_of upd_same, fun ts hts => ?_⟩⟩
    have nls : l ≠ ts := by
      intro e
      rw [← e, upd_same] at hts
      cases hts
    have hts' : H' ts = none := by
      rw [upd_ne nls.symm] at hts
      exact hts
    have nps : p ≠ ts := ne_of_none hp' hts'
    have nws : tw ≠ ts := ne_of_none htw' hts'
    refine ⟨_, rfl, p, C, dx, _, rfl, (by rw [upd_ne nps, upd_ne npl]; exact hp'), T.cl, T.nS, (by rw [f3_eq]; show 3 < 1000; decide), ?_⟩
    refine kq _ (fun b o hb hn => ?_) ⟨p, dx, tw, ts, rfl, upd_same, ?_, ?_⟩
    · have hbts : b ≠ ts := by
        intro e
        have := ex _ _ hb hn
        rw [e, hts'] at this
        cases this
      rw [upd_ne hn, upd_ne hbts, upd_ne (ne_of_none hb hl')]
      exact ex _ _ hb hn
    · rw [upd_ne npw.symm, upd_ne nws, upd_ne nwl]
      exact htw'
    · rw [upd_ne nps.symm, upd_same]
end
end Lp
end
section
set_option Elab.async false
set_option linter.all false
set_option maxRecDepth 100000
set_option maxHeartbeats 2000000
/-! Lp.W6: blocks, covers. -/
namespace Lp
open PySem PySem.Spec PyProof.Rows L2 Evl
theorem span_ok {ws : List Int} (h : WOk ws) {i : Nat} {sp : Int} (e : (spansOf ws)[i]? = some sp) : 1 ≤ sp ∧ sp ≤ 4096 := by
  unfold spansOf at e
  rw [List.getElem?_map] at e
  cases hq : (List.range ws.length)[i]? with
  | none => rw [hq] at e; cases e
  | some k => rw [hq] at e; cases e; exact h.2 _
theorem spans_len (ws : List Int) : (spansOf ws).length = ws.length := by simp [spansOf]
theorem prod_ok {ws : List Int} (h : WOk ws) : 1 ≤ prodI ws ∧ prodI ws ≤ 4096 := h.2 0
theorem iv_at {l : List Int} {i : Nat} {x : Int} (h : l[i]? = some x) : atI (iv l) (i : Int) = some (V.int x) := atI_nat (by rw [List.getElem?_map, h]; rfl)
def lowB (sp page : Int) : Int := page / sp * sp
theorem low_le {sp page : Int} (h : 1 ≤ sp) : lowB sp page ≤ page ∧ page < lowB sp page + sp := by
  unfold lowB
  have h1 := Int.emod_add_mul_ediv page sp
  have h2 := Int.emod_nonneg page (by omega : sp ≠ 0)
  have h3 := Int.emod_lt_of_pos page (by omega : 0 < sp)
  have e : page / sp * sp = sp * (page / sp) := Int.mul_comm _ _
  omega
section
variable {P : Program} {w : World} {K : PySem.W.Frag} {mg : PySem.Str → Option Value} {base : Heap}
variable {te ta tb : TE} {σ : L2.St} {H : Hp} {ws : List Int} {C : Addr}
theorem ev_spans (T : TS K C) (h : EvP te σ H (ShAt C ws)) : EvP (tFld K te "spans") σ H (TpAt (iv (spansOf ws))) := fun H1 e Q q =>
  h H1 e _ fun v H2 e2 ⟨p, dx, tw, ts, h0, h1, h2, h3⟩ => ⟨p, C, dx, _, V.ref ts, h0, h1, T.cl, T.nS, fs_s _ _ _ _, q _ _ e2 ⟨ts, rfl, h3⟩⟩
theorem ev_widths (T : TS K C) (h : EvP te σ H (ShAt C ws)) : EvP (tFld K te "widths") σ H (TpAt (iv ws)) := fun H1 e Q q =>
  h H1 e _ fun v H2 e2 ⟨p, dx, tw, ts, h0, h1, h2, h3⟩ => ⟨p, C, dx, _, V.ref tw, h0, h1, T.cl, T.nW, fs_w _ _ _ _, q _ _ e2 ⟨tw, rfl, h2⟩⟩
theorem ev_levels (T : TS K C) (h : EvP te σ H (ShAt C ws)) : Ev (tFld K te "levels") σ H (.int ws.length) := fun H1 e Q q =>
  h H1 e _ fun v H2 e2 ⟨p, dx, tw, ts, h0, h1, h2, h3⟩ => ⟨p, C, dx, _, V.int ws.length, h0, h1, T.cl, T.nL, fs_l _ _ _ _, q _ e2⟩
theorem ev_pages (T : TS K C) (h : EvP te σ H (ShAt C ws)) : Ev (tFld K te "page_count") σ H (.int (prodI ws)) := fun H1 e Q q =>
  h H1 e _ fun v H2 e2 ⟨p, dx, tw, ts, h0, h1, h2, h3⟩ => ⟨p, C, dx, _, V.int (prodI ws), h0, h1, T.cl, T.nP, fs_p _ _ _ _, q _ e2⟩
theorem evs_var {i : Nat} {v : V} (h : σ[i]? = some (some v)) (hp : ShAt C ws v H) : EvP (tVar i) σ H (ShAt C ws) := evp_var h fun H1 e => hp.ex e
def spSpan (C : Addr) : Sp := fun vs H Q _ => ∃ (v : V) (ws : List Int) (i : Nat) (sp : Int), vs = [v, .int i] ∧ ShAt C ws v H ∧ (spansOf ws)[i]? = some sp ∧ RetV (.int sp) H Q
theorem b_span (T : TS K C) : Body P w K mg base n_Shape_span "Shape.span" s_Shape_span 0 (spSpan C) := by
  intro f cdv A outer s H vs Q E hr h
  obtain ⟨v, ws, i, sp, rfl, hS, hsp, kq⟩ := h
  refine ⟨_, (pss_one (ps_ret (pe_ix ix_tup (pe_fld (pv 0) rfl) (pv 1) (fun _ _ => rfl)))), ?_⟩
  exact s_ret (ev_ixT (ev_spans T (evs_var rfl hS)) (ev_var rfl) (iv_at hsp)) kq
def spBlockAt (C : Addr) : Sp := fun vs H Q _ => ∃ (v : V) (ws : List Int) (i : Nat) (sp page : Int), vs = [v, .int i, .int page] ∧ ShAt C ws v H ∧ WOk ws ∧ (spansOf ws)[i]? = some sp ∧ 0 ≤ page ∧ page < prodI ws ∧
  ∀ v' H', Ex H H' → TpAt [.int (lowB sp page), .int (lowB sp page + sp)] v' H' → Q v' H'
theorem b_block_at (T : TS K C) (d_check_range : Cl P w K mg base 1 "check_range" spCheck) : Body P w K mg base n_Shape_block_at "Shape.block_at" s_Shape_block_at 1 (spBlockAt C) := by
  intro f cdv A outer s H vs Q E hr h
  obtain ⟨v, ws, i, sp, page, rfl, hS, hw, hsp, h0, h1, kq⟩ := h
  have ⟨s1, s2⟩ := span_ok hw hsp
  have ⟨p1, p2⟩ := prod_ok hw
  have lb := low_le (sp := sp) (page := page) s1
  refine ⟨_, (pss_cons (ps_expr (pc d_check_range hr (by decide) (by rfl) (pa_cons (pv 2) (pa_cons (pe_op op_add (pv 2) pe_int) (pa_cons (pe_fld (pv 0) rfl) pa_nil))))) (pss_cons (ps_set (i := 3) c_Shape_block_at.nd rfl (.inl rfl) (pe_ix ix_tup (pe_fld (pv 0) rfl) (pv 1) (fun _ _ => rfl))) (pss_cons (ps_set (i := 4) c_Shape_block_at.nd rfl (.inl rfl) (pe_op op_mul (pe_op op_fdiv (pv 2) (pv 3)) (pv 3))) (pss_one (ps_ret (pe_tup (pa_cons (pv 4) (pa_cons (pe_op op_add (pv 4) (pv 3)) pa_nil)))))))), ?_⟩
  refine q_drop (ev_check (ev_var rfl) (ev_op (ev_var rfl) ev_c rv_I0) (ev_pages T (evs_var rfl hS)) h0 (by omega) (by omega)) fun H1 e1 => ?_
  refine q_asg (ev_ixT (ev_spans T (evs_var rfl (hS.ex e1))) (ev_var rfl) (iv_at hsp)) fun H2 e2 => ?_
  refine q_asg (v := .int (lowB sp page)) (ev_op (ev_op (ev_var rfl) (ev_var rfl) (rv_I (C := CDiv) ⟨by omega, by omega⟩)) (ev_var rfl) (rv_I (C := CMul) (.inr ⟨by omega, by omega⟩))) fun H3 e3 => ?_
  exact s_retP (eup (eu_tup (ea_cons (ev_var rfl) (ea_cons (ev_op (ev_var rfl) (ev_var rfl) rv_I0) ea_nil)) (by show 2 ≤ 100000; decide))) fun v' H4 e4 h4 => kq v' H4 (e1.trans (e2.trans (e3.trans e4))) h4
/-- o.block_at(i, page) -/
theorem ev_block (T : TS K C) {ta tb tc : TE} {E : XK} {i : Nat} {sp page : Int} (ha : EvP ta σ H (ShAt C ws)) (hb : Ev tb σ H (.int (i : Int))) (hc : Ev tc σ H (.int page)) (hw : WOk ws) (hsp : (spansOf ws)[i]? = some sp) (h0 : 0 ≤ page) (h1 : page < prodI ws) :
    EvP (tMeth C "block_at" (spBlockAt C) [] E ta (tCons tb (tCons tc tNil))) σ H (TpAt [.int (lowB sp page), .int (lowB sp page + sp)]) := fun H1 e Q q =>
  ha H1 e _ fun v H2 e2 hS => by
    obtain ⟨p, dx, tw, ts, rfl, g1, g2, g3⟩ := id hS
    refine ⟨p, dx, _, rfl, g1, fs_no _ _ _ _ (by decide +kernel) (by decide +kernel) (by decide +kernel) (by decide +kernel), ?_⟩
    refine hb H2 (e.trans e2) _ fun H3 e3 => hc H3 ((e.trans e2).trans e3) _ fun H4 e4 => ?_
    exact ⟨.ref p, ws, i, sp, page, rfl, (hS.ex e3).ex e4, hw, hsp, h0, h1, fun v' H' e5 h5 => q v' H' (((e2.trans e3).trans e4).trans e5) h5⟩
/-! level_of -/
def isB (sps : List Int) (s e : Int) (i : Nat) : Bool := match sps[i]? with
  | some sp => decide (lowB sp s = s) && decide (lowB sp s + sp = e)
  | none => false
def lvlOf (sps : List Int) (s e : Int) : Option Nat := (List.range sps.length).find? (isB sps s e)
def lvV : Option Nat → V
  | none => .non
  | some l => .int l
theorem dp_two {v : V} {H : Hp} {a b : Int} (h : TpAt [.int a, .int b] v H) : Dp K H v (.tuple [.int a, .int b]) := by
  obtain ⟨p, rfl, hp⟩ := h
  exact .tup (st_of hp) (.cons (.int _) (.cons (.int _) .nil))
theorem shaped_two (a b : Int) : SeqAt.shaped (.tuple [.int a, .int b]) = true := by
  have e : PyData.depth (.tuple [.int a, .int b]) ≤ 64 := by simp [PyData.depth, PyData.depthAll]
  have e2 : PyData.canLay0 (.tuple [.int a, .int b]) = true := rfl
  unfold SeqAt.shaped
  rw [e2, decide_eq_true e]
  rfl
theorem eqv_two (a b c d : Int) : PyData.eqv (.tuple [.int a, .int b]) (.tuple [.int c, .int d]) = (decide (a = c) && decide (b = d)) := by
  simp only [PyData.eqv, PyData.eqvAll, Bool.and_true]
  rw [Bool.eq_iff_iff]
  simp
def spLevelOf (C : Addr) : Sp := fun vs H Q _ => ∃ (v : V) (ws : List Int) (s e : Int), vs = [v, .int s, .int e] ∧ ShAt C ws v H ∧ WOk ws ∧ 0 ≤ s ∧ s < prodI ws ∧ RetV (lvV (lvlOf (spansOf ws) s e)) H Q
theorem b_level_of (T : TS K C) (m_range : mg "range" = none) (d_block_at : Mt P w K mg base 2 C "block_at" (spBlockAt C)) : Body P w K mg base n_level_of "level_of" s_level_of 2 (spLevelOf C) := by
  intro f cdv A outer s H vs Q E hr h
  obtain ⟨v, ws, st, en, rfl, hS, hw, h0, h1, kq⟩ := h
  refine ⟨_, (pss_cons (ps_for PassesOwn.never rfl (pi_range1 (by rfl) m_range (pa_cons (pe_fld (pv 0) rfl) pa_nil)) (pg_name (i := 3) c_level_of.nd rfl (.inl rfl)) (pss_one (ps_if (pt_cmpR (op_eqD hr.units) (pm d_block_at hr (by decide) (pv 0) (pa_cons (pv 3) (pa_cons (pv 1) pa_nil))) (pe_tup (pa_cons (pv 1) (pa_cons (pv 2) pa_nil))) (nomark _)) (pss_one (ps_ret (pv 3))) pss_nil))) (pss_one (ps_ret pe_non))), ?_⟩
  have hl := hw.1
  refine q_forR1 (ea_cons (ev_levels T (evs_var rfl hS)) ea_nil) ⟨by omega, by omega⟩ (fun i σ' H' => ∃ r, σ' = [some v, some (.int st), some (.int en), r] ∧ Ex H H' ∧ ∀ j < i, isB (spansOf ws) st en j = false) (fun H1 e1 => ⟨none, rfl, e1, fun j hj => by omega⟩) (fun i σ' H' hi ⟨r, eσ, ex, hn⟩ => ?_) fun σ' H' ⟨r, eσ, ex, hn⟩ => ?_
  · subst eσ
    have hi' : i < (spansOf ws).length := by rw [spans_len]; omega
    have hsp : (spansOf ws)[i]? = some ((spansOf ws)[i]) := List.getElem?_eq_getElem hi'
    have eb : isB (spansOf ws) st en i = (decide (lowB (spansOf ws)[i] st = st) && decide (lowB (spansOf ws)[i] st + (spansOf ws)[i] = en)) := by
      unfold isB
      rw [hsp]
    refine s_when (b := isB (spansOf ws) st en i) (et_test ?_) (fun hb H1 e1 => s_ret (ev_var rfl) fun H2 e2 => ?_) (fun hb H1 e1 => ⟨_, rfl, ex.trans e1, fun j hj => ?_⟩)
    · rw [eb, ← eqv_two]
      exact et_eqD (ev_block T (evs_var rfl (hS.ex ex)) (ev_var rfl) (ev_var rfl) hw hsp h0 h1) (eup (eu_tup (ea_cons (ev_var rfl) (ea_cons (ev_var rfl) ea_nil)) (by show 2 ≤ 100000; decide))) (fun _ _ _ e h => h.ex e) (fun _ _ h => dp_two h) (fun _ _ h => dp_two h) (shaped_two _ _) (shaped_two _ _)
    · have el : lvlOf (spansOf ws) st en = some i := List.find?_range_eq_some.mpr ⟨hb, List.mem_range.mpr hi', fun j hj => by rw [hn j hj]; rfl⟩
      have := kq H2 (ex.trans (e1.trans e2))
      rw [el] at this
      exact this
    · rcases Nat.lt_or_ge j i with c | c
      · exact hn j c
      · have : j = i := by omega
        rw [this]; exact hb
  · subst eσ
    refine s_ret ev_c fun H1 e1 => ?_
    have el : lvlOf (spansOf ws) st en = none := List.find?_range_eq_none.mpr fun j hj => by
      rw [hn j (by rw [spans_len] at hj; omega)]; rfl
    have := kq H1 (ex.trans e1)
    rw [el] at this
    exact this
/-! largest_block -/
/-- level l's block begins at the page and ends by e; no wider one does -/
def Lg (sps : List Int) (page e : Int) (l : Nat) (sp : Int) : Prop := sps[l]? = some sp ∧ lowB sp page = page ∧ page + sp ≤ e ∧ ∀ j < l, ∀ sq, sps[j]? = some sq → lowB sq page < page ∨ e < lowB sq page + sq
def spLargest (C : Addr) : Sp := fun vs H Q _ => ∃ (v : V) (ws : List Int) (page e : Int) (l : Nat) (sp : Int), vs = [v, .int page, .int e] ∧ ShAt C ws v H ∧ WOk ws ∧ 0 ≤ page ∧ page < prodI ws ∧ Lg (spansOf ws) page e l sp ∧
  ∀ v' H', Ex H H' → TpAt [.int page, .int (page + sp)] v' H' → Q v' H'
theorem b_largest (T : TS K C) (d_block_at : Mt P w K mg base 2 C "block_at" (spBlockAt C)) : Body P w K mg base n_largest_block "largest_block" s_largest_block 2 (spLargest C) := by
  intro f cdv A outer s H vs Q E hr h
  obtain ⟨v, ws, page, en, l, sp, rfl, hS, hw, h0, h1, ⟨g1, g2, g3, g4⟩, kq⟩ := h
  refine ⟨_, (pss_cons (ps_set (i := 3) c_largest_block.nd rfl (.inl rfl) pe_int) (pss_cons (ps_set (i := 4) c_largest_block.nd rfl (.inl rfl) (pm d_block_at hr (by decide) (pv 0) (pa_cons (pv 3) (pa_cons (pv 1) pa_nil)))) (pss_cons (ps_while PassesOwn.never (PW.pt (pw_or (pt_cmpR op_lt (pe_ix ix_tup (pv 4) pe_int (fun _ _ => rfl)) (pv 1) (nomark _)) (pw_or1 (pt_cmpR op_gt (pe_ix ix_tup (pv 4) pe_int (fun _ _ => rfl)) (pv 2) (nomark _))))) (pss_cons (ps_set (i := 3) c_largest_block.nd rfl (.inl rfl) (pe_op op_add (pv 3) pe_int)) (pss_one (ps_set (i := 4) c_largest_block.nd rfl (.inl rfl) (pm d_block_at hr (by decide) (pv 0) (pa_cons (pv 3) (pa_cons (pv 1) pa_nil))))))) (pss_one (ps_ret (pv 4)))))), ?_⟩
  have hl : l < (spansOf ws).length := (List.getElem?_eq_some_iff.mp g1).1
  have at_ : ∀ j, j ≤ l → (spansOf ws)[j]? = some ((spansOf ws)[j]!) := fun j hj => by
    rw [List.getElem!_eq_getElem?_getD, List.getElem?_eq_getElem (by omega)]
    rfl
  refine q_asg ev_c fun H1 e1 => ?_
  refine q_asgP (ev_block (i := 0) T (evs_var rfl (hS.ex e1)) (ev_var rfl) (ev_var rfl) hw (at_ 0 (Nat.zero_le _)) h0 h1) fun v2 H2 e2 h2 => ?_
  refine q_while (fun m σ' H' => ∃ (i : Nat) (bv : V), i ≤ l ∧ m = l - i ∧ σ' = [some v, some (.int page), some (.int en), some (.int (i : Int)), some bv] ∧ Ex H H' ∧ TpAt [.int (lowB (spansOf ws)[i]! page), .int (lowB (spansOf ws)[i]! page + (spansOf ws)[i]!)] bv H') l ⟨0, v2, Nat.zero_le _, rfl, rfl, e1.trans e2, h2⟩ fun m σ' H' ⟨i, bv, hi, hm, eσ, ex, hb⟩ => ?_
  subst eσ
  refine ⟨decide (lowB (spansOf ws)[i]! page < page) || decide (lowB (spansOf ws)[i]! page + (spansOf ws)[i]! > en), et_or (et_test (ev_op (ev_ixT (evt_var rfl hb) ev_c rfl) (ev_var rfl) rv_I0)) (fun _ => et_test (ev_op (ev_ixT (evt_var rfl hb) ev_c rfl) (ev_var rfl) rv_I0)), fun hc H3 e3 => ?_, fun hc H3 e3 => ?_⟩
  · have hne : i ≠ l := by
      intro e
      subst e
      have e5 : (spansOf ws)[i]! = sp := by
        have := at_ i (Nat.le_refl _)
        rw [g1] at this
        exact (Option.some.inj this).symm
      rw [e5] at hc
      simp only [Bool.or_eq_true, decide_eq_true_eq] at hc
      omega
    refine ⟨fun σ2 H4 => ∃ bv, σ2 = [some v, some (.int page), some (.int en), some (.int ((i + 1 : Nat) : Int)), some bv] ∧ Ex H H4 ∧ TpAt [.int (lowB (spansOf ws)[i + 1]! page), .int (lowB (spansOf ws)[i + 1]! page + (spansOf ws)[i + 1]!)] bv H4, fun σ2 H4 ⟨bv, e4, e5, e6⟩ => ⟨l - (i + 1), by omega, i + 1, bv, by omega, rfl, e4, e5, e6⟩, ?_⟩
    refine q_asg (v := .int ((i + 1 : Nat) : Int)) (ev_is (ev_op (ev_var rfl) ev_c rv_I0) (by simp)) fun H4 e4 => ?_
    exact s_asgP (ev_block (i := i + 1) T (evs_var rfl (((hS.ex ex).ex e3).ex e4)) (ev_var rfl) (ev_var rfl) hw (at_ (i + 1) (by omega)) h0 h1) fun v5 H5 e5 h5 => ⟨v5, rfl, ex.trans (e3.trans (e4.trans e5)), h5⟩
  · simp only [Bool.or_eq_false_iff, decide_eq_false_iff_not] at hc
    have eil : i = l := by
      rcases Nat.lt_or_ge i l with c | c
      · have := g4 i c _ (at_ i hi)
        omega
      · omega
    subst eil
    have e5 : (spansOf ws)[i]! = sp := by
      have := at_ i (Nat.le_refl _)
      rw [g1] at this
      exact (Option.some.inj this).symm
    rw [e5, g2] at hb
    exact s_ret (ev_var rfl) fun H4 e4 => kq bv H4 (ex.trans (e3.trans e4)) ((hb.ex e3).ex e4)
end
end Lp
end
section
set_option Elab.async false
set_option linter.all false
set_option maxRecDepth 100000
set_option maxHeartbeats 2000000
/-! Lp.W7: covers. -/
namespace Lp
open PySem PySem.Spec PyProof.Rows L2 Evl
/-- blocks that fill [p, e) one after the other, as is_cover asks; s: where the range begins -/
def IsCov (sps : List Int) (n s e : Int) : Int → List (Int × Int) → Prop
  | p, [] => p = e
  | p, (a, b) :: r => a = p ∧ a < b ∧ b ≤ e ∧ 0 ≤ a ∧ a < n ∧ (∃ l : Nat, lvlOf sps a b = some l ∧ ∀ k, l = k + 1 → ∃ sp, sps[k]? = some sp ∧ ¬ (s ≤ lowB sp a ∧ lowB sp a + sp ≤ e)) ∧ IsCov sps n s e b r
/-- what cover makes -/
def Greedy (sps : List Int) (n e : Int) : Int → List (Int × Int) → Prop
  | p, [] => p = e
  | p, (a, b) :: r => a = p ∧ p < e ∧ 0 ≤ p ∧ p < n ∧ (∃ l sp, Lg sps p e l sp ∧ b = p + sp) ∧ Greedy sps n e b r
abbrev BlsOf (H : Hp) (bs : List (Int × Int)) (vs : List V) : Prop := F2 (fun (q : Int × Int) v => TpAt [.int q.1, .int q.2] v H) bs vs
def LbAt (bs : List (Int × Int)) (v : V) (H : Hp) : Prop := ∃ p vs, v = .ref p ∧ H p = some (.lst vs) ∧ BlsOf H bs vs
theorem BlsOf.ex {H H' : Hp} {bs : List (Int × Int)} {vs : List V} (e : Ex H H') (h : BlsOf H bs vs) : BlsOf H' bs vs := h.imp fun _ _ x => TpAt.ex e x
theorem drop_at {α : Type} {xs : List α} {i : Nat} {x : α} (h : xs[i]? = some x) : xs.drop i = x :: xs.drop (i + 1) := by
  rw [List.drop_eq_getElem_cons (List.getElem?_eq_some_iff.mp h).1, (List.getElem?_eq_some_iff.mp h).2]
section
variable {P : Program} {w : World} {K : PySem.W.Frag} {mg : PySem.Str → Option Value} {base : Heap} {C : Addr}
def spIsCover (C : Addr) : Sp := fun vs H Q _ => ∃ (v u : V) (ws : List Int) (bs : List (Int × Int)) (s e : Int), vs = [v, u, .int s, .int e] ∧ ShAt C ws v H ∧ WOk ws ∧ LbAt bs u H ∧ IsCov (spansOf ws) (prodI ws) s e s bs ∧ RetV (.bl true) H Q
theorem b_is_cover (T : TS K C) (d_block_at : Mt P w K mg base 2 C "block_at" (spBlockAt C)) (d_level_of : Cl P w K mg base 3 "level_of" (spLevelOf C)) : Body P w K mg base n_is_cover "is_cover" s_is_cover 3 (spIsCover C) := by
  intro f cdv A outer s H vs Q E hr h
  obtain ⟨v, u, ws, bs, st, en, rfl, hS, hw, ⟨q, us, rfl, hq, hbs⟩, cov, kq⟩ := h
  refine ⟨_, (pss_cons (ps_set (i := 4) c_is_cover.nd rfl (.inl rfl) (pv 2)) (pss_cons (ps_for PassesOwn.never rfl (pi_list (pv 1)) (pg_tup rfl (pgs_cons (pg_name (i := 5) c_is_cover.nd rfl (.inl rfl)) (pgs_cons (pg_name (i := 6) c_is_cover.nd rfl (.inl rfl)) pgs_nil))) (pss_cons (ps_if (PW.pt (pw_or (pt_cmpR op_ne (pv 5) (pv 4) (nomark _)) (pw_or1 (pt_not (pt_chain op_lt op_le (pv 5) (pv 6) (pv 3)))))) (pss_one (ps_ret pe_bl)) pss_nil) (pss_cons (ps_set (i := 7) c_is_cover.nd rfl (.inl rfl) (pc d_level_of hr (by decide) (by rfl) (pa_cons (pv 0) (pa_cons (pv 5) (pa_cons (pv 6) pa_nil))))) (pss_cons (ps_if (pt_cmpR op_isN (pv 7) pe_non (nomark _)) (pss_one (ps_ret pe_bl)) pss_nil) (pss_cons (ps_if (pt_cmpR op_gt (pv 7) pe_int (nomark _)) (pss_cons (ps_set (i := 8) c_is_cover.nd rfl (.inl rfl) (pm d_block_at hr (by decide) (pv 0) (pa_cons (pe_op op_sub (pv 7) pe_int) (pa_cons (pv 5) pa_nil)))) (pss_one (ps_if (PW.pt (pw_and (pt_cmpR op_le (pv 2) (pe_ix ix_tup (pv 8) pe_int (fun _ _ => rfl)) (nomark _)) (pw_and1 (pt_cmpR op_le (pe_ix ix_tup (pv 8) pe_int (fun _ _ => rfl)) (pv 3) (nomark _))))) (pss_one (ps_ret pe_bl)) pss_nil))) pss_nil) (pss_one (ps_set (i := 4) c_is_cover.nd rfl (.inl rfl) (pv 6)))))))) (pss_one (ps_ret (pe_cmpR op_eq (pv 4) (pv 3) (nomark _)))))), ?_⟩
  refine q_asg (ev_var rfl) fun H1 e1 => ?_
  refine q_forL (ev_var rfl) (sq_of (e1 _ _ hq)) (fun i σ' H' => ∃ (p : Int) (r1 r2 r3 r4 : Option V), σ' = [some v, some (.ref q), some (.int st), some (.int en), some (.int p), r1, r2, r3, r4] ∧ Ex H H' ∧ IsCov (spansOf ws) (prodI ws) st en p (bs.drop i)) (fun H2 e2 => ⟨st, none, none, none, none, rfl, e1.trans e2, cov⟩) (fun i σ' H' _ ⟨_, _, _, _, _, _, e, _⟩ => sq_of (e _ _ hq)) (fun i x σ' H' hx ⟨p, r1, r2, r3, r4, eσ, ex, cv⟩ => ?_) fun σ' H' ⟨p, r1, r2, r3, r4, eσ, ex, cv⟩ => ?_
  · subst eσ
    obtain ⟨⟨a, b⟩, hbi, hba⟩ := hbs.at hx
    rw [drop_at hbi] at cv
    obtain ⟨c1, c2, c3, c4, c5, ⟨l, c6, c7⟩, c8⟩ := cv
    subst c1
    obtain ⟨t, rfl, ht⟩ := hba
    refine ⟨t, _, rfl, st_of (ex _ _ ht), rfl, _, _, rfl, _, _, rfl, rfl, ?_⟩
    refine q_when (et_or (et_test (ev_op (ev_var rfl) (ev_var rfl) (rv_ne rfl))) (fun _ => et_not (et_chain2 (ev_var rfl) (ev_var rfl) (ev_var rfl)))) (fun hc => ?_) fun _ H3 e3 => ?_
    · simp [c2, c3] at hc
    refine q_asg (v := .int (l : Int)) (ev_callV (eap (ea_cons (ev_var rfl) (ea_cons (ev_var rfl) (ea_cons (ev_var rfl) ea_nil)))) fun vs H4 e4 ev Q k => ⟨v, ws, a, b, ev, ((hS.ex ex).ex e3).ex e4, hw, c4, c5, by rw [c6]; exact k⟩) fun H4 e4 => ?_
    refine ⟨_, rfl, rfl, _, rfl, ?_⟩
    refine iteF ?_
    have go : ∀ (r4 : Option V) H5, Ex H4 H5 → tAsg (tVar 6) (gName 4) { nx := fun σ' H' => ∃ (p : Int) (r1 r2 r3 r4 : Option V), σ' = [some v, some (.ref q), some (.int st), some (.int en), some (.int p), r1, r2, r3, r4] ∧ Ex H H' ∧ IsCov (spansOf ws) (prodI ws) st en p (bs.drop (i + 1)), rt := Q, ct := fun σ' H' => ∃ (p : Int) (r1 r2 r3 r4 : Option V), σ' = [some v, some (.ref q), some (.int st), some (.int en), some (.int p), r1, r2, r3, r4] ∧ Ex H H' ∧ IsCov (spansOf ws) (prodI ws) st en p (bs.drop (i + 1)), bk := (tRet (tOp rEq (tVar 4) (tVar 3))) { nx := fun _ H' => Q .non H', rt := Q } } [some v, some (.ref q), some (.int st), some (.int en), some (.int a), some (.int a), some (.int b), some (.int (l : Int)), r4] H5 := fun r4 H5 e5 =>
      s_asg (ev_var rfl) fun H6 e6 => ⟨b, _, _, _, _, rfl, ex.trans (e3.trans (e4.trans (e5.trans e6))), c8⟩
    refine q_when (et_test (ev_op (ev_var rfl) ev_c rv_I0)) (fun hc H5 e5 => ?_) fun _ H5 e5 => go r4 H5 e5
    have hpos : 0 < l := by simpa using hc
    obtain ⟨k, rfl⟩ : ∃ k, l = k + 1 := ⟨l - 1, by omega⟩
    obtain ⟨sp, d1, d2⟩ := c7 k rfl
    have eS := (((hS.ex ex).ex e3).ex e4).ex e5
    refine q_asgP (ev_block (i := k) T (evs_var rfl eS) (ev_is (ev_op (ev_var rfl) ev_c rv_I0) (by simp)) (ev_var rfl) hw d1 c4 c5) fun v6 H6 e6 h6 => ?_
    refine s_when (et_and (et_test (ev_op (ev_var rfl) (ev_ixT (evt_var rfl h6) ev_c rfl) rv_I0)) (fun _ => et_test (ev_op (ev_ixT (evt_var rfl h6) ev_c rfl) (ev_var rfl) rv_I0))) (fun hb => ?_) fun _ H7 e7 => go _ H7 (e5.trans (e6.trans e7))
    exact absurd (by simpa using hb) d2
  · subst eσ
    have el : bs.drop us.length = [] := by rw [← hbs.length]; exact List.drop_length
    rw [el] at cv
    have ep : p = en := cv
    refine s_ret (ev_op (ev_var rfl) (ev_var rfl) (rv_eq rfl)) fun H2 e2 => ?_
    rw [ep, decide_eq_true rfl]
    exact kq H2 (ex.trans e2)
def spCover (C : Addr) : Sp := fun vs H Q _ => ∃ (v : V) (ws : List Int) (bs : List (Int × Int)) (s e : Int), vs = [v, .int s, .int e] ∧ ShAt C ws v H ∧ WOk ws ∧ 0 ≤ s ∧ s < e ∧ e ≤ prodI ws ∧ bs.length ≤ 5000 ∧ Greedy (spansOf ws) (prodI ws) e s bs ∧ IsCov (spansOf ws) (prodI ws) s e s bs ∧
  ∀ p H', H p = none → Ex H H' → (∃ us, H' p = some (.lst us) ∧ BlsOf H' bs us) → Q (.ref p) H'
theorem b_cover (T : TS K C) (d_check_range : Cl P w K mg base 1 "check_range" spCheck) (d_largest_block : Cl P w K mg base 3 "largest_block" (spLargest C)) (d_is_cover : Cl P w K mg base 4 "is_cover" (spIsCover C)) : Body P w K mg base n_cover "cover" s_cover 4 (spCover C) := by
  intro f cdv A outer s H vs Q E hr h
  obtain ⟨v, ws, bs, st, en, rfl, hS, hw, h0, h1, h2, hlen, gr, cov, kq⟩ := h
  refine ⟨_, (pss_cons (ps_expr (pc d_check_range hr (by decide) (by rfl) (pa_cons (pv 1) (pa_cons (pv 2) (pa_cons (pe_fld (pv 0) rfl) pa_nil))))) (pss_cons (ps_set (i := 3) c_cover.nd rfl (.inl rfl) (pe_lst pa_nil)) (pss_cons (ps_set (i := 4) c_cover.nd rfl (.inl rfl) (pv 1)) (pss_cons (ps_while PassesOwn.never (pt_cmpR op_lt (pv 4) (pv 2) (nomark _)) (pss_cons (ps_set (i := 5) c_cover.nd rfl (.inl rfl) (pc d_largest_block hr (by decide) (by rfl) (pa_cons (pv 0) (pa_cons (pv 4) (pa_cons (pv 2) pa_nil))))) (pss_cons (ps_expr (pe_bm PySem.F.plainAttrs_list PySem.F.slot_list_append PySem.F.type_list_append mt_append (pv 3) (pa_cons (pv 5) pa_nil))) (pss_one (ps_set (i := 4) c_cover.nd rfl (.inl rfl) (pe_ix ix_tup (pv 5) pe_int (fun _ _ => rfl))))))) (pss_cons (ps_assert (pt_val (pc d_is_cover hr (by decide) (by rfl) (pa_cons (pv 0) (pa_cons (pv 3) (pa_cons (pv 1) (pa_cons (pv 2) pa_nil))))))) (pss_one (ps_ret (pv 3)))))))), ?_⟩
  refine q_drop (ev_check (ev_var rfl) (ev_var rfl) (ev_pages T (evs_var rfl hS)) h0 h1 h2) fun H1 e1 => ?_
  refine q_asgL (el_lst ea_nil (by decide)) fun l H2 hl e2 hl2 => ?_
  have hl' := fresh_back e1 hl
  refine q_asg (ev_var rfl) fun H3 e3 => ?_
  refine q_while (fun m σ' H' => ∃ (i : Nat) (p : Int) (r : Option V) (us : List V), i ≤ bs.length ∧ m = bs.length - i ∧ σ' = [some v, some (.int st), some (.int en), some (.ref l), some (.int p), r] ∧ Ex H H' ∧ Greedy (spansOf ws) (prodI ws) en p (bs.drop i) ∧ H' l = some (.lst us) ∧ BlsOf H' (bs.take i) us) bs.length ⟨0, st, none, [], Nat.zero_le _, rfl, rfl, e1.trans (e2.trans e3), gr, e3 _ _ hl2, .nil⟩ fun m σ' H' ⟨i, p, r, us, hi, hm, eσ, ex, gr, hus, hb⟩ => ?_
  subst eσ
  refine ⟨decide (p < en), et_test (ev_op (ev_var rfl) (ev_var rfl) rv_I0), fun hc H4 e4 => ?_, fun hc H4 e4 => ?_⟩
  · have hp : p < en := by simpa using hc
    cases hbi : bs[i]? with
    | none =>
      have : bs.drop i = [] := List.drop_eq_nil_of_le (List.getElem?_eq_none_iff.mp hbi)
      rw [this] at gr
      have : p = en := gr
      omega
    | some ab =>
      obtain ⟨a, b⟩ := ab
      have hilt := (List.getElem?_eq_some_iff.mp hbi).1
      rw [drop_at hbi] at gr
      obtain ⟨g1, g2, g3, g4, ⟨lv, sp, g5, g6⟩, g7⟩ := gr
      subst g1 g6
      refine ⟨fun σ2 H5 => ∃ (r : Option V) (us : List V), σ2 = [some v, some (.int st), some (.int en), some (.ref l), some (.int (a + sp)), r] ∧ Ex H H5 ∧ H5 l = some (.lst us) ∧ BlsOf H5 (bs.take (i + 1)) us, fun σ2 H5 ⟨r, us, f1, f2, f3, f4⟩ => ⟨bs.length - (i + 1), by omega, i + 1, a + sp, r, us, hilt, rfl, f1, f2, g7, f3, f4⟩, ?_⟩
      refine q_asgP (P := TpAt [.int a, .int (a + sp)]) (evp_call (eap (ea_cons (ev_var rfl) (ea_cons (ev_var rfl) (ea_cons (ev_var rfl) ea_nil)))) fun vs H5 e5 ev Q k => ⟨v, ws, a, en, lv, sp, ev, ((hS.ex ex).ex e4).ex e5, hw, g3, g4, g5, k⟩) fun v5 H5 e5 h5 => ?_
      have hus5 := e5 _ _ (e4 _ _ hus)
      refine q_app hus5 (ev_var rfl) (ev_var rfl) (by rw [← hb.length, List.length_take]; omega) fun H6 e6 => ?_
      have tr : ∀ {xs : List V} {u : V}, TpAt xs u H6 → TpAt xs u (upd H6 l (.lst (us ++ [v5]))) := fun h => h.upd (e6 _ _ hus5)
      refine s_asg (ev_ixT (evt_var rfl (tr (h5.ex e6))) ev_c rfl) fun H7 e7 => ?_
      refine ⟨_, us ++ [v5], rfl, (Ex.mut (ex.trans (e4.trans (e5.trans e6))) hl').trans e7, e7 _ _ upd_same, ?_⟩
      rw [take_next hbi]
      exact ((((hb.ex e4).ex e5).ex e6).imp fun _ _ h => (tr h).ex e7).append (F2.one ((tr (h5.ex e6)).ex e7))
  · have hp : ¬ p < en := by simpa using hc
    cases hbi : bs[i]? with
    | some ab =>
      obtain ⟨a, b⟩ := ab
      rw [drop_at hbi] at gr
      exact absurd (gr.1 ▸ gr.2.1) hp
    | none =>
      have hil : i = bs.length := by have := List.getElem?_eq_none_iff.mp hbi; omega
      rw [hil, List.take_length] at hb
      refine q_assert (et_B (ev_callV (v := .bl true) (eap_cons (evp (ev_var (v := v) rfl)) (eap_cons (evp_var (P := LbAt bs) (v := .ref l) rfl fun H5 e5 => ⟨l, us, rfl, e5 _ _ (e4 _ _ hus), (hb.ex e4).ex e5⟩) (eap (ea_cons (ev_var rfl) (ea_cons (ev_var rfl) ea_nil))) fun _ _ _ e ⟨p, vs, h1, h2, h3⟩ => ⟨p, vs, h1, e _ _ h2, h3.ex e⟩) fun _ _ _ _ h => h) fun vs H5 e5 ⟨x1, w1, g1, g2, x2, w2, g3, g4, g5⟩ Q k => ⟨v, x2, ws, bs, st, en, by rw [g1, g2, g3, g5], ((hS.ex ex).ex e4).ex e5, hw, g4, cov, k⟩)) rfl fun H5 e5 => ?_
      exact s_ret (ev_var rfl) fun H6 e6 => kq l H6 hl' (ex.trans (e4.trans (e5.trans e6))) ⟨us, e6 _ _ (e5 _ _ (e4 _ _ hus)), ((hb.ex e4).ex e5).ex e6⟩
end
end Lp
end
section
set_option Elab.async false
set_option linter.all false
set_option maxRecDepth 100000
set_option maxHeartbeats 2000000
/-! Lp.X1: tables. -/
namespace Lp
open PySem PySem.Spec PyProof.Rows L2 Evl
abbrev Mm := Int → Option Mark
def empB (m : Mm) (lo sp : Int) : Bool := (List.range sp.toNat).all fun i => (m (lo + i)).isNone
def uniB (m : Mm) (lo sp : Int) : Bool := match m lo with
  | none => false
  | some k => (List.range sp.toNat).all fun i => decide (m (lo + i) = some (advM k i))
inductive Kd
  | non
  | mk (k : Mark)
  | tab
/-- what stands for the block of these widths that begins at lo -/
def kind (m : Mm) (ws : List Int) (lo : Int) : Kd := if empB m lo (prodI ws) then .non else match (if uniB m lo (prodI ws) || ws.isEmpty then m lo else none) with
  | some k => .mk k
  | none => .tab
def EntAt (m : Mm) (H : Hp) : List Int → Int → V → Prop
  | [], lo, v => match kind m [] lo with
    | .non => v = .non
    | .mk k => MkAt k v H
    | .tab => False
  | w :: ws, lo, v => match kind m (w :: ws) lo with
    | .non => v = .non
    | .mk k => MkAt k v H
    | .tab => ∃ p vs, v = .ref p ∧ H p = some (.lst vs) ∧ vs.length = w.toNat ∧ ∀ k u, vs[k]? = some u → EntAt m H ws (lo + (k : Nat) * prodI ws) u
/-- a table of the widths w :: ws -/
def TabAt (m : Mm) (w : Int) (ws : List Int) (lo : Int) (v : V) (H : Hp) : Prop := ∃ p vs, v = .ref p ∧ H p = some (.lst vs) ∧ vs.length = w.toNat ∧ ∀ k u, vs[k]? = some u → EntAt m H ws (lo + (k : Nat) * prodI ws) u
theorem EntAt.ex {m : Mm} {H H' : Hp} (e : Ex H H') : ∀ {ws : List Int} {lo : Int} {v : V}, EntAt m H ws lo v → EntAt m H' ws lo v
  | [], lo, v, h => by
    unfold EntAt at h ⊢
    cases hk : kind m [] lo with
    | non => rw [hk] at h; exact h
    | mk k => rw [hk] at h; exact TpAt.ex e h
    | tab => rw [hk] at h; exact h
  | w :: ws, lo, v, h => by
    unfold EntAt at h ⊢
    cases hk : kind m (w :: ws) lo with
    | non => rw [hk] at h; exact h
    | mk k => rw [hk] at h; exact TpAt.ex e h
    | tab =>
      rw [hk] at h
      obtain ⟨p, vs, h1, h2, h3, h4⟩ := h
      exact ⟨p, vs, h1, e _ _ h2, h3, fun k u hu => EntAt.ex e (h4 k u hu)⟩
theorem TabAt.ex {m : Mm} {w : Int} {ws : List Int} {lo : Int} {v : V} {H H' : Hp} (e : Ex H H') (h : TabAt m w ws lo v H) : TabAt m w ws lo v H' := by
  obtain ⟨p, vs, h1, h2, h3, h4⟩ := h
  exact ⟨p, vs, h1, e _ _ h2, h3, fun k u hu => (h4 k u hu).ex e⟩
/-- the three kinds of an entry -/
theorem ent_cases {m : Mm} {H : Hp} {ws : List Int} {lo : Int} {v : V} (h : EntAt m H ws lo v) :
    (kind m ws lo = .non ∧ v = .non) ∨ (∃ k, kind m ws lo = .mk k ∧ MkAt k v H) ∨ (kind m ws lo = .tab ∧ ∃ w ws', ws = w :: ws' ∧ TabAt m w ws' lo v H) := by
  cases ws with
  | nil =>
    unfold EntAt at h
    cases hk : kind m [] lo with
    | non => rw [hk] at h; exact .inl ⟨rfl, h⟩
    | mk k => rw [hk] at h; exact .inr (.inl ⟨k, rfl, h⟩)
    | tab => rw [hk] at h; exact h.elim
  | cons w ws =>
    unfold EntAt at h
    cases hk : kind m (w :: ws) lo with
    | non => rw [hk] at h; exact .inl ⟨rfl, h⟩
    | mk k => rw [hk] at h; exact .inr (.inl ⟨k, rfl, h⟩)
    | tab => rw [hk] at h; exact .inr (.inr ⟨rfl, w, ws, rfl, h⟩)
/-- the marks in an entry -/
def blkRows (m : Mm) : List Int → Int → List Row
  | [], lo => match kind m [] lo with
    | .mk k => [⟨lo, lo + prodI [], k⟩]
    | _ => []
  | w :: ws, lo => match kind m (w :: ws) lo with
    | .non => []
    | .mk k => [⟨lo, lo + prodI (w :: ws), k⟩]
    | .tab => (List.range w.toNat).flatMap fun k => blkRows m ws (lo + (k : Nat) * prodI ws)
def tabRows (m : Mm) (w : Int) (ws : List Int) (lo : Int) : List Row := (List.range w.toNat).flatMap fun k => blkRows m ws (lo + (k : Nat) * prodI ws)
theorem blk_non {m : Mm} {ws : List Int} {lo : Int} (h : kind m ws lo = .non) : blkRows m ws lo = [] := by
  cases ws <;> (unfold blkRows; rw [h])
theorem blk_mk {m : Mm} {ws : List Int} {lo : Int} {k : Mark} (h : kind m ws lo = .mk k) : blkRows m ws lo = [⟨lo, lo + prodI ws, k⟩] := by
  cases ws <;> (unfold blkRows; rw [h])
theorem blk_tab {m : Mm} {w : Int} {ws : List Int} {lo : Int} (h : kind m (w :: ws) lo = .tab) : blkRows m (w :: ws) lo = tabRows m w ws lo := by
  unfold blkRows
  rw [h]
  rfl
/-! ### isinstance -/
section
variable {K : PySem.W.Frag} {σ : L2.St} {H : Hp} {ta tb : TE}
/-- isinstance(x, T): T a built-in -/
theorem ev_isi {v : V} {t : Value} {n : String} {b : Bool} (ha : Ev ta σ H v) (hb : Ev tb σ H (.ty n)) (ht : ∀ H1, Ex H H1 → TyX K H1 v t) (hk : PySem.W.kitOne K t (.type n) = some b) : Ev (tCB (rIsi K) (tCons ta (tCons tb tNil))) σ H (.bl b) := fun H1 e Q q =>
  ha H1 e _ fun H2 e2 => hb H2 (e.trans e2) _ fun H3 e3 => ⟨v, .ty n, t, .type n, b, rfl, .ty n, ht _ ((e.trans e2).trans e3), hk, q _ (e2.trans e3)⟩
theorem isi_list {v : V} {m : Mm} {ws : List Int} {lo : Int} (h : EntAt m H ws lo v) (ha : Ev ta σ H v) (hb : Ev tb σ H (.ty "list")) : Ev (tCB (rIsi K) (tCons ta (tCons tb tNil))) σ H (.bl (match kind m ws lo with | .tab => true | _ => false)) := by
  rcases ent_cases h with ⟨hk, rfl⟩ | ⟨k, hk, p, rfl, hp⟩ | ⟨hk, w, ws', rfl, p, vs, rfl, hp, _⟩
  · rw [hk]; exact ev_isi ha hb (fun _ _ => .base .non) (kit_ty (by decide +kernel))
  · rw [hk]; exact ev_isi (b := false) ha hb (fun _ e => .base (.tup (e _ _ hp))) (kit_ty (by decide +kernel))
  · rw [hk]; exact ev_isi ha hb (fun _ e => .base (.lst (e _ _ hp))) (kit_ty (by decide +kernel))
end
end Lp
end
section
set_option Elab.async false
set_option linter.all false
set_option maxRecDepth 100000
set_option maxHeartbeats 4000000
/-! Lp.X2: the generator marked_blocks. -/
namespace Lp
open PySem PySem.Spec PyProof.Rows L2 Evl GenW
def spMB (C : Addr) (d : Nat) : SpN := fun vs H n Q => ∃ (sv : V) (all : List Int) (lev : Nat) (lo : Int) (v : V) (m : Mm) (w : Int) (ws : List Int), vs = [sv, .int lev, .int lo, v] ∧ ShAt C all sv H ∧ WOk all ∧ all.drop lev = w :: ws ∧ ws.length < d ∧ TabAt m w ws lo v H ∧
  n = (tabRows m w ws lo).length ∧ n ≤ 5000 ∧ ∀ ys H', Ex H H' → RwsOf H' (tabRows m w ws lo) ys → Q ys H'
theorem span_at {all : List Int} {lev : Nat} {w : Int} {ws : List Int} (h : all.drop lev = w :: ws) : (spansOf all)[lev]? = some (prodI ws) := by
  have hl : lev < all.length := by
    rcases Nat.lt_or_ge lev all.length with c | c
    · exact c
    · rw [List.drop_eq_nil_of_le c] at h; cases h
  unfold spansOf
  rw [List.getElem?_map, List.getElem?_range hl]
  have e : all.drop (lev + 1) = ws := by
    rw [← List.drop_drop, h]
    rfl
  show some (prodI (all.drop (lev + 1))) = some (prodI ws)
  rw [e]
theorem drop_next {all : List Int} {lev : Nat} {w : Int} {ws : List Int} (h : all.drop lev = w :: ws) : all.drop (lev + 1) = ws := by
  rw [← List.drop_drop, h]
  rfl
/-- how many marks stand from entry i on -/
def remB (m : Mm) (ws : List Int) (lo : Int) (n i : Nat) : Nat := (((List.range n).drop i).map fun k => (blkRows m ws (lo + (k : Nat) * prodI ws)).length).sum
theorem remB_next {m : Mm} {ws : List Int} {lo : Int} {n i : Nat} (h : i < n) : remB m ws lo n i = (blkRows m ws (lo + (i : Nat) * prodI ws)).length + remB m ws lo n (i + 1) := by
  unfold remB
  rw [drop_at (List.getElem?_range h), List.map_cons, List.sum_cons]
theorem remB_end {m : Mm} {ws : List Int} {lo : Int} {n : Nat} : remB m ws lo n n = 0 := by
  unfold remB
  rw [List.drop_eq_nil_of_le (by simp)]
  rfl
theorem remB_zero {m : Mm} {w : Int} {ws : List Int} {lo : Int} : remB m ws lo w.toNat 0 = (tabRows m w ws lo).length := by
  unfold remB tabRows
  rw [List.drop_zero, List.length_flatMap]
/-- the marks of the first i entries -/
def preB (m : Mm) (ws : List Int) (lo : Int) (i : Nat) : List Row := (List.range i).flatMap fun k => blkRows m ws (lo + (k : Nat) * prodI ws)
theorem preB_next {m : Mm} {ws : List Int} {lo : Int} {i : Nat} : preB m ws lo (i + 1) = preB m ws lo i ++ blkRows m ws (lo + (i : Nat) * prodI ws) := by
  unfold preB
  rw [List.range_succ, List.flatMap_append]
  simp
theorem preB_len {m : Mm} {ws : List Int} {lo : Int} {n i : Nat} (h : i ≤ n) : (preB m ws lo i).length + remB m ws lo n i = remB m ws lo n 0 := by
  induction i with
  | zero => simp [preB]
  | succ i ih =>
    have h1 := ih (by omega)
    rw [remB_next (by omega)] at h1
    rw [preB_next, List.length_append]
    omega
section
variable {K : PySem.W.Frag} {σ : L2.St} {H : Hp} {ta tb : TE}
theorem ev_meth {C : Addr} {m : PySem.Str} {sp : Sp} {E : XK} {t : TA} {R : List V → Hp → Prop} {Pr P : V → Hp → Prop} (ha : EvP ta σ H Pr) (ht : EvAP t σ H R) (hm : ∀ v H H', Ex H H' → Pr v H → Pr v H') (hins : ∀ v H, Pr v H → ∃ a dx fs, v = .ref a ∧ H a = some (.ins C dx fs) ∧ fs.lookup m = none)
    (k : ∀ v vs H1, Ex H H1 → Pr v H1 → R vs H1 → ∀ Q : VK, (∀ u H2, Ex H1 H2 → P u H2 → Q u H2) → sp (v :: vs) H1 Q E) : EvP (tMeth C m sp [] E ta t) σ H P := fun H1 e Q q =>
  ha H1 e _ fun v H2 e2 hv => let ⟨a, dx, fs, h1, h2, h3⟩ := hins v H2 hv; ⟨a, dx, fs, h1, h2, h3, ht H2 (e.trans e2) _ fun vs H3 e3 hvs => by
    rw [List.append_nil]
    exact k v vs H3 ((e.trans e2).trans e3) (hm _ _ _ e3 hv) hvs Q fun u H4 e4 hu => q u H4 ((e2.trans e3).trans e4) hu⟩
theorem sh_ins {C : Addr} {ws : List Int} {v : V} {H : Hp} {m : PySem.Str} (h1 : ¬ m = "widths") (h2 : ¬ m = "levels") (h3 : ¬ m = "page_count") (h4 : ¬ m = "spans") (h : ShAt C ws v H) : ∃ a dx fs, v = .ref a ∧ H a = some (.ins C dx fs) ∧ fs.lookup m = none :=
  let ⟨p, dx, tw, ts, g0, g1, g2, g3⟩ := h; ⟨p, dx, _, g0, g1, fs_no _ _ _ _ h1 h2 h3 h4⟩
theorem ev_span {C : Addr} {ws : List Int} {E : XK} {i : Nat} {sp : Int} (ha : EvP ta σ H (ShAt C ws)) (hb : Ev tb σ H (.int (i : Int))) (hsp : (spansOf ws)[i]? = some sp) : Ev (tMeth C "span" (spSpan C) [] E ta (tCons tb tNil)) σ H (.int sp) := by
  have z := ev_meth (P := fun v _ => v = V.int sp) (sp := spSpan C) (C := C) (m := "span") (E := E) ha (eap (ea_cons hb ea_nil)) (fun _ _ _ e h => h.ex e) (fun v H h => sh_ins (by decide +kernel) (by decide +kernel) (by decide +kernel) (by decide +kernel) h) fun v vs H1 _ hv ev Q q => ⟨v, ws, i, sp, by rw [ev], hv, hsp, fun H2 e2 => q _ H2 e2 rfl⟩
  exact fun H1 e Q q => z H1 e Q fun v H2 e2 ev => by rw [ev]; exact q H2 e2
theorem rv_notN {x : V} : RV (fun x y H Q => y = V.non ∧ Q (.bl (!decide (x = V.non))) H) x .non H (.bl (!decide (x = V.non))) := fun H1 _ _ q => ⟨rfl, q H1 (Ex.refl H1)⟩
end
section
variable {P : Program} {w : World} {K : PySem.W.Frag} {mg : PySem.Str → Option Value} {base : Heap} {C : Addr}
theorem gfn_mb (m_isinstance : mg "isinstance" = none) (m_list : mg "list" = none) (m_enumerate : mg "enumerate" = none) (d_span : Mt P w K mg base 1 C "span" (spSpan C)) {f : Addr} {fd : FuncData} (F : L2.Fun K "marked_blocks" "marked_blocks" s_marked_blocks f fd) (hm : mg "marked_blocks" = some (.ref f)) (hb : Binds K fd p_marked_blocks []) :
    ∀ d : Nat, GFnC P w K mg base (2 * d + 3) f fd p_marked_blocks (spMB C d) := by
  intro d
  induction d with
  | zero =>
    refine ⟨fun vs H n Q h => ?_, fun A outer s H args us vs n Q hr e0 hb hv h => ?_⟩
    · obtain ⟨_, _, _, _, _, _, _, _, _, _, _, _, h, _⟩ := h
      exact absurd h (Nat.not_lt_zero _)
    · obtain ⟨_, _, _, _, _, _, _, _, _, _, _, _, h, _⟩ := h
      exact absurd h (Nat.not_lt_zero _)
  | succ d ih =>
    have kp := F.kp
    obtain ⟨oc, od, kV, doc, pm', an, cdv, ct, osl, rfl, lk, hcd⟩ := F.ex
    refine gen_of lk hcd c_marked_blocks (fun vs H n Q h => ?_) fun A outer s H vs n Q hr hsp Sx a g chA DlA GsA pre s2 Rt J hDl hGs hpre hG hend => ?_
    · obtain ⟨_, _, _, _, _, _, _, _, rfl, _⟩ := h
      rfl
    obtain ⟨sv, all, lev, lo, v, m, wd, ws, rfl, hS, hw, hdrop, hd, hT, rfl, hn, kq⟩ := hsp
    obtain ⟨p, es, rfl, hp, hes, hent⟩ := id hT
    have hps := (prod_ok hw)
    have hsp := span_at hdrop
    have hso := span_ok hw hsp
    have GC : GCd (gx P w K mg base n_marked_blocks "marked_blocks" (defScope s_marked_blocks) f cdv A outer s H (Sx :: chA.map (·.1))) A (.func (defBody s_marked_blocks) (envOfC "marked_blocks" (defScope s_marked_blocks) s.heap.objs.size f cdv)) [] id := ⟨rfl, rfl, rfl, rfl, rfl⟩
    have hD' : ∀ b ∈ a :: DlA, b ∈ ((a, g) :: chA).map (·.1) := fun b hb => by
      rcases List.mem_cons.mp hb with e | hb
      · rw [e]; exact List.mem_cons_self
      · exact List.mem_cons_of_mem _ (hDl b hb)
    have hGs' : ∀ j ∈ g :: GsA, j ∈ ((a, g) :: chA).map (·.2) := fun j hj => by
      rcases List.mem_cons.mp hj with e | hj
      · rw [e]; exact List.mem_cons_self
      · exact List.mem_cons_of_mem _ (hGs j hj)
    rw [← remB_zero] at hpre ⊢
    -- span, later
    refine gb_step (ps_set (i := 4) c_marked_blocks.nd rfl (.inl rfl) (pm d_span hr (by omega) (pv 0) (pa_cons (pv 1) pa_nil))) GC hG (nx := fun σ' H' => σ' = [some sv, some (.int lev), some (.int lo), some (.ref p), some (.int (prodI ws)), none, none, none, none] ∧ Ex H H') (s_asg (ev_span (evs_var rfl hS) (ev_var rfl) hsp) fun H1 e1 => ⟨rfl, e1⟩) fun s3 σ3 H3 I3 ⟨eσ3, ex3⟩ => ?_
    subst eσ3
    refine gb_step (ps_set (i := 5) c_marked_blocks.nd rfl (.inl rfl) (pe_op op_add (pv 1) pe_int)) GC I3 (nx := fun σ' H' => σ' = [some sv, some (.int lev), some (.int lo), some (.ref p), some (.int (prodI ws)), some (.int ((lev + 1 : Nat) : Int)), none, none, none] ∧ Ex H H') (s_asg (v := .int ((lev + 1 : Nat) : Int)) (ev_is (ev_op (ev_var rfl) ev_c rv_I0) (by simp)) fun H1 e1 => ⟨rfl, ex3.trans e1⟩) fun s4 σ4 H4 I4 ⟨eσ4, ex4⟩ => ?_
    subst eσ4
    -- the walk
    refine gb_cons (gb_for (N := wd.toNat) (rem := remB m ws lo wd.toNat)
      (W := fun i ys σ' H' => ∃ (r6 r7 r8 : Option V) (zs : List V), σ' = [some sv, some (.int lev), some (.int lo), some (.ref p), some (.int (prodI ws)), some (.int ((lev + 1 : Nat) : Int)), r6, r7, r8] ∧ Ex H H' ∧ ys = pre ++ zs ∧ RwsOf H' (preB m ws lo i) zs)
      (B := fun i ys σ' H' => ∃ (x r8 : Option V) (y : V) (zs : List V), es[i]? = some y ∧ σ' = [some sv, some (.int lev), some (.int lo), some (.ref p), some (.int (prodI ws)), some (.int ((lev + 1 : Nat) : Int)), some (.int (i : Nat)), some y, r8] ∧ Ex H H' ∧ ys = pre ++ zs ∧ RwsOf H' (preB m ws lo i) zs)
      rfl (pi_enum (by rfl) m_enumerate (pa_cons (pv 3) pa_nil)) (pg_tup rfl (pgs_cons (pg_name (i := 6) c_marked_blocks.nd rfl (.inl rfl)) (pgs_cons (pg_name (i := 7) c_marked_blocks.nd rfl (.inl rfl)) pgs_nil))) GC I4 ?_ ?_ ?_)
    · refine ⟨_, rfl, p, es, rfl, sq_of (ex4 _ _ hp), ⟨none, none, none, [], rfl, ex4, by simp, .nil⟩, fun ys σ' H' ⟨r6, r7, r8, zs, eσ, ex, ey, hz⟩ => ⟨es, sq_of (ex _ _ hp), by omega⟩, fun i ys σ' H' hi ⟨r6, r7, r8, zs, eσ, ex, ey, hz⟩ => ?_⟩
      have hil : i < es.length := by omega
      refine ⟨⟨es, es[i], sq_of (ex _ _ hp), List.getElem?_eq_getElem hil⟩, fun x H5 ⟨t, y, ex1, ht, eH, hy⟩ => ?_⟩
      subst ex1 eH eσ
      have e5 := Ex.new (o := HO.tup [V.int (i : Nat), y]) ht
      exact ⟨t, [V.int (i : Nat), y], rfl, st_of upd_same, rfl, _, _, rfl, _, _, rfl, rfl, none, _, y, zs, hy es (sq_of (ex _ _ hp)), rfl, ex.trans e5, ey, hz.ex e5⟩
    · intro i ip' ys' σ' H' s' c' fs' K' J' gd' lv' hi G' I' ⟨x, r8, y, zs, hy, eσ, ex, ey, hz⟩ kk
      subst eσ ey
      have he := (hent i y hy).ex ex
      have hlen := hz.length
      have hpl := preB_len (m := m) (ws := ws) (lo := lo) (Nat.le_of_lt hi)
      have hnx := remB_next (m := m) (ws := ws) (lo := lo) hi
      have hpn := preB_next (m := m) (ws := ws) (lo := lo) (i := i)
      refine gb_step (ps_set (i := 8) c_marked_blocks.nd rfl (.inl rfl) (pe_op op_add (pv 2) (pe_op op_mul (pv 6) (pv 4)))) G' I' (nx := fun σ2 H2 => σ2 = [some sv, some (.int lev), some (.int lo), some (.ref p), some (.int (prodI ws)), some (.int ((lev + 1 : Nat) : Int)), some (.int (i : Nat)), some y, some (.int (lo + (i : Nat) * prodI ws))] ∧ Ex H' H2)
        (s_asg (ev_op (ev_var rfl) (ev_op (ev_var rfl) (ev_var rfl) (rv_I (C := CMul) (.inr ⟨by omega, by omega⟩))) rv_I0) fun H1 e1 => ⟨rfl, e1⟩) fun s5 σ5 H5 I5 ⟨eσ5, ex5⟩ => ?_
      subst eσ5
      have he5 := he.ex ex5
      refine gb_cons (gb_if (pt_val (pe_callB call_isi (by rfl) m_isinstance boot_isinstance (pa_cons (pv 7) (pa_cons (pe_bltn (by rfl) m_list boot_list (v := .ty "list") rfl) pa_nil)))) G' I5 (Qb := fun b H2 => Ex H5 H2 ∧ b = (match kind m ws (lo + (i : Nat) * prodI ws) with | .tab => true | _ => false)) (et_B (isi_list he5 (ev_var rfl) ev_c) H5 (Ex.refl _) _ fun H2 e2 => ⟨e2, rfl⟩) (fun s6 H6 I6 ⟨ex6, hb6⟩ => ?_) fun s6 H6 I6 ⟨ex6, hb6⟩ => ?_)
      · -- a table below
        have he6 := he5.ex ex6
        rcases ent_cases he6 with ⟨hk, _⟩ | ⟨k, hk, _⟩ | ⟨hk, w', ws', ews, hT'⟩
        · rw [hk] at hb6; cases hb6
        · rw [hk] at hb6; cases hb6
        subst ews
        rw [hnx, blk_tab hk]
        refine gb_cons (gb_yieldFrom (pgen_callC ih (hr.mono (by omega)) (by rfl) hm kp hb .nil (pa_cons (pv 0) (pa_cons (pv 5) (pa_cons (pv 8) (pa_cons (pv 7) pa_nil))))) rfl hr G' I6 hD' hGs' ?_ (cont := fun ys H7 => Ex H6 H7 ∧ RwsOf H7 (tabRows m w' ws' (lo + (i : Nat) * prodI (w' :: ws'))) ys) ?_ fun s7 ys7 H7 I7 hl7 ⟨ex7, hy7⟩ => ?_)
        · rw [blk_tab hk] at hnx
          rw [List.length_append]
          omega
        · refine ⟨_, rfl, _, rfl, _, rfl, _, rfl, sv, all, lev + 1, _, y, m, w', ws', rfl, (((hS.ex ex).ex ex5).ex ex6), hw, drop_next hdrop, by simp only [List.length_cons] at hd; omega, hT', rfl, ?_, fun ys H7 e7 h7 => ⟨e7, h7⟩⟩
          rw [blk_tab hk] at hnx
          rw [← remB_zero] at hn
          omega
        · refine kk s7 _ _ _ I7 ⟨_, _, _, zs ++ ys7, rfl, ex.trans (ex5.trans (ex6.trans ex7)), by rw [List.append_assoc], ?_⟩
          rw [hpn, blk_tab hk]
          exact (((hz.ex ex5).ex ex6).ex ex7).append hy7
      · have he6 := he5.ex ex6
        refine gb_cons (gb_if (pt_cmpR op_notN (pv 7) pe_non (nomark _)) G' I6 (Qb := fun b H2 => Ex H6 H2 ∧ b = !decide (y = .non)) (et_test (ev_op (ev_var rfl) ev_c rv_notN) H6 (Ex.refl _) _ fun H2 e2 => ⟨e2, rfl⟩) (fun s7 H7 I7 ⟨ex7, hb7⟩ => ?_) fun s7 H7 I7 ⟨ex7, hb7⟩ => ?_)
        · have he7 := he6.ex ex7
          rcases ent_cases he7 with ⟨hk, ev⟩ | ⟨k, hk, hmk⟩ | ⟨hk, _⟩
          · rw [ev] at hb7; simp at hb7
          · rw [hnx, blk_mk hk, show ([⟨lo + (i : Nat) * prodI ws, lo + (i : Nat) * prodI ws + prodI ws, k⟩] : List Row).length + remB m ws lo wd.toNat (i + 1) = remB m ws lo wd.toNat (i + 1) + 1 from Nat.add_comm _ _]
            refine gb_cons (gb_yield (Qe := fun v H8 => Ex H7 H8 ∧ RwAt ⟨lo + (i : Nat) * prodI ws, lo + (i : Nat) * prodI ws + prodI ws, k⟩ v H8) (pe_op op_catT (pe_tup (pa_cons (pv 8) (pa_cons (pe_op op_add (pv 8) (pv 4)) pa_nil))) (pv 7)) G' hD' I7 ?_ ?_ fun x8 s8 H8 I8 ⟨ex8, h8⟩ => ?_)
            · rw [blk_mk hk] at hnx
              simp only [List.length_cons, List.length_nil] at hnx
              rw [List.length_append]
              omega
            · refine evp_cat (eup (eu_tup (ea_cons (ev_var rfl) (ea_cons (ev_op (ev_var rfl) (ev_var rfl) rv_I0) ea_nil)) (by show 2 ≤ 100000; decide))) (evt_var rfl hmk) (by simp) (by simp [mv]) (by show 2 + 3 ≤ 1000; decide) H7 (Ex.refl _) _ fun v H8 e8 h8 => ⟨e8, h8⟩
            · refine kk s8 _ _ _ I8 ⟨_, _, _, zs ++ [x8], rfl, ex.trans (ex5.trans (ex6.trans (ex7.trans ex8))), by rw [List.append_assoc], ?_⟩
              rw [hpn, blk_mk hk]
              exact ((((hz.ex ex5).ex ex6).ex ex7).ex ex8).append (F2.one h8)
          · rw [hk] at hb6; cases hb6
        · have he7 := he6.ex ex7
          rcases ent_cases he7 with ⟨hk, ev⟩ | ⟨k, hk, q, ev, _⟩ | ⟨hk, _⟩
          · rw [hnx, blk_non hk, List.length_nil, Nat.zero_add]
            refine gb_nil ?_
            refine kk s7 _ _ _ I7 ⟨_, _, _, zs, rfl, ex.trans (ex5.trans (ex6.trans ex7)), rfl, ?_⟩
            rw [hpn, blk_non hk, List.append_nil]
            exact ((hz.ex ex5).ex ex6).ex ex7
          · rw [ev] at hb7; simp at hb7
          · rw [hk] at hb6; cases hb6
    · intro s5 ys5 σ5 H5 I5 ⟨r6, r7, r8, zs, eσ, ex, ey, hz⟩
      subst eσ ey
      rw [remB_end]
      have hzl : zs.length = remB m ws lo wd.toNat 0 := by
        have h1 := preB_len (m := m) (ws := ws) (lo := lo) (Nat.le_refl wd.toNat)
        rw [remB_end] at h1
        rw [← hz.length]
        omega
      refine bd_end (.ok (.ret .none)) (.inl rfl) ?_
      exact hend s5 _ H5 zs I5 (by rw [hzl, remB_zero]) (kq zs H5 ex hz)
end
end Lp
end
section
set_option Elab.async false
set_option linter.all false
set_option maxRecDepth 100000
set_option maxHeartbeats 4000000
/-! Lp.X3: tables as data; stands_for_one, tables_in. -/
namespace Lp
open PySem PySem.Spec PyProof.Rows L2 Evl
def entD (m : Mm) : List Int → Int → PyData
  | [], lo => match kind m [] lo with
    | .mk k => md k
    | _ => .none
  | w :: ws, lo => match kind m (w :: ws) lo with
    | .non => .none
    | .mk k => md k
    | .tab => .list ((List.range w.toNat).map fun k => entD m ws (lo + (k : Nat) * prodI ws))
def okMm (m : Mm) : Prop := ∀ x k, m x = some k → okM k
theorem dpAll_map {α : Type} {K : PySem.W.Frag} {H : Hp} {l : List α} {f : α → PyData} {g : α → V} (h : ∀ a ∈ l, Dp K H (g a) (f a)) : DpAll K H (l.map g) (l.map f) := by
  induction l with
  | nil => exact .nil
  | cons a l ih => exact .cons (h a List.mem_cons_self) (ih fun b hb => h b (List.mem_cons_of_mem _ hb))
theorem eq_range_map (es : List V) : es = (List.range es.length).map fun i => (es[i]?).getD .non := by
  apply List.ext_getElem
  · simp
  · intro i h1 h2
    simp [List.getElem?_eq_getElem h1]
theorem kind_mem {m : Mm} {ws : List Int} {lo : Int} {k : Mark} (h : kind m ws lo = .mk k) : m lo = some k := by
  unfold kind at h
  split at h
  · cases h
  · split at h
    · rename_i k' hk
      cases h
      split at hk
      · exact hk
      · cases hk
    · cases h
section
variable {K : PySem.W.Frag}
theorem dp_ent {m : Mm} {H : Hp} : ∀ {ws : List Int} {lo : Int} {v : V}, EntAt m H ws lo v → Dp K H v (entD m ws lo)
  | [], lo, v, h => by
    unfold EntAt at h
    unfold entD
    cases hk : kind m [] lo with
    | non => rw [hk] at h; have e : v = .non := h; subst e; exact .non
    | mk k => rw [hk] at h; exact dp_mk h
    | tab => rw [hk] at h; exact h.elim
  | w :: ws, lo, v, h => by
    unfold EntAt at h
    unfold entD
    cases hk : kind m (w :: ws) lo with
    | non => rw [hk] at h; have e : v = .non := h; subst e; exact .non
    | mk k => rw [hk] at h; exact dp_mk h
    | tab =>
      rw [hk] at h
      obtain ⟨p, vs, rfl, h2, h3, h4⟩ := h
      refine .lst (sq_of h2) ?_
      rw [eq_range_map vs, h3]
      refine dpAll_map fun i hi => ?_
      have hi' : i < vs.length := by rw [h3]; exact List.mem_range.mp hi
      rw [List.getElem?_eq_getElem hi']
      exact dp_ent (h4 i _ (List.getElem?_eq_getElem hi'))
theorem depthAll_le {n : Nat} : ∀ {l : List PyData}, (∀ x ∈ l, PyData.depth x ≤ n) → PyData.depthAll l ≤ n
  | [], _ => Nat.zero_le _
  | x :: l, h => by
    rw [PyData.depthAll]
    exact Nat.max_le.mpr ⟨h x List.mem_cons_self, depthAll_le fun y hy => h y (List.mem_cons_of_mem _ hy)⟩
theorem canAll {l : List PyData} (h : ∀ x ∈ l, PyData.canLay0 x = true) : PyData.canLayAll0 l = true := by
  induction l with
  | nil => rfl
  | cons x l ih =>
    rw [PyData.canLayAll0, h x List.mem_cons_self, ih fun y hy => h y (List.mem_cons_of_mem _ hy)]
    rfl
theorem md_can {k : Mark} (h : okM k) : PyData.canLay0 (md k) = true ∧ PyData.depth (md k) ≤ 2 := by
  refine ⟨by simp [md, PyData.canLay0, PyData.canLayAll0, h.1, h.2], ?_⟩
  show PyData.depth (.tuple [.str k.r, .str k.f, .int k.i]) ≤ 2
  simp [PyData.depth, PyData.depthAll]
theorem ent_can {m : Mm} (ok : okMm m) : ∀ {ws : List Int} {lo : Int}, PyData.canLay0 (entD m ws lo) = true ∧ PyData.depth (entD m ws lo) ≤ ws.length + 2
  | [], lo => by
    unfold entD
    cases hk : kind m [] lo with
    | non => exact ⟨rfl, by show PyData.depth .none ≤ _; simp [PyData.depth]⟩
    | mk k => exact ⟨(md_can (ok _ _ (kind_mem hk))).1, (md_can (ok _ _ (kind_mem hk))).2⟩
    | tab => exact ⟨rfl, by show PyData.depth .none ≤ _; simp [PyData.depth]⟩
  | w :: ws, lo => by
    unfold entD
    cases hk : kind m (w :: ws) lo with
    | non => exact ⟨rfl, by show PyData.depth .none ≤ _; simp [PyData.depth]⟩
    | mk k => exact ⟨(md_can (ok _ _ (kind_mem hk))).1, by have := (md_can (ok _ _ (kind_mem hk))).2; show PyData.depth (md k) ≤ _; simp only [List.length_cons]; omega⟩
    | tab =>
      refine ⟨?_, ?_⟩
      · show PyData.canLayAll0 _ = true
        refine canAll fun x hx => ?_
        obtain ⟨i, _, rfl⟩ := List.mem_map.mp hx
        exact (ent_can ok).1
      · show PyData.depth (.list _) ≤ _
        rw [PyData.depth]
        have : PyData.depthAll ((List.range w.toNat).map fun k => entD m ws (lo + (k : Nat) * prodI ws)) ≤ ws.length + 2 := depthAll_le fun x hx => by
          obtain ⟨i, _, rfl⟩ := List.mem_map.mp hx
          exact (ent_can ok).2
        simp only [List.length_cons]
        omega
theorem shaped_of {d : PyData} (h1 : PyData.canLay0 d = true) (h2 : PyData.depth d ≤ 64) : SeqAt.shaped d = true := by
  unfold SeqAt.shaped
  rw [h1, decide_eq_true h2]
  rfl
theorem shaped_list {l : List PyData} (h : ∀ x ∈ l, PyData.canLay0 x = true ∧ PyData.depth x ≤ 60) : SeqAt.shaped (.list l) = true := by
  refine shaped_of ?_ ?_
  · show PyData.canLayAll0 l = true
    exact canAll fun x hx => (h x hx).1
  · rw [PyData.depth]
    have := depthAll_le (n := 60) (l := l) fun x hx => (h x hx).2
    omega
theorem eqv_nil (l : List PyData) : PyData.eqv (.list l) (.list []) = l.isEmpty := by
  rw [PyData.eqv]
  cases l <;> simp [PyData.eqvAll]
/-- a list of such values against [] -/
theorem given_dp {H : Hp} {m : Mm} {ws : List Int} {es : List V} {lo : Int} {p : Addr} {f : Nat → Bool} {n : Nat} (hn : n ≤ es.length) (he : ∀ (k : Nat) u, es[k]? = some u → EntAt m H ws (lo + (k : Nat) * prodI ws) u) (hp : H p = some (.lst (given n f fun i => (es[i]?).getD .non))) :
    Dp K H (.ref p) (.list (((List.range n).filter f).map fun i => entD m ws (lo + (i : Nat) * prodI ws))) := by
  refine .lst (sq_of hp) ?_
  unfold given
  refine dpAll_map fun i hi => ?_
  have hi' : i < es.length := Nat.lt_of_lt_of_le (List.mem_range.mp (List.mem_filter.mp hi).1) hn
  rw [List.getElem?_eq_getElem hi']
  exact dp_ent (he i _ (List.getElem?_eq_getElem hi'))
end
end Lp
end
section
set_option Elab.async false
set_option linter.all false
set_option maxRecDepth 100000
set_option maxHeartbeats 2000000
/-! Lp.M1: what rows describe; the one shortest list of rows. -/
namespace Lp
open PySem
theorem advM_zero (k : Mark) : advM k 0 = k := by
  unfold advM
  split
  · rfl
  · simp
theorem advM_f (k : Mark) (a : Int) : (advM k a).f = k.f := by
  unfold advM
  split <;> rfl
theorem advM_add (k : Mark) (a b : Int) : advM (advM k a) b = advM k (a + b) := by
  by_cases h : k.f = ("" : PySem.Str)
  · have e : ∀ c, advM k c = k := fun c => by rw [advM, if_pos h]
    rw [e, e, e]
  · have e : ∀ (q : Mark) c, ¬ q.f = ("" : PySem.Str) → advM q c = { q with i := q.i + c } := fun q c hq => by rw [advM, if_neg hq]
    rw [e k a h, e _ b (by simpa using h), e k _ h]
    simp [Int.add_assoc]
theorem empB_iff {m : Mm} {lo sp : Int} : empB m lo sp = true ↔ ∀ x, lo ≤ x → x < lo + sp → m x = none := by
  unfold empB
  simp only [List.all_eq_true, List.mem_range, Option.isNone_iff_eq_none]
  constructor
  · intro h x h1 h2
    have := h (x - lo).toNat (by omega)
    rwa [show lo + ((x - lo).toNat : Int) = x by omega] at this
  · intro h i hi
    exact h _ (by omega) (by omega)
theorem uniB_iff {m : Mm} {lo sp : Int} : uniB m lo sp = true ↔ ∃ k, m lo = some k ∧ ∀ x, lo ≤ x → x < lo + sp → m x = some (advM k (x - lo)) := by
  unfold uniB
  cases hm : m lo with
  | none => simp
  | some k =>
    simp only [List.all_eq_true, List.mem_range, decide_eq_true_eq]
    constructor
    · intro h
      refine ⟨k, rfl, fun x h1 h2 => ?_⟩
      have := h (x - lo).toNat (by omega)
      rwa [show lo + ((x - lo).toNat : Int) = x by omega, show ((x - lo).toNat : Int) = x - lo by omega] at this
    · rintro ⟨k', e, h⟩ i hi
      cases e
      rw [h _ (by omega) (by omega), show lo + (i : Int) - lo = i by omega]
/-- the rows tell m on [lo, hi) -/
def Desc (m : Mm) : Int → Int → List Row → Prop
  | lo, hi, [] => lo ≤ hi ∧ ∀ x, lo ≤ x → x < hi → m x = none
  | lo, hi, r :: rs => lo ≤ r.s ∧ r.s < r.e ∧ r.e ≤ hi ∧ (∀ x, lo ≤ x → x < r.s → m x = none) ∧ (∀ x, r.s ≤ x → x < r.e → m x = some (advM r.m (x - r.s))) ∧ Desc m r.e hi rs
/-- no row continues the one before it -/
def NC : Option (Int × Mark) → List Row → Prop
  | _, [] => True
  | p, r :: rs => (∀ k, p = some (r.s, k) → r.m ≠ k) ∧ NC (some (r.e, advM r.m (r.e - r.s))) rs
theorem Desc.le {m : Mm} {lo hi : Int} {rs : List Row} (h : Desc m lo hi rs) : lo ≤ hi := by
  cases rs with
  | nil => exact h.1
  | cons r rs => obtain ⟨h1, h2, h3, _⟩ := h; omega
theorem Desc.congr {m m' : Mm} {rs : List Row} {lo hi : Int} (h : Desc m lo hi rs) (e : ∀ x, lo ≤ x → x < hi → m' x = m x) : Desc m' lo hi rs := by
  induction rs generalizing lo with
  | nil => exact ⟨h.1, fun x h1 h2 => by rw [e x h1 h2]; exact h.2 x h1 h2⟩
  | cons r rs ih =>
    obtain ⟨h1, h2, h3, h4, h5, h6⟩ := h
    exact ⟨h1, h2, h3, fun x a b => by rw [e x a (by omega)]; exact h4 x a b, fun x a b => by rw [e x (by omega) (by omega)]; exact h5 x a b, ih h6 fun x a b => e x (by omega) b⟩
theorem Desc.ext {m : Mm} {rs : List Row} {lo mid hi : Int} (h : Desc m mid hi rs) (hl : lo ≤ mid) (e : ∀ x, lo ≤ x → x < mid → m x = none) : Desc m lo hi rs := by
  cases rs with
  | nil => exact ⟨by have := h.1; omega, fun x h1 h2 => if c : x < mid then e x h1 c else h.2 x (by omega) h2⟩
  | cons r rs =>
    obtain ⟨h1, h2, h3, h4, h5, h6⟩ := h
    exact ⟨by omega, h2, h3, fun x a b => if c : x < mid then e x a c else h4 x (by omega) b, h5, h6⟩
theorem Desc.append {m : Mm} {as bs : List Row} {lo mid hi : Int} (ha : Desc m lo mid as) (hb : Desc m mid hi bs) : Desc m lo hi (as ++ bs) := by
  induction as generalizing lo with
  | nil => exact hb.ext ha.1 ha.2
  | cons r rs ih =>
    obtain ⟨h1, h2, h3, h4, h5, h6⟩ := ha
    have := hb.le
    exact ⟨h1, h2, by omega, h4, h5, ih h6⟩
theorem desc_first {m : Mm} {rs : List Row} {lo hi : Int} {k : Mark} (h : Desc m lo hi rs) (hl : lo < hi) (hm : m lo = some k) : ∃ r rs', rs = r :: rs' ∧ r.s = lo ∧ r.m = k := by
  cases rs with
  | nil => rw [h.2 lo (Int.le_refl _) hl] at hm; cases hm
  | cons r rs =>
    obtain ⟨h1, h2, h3, h4, h5, h6⟩ := h
    have e : r.s = lo := by
      rcases Int.lt_or_le lo r.s with c | c
      · rw [h4 lo (Int.le_refl _) c] at hm; cases hm
      · omega
    refine ⟨r, rs, rfl, e, ?_⟩
    have := h5 r.s (Int.le_refl _) h2
    rw [e, hm, Int.sub_self, advM_zero] at this
    exact (Option.some.inj this).symm
/-- one list alone -/
theorem desc_unique {m : Mm} {rs qs : List Row} {lo hi : Int} {p p' : Option (Int × Mark)} (hr : Desc m lo hi rs) (hq : Desc m lo hi qs) (nr : NC p rs) (nq : NC p' qs) : rs = qs := by
  induction rs generalizing lo qs p p' with
  | nil =>
    cases qs with
    | nil => rfl
    | cons q qs =>
      obtain ⟨h1, h2, h3, h4, h5, h6⟩ := hq
      have a := h5 q.s (Int.le_refl _) h2
      rw [hr.2 q.s h1 (by omega)] at a
      cases a
  | cons r rs ih =>
    obtain ⟨a1, a2, a3, a4, a5, a6⟩ := hr
    cases qs with
    | nil =>
      have a := a5 r.s (Int.le_refl _) a2
      rw [hq.2 r.s a1 (by omega)] at a
      cases a
    | cons q qs =>
      obtain ⟨b1, b2, b3, b4, b5, b6⟩ := hq
      have es : r.s = q.s := by
        rcases Int.lt_trichotomy r.s q.s with c | c | c
        · have a := a5 r.s (Int.le_refl _) a2
          rw [b4 r.s a1 c] at a
          cases a
        · exact c
        · have a := b5 q.s (Int.le_refl _) b2
          rw [a4 q.s b1 c] at a
          cases a
      have em : r.m = q.m := by
        have a := a5 r.s (Int.le_refl _) a2
        have b := b5 q.s (Int.le_refl _) b2
        rw [← es, a, Int.sub_self, advM_zero, advM_zero] at b
        exact Option.some.inj b
      have ee : r.e = q.e := by
        rcases Int.lt_trichotomy r.e q.e with c | c | c
        · have x := b5 r.e (by omega) c
          obtain ⟨r2, rs', e1, e2, e3⟩ := desc_first a6 (by omega) x
          subst e1
          exact absurd (by rw [e3, em, es]) (nr.2.1 (advM r.m (r.e - r.s)) (by rw [e2]))
        · exact c
        · have x := a5 q.e (by omega) c
          obtain ⟨r2, rs', e1, e2, e3⟩ := desc_first b6 (by omega) x
          subst e1
          exact absurd (by rw [e3, em, es]) (nq.2.1 (advM q.m (q.e - q.s)) (by rw [e2]))
      have er : r = q := by
        cases r
        cases q
        simp only at es em ee
        subst es em ee
        rfl
      subst er
      rw [ih a6 b6 nr.2 nq.2]
/-! ### joined -/
def jn : Row → List Row → List Row
  | r, [] => [r]
  | r, r2 :: rest => if r.e = r2.s ∧ r2.m = advM (advM r.m (r.e - 1 - r.s)) 1 then jn ⟨r.s, r2.e, r.m⟩ rest else r :: jn r2 rest
theorem foldl_jn (acc : List Row) (r : Row) (rest : List Row) : rest.foldl joinStep (acc ++ [r]) = acc ++ jn r rest := by
  induction rest generalizing acc r with
  | nil => rfl
  | cons r2 rest ih =>
    rw [List.foldl_cons]
    have e : joinStep (acc ++ [r]) r2 = if r.e = r2.s ∧ r2.m = advM (advM r.m (r.e - 1 - r.s)) 1 then acc ++ [⟨r.s, r2.e, r.m⟩] else acc ++ [r] ++ [r2] := by
      unfold joinStep
      rw [List.getLast?_concat]
      simp only [List.dropLast_concat]
    rw [e]
    unfold jn
    split
    · exact ih acc _
    · rw [ih (acc ++ [r]) r2, List.append_assoc]
      rfl
theorem joinR_cons (r : Row) (rest : List Row) : joinR (r :: rest) = jn r rest := by
  unfold joinR
  rw [List.foldl_cons]
  exact foldl_jn [] r rest
theorem jn_desc {m : Mm} {lo hi : Int} (r : Row) (rest : List Row) (h : Desc m lo hi (r :: rest)) : Desc m lo hi (jn r rest) := by
  induction rest generalizing r lo with
  | nil => exact h
  | cons r2 rest ih =>
    unfold jn
    obtain ⟨h1, h2, h3, h4, h5, g1, g2, g3, g4, g5, g6⟩ := h
    split
    · rename_i c
      obtain ⟨c1, c2⟩ := c
      refine ih _ ⟨h1, by show r.s < r2.e; omega, g3, h4, fun x a b => ?_, g6⟩
      have b' : x < r2.e := b
      rcases Int.lt_or_le x r.e with d | d
      · exact h5 x a d
      · rw [g5 x (by omega) b', c2, advM_add, advM_add]
        congr 2
        show r.e - 1 - r.s + (1 + (x - r2.s)) = x - r.s
        omega
    · exact ⟨h1, h2, h3, h4, h5, ih r2 ⟨g1, g2, g3, g4, g5, g6⟩⟩
theorem jn_nc (r : Row) (rest : List Row) (p : Option (Int × Mark)) (h : ∀ k, p = some (r.s, k) → r.m ≠ k) : NC p (jn r rest) := by
  induction rest generalizing r p with
  | nil => exact ⟨h, trivial⟩
  | cons r2 rest ih =>
    unfold jn
    split
    · exact ih _ p h
    · rename_i c
      refine ⟨h, ih r2 _ fun k e => ?_⟩
      have e0 := Option.some.inj e
      have e1 : r.e = r2.s := congrArg Prod.fst e0
      have e2 : advM r.m (r.e - r.s) = k := congrArg Prod.snd e0
      intro em
      refine c ⟨e1, ?_⟩
      rw [em, ← e2, advM_add]
      congr 1
      omega
/-- the one list of rows of m on [lo, hi) -/
def Canon (m : Mm) (lo hi : Int) (rs : List Row) : Prop := Desc m lo hi rs ∧ NC none rs
theorem joinR_canon {m : Mm} {lo hi : Int} {rs : List Row} (h : Desc m lo hi rs) : Canon m lo hi (joinR rs) := by
  cases rs with
  | nil => exact ⟨h, trivial⟩
  | cons r rest =>
    rw [joinR_cons]
    exact ⟨jn_desc r rest h, jn_nc r rest none fun k e => by cases e⟩
theorem Canon.unique {m : Mm} {lo hi : Int} {rs qs : List Row} (h : Canon m lo hi rs) (k : Canon m lo hi qs) : rs = qs := desc_unique h.1 k.1 h.2 k.2
/-! ### clipped -/
theorem mx_eq (i j : Int) : (mxI i j = i ∧ j ≤ i) ∨ (mxI i j = j ∧ i < j) := by
  unfold mxI
  split <;> omega
theorem mn_eq (i j : Int) : (mnI i j = i ∧ i ≤ j) ∨ (mnI i j = j ∧ j < i) := by
  unfold mnI
  split <;> omega
theorem clip_nil {m : Mm} {rs : List Row} {lo hi a b : Int} (h : Desc m lo hi rs) (hb : b ≤ lo ∨ b ≤ a) : clipR rs a b = [] := by
  induction rs generalizing lo with
  | nil => rfl
  | cons r rs ih =>
    obtain ⟨h1, h2, h3, h4, h5, h6⟩ := h
    have e : clip1 a b r = none := by
      unfold clip1
      rw [if_neg]
      have := mx_eq a r.s
      have := mn_eq b r.e
      omega
    show List.filterMap (clip1 a b) (r :: rs) = []
    rw [List.filterMap_cons, e]
    exact ih h6 (by omega)
theorem clip_desc {m : Mm} {rs : List Row} {lo hi a b : Int} (h : Desc m lo hi rs) (hb : b ≤ hi) (h1 : mxI a lo ≤ b) : Desc m (mxI a lo) b (clipR rs a b) := by
  induction rs generalizing lo with
  | nil =>
    have := mx_eq a lo
    exact ⟨h1, fun x c d => h.2 x (by omega) (by omega)⟩
  | cons r rs ih =>
    obtain ⟨g1, g2, g3, g4, g5, g6⟩ := h
    have e1 := mx_eq a lo
    have e2 := mx_eq a r.s
    have e3 := mn_eq b r.e
    have e4 := mx_eq a r.e
    show Desc m (mxI a lo) b (List.filterMap (clip1 a b) (r :: rs))
    rw [List.filterMap_cons]
    by_cases c : mxI a r.s < mnI b r.e
    · have ec : clip1 a b r = some ⟨mxI a r.s, mnI b r.e, advM r.m (mxI a r.s - r.s)⟩ := by rw [clip1, if_pos c]
      rw [ec]
      refine ⟨by show mxI a lo ≤ mxI a r.s; omega, c, by show mnI b r.e ≤ b; omega, fun x p q => g4 x (by omega) ?_, fun x p q => ?_, ?_⟩
      · have q' : x < mxI a r.s := q
        omega
      · have p' : mxI a r.s ≤ x := p
        have q' : x < mnI b r.e := q
        show m x = some (advM (advM r.m (mxI a r.s - r.s)) (x - mxI a r.s))
        rw [g5 x (by omega) (by omega), advM_add]
        congr 2
        omega
      · show Desc m (mnI b r.e) b (clipR rs a b)
        by_cases d : r.e ≤ b
        · have := ih g6 (by omega)
          rw [show mxI a r.e = mnI b r.e by omega] at this
          exact this
        · rw [clip_nil g6 (.inl (by omega)), show mnI b r.e = b by omega]
          exact ⟨Int.le_refl _, fun x p q => by omega⟩
    · have ec : clip1 a b r = none := by rw [clip1, if_neg c]
      rw [ec]
      show Desc m (mxI a lo) b (clipR rs a b)
      by_cases d : r.e ≤ a
      · have := ih g6 (by omega)
        rw [show mxI a r.e = mxI a lo by omega] at this
        exact this
      · rw [clip_nil g6 (by omega)]
        exact ⟨h1, fun x p q => g4 x (by omega) (by omega)⟩
theorem clip_nc1 {m : Mm} {rs : List Row} {lo hi a b : Int} {p : Option (Int × Mark)} (h : Desc m lo hi rs) (ha : a ≤ lo) (n : NC p rs) : NC p (clipR rs a b) := by
  induction rs generalizing lo p with
  | nil => exact trivial
  | cons r rs ih =>
    obtain ⟨g1, g2, g3, g4, g5, g6⟩ := h
    have e2 := mx_eq a r.s
    have e3 := mn_eq b r.e
    show NC p (List.filterMap (clip1 a b) (r :: rs))
    rw [List.filterMap_cons]
    by_cases c : mxI a r.s < mnI b r.e
    · have ec : clip1 a b r = some ⟨mxI a r.s, mnI b r.e, advM r.m (mxI a r.s - r.s)⟩ := by rw [clip1, if_pos c]
      rw [ec]
      have es : mxI a r.s = r.s := by omega
      rw [es, Int.sub_self, advM_zero]
      refine ⟨n.1, ?_⟩
      show NC (some (mnI b r.e, advM r.m (mnI b r.e - r.s))) (clipR rs a b)
      by_cases d : r.e ≤ b
      · rw [show mnI b r.e = r.e by omega]
        exact ih g6 (by omega) n.2
      · rw [clip_nil g6 (.inl (by omega))]
        exact trivial
    · have ec : clip1 a b r = none := by rw [clip1, if_neg c]
      rw [ec]
      show NC p (clipR rs a b)
      rw [clip_nil g6 (by omega)]
      exact trivial
theorem clip_nc {m : Mm} {rs : List Row} {lo hi a b : Int} {p : Option (Int × Mark)} (h : Desc m lo hi rs) (n : NC p rs) : NC none (clipR rs a b) := by
  induction rs generalizing lo p with
  | nil => exact trivial
  | cons r rs ih =>
    obtain ⟨g1, g2, g3, g4, g5, g6⟩ := h
    have e2 := mx_eq a r.s
    have e3 := mn_eq b r.e
    show NC none (List.filterMap (clip1 a b) (r :: rs))
    rw [List.filterMap_cons]
    by_cases c : mxI a r.s < mnI b r.e
    · have ec : clip1 a b r = some ⟨mxI a r.s, mnI b r.e, advM r.m (mxI a r.s - r.s)⟩ := by rw [clip1, if_pos c]
      rw [ec]
      refine ⟨(fun k e => by cases e), ?_⟩
      show NC (some (mnI b r.e, advM (advM r.m (mxI a r.s - r.s)) (mnI b r.e - mxI a r.s))) (clipR rs a b)
      by_cases d : r.e ≤ b
      · rw [advM_add, show mxI a r.s - r.s + (mnI b r.e - mxI a r.s) = r.e - r.s by omega, show mnI b r.e = r.e by omega]
        exact clip_nc1 g6 (by omega) n.2
      · rw [clip_nil g6 (.inl (by omega))]
        exact trivial
    · have ec : clip1 a b r = none := by rw [clip1, if_neg c]
      rw [ec]
      exact ih g6 n.2
theorem Canon.clip {m : Mm} {rs : List Row} {lo hi a b : Int} (h : Canon m lo hi rs) (ha : lo ≤ a) (hab : a ≤ b) (hb : b ≤ hi) : Canon m a b (clipR rs a b) := by
  have e := mx_eq a lo
  have z := clip_desc (a := a) (b := b) h.1 hb (by omega)
  rw [show mxI a lo = a by omega] at z
  exact ⟨z, clip_nc h.1 h.2⟩
/-! ### are_regions -/
theorem are_of {m : Mm} {rs : List Row} {lo hi e : Int} {f : Option Mark} (h : Desc m lo hi rs) (he : e ≤ lo) (n : NC (f.map fun k => (e, k)) rs) : AreOk hi e f rs := by
  induction rs generalizing lo e f with
  | nil => exact trivial
  | cons r rs ih =>
    obtain ⟨g1, g2, g3, g4, g5, g6⟩ := h
    refine ⟨by omega, g2, g3, fun ⟨a, b⟩ => ?_, ih (f := some _) g6 (Int.le_refl _) n.2⟩
    rw [b] at n
    exact n.1 r.m (by rw [a]; rfl) rfl
theorem Canon.are {m : Mm} {rs : List Row} {hi : Int} (h : Canon m 0 hi rs) : AreOk hi 0 none rs := are_of (f := none) h.1 (Int.le_refl _) h.2
/-- a part replaced -/
theorem put_canon {m m' : Mm} {rs ps : List Row} {n a b : Int} (h : Canon m 0 n rs) (h0 : 0 ≤ a) (h1 : a ≤ b) (h2 : b ≤ n) (hp : Desc m' a b ps) (e : ∀ x, x < a ∨ b ≤ x → m' x = m x) : Canon m' 0 n (putR rs ps a b n) := by
  unfold putR
  refine joinR_canon (Desc.append (Desc.append ?_ hp) ?_)
  · exact (h.clip (Int.le_refl _) h0 (by omega)).1.congr fun x p q => e x (.inl q)
  · exact (h.clip (by omega) h2 (Int.le_refl _)).1.congr fun x p q => e x (.inr p)
end Lp
end
section
set_option Elab.async false
set_option linter.all false
set_option maxRecDepth 100000
set_option maxHeartbeats 2000000
/-! Lp.M2: what stands for a block. -/
namespace Lp
open PySem
theorem kind_non {m : Mm} {ws : List Int} {lo : Int} : kind m ws lo = .non ↔ empB m lo (prodI ws) = true := by
  unfold kind
  constructor
  · intro h
    split at h
    · assumption
    · split at h <;> cases h
  · intro h
    rw [if_pos h]
theorem kind_mk {m : Mm} {ws : List Int} {lo : Int} {k : Mark} (h : kind m ws lo = .mk k) : ∀ x, lo ≤ x → x < lo + prodI ws → m x = some (advM k (x - lo)) := by
  have hm := kind_mem h
  intro x h1 h2
  unfold kind at h
  split at h
  · cases h
  · split at h
    · rename_i k' hk
      split at hk
      · rename_i c
        simp only [Bool.or_eq_true] at c
        rcases c with c | c
        · obtain ⟨k2, e, u⟩ := uniB_iff.mp c
          rw [hm] at e
          cases e
          exact u x h1 h2
        · have e : ws = [] := by simpa using c
          subst e
          have h2' : x < lo + 1 := h2
          have ex : x = lo := by omega
          rw [ex, Int.sub_self, advM_zero, hm]
      · cases hk
    · cases h
theorem kind_tab {m : Mm} {ws : List Int} {lo : Int} (h : kind m ws lo = .tab) : empB m lo (prodI ws) = false ∧ uniB m lo (prodI ws) = false ∧ ws ≠ [] := by
  unfold kind at h
  split at h
  · cases h
  · rename_i c1
    split at h
    · cases h
    · rename_i hk
      refine ⟨by simpa using c1, ?_, ?_⟩
      · cases hu : uniB m lo (prodI ws) with
        | false => rfl
        | true =>
          rw [hu] at hk
          simp only [Bool.true_or, if_true] at hk
          obtain ⟨k, e, _⟩ := uniB_iff.mp hu
          rw [hk] at e
          cases e
      · intro e
        subst e
        simp only [List.isEmpty_nil, Bool.or_true, if_true] at hk
        refine absurd (empB_iff.mpr fun x h1 h2 => ?_) c1
        have h2' : x < lo + 1 := h2
        have ex : x = lo := by omega
        rw [ex, hk]
theorem kind_uni {m : Mm} {ws : List Int} {lo : Int} (h0 : 1 ≤ prodI ws) (h : uniB m lo (prodI ws) = true) : ∃ k, m lo = some k ∧ kind m ws lo = .mk k := by
  obtain ⟨k, e, u⟩ := uniB_iff.mp h
  refine ⟨k, e, ?_⟩
  unfold kind
  rw [if_neg, h, Bool.true_or, if_pos rfl, e]
  intro c
  have := empB_iff.mp c lo (Int.le_refl _) (by omega)
  rw [this] at e
  cases e
def PosW (ws : List Int) : Prop := ∀ k, 1 ≤ prodI (ws.drop k)
theorem PosW.tail {w : Int} {ws : List Int} (h : PosW (w :: ws)) : PosW ws := fun k => h (k + 1)
theorem PosW.pos {ws : List Int} (h : PosW ws) : 1 ≤ prodI ws := h 0
theorem PosW.head {w : Int} {ws : List Int} (h : PosW (w :: ws)) : 1 ≤ w := by
  have h1 : 1 ≤ w * prodI ws := h 0
  have h2 := h.tail.pos
  rcases Int.lt_or_le w 1 with c | c
  · have : w * prodI ws ≤ 0 * prodI ws := Int.mul_le_mul_of_nonneg_right (by omega) (by omega)
    omega
  · exact c
theorem WOk.pos {ws : List Int} (h : WOk ws) : PosW ws := fun k => (h.2 k).1
theorem PosW.drop {ws : List Int} (h : PosW ws) (n : Nat) : PosW (ws.drop n) := fun k => by rw [List.drop_drop]; exact h _
theorem pre_desc {m : Mm} {ws : List Int} {lo : Int} {n : Nat} (hp : 1 ≤ prodI ws) (h : ∀ i < n, Desc m (lo + (i : Nat) * prodI ws) (lo + (i : Nat) * prodI ws + prodI ws) (blkRows m ws (lo + (i : Nat) * prodI ws))) : ∀ i ≤ n, Desc m lo (lo + (i : Nat) * prodI ws) (preB m ws lo i) := by
  intro i
  induction i with
  | zero =>
    intro _
    refine ⟨by simp, fun x h1 h2 => ?_⟩
    simp at h2
    omega
  | succ i ih =>
    intro hi
    rw [preB_next]
    have e : lo + ((i + 1 : Nat) : Int) * prodI ws = lo + (i : Nat) * prodI ws + prodI ws := by
      rw [Int.natCast_add, Int.add_mul]
      omega
    rw [e]
    exact (ih (by omega)).append (h i (by omega))
theorem tabRows_eq (m : Mm) (w : Int) (ws : List Int) (lo : Int) : tabRows m w ws lo = preB m ws lo w.toNat := rfl
theorem blk_desc {m : Mm} : ∀ {ws : List Int} {lo : Int}, PosW ws → Desc m lo (lo + prodI ws) (blkRows m ws lo)
  | [], lo, hp => by
    cases hk : kind m [] lo with
    | non =>
      rw [blk_non hk]
      exact ⟨by show lo ≤ lo + 1; omega, fun x h1 h2 => empB_iff.mp (kind_non.mp hk) x h1 h2⟩
    | mk k =>
      rw [blk_mk hk]
      exact ⟨Int.le_refl _, by show lo < lo + 1; omega, Int.le_refl _, fun x a b => absurd (Int.lt_of_le_of_lt a b) (Int.lt_irrefl _), fun x a b => kind_mk hk x a b, Int.le_refl _, fun x a b => absurd (Int.lt_of_le_of_lt a b) (Int.lt_irrefl _)⟩
    | tab => exact absurd rfl (kind_tab hk).2.2
  | w :: ws, lo, hp => by
    have p := hp.pos
    cases hk : kind m (w :: ws) lo with
    | non =>
      rw [blk_non hk]
      exact ⟨by omega, fun x h1 h2 => empB_iff.mp (kind_non.mp hk) x h1 h2⟩
    | mk k =>
      rw [blk_mk hk]
      exact ⟨Int.le_refl _, by show lo < lo + _; omega, Int.le_refl _, fun x a b => absurd (Int.lt_of_le_of_lt a b) (Int.lt_irrefl _), fun x a b => kind_mk hk x a b, Int.le_refl _, fun x a b => absurd (Int.lt_of_le_of_lt a b) (Int.lt_irrefl _)⟩
    | tab =>
      rw [blk_tab hk, tabRows_eq]
      have z := pre_desc (m := m) (lo := lo) (n := w.toNat) hp.tail.pos (fun i _ => blk_desc hp.tail) w.toNat (Nat.le_refl _)
      have hw := hp.head
      rw [show ((w.toNat : Nat) : Int) = w by omega] at z
      exact z
theorem tab_desc {m : Mm} {w : Int} {ws : List Int} {lo : Int} (hp : PosW (w :: ws)) : Desc m lo (lo + prodI (w :: ws)) (tabRows m w ws lo) := by
  rw [tabRows_eq]
  have z := pre_desc (m := m) (lo := lo) (n := w.toNat) hp.tail.pos (fun i _ => blk_desc hp.tail) w.toNat (Nat.le_refl _)
  have hw := hp.head
  rw [show ((w.toNat : Nat) : Int) = w by omega] at z
  exact z
theorem tab_joined {m : Mm} {w : Int} {ws : List Int} {lo : Int} {rs : List Row} (hp : PosW (w :: ws)) (h : Canon m lo (lo + prodI (w :: ws)) rs) : joinR (tabRows m w ws lo) = rs := (joinR_canon (tab_desc hp)).unique h
/-- where in its table a page lies -/
theorem page_at {lo sp w x : Int} (hs : 1 ≤ sp) (h1 : lo ≤ x) (h2 : x < lo + w * sp) : ∃ i : Nat, (i : Int) < w ∧ lo + (i : Nat) * sp ≤ x ∧ x < lo + (i : Nat) * sp + sp := by
  have q0 := Int.ediv_nonneg (a := x - lo) (b := sp) (by omega) (by omega)
  have q1 := Int.emod_add_mul_ediv (x - lo) sp
  have q2 := Int.emod_nonneg (x - lo) (by omega : sp ≠ 0)
  have q3 := Int.emod_lt_of_pos (x - lo) (by omega : 0 < sp)
  have q4 : (x - lo) / sp < w := Int.ediv_lt_of_lt_mul (by omega) (by omega)
  refine ⟨((x - lo) / sp).toNat, by omega, ?_, ?_⟩
  · rw [show (((x - lo) / sp).toNat : Int) = (x - lo) / sp by omega, Int.mul_comm]
    omega
  · rw [show (((x - lo) / sp).toNat : Int) = (x - lo) / sp by omega, Int.mul_comm]
    omega
theorem tab_some {m : Mm} {w : Int} {ws : List Int} {lo : Int} (hp : PosW (w :: ws)) (h : kind m (w :: ws) lo = .tab) : ∃ i : Nat, i < w.toNat ∧ kind m ws (lo + (i : Nat) * prodI ws) ≠ .non := by
  by_cases c : ∃ i : Nat, i < w.toNat ∧ kind m ws (lo + (i : Nat) * prodI ws) ≠ .non
  · exact c
  · have e := (kind_tab h).1
    have : empB m lo (prodI (w :: ws)) = true := empB_iff.mpr fun x h1 h2 => by
      obtain ⟨i, hi, a, b⟩ := page_at (w := w) hp.tail.pos h1 h2
      have hn : kind m ws (lo + (i : Nat) * prodI ws) = .non := by
        cases hk : kind m ws (lo + (i : Nat) * prodI ws) with
        | non => rfl
        | mk k => exact absurd ⟨i, by omega, by rw [hk]; intro z; cases z⟩ c
        | tab => exact absurd ⟨i, by omega, by rw [hk]; intro z; cases z⟩ c
      exact empB_iff.mp (kind_non.mp hn) x a b
    rw [this] at e
    cases e
theorem tab_mixed {m : Mm} {w : Int} {ws : List Int} {lo : Int} {ks : Nat → Mark} (hp : PosW (w :: ws)) (h : kind m (w :: ws) lo = .tab) (hk : ∀ i : Nat, i < w.toNat → kind m ws (lo + (i : Nat) * prodI ws) = .mk (ks i)) :
    ∃ i : Nat, i + 1 < w.toNat ∧ advM (ks i) (prodI ws) ≠ ks (i + 1) := by
  by_cases c : ∃ i : Nat, i + 1 < w.toNat ∧ advM (ks i) (prodI ws) ≠ ks (i + 1)
  · exact c
  · have e := (kind_tab h).2.1
    have hw := hp.head
    have all : ∀ i : Nat, i < w.toNat → ks i = advM (ks 0) ((i : Nat) * prodI ws) := by
      intro i
      induction i with
      | zero => intro _; simp [advM_zero]
      | succ i ih =>
        intro hi
        have e1 : ks (i + 1) = advM (ks i) (prodI ws) := by
          by_cases d : advM (ks i) (prodI ws) = ks (i + 1)
          · exact d.symm
          · exact absurd ⟨i, hi, d⟩ c
        rw [e1, ih (by omega), advM_add, Int.natCast_add, Int.add_mul]
        congr 1
        omega
    have k0 := kind_mk (hk 0 (by omega))
    have : uniB m lo (prodI (w :: ws)) = true := uniB_iff.mpr ⟨ks 0, by
      have := kind_mem (hk 0 (by omega))
      simpa using this, fun x h1 h2 => by
      obtain ⟨i, hi, a, b⟩ := page_at (w := w) hp.tail.pos h1 h2
      rw [kind_mk (hk i (by omega)) x a b, all i (by omega), advM_add]
      congr 2
      omega⟩
    rw [this] at e
    cases e
end Lp
end
section
set_option Elab.async false
set_option linter.all false
set_option maxRecDepth 100000
set_option maxHeartbeats 4000000
/-! Lp.X4: stands_for_one, tables_in. -/
namespace Lp
open PySem PySem.Spec PyProof.Rows L2 Evl
section
variable {K : PySem.W.Frag} {σ : L2.St} {H : Hp} {te ta tb : TE} {t : TT}
/-- a new list, and the heap that grew -/
theorem elp {xs : List V} (h : EvL te σ H xs) : EvP te σ H (fun v H' => Ex H H' ∧ ∃ p, v = .ref p ∧ H' p = some (.lst xs)) := fun H1 e Q q => h H1 e Q fun p H2 _ e2 h2 => q (.ref p) H2 e2 ⟨e.trans e2, p, rfl, h2⟩
theorem elp_mono {xs : List V} : ∀ v (H1 H2 : Hp), Ex H1 H2 → (Ex H H1 ∧ ∃ p, v = V.ref p ∧ H1 p = some (.lst xs)) → (Ex H H2 ∧ ∃ p, v = V.ref p ∧ H2 p = some (.lst xs)) := fun v H1 H2 e ⟨h1, p, h2, h3⟩ => ⟨h1.trans e, p, h2, e _ _ h3⟩
theorem dp_nil {v : V} (h : Ex H H ∧ ∃ p, v = V.ref p ∧ H p = some (.lst [])) : Dp K H v (.list []) := by
  obtain ⟨_, p, rfl, hp⟩ := h
  exact .lst (sq_of hp) .nil
theorem dp_nil' {v : V} {H1 : Hp} (h : Ex H H1 ∧ ∃ p, v = V.ref p ∧ H1 p = some (.lst [])) : Dp K H1 v (.list []) := by
  obtain ⟨_, p, rfl, hp⟩ := h
  exact .lst (sq_of hp) .nil
/-- the filtered entries of a table -/
theorem given_can {m : Mm} {ws : List Int} {lo : Int} {n : Nat} {f : Nat → Bool} (ok : okMm m) (hw : ws.length ≤ 4) : SeqAt.shaped (.list (((List.range n).filter f).map fun i => entD m ws (lo + (i : Nat) * prodI ws))) = true := shaped_list fun x hx => by
  obtain ⟨i, _, rfl⟩ := List.mem_map.mp hx
  have := ent_can (lo := lo + (i : Nat) * prodI ws) (ws := ws) ok
  exact ⟨this.1, by omega⟩
/-- the filtered entries, against [] -/
theorem ev_given_ne {m : Mm} {ws : List Int} {lo : Int} {es : List V} {f : Nat → Bool} {n : Nat} (hnn : n ≤ es.length) (ok : okMm m) (hw : ws.length ≤ 4) (he : ∀ (k : Nat) u, es[k]? = some u → EntAt m H ws (lo + (k : Nat) * prodI ws) u) (h : EvL te σ H (given n f fun i => (es[i]?).getD .non)) (hn : EvL tb σ H []) :
    Ev (tOp (rNeD K) te tb) σ H (.bl (!((List.range n).filter f).isEmpty)) := by
  have z := et_neD (K := K) (elp h) (elp hn) elp_mono (d1 := .list (((List.range n).filter f).map fun i => entD m ws (lo + (i : Nat) * prodI ws))) (d2 := .list []) (fun v H1 ⟨e, p, ev, hp⟩ => ev ▸ given_dp hnn (fun k u hu => (he k u hu).ex e) hp) (fun v H1 h => dp_nil' h) (given_can ok hw) rfl
  rw [eqv_nil] at z
  simpa using z
theorem ev_given_eq {m : Mm} {ws : List Int} {lo : Int} {es : List V} {f : Nat → Bool} {n : Nat} (hnn : n ≤ es.length) (ok : okMm m) (hw : ws.length ≤ 4) (he : ∀ (k : Nat) u, es[k]? = some u → EntAt m H ws (lo + (k : Nat) * prodI ws) u) (h : EvL te σ H (given n f fun i => (es[i]?).getD .non)) (hn : EvL tb σ H []) :
    Ev (tOp (rEqD K) te tb) σ H (.bl (((List.range n).filter f).isEmpty)) := by
  have z := et_eqD (K := K) (elp h) (elp hn) elp_mono (d1 := .list (((List.range n).filter f).map fun i => entD m ws (lo + (i : Nat) * prodI ws))) (d2 := .list []) (fun v H1 ⟨e, p, ev, hp⟩ => ev ▸ given_dp hnn (fun k u hu => (he k u hu).ex e) hp) (fun v H1 h => dp_nil' h) (given_can ok hw) rfl
  rw [eqv_nil] at z
  simpa using z
theorem is_getD {es : List V} {i : Nat} {x : V} (h : es[i]? = some x) : (es[i]?).getD .non = x := by rw [h]; rfl
end
def isTab (m : Mm) (ws : List Int) (lo : Int) : Bool := match kind m ws lo with
  | .tab => true
  | _ => false
def isNon (m : Mm) (ws : List Int) (lo : Int) : Bool := match kind m ws lo with
  | .non => true
  | _ => false
theorem isTab_iff {m : Mm} {ws : List Int} {lo : Int} : isTab m ws lo = true ↔ kind m ws lo = .tab := by
  unfold isTab
  cases kind m ws lo <;> simp
theorem isNon_iff {m : Mm} {ws : List Int} {lo : Int} : isNon m ws lo = true ↔ kind m ws lo = .non := by
  unfold isNon
  cases kind m ws lo <;> simp
theorem filter_ne {n : Nat} {f : Nat → Bool} {i : Nat} (h1 : i < n) (h2 : f i = true) : ((List.range n).filter f).isEmpty = false := by
  cases hq : ((List.range n).filter f) with
  | nil =>
    have : i ∈ (List.range n).filter f := List.mem_filter.mpr ⟨List.mem_range.mpr h1, h2⟩
    rw [hq] at this
    simp at this
  | cons a l => rfl
theorem filter_e {n : Nat} {f : Nat → Bool} (h : ∀ i < n, f i = false) : (List.range n).filter f = [] := by
  rw [List.filter_eq_nil_iff]
  intro i hi
  rw [h i (List.mem_range.mp hi)]
  simp
section
variable {P : Program} {w : World} {K : PySem.W.Frag} {mg : PySem.Str → Option Value} {base : Heap} {C : Addr}
def spStands : Sp := fun vs H Q _ => ∃ (v : V) (m : Mm) (wd : Int) (ws : List Int) (lo : Int), vs = [v, .int (prodI ws)] ∧ TabAt m wd ws lo v H ∧ kind m (wd :: ws) lo = .tab ∧ PosW (wd :: ws) ∧ ws.length ≤ 4 ∧ wd ≤ 5000 ∧ okMm m ∧ RetV (.bl false) H Q
theorem b_stands (m_isinstance : mg "isinstance" = none) (m_list : mg "list" = none) (m_zip : mg "zip" = none) (d_advanced : Cl P w K mg base 1 "advanced" spAdvanced) : Body P w K mg base n_stands_for_one "stands_for_one" s_stands_for_one 1 spStands := by
  intro f cdv A outer s H vs Q E hr h
  obtain ⟨v, m, wd, ws, lo, rfl, ⟨p, es, rfl, hp, hes, hent⟩, htab, hpos, hwl, hwd, ok, kq⟩ := h
  have hu65 : (A.deeper (envOfC "stands_for_one" (defScope s_stands_for_one) s.heap.objs.size f cdv)).units + 65 < cLine := by have := hr.un; omega
  refine ⟨_, (pss_cons (ps_if (pt_cmpR (r := rNeD K) (op_neD hr.units) (pe_lc (own := [("entry", 2)]) (g := gName 2) rfl c_stands_for_one.nd (pi_list (pv 0)) (blkOk_by (N := n_stands_for_one) (sc := defScope s_stands_for_one) (by decide +kernel)) (fun _ _ _ _ _ => (pg_name (i := 2) c_stands_for_one.nd rfl (.inl rfl))) (fun _ _ _ _ _ => (pts_one (pt_val (pe_callB (r := rIsi K) call_isi (by rfl) m_isinstance boot_isinstance (pa_cons (pv 2) (pa_cons (pe_bltn (by rfl) m_list boot_list (v := .ty "list") rfl) pa_nil)))))) (fun _ _ _ _ _ => (pv 2))) (pe_lst pa_nil) (nomark _)) (pss_one (ps_ret pe_bl)) pss_nil) (pss_cons (ps_if (pt_cmpR (r := rEqD K) (op_eqD hr.units) (pe_lc (own := [("entry", 2)]) (g := gName 2) rfl c_stands_for_one.nd (pi_list (pv 0)) (blkOk_by (N := n_stands_for_one) (sc := defScope s_stands_for_one) (by decide +kernel)) (fun _ _ _ _ _ => (pg_name (i := 2) c_stands_for_one.nd rfl (.inl rfl))) (fun _ _ _ _ _ => (pts_one (pt_cmpR op_notN (pv 2) pe_non (nomark _)))) (fun _ _ _ _ _ => (pv 2))) (pe_lst pa_nil) (nomark _)) (pss_one (ps_ret pe_bl)) pss_nil) (pss_cons (ps_if (pt_cmpR (r := rInD K) (op_inD hu65) pe_non (pv 0) (by rfl)) (pss_one (ps_ret pe_bl)) pss_nil) (pss_one (ps_ret (pe_cmpR (r := rEqD K) (op_eqD hr.units) (pe_lc (own := [("mark", 3), ("later", 4)]) (g := gTup _ 2 (gCons (gName 3) (gCons (gName 4) gNil))) rfl c_stands_for_one.nd (pi_zip (by rfl) m_zip (pa_cons (pv 0) (pa_cons (pe_slice sl_list (pv 0) (po_some pe_int) po_none) pa_nil))) (blkOk_by (N := n_stands_for_one) (sc := defScope s_stands_for_one) (by decide +kernel)) (fun _ _ _ _ _ => (pg_tup rfl (pgs_cons (pg_name (i := 3) c_stands_for_one.nd rfl (.inl rfl)) (pgs_cons (pg_name (i := 4) c_stands_for_one.nd rfl (.inl rfl)) pgs_nil)))) (fun _ _ _ _ _ => (pts_one (pt_cmpR (r := rNeD K) (op_neD hr.units) (pc d_advanced hr (by decide) (by rfl) (pa_cons (pv 3) (pa_cons (pv 1) pa_nil))) (pv 4) (nomark _)))) (fun _ _ _ _ _ => (pv 3))) (pe_lst pa_nil) (nomark _))))))), ?_⟩
  have hlen : es.length ≤ 40000 := by omega
  -- the tables among the entries
  refine q_when (et_test (ev_given_ne (Nat.le_refl _) ok hwl hent (el_lcL (fun i => isTab m ws (lo + (i : Nat) * prodI ws)) (fun i => (es[i]?).getD .non) (ev_var rfl) (sq_of hp) hlen (fun _ => rfl) (fun i x H1 e hx => et_B (isi_list ((hent i x hx).ex e) (ev_var rfl) ev_c)) (fun i x H1 e hx _ => ev_is (ev_var rfl) (is_getD hx).symm)) (el_lst ea_nil (by decide)))) (fun _ H1 e1 => s_ret ev_c fun H2 e2 => kq H2 (e1.trans e2)) fun hb H1 e1 => ?_
  have notab : ∀ i < es.length, isTab m ws (lo + (i : Nat) * prodI ws) = false := fun i hi => by
    cases hq : isTab m ws (lo + (i : Nat) * prodI ws) with
    | false => rfl
    | true =>
      rw [filter_ne hi hq] at hb
      cases hb
  have hent1 : ∀ (k : Nat) u, es[k]? = some u → EntAt m H1 ws (lo + (k : Nat) * prodI ws) u := fun k u hu => (hent k u hu).ex e1
  refine q_when (et_test (ev_given_eq (Nat.le_refl _) ok hwl hent1 (el_lcL (fun i => !isNon m ws (lo + (i : Nat) * prodI ws)) (fun i => (es[i]?).getD .non) (ev_var rfl) (sq_of (e1 _ _ hp)) hlen (fun _ => rfl) (fun i x H2 e hx => et_test (ev_is (ev_op (ev_var rfl) ev_c rv_notN) ?_)) (fun i x H2 e hx _ => ev_is (ev_var rfl) (is_getD hx).symm)) (el_lst ea_nil (by decide)))) (fun hb2 => ?_) fun _ H2 e2 => ?_
  · unfold isNon
    rcases ent_cases ((hent1 i x hx).ex e) with ⟨hk, ev⟩ | ⟨k, hk, q, ev, _⟩ | ⟨hk, w', ws', _, q, vs, ev, _⟩ <;> rw [hk, ev] <;> simp
  · obtain ⟨i, hi, hk⟩ := tab_some hpos htab
    have hn : (!isNon m ws (lo + (i : Nat) * prodI ws)) = true := by
      cases hq : isNon m ws (lo + (i : Nat) * prodI ws) with
      | false => rfl
      | true => exact absurd (isNon_iff.mp hq) hk
    rw [filter_ne (by omega) hn] at hb2
    cases hb2
  have hent2 : ∀ (k : Nat) u, es[k]? = some u → EntAt m H2 ws (lo + (k : Nat) * prodI ws) u := fun k u hu => (hent1 k u hu).ex e2
  have hp2 : H2 p = some (.lst es) := e2 _ _ (e1 _ _ hp)
  -- None among them
  refine q_when (b := ((List.range es.length).map fun i => entD m ws (lo + (i : Nat) * prodI ws)).any fun z => PyData.eqv z .none) (et_test (ev_op ev_c (ev_var rfl) (fun H3 e3 Q q => ⟨.none, (List.range es.length).map fun i => entD m ws (lo + (i : Nat) * prodI ws), .non, ?_, rfl, shaped_list fun x hx => ?_, q _ (Ex.refl _)⟩))) (fun _ H3 e3 => s_ret ev_c fun H4 e4 => kq H4 (e1.trans (e2.trans (e3.trans e4)))) fun hb3 H3 e3 => ?_
  · refine .lst (sq_of (e3 _ _ hp2)) ?_
    rw [eq_range_map es]
    simp only [List.length_map, List.length_range]
    refine dpAll_map fun i hi => ?_
    have hi' : i < es.length := List.mem_range.mp hi
    rw [List.getElem?_eq_getElem hi']
    exact dp_ent ((hent2 i _ (List.getElem?_eq_getElem hi')).ex e3)
  · obtain ⟨i, _, rfl⟩ := List.mem_map.mp hx
    have := ent_can (lo := lo + (i : Nat) * prodI ws) (ws := ws) ok
    exact ⟨this.1, by omega⟩
  have hk : ∀ i : Nat, i < wd.toNat → kind m ws (lo + (i : Nat) * prodI ws) = .mk ((match kind m ws (lo + (i : Nat) * prodI ws) with | .mk k => k | _ => ⟨"", "", 0⟩)) := fun i hi => by
    have hi' : i < es.length := by omega
    cases hq : kind m ws (lo + (i : Nat) * prodI ws) with
    | mk k => rfl
    | tab =>
      have := notab i hi'
      rw [isTab_iff.mpr hq] at this
      cases this
    | non =>
      rw [List.any_eq_false] at hb3
      have := hb3 (entD m ws (lo + (i : Nat) * prodI ws)) (List.mem_map.mpr ⟨i, List.mem_range.mpr hi', rfl⟩)
      have e : entD m ws (lo + (i : Nat) * prodI ws) = .none := by
        cases ws <;> (unfold entD; rw [hq])
      rw [e] at this
      exact absurd rfl this
  obtain ⟨j, hj, hne⟩ := tab_mixed hpos htab hk
  have hp3 : H3 p = some (.lst es) := e3 _ _ hp2
  have hent3 : ∀ (k : Nat) u, es[k]? = some u → EntAt m H3 ws (lo + (k : Nat) * prodI ws) u := fun k u hu => (hent2 k u hu).ex e3
  have mk_at : ∀ (i : Nat) u, es[i]? = some u → ∀ H4, Ex H3 H4 → MkAt ((match kind m ws (lo + (i : Nat) * prodI ws) with | .mk k => k | _ => ⟨"", "", 0⟩)) u H4 := fun i u hu H4 e4 => by
    have hi' : i < wd.toNat := by have := (List.getElem?_eq_some_iff.mp hu).1; omega
    rcases ent_cases ((hent3 i u hu).ex e4) with ⟨hq, _⟩ | ⟨k, hq, h2⟩ | ⟨hq, _⟩
    · have := hk i hi'; rw [hq] at this; cases this
    · rw [hq]; exact h2
    · have := hk i hi'; rw [hq] at this; cases this
  have okk : ∀ i : Nat, i < wd.toNat → okM ((match kind m ws (lo + (i : Nat) * prodI ws) with | .mk k => k | _ => ⟨"", "", 0⟩)) := fun i hi => ok _ _ (kind_mem (hk i hi))
  have ecut : cutV es (some 1) none = es.drop 1 := by
    show (es.drop (HT.sIx es.length 0 (some ((1 : Nat) : Int)))).take (HT.sIx es.length es.length none - HT.sIx es.length 0 (some ((1 : Nat) : Int))) = es.drop 1
    rw [HT.sIx_nat, HT.sIx_none, show min 1 es.length = 1 by omega]
    exact List.take_of_length_le (by simp)
  have en : es.length - 1 = min es.length (es.drop 1).length := by simp
  have comp : EvL (tLc (iZip K (tCons (tVar 0) (tCons (tSl (rSlL K) (tVar 0) (tPart (tC (.int 1))) tNoPart) tNil))) (gTup K 2 (gCons (gName 3) (gCons (gName 4) gNil))) (tTest (tOp (rNeD K) (tCall spAdvanced [] L2.E0 (tCons (tVar 3) (tCons (tVar 1) tNil))) (tVar 4))) (tVar 3) [3, 4])
      (L2.start n_stands_for_one [.ref p, .int (prodI ws)]) H3 (given (es.length - 1) (fun i => !decide (advM (match kind m ws (lo + (i : Nat) * prodI ws) with | .mk k => k | _ => ⟨"", "", 0⟩) (prodI ws) = (match kind m ws (lo + ((i + 1 : Nat) : Int) * prodI ws) with | .mk k => k | _ => ⟨"", "", 0⟩))) fun i => (es[i]?).getD .non) := by
    intro H4 e4 Q q
    refine ⟨_, rfl, _, rfl, 1, rfl, p, es, rfl, sq_of (e4 _ _ hp3), fun b hb => ?_⟩
    rw [ecut]
    have eb := Ex.new (o := HO.lst (es.drop 1)) hb
    refine ⟨p, b, es, es.drop 1, rfl, sq_of (eb _ _ (e4 _ _ hp3)), sq_of upd_same, fun D hD => ?_⟩
    have ebD := Ex.new (o := HO.lst []) hD
    refine lc_it (walk_zip en) (Cw (upd H4 b (.lst (es.drop 1))) _ _ D) ⟨hD, ebD, upd_same⟩ (fun i H5 _ p5 => ⟨sq_of (p5.2.1 _ _ (eb _ _ (e4 _ _ hp3))), sq_of (p5.2.1 _ _ upd_same)⟩) (fun i x5 H5 H6 hi p5 y5 => ?_) fun H5 p5 => q D H5 (fresh_back eb p5.1) (eb.trans p5.2.1) p5.2.2
    obtain ⟨t, x, y, rfl, ht, rfl, hx, hy⟩ := y5
    have hy' : es[i + 1]? = some y := by
      have hy1 : (es.drop 1)[i]? = some y := hy
      rw [List.getElem?_drop, Nat.add_comm] at hy1
      exact hy1
    have e6 := Ex.new (o := HO.tup [x, y]) ht
    have base6 : Ex H3 (upd H4 b (.lst (es.drop 1))) := e4.trans eb
    refine ⟨t, [x, y], rfl, st_of upd_same, rfl, _, _, rfl, _, _, rfl, rfl, rfl, ?_⟩
    refine cw_turn (H := upd H4 b (.lst (es.drop 1))) ⟨p5.1, p5.2.1.trans e6, e6 _ _ p5.2.2⟩ (by omega) (et_test ?_) fun _ => ev_is (ev_var rfl) (is_getD hx).symm
    have hi2 : i + 1 < wd.toNat := by omega
    have z := et_neD (K := K) (ev_adv (k := prodI ws) (E := L2.E0) (evp_var (P := MkAt (match kind m ws (lo + (i : Nat) * prodI ws) with | .mk k => k | _ => ⟨"", "", 0⟩)) (σ := ((wipe (L2.start n_stands_for_one [.ref p, .int (prodI ws)]) [3, 4]).set 3 (some x)).set 4 (some y)) (i := 3) (v := x) (H := upd H4 b (.lst (es.drop 1))) rfl fun H7 e7 => mk_at i x hx H7 (base6.trans e7)) (ev_var (i := 1) rfl)) (evp_var (P := MkAt (match kind m ws (lo + ((i + 1 : Nat) : Int) * prodI ws) with | .mk k => k | _ => ⟨"", "", 0⟩)) (i := 4) (v := y) rfl fun H7 e7 => mk_at (i + 1) y hy' H7 (base6.trans e7)) (fun _ _ _ e h => TpAt.ex e h) (fun _ _ h => dp_mk h) (fun _ _ h => dp_mk h) (shaped_mk ((okk i (by omega)).adv _)) (shaped_mk (okk (i + 1) hi2))
    rw [eqv_mk] at z
    exact z
  have hf : ((List.range (es.length - 1)).filter (fun i => !decide (advM (match kind m ws (lo + (i : Nat) * prodI ws) with | .mk k => k | _ => ⟨"", "", 0⟩) (prodI ws) = (match kind m ws (lo + ((i + 1 : Nat) : Int) * prodI ws) with | .mk k => k | _ => ⟨"", "", 0⟩)))).isEmpty = false := filter_ne (i := j) (by omega) (by simpa using hne)
  have z := ev_given_eq (K := K) (Nat.sub_le _ _) ok hwl hent3 comp (tb := tLst tNil) (el_lst ea_nil (by decide))
  rw [hf] at z
  exact s_ret z fun H4 e4 => kq H4 (e1.trans (e2.trans (e3.trans e4)))
end
end Lp
end
section
set_option Elab.async false
set_option linter.all false
set_option maxRecDepth 100000
set_option maxHeartbeats 4000000
/-! Lp.X5: tables_in, copied; tables whose objects are new. -/
namespace Lp
open PySem PySem.Spec PyProof.Rows L2 Evl
/-- an entry, the tables in it at places of N -/
def EntN (m : Mm) (N : Addr → Prop) (H : Hp) : List Int → Int → V → Prop
  | [], lo, v => match kind m [] lo with
    | .non => v = .non
    | .mk k => MkAt k v H
    | .tab => False
  | w :: ws, lo, v => match kind m (w :: ws) lo with
    | .non => v = .non
    | .mk k => MkAt k v H
    | .tab => ∃ p vs, v = .ref p ∧ N p ∧ H p = some (.lst vs) ∧ vs.length = w.toNat ∧ ∀ k u, vs[k]? = some u → EntN m N H ws (lo + (k : Nat) * prodI ws) u
def TabN (m : Mm) (N : Addr → Prop) (w : Int) (ws : List Int) (lo : Int) (v : V) (H : Hp) : Prop := ∃ p vs, v = .ref p ∧ N p ∧ H p = some (.lst vs) ∧ vs.length = w.toNat ∧ ∀ k u, vs[k]? = some u → EntN m N H ws (lo + (k : Nat) * prodI ws) u
theorem EntN.map {m : Mm} {N N' : Addr → Prop} {H H' : Hp} (hn : ∀ a, N a → N' a) (he : ∀ a o, N a → H a = some o → H' a = some o) (ht : ∀ xs u, TpAt xs u H → TpAt xs u H') : ∀ {ws : List Int} {lo : Int} {v : V}, EntN m N H ws lo v → EntN m N' H' ws lo v
  | [], lo, v, h => by
    unfold EntN at h ⊢
    cases hk : kind m [] lo with
    | non => rw [hk] at h; exact h
    | mk k => rw [hk] at h; exact ht _ _ h
    | tab => rw [hk] at h; exact h
  | w :: ws, lo, v, h => by
    unfold EntN at h ⊢
    cases hk : kind m (w :: ws) lo with
    | non => rw [hk] at h; exact h
    | mk k => rw [hk] at h; exact ht _ _ h
    | tab =>
      rw [hk] at h
      obtain ⟨p, vs, h1, h0, h2, h3, h4⟩ := h
      exact ⟨p, vs, h1, hn _ h0, he _ _ h0 h2, h3, fun k u hu => EntN.map hn he ht (h4 k u hu)⟩
theorem TabN.map {m : Mm} {N N' : Addr → Prop} {H H' : Hp} {w : Int} {ws : List Int} {lo : Int} {v : V} (hn : ∀ a, N a → N' a) (he : ∀ a o, N a → H a = some o → H' a = some o) (ht : ∀ xs u, TpAt xs u H → TpAt xs u H') (h : TabN m N w ws lo v H) : TabN m N' w ws lo v H' := by
  obtain ⟨p, vs, h1, h0, h2, h3, h4⟩ := h
  exact ⟨p, vs, h1, hn _ h0, he _ _ h0 h2, h3, fun k u hu => (h4 k u hu).map hn he ht⟩
theorem EntN.ex {m : Mm} {N : Addr → Prop} {H H' : Hp} {ws : List Int} {lo : Int} {v : V} (e : Ex H H') (h : EntN m N H ws lo v) : EntN m N H' ws lo v := h.map (fun _ x => x) (fun a o _ x => e a o x) fun _ _ x => x.ex e
theorem EntN.upd {m : Mm} {N : Addr → Prop} {H : Hp} {ws : List Int} {lo : Int} {v : V} {D : Addr} {o : HO} {xs : List V} (h : EntN m N H ws lo v) (hD : H D = some (.lst xs)) (hN : ¬ N D) : EntN m N (upd H D o) ws lo v :=
  h.map (fun _ x => x) (fun a u na x => by rw [upd_ne (show a ≠ D from fun z => hN (by rw [← z]; exact na))]; exact x) fun _ _ x => x.upd hD
theorem EntN.at {m : Mm} {N : Addr → Prop} {H : Hp} : ∀ {ws : List Int} {lo : Int} {v : V}, EntN m N H ws lo v → EntAt m H ws lo v
  | [], lo, v, h => by
    unfold EntN at h
    unfold EntAt
    exact h
  | w :: ws, lo, v, h => by
    unfold EntN at h
    unfold EntAt
    cases hk : kind m (w :: ws) lo with
    | non => rw [hk] at h; exact h
    | mk k => rw [hk] at h; exact h
    | tab =>
      rw [hk] at h
      obtain ⟨p, vs, h1, _, h2, h3, h4⟩ := h
      exact ⟨p, vs, h1, h2, h3, fun k u hu => EntN.at (h4 k u hu)⟩
theorem TabN.at {m : Mm} {N : Addr → Prop} {H : Hp} {w : Int} {ws : List Int} {lo : Int} {v : V} (h : TabN m N w ws lo v H) : TabAt m w ws lo v H := by
  obtain ⟨p, vs, h1, _, h2, h3, h4⟩ := h
  exact ⟨p, vs, h1, h2, h3, fun k u hu => (h4 k u hu).at⟩
theorem entN_flat {m : Mm} {N : Addr → Prop} {H : Hp} {ws : List Int} {lo : Int} {v : V} (h : EntAt m H ws lo v) (hk : kind m ws lo ≠ .tab) : EntN m N H ws lo v := by
  cases ws with
  | nil => unfold EntN; unfold EntAt at h; exact h
  | cons w ws =>
    unfold EntN
    unfold EntAt at h
    cases hq : kind m (w :: ws) lo with
    | non => rw [hq] at h; exact h
    | mk k => rw [hq] at h; exact h
    | tab => exact absurd hq hk
theorem entN_tab {m : Mm} {N : Addr → Prop} {H : Hp} {w : Int} {ws : List Int} {lo : Int} {v : V} (h : TabN m N w ws lo v H) (hk : kind m (w :: ws) lo = .tab) : EntN m N H (w :: ws) lo v := by
  unfold EntN
  rw [hk]
  exact h
/-! ### how many tables -/
def entC (m : Mm) : List Int → Int → Nat
  | [], _ => 0
  | w :: ws, lo => match kind m (w :: ws) lo with
    | .tab => 1 + ((List.range w.toNat).map fun k => entC m ws (lo + (k : Nat) * prodI ws)).sum
    | _ => 0
def tabC (m : Mm) (w : Int) (ws : List Int) (lo : Int) : Nat := 1 + ((List.range w.toNat).map fun k => entC m ws (lo + (k : Nat) * prodI ws)).sum
theorem entC_tab {m : Mm} {w : Int} {ws : List Int} {lo : Int} (h : kind m (w :: ws) lo = .tab) : entC m (w :: ws) lo = tabC m w ws lo := by
  unfold entC
  rw [h]
  rfl
theorem entC_not {m : Mm} {ws : List Int} {lo : Int} (h : isTab m ws lo = false) : entC m ws lo = 0 := by
  unfold isTab at h
  cases ws with
  | nil => rfl
  | cons w ws =>
    unfold entC
    cases hk : kind m (w :: ws) lo with
    | non => rfl
    | mk k => rfl
    | tab => rw [hk] at h; cases h
theorem sum_filter (f : Nat → Bool) (g : Nat → Nat) (h : ∀ i, f i = false → g i = 0) (l : List Nat) : ((l.filter f).map fun i => (g i : Int)).sum = ((l.map g).sum : Nat) := by
  induction l with
  | nil => rfl
  | cons a l ih =>
    cases hf : f a with
    | true => rw [List.filter_cons_of_pos hf, List.map_cons, List.sum_cons, ih, List.map_cons, List.sum_cons]; omega
    | false => rw [List.filter_cons_of_neg (by simp [hf]), ih, List.map_cons, List.sum_cons, h a hf]; omega
section
variable {P : Program} {w : World} {K : PySem.W.Frag} {mg : PySem.Str → Option Value} {base : Heap} {C : Addr}
def spTin (d : Nat) : Sp := fun vs H Q _ => ∃ (v : V) (m : Mm) (wd : Int) (ws : List Int) (lo : Int), vs = [v] ∧ TabAt m wd ws lo v H ∧ ws.length < d ∧ PosW (wd :: ws) ∧ prodI (wd :: ws) ≤ 5000 ∧ RetV (.int (tabC m wd ws lo)) H Q
theorem wd_le {wd : Int} {ws : List Int} (h : PosW (wd :: ws)) (h2 : prodI (wd :: ws) ≤ 5000) : wd ≤ 5000 := by
  have h3 : wd * prodI ws ≤ 5000 := h2
  have h4 := h.tail.pos
  have h5 := h.head
  have : wd * 1 ≤ wd * prodI ws := Int.mul_le_mul_of_nonneg_left h4 (by omega)
  omega
theorem tail_le {wd : Int} {ws : List Int} (h : PosW (wd :: ws)) (h2 : prodI (wd :: ws) ≤ 5000) : prodI ws ≤ 5000 := by
  have h3 : wd * prodI ws ≤ 5000 := h2
  have h4 := h.tail.pos
  have h5 := h.head
  have : 1 * prodI ws ≤ wd * prodI ws := Int.mul_le_mul_of_nonneg_right h5 (by omega)
  omega
theorem cl_tin (D : Dfd K mg "tables_in" s_tables_in p_tables_in) (m_isinstance : mg "isinstance" = none) (m_list : mg "list" = none) (m_sum : mg "sum" = none) : ∀ d : Nat, Cl P w K mg base (d + 1) "tables_in" (spTin d) := by
  intro d
  induction d with
  | zero =>
    refine cl_of D c_tables_in (fun vs H Q E h => ?_) fun f cdv A outer s H vs Q E hr h => ?_
    · obtain ⟨_, _, _, _, _, rfl, _⟩ := h; rfl
    · obtain ⟨_, _, _, _, _, _, _, h, _⟩ := h
      exact absurd h (Nat.not_lt_zero _)
  | succ d d_tables_in =>
    refine cl_of D c_tables_in (fun vs H Q E h => ?_) fun f cdv A outer s H vs Q E hr h => ?_
    · obtain ⟨_, _, _, _, _, rfl, _⟩ := h; rfl
    obtain ⟨v, m, wd, ws, lo, rfl, ⟨p, es, rfl, hp, hes, hent⟩, hd, hpos, hpr, kq⟩ := h
    refine ⟨_, (pss_one (ps_ret (pe_op op_add pe_int (pe_callB (r := rSum K) (cr_sum rfl) (by rfl) m_sum boot_sum (pa_cons (pe_lc (own := [("entry", 1)]) (g := gName 1) rfl c_tables_in.nd (pi_list (pv 0)) (blkOk_by (N := n_tables_in) (sc := defScope s_tables_in) (by decide +kernel)) (fun _ _ _ _ _ => (pg_name (i := 1) c_tables_in.nd rfl (.inl rfl))) (fun _ _ _ _ _ => (pts_one (pt_val (pe_callB (r := rIsi K) call_isi (by rfl) m_isinstance boot_isinstance (pa_cons (pv 1) (pa_cons (pe_bltn (by rfl) m_list boot_list (v := .ty "list") rfl) pa_nil)))))) (fun _ _ _ _ _ => (pc d_tables_in hr (by omega) (by rfl) (pa_cons (pv 1) pa_nil)))) pa_nil))))), ?_⟩
    have hwl := wd_le hpos hpr
    have comp := el_lcL (K := K) (H := H) (σ := [some (V.ref p), none]) (a := p) (xs := es) (tl := tVar 0) (j := 1) (vs := [1]) (t := tB (tCB (rIsi K) (tCons (tVar 1) (tCons (tC (V.ty "list")) tNil)))) (te := tCall (spTin d) [] L2.E0 (tCons (tVar 1) tNil)) (fun i => isTab m ws (lo + (i : Nat) * prodI ws)) (fun i => V.int (entC m ws (lo + (i : Nat) * prodI ws))) (ev_var rfl) (sq_of hp) (by omega) (fun _ => rfl) (fun i x H1 e hx => et_B (isi_list ((hent i x hx).ex e) (ev_var rfl) ev_c)) (fun i x H1 e hx hf => ?_)
    · refine s_ret (ev_op ev_c (fun H1 e1 Q1 q1 => by
        have z := comp H1 e1 (fun v H2 => rSum K [v] H2 Q1) fun l H2 hl e2 hl2 => ⟨l, ((List.range es.length).filter fun i => isTab m ws (lo + (i : Nat) * prodI ws)).map fun i => (entC m ws (lo + (i : Nat) * prodI ws) : Int), rfl, sq_of (by
          rw [hl2]
          unfold given
          rw [List.map_map]
          rfl), q1 H2 e2⟩
        exact z) rv_I0) fun H1 e1 => ?_
      · have e := sum_filter (fun i => isTab m ws (lo + (i : Nat) * prodI ws)) (fun i => entC m ws (lo + (i : Nat) * prodI ws)) (fun i h => entC_not h) (List.range es.length)
        rw [e, hes]
        have := kq H1 e1
        unfold tabC at this
        rw [Int.natCast_add] at this
        exact this
    · obtain hk := isTab_iff.mp hf
      rcases ent_cases ((hent i x hx).ex e) with ⟨hq, _⟩ | ⟨k, hq, _⟩ | ⟨_, w', ws', ews, hT⟩
      · rw [hk] at hq; cases hq
      · rw [hk] at hq; cases hq
      subst ews
      refine ev_callV (eap (ea_cons (ev_var rfl) ea_nil)) fun vs H2 e2 ev Q2 q2 => ⟨x, m, w', ws', _, ev, hT.ex e2, by simp only [List.length_cons] at hd; omega, hpos.tail, tail_le hpos hpr, ?_⟩
      rw [← entC_tab hk]
      exact q2
def spCopied (d : Nat) : Sp := fun vs H Q _ => ∃ (v : V) (m : Mm) (wd : Int) (ws : List Int) (lo : Int), vs = [v] ∧ TabAt m wd ws lo v H ∧ ws.length < d ∧ PosW (wd :: ws) ∧ prodI (wd :: ws) ≤ 5000 ∧ ∀ p H', H p = none → Ex H H' → TabN m (fun a => H a = none) wd ws lo (.ref p) H' → Q (.ref p) H'
theorem cl_copied (D : Dfd K mg "copied" s_copied p_copied) (m_isinstance : mg "isinstance" = none) (m_list : mg "list" = none) : ∀ d : Nat, Cl P w K mg base (d + 1) "copied" (spCopied d) := by
  intro d
  induction d with
  | zero =>
    refine cl_of D c_copied (fun vs H Q E h => ?_) fun f cdv A outer s H vs Q E hr h => ?_
    · obtain ⟨_, _, _, _, _, rfl, _⟩ := h; rfl
    · obtain ⟨_, _, _, _, _, _, _, h, _⟩ := h
      exact absurd h (Nat.not_lt_zero _)
  | succ d d_copied =>
    refine cl_of D c_copied (fun vs H Q E h => ?_) fun f cdv A outer s H vs Q E hr h => ?_
    · obtain ⟨_, _, _, _, _, rfl, _⟩ := h; rfl
    obtain ⟨v, m, wd, ws, lo, rfl, ⟨p, es, rfl, hp, hes, hent⟩, hd, hpos, hpr, kq⟩ := h
    refine ⟨_, (pss_one (ps_ret (pe_lc (own := [("entry", 1)]) (g := gName 1) (tt := tYes) rfl c_copied.nd (pi_list (pv 0)) (blkOk_by (N := n_copied) (sc := defScope s_copied) (by decide +kernel)) (fun _ _ _ _ _ => (pg_name (i := 1) c_copied.nd rfl (.inl rfl))) (fun _ _ _ _ _ => pts_nil) (fun _ _ _ _ _ => (pe_ifExp (pt_val (pe_callB (r := rIsi K) call_isi (by rfl) m_isinstance boot_isinstance (pa_cons (pv 1) (pa_cons (pe_bltn (by rfl) m_list boot_list (v := .ty "list") rfl) pa_nil)))) (pc d_copied hr (by omega) (by rfl) (pa_cons (pv 1) pa_nil)) (pv 1)))))), ?_⟩
    have hwl := wd_le hpos hpr
    refine ⟨_, rfl, p, rfl, ⟨es, sq_of hp⟩, fun D hD => lc_list (xs := es) (fun i H' => Ex H H' ∧ ∃ ys, H' D = some (.lst ys) ∧ ys.length = i ∧ ∀ k u, ys[k]? = some u → EntN m (fun a => H a = none ∧ a ≠ D) H' ws (lo + (k : Nat) * prodI ws) u) ⟨Ex.new hD, [], upd_same, rfl, fun k u hu => by simp at hu⟩ (fun i H' _ q => sq_of (q.1 _ _ hp)) (fun i x H' hx ⟨ex, ys, hys, hyl, hye⟩ => ?_) fun H' ⟨ex, ys, hys, hyl, hye⟩ => ?_⟩
    · refine ⟨rfl, ?_⟩
      unfold tYes
      refine iteT ?_
      have he := (hent i x hx).ex ex
      have hil := (List.getElem?_eq_some_iff.mp hx).1
      have fin : ∀ (y : V) H4, Ex H' H4 → EntN m (fun a => H a = none ∧ a ≠ D) H4 ws (lo + (i : Nat) * prodI ws) y → ∃ acc, H4 D = some (.lst acc) ∧ acc.length < sizeLine ∧ (Ex H (upd H4 D (.lst (acc ++ [y]))) ∧ ∃ ys, (upd H4 D (.lst (acc ++ [y]))) D = some (.lst ys) ∧ ys.length = i + 1 ∧ ∀ k u, ys[k]? = some u → EntN m (fun a => H a = none ∧ a ≠ D) (upd H4 D (.lst (acc ++ [y]))) ws (lo + (k : Nat) * prodI ws) u) := by
        intro y H4 e4 hy
        refine ⟨ys, e4 _ _ hys, sz_lt (by omega), Ex.mut (ex.trans e4) hD, ys ++ [y], upd_same, by simp [hyl], fun k u hu => ?_⟩
        rcases Nat.lt_or_ge k ys.length with c | c
        · rw [List.getElem?_append_left c] at hu
          exact ((hye k u hu).ex e4).upd (e4 _ _ hys) (fun z => z.2 rfl)
        · rw [List.getElem?_append_right c] at hu
          have hk : k = i := by
            have := (List.getElem?_eq_some_iff.mp hu).1
            simp at this
            omega
          subst hk
          rw [show k - ys.length = 0 by omega] at hu
          cases hu
          exact hy.upd (e4 _ _ hys) (fun z => z.2 rfl)
      refine et_B (isi_list he (ev_var rfl) ev_c) H' (Ex.refl _) _ fun H3 e3 => ?_
      have he3 := he.ex e3
      rcases ent_cases he3 with ⟨hk, ev⟩ | ⟨k, hk, hmk⟩ | ⟨hk, w', ws', ews, hT⟩
      · rw [hk]
        exact ⟨x, rfl, fin x H3 e3 (entN_flat he3 (by rw [hk]; intro z; cases z))⟩
      · rw [hk]
        exact ⟨x, rfl, fin x H3 e3 (entN_flat he3 (by rw [hk]; intro z; cases z))⟩
      · subst ews
        rw [hk]
        refine ⟨_, rfl, x, m, w', ws', _, rfl, hT, by simp only [List.length_cons] at hd; omega, hpos.tail, tail_le hpos hpr, fun q H4 hq e4 hN => fin (.ref q) H4 (e3.trans e4) (entN_tab (hN.map (fun a ha => ⟨fresh_back (ex.trans e3) ha, fun z => by rw [z, e3 _ _ hys] at ha; cases ha⟩) (fun _ _ _ x => x) fun _ _ x => x) hk)⟩
    · refine kq D H' hD ex ⟨D, ys, rfl, hD, hys, by omega, fun k u hu => (hye k u hu).map (fun a h => h.1) (fun _ _ _ x => x) fun _ _ x => x⟩
end
end Lp
end
section
set_option Elab.async false
set_option linter.all false
set_option maxRecDepth 100000
set_option maxHeartbeats 4000000
/-! Lp.X6: is_table, folded. -/
namespace Lp
open PySem PySem.Spec PyProof.Rows L2 Evl GenW
theorem desc_len {m : Mm} {lo hi : Int} {rs : List Row} (h : Desc m lo hi rs) : (rs.length : Int) ≤ hi - lo := by
  induction rs generalizing lo with
  | nil => have := h.1; simp; omega
  | cons r rs ih =>
    obtain ⟨h1, h2, h3, h4, h5, h6⟩ := h
    have := ih h6
    simp only [List.length_cons]
    omega
theorem desc_ok {m : Mm} {lo hi : Int} {rs : List Row} (h : Desc m lo hi rs) (ok : okMm m) : ∀ r ∈ rs, okM r.m := by
  induction rs generalizing lo with
  | nil => intro r hr; simp at hr
  | cons r rs ih =>
    obtain ⟨h1, h2, h3, h4, h5, h6⟩ := h
    intro q hq
    rcases List.mem_cons.mp hq with e | hq
    · have := h5 r.s (Int.le_refl _) h2
      rw [Int.sub_self, advM_zero] at this
      rw [e]
      exact ok _ _ this
    · exact ih h6 q hq
def rowsD (rs : List Row) : PyData := .list (rs.map rd)
theorem f2_dp {K : PySem.W.Frag} {H : Hp} {rs : List Row} {vs : List V} (h : RwsOf H rs vs) : DpAll K H vs (rs.map rd) := by
  induction h with
  | nil => exact .nil
  | cons a _ ih => exact .cons (dp_rw a) ih
theorem dp_rows {K : PySem.W.Frag} {H : Hp} {rs : List Row} {v : V} (h : LrAt rs v H) : Dp K H v (rowsD rs) := by
  obtain ⟨p, vs, rfl, hp, hr⟩ := h
  exact .lst (sq_of hp) (f2_dp hr)
theorem rd_can {r : Row} (h : okM r.m) : PyData.canLay0 (rd r) = true ∧ PyData.depth (rd r) ≤ 60 := by
  refine ⟨by simp [rd, PyData.canLay0, PyData.canLayAll0, h.1, h.2], ?_⟩
  show PyData.depth (.tuple [.int r.s, .int r.e, .str r.m.r, .str r.m.f, .int r.m.i]) ≤ 60
  simp [PyData.depth, PyData.depthAll]
theorem shaped_rows {rs : List Row} (h : ∀ r ∈ rs, okM r.m) : SeqAt.shaped (rowsD rs) = true := shaped_list fun x hx => by
  obtain ⟨r, hr, rfl⟩ := List.mem_map.mp hx
  exact rd_can (h r hr)
theorem eqv_self {d : PyData} (h : SeqAt.shaped d = true) : PyData.eqv d d = true := SeqAt.eqv_refl d (SeqAt.canLay_of_shaped h)
section
variable {P : Program} {w : World} {K : PySem.W.Frag} {mg : PySem.Str → Option Value} {base : Heap} {C : Addr}
/-- the generator def, by its name -/
def GenD (P : Program) (w : World) (K : PySem.W.Frag) (mg : PySem.Str → Option Value) (base : Heap) (C : Addr) : Prop := ∃ f fd, GFnC P w K mg base 13 f fd p_marked_blocks (spMB C 5) ∧ mg "marked_blocks" = some (.ref f) ∧ PySem.W.keepIn K (.ref f) = true ∧ Binds K fd p_marked_blocks []
/-- list(marked_blocks(..)) -/
theorem ev_listMB {σ : L2.St} {H : Hp} {t1 t2 t3 t4 : TE} {all : List Int} {lev : Nat} {lo wd : Int} {ws : List Int} {m : Mm} (h1 : EvP t1 σ H (ShAt C all)) (h2 : Ev t2 σ H (.int (lev : Int))) (h3 : Ev t3 σ H (.int lo)) (h4 : EvP t4 σ H (TabAt m wd ws lo)) (hw : WOk all) (hd : all.drop lev = wd :: ws) :
    EvP (tListC (tCallC (spMB C 5) [] (tCons t1 (tCons t2 (tCons t3 (tCons t4 tNil)))))) σ H (LrAt (tabRows m wd ws lo)) := by
  intro H1 e1 Q q
  have hpos : PosW (wd :: ws) := by rw [← hd]; exact hw.pos.drop lev
  have hpr : prodI (wd :: ws) ≤ 4096 := by rw [← hd]; exact (hw.2 lev).2
  have hl := desc_len (tab_desc (m := m) (lo := lo) hpos)
  have hn : (tabRows m wd ws lo).length ≤ 4096 := by omega
  have hwl : ws.length < 5 := by
    have := congrArg List.length hd
    rw [List.length_drop] at this
    simp only [List.length_cons] at this
    have := hw.1
    omega
  refine ⟨(tabRows m wd ws lo).length, fun ys H2 => Ex H1 H2 ∧ RwsOf H2 (tabRows m wd ws lo) ys, ?_, sz_of (by omega), fun ys H2 hl2 ⟨e2, hy⟩ l hln => q _ _ (e2.trans (Ex.new hln)) ⟨l, ys, rfl, upd_same, hy.ex (Ex.new hln)⟩⟩
  refine h1 H1 e1 _ fun v1 H2 e2 g1 => h2 H2 (e1.trans e2) _ fun H3 e3 => h3 H3 ((e1.trans e2).trans e3) _ fun H4 e4 => h4 H4 (((e1.trans e2).trans e3).trans e4) _ fun v4 H5 e5 g4 => ?_
  exact ⟨v1, all, lev, lo, v4, m, wd, ws, rfl, ((g1.ex e3).ex e4).ex e5, hw, hd, hwl, g4, rfl, by omega, fun ys H6 e6 hy => ⟨e2.trans (e3.trans (e4.trans (e5.trans e6))), hy⟩⟩
def spIsTable (C : Addr) : Sp := fun vs H Q _ => ∃ (sv : V) (all : List Int) (lev : Nat) (lo : Int) (v rv : V) (m : Mm) (wd : Int) (ws : List Int) (rs : List Row), vs = [sv, .int lev, .int lo, v, rv] ∧ ShAt C all sv H ∧ WOk all ∧ all.drop lev = wd :: ws ∧ TabAt m wd ws lo v H ∧ LrAt rs rv H ∧
  Canon m lo (lo + prodI (wd :: ws)) rs ∧ okMm m ∧ RetV (.bl true) H Q
theorem cl_is_table (D : Dfd K mg "is_table" s_is_table p_is_table) (G : GenD P w K mg base C) (m_isinstance : mg "isinstance" = none) (m_list : mg "list" = none) (d_span : Mt P w K mg base 1 C "span" (spSpan C)) (d_joined : Cl P w K mg base 4 "joined" spJoined) (d_stands_for_one : Cl P w K mg base 2 "stands_for_one" spStands) :
    Cl2 P w K mg base 18 "is_table" (spIsTable C) := by
  refine cl2_of D c_is_table (fun vs H Q E h => ?_) fun f cdv A outer s H vs Q hr h => ?_
  · obtain ⟨_, _, _, _, _, _, _, _, _, _, rfl, _⟩ := h; rfl
  obtain ⟨sv, all, lev, lo, v, rv, m, wd, ws, rs, rfl, hS, hw, hd, hT, hR, hC, ok, kq⟩ := h
  obtain ⟨gf, gfd, GF, GM, GK, GB⟩ := G
  have hrG := hr.mono (show 13 ≤ 17 by decide)
  have hrL := hr.mono (show 13 + 3 ≤ 17 by decide)
  refine ⟨_, (pss2_cons (ps2_if (pt2_cmpR (r := rNeD K) (op_neD hr.units) (pc2 d_joined.two hr (by decide) (by rfl) (pa2_cons (pe2_listG (pgen_callC GF hrG (by rfl) GM GK GB .nil (pa_cons (pv 0) (pa_cons (pv 1) (pa_cons (pv 2) (pa_cons (pv 3) pa_nil))))) rfl hrL (by rfl) m_list boot_list) (.of pa_nil))) (.of (pv 4)) (nomark _)) (.of (pss_one (ps_ret pe_bl))) (.of pss_nil)) (.of (pss_cons (ps_setLc (i := 5) (own := [("entry", 6)]) (g := gName 6) rfl c_is_table.nd rfl rfl (sw_true rfl rfl rfl (by decide +kernel)) (pi_list (pv 3)) (blkOk_by (N := n_is_table) (sc := defScope s_is_table) (by decide +kernel)) (fun _ _ _ _ _ => (pg_name (i := 6) c_is_table.nd rfl (.inl rfl))) (fun _ _ _ _ _ => (pts_one (pt_val (pe_callB (r := rIsi K) call_isi (by rfl) m_isinstance boot_isinstance (pa_cons (pv 6) (pa_cons (pe_bltn (by rfl) m_list boot_list (v := .ty "list") rfl) pa_nil)))))) (fun _ _ _ _ _ => (pv 6))) (pss_one (ps_ret (pe_cmpR (r := rEqD K) (op_eqD hr.units) (pe_lc (own := [("table", 7)]) (g := gName 7) rfl c_is_table.nd (pi_list (pv 5)) (blkOk_by (N := n_is_table) (sc := defScope s_is_table) (by decide +kernel)) (fun _ _ _ _ _ => (pg_name (i := 7) c_is_table.nd rfl (.inl rfl))) (fun _ _ _ _ _ => (pts_one (pt_val (pc d_stands_for_one hr (by decide) (by rfl) (pa_cons (pv 7) (pa_cons (pm d_span hr (by decide) (pv 0) (pa_cons (pe_op op_add (pv 1) pe_int) pa_nil)) pa_nil)))))) (fun _ _ _ _ _ => (pv 7))) (pe_lst pa_nil) (nomark _))))))), ?_⟩
  have hpos : PosW (wd :: ws) := by rw [← hd]; exact hw.pos.drop lev
  have hpr : prodI (wd :: ws) ≤ 4096 := by rw [← hd]; exact (hw.2 lev).2
  have hlen := congrArg List.length hd
  rw [List.length_drop] at hlen
  simp only [List.length_cons] at hlen
  have hw4 := hw.1
  have hdesc := tab_desc (m := m) (lo := lo) hpos
  have okt := desc_ok hdesc ok
  have okr := desc_ok hC.1 ok
  have tl := desc_len hdesc
  have J : EvP (tCall spJoined [] L2.E0 (tCons (tListC (tCallC (spMB C 5) [] (tCons (tVar 0) (tCons (tVar 1) (tCons (tVar 2) (tCons (tVar 3) tNil)))))) tNil)) (L2.start n_is_table [sv, .int lev, .int lo, v, rv]) H (LrAt rs) :=
    evp_call (eap_cons (ev_listMB (lev := lev) (lo := lo) (m := m) (wd := wd) (ws := ws) (evs_var (v := sv) rfl hS) (ev_var rfl) (ev_var rfl) (evp_var (v := v) rfl fun H1 e => hT.ex e) hw hd) eap_nil fun _ _ _ e h => h.ex e) fun vs H1 e1 ⟨u, us, e2, hu, e3⟩ Q q => ⟨u, tabRows m wd ws lo, by rw [e2, e3], hu, by omega, okt, fun p H' _ ex ⟨ys, hy, hyr⟩ => q (.ref p) H' ex ⟨p, ys, rfl, hy, by rw [tab_joined hpos hC] at hyr; exact hyr⟩⟩
  have NE := et_neD (K := K) (tb := tVar 4) (Pa := LrAt rs) (Pb := LrAt rs) (d1 := rowsD rs) (d2 := rowsD rs) J (evp_var (v := rv) rfl fun H1 e => hR.ex e) (fun _ _ _ e h => h.ex e) (fun _ _ h => dp_rows h) (fun _ _ h => dp_rows h) (shaped_rows okr) (shaped_rows okr)
  rw [eqv_self (shaped_rows okr)] at NE
  refine q_when (b := false) (et_test NE) (fun hb => by cases hb) fun _ H1 e1 => ?_
  obtain ⟨p, es, rfl, hp, hes, hent⟩ := id hT
  have hwd := wd_le hpos (by omega)
  have comp := el_lcL (K := K) (H := H1) (σ := L2.start n_is_table [sv, .int lev, .int lo, .ref p, rv]) (a := p) (xs := es) (tl := tVar 3) (j := 6) (vs := [6]) (t := tB (tCB (rIsi K) (tCons (tVar 6) (tCons (tC (V.ty "list")) tNil)))) (te := tVar 6) (fun i => isTab m ws (lo + (i : Nat) * prodI ws)) (fun i => (es[i]?).getD .non) (ev_var rfl) (sq_of (e1 _ _ hp)) (by omega) (fun _ => rfl) (fun i x H2 e hx => et_B (isi_list (((hent i x hx).ex e1).ex e) (ev_var rfl) ev_c)) (fun i x H2 e hx _ => ev_is (ev_var rfl) (is_getD hx).symm)
  refine q_asgL comp fun l H2 hl e2 hl2 => ?_
  have glen := given_len es.length (fun i => isTab m ws (lo + (i : Nat) * prodI ws)) (fun i => (es[i]?).getD .non)
  have comp2 := el_lcL (K := K) (H := H2) (σ := [some sv, some (.int lev), some (.int lo), some (.ref p), some rv, some (.ref l), none, none]) (a := l) (xs := given es.length (fun i => isTab m ws (lo + (i : Nat) * prodI ws)) (fun i => (es[i]?).getD .non)) (tl := tVar 5) (j := 7) (vs := [7]) (t := tB (tCall spStands [] L2.E0 (tCons (tVar 7) (tCons (tMeth C "span" (spSpan C) [] L2.E0 (tVar 0) (tCons (tOp (rI0 fun i j => .int (i + j)) (tVar 1) (tC (.int 1))) tNil)) tNil)))) (te := tVar 7) (fun _ => false) (fun _ => .non) (ev_var rfl) (sq_of hl2) (by omega) (fun _ => rfl) (fun i x H3 e hx => et_B ?_) (fun i x H2 e hx hf => by cases hf)
  · have eg : ∀ n, given n (fun _ => false) (fun _ => V.non) = [] := fun n => by unfold given; rw [filter_e fun i _ => rfl]; rfl
    rw [eg] at comp2
    have z := et_eqD (K := K) (elp comp2) (elp (te := tLst tNil) (el_lst ea_nil (by decide))) elp_mono (d1 := .list []) (d2 := .list []) (fun v H1 h => dp_nil' h) (fun v H1 h => dp_nil' h) rfl rfl
    rw [eqv_nil] at z
    exact s_ret z fun H4 e4 => kq H4 (e1.trans (e2.trans e4))
  · unfold given at hx
    rw [List.getElem?_map] at hx
    cases hq : ((List.range es.length).filter fun i => isTab m ws (lo + (i : Nat) * prodI ws))[i]? with
    | none => rw [hq] at hx; cases hx
    | some j =>
      rw [hq] at hx
      cases hx
      have hj := List.mem_filter.mp (List.mem_of_getElem? hq)
      have hjl : j < es.length := List.mem_range.mp hj.1
      have hk := isTab_iff.mp hj.2
      have ej : es[j]? = some es[j] := List.getElem?_eq_getElem hjl
      rcases ent_cases ((((hent j _ ej).ex e1).ex e2).ex e) with ⟨hq, _⟩ | ⟨k, hq, _⟩ | ⟨_, w', ws', ews, hT'⟩
      · rw [hk] at hq; cases hq
      · rw [hk] at hq; cases hq
      subst ews
      have hd' : all.drop (lev + 1) = w' :: ws' := drop_next hd
      refine ev_callV (eap (ea_cons (ev_var rfl) (ea_cons (ev_span (i := lev + 1) (evs_var (v := sv) rfl (((hS.ex e1).ex e2).ex e)) (ev_is (ev_op (ev_var rfl) ev_c rv_I0) (by simp)) (span_at hd')) ea_nil))) fun vs H4 e4 ev Q2 q2 => ⟨_, m, w', ws', _, ev, ?_, hk, hpos.tail, by simp only [List.length_cons] at hlen; omega, wd_le hpos.tail (tail_le hpos (by omega)), ok, q2⟩
      show TabAt m w' ws' _ ((es[j]?).getD .non) H4
      rw [ej]
      exact hT'.ex e4
end
end Lp
end
section
set_option Elab.async false
set_option linter.all false
set_option maxRecDepth 100000
set_option maxHeartbeats 4000000
/-! Lp.X7: folded. -/
namespace Lp
open PySem PySem.Spec PyProof.Rows L2 Evl GenW
theorem head_at {all : List Int} {lev : Nat} {w : Int} {ws : List Int} (h : all.drop lev = w :: ws) : all[lev]? = some w := by
  have := congrArg List.head? h
  rw [List.head?_drop] at this
  exact this
theorem kind_else {m : Mm} {w : Int} {ws : List Int} {lo : Int} (h1 : empB m lo (prodI (w :: ws)) = false) (h2 : uniB m lo (prodI (w :: ws)) = false) : kind m (w :: ws) lo = .tab := by
  unfold kind
  rw [h1, h2]
  rfl
section
variable {σ : L2.St} {H : Hp} {te ta tb : TE} {K : PySem.W.Frag} {D : Ends} {v : V}
theorem evp_of {P : V → Hp → Prop} (h : Ev te σ H v) (hp : ∀ H1, Ex H H1 → P v H1) : EvP te σ H P := fun H1 e Q q => h H1 e Q fun H2 e2 => q v H2 e2 (hp H2 (e.trans e2))
theorem s_appN {P : Addr → Hp → Prop} {l : Addr} {xs : List V} (hl : H l = some (.lst xs)) (ha : Ev ta σ H (.ref l)) (h : EvN te σ H P) (hz : xs.length < 100000) (k : ∀ p H1, H p = none → Ex H H1 → P p H1 → D.nx σ (upd H1 l (.lst (xs ++ [.ref p])))) :
    tDrop (tBM K "list" rAppend ta (tCons te tNil)) D σ H := ha H (Ex.refl H) _ fun H1 e1 =>
  ⟨Or.inl ⟨rfl, xs, sq_of (e1 l _ hl)⟩, h H1 e1 _ fun p H2 hp e2 h2 => ⟨l, xs, .ref p, rfl, rfl, e2 l _ (e1 l _ hl), sz_lt hz, k p H2 (fresh_back e1 hp) (e1.trans e2) h2⟩⟩
theorem cut02 (r : Row) : cutV (rv r) none (some 2) = [V.int r.s, V.int r.e] := rfl
theorem ev_sl02 {r : Row} (h : EvP te σ H (RwAt r)) : EvP (tSl (rSlT K) te tNoPart (tPart (tC (.int 2)))) σ H (TpAt [V.int r.s, V.int r.e]) := by
  have z := evp_slT (K := K) h eo_none (eo_some ev_c) (hi := some 2) (by show ¬ (_ ∧ (2 : Nat) = 5); intro q; exact absurd q.2 (by decide))
  rw [cut02] at z
  exact z
end
section
variable {P : Program} {w : World} {K : PySem.W.Frag} {mg : PySem.Str → Option Value} {base : Heap} {C : Addr}
def spFolded (C : Addr) (d : Nat) : Sp := fun vs H Q _ => ∃ (sv : V) (all : List Int) (lev : Nat) (lo : Int) (rv : V) (m : Mm) (wd : Int) (ws : List Int) (rs : List Row), vs = [sv, .int lev, .int lo, rv] ∧ ShAt C all sv H ∧ WOk all ∧ all.drop lev = wd :: ws ∧ ws.length < d ∧ LrAt rs rv H ∧
  Canon m lo (lo + prodI (wd :: ws)) rs ∧ okMm m ∧ ∀ p H', H p = none → Ex H H' → TabN m (fun a => H a = none) wd ws lo (.ref p) H' → Q (.ref p) H'
theorem cl_folded (D : Dfd K mg "folded" s_folded p_folded) (T : TS K C) (m_range : mg "range" = none) (d_span : Mt P w K mg base 1 C "span" (spSpan C)) (d_clipped : Cl P w K mg base 3 "clipped" spClipped) (d_is_table : Cl2 P w K mg base 18 "is_table" (spIsTable C)) :
    ∀ d : Nat, Cl2 P w K mg base (d + 20) "folded" (spFolded C d) := by
  intro d
  induction d with
  | zero =>
    refine cl2_of D c_folded (fun vs H Q E h => ?_) fun f cdv A outer s H vs Q hr h => ?_
    · obtain ⟨_, _, _, _, _, _, _, _, _, rfl, _⟩ := h; rfl
    · obtain ⟨_, _, _, _, _, _, _, _, _, _, _, _, _, h, _⟩ := h
      exact absurd h (Nat.not_lt_zero _)
  | succ d d_folded =>
    refine cl2_of D c_folded (fun vs H Q E h => ?_) fun f cdv A outer s H vs Q hr h => ?_
    · obtain ⟨_, _, _, _, _, _, _, _, _, rfl, _⟩ := h; rfl
    obtain ⟨sv, all, lev, lo, rv, m, wd, ws, rs, rfl, hS, hw, hd, hdd, hR, hC, ok, kq⟩ := h
    refine ⟨_, (pss2_cons (.of (ps_set (i := 4) c_folded.nd rfl (.inl rfl) (pm d_span hr (by omega) (pv 0) (pa_cons (pv 1) pa_nil)))) (pss2_cons (.of (ps_set (i := 5) c_folded.nd rfl (.inl rfl) (pe_lst pa_nil))) (pss2_cons (ps2_for rfl rfl (pi_range1 (by rfl) m_range (pa_cons (pe_ix (r := rIxT K) ix_tup (pe_fld (pv 0) rfl) (pv 1) (fun _ _ => rfl)) pa_nil)) (pg_name (i := 6) c_folded.nd rfl (.inl rfl)) (pss2_cons (.of (ps_set (i := 7) c_folded.nd rfl (.inl rfl) (pe_op op_add (pv 2) (pe_op op_mul (pv 6) (pv 4))))) (pss2_cons (.of (ps_set (i := 8) c_folded.nd rfl (.inl rfl) (pc d_clipped hr (by omega) (by rfl) (pa_cons (pv 3) (pa_cons (pv 7) (pa_cons (pe_op op_add (pv 7) (pv 4)) pa_nil)))))) (pss2_one (ps2_if (.of (pt_cmpR (r := rEqD K) (op_eqD hr.units) (pv 8) (pe_lst pa_nil) (nomark _))) (.of (pss_one (ps_expr (pe_bm PySem.F.plainAttrs_list PySem.F.slot_list_append PySem.F.type_list_append mt_append (pv 5) (pa_cons pe_non pa_nil))))) (pss2_one (ps2_if (.of (pt_cmpR (r := rEqD K) (op_eqD hr.units) (pe_slice (r := rSlT K) sl_tup (pe_ix (r := rIxL K) ix_list (pv 8) pe_int (fun _ _ => rfl)) po_none (po_some pe_int)) (pe_tup (pa_cons (pv 7) (pa_cons (pe_op op_add (pv 7) (pv 4)) pa_nil))) (nomark _))) (.of (pss_one (ps_expr (pe_bm PySem.F.plainAttrs_list PySem.F.slot_list_append PySem.F.type_list_append mt_append (pv 5) (pa_cons (pe_slice (r := rSlT K) sl_tup (pe_ix (r := rIxL K) ix_list (pv 8) pe_int (fun _ _ => rfl)) (po_some pe_int) po_none) pa_nil))))) (pss2_one (ps2_expr (pe2_bm PySem.F.plainAttrs_list PySem.F.slot_list_append PySem.F.type_list_append mt_append (pv 5) (pa2_cons (pc2 d_folded hr (by omega) (by rfl) (pa2_cons (.of (pv 0)) (pa2_cons (.of (pe_op op_add (pv 1) pe_int)) (pa2_cons (.of (pv 7)) (pa2_cons (.of (pv 8)) (.of pa_nil)))))) (.of pa_nil)))))))))))) (pss2_cons (ps2_assert (pt2_val (pc2 d_is_table hr (by omega) (by rfl) (pa2_cons (.of (pv 0)) (pa2_cons (.of (pv 1)) (pa2_cons (.of (pv 2)) (pa2_cons (.of (pv 5)) (pa2_cons (.of (pv 3)) (.of pa_nil))))))))) (.of (pss_one (ps_ret (pv 5)))))))), ?_⟩
    have hpos : PosW (wd :: ws) := by rw [← hd]; exact hw.pos.drop lev
    have hpr : prodI (wd :: ws) ≤ 4096 := by rw [← hd]; exact (hw.2 lev).2
    have hp1 := hpos.tail.pos
    have hwp := hpos.head
    have hwd := wd_le hpos (by omega)
    have hp2 := tail_le hpos (by omega)
    have hrl := desc_len hC.1
    have eprod : prodI (wd :: ws) = wd * prodI ws := rfl
    refine q_asg (ev_span (evs_var rfl hS) (ev_var rfl) (span_at hd)) fun H1 e1 => ?_
    refine q_asgL (el_lst ea_nil (by decide)) fun l H2 hl e2 hl2 => ?_
    have hl' := fresh_back e1 hl
    refine q_forR1 (ea_cons (ev_ixT (ev_widths T (evs_var rfl ((hS.ex e1).ex e2))) (ev_var rfl) (iv_at (head_at hd))) ea_nil) ⟨by omega, by omega⟩
      (fun i σ' H' => ∃ (r6 r7 r8 : Option V) (ys : List V), σ' = [some sv, some (.int lev), some (.int lo), some rv, some (.int (prodI ws)), some (.ref l), r6, r7, r8] ∧ Ex H H' ∧ H' l = some (.lst ys) ∧ ys.length = i ∧ ∀ k u, ys[k]? = some u → EntN m (fun a => H a = none ∧ a ≠ l) H' ws (lo + (k : Nat) * prodI ws) u)
      (fun H3 e3 => ⟨none, none, none, [], rfl, e1.trans (e2.trans e3), e3 _ _ hl2, rfl, fun k u hu => by simp at hu⟩) (fun i σ' H' hi ⟨r6, r7, r8, ys, eσ, ex, hys, hyl, hye⟩ => ?_) fun σ' H' ⟨r6, r7, r8, ys, eσ, ex, hys, hyl, hye⟩ => ?_
    · subst eσ
      refine q_asg (ev_op (ev_var rfl) (ev_op (ev_var rfl) (ev_var rfl) (rv_I (C := CMul) (.inr ⟨by omega, by omega⟩))) rv_I0) fun H3 e3 => ?_
      have hi1 : ((i : Nat) : Int) + 1 ≤ wd := by omega
      have hmul : ((i : Nat) : Int) * prodI ws + prodI ws ≤ wd * prodI ws := by
        have : (((i : Nat) : Int) + 1) * prodI ws ≤ wd * prodI ws := Int.mul_le_mul_of_nonneg_right hi1 (by omega)
        rw [Int.add_mul] at this
        omega
      have hmul0 : 0 ≤ ((i : Nat) : Int) * prodI ws := Int.mul_nonneg (by omega) (by omega)
      have hCi : Canon m (lo + (i : Nat) * prodI ws) (lo + (i : Nat) * prodI ws + prodI ws) (clipR rs (lo + (i : Nat) * prodI ws) (lo + (i : Nat) * prodI ws + prodI ws)) := hC.clip (by omega) (by omega) (by omega)
      refine q_asgP (en_clip (evp_var (P := LrAt rs) (v := rv) rfl fun H4 e4 => ((hR.ex ex).ex e3).ex e4) (by omega) (ev_var rfl) (ev_op (ev_var rfl) (ev_var rfl) rv_I0)).p fun v4 H4 e4 ⟨b4, ev4, us4, hb4, hus4⟩ => ?_
      subst ev4
      generalize hin : clipR rs (lo + (i : Nat) * prodI ws) (lo + (i : Nat) * prodI ws + prodI ws) = ins at *
      have oki := desc_ok hCi.1 ok
      have fin : ∀ (y : V) (H5 : Hp), Ex H4 H5 → EntN m (fun a => H a = none ∧ a ≠ l) H5 ws (lo + (i : Nat) * prodI ws) y → ∃ (r6 r7 r8 : Option V) (zs : List V), [some sv, some (.int lev), some (.int lo), some rv, some (.int (prodI ws)), some (.ref l), some (.int (i : Nat)), some (.int (lo + (i : Nat) * prodI ws)), some (.ref b4)] = [some sv, some (V.int lev), some (V.int lo), some rv, some (V.int (prodI ws)), some (V.ref l), r6, r7, r8] ∧ Ex H (upd H5 l (.lst (ys ++ [y]))) ∧ (upd H5 l (.lst (ys ++ [y]))) l = some (.lst zs) ∧ zs.length = i + 1 ∧ ∀ k u, zs[k]? = some u → EntN m (fun a => H a = none ∧ a ≠ l) (upd H5 l (.lst (ys ++ [y]))) ws (lo + (k : Nat) * prodI ws) u := by
        intro y H5 e5 hy
        have hys5 := e5 _ _ (e4 _ _ (e3 _ _ hys))
        refine ⟨_, _, _, ys ++ [y], rfl, Ex.mut (ex.trans (e3.trans (e4.trans e5))) hl', upd_same, by simp [hyl], fun k u hu => ?_⟩
        rcases Nat.lt_or_ge k ys.length with c | c
        · rw [List.getElem?_append_left c] at hu
          exact ((((hye k u hu).ex e3).ex e4).ex e5).upd hys5 (fun z => z.2 rfl)
        · rw [List.getElem?_append_right c] at hu
          have hk : k = i := by
            have := (List.getElem?_eq_some_iff.mp hu).1
            simp at this
            omega
          subst hk
          rw [show k - ys.length = 0 by omega] at hu
          cases hu
          exact hy.upd hys5 (fun z => z.2 rfl)
      have hys4 := e4 _ _ (e3 _ _ hys)
      have E1 := et_eqD (K := K) (σ := [some sv, some (.int lev), some (.int lo), some rv, some (.int (prodI ws)), some (.ref l), some (.int (i : Nat)), some (.int (lo + (i : Nat) * prodI ws)), some (.ref b4)]) (H := H4) (ta := tVar 8) (tb := tLst tNil) (Pa := LrAt ins) (d1 := rowsD ins) (d2 := .list []) (evp_var (v := .ref b4) rfl fun H5 e5 => ⟨b4, us4, rfl, e5 _ _ hb4, hus4.ex e5⟩) (elp (el_lst ea_nil (by decide))) (fun _ _ _ e h => h.ex e) (fun _ _ h => dp_rows h) (fun v H1 h => dp_nil' h) (shaped_rows oki) rfl
      have ee : PyData.eqv (rowsD ins) (.list []) = ins.isEmpty := by
        unfold rowsD
        rw [eqv_nil]
        cases ins <;> rfl
      rw [ee] at E1
      refine s_if (et_test E1) (fun hb H5 e5 => ?_) fun hb H5 e5 => ?_
      · -- no page is mapped
        have e0 : ins = [] := by cases hq : ins with | nil => rfl | cons a b => rw [hq] at hb; cases hb
        rw [e0] at hCi
        have hk : kind m ws (lo + (i : Nat) * prodI ws) = .non := kind_non.mpr (empB_iff.mpr hCi.1.2)
        refine s_app (e5 _ _ hys4) (ev_var rfl) ev_c (by omega) fun H6 e6 => fin .non H6 (e5.trans e6) (entN_flat (ws := ws) ?_ (by rw [hk]; intro z; cases z))
        cases ws with
        | nil => unfold EntAt; rw [hk]
        | cons a b => unfold EntAt; rw [hk]
      cases hq : ins with
      | nil => rw [hq] at hb; cases hb
      | cons r rest =>
      rw [hq] at hCi hus4 oki
      obtain ⟨c1, c2, c3, c4, c5, c6⟩ := hCi.1
      obtain ⟨v0, hv0, hr0⟩ := hus4.at' (i := 0) (a := r) rfl
      have V0 : ∀ {H6 : Hp}, Ex H5 H6 → EvP (tOp (rIxL K) (tVar 8) (tC (.int 0))) [some sv, some (.int lev), some (.int lo), some rv, some (.int (prodI ws)), some (.ref l), some (.int (i : Nat)), some (.int (lo + (i : Nat) * prodI ws)), some (.ref b4)] H6 (RwAt r) := fun e6 => evp_of (ev_op (ev_var rfl) ev_c (rv_ixL (sq_of (e6 _ _ (e5 _ _ hb4))) (atI_nat (j := 0) hv0))) fun H7 e7 => (((hr0.ex e5).ex e6).ex e7)
      have E2 := et_eqD (K := K) (σ := [some sv, some (.int lev), some (.int lo), some rv, some (.int (prodI ws)), some (.ref l), some (.int (i : Nat)), some (.int (lo + (i : Nat) * prodI ws)), some (.ref b4)]) (H := H5) (tb := tTup (tCons (tVar 7) (tCons (tOp (rI0 fun i j => .int (i + j)) (tVar 7) (tVar 4)) tNil))) (ev_sl02 (K := K) (V0 (Ex.refl _))) (eup (eu_tup (ea_cons (ev_var rfl) (ea_cons (ev_op (ev_var rfl) (ev_var rfl) rv_I0) ea_nil)) (by show 2 ≤ 100000; decide))) (fun _ _ _ e h => TpAt.ex e h) (fun _ _ h => dp_two h) (fun _ _ h => dp_two h) (shaped_two _ _) (shaped_two _ _)
      rw [eqv_two] at E2
      refine s_if (et_test E2) (fun hb2 H6 e6 => ?_) fun hb2 H6 e6 => ?_
      · -- uniform
        simp only [Bool.and_eq_true, decide_eq_true_eq] at hb2
        obtain ⟨d1, d2⟩ := hb2
        have hu : uniB m (lo + (i : Nat) * prodI ws) (prodI ws) = true := uniB_iff.mpr ⟨r.m, by
          have := c5 r.s (Int.le_refl _) c2
          rw [Int.sub_self, advM_zero, d1] at this
          exact this, fun x a b => by
          have := c5 x (by omega) (by omega)
          rw [d1] at this
          exact this⟩
        obtain ⟨k, hk1, hk2⟩ := kind_uni hp1 hu
        have ek : r.m = k := by
          have := c5 r.s (Int.le_refl _) c2
          rw [Int.sub_self, advM_zero, d1, hk1] at this
          exact (Option.some.inj this).symm
        refine s_appP (e6 _ _ (e5 _ _ hys4)) (ev_var rfl) (ev_sl2 (K := K) (V0 e6)) (by omega) fun y H7 e7 hy => fin y H7 (e5.trans (e6.trans e7)) (entN_flat (ws := ws) ?_ (by rw [hk2]; intro z; cases z))
        rw [ek] at hy
        cases ws with
        | nil => unfold EntAt; rw [hk2]; exact hy
        | cons a b => unfold EntAt; rw [hk2]; exact hy
      · -- a table
        have nu : uniB m (lo + (i : Nat) * prodI ws) (prodI ws) = false := by
          cases hu : uniB m (lo + (i : Nat) * prodI ws) (prodI ws) with
          | false => rfl
          | true =>
            obtain ⟨k, u1, u2⟩ := uniB_iff.mp hu
            have one : Canon m (lo + (i : Nat) * prodI ws) (lo + (i : Nat) * prodI ws + prodI ws) [⟨lo + (i : Nat) * prodI ws, lo + (i : Nat) * prodI ws + prodI ws, k⟩] := ⟨⟨Int.le_refl _, by show lo + (i : Nat) * prodI ws < lo + (i : Nat) * prodI ws + prodI ws; omega, Int.le_refl _, fun x a b => absurd (Int.lt_of_le_of_lt a b) (Int.lt_irrefl _), u2, Int.le_refl _, fun x a b => absurd (Int.lt_of_le_of_lt a b) (Int.lt_irrefl _)⟩, (fun _ z => by cases z), trivial⟩
            have := hCi.unique one
            cases this
            simp at hb2
        have ne : empB m (lo + (i : Nat) * prodI ws) (prodI ws) = false := by
          cases he : empB m (lo + (i : Nat) * prodI ws) (prodI ws) with
          | false => rfl
          | true =>
            have a := empB_iff.mp he r.s c1 (by omega)
            have b := c5 r.s (Int.le_refl _) c2
            rw [a] at b
            cases b
        cases ws with
        | nil =>
          exfalso
          have c3' : r.e ≤ lo + (i : Nat) * prodI [] + 1 := c3
          have e1 : r.s = lo + (i : Nat) * prodI [] := by omega
          have e2 : r.e = lo + (i : Nat) * prodI [] + prodI [] := by show r.e = lo + (i : Nat) * prodI [] + 1; omega
          simp only [Bool.and_eq_false_iff, decide_eq_false_iff_not] at hb2
          rcases hb2 with z | z
          · exact z e1
          · exact z e2
        | cons w' ws' =>
          have hk := kind_else ne nu
          refine s_appN (P := fun p H7 => TabN m (fun a => H6 a = none) w' ws' (lo + (i : Nat) * prodI (w' :: ws')) (.ref p) H7) (e6 _ _ (e5 _ _ hys4)) (ev_var rfl) (evn_call (eap_cons (evs_var (v := sv) (ws := all) (C := C) rfl (((((hS.ex ex).ex e3).ex e4).ex e5).ex e6)) (eap_cons (evp (ev_is (w := .int ((lev + 1 : Nat) : Int)) (ev_op (ev_var rfl) ev_c rv_I0) (by simp))) (eap_cons (evp (ev_var (v := .int (lo + (i : Nat) * prodI (w' :: ws'))) rfl)) (eap_cons (evp_var (P := LrAt (r :: rest)) (v := .ref b4) rfl fun H7 e7 => ⟨b4, us4, rfl, e7 _ _ (e6 _ _ (e5 _ _ hb4)), ((hus4.ex e5).ex e6).ex e7⟩) eap_nil fun _ _ _ e h => h.ex e) fun _ _ _ _ h => h) fun _ _ _ _ h => h) fun _ _ _ e h => h.ex e)
            fun vs H7 e7 ⟨x1, w1, g1, q1, x2, w2, g2, q2, x3, w3, g3, q3, x4, w4, g4, q4, g5⟩ Q2 k2 => ⟨x1, all, lev + 1, lo + (i : Nat) * prodI (w' :: ws'), x4, m, w', ws', r :: rest, by rw [g1, g2, g3, g4, g5, q2, q3], q1, hw, drop_next hd, by simp only [List.length_cons] at hdd; omega, q4, hCi, ok, fun p H8 hp e8 hT => k2 p H8 hp e8 (hT.map (fun a ha => fresh_back e7 ha) (fun _ _ _ x => x) fun _ _ x => x)⟩) (by omega) fun p H7 hp e7 hT => ?_
          refine fin (.ref p) H7 (e5.trans (e6.trans e7)) (entN_tab (hT.map (fun a ha => ⟨?_, ?_⟩) (fun _ _ _ x => x) fun _ _ x => x) hk)
          · exact fresh_back (ex.trans (e3.trans (e4.trans (e5.trans e6)))) ha
          · intro z
            rw [z, e6 _ _ (e5 _ _ hys4)] at ha
            cases ha
    · subst eσ
      have hN : TabN m (fun a => H a = none) wd ws lo (.ref l) H' := ⟨l, ys, rfl, hl', hys, by omega, fun k u hu => (hye k u hu).map (fun a h => h.1) (fun _ _ _ x => x) fun _ _ x => x⟩
      refine q_assert (et_B (ev_callV (v := .bl true) (eap_cons (evs_var (v := sv) (ws := all) (C := C) rfl (hS.ex ex)) (eap_cons (evp (ev_var (v := .int (lev : Int)) rfl)) (eap_cons (evp (ev_var (v := .int lo) rfl)) (eap_cons (evp_var (P := TabAt m wd ws lo) (v := .ref l) rfl fun H7 e7 => hN.at.ex e7) (eap_cons (evp_var (P := LrAt rs) (v := rv) rfl fun H7 e7 => (hR.ex ex).ex e7) eap_nil fun _ _ _ e h => h.ex e) fun _ _ _ e h => h.ex e) fun _ _ _ _ h => h) fun _ _ _ _ h => h) fun _ _ _ e h => h.ex e)
        fun vs H7 e7 ⟨x1, w1, g1, q1, x2, w2, g2, q2, x3, w3, g3, q3, x4, w4, g4, q4, x5, w5, g5, q5, g6⟩ Q2 k2 => ⟨x1, all, lev, lo, x4, x5, m, wd, ws, rs, by rw [g1, g2, g3, g4, g5, g6, q2, q3], q1, hw, hd, q4, q5, hC, ok, k2⟩)) rfl fun H7 e7 => ?_
      exact s_ret (ev_var rfl) fun H8 e8 => kq l H8 hl' (ex.trans (e7.trans e8)) (hN.map (fun _ x => x) (fun a o _ x => e8 _ _ (e7 _ _ x)) fun _ _ x => (x.ex e7).ex e8)
end
end Lp
end
section
set_option Elab.async false
set_option linter.all false
set_option maxRecDepth 100000
set_option maxHeartbeats 4000000
/-! Lp.X8: the class FoldedTable. -/
namespace Lp
open PySem PySem.Spec PyProof.Rows L2 Evl GenW
theorem nsr : ¬ (("shape" : PySem.Str) = "root") := by decide +kernel
def FT (sv : V) (r : Addr) : List (PySem.Str × V) := putF "root" (V.ref r) (putF "shape" sv [])
theorem ft_shape (sv : V) (r : Addr) : (FT sv r).lookup ("shape" : PySem.Str) = some sv := by
  unfold FT
  rw [lookup_putF, if_neg nsr, lookup_putF, if_pos rfl]
theorem ft_root (sv : V) (r : Addr) : (FT sv r).lookup ("root" : PySem.Str) = some (V.ref r) := by
  unfold FT
  rw [lookup_putF, if_pos rfl]
theorem ft_no (sv : V) (r : Addr) {m : PySem.Str} (h1 : ¬ m = "shape") (h2 : ¬ m = "root") : (FT sv r).lookup m = none := by
  unfold FT
  rw [lookup_putF, if_neg h2, lookup_putF, if_neg h1]
  rfl
/-- a FoldedTable at p -/
def FtAt (CF CS : Addr) (H : Hp) (p : Addr) (m : Mm) (wd : Int) (ws : List Int) : Prop := ∃ dx sv r, H p = some (.ins CF dx (FT sv r)) ∧ ShAt CS (wd :: ws) sv H ∧ TabAt m wd ws 0 (.ref r) H
theorem FtAt.ex {CF CS : Addr} {H H' : Hp} {p : Addr} {m : Mm} {wd : Int} {ws : List Int} (e : Ex H H') (h : FtAt CF CS H p m wd ws) : FtAt CF CS H' p m wd ws := let ⟨dx, sv, r, h1, h2, h3⟩ := h; ⟨dx, sv, r, e _ _ h1, h2.ex e, h3.ex e⟩
structure TFt (K : PySem.W.Frag) (C : Addr) : Prop where
  cl : Cls K C
  nS : NoAttr K C "shape"
  nR : NoAttr K C "root"
theorem TpAt.updI {xs : List V} {u : V} {H : Hp} {p C dx : Addr} {fs : List (PySem.Str × V)} {o : HO} (h : TpAt xs u H) (hp : H p = some (.ins C dx fs)) : TpAt xs u (L2.upd H p o) := by
  obtain ⟨q, h1, h2⟩ := h
  exact ⟨q, h1, by rw [upd_ne (fun z => by rw [z, hp] at h2; cases h2)]; exact h2⟩
theorem EntAt.updI {m : Mm} {H : Hp} {p C dx : Addr} {fs : List (PySem.Str × V)} {o : HO} (hp : H p = some (.ins C dx fs)) : ∀ {ws : List Int} {lo : Int} {v : V}, EntAt m H ws lo v → EntAt m (upd H p o) ws lo v
  | [], lo, v, h => by
    unfold EntAt at h ⊢
    cases hk : kind m [] lo with
    | non => rw [hk] at h; exact h
    | mk k => rw [hk] at h; exact TpAt.updI h hp
    | tab => rw [hk] at h; exact h
  | w :: ws, lo, v, h => by
    unfold EntAt at h ⊢
    cases hk : kind m (w :: ws) lo with
    | non => rw [hk] at h; exact h
    | mk k => rw [hk] at h; exact TpAt.updI h hp
    | tab =>
      rw [hk] at h
      obtain ⟨q, vs, h1, h2, h3, h4⟩ := h
      exact ⟨q, vs, h1, by rw [upd_ne (fun z => by rw [z, hp] at h2; cases h2)]; exact h2, h3, fun k u hu => EntAt.updI hp (h4 k u hu)⟩
theorem TabAt.updI {m : Mm} {H : Hp} {p C dx : Addr} {fs : List (PySem.Str × V)} {o : HO} {w : Int} {ws : List Int} {lo : Int} {v : V} (hp : H p = some (.ins C dx fs)) (h : TabAt m w ws lo v H) : TabAt m w ws lo v (upd H p o) := by
  obtain ⟨q, vs, h1, h2, h3, h4⟩ := h
  exact ⟨q, vs, h1, by rw [upd_ne (fun z => by rw [z, hp] at h2; cases h2)]; exact h2, h3, fun k u hu => (h4 k u hu).updI hp⟩
theorem ShAt.updI {CS : Addr} {ws : List Int} {sv : V} {H : Hp} {p : Addr} {o : HO} (h : ShAt CS ws sv H) (hp : sv ≠ .ref p) (ht : ∀ xs, H p ≠ some (.tup xs)) : ShAt CS ws sv (upd H p o) := by
  obtain ⟨q, dx, tw, ts, h0, h1, h2, h3⟩ := h
  refine ⟨q, dx, tw, ts, h0, ?_, ?_, ?_⟩
  · rw [upd_ne (fun z => hp (by rw [h0, z]))]; exact h1
  · rw [upd_ne (fun z => ht _ (z ▸ h2))]; exact h2
  · rw [upd_ne (fun z => ht _ (z ▸ h3))]; exact h3
section
variable {P : Program} {w : World} {K : PySem.W.Frag} {mg : PySem.Str → Option Value} {base : Heap} {CF CS CR : Addr}
def spFInit (CF CS CR : Addr) : Sp := fun vs H Q _ => ∃ (p dx : Addr) (sv : V) (rg : Addr) (m : Mm) (wd : Int) (ws : List Int) (rs : List Row), vs = [.ref p, sv, .ref rg] ∧ H p = some (.ins CF dx []) ∧ ShAt CS (wd :: ws) sv H ∧ RgAt CR H rg (prodI (wd :: ws)) rs ∧ WOk (wd :: ws) ∧ Canon m 0 (prodI (wd :: ws)) rs ∧ okMm m ∧
  ∀ H', ExP p H H' → FtAt CF CS H' p m wd ws → Q .non H'
theorem ma_ft (D : Ifd K mg "FoldedTable" CF "FoldedTable.__init__" s_FoldedTable_init p_FoldedTable_init) (T : TFt K CF) (d_as_list : Mt P w K mg base 1 CR "as_list" (spAsList CR)) (d_folded : Cl2 P w K mg base 25 "folded" (spFolded CS 5)) : Ma2 P w K mg base 26 "FoldedTable" CF (spFInit CF CS CR) := by
  refine ma2_of D c_FoldedTable_init (fun vs H Q E h => ?_) fun f cdv A outer s H vs Q hr h => ?_
  · obtain ⟨_, _, _, _, _, _, _, _, rfl, _⟩ := h; rfl
  obtain ⟨p, dx, sv, rg, m, wd, ws, rs, rfl, hp, hS, hR, hw, hC, ok, kq⟩ := h
  refine ⟨_, (pss2_cons (.of (ps_fld (pv 0) (pv 1) rfl)) (pss2_one (ps2_fld (pv 0) (pc2 d_folded hr (by decide) (by rfl) (pa2_cons (.of (pv 1)) (pa2_cons (.of pe_int) (pa2_cons (.of pe_int) (pa2_cons (.of (pm0 d_as_list hr (by decide) (pv 2))) (.of pa_nil))))))))), ?_⟩
  refine ⟨_, rfl, _, rfl, p, CF, dx, [], rfl, hp, T.cl, T.nS, (by show 0 < 1000; decide), ?_⟩
  have nsv : sv ≠ .ref p := by
    obtain ⟨q, dx', tw, ts, h0, h1, _⟩ := hS
    intro e
    rw [h0] at e
    cases e
    rw [hp] at h1
    have e2 := Option.some.inj h1
    have e3 : ([] : List (PySem.Str × V)) = FS tw ((wd :: ws).length : Int) (prodI (wd :: ws)) ts := by injection e2
    have := fs_s tw ((wd :: ws).length : Int) (prodI (wd :: ws)) ts
    rw [← e3] at this
    cases this
  have nrg : rg ≠ p := by
    obtain ⟨dx', a, us, h1, _⟩ := hR
    intro e
    rw [e, hp] at h1
    have e2 := Option.some.inj h1
    have e3 : ([] : List (PySem.Str × V)) = FR (prodI (wd :: ws)) a := by injection e2
    have := fr_rows (prodI (wd :: ws)) a
    rw [← e3] at this
    cases this
  have hS1 : ShAt CS (wd :: ws) sv (upd H p (.ins CF dx (putF "shape" sv []))) := hS.updI nsv fun xs z => by rw [hp] at z; cases z
  have hR1 : RgAt CR (upd H p (.ins CF dx (putF "shape" sv []))) rg (prodI (wd :: ws)) rs := by
    obtain ⟨dx', a, us, h1, h2, h3⟩ := hR
    exact ⟨dx', a, us, by rw [upd_ne nrg]; exact h1, by rw [upd_ne (fun z => by rw [z, hp] at h2; cases h2)]; exact h2, h3.imp fun r u x => TpAt.updI x hp⟩
  have hwl : ws.length < 5 := by have := hw.1; simp only [List.length_cons] at this; omega
  have asl : EvN (tMeth CR "as_list" (spAsList CR) [] L2.E0 (tVar 2) tNil) (L2.start n_FoldedTable_init [.ref p, sv, .ref rg]) (upd H p (.ins CF dx (putF "shape" sv []))) (fun l H' => ∃ us, H' l = some (.lst us) ∧ RwsOf H' rs us) := fun H1 e1 Q q => by
    obtain ⟨dx', a, us, h1, h2, h3⟩ := id hR1
    exact ⟨_, rfl, rg, dx', _, rfl, e1 _ _ h1, fr_no _ _ (by decide +kernel) (by decide +kernel), rg, prodI (wd :: ws), rs, rfl, hR1.ex e1, fun l H' hl ex hh => q l H' hl ex hh⟩
  have fol : EvN (tCall (spFolded CS 5) [] L2.E0 (tCons (tVar 1) (tCons (tC (.int 0)) (tCons (tC (.int 0)) (tCons (tMeth CR "as_list" (spAsList CR) [] L2.E0 (tVar 2) tNil) tNil))))) (L2.start n_FoldedTable_init [.ref p, sv, .ref rg]) (upd H p (.ins CF dx (putF "shape" sv []))) (fun r H' => TabAt m wd ws 0 (.ref r) H') :=
    evn_call (eap_cons (evs_var (v := sv) (ws := wd :: ws) (C := CS) rfl hS1) (eap_cons (evp ev_c) (eap_cons (evp ev_c) (eap_cons (P := LrAt rs) (asl.p.imp fun v H1 ⟨l, e, us, h1, h2⟩ => ⟨l, us, e, h1, h2⟩) eap_nil fun _ _ _ e h => h.ex e) fun _ _ _ _ h => h) fun _ _ _ _ h => h) fun _ _ _ e h => h.ex e)
      fun vs H1 e1 ⟨x1, w1, g1, q1, x2, w2, g2, q2, x3, w3, g3, q3, x4, w4, g4, q4, g5⟩ Q2 k2 => ⟨x1, wd :: ws, 0, 0, x4, m, wd, ws, rs, by rw [g1, g2, g3, g4, g5, q2, q3]; rfl, q1, hw, rfl, hwl, q4, by rw [Int.zero_add]; exact hC, ok, fun q H' hq e hT => k2 q H' hq e hT.at⟩
  refine fol _ (Ex.refl _) _ fun r H2 hr2 e2 hT => ?_
  have hp2 : H2 p = some (.ins CF dx (putF "shape" sv [])) := e2 _ _ upd_same
  refine ⟨_, rfl, p, CF, dx, _, rfl, hp2, T.cl, T.nR, (by show 1 < 1000; decide), ?_⟩
  refine kq _ (fun b o hb hn => ?_) ⟨dx, sv, r, upd_same, (hS1.ex e2).updI nsv fun xs z => (by rw [hp2] at z; cases z), hT.updI hp2⟩
  rw [upd_ne hn]
  exact e2 _ _ (by rw [upd_ne hn]; exact hb)
section
variable {σ : L2.St} {H : Hp} {te : TE} {m : Mm} {wd : Int} {ws : List Int} {p : Addr}
theorem ev_ftS (T : TFt K CF) (h : FtAt CF CS H p m wd ws) (hv : Ev te σ H (.ref p)) : EvP (tFld K te "shape") σ H (ShAt CS (wd :: ws)) := fun H1 e Q q =>
  hv H1 e _ fun H2 e2 => let ⟨dx, sv, r, h1, h2, h3⟩ := (h.ex e).ex e2; ⟨p, CF, dx, FT sv r, sv, rfl, h1, T.cl, T.nS, ft_shape sv r, q _ _ e2 h2⟩
theorem ev_ftR (T : TFt K CF) (h : FtAt CF CS H p m wd ws) (hv : Ev te σ H (.ref p)) : EvP (tFld K te "root") σ H (TabAt m wd ws 0) := fun H1 e Q q =>
  hv H1 e _ fun H2 e2 => let ⟨dx, sv, r, h1, h2, h3⟩ := (h.ex e).ex e2; ⟨p, CF, dx, FT sv r, V.ref r, rfl, h1, T.cl, T.nR, ft_root sv r, q _ _ e2 h3⟩
end
def spEntries (CF CS : Addr) : Sp := fun vs H Q _ => ∃ (p : Addr) (m : Mm) (wd : Int) (ws : List Int), vs = [.ref p] ∧ FtAt CF CS H p m wd ws ∧ WOk (wd :: ws) ∧ ∀ v H', Ex H H' → LrAt (tabRows m wd ws 0) v H' → Q v H'
theorem mt_entries (D : Mfd K CF "entries" "FoldedTable.entries" s_FoldedTable_entries p_FoldedTable_entries) (T : TFt K CF) (G : GenD P w K mg base CS) (m_list : mg "list" = none) : Mt2 P w K mg base 18 CF "entries" (spEntries CF CS) := by
  refine mt2_of D c_FoldedTable_entries (fun vs H Q E h => ?_) fun f cdv A outer s H vs Q hr h => ?_
  · obtain ⟨_, _, _, _, rfl, _⟩ := h; rfl
  obtain ⟨p, m, wd, ws, rfl, hF, hw, kq⟩ := h
  obtain ⟨gf, gfd, GF, GM, GK, GB⟩ := G
  have hrG := hr.mono (show 13 ≤ 17 by decide)
  have hrL := hr.mono (show 13 + 3 ≤ 17 by decide)
  refine ⟨_, (pss2_one (ps2_ret (pe2_listG (pgen_callC GF hrG (by rfl) GM GK GB .nil (pa_cons (pe_fld (pv 0) rfl) (pa_cons pe_int (pa_cons pe_int (pa_cons (pe_fld (pv 0) rfl) pa_nil))))) rfl hrL (by rfl) m_list boot_list))), ?_⟩
  exact s_retP (ev_listMB (lev := 0) (ev_ftS T hF (ev_var rfl)) ev_c ev_c (ev_ftR T hF (ev_var rfl)) hw rfl) kq
def spCount (CF CS : Addr) : Sp := fun vs H Q _ => ∃ (p : Addr) (m : Mm) (wd : Int) (ws : List Int), vs = [.ref p] ∧ FtAt CF CS H p m wd ws ∧ WOk (wd :: ws) ∧ RetV (.int (tabC m wd ws 0)) H Q
theorem wok5 {wd : Int} {ws : List Int} (h : WOk (wd :: ws)) : ws.length < 5 ∧ PosW (wd :: ws) ∧ prodI (wd :: ws) ≤ 5000 := by
  have h1 := h.1
  have h2 := (h.2 0).2
  simp only [List.length_cons] at h1
  refine ⟨by omega, h.pos, ?_⟩
  have h3 : prodI (wd :: ws) ≤ 4096 := h2
  omega
theorem mt_count (D : Mfd K CF "table_count" "FoldedTable.table_count" s_FoldedTable_table_count p_FoldedTable_table_count) (T : TFt K CF) (d_tables_in : Cl P w K mg base 6 "tables_in" (spTin 5)) : Mt P w K mg base 7 CF "table_count" (spCount CF CS) := by
  refine mt_of D c_FoldedTable_table_count (fun vs H Q E h => ?_) fun f cdv A outer s H vs Q E hr h => ?_
  · obtain ⟨_, _, _, _, rfl, _⟩ := h; rfl
  obtain ⟨p, m, wd, ws, rfl, hF, hw, kq⟩ := h
  obtain ⟨w1, w2, w3⟩ := wok5 hw
  refine ⟨_, (pss_one (ps_ret (pc d_tables_in hr (by decide) (by rfl) (pa_cons (pe_fld (pv 0) rfl) pa_nil)))), ?_⟩
  exact s_ret (ev_callV (eap_cons (ev_ftR T hF (ev_var rfl)) eap_nil fun _ _ _ e h => h.ex e) fun vs H1 e1 ⟨v, us, g1, q1, g2⟩ Q2 k2 => ⟨v, m, wd, ws, 0, by rw [g1, g2], q1, w1, w2, w3, k2⟩) kq
def spTree (CF CS : Addr) : Sp := fun vs H Q _ => ∃ (p : Addr) (m : Mm) (wd : Int) (ws : List Int), vs = [.ref p] ∧ FtAt CF CS H p m wd ws ∧ WOk (wd :: ws) ∧ ∀ v H', Ex H H' → TabAt m wd ws 0 v H' → Q v H'
theorem mt_tree (D : Mfd K CF "tree" "FoldedTable.tree" s_FoldedTable_tree p_FoldedTable_tree) (T : TFt K CF) (d_copied : Cl P w K mg base 6 "copied" (spCopied 5)) : Mt P w K mg base 7 CF "tree" (spTree CF CS) := by
  refine mt_of D c_FoldedTable_tree (fun vs H Q E h => ?_) fun f cdv A outer s H vs Q E hr h => ?_
  · obtain ⟨_, _, _, _, rfl, _⟩ := h; rfl
  obtain ⟨p, m, wd, ws, rfl, hF, hw, kq⟩ := h
  obtain ⟨w1, w2, w3⟩ := wok5 hw
  refine ⟨_, (pss_one (ps_ret (pc d_copied hr (by decide) (by rfl) (pa_cons (pe_fld (pv 0) rfl) pa_nil)))), ?_⟩
  exact s_retP (evn_call (P := fun r H' => TabAt m wd ws 0 (.ref r) H') (eap_cons (ev_ftR T hF (ev_var rfl)) eap_nil fun _ _ _ e h => h.ex e) fun vs H1 e1 ⟨v, us, g1, q1, g2⟩ Q2 k2 => ⟨v, m, wd, ws, 0, by rw [g1, g2], q1, w1, w2, w3, fun q H' hq e hT => k2 q H' hq e hT.at⟩).p fun v H1 e1 ⟨r, ev, hT⟩ => kq v H1 e1 (ev ▸ hT)
end
end Lp
end
section
set_option Elab.async false
set_option linter.all false
set_option maxRecDepth 100000
set_option maxHeartbeats 4000000
/-! Lp.L1: the law's numbers. -/
namespace Lp
open PySem PySem.Spec PyProof.Rows L2 Evl
section
variable {σ : L2.St} {H : Hp} {ta tb : TE} {K : PySem.W.Frag}
theorem ev_int1 {i : Int} (ha : Ev ta σ H (.int i)) : Ev (tCB (fun xs H Q => (∃ i, xs = [.int i] ∧ Q (.int i) H) ∨ ∃ k, xs = [.bl k] ∧ Q (.int (if k then 1 else 0)) H) (tCons ta tNil)) σ H (.int i) := ev_cb (ea_cons ha ea_nil) fun H1 _ _ q => .inl ⟨i, rfl, q H1 (Ex.refl _)⟩
theorem ev_abs {i : Int} (ha : Ev ta σ H (.int i)) : Ev (tCB (fun xs H Q => ∃ i, xs = [.int i] ∧ Q (.int (if i < 0 then -i else i)) H) (tCons ta tNil)) σ H (.int (if i < 0 then -i else i)) := ev_cb (ea_cons ha ea_nil) fun H1 _ _ q => ⟨i, rfl, q H1 (Ex.refl _)⟩
theorem ev_lenL {p : Addr} {xs : List V} (ha : Ev ta σ H (.ref p)) (h : SqL K H p xs) : Ev (tCB (fun xs H Q => ∃ p ys, xs = [.ref p] ∧ (SqL K H p ys ∨ SqT K H p ys) ∧ Q (.int ys.length) H) (tCons ta tNil)) σ H (.int (xs.length : Int)) :=
  ev_cb (ea_cons ha ea_nil) fun H1 e _ q => ⟨p, xs, rfl, .inl (ex_l e h), q H1 (Ex.refl _)⟩
theorem ev_lenT {p : Addr} {xs : List V} (ha : Ev ta σ H (.ref p)) (h : SqT K H p xs) : Ev (tCB (fun xs H Q => ∃ p ys, xs = [.ref p] ∧ (SqL K H p ys ∨ SqT K H p ys) ∧ Q (.int ys.length) H) (tCons ta tNil)) σ H (.int (xs.length : Int)) :=
  ev_cb (ea_cons ha ea_nil) fun H1 e _ q => ⟨p, xs, rfl, .inr (ex_t e h), q H1 (Ex.refl _)⟩
theorem ev_lenNL {xs : List V} (ha : EvL ta σ H xs) : Ev (tCB (fun xs H Q => ∃ p ys, xs = [.ref p] ∧ (SqL K H p ys ∨ SqT K H p ys) ∧ Q (.int ys.length) H) (tCons ta tNil)) σ H (.int (xs.length : Int)) := fun H1 e Q q =>
  ha H1 e _ fun p H2 _ e2 h2 => ⟨p, xs, rfl, .inl (sq_of h2), q H2 e2⟩
end
theorem fmod_in {a b : Int} (h : 0 < b) : 0 ≤ a.fmod b ∧ a.fmod b < b := by
  rw [Int.fmod_eq_emod_of_nonneg a (by omega)]
  exact ⟨Int.emod_nonneg _ (by omega), Int.emod_lt_of_pos _ h⟩
/-- the script at a -/
def ScAt (K : PySem.W.Frag) (ns : List Int) (v : V) (H : Hp) : Prop := ∃ a, v = .ref a ∧ SqL K H a (ns.map V.int)
theorem ScAt.ex {K : PySem.W.Frag} {ns : List Int} {v : V} {H H' : Hp} (e : Ex H H') (h : ScAt K ns v H) : ScAt K ns v H' := let ⟨a, h1, h2⟩ := h; ⟨a, h1, ex_l e h2⟩
section
variable {P : Program} {w : World} {K : PySem.W.Frag} {mg : PySem.Str → Option Value} {base : Heap}
def spNumber (K : PySem.W.Frag) : Sp := fun vs H Q _ => ∃ (v : V) (ns : List Int) (at_ k size : Int), vs = [v, .int at_, .int k, .int size] ∧ ScAt K ns v H ∧ ns.length ≤ 100 ∧ 0 ≤ at_ ∧ at_ ≤ 1000 ∧ 0 ≤ k ∧ k ≤ 1000 ∧ 0 < size ∧ ∀ r H', 0 ≤ r → r < size → Ex H H' → Q (.int r) H'
theorem b_number (m_len : mg "len" = none) (m_abs : mg "abs" = none) (m_int : mg "int" = none) (m_range : mg "range" = none) : Body P w K mg base n_law_number "_law_number" s_law_number 0 (spNumber K) := by
  intro f cdv A outer s H vs Q E hr h
  obtain ⟨v, ns, at_, k, size, rfl, ⟨a, rfl, ha⟩, hns, a0, a1, k0, k1, s0, kq⟩ := h
  refine ⟨_, (pss_cons (ps_set (i := 4) c_law_number.nd rfl (.inl rfl) pe_int) (pss_cons (ps_set (i := 5) c_law_number.nd rfl (.inl rfl) (pv 1)) (pss_cut (ps_if (pt_cmpR op_gt (pe_callB call_len_seq (by rfl) m_len boot_len (pa_cons (pv 0) pa_nil)) pe_int (nomark _)) (pss_cons (ps_set (i := 4) c_law_number.nd rfl (.inl rfl) (pe_callB call_abs (by rfl) m_abs boot_abs (pa_cons (pe_ix (r := rIxL K) ix_list (pv 0) (pe_op op_modN (pe_callTy call_int1 (by rfl) m_int boot_int (pa_cons (pv 1) pa_nil)) (pe_callB call_len_seq (by rfl) m_len boot_len (pa_cons (pv 0) pa_nil))) (fun _ _ => rfl)) pa_nil))) (pss_one (ps_set (i := 5) c_law_number.nd rfl (.inl rfl) (pe_op op_fdivN (pv 1) (pe_callB call_len_seq (by rfl) m_len boot_len (pa_cons (pv 0) pa_nil)))))) pss_nil) (pss_cons (ps_set (i := 6) c_law_number.nd rfl (.inl rfl) (pe_op op_add (pv 2) (pe_op op_mul pe_int (pv 5)))) (pss_cut (ps_if (pt_cmpR op_ge (pv 4) (pe_op op_pow pe_int pe_int) (nomark _)) (pss_cons (ps_set (i := 7) c_law_number.nd rfl (.inl rfl) (pe_op op_fdivW (pv 4) (pe_op op_pow pe_int pe_int))) (pss_cut (ps_for PassesOwn.never rfl (pi_range1 (by rfl) m_range (pa_cons (pv 6) pa_nil)) (pg_name (i := 8) c_law_number.nd rfl (.inl rfl)) (pss_cut (ps_if (pt_cmpR op_eq (pv 7) pe_int (nomark _)) (pss_one ps_break) pss_nil) (pss_one (ps_set (i := 7) c_law_number.nd rfl (.inl rfl) (pe_op op_fdivN (pv 7) pe_int))))) (pss_one (ps_if (pt_cmpR op_gt (pv 7) pe_int (nomark _)) (pss_one (ps_ret (pe_op op_modN (pe_callTy call_int1 (by rfl) m_int boot_int (pa_cons (pe_op op_modN (pe_callTy call_int1 (by rfl) m_int boot_int (pa_cons (pv 7) pa_nil)) pe_int) pa_nil)) (pv 3)))) pss_nil)))) pss_nil) (pss_cons (ps_set (i := 9) c_law_number.nd rfl (.inl rfl) (pe_op op_modN (pe_callTy call_int1 (by rfl) m_int boot_int (pa_cons (pe_op op_add (pe_op op_add (pv 4) (pe_op op_mul pe_int (pv 6))) pe_int) pa_nil)) pe_int)) (pss_cons (ps_set (i := 9) c_law_number.nd rfl (.inl rfl) (pe_op op_modN (pe_callTy call_int1 (by rfl) m_int boot_int (pa_cons (pe_op op_mul (pv 9) (pe_op op_add (pv 9) pe_int)) pa_nil)) pe_int)) (pss_cons (ps_set (i := 9) c_law_number.nd rfl (.inl rfl) (pe_op op_modN (pe_callTy call_int1 (by rfl) m_int boot_int (pa_cons (pe_op op_add (pe_op op_mul (pv 9) (pe_op op_add (pv 9) pe_int)) (pe_op op_mul pe_int (pv 6))) pa_nil)) pe_int)) (pss_one (ps_ret (pe_op op_modN (pe_callTy call_int1 (by rfl) m_int boot_int (pa_cons (pe_op op_fdivN (pv 9) pe_int) pa_nil)) (pv 3)))))))))))), ?_⟩
  refine q_asg ev_c fun H1 e1 => q_asg (ev_var rfl) fun H2 e2 => ?_
  have e12 := e1.trans e2
  refine q_cut (M := fun σ' H' => ∃ cell turn : Int, σ' = [some (.ref a), some (.int at_), some (.int k), some (.int size), some (.int cell), some (.int turn), none, none, none, none] ∧ Ex H H' ∧ 0 ≤ turn ∧ turn ≤ 1000) ?_ fun σ' H3 ⟨cell, turn, eσ, e3, t0, t1⟩ => ?_
  · refine s_when (et_test (ev_op (ev_lenL (ev_var rfl) (ex_l e12 ha)) ev_c rv_I0)) (fun hb H3 e3 => ?_) fun hb H3 e3 => ⟨0, at_, rfl, e12.trans e3, a0, a1⟩
    have hl : 0 < (ns.map V.int).length := by simpa using hb
    have hl' : 0 < ns.length := by simpa using hl
    have ha3 := ex_l (e12.trans e3) ha
    obtain ⟨f0, f1⟩ := fmod_in (a := at_) (b := ((ns.map V.int).length : Int)) (by omega)
    have hat : atI (ns.map V.int) (at_.fmod ((ns.map V.int).length : Int)) = some (V.int (ns[(at_.fmod ((ns.map V.int).length : Int)).toNat]!)) := by
      have hj : (at_.fmod ((ns.map V.int).length : Int)).toNat < ns.length := by simp at f1 ⊢; omega
      have := atI_nat (xs := ns.map V.int) (j := (at_.fmod ((ns.map V.int).length : Int)).toNat) (v := V.int (ns[(at_.fmod ((ns.map V.int).length : Int)).toNat]!)) (by
        rw [List.getElem?_map, List.getElem?_eq_getElem hj, List.getElem!_eq_getElem?_getD, List.getElem?_eq_getElem hj]
        rfl)
      rwa [show (((at_.fmod ((ns.map V.int).length : Int)).toNat : Nat) : Int) = at_.fmod ((ns.map V.int).length : Int) by omega] at this
    refine q_asg (ev_abs (ev_op (ev_var rfl) (ev_op (ev_int1 (ev_var rfl)) (ev_lenL (ev_var rfl) ha3) (rv_I (C := fun _ j => j ≠ 0) (by omega))) (rv_ixL ha3 hat))) fun H4 e4 => ?_
    refine s_asg (ev_op (ev_var rfl) (ev_lenL (ev_var rfl) (ex_l e4 ha3)) (rv_I (C := CDivN) ⟨by omega, by simp; omega⟩)) fun H5 e5 => ?_
    have q0 : 0 ≤ at_.fdiv ((ns.map V.int).length : Int) := Int.fdiv_nonneg (by omega) (by omega)
    have q1 : at_.fdiv ((ns.map V.int).length : Int) ≤ at_ := by
      rw [Int.fdiv_eq_ediv_of_nonneg _ (by omega)]
      exact Int.ediv_le_self _ a0
    exact ⟨_, _, rfl, e12.trans (e3.trans (e4.trans e5)), q0, by omega⟩
  subst eσ
  refine q_asg (ev_op (ev_var rfl) (ev_op ev_c (ev_var rfl) (rv_I (C := CMul) (.inl ⟨by decide, by decide⟩))) rv_I0) fun H4 e4 => ?_
  refine q_cut (M := fun σ' H' => ∃ r7 r8 : Option V, σ' = [some (.ref a), some (.int at_), some (.int k), some (.int size), some (.int cell), some (.int turn), some (.int (k + 16 * turn)), r7, r8, none] ∧ Ex H H') ?_ fun σ' H5 ⟨r7, r8, eσ, e5⟩ => ?_
  · refine s_when (et_test (ev_op (ev_var rfl) (ev_op ev_c ev_c (rv_I (C := CPow) ⟨by decide, by decide, by decide⟩)) rv_I0)) (fun hb H5 e5 => ?_) fun hb H5 e5 => ⟨none, none, rfl, e3.trans (e4.trans e5)⟩
    refine q_asg (ev_op (ev_var rfl) (ev_op ev_c ev_c (rv_I (C := CPow) ⟨by decide, by decide, by decide⟩)) (rv_I (C := CDivW) (wide_div (b := 64) (by decide) (by decide) (by decide) (by decide)))) fun H6 e6 => ?_
    refine q_cut (M := fun σ' H' => ∃ (rest : Int) (r8 : Option V), σ' = [some (.ref a), some (.int at_), some (.int k), some (.int size), some (.int cell), some (.int turn), some (.int (k + 16 * turn)), some (.int rest), r8, none] ∧ Ex H H') ?_ fun σ' H7 ⟨rest, r8, eσ, e7⟩ => ?_
    refine s_forR1 (ea_cons (ev_var rfl) ea_nil) ⟨by omega, by omega⟩ (fun i σ' H' => ∃ (rest : Int) (r8 : Option V), σ' = [some (.ref a), some (.int at_), some (.int k), some (.int size), some (.int cell), some (.int turn), some (.int (k + 16 * turn)), some (.int rest), r8, none] ∧ Ex H H') (fun H7 e7 => ⟨_, none, rfl, e3.trans (e4.trans (e5.trans (e6.trans e7)))⟩) (fun i σ' H7 hi ⟨rest, r8, eσ, e7⟩ => ?_) fun σ' H7 h7 => h7
    · subst eσ
      refine q_cut (M := fun σ2 H2 => σ2 = [some (.ref a), some (.int at_), some (.int k), some (.int size), some (.int cell), some (.int turn), some (.int (k + 16 * turn)), some (.int rest), some (.int (i : Int)), none] ∧ Ex H H2) (s_when (et_test (ev_op (ev_var rfl) ev_c (rv_eq rfl))) (fun _ H8 e8 => ?_) fun _ H8 e8 => ⟨rfl, e7.trans e8⟩) fun σ2 H8 ⟨eσ, e8⟩ => ?_
      · exact ⟨rest, _, rfl, e7.trans e8⟩
      · subst eσ
        exact s_asg (ev_op (ev_var rfl) ev_c (rv_I (C := CDivN) ⟨by decide, by decide⟩)) fun H9 e9 => ⟨_, _, rfl, e8.trans e9⟩
    · subst eσ
      refine s_when (et_test (ev_op (ev_var rfl) ev_c rv_I0)) (fun _ H8 e8 => ?_) fun _ H8 e8 => ⟨_, _, rfl, e7.trans e8⟩
      refine s_ret (ev_op (ev_int1 (ev_op (ev_int1 (ev_var rfl)) ev_c (rv_I (C := fun _ j => j ≠ 0) (by decide)))) (ev_var rfl) (rv_I (C := fun _ j => j ≠ 0) (by omega))) fun H9 e9 => ?_
      exact kq _ H9 (fmod_in s0).1 (fmod_in s0).2 (e7.trans (e8.trans e9))
  subst eσ
  refine q_asg (ev_op (ev_int1 (ev_op (ev_op (ev_var rfl) (ev_op ev_c (ev_var rfl) (rv_I (C := CMul) (.inl ⟨by decide, by decide⟩))) rv_I0) ev_c rv_I0)) ev_c (rv_I (C := fun _ j => j ≠ 0) (by decide))) fun H6 e6 => ?_
  have f1 := fmod_in (a := cell + 7919 * (k + 16 * turn) + 13) (b := 2147483647) (by decide)
  refine q_asg (ev_op (ev_int1 (ev_op (ev_var rfl) (ev_op (ev_var rfl) ev_c rv_I0) (rv_I (C := CMul) (.inl ⟨by omega, by omega⟩)))) ev_c (rv_I (C := fun _ j => j ≠ 0) (by decide))) fun H7 e7 => ?_
  generalize hx : (cell + 7919 * (k + 16 * turn) + 13).fmod 2147483647 = x1 at *
  have f2 := fmod_in (a := x1 * (x1 + 48271)) (b := 2147483629) (by decide)
  generalize hy : (x1 * (x1 + 48271)).fmod 2147483629 = x2 at *
  refine q_asg (ev_op (ev_int1 (ev_op (ev_op (ev_var rfl) (ev_op (ev_var rfl) ev_c rv_I0) (rv_I (C := CMul) (.inl ⟨by omega, by omega⟩))) (ev_op ev_c (ev_var rfl) (rv_I (C := CMul) (.inl ⟨by decide, by decide⟩))) rv_I0)) ev_c (rv_I (C := fun _ j => j ≠ 0) (by decide))) fun H8 e8 => ?_
  refine s_ret (ev_op (ev_int1 (ev_op (ev_var rfl) ev_c (rv_I (C := CDivN) ⟨by decide, by decide⟩))) (ev_var rfl) (rv_I (C := fun _ j => j ≠ 0) (by omega))) fun H9 e9 => ?_
  exact kq _ H9 (fmod_in s0).1 (fmod_in s0).2 (e5.trans (e6.trans (e7.trans (e8.trans e9))))
end
end Lp
end
section
set_option Elab.async false
set_option linter.all false
set_option maxRecDepth 100000
set_option maxHeartbeats 4000000
/-! Lp.L2: same, fans. -/
namespace Lp
open PySem PySem.Spec PyProof.Rows L2 Evl
section
variable {σ : L2.St} {H : Hp} {ta tb : TE} {K : PySem.W.Frag}
theorem ev_isiT {v : V} {t : Value} {b : Bool} (ha : Ev ta σ H v) (ht : ∀ H1, Ex H H1 → TyX K H1 v t) (hk : PySem.W.kitAny K t [.type "list", .type "tuple"] = some b) : Ev (tCB (rIsiT K) (tCons ta (tCons (tTup (tCons (tC (.ty "list")) (tCons (tC (.ty "tuple")) tNil))) tNil))) σ H (.bl b) := fun H1 e Q q =>
  ha H1 e _ fun H2 e2 => ⟨(by show 2 ≤ sizeLine; decide), fun p hp => ⟨v, p, [.ty "list", .ty "tuple"], t, [.type "list", .type "tuple"], b, rfl, upd_same, .cons (.ty _) (.cons (.ty _) .nil), ht _ (e.trans (e2.trans (Ex.new hp))), hk, q _ (e2.trans (Ex.new hp))⟩⟩
theorem kitT {t : String} {a b : Bool} (h1 : kitB t "list" = some a) (h2 : kitB t "tuple" = some b) : PySem.W.kitAny K (.type t) [.type "list", .type "tuple"] = some (a || b) := by
  refine kitAny_cons (kit_ty h1) (fun ha => ?_) fun ha => by rw [ha]; rfl
  subst ha
  refine kitAny_cons (kit_ty h2) (fun hb => ?_) fun hb => by rw [hb]; rfl
  rw [hb]
  exact kitAny_nil
end
/-- equal through and through, d levels deep -/
def SameOk : Nat → V → V → Hp → Prop
  | 0, _, _, _ => False
  | d + 1, t, u, H => (∃ i, t = .int i ∧ u = .int i) ∨ (∃ z, t = .str z ∧ u = .str z) ∨ (t = .non ∧ u = .non) ∨ (∃ p q xs, t = .ref p ∧ u = .ref q ∧ H p = some (.tup xs) ∧ H q = some (.tup xs) ∧ xs.length ≤ 10 ∧ ∀ x ∈ xs, SameOk d x x H)
theorem SameOk.ex {H H' : Hp} (e : Ex H H') : ∀ {d : Nat} {t u : V}, SameOk d t u H → SameOk d t u H'
  | 0, _, _, h => h
  | d + 1, t, u, h => by
    rcases h with h | h | h | ⟨p, q, xs, h1, h2, h3, h4, h5, h6⟩
    · exact .inl h
    · exact .inr (.inl h)
    · exact .inr (.inr (.inl h))
    · exact .inr (.inr (.inr ⟨p, q, xs, h1, h2, e _ _ h3, e _ _ h4, h5, fun x hx => (h6 x hx).ex e⟩))
section
variable {P : Program} {w : World} {K : PySem.W.Frag} {mg : PySem.Str → Option Value} {base : Heap}
def spWhole : Sp := fun vs H Q _ => ∃ i, vs = [.int i] ∧ RetV (.bl true) H Q
theorem b_whole (m_isinstance : mg "isinstance" = none) (m_int : mg "int" = none) (m_bool : mg "bool" = none) : Body P w K mg base n_law_is_whole "_law_is_whole" s_law_is_whole 0 spWhole := by
  intro f cdv A outer s H vs Q E hr h
  obtain ⟨i, rfl, kq⟩ := h
  refine ⟨_, (pss_one (ps_ret (pe_and (pe_callB (r := rIsi K) call_isi (by rfl) m_isinstance boot_isinstance (pa_cons (pv 0) (pa_cons (pe_bltn (by rfl) m_int boot_int (v := .ty "int") rfl) pa_nil))) (pe_one (pe_not (pe_callB (r := rIsi K) call_isi (by rfl) m_isinstance boot_isinstance (pa_cons (pv 0) (pa_cons (pe_bltn (by rfl) m_bool boot_bool (v := .ty "bool") rfl) pa_nil)))))))), ?_⟩
  refine s_ret (ev_andV (a := true) (b := true) (ev_isi (ev_var rfl) ev_c (fun _ _ => .base (.int i)) (kit_ty (by decide +kernel))) fun _ => ev_notV (a := false) (ev_isi (ev_var rfl) ev_c (fun _ _ => .base (.int i)) (kit_ty (by decide +kernel)))) kq
def spSame (d : Nat) : Sp := fun vs H Q _ => ∃ t u, vs = [t, u] ∧ SameOk d t u H ∧ RetV (.bl true) H Q
theorem cl_same (D : Dfd K mg "_law_same" s_law_same p_law_same) (m_isinstance : mg "isinstance" = none) (m_int : mg "int" = none) (m_bool : mg "bool" = none) (m_str : mg "str" = none) (m_list : mg "list" = none) (m_tuple : mg "tuple" = none) (m_len : mg "len" = none) (m_range : mg "range" = none)
    (d_law_is_whole : Cl P w K mg base 1 "_law_is_whole" spWhole) : ∀ d : Nat, Cl P w K mg base (d + 1) "_law_same" (spSame d) := by
  intro d
  induction d with
  | zero =>
    refine cl_of D c_law_same (fun vs H Q E h => ?_) fun f cdv A outer s H vs Q E hr h => ?_
    · obtain ⟨_, _, rfl, _⟩ := h; rfl
    · obtain ⟨_, _, _, h, _⟩ := h
      exact h.elim
  | succ d d_law_same =>
    refine cl_of D c_law_same (fun vs H Q E h => ?_) fun f cdv A outer s H vs Q E hr h => ?_
    · obtain ⟨_, _, rfl, _⟩ := h; rfl
    obtain ⟨t, u, rfl, hs, kq⟩ := h
    refine ⟨_, (pss_cons (ps_if (pt_val (pe_callB (r := rIsiT K) call_isiT (by rfl) m_isinstance boot_isinstance (pa_cons (pv 1) (pa_cons (pe_tup (pa_cons (pe_bltn (by rfl) m_list boot_list (v := .ty "list") rfl) (pa_cons (pe_bltn (by rfl) m_tuple boot_tuple (v := .ty "tuple") rfl) pa_nil))) pa_nil)))) (pss_cons (ps_if (PW.pt (pw_or (pt_not (pt_val (pe_callB (r := rIsiT K) call_isiT (by rfl) m_isinstance boot_isinstance (pa_cons (pv 0) (pa_cons (pe_tup (pa_cons (pe_bltn (by rfl) m_list boot_list (v := .ty "list") rfl) (pa_cons (pe_bltn (by rfl) m_tuple boot_tuple (v := .ty "tuple") rfl) pa_nil))) pa_nil))))) (pw_or1 (pt_cmpR op_ne (pe_callB (r := rIsi K) call_isi (by rfl) m_isinstance boot_isinstance (pa_cons (pv 0) (pa_cons (pe_bltn (by rfl) m_list boot_list (v := .ty "list") rfl) pa_nil))) (pe_callB (r := rIsi K) call_isi (by rfl) m_isinstance boot_isinstance (pa_cons (pv 1) (pa_cons (pe_bltn (by rfl) m_list boot_list (v := .ty "list") rfl) pa_nil))) (nomark _))))) (pss_one (ps_ret pe_bl)) pss_nil) (pss_cons (ps_if (pt_cmpR op_ne (pe_callB call_len_seq (by rfl) m_len boot_len (pa_cons (pv 0) pa_nil)) (pe_callB call_len_seq (by rfl) m_len boot_len (pa_cons (pv 1) pa_nil)) (nomark _)) (pss_one (ps_ret pe_bl)) pss_nil) (pss_one (ps_ret (pe_cmpR op_eq (pe_callB call_len_seq (by rfl) m_len boot_len (pa_cons (pe_lc (own := [("_law_k", 2)]) (g := gName 2) rfl c_law_same.nd (pi_range1 (by rfl) m_range (pa_cons (pe_callB call_len_seq (by rfl) m_len boot_len (pa_cons (pv 1) pa_nil)) pa_nil)) (blkOk_by (N := n_law_same) (sc := defScope s_law_same) (by decide +kernel)) (fun _ _ _ _ _ => (pg_name (i := 2) c_law_same.nd rfl (.inl rfl))) (fun _ _ _ _ _ => (pts_one (pt_not (pt_val (pc d_law_same hr (by omega) (by rfl) (pa_cons (pe_ix (r := rIxT K) ix_tup (pv 0) (pv 2) (fun _ _ => rfl)) (pa_cons (pe_ix (r := rIxT K) ix_tup (pv 1) (pv 2) (fun _ _ => rfl)) pa_nil))))))) (fun _ _ _ _ _ => (pv 2))) pa_nil)) pe_int (nomark _)))))) pss_nil) (pss_cons (ps_if (pt_val (pe_callB (r := rIsi K) call_isi (by rfl) m_isinstance boot_isinstance (pa_cons (pv 1) (pa_cons (pe_bltn (by rfl) m_bool boot_bool (v := .ty "bool") rfl) pa_nil)))) (pss_one (ps_ret (pe_and (pe_callB (r := rIsi K) call_isi (by rfl) m_isinstance boot_isinstance (pa_cons (pv 0) (pa_cons (pe_bltn (by rfl) m_bool boot_bool (v := .ty "bool") rfl) pa_nil))) (pe_one (pe_cmpR op_eq (pv 0) (pv 1) (nomark _)))))) pss_nil) (pss_cons (ps_if (pt_val (pe_callB (r := rIsi K) call_isi (by rfl) m_isinstance boot_isinstance (pa_cons (pv 1) (pa_cons (pe_bltn (by rfl) m_int boot_int (v := .ty "int") rfl) pa_nil)))) (pss_one (ps_ret (pe_and (pc d_law_is_whole hr (by omega) (by rfl) (pa_cons (pv 0) pa_nil)) (pe_one (pe_cmpR op_eq (pv 0) (pv 1) (nomark _)))))) pss_nil) (pss_cons (ps_if (pt_val (pe_callB (r := rIsi K) call_isi (by rfl) m_isinstance boot_isinstance (pa_cons (pv 1) (pa_cons (pe_bltn (by rfl) m_str boot_str (v := .ty "str") rfl) pa_nil)))) (pss_one (ps_ret (pe_and (pe_callB (r := rIsi K) call_isi (by rfl) m_isinstance boot_isinstance (pa_cons (pv 0) (pa_cons (pe_bltn (by rfl) m_str boot_str (v := .ty "str") rfl) pa_nil))) (pe_one (pe_cmpR op_eq (pv 0) (pv 1) (nomark _)))))) pss_nil) (pss_one (ps_ret (pe_and (pe_cmpR op_isN (pv 0) pe_non (nomark _)) (pe_one (pe_cmpR op_isN (pv 1) pe_non (nomark _)))))))))), ?_⟩
    rcases hs with ⟨i, rfl, rfl⟩ | ⟨z, rfl, rfl⟩ | ⟨rfl, rfl⟩ | ⟨p, q, xs, rfl, rfl, hp, hq, hl, hx⟩
    · refine q_when (b := false) (et_B (ev_isiT (ev_var rfl) (fun _ _ => .base (.int i)) (kitT (a := false) (b := false) (by decide +kernel) (by decide +kernel)))) (fun h => by cases h) fun _ H1 e1 => ?_
      refine q_when (b := false) (et_B (ev_isi (ev_var rfl) ev_c (fun _ _ => .base (.int i)) (kit_ty (by decide +kernel)))) (fun h => by cases h) fun _ H2 e2 => ?_
      refine q_when (b := true) (et_B (ev_isi (ev_var rfl) ev_c (fun _ _ => .base (.int i)) (kit_ty (by decide +kernel)))) (fun _ H3 e3 => ?_) fun h => by cases h
      refine s_ret (ev_andV (a := true) (b := true) (ev_callV (eap (ea_cons (ev_var rfl) ea_nil)) fun vs H4 e4 ev Q2 q2 => ⟨i, ev, q2⟩) fun _ => ev_is (ev_op (ev_var rfl) (ev_var rfl) (rv_eq rfl)) (by simp)) fun H4 e4 => kq H4 (e1.trans (e2.trans (e3.trans e4)))
    · refine q_when (b := false) (et_B (ev_isiT (ev_var rfl) (fun _ _ => .base (.str z)) (kitT (a := false) (b := false) (by decide +kernel) (by decide +kernel)))) (fun h => by cases h) fun _ H1 e1 => ?_
      refine q_when (b := false) (et_B (ev_isi (ev_var rfl) ev_c (fun _ _ => .base (.str z)) (kit_ty (by decide +kernel)))) (fun h => by cases h) fun _ H2 e2 => ?_
      refine q_when (b := false) (et_B (ev_isi (ev_var rfl) ev_c (fun _ _ => .base (.str z)) (kit_ty (by decide +kernel)))) (fun h => by cases h) fun _ H3 e3 => ?_
      refine q_when (b := true) (et_B (ev_isi (ev_var rfl) ev_c (fun _ _ => .base (.str z)) (kit_ty (by decide +kernel)))) (fun _ H4 e4 => ?_) fun h => by cases h
      refine s_ret (ev_andV (a := true) (b := true) (ev_isi (ev_var rfl) ev_c (fun _ _ => .base (.str z)) (kit_ty (by decide +kernel))) fun _ => ev_is (ev_op (ev_var rfl) (ev_var rfl) (rv_eq rfl)) (by simp)) fun H5 e5 => kq H5 (e1.trans (e2.trans (e3.trans (e4.trans e5))))
    · refine q_when (b := false) (et_B (ev_isiT (ev_var rfl) (fun _ _ => .base .non) (kitT (a := false) (b := false) (by decide +kernel) (by decide +kernel)))) (fun h => by cases h) fun _ H1 e1 => ?_
      refine q_when (b := false) (et_B (ev_isi (ev_var rfl) ev_c (fun _ _ => .base .non) (kit_ty (by decide +kernel)))) (fun h => by cases h) fun _ H2 e2 => ?_
      refine q_when (b := false) (et_B (ev_isi (ev_var rfl) ev_c (fun _ _ => .base .non) (kit_ty (by decide +kernel)))) (fun h => by cases h) fun _ H3 e3 => ?_
      refine q_when (b := false) (et_B (ev_isi (ev_var rfl) ev_c (fun _ _ => .base .non) (kit_ty (by decide +kernel)))) (fun h => by cases h) fun _ H4 e4 => ?_
      have N : ∀ {i : Nat} {x : V} {H5 : Hp}, (L2.start n_law_same [V.non, V.non])[i]? = some (some x) → x = .non → Ev (tOp (fun x y H Q => y = V.non ∧ Q (.bl (decide (x = V.non))) H) (tVar i) (tC .non)) (L2.start n_law_same [V.non, V.non]) H5 (.bl true) := fun {i x H5} h e => by
        subst e
        exact ev_is (ev_op (ev_var h) ev_c (fun H1 _ _ q => ⟨rfl, q H1 (Ex.refl H1)⟩)) (by simp)
      refine s_ret (ev_andV (a := true) (b := true) (N (i := 0) rfl rfl) fun _ => N (i := 1) rfl rfl) fun H5 e5 => kq H5 (e1.trans (e2.trans (e3.trans (e4.trans e5))))
    · refine q_when (b := true) (et_B (ev_isiT (ev_var rfl) (fun _ e => .base (.tup (e _ _ hq))) (kitT (a := false) (b := true) (by decide +kernel) (by decide +kernel)))) (fun _ H1 e1 => ?_) fun h => by cases h
      refine q_when (b := false) (et_or (a := false) (b := false) (et_not (a := true) (et_B (ev_isiT (ev_var rfl) (fun _ e => .base (.tup (e _ _ (e1 _ _ hp)))) (kitT (a := false) (b := true) (by decide +kernel) (by decide +kernel))))) fun _ => et_test (ev_is (ev_op (ev_isi (b := false) (ev_var rfl) ev_c (fun _ e => .base (.tup (e _ _ (e1 _ _ hp)))) (kit_ty (by decide +kernel))) (ev_isi (b := false) (ev_var rfl) ev_c (fun _ e => .base (.tup (e _ _ (e1 _ _ hq)))) (kit_ty (by decide +kernel))) (rv_ne rfl)) (by simp))) (fun h => by cases h) fun _ H2 e2 => ?_
      have hp2 := e2 _ _ (e1 _ _ hp)
      have hq2 := e2 _ _ (e1 _ _ hq)
      refine q_when (b := false) (et_test (ev_is (ev_op (ev_lenT (ev_var rfl) (st_of hp2)) (ev_lenT (ev_var rfl) (st_of hq2)) (rv_ne rfl)) (by simp))) (fun h => by cases h) fun _ H3 e3 => ?_
      have hp3 := e3 _ _ hp2
      have hq3 := e3 _ _ hq2
      have comp := el_lcR1 (H := H3) (σ := L2.start n_law_same [.ref p, .ref q]) (j := 2) (vs := [2]) (n := (xs.length : Int)) (t := tNot (tB (tCall (spSame d) [] L2.E0 (tCons (tOp (rIxT K) (tVar 0) (tVar 2)) (tCons (tOp (rIxT K) (tVar 1) (tVar 2)) tNil))))) (te := tVar 2) (fun _ => false) (fun _ => .non) (ea_cons (ev_lenT (K := K) (ev_var (i := 1) rfl) (st_of hq3)) ea_nil) ⟨by omega, by omega⟩ (fun _ => rfl) (fun i H4 e4 hi => ?_) (fun i H4 e4 hi hf => by cases hf)
      · have eg : ∀ n, given n (fun _ => false) (fun _ => V.non) = [] := fun n => by unfold given; rw [filter_e fun i _ => rfl]; rfl
        rw [eg] at comp
        exact s_ret (v := .bl true) (ev_is (ev_op (ev_lenNL comp) ev_c (rv_eq rfl)) (by simp)) fun H4 e4 => kq H4 (e1.trans (e2.trans (e3.trans e4)))
      · have hi' : i < xs.length := by omega
        have ex := List.getElem?_eq_getElem hi'
        refine et_not (a := true) (et_B (ev_callV (eap (ea_cons (ev_ixT (i := (i : Int)) (evt_var rfl ⟨p, rfl, e4 _ _ hp3⟩) (ev_var rfl) (atI_nat ex)) (ea_cons (ev_ixT (i := (i : Int)) (evt_var rfl ⟨q, rfl, e4 _ _ hq3⟩) (ev_var rfl) (atI_nat ex)) ea_nil))) fun vs H5 e5 ev Q2 q2 => ⟨_, _, ev, ((((hx _ (List.getElem_mem hi')).ex e1).ex e2).ex e3).ex (e4.trans e5), q2⟩))
end
end Lp
end
section
set_option Elab.async false
set_option linter.all false
set_option maxRecDepth 100000
set_option maxHeartbeats 4000000
/-! Lp.L3: fans. -/
namespace Lp
open PySem PySem.Spec PyProof.Rows L2 Evl
theorem prodI_snoc (l : List Int) (x : Int) : prodI (l ++ [x]) = prodI l * x := by
  induction l with
  | nil => simp [prodI]
  | cons a l ih => simp only [List.cons_append, prodI, ih, Int.mul_assoc]
theorem cut_drop {α : Type} (xs : List V) (k : Nat) : cutV xs (some (k : Int)) none = xs.drop k := by
  show (xs.drop (HT.sIx xs.length 0 (some (k : Int)))).take (HT.sIx xs.length xs.length none - HT.sIx xs.length 0 (some (k : Int))) = xs.drop k
  rw [HT.sIx_nat, HT.sIx_none]
  rcases Nat.le_total k xs.length with c | c
  · rw [Nat.min_eq_left c]
    exact List.take_of_length_le (by simp)
  · rw [Nat.min_eq_right c, List.drop_eq_nil_of_le (Nat.le_refl _), List.drop_eq_nil_of_le c]
    simp
def IntP (A : Int → Prop) : V → Hp → Prop := fun v _ => ∃ i, v = .int i ∧ A i
section
variable {σ : L2.St} {H : Hp} {ta tb tc td te : TE} {K : PySem.W.Frag} {D : Ends} {A B : Int → Prop}
theorem evi {i : Int} (h : Ev te σ H (.int i)) : EvP te σ H (IntP (· = i)) := fun H1 e Q q => h H1 e Q fun H2 e2 => q _ H2 e2 ⟨i, rfl, rfl⟩
theorem IntP.mono : ∀ v (H H' : Hp), Ex H H' → IntP A v H → IntP A v H' := fun _ _ _ _ h => h
theorem evi_op {C : Int → Int → Prop} {g : Int → Int → V} {R : V → Hp → Prop} (ha : EvP ta σ H (IntP A)) (hb : EvP tb σ H (IntP B)) (hc : ∀ i j, A i → B j → C i j) (hr : ∀ i j H, A i → B j → R (g i j) H) : EvP (tOp (rI C g) ta tb) σ H R :=
  evp_op ha hb IntP.mono fun x y H1 _ ⟨i, ex, hi⟩ ⟨j, ey, hj⟩ Q q => ⟨i, j, ex, ey, hc i j hi hj, q _ H1 (Ex.refl _) (hr i j H1 hi hj)⟩
theorem evi_op0 {g : Int → Int → V} {R : V → Hp → Prop} (ha : EvP ta σ H (IntP A)) (hb : EvP tb σ H (IntP B)) (hr : ∀ i j H, A i → B j → R (g i j) H) : EvP (tOp (rI0 g) ta tb) σ H R :=
  evp_op ha hb IntP.mono fun x y H1 _ ⟨i, ex, hi⟩ ⟨j, ey, hj⟩ Q q => ⟨i, j, ex, ey, q _ H1 (Ex.refl _) (hr i j H1 hi hj)⟩
theorem evi_int1 (ha : EvP ta σ H (IntP A)) : EvP (tCB (fun xs H Q => (∃ i, xs = [.int i] ∧ Q (.int i) H) ∨ ∃ k, xs = [.bl k] ∧ Q (.int (if k then 1 else 0)) H) (tCons ta tNil)) σ H (IntP A) := fun H1 e Q q =>
  ha H1 e _ fun v H2 e2 ⟨i, ev, hi⟩ => .inl ⟨i, by rw [ev], q _ H2 e2 ⟨i, rfl, hi⟩⟩
theorem evi_number {E : XK} {ns : List Int} {at_ k size : Int} (ha : EvP ta σ H (ScAt K ns)) (hb : Ev tb σ H (.int at_)) (hc : Ev tc σ H (.int k)) (hd : Ev td σ H (.int size)) (hn : ns.length ≤ 100) (h1 : 0 ≤ at_ ∧ at_ ≤ 1000) (h2 : 0 ≤ k ∧ k ≤ 1000) (h3 : 0 < size) :
    EvP (tCall (spNumber K) [] E (tCons ta (tCons tb (tCons tc (tCons td tNil))))) σ H (IntP fun r => 0 ≤ r ∧ r < size) :=
  evp_call (eap_cons ha (eap_cons (evp hb) (eap_cons (evp hc) (eap_cons (evp hd) eap_nil fun _ _ _ _ h => h) fun _ _ _ _ h => h) fun _ _ _ _ h => h) fun _ _ _ e h => h.ex e)
    fun vs H1 e1 ⟨x1, w1, g1, q1, x2, w2, g2, q2, x3, w3, g3, q3, x4, w4, g4, q4, g5⟩ Q q => ⟨x1, ns, at_, k, size, by rw [g1, g2, g3, g4, g5, q2, q3, q4], q1, hn, h1.1, h1.2, h2.1, h2.2, h3, fun r H' r0 r1 e => q _ H' e ⟨r, rfl, r0, r1⟩⟩
theorem evsc_var {i : Nat} {v : V} {ns : List Int} (h : σ[i]? = some (some v)) (hp : ScAt K ns v H) : EvP (tVar i) σ H (ScAt K ns) := evp_var h fun H1 e => hp.ex e
/-- a test of either answer -/
def EvTU (t : TT) (σ : L2.St) (H : Hp) : Prop := ∀ H1, Ex H H1 → ∀ Q : Bool → Hp → Prop, (∀ b H2, Ex H1 H2 → Q b H2) → t σ H1 Q
theorem etu_eq {j : Int} (ha : EvP ta σ H (IntP A)) (hb : Ev tb σ H (.int j)) : EvTU (tTest (tOp rEq ta tb)) σ H := fun H1 e Q q =>
  ha H1 e _ fun v H2 e2 ⟨i, ev, _⟩ => hb H2 (e.trans e2) _ fun H3 e3 => ev ▸ ⟨rfl, _, rfl, q _ H3 (e2.trans e3)⟩
theorem s_ifU {t : TT} {tu tw : L2.TS} (h : EvTU t σ H) (h1 : ∀ H1, Ex H H1 → tu D σ H1) (h2 : ∀ H1, Ex H H1 → tw D σ H1) : tIfS t tu tw D σ H := h H (Ex.refl H) _ fun b H1 e => by
  cases b with
  | true => exact iteT (h1 H1 e)
  | false => exact iteF (h2 H1 e)
theorem q_ifU {t : TT} {tu tw tz : L2.TS} (h : EvTU t σ H) (h1 : ∀ H1, Ex H H1 → tu { D with nx := tz D } σ H1) (h2 : ∀ H1, Ex H H1 → tw { D with nx := tz D } σ H1) : tSeq (tIfS t tu tw) tz D σ H := s_ifU (D := { D with nx := tz D }) h h1 h2
theorem s_forR1P {ta : TA} {tu : L2.TS} {j : Nat} {A : Int → Prop} (h : EvAP ta σ H (fun vs _ => ∃ n, vs = [.int n] ∧ A n)) (hA : ∀ n, A n → 0 ≤ n ∧ n ≤ 100000) (Pv : Int → Nat → L2.St → Hp → Prop) (h0 : ∀ n H1, A n → Ex H H1 → Pv n 0 σ H1)
    (hs : ∀ n (i : Nat) σ' H', A n → (i : Int) < n → Pv n i σ' H' → tu { D with nx := Pv n (i + 1), ct := Pv n (i + 1), bk := D.nx } (σ'.set j (some (.int (i : Int)))) H') (hd : ∀ n σ' H', A n → Pv n n.toNat σ' H' → D.nx σ' H') : tFor (iRng1 ta) (gName j) tu D σ H :=
  h H (Ex.refl H) _ fun vs H1 e ⟨n, ev, hn⟩ => ⟨n, ev, by have := hA n hn; omega, by have := hA n hn; omega, for_range (lo := 0) (n := n.toNat) (Pv n) (h0 n H1 hn e) (fun i σ' H' hi p => by
    have e0 : (0 : Int) + (i : Int) = (i : Int) := Int.zero_add _
    show tu { D with nx := Pv n (i + 1), ct := Pv n (i + 1), bk := D.nx } (σ'.set j (some (.int ((0 : Int) + (i : Int))))) H'
    rw [e0]
    exact hs n i σ' H' hn (by omega) p) (fun σ' H' p => hd n σ' H' hn p)⟩
theorem eap_one {A : Int → Prop} (h : EvP te σ H (IntP A)) : EvAP (tCons te tNil) σ H (fun vs _ => ∃ n, vs = [.int n] ∧ A n) := fun H1 e Q q =>
  eap_cons h eap_nil IntP.mono H1 e Q fun vs H2 e2 ⟨v, ws, g1, ⟨i, ev, hi⟩, g2⟩ => q vs H2 e2 ⟨i, by rw [g1, g2, ev], hi⟩
end
/-- widths as the law draws them -/
structure FanOk (most : Int) (ws : List Int) : Prop where
  ne : ws ≠ []
  len : ws.length ≤ 4
  all : ∀ x ∈ ws, 2 ≤ x ∧ x ≤ 8
  prod : prodI ws ≤ most
theorem prod_pos {ws : List Int} (h : ∀ x ∈ ws, 2 ≤ x ∧ x ≤ 8) : 1 ≤ prodI ws := by
  induction ws with
  | nil => decide
  | cons a l ih =>
    have h1 := h a List.mem_cons_self
    have h2 := ih fun x hx => h x (List.mem_cons_of_mem _ hx)
    have : 1 * 1 ≤ a * prodI l := Int.mul_le_mul (by omega) h2 (by omega) (by omega)
    show 1 ≤ a * prodI l
    omega
theorem prod_drop {ws : List Int} (h : ∀ x ∈ ws, 2 ≤ x ∧ x ≤ 8) (k : Nat) : prodI (ws.drop k) ≤ prodI ws := by
  induction k generalizing ws with
  | zero => exact Int.le_refl _
  | succ k ih =>
    cases ws with
    | nil => exact Int.le_refl _
    | cons a l =>
      have h1 := h a List.mem_cons_self
      have h2 := ih (ws := l) fun x hx => h x (List.mem_cons_of_mem _ hx)
      have h3 := prod_pos (ws := l) fun x hx => h x (List.mem_cons_of_mem _ hx)
      have : 1 * prodI l ≤ a * prodI l := Int.mul_le_mul_of_nonneg_right (by omega) (by omega)
      show prodI (l.drop k) ≤ a * prodI l
      omega
theorem FanOk.wok {most : Int} {ws : List Int} (h : FanOk most ws) (hm : most ≤ 4096) : WOk ws := ⟨h.len, fun k => ⟨prod_pos fun x hx => h.all x (List.mem_of_mem_drop hx), by
  have h1 := prod_drop h.all k
  have h2 := h.prod
  omega⟩⟩
section
variable {P : Program} {w : World} {K : PySem.W.Frag} {mg : PySem.Str → Option Value} {base : Heap}
def spFanSpans : Sp := fun vs H Q _ => ∃ (v : V) (ws : List Int), vs = [v] ∧ (∃ a, v = .ref a ∧ H a = some (.lst (iv ws))) ∧ ws.length ≤ 4 ∧ (∀ x ∈ ws, 2 ≤ x ∧ x ≤ 8) ∧ ∀ p H', H p = none → Ex H H' → H' p = some (.lst (iv (spansOf ws))) → Q (.ref p) H'
theorem b_fan_spans (m_range : mg "range" = none) (m_len : mg "len" = none) : Body P w K mg base n_law_fan_spans "_law_fan_spans" s_law_fan_spans 0 spFanSpans := by
  intro f cdv A outer s H vs Q E hr h
  obtain ⟨v, ws, rfl, ⟨a, rfl, ha⟩, hl, hall, kq⟩ := h
  refine ⟨_, (pss_cons (ps_set (i := 1) c_law_fan_spans.nd rfl (.inl rfl) (pe_lst pa_nil)) (pss_cons (ps_for PassesOwn.never rfl (pi_range1 (by rfl) m_range (pa_cons (pe_callB call_len_seq (by rfl) m_len boot_len (pa_cons (pv 0) pa_nil)) pa_nil)) (pg_name (i := 2) c_law_fan_spans.nd rfl (.inl rfl)) (pss_cons (ps_set (i := 3) c_law_fan_spans.nd rfl (.inl rfl) pe_int) (pss_cons (ps_for PassesOwn.never rfl (pi_list (pe_slice (r := rSlL K) sl_list (pv 0) (po_some (pe_op op_add (pv 2) pe_int)) po_none)) (pg_name (i := 4) c_law_fan_spans.nd rfl (.inl rfl)) (pss_one (ps_set (i := 3) c_law_fan_spans.nd rfl (.inl rfl) (pe_op op_mul (pv 3) (pv 4))))) (pss_one (ps_expr (pe_bm PySem.F.plainAttrs_list PySem.F.slot_list_append PySem.F.type_list_append mt_append (pv 1) (pa_cons (pv 3) pa_nil))))))) (pss_one (ps_ret (pv 1))))), ?_⟩
  refine q_asgL (el_lst ea_nil (by decide)) fun l H1 hl0 e1 hl1 => ?_
  have elen : ((iv ws).length : Int) = ws.length := by simp
  refine q_forR1 (ea_cons (ev_lenL (ev_var rfl) (sq_of (e1 _ _ ha))) ea_nil) ⟨by omega, by omega⟩ (fun i σ' H' => ∃ r2 r3 r4 : Option V, σ' = [some (.ref a), some (.ref l), r2, r3, r4] ∧ Ex H H' ∧ H' l = some (.lst (iv ((List.range i).map fun k => prodI (ws.drop (k + 1)))))) (fun H2 e2 => ⟨none, none, none, rfl, e1.trans e2, e2 _ _ hl1⟩) (fun i σ' H' hi ⟨r2, r3, r4, eσ, ex, hl'⟩ => ?_) fun σ' H' ⟨r2, r3, r4, eσ, ex, hl'⟩ => ?_
  · subst eσ
    refine q_asg ev_c fun H2 e2 => ?_
    refine q_forNL (el_sl (lo := some ((i + 1 : Nat) : Int)) (ev_var rfl) (eo_some (ev_is (ev_op (ev_var rfl) ev_c rv_I0) (by simp))) eo_none (sq_of (e2 _ _ (ex _ _ ha)))) (fun p j σ' H' => ∃ r4 : Option V, σ' = [some (.ref a), some (.ref l), some (.int (i : Int)), some (.int (prodI ((ws.drop (i + 1)).take j))), r4] ∧ Ex H2 H' ∧ H' p = some (.lst (iv (ws.drop (i + 1))))) (fun p H3 hp e3 h3 => ⟨r4, rfl, e3, by rw [h3, cut_drop (α := Int)]; simp⟩) (fun p j σ' H' _ ⟨_, _, _, h⟩ => by rw [cut_drop (α := Int), ← List.map_drop]; exact sq_of h) (fun p j x σ' H' hx ⟨r4, eσ, e3, hp⟩ => ?_) fun p σ' H' ⟨r4, eσ, e3, hp⟩ => ?_
    · subst eσ
      rw [cut_drop (α := Int), ← List.map_drop, List.getElem?_map] at hx
      cases hq : (ws.drop (i + 1))[j]? with
      | none => rw [hq] at hx; cases hx
      | some y =>
        rw [hq] at hx
        cases hx
        have hy := hall y (List.mem_of_mem_drop (List.mem_of_getElem? hq))
        refine s_asg (ev_op (ev_var rfl) (ev_var rfl) (rv_I (C := CMul) (.inr ⟨by omega, by omega⟩))) fun H4 e4 => ⟨some (V.int y), ?_, e3.trans e4, e4 _ _ hp⟩
        rw [take_next hq, prodI_snoc]
        rfl
    · subst eσ
      rw [cut_drop (α := Int), ← List.map_drop]
      rw [List.length_map, List.take_length]
      have hl3 := e3 _ _ (e2 _ _ hl')
      refine s_app hl3 (ev_var rfl) (ev_var rfl) (by simp; omega) fun H4 e4 => ⟨_, _, _, rfl, Ex.mut (ex.trans (e2.trans (e3.trans e4))) hl0, ?_⟩
      rw [upd_same, List.range_succ]
      simp
  · subst eσ
    rw [show ((iv ws).length : Int).toNat = ws.length by simp] at hl'
    exact s_ret (ev_var rfl) fun H2 e2 => kq l H2 hl0 (ex.trans e2) (e2 _ _ hl')
def FanP (H : Hp) (most : Int) (Q : VK) : Prop := ∀ ws p H', FanOk most ws → H p = none → Ex H H' → H' p = some (.lst (iv ws)) → Q (.ref p) H'
def spFan (K : PySem.W.Frag) : Sp := fun vs H Q _ => ∃ (v : V) (ns : List Int) (most : Int), vs = [v, .int 0, .int most] ∧ ScAt K ns v H ∧ ns.length ≤ 100 ∧ 96 ≤ most ∧ FanP H most Q
theorem b_fan (m_range : mg "range" = none) (d_law_number : Cl P w K mg base 1 "_law_number" (spNumber K)) : Body P w K mg base n_law_fan "_law_fan" s_law_fan 1 (spFan K) := by
  intro f cdv A outer s H vs Q E hr h
  obtain ⟨v, ns, most, rfl, hv, hns, hm, kq⟩ := h
  refine ⟨_, (pss_cons (ps_set (i := 3) c_law_fan.nd rfl (.inl rfl) (pe_lst pa_nil)) (pss_cons (ps_set (i := 4) c_law_fan.nd rfl (.inl rfl) pe_int) (pss_cut (ps_for PassesOwn.never rfl (pi_range1 (by rfl) m_range (pa_cons (pe_op op_add pe_int (pc d_law_number hr (by omega) (by rfl) (pa_cons (pv 0) (pa_cons (pv 1) (pa_cons pe_int (pa_cons pe_int pa_nil)))))) pa_nil)) (pg_name (i := 5) c_law_fan.nd rfl (.inl rfl)) (pss_cons (ps_set (i := 6) c_law_fan.nd rfl (.inl rfl) (pe_op op_add pe_int (pc d_law_number hr (by omega) (by rfl) (pa_cons (pv 0) (pa_cons (pv 1) (pa_cons (pv 5) (pa_cons pe_int pa_nil))))))) (pss_one (ps_if (pt_cmpR op_le (pe_op op_mul (pv 4) (pv 6)) (pv 2) (nomark _)) (pss_cons (ps_expr (pe_bm PySem.F.plainAttrs_list PySem.F.slot_list_append PySem.F.type_list_append mt_append (pv 3) (pa_cons (pv 6) pa_nil))) (pss_one (ps_set (i := 4) c_law_fan.nd rfl (.inl rfl) (pe_op op_mul (pv 4) (pv 6))))) pss_nil)))) (pss_one (ps_ret (pv 3)))))), ?_⟩
  refine q_asgL (el_lst ea_nil (by decide)) fun l H1 hl0 e1 hl1 => q_asg ev_c fun H2 e2 => ?_
  have hv2 := (hv.ex e1).ex e2
  refine q_cut (M := fun σ' H' => ∃ (r4 r5 r6 : Option V) (ws : List Int), σ' = [some v, some (.int 0), some (.int most), some (.ref l), r4, r5, r6] ∧ Ex H H' ∧ H' l = some (.lst (iv ws)) ∧ FanOk most ws) ?_ fun σ' H3 ⟨r4, r5, r6, ws, eσ, e3, hl3, hf⟩ => ?_
  · refine s_forR1P (A := fun n => 1 ≤ n ∧ n ≤ 4) (eap_one (evi_op0 (g := fun i j => .int (i + j)) (evi ev_c) (evi_number (K := K) (evsc_var rfl hv2) (ev_var rfl) ev_c ev_c hns ⟨by decide, by decide⟩ ⟨by decide, by decide⟩ (by decide)) fun i j H hi hj => ⟨i + j, rfl, by omega, by omega⟩)) (fun n h => by omega)
      (fun n i σ' H' => ∃ (r5 r6 : Option V) (ws : List Int), σ' = [some v, some (.int 0), some (.int most), some (.ref l), some (.int (prodI ws)), r5, r6] ∧ Ex H H' ∧ H' l = some (.lst (iv ws)) ∧ ws.length ≤ i ∧ (0 < i → ws ≠ []) ∧ (∀ x ∈ ws, 2 ≤ x ∧ x ≤ 8) ∧ prodI ws ≤ most)
      (fun n H3 hn e3 => ⟨none, none, [], rfl, e1.trans (e2.trans e3), e3 _ _ (e2 _ _ hl1), Nat.le_refl _, fun h => absurd h (Nat.lt_irrefl _), fun x hx => by simp at hx, by show (1 : Int) ≤ most; omega⟩) (fun n i σ' H' hn hi ⟨r5, r6, ws, eσ, ex, hl', hwl, hne, hall, hpr⟩ => ?_) fun n σ' H' hn ⟨r5, r6, ws, eσ, ex, hl', hwl, hne, hall, hpr⟩ => ⟨_, _, _, ws, eσ, ex, hl', hne (by omega), by omega, hall, hpr⟩
    subst eσ
    refine q_asgP (P := IntP fun x => 2 ≤ x ∧ x ≤ 8) (evi_op0 (g := fun i j => .int (i + j)) (evi ev_c) (evi_number (K := K) (evsc_var rfl (hv.ex ex)) (ev_var rfl) (ev_var rfl) ev_c hns ⟨by decide, by decide⟩ ⟨by omega, by omega⟩ (by decide)) fun i j H hi hj => ⟨i + j, rfl, by omega, by omega⟩) fun y H3 e3 ⟨x, ey, hx1, hx2⟩ => ?_
    subst ey
    refine s_when (et_test (ev_op (ev_op (ev_var rfl) (ev_var rfl) (rv_I (C := CMul) (.inr ⟨by omega, by omega⟩))) (ev_var rfl) rv_I0)) (fun hb H4 e4 => ?_) fun hb H4 e4 => ⟨_, _, ws, rfl, ex.trans (e3.trans e4), e4 _ _ (e3 _ _ hl'), by omega, fun _ => ?_, hall, hpr⟩
    · refine q_app (e4 _ _ (e3 _ _ hl')) (ev_var rfl) (ev_var rfl) (by simp; omega) fun H5 e5 => ?_
      refine s_asg (ev_op (ev_var rfl) (ev_var rfl) (rv_I (C := CMul) (.inr ⟨by omega, by omega⟩))) fun H6 e6 => ⟨some (V.int (i : Int)), some (V.int x), ws ++ [x], ?_, (Ex.mut (ex.trans (e3.trans (e4.trans e5))) hl0).trans e6, ?_, by simp; omega, fun _ => by simp, fun y hy => ?_, ?_⟩
      · rw [prodI_snoc]; rfl
      · rw [e6 _ _ upd_same]; simp
      · rcases List.mem_append.mp hy with z | z
        · exact hall y z
        · rw [List.mem_singleton.mp z]; exact ⟨hx1, hx2⟩
      · rw [prodI_snoc]; simpa using hb
    · by_cases c : i = 0
      · have e0 : ws = [] := List.eq_nil_of_length_eq_zero (by omega)
        rw [e0] at hb
        have hb' : ¬ (prodI [] * x ≤ most) := by simpa using hb
        exact absurd (show prodI [] * x ≤ most by show 1 * x ≤ most; omega) hb'
      · exact hne (by omega)
  · subst eσ
    exact s_ret (ev_var rfl) fun H4 e4 => kq ws l H4 hf hl0 (e3.trans e4) (e4 _ _ hl3)
theorem en_fan {σ : L2.St} {H : Hp} {ta tb tc : TE} {E : XK} {ns : List Int} {most : Int} (ha : EvP ta σ H (ScAt K ns)) (hb : Ev tb σ H (.int 0)) (hc : Ev tc σ H (.int most)) (hn : ns.length ≤ 100) (hm : 96 ≤ most) : EvN (tCall (spFan K) [] E (tCons ta (tCons tb (tCons tc tNil)))) σ H (fun p H' => ∃ ws, FanOk most ws ∧ H' p = some (.lst (iv ws))) :=
  evn_call (eap_cons ha (eap_cons (evp hb) (eap_cons (evp hc) eap_nil fun _ _ _ _ h => h) fun _ _ _ _ h => h) fun _ _ _ e h => h.ex e) fun vs H1 e1 ⟨x1, w1, g1, q1, x2, w2, g2, q2, x3, w3, g3, q3, g4⟩ Q q => ⟨x1, ns, most, by rw [g1, g2, g3, g4, q2, q3], q1, hn, hm, fun ws p H' hf hp e hh => q p H' hp e ⟨ws, hf, hh⟩⟩
def spFoldFan (K : PySem.W.Frag) : Sp := fun vs H Q _ => ∃ (v : V) (ns : List Int), vs = [v] ∧ ScAt K ns v H ∧ ns.length ≤ 100 ∧ FanP H 4096 Q
theorem b_fold_fan (d_law_number : Cl P w K mg base 1 "_law_number" (spNumber K)) (d_law_fan : Cl P w K mg base 2 "_law_fan" (spFan K)) : Body P w K mg base n_law_fold_fan "_law_fold_fan" s_law_fold_fan 2 (spFoldFan K) := by
  intro f cdv A outer s H vs Q E hr h
  obtain ⟨v, ns, rfl, hv, hns, kq⟩ := h
  refine ⟨_, (pss_cons (ps_if (pt_cmpR op_eq (pc d_law_number hr (by omega) (by rfl) (pa_cons (pv 0) (pa_cons pe_int (pa_cons pe_int (pa_cons pe_int pa_nil))))) pe_int (nomark _)) (pss_one (ps_ret (pc d_law_fan hr (by omega) (by rfl) (pa_cons (pv 0) (pa_cons pe_int (pa_cons pe_int pa_nil)))))) pss_nil) (pss_one (ps_ret (pc d_law_fan hr (by omega) (by rfl) (pa_cons (pv 0) (pa_cons pe_int (pa_cons pe_int pa_nil))))))), ?_⟩
  refine q_ifU (etu_eq (evi_number (K := K) (evsc_var rfl hv) ev_c ev_c ev_c hns ⟨by decide, by decide⟩ ⟨by decide, by decide⟩ (by decide)) ev_c) (fun H1 e1 => ?_) fun H1 e1 => ?_
  · exact s_retN (en_fan (K := K) (evsc_var rfl (hv.ex e1)) ev_c ev_c hns (by decide)) fun p H2 hp e2 ⟨ws, hf, hh⟩ => kq ws p H2 hf (fresh_back e1 hp) (e1.trans e2) hh
  · exact s_retN (en_fan (K := K) (evsc_var rfl (hv.ex e1)) ev_c ev_c hns (by decide)) fun p H2 hp e2 ⟨ws, hf, hh⟩ => kq ws p H2 ⟨hf.ne, hf.len, hf.all, by have := hf.prod; omega⟩ (fresh_back e1 hp) (e1.trans e2) hh
def spFoldMany (K : PySem.W.Frag) : Sp := fun vs H Q _ => ∃ (v : V) (ns : List Int) (t : Int), vs = [v, .int t] ∧ ScAt K ns v H ∧ ns.length ≤ 100 ∧ ∀ r H', 0 ≤ r → r ≤ 10 → Ex H H' → Q (.int r) H'
theorem b_fold_many (m_min : mg "min" = none) (d_law_number : Cl P w K mg base 1 "_law_number" (spNumber K)) : Body P w K mg base n_law_fold_many "_law_fold_many" s_law_fold_many 1 (spFoldMany K) := by
  intro f cdv A outer s H vs Q E hr h
  obtain ⟨v, ns, t, rfl, hv, hns, kq⟩ := h
  refine ⟨_, (pss_cons (ps_set (i := 2) c_law_fold_many.nd rfl (.inl rfl) (pc d_law_number hr (by omega) (by rfl) (pa_cons (pv 0) (pa_cons pe_int (pa_cons pe_int (pa_cons pe_int pa_nil)))))) (pss_cut (ps_if (pt_cmpR op_eq (pv 2) pe_int (nomark _)) (pss_one (ps_set (i := 2) c_law_fold_many.nd rfl (.inl rfl) pe_int)) pss_nil) (pss_cut (ps_if (pt_cmpR op_gt (pv 1) pe_int (nomark _)) (pss_one (ps_set (i := 2) c_law_fold_many.nd rfl (.inl rfl) (pe_callB (call_min2 rfl) (by rfl) m_min boot_min (pa_cons (pv 2) (pa_cons pe_int pa_nil))))) pss_nil) (pss_one (ps_ret (pv 2)))))), ?_⟩
  refine q_asgP (evi_number (K := K) (evsc_var rfl hv) ev_c ev_c ev_c hns ⟨by decide, by decide⟩ ⟨by decide, by decide⟩ (by decide)) fun y H1 e1 ⟨r, ey, r0, r1⟩ => ?_
  subst ey
  refine q_cut (M := fun σ' H' => ∃ r : Int, σ' = [some v, some (.int t), some (.int r)] ∧ Ex H H' ∧ 0 ≤ r ∧ r ≤ 10) ?_ fun σ' H2 ⟨r, eσ, e2, r0, r1⟩ => ?_
  · exact s_when (et_test (ev_op (ev_var rfl) ev_c (rv_eq rfl))) (fun _ H2 e2 => s_asg ev_c fun H3 e3 => ⟨10, rfl, e1.trans (e2.trans e3), by decide, by decide⟩) fun _ H2 e2 => ⟨r, rfl, e1.trans e2, r0, by omega⟩
  subst eσ
  refine q_cut (M := fun σ' H' => ∃ r : Int, σ' = [some v, some (.int t), some (.int r)] ∧ Ex H H' ∧ 0 ≤ r ∧ r ≤ 10) ?_ fun σ' H3 ⟨r, eσ, e3, r0, r1⟩ => ?_
  · refine s_when (et_test (ev_op (ev_var rfl) ev_c rv_I0)) (fun _ H3 e3 => s_asg (ev_min2 (ev_var rfl) ev_c) fun H4 e4 => ⟨mnI r 3, rfl, e2.trans (e3.trans e4), ?_, ?_⟩) fun _ H3 e3 => ⟨r, rfl, e2.trans e3, r0, r1⟩
    · have := mn_eq r 3; omega
    · have := mn_eq r 3; omega
  subst eσ
  exact s_ret (ev_var rfl) fun H4 e4 => kq r H4 r0 r1 (e3.trans e4)
end
end Lp
end
section
set_option Elab.async false
set_option linter.all false
set_option maxRecDepth 100000
set_option maxHeartbeats 8000000
/-! Lp.L4: deeds. -/
namespace Lp
open PySem PySem.Spec PyProof.Rows L2 Evl
section
variable {σ : L2.St} {H : Hp} {ta tb tc td te : TE} {K : PySem.W.Frag} {D : Ends}
theorem mem_at {xs : List V} {r : Int} (h0 : 0 ≤ r) (h1 : r < xs.length) : ∃ v ∈ xs, atI xs r = some v := by
  have hl : r.toNat < xs.length := by omega
  refine ⟨xs[r.toNat], List.getElem_mem hl, ?_⟩
  have := atI_nat (List.getElem?_eq_getElem hl)
  rwa [show ((r.toNat : Nat) : Int) = r by omega] at this
theorem evp_ixU {p : Addr} {xs : List V} (hx : SqL K H p xs) (ha : Ev ta σ H (.ref p)) (hb : EvP tb σ H (IntP fun r => 0 ≤ r ∧ r < (xs.length : Int))) : EvP (tOp (rIxL K) ta tb) σ H (fun v _ => v ∈ xs) := fun H1 e Q q =>
  ha H1 e _ fun H2 e2 => hb H2 (e.trans e2) _ fun v H3 e3 ⟨r, ev, r0, r1⟩ => let ⟨z, hz, hat⟩ := mem_at r0 r1; ⟨p, xs, r, z, rfl, ev, ex_l ((e.trans e2).trans e3) hx, hat, q _ _ (e2.trans e3) hz⟩
theorem evp_ixN {xs : List V} (ha : EvL ta σ H xs) (hb : EvP tb σ H (IntP fun r => 0 ≤ r ∧ r < (xs.length : Int))) : EvP (tOp (rIxL K) ta tb) σ H (fun v _ => v ∈ xs) := fun H1 e Q q =>
  ha H1 e _ fun p H2 hp e2 h2 => hb H2 (e.trans e2) _ fun v H3 e3 ⟨r, ev, r0, r1⟩ => let ⟨z, hz, hat⟩ := mem_at r0 r1; ⟨p, xs, r, z, rfl, ev, sq_of (e3 _ _ h2), hat, q _ _ (e2.trans e3) hz⟩
theorem el_cat {p : Addr} {xs ys : List V} (ha : EvL ta σ H xs) (hb : Ev tb σ H (.ref p)) (hp : H p = some (.lst ys)) (hl : xs.length + ys.length ≤ 100000) : EvL (tOp rCat ta tb) σ H (xs ++ ys) := fun H1 e Q q =>
  ha H1 e _ fun a H2 ha2 e2 h2 => hb H2 (e.trans e2) _ fun H3 e3 => ⟨a, p, xs, ys, rfl, rfl, e3 _ _ h2, e3 _ _ (e2 _ _ (e _ _ hp)), sz_of hl, fun c hc => q c _ (fresh_back (e2.trans e3) hc) ((e2.trans e3).trans (Ex.new hc)) upd_same⟩
end
inductive Deed
  | un (a b : Int)
  | as (a b : Int) (r f : PySem.Str) (i : Int)
def dvs : Deed → List V
  | .un a b => [.str "unassign", .int a, .int b]
  | .as a b r f i => [.str "assign", .int a, .int b, .str r, .str f, .int i, .int 0]
def DeedOk (n : Int) : Deed → Prop
  | .un a b => 0 ≤ a ∧ a < b ∧ b ≤ n
  | .as a b r f i => 0 ≤ a ∧ a < b ∧ b ≤ n ∧ PyData.strOk r = true ∧ PyData.strOk f = true
def NmAt (v : V) (H : Hp) : Prop := ∃ (a : Addr) (zs : List PySem.Str), v = .ref a ∧ H a = some (.lst (zs.map V.str)) ∧ zs.length = 3 ∧ ∀ z ∈ zs, PyData.strOk z = true
theorem NmAt.ex {v : V} {H H' : Hp} (e : Ex H H') (h : NmAt v H) : NmAt v H' := let ⟨a, zs, h1, h2, h3⟩ := h; ⟨a, zs, h1, e _ _ h2, h3⟩
def LiAt (ws : List Int) (v : V) (H : Hp) : Prop := ∃ a, v = .ref a ∧ H a = some (.lst (iv ws))
theorem LiAt.ex {ws : List Int} {v : V} {H H' : Hp} (e : Ex H H') (h : LiAt ws v H) : LiAt ws v H' := let ⟨a, h1, h2⟩ := h; ⟨a, h1, e _ _ h2⟩
theorem en_spans {σ : L2.St} {H : Hp} {ta : TE} {E : XK} {ws : List Int} (ha : EvP ta σ H (LiAt ws)) (h1 : ws.length ≤ 4) (h2 : ∀ x ∈ ws, 2 ≤ x ∧ x ≤ 8) : EvN (tCall spFanSpans [] E (tCons ta tNil)) σ H (fun p H' => H' p = some (.lst (iv (spansOf ws)))) :=
  evn_call (eap_cons ha eap_nil fun _ _ _ e h => h.ex e) fun vs H1 e1 ⟨x1, w1, g1, q1, g2⟩ Q q => ⟨x1, ws, by rw [g1, g2], q1, h1, h2, fun p H' hp e hh => q p H' hp e hh⟩
section
variable {P : Program} {w : World} {K : PySem.W.Frag} {mg : PySem.Str → Option Value} {base : Heap}
def spDeed (K : PySem.W.Frag) : Sp := fun vs H Q _ => ∃ (v : V) (ns : List Int) (at_ : Int) (fv nv : V) (ws : List Int), vs = [v, .int at_, fv, nv] ∧ ScAt K ns v H ∧ ns.length ≤ 100 ∧ 1 ≤ at_ ∧ at_ ≤ 1000 ∧ LiAt ws fv H ∧ FanOk 4096 ws ∧ NmAt nv H ∧ ∀ d u H', DeedOk (prodI ws) d → Ex H H' → TpAt (dvs d) u H' → Q u H'
theorem b_deed (m_int : mg "int" = none) (m_len : mg "len" = none) (m_min : mg "min" = none) (d_law_number : Cl P w K mg base 1 "_law_number" (spNumber K)) (d_law_fan_spans : Cl P w K mg base 1 "_law_fan_spans" spFanSpans) : Body P w K mg base n_law_fold_deed "_law_fold_deed" s_law_fold_deed 1 (spDeed K) := by
  intro f cdv A outer s H vs Q E hr h
  obtain ⟨v, ns, at_, fv, nv, ws, rfl, hv, hns, a1, a2, hf, fok, hn, kq⟩ := h
  refine ⟨_, (pss_cons (ps_set (i := 4) c_law_fold_deed.nd rfl (.inl rfl) (pc d_law_fan_spans hr (by omega) (by rfl) (pa_cons (pv 2) pa_nil))) (pss_cons (ps_set (i := 5) c_law_fold_deed.nd rfl (.inl rfl) (pe_op op_mul (pe_ix (r := rIxL K) ix_list (pv 4) pe_int (fun _ _ => rfl)) (pe_ix (r := rIxL K) ix_list (pv 2) pe_int (fun _ _ => rfl)))) (pss_cons (ps_set (i := 6) c_law_fold_deed.nd rfl (.inl rfl) (pv 1)) (pss_cut (ps_if (pt_cmpR op_eq (pc d_law_number hr (by omega) (by rfl) (pa_cons (pv 0) (pa_cons (pv 1) (pa_cons pe_int (pa_cons pe_int pa_nil))))) pe_int (nomark _)) (pss_one (ps_set (i := 6) c_law_fold_deed.nd rfl (.inl rfl) pe_int)) pss_nil) (pss_cons (ps_set (i := 7) c_law_fold_deed.nd rfl (.inl rfl) (pe_op op_modN (pe_callTy call_int1 (by rfl) m_int boot_int (pa_cons (pe_op op_add (pc d_law_number hr (by omega) (by rfl) (pa_cons (pv 0) (pa_cons (pv 6) (pa_cons pe_int (pa_cons pe_int pa_nil))))) (pe_op op_mul pe_int (pc d_law_number hr (by omega) (by rfl) (pa_cons (pv 0) (pa_cons (pv 6) (pa_cons pe_int (pa_cons pe_int pa_nil))))))) pa_nil)) (pv 5))) (pss_cut (ps_if (pt_cmpR op_ne (pv 6) (pv 1) (nomark _)) (pss_one (ps_set (i := 7) c_law_fold_deed.nd rfl (.inl rfl) (pe_op op_modN (pe_callTy call_int1 (by rfl) m_int boot_int (pa_cons (pe_op op_add (pv 7) (pc d_law_number hr (by omega) (by rfl) (pa_cons (pv 0) (pa_cons (pv 1) (pa_cons pe_int (pa_cons (pe_ix (r := rIxL K) ix_list (pv 4) pe_int (fun _ _ => rfl)) pa_nil)))))) pa_nil)) (pv 5)))) pss_nil) (pss_cons (ps_set (i := 8) c_law_fold_deed.nd rfl (.inl rfl) (pe_ix (r := rIxL K) ix_list (pv 4) (pc d_law_number hr (by omega) (by rfl) (pa_cons (pv 0) (pa_cons (pv 1) (pa_cons pe_int (pa_cons (pe_callB call_len_seq (by rfl) m_len boot_len (pa_cons (pv 2) pa_nil)) pa_nil))))) (fun _ _ => rfl))) (pss_cons (ps_set (i := 9) c_law_fold_deed.nd rfl (.inl rfl) (pe_op op_mul (pv 8) (pe_op op_add pe_int (pc d_law_number hr (by omega) (by rfl) (pa_cons (pv 0) (pa_cons (pv 1) (pa_cons pe_int (pa_cons pe_int pa_nil)))))))) (pss_cut (ps_if (pt_cmpR op_eq (pc d_law_number hr (by omega) (by rfl) (pa_cons (pv 0) (pa_cons (pv 1) (pa_cons pe_int (pa_cons pe_int pa_nil))))) pe_int (nomark _)) (pss_one (ps_set (i := 9) c_law_fold_deed.nd rfl (.inl rfl) (pe_op op_add pe_int (pc d_law_number hr (by omega) (by rfl) (pa_cons (pv 0) (pa_cons (pv 1) (pa_cons pe_int (pa_cons (pe_op op_mul pe_int (pv 8)) pa_nil)))))))) (pss_one (ps_set (i := 7) c_law_fold_deed.nd rfl (.inl rfl) (pe_op op_mul (pe_op op_fdivN (pv 7) (pv 8)) (pv 8))))) (pss_cons (ps_set (i := 10) c_law_fold_deed.nd rfl (.inl rfl) (pe_callB (call_min2 rfl) (by rfl) m_min boot_min (pa_cons (pv 5) (pa_cons (pe_op op_add (pv 7) (pv 9)) pa_nil)))) (pss_cut (ps_if (pt_cmpR op_eq (pc d_law_number hr (by omega) (by rfl) (pa_cons (pv 0) (pa_cons (pv 1) (pa_cons pe_int (pa_cons pe_int pa_nil))))) pe_int (nomark _)) (pss_one (ps_ret (pe_tup (pa_cons pe_str (pa_cons (pv 7) (pa_cons (pv 10) pa_nil)))))) pss_nil) (pss_cons (ps_set (i := 11) c_law_fold_deed.nd rfl (.inl rfl) (pe_ix (r := rIxL K) ix_list (pe_lst (pa_cons pe_str (pa_cons pe_str (pa_cons pe_str (pa_cons pe_str (pa_cons pe_str (pa_cons pe_str (pa_cons pe_str (pa_cons pe_str (pa_cons pe_str (pa_cons pe_str (pa_cons pe_str (pa_cons pe_str pa_nil))))))))))))) (pc d_law_number hr (by omega) (by rfl) (pa_cons (pv 0) (pa_cons (pv 6) (pa_cons pe_int (pa_cons pe_int pa_nil))))) (fun _ _ => rfl))) (pss_cons (ps_set (i := 12) c_law_fold_deed.nd rfl (.inl rfl) (pe_ix (r := rIxL K) ix_list (pe_op op_cat (pe_lst (pa_cons pe_str pa_nil)) (pv 3)) (pc d_law_number hr (by omega) (by rfl) (pa_cons (pv 0) (pa_cons (pv 6) (pa_cons pe_int (pa_cons pe_int pa_nil))))) (fun _ _ => rfl))) (pss_cons (ps_set (i := 13) c_law_fold_deed.nd rfl (.inl rfl) (pe_op op_add (pv 7) (pc d_law_number hr (by omega) (by rfl) (pa_cons (pv 0) (pa_cons pe_int (pa_cons pe_int (pa_cons pe_int pa_nil))))))) (pss_cut (ps_if (pt_cmpR op_eq (pc d_law_number hr (by omega) (by rfl) (pa_cons (pv 0) (pa_cons (pv 1) (pa_cons pe_int (pa_cons pe_int pa_nil))))) pe_int (nomark _)) (pss_one (ps_set (i := 13) c_law_fold_deed.nd rfl (.inl rfl) (pc d_law_number hr (by omega) (by rfl) (pa_cons (pv 0) (pa_cons (pv 1) (pa_cons pe_int (pa_cons pe_int pa_nil))))))) pss_nil) (pss_one (ps_ret (pe_tup (pa_cons pe_str (pa_cons (pv 7) (pa_cons (pv 10) (pa_cons (pv 11) (pa_cons (pv 12) (pa_cons (pv 13) (pa_cons pe_int pa_nil))))))))))))))))))))))))), ?_⟩
  obtain ⟨wd, wt, ew⟩ : ∃ wd wt, ws = wd :: wt := by
    cases hq : ws with
    | nil => exact absurd hq fok.ne
    | cons a l => exact ⟨a, l, rfl⟩
  have wok := fok.wok (Int.le_refl _)
  have hsp0 : (spansOf ws)[0]? = some (prodI wt) := span_at (lev := 0) (by rw [ew]; rfl)
  have hw0 : ws[0]? = some wd := by rw [ew]; rfl
  have sp0 := span_ok wok hsp0
  have pr := prod_ok wok
  have hlen : ws.length ≤ 4 := fok.len
  have hpos : 0 < ws.length := by rw [ew]; simp
  refine q_asgP (en_spans (evp_var (v := fv) rfl fun H1 e => hf.ex e) fok.len fok.all).p fun v1 H1 e1 ⟨p1, ev1, hp1⟩ => ?_
  subst ev1
  obtain ⟨fa, rfl, hfa⟩ := id hf
  refine q_asg (v := .int (prodI ws)) (ev_is (ev_op (ev_op (ev_var rfl) ev_c (rv_ixL (sq_of hp1) (iv_at (i := 0) hsp0))) (ev_op (ev_var rfl) ev_c (rv_ixL (sq_of (e1 _ _ hfa)) (iv_at (i := 0) hw0))) (rv_I (C := CMul) (.inl ⟨by omega, by omega⟩))) (by rw [ew, Int.mul_comm]; rfl)) fun H2 e2 => ?_
  refine q_asg (ev_var rfl) fun H3 e3 => ?_
  have e13 := e1.trans (e2.trans e3)
  have NUM : ∀ {σ : L2.St} {H5 : Hp} {tb tc td : TE} {i : Int} {k size : Int}, Ex H H5 → σ[0]? = some (some v) → Ev tb σ H5 (.int i) → Ev tc σ H5 (.int k) → Ev td σ H5 (.int size) → 0 ≤ i → i ≤ 1000 → 0 ≤ k → k ≤ 1000 → 0 < size → EvP (tCall (spNumber K) [] L2.E0 (tCons (tVar 0) (tCons tb (tCons tc (tCons td tNil))))) σ H5 (IntP fun r => 0 ≤ r ∧ r < size) := fun e h0 hb hc hd i0 i1 k0 k1 s0 => evi_number (evsc_var h0 (hv.ex e)) hb hc hd hns ⟨i0, i1⟩ ⟨k0, k1⟩ s0
  refine q_cut (M := fun σ' H' => ∃ src : Int, σ' = [some v, some (.int at_), some (.ref fa), some nv, some (.ref p1), some (.int (prodI ws)), some (.int src), none, none, none, none, none, none, none] ∧ Ex H H' ∧ H' p1 = some (.lst (iv (spansOf ws))) ∧ 0 ≤ src ∧ src ≤ 1000) ?_ fun σ' H4 ⟨src, eσ, e4, hp4, s0, s1⟩ => ?_
  · refine s_ifU (etu_eq (NUM e13 rfl (ev_var rfl) ev_c ev_c (by omega) a2 (by decide) (by decide) (by decide)) ev_c) (fun H4 e4 => s_asg ev_c fun H5 e5 => ⟨1, rfl, e13.trans (e4.trans e5), e5 _ _ (e4 _ _ (e3 _ _ (e2 _ _ hp1))), by decide, by decide⟩) fun H4 e4 => ⟨at_, rfl, e13.trans e4, e4 _ _ (e3 _ _ (e2 _ _ hp1)), by omega, a2⟩
  subst eσ
  refine q_asgP (P := IntP fun x => 0 ≤ x ∧ x < prodI ws) (evi_op (C := fun _ j => j ≠ 0) (A := fun _ => True) (evi_int1 (evi_op0 (R := IntP fun _ => True) (NUM e4 rfl (ev_var rfl) ev_c ev_c s0 s1 (by decide) (by decide) (by decide)) (evi_op (C := CMul) (R := IntP fun _ => True) (evi ev_c) (NUM e4 rfl (ev_var rfl) ev_c ev_c s0 s1 (by decide) (by decide) (by decide)) (fun i j hi _ => .inl (by rw [hi]; decide)) fun i j H _ _ => ⟨_, rfl, trivial⟩) fun i j H _ _ => ⟨_, rfl, trivial⟩)) (evi (ev_var rfl)) (fun i j _ hj => by omega) fun i j H _ hj => ⟨_, rfl, by rw [hj]; exact fmod_in (by omega)⟩) fun v5 H5 e5 ⟨low, ev5, l0, l1⟩ => ?_
  subst ev5
  refine q_cut (M := fun σ' H' => ∃ low : Int, σ' = [some v, some (.int at_), some (.ref fa), some nv, some (.ref p1), some (.int (prodI ws)), some (.int src), some (.int low), none, none, none, none, none, none] ∧ Ex H H' ∧ H' p1 = some (.lst (iv (spansOf ws))) ∧ 0 ≤ low ∧ low < prodI ws) ?_ fun σ' H6 ⟨low, eσ, e6, hp6, l0, l1⟩ => ?_
  · refine s_when (et_test (ev_op (ev_var rfl) (ev_var rfl) (rv_ne rfl))) (fun _ H6 e6 => ?_) fun _ H6 e6 => ⟨low, rfl, e4.trans (e5.trans e6), e6 _ _ (e5 _ _ hp4), l0, l1⟩
    have e46 := e4.trans (e5.trans e6)
    have hp6 := e6 _ _ (e5 _ _ hp4)
    refine s_asgP (P := IntP fun x => 0 ≤ x ∧ x < prodI ws) (evi_op (C := fun _ j => j ≠ 0) (A := fun _ => True) (evi_int1 (evi_op0 (R := IntP fun _ => True) (evi (ev_var rfl)) (NUM e46 rfl (ev_var rfl) ev_c (ev_op (ev_var rfl) ev_c (rv_ixL (sq_of hp6) (iv_at (i := 0) hsp0))) (by omega) a2 (by decide) (by decide) (by omega)) fun i j H _ _ => ⟨_, rfl, trivial⟩)) (evi (ev_var rfl)) (fun i j _ hj => by omega) fun i j H _ hj => ⟨_, rfl, by rw [hj]; exact fmod_in (by omega)⟩) fun v7 H7 e7 ⟨x, ev7, x0, x1⟩ => ?_
    subst ev7
    exact ⟨x, rfl, e46.trans e7, e7 _ _ hp6, x0, x1⟩
  subst eσ
  refine q_asgP (P := IntP fun x => 1 ≤ x ∧ x ≤ 4096) (fun H7 e7 Q7 q7 => evp_ixU (K := K) (sq_of (e7 _ _ hp6)) (ev_var rfl) (NUM (e6.trans e7) rfl (ev_var rfl) ev_c (ev_lenL (ev_var rfl) (sq_of (e7 _ _ (e6 _ _ hfa)))) (by omega) a2 (by decide) (by decide) (by simp; omega) |> fun h => h.imp fun v H ⟨r, ev, r0, r1⟩ => ⟨r, ev, r0, by simp [spans_len] at r1 ⊢; exact r1⟩) H7 (Ex.refl _) Q7 fun v8 H8 e8 hv8 => q7 v8 H8 e8 ?_) fun v7 H7 e7 ⟨sp, ev7, sp0', sp1'⟩ => ?_
  · obtain ⟨x, hx, rfl⟩ := List.mem_map.mp hv8
    obtain ⟨i, hi⟩ := List.getElem?_of_mem hx
    exact ⟨x, rfl, span_ok wok hi⟩
  subst ev7
  have hp7 := e7 _ _ hp6
  have e67 := e6.trans e7
  refine q_asgP (P := IntP fun x => 1 ≤ x) (evi_op (C := CMul) (evi (ev_var rfl)) (evi_op0 (R := IntP fun x => 1 ≤ x) (evi ev_c) (NUM e67 rfl (ev_var rfl) ev_c ev_c (by omega) a2 (by decide) (by decide) (by decide)) fun i j H hi hj => ⟨i + j, rfl, by omega⟩) (fun i j hi _ => .inl (by rw [hi]; omega)) fun i j H hi hj => ⟨i * j, rfl, by
    have : 1 * 1 ≤ i * j := Int.mul_le_mul (by omega) hj (by omega) (by omega)
    omega⟩) fun v8 H8 e8 ⟨many, ev8, m0⟩ => ?_
  subst ev8
  refine q_cut (M := fun σ' H' => ∃ low many : Int, σ' = [some v, some (.int at_), some (.ref fa), some nv, some (.ref p1), some (.int (prodI ws)), some (.int src), some (.int low), some (.int sp), some (.int many), none, none, none, none] ∧ Ex H H' ∧ 0 ≤ low ∧ low < prodI ws ∧ 1 ≤ many) ?_ fun σ' H9 ⟨low, many, eσ, e9, l0, l1, m0⟩ => ?_
  · refine s_ifU (etu_eq (NUM (e67.trans e8) rfl (ev_var rfl) ev_c ev_c (by omega) a2 (by decide) (by decide) (by decide)) ev_c) (fun H9 e9 => ?_) fun H9 e9 => ?_
    · refine s_asgP (P := IntP fun x => 1 ≤ x) (evi_op0 (evi ev_c) (NUM (e67.trans (e8.trans e9)) rfl (ev_var rfl) ev_c (ev_op ev_c (ev_var rfl) (rv_I (C := CMul) (.inl ⟨by decide, by decide⟩))) (by omega) a2 (by decide) (by decide) (by omega)) fun i j H hi hj => ⟨i + j, rfl, by omega⟩) fun v10 H10 e10 ⟨x, ev10, x0⟩ => ?_
      subst ev10
      exact ⟨low, x, rfl, e67.trans (e8.trans (e9.trans e10)), l0, l1, x0⟩
    · refine s_asg (ev_op (ev_op (ev_var rfl) (ev_var rfl) (rv_I (C := CDivN) ⟨by omega, by omega⟩)) (ev_var rfl) (rv_I (C := CMul) (.inr ⟨by omega, by omega⟩))) fun H10 e10 => ⟨_, many, rfl, e67.trans (e8.trans (e9.trans e10)), ?_, ?_, m0⟩
      · rw [Int.fdiv_eq_ediv_of_nonneg _ (by omega)]
        exact Int.mul_nonneg (Int.ediv_nonneg l0 (by omega)) (by omega)
      · rw [Int.fdiv_eq_ediv_of_nonneg _ (by omega)]
        have := (low_le (sp := sp) (page := low) sp0').1
        unfold lowB at this
        omega
  subst eσ
  refine q_asg (ev_min2 (ev_var rfl) (ev_op (ev_var rfl) (ev_var rfl) rv_I0)) fun H10 e10 => ?_
  have e910 := e9.trans e10
  have hm := mn_eq (prodI ws) (low + many)
  have g1 : low < mnI (prodI ws) (low + many) := by omega
  have g2 : mnI (prodI ws) (low + many) ≤ prodI ws := by omega
  refine q_cut (M := fun σ' H' => σ' = [some v, some (.int at_), some (.ref fa), some nv, some (.ref p1), some (.int (prodI ws)), some (.int src), some (.int low), some (.int sp), some (.int many), some (.int (mnI (prodI ws) (low + many))), none, none, none] ∧ Ex H H') ?_ fun σ' H11 ⟨eσ, e11⟩ => ?_
  · refine s_ifU (etu_eq (NUM e910 rfl (ev_var rfl) ev_c ev_c (by omega) a2 (by decide) (by decide) (by decide)) ev_c) (fun H11 e11 => ?_) fun H11 e11 => ⟨rfl, e910.trans e11⟩
    exact s_retP (eup (eu_tup (ea_cons ev_c (ea_cons (ev_var rfl) (ea_cons (ev_var rfl) ea_nil))) (by show 3 ≤ 100000; decide))) fun u H12 e12 h12 => kq (.un low (mnI (prodI ws) (low + many))) u H12 ⟨l0, g1, g2⟩ (e910.trans (e11.trans e12)) h12
  subst eσ
  refine q_asgP (P := fun v _ => ∃ z, v = V.str z ∧ PyData.strOk z = true) (fun H12 e12 Q12 q12 => evp_ixN (K := K) (el_lst (ea_cons ev_c (ea_cons ev_c (ea_cons ev_c (ea_cons ev_c (ea_cons ev_c (ea_cons ev_c (ea_cons ev_c (ea_cons ev_c (ea_cons ev_c (ea_cons ev_c (ea_cons ev_c (ea_cons ev_c ea_nil)))))))))))) (by show 12 ≤ 100000; decide)) (NUM (e11.trans e12) rfl (ev_var rfl) ev_c ev_c s0 s1 (by decide) (by decide) (by decide)) H12 (Ex.refl _) Q12 fun v13 H13 e13 hv13 => q12 v13 H13 e13 ?_) fun v12 H12 e12 ⟨r, ev12, rok⟩ => ?_
  · simp only [List.mem_cons, List.mem_nil_iff, or_false] at hv13
    rcases hv13 with h | h | h | h | h | h | h | h | h | h | h | h <;> (subst h; exact ⟨_, rfl, by decide +kernel⟩)
  subst ev12
  obtain ⟨na, zs, rfl, hna, hzl, hzs⟩ := id hn
  refine q_asgP (P := fun v _ => ∃ z, v = V.str z ∧ PyData.strOk z = true) (fun H13 e13 Q13 q13 => evp_ixN (K := K) (el_cat (el_lst (ea_cons ev_c ea_nil) (by show 1 ≤ 100000; decide)) (ev_var rfl) (e13 _ _ (e12 _ _ (e11 _ _ hna))) (by simp; omega)) (NUM (e11.trans (e12.trans e13)) rfl (ev_var rfl) ev_c ev_c s0 s1 (by decide) (by decide) (by decide) |> fun h => h.imp fun v H ⟨r, ev, r0, r1⟩ => ⟨r, ev, r0, by simp; omega⟩) H13 (Ex.refl _) Q13 fun v14 H14 e14 hv14 => q13 v14 H14 e14 ?_) fun v13 H13 e13 ⟨fn, ev13, fok'⟩ => ?_
  · rcases List.mem_append.mp hv14 with z | z
    · rw [List.mem_singleton.mp z]
      exact ⟨_, rfl, by decide +kernel⟩
    · obtain ⟨y, hy, rfl⟩ := List.mem_map.mp z
      exact ⟨y, rfl, hzs y hy⟩
  subst ev13
  have e1113 := e11.trans (e12.trans e13)
  refine q_asgP (P := IntP fun _ => True) (evi_op0 (evi (ev_var rfl)) (NUM e1113 rfl ev_c ev_c ev_c (by decide) (by decide) (by decide) (by decide) (by decide)) fun i j H _ _ => ⟨_, rfl, trivial⟩) fun v14 H14 e14 ⟨num, ev14, _⟩ => ?_
  subst ev14
  refine q_cut (M := fun σ' H' => ∃ num : Int, σ' = [some v, some (.int at_), some (.ref fa), some (.ref na), some (.ref p1), some (.int (prodI ws)), some (.int src), some (.int low), some (.int sp), some (.int many), some (.int (mnI (prodI ws) (low + many))), some (.str r), some (.str fn), some (.int num)] ∧ Ex H H') ?_ fun σ' H15 ⟨num, eσ, e15⟩ => ?_
  · refine s_ifU (etu_eq (NUM (e1113.trans e14) rfl (ev_var rfl) ev_c ev_c (by omega) a2 (by decide) (by decide) (by decide)) ev_c) (fun H15 e15 => ?_) fun H15 e15 => ⟨num, rfl, e1113.trans (e14.trans e15)⟩
    refine s_asgP (NUM (e1113.trans (e14.trans e15)) rfl (ev_var rfl) ev_c ev_c (by omega) a2 (by decide) (by decide) (by decide)) fun v16 H16 e16 ⟨x, ev16, _⟩ => ?_
    subst ev16
    exact ⟨x, rfl, e1113.trans (e14.trans (e15.trans e16))⟩
  subst eσ
  exact s_retP (eup (eu_tup (ea_cons ev_c (ea_cons (ev_var rfl) (ea_cons (ev_var rfl) (ea_cons (ev_var rfl) (ea_cons (ev_var rfl) (ea_cons (ev_var rfl) (ea_cons ev_c ea_nil))))))) (by show 7 ≤ 100000; decide))) fun u H16 e16 h16 => kq (.as low (mnI (prodI ws) (low + many)) r fn num) u H16 ⟨l0, g1, g2, rok, fok'⟩ (e15.trans e16) h16
end
end Lp
end
section
set_option Elab.async false
set_option linter.all false
set_option maxRecDepth 100000
set_option maxHeartbeats 8000000
/-! Lp.L5: names of files. -/
namespace Lp
open PySem PySem.Spec PyProof.Rows L2 Evl
theorem given_all (n : Nat) (v : Nat → V) : given n (fun _ => true) v = (List.range n).map v := by
  induction n with
  | zero => rfl
  | succ n ih => rw [given_yes rfl, ih, List.range_succ, List.map_append]; rfl
section
variable {σ : L2.St} {H : Hp} {ta tb tc td te : TE} {K : PySem.W.Frag} {D : Ends}
theorem et_yes : EvT tYes σ H true := fun H1 _ Q q => q H1 (Ex.refl _)
theorem el_listof {p : Addr} {xs : List V} (ha : Ev ta σ H (.ref p)) (h : SqL K H p xs) : EvL (tCB (fun xs H Q => ∃ p ys, xs = [.ref p] ∧ (SqL K H p ys ∨ SqT K H p ys) ∧ ∀ l, H l = none → Q (.ref l) (upd H l (.lst ys))) (tCons ta tNil)) σ H xs :=
  el_cb (ea_cons ha ea_nil) fun H1 e Q q => ⟨p, xs, rfl, .inl (ex_l e h), fun l hl => q l _ hl (Ex.new hl) upd_same⟩
theorem q_setLP {j : Int} {P : V → Hp → Prop} {tz : L2.TS} {l : Addr} {xs : List V} (hl : H l = some (.lst xs)) (h : EvP te σ H P) (ho : Ev ta σ H (.ref l)) (hi : Ev tb σ H (.int (j : Int))) (hj : 0 ≤ j ∧ j < xs.length) (k : ∀ v H1, Ex H H1 → P v H1 → ∀ H2, Ex H1 H2 → tz D σ (upd H2 l (.lst (xs.set j.toNat v)))) :
    tSeq (tAsg te (gSub ta tb rSetL)) tz D σ H := h H (Ex.refl H) _ fun v H1 e1 hv => ho H1 e1 _ fun H2 e2 => hi H2 (e1.trans e2) _ fun H3 e3 =>
  ⟨l, xs, j, j.toNat, rfl, rfl, ((e1.trans e2).trans e3) l _ hl, by have := ixN_nat (n := xs.length) (j := j.toNat) (by omega); rwa [show ((j.toNat : Nat) : Int) = j by omega] at this, k v H1 e1 hv H3 (e2.trans e3)⟩
end
section
variable {σ : L2.St} {H : Hp} {ta tb tc td te : TE} {K : PySem.W.Frag} {D : Ends}
theorem el_cat2 {p : Addr} {xs ys : List V} (ha : Ev ta σ H (.ref p)) (hp : H p = some (.lst xs)) (hb : ∀ H1, Ex H H1 → EvL tb σ H1 ys) (hl : xs.length + ys.length ≤ 100000) : EvL (tOp rCat ta tb) σ H (xs ++ ys) := fun H1 e Q q =>
  ha H1 e _ fun H2 e2 => hb H2 (e.trans e2) H2 (Ex.refl _) _ fun a H3 ha3 e3 h3 => ⟨p, a, xs, ys, rfl, rfl, e3 _ _ (e2 _ _ (e _ _ hp)), h3, sz_of hl, fun c hc => q c _ (fresh_back (e2.trans e3) hc) ((e2.trans e3).trans (Ex.new hc)) upd_same⟩
end
def az : PySem.Str := "abcdefghijklmnopqrstuvwxyz"
def ltr (x : Int) : PySem.Str := ⟨#[97 + x.toNat]⟩
theorem az_at {x : Int} (h0 : 0 ≤ x) (h1 : x < 26) : atI az.cps.toList x = some (97 + x.toNat) := by
  have h : ∀ n : Fin 26, atI az.cps.toList ((n : Nat) : Int) = some (97 + (n : Nat)) := by decide +kernel
  have := h ⟨x.toNat, by omega⟩
  rwa [show ((x.toNat : Nat) : Int) = x by omega] at this
theorem joinL_flat (ys : List (List Nat)) : TL.joinL [] ys = ys.flatten := by
  match ys with
  | [] => rfl
  | [p] => simp [TL.joinL]
  | p :: q :: r => rw [TL.joinL, joinL_flat (q :: r)]; simp
theorem ltr_join {xs : List Int} : Txt.join ⟨#[]⟩ (xs.map ltr) = ⟨(xs.map fun x => 97 + x.toNat).toArray⟩ := by
  have h := SX.join_S [] (xs.map fun x => [97 + x.toNat])
  rw [joinL_flat] at h
  have e : (xs.map fun x => [97 + x.toNat]).flatten = xs.map fun x => 97 + x.toNat := by
    clear h
    induction xs with
    | nil => rfl
    | cons a l ih => simp [ih]
  rw [e, List.map_map] at h
  exact h
theorem ltr_ok {xs : List Int} (h : ∀ x ∈ xs, 0 ≤ x ∧ x < 26) : PyData.strOk (Txt.join ⟨#[]⟩ (xs.map ltr)) = true := by
  rw [ltr_join]
  show (xs.map fun x => 97 + x.toNat).toArray.all (· < 0x110000) = true
  rw [List.all_toArray, List.all_eq_true]
  intro y hy
  obtain ⟨x, hx, rfl⟩ := List.mem_map.mp hy
  have := h x hx
  simp
  omega
def In26 (xs : List Int) : Prop := xs.length ≤ 22 ∧ ∀ x ∈ xs, 0 ≤ x ∧ x < 26
section
variable {P : Program} {w : World} {K : PySem.W.Frag} {mg : PySem.Str → Option Value} {base : Heap}
def spFileNames (K : PySem.W.Frag) : Sp := fun vs H Q _ => ∃ (v : V) (ns : List Int), vs = [v] ∧ ScAt K ns v H ∧ ns.length ≤ 100 ∧ ∀ u H', Ex H H' → NmAt u H' → Q u H'
theorem b_file_names (m_int : mg "int" = none) (m_list : mg "list" = none) (m_range : mg "range" = none) (d_law_number : Cl P w K mg base 1 "_law_number" (spNumber K)) : Body P w K mg base n_law_file_names "_law_file_names" s_law_file_names 1 (spFileNames K) := by
  intro f cdv A outer s H vs Q E hr h
  obtain ⟨v, ns, rfl, hv, hns, kq⟩ := h
  refine ⟨_, (pss_cons (ps_set (i := 1) c_law_file_names.nd rfl (.inr rfl) pe_str) (pss_cons (ps_set (i := 2) c_law_file_names.nd rfl (.inl rfl) (pe_op op_add pe_int (pc d_law_number hr (by omega) (by rfl) (pa_cons (pv 0) (pa_cons pe_int (pa_cons pe_int (pa_cons pe_int pa_nil))))))) (pss_cons (ps_set (i := 3) c_law_file_names.nd rfl (.inr rfl) (pc d_law_number hr (by omega) (by rfl) (pa_cons (pv 0) (pa_cons pe_int (pa_cons pe_int (pa_cons pe_int pa_nil)))))) (pss_cons (ps_set (i := 4) c_law_file_names.nd rfl (.inr rfl) (pc d_law_number hr (by omega) (by rfl) (pa_cons (pv 0) (pa_cons pe_int (pa_cons pe_int (pa_cons pe_int pa_nil)))))) (pss_cons (ps_setLc (i := 5) (own := [("_law_k", 11)]) (g := gName 11) (tt := tYes) rfl c_law_file_names.nd rfl rfl (sw_true rfl rfl rfl (by decide +kernel)) (pi_range1 (by rfl) m_range (pa_cons (pv 2) pa_nil)) (blkOk_by (N := n_law_file_names) (sc := defScope s_law_file_names) (by decide +kernel)) (fun _ _ _ _ _ => (pg_name (i := 11) c_law_file_names.nd rfl (.inl rfl))) (fun _ _ _ _ _ => pts_nil) (fun _ _ _ _ _ => (pe_op op_modN (pe_callTy call_int1 (by rfl) m_int boot_int (pa_cons (pe_op op_add (pv 3) (pe_op op_mul (pv 4) (pv 11))) pa_nil)) pe_int))) (pss_cons (ps_set (i := 6) c_law_file_names.nd rfl (.inl rfl) (pe_callTy call_list_of (by rfl) m_list boot_list (pa_cons (pv 5) pa_nil))) (pss_cons (ps_set (i := 7) c_law_file_names.nd rfl (.inl rfl) (pc d_law_number hr (by omega) (by rfl) (pa_cons (pv 0) (pa_cons pe_int (pa_cons pe_int (pa_cons (pv 2) pa_nil)))))) (pss_cons (ps_asg (pe_op op_modN (pe_callTy call_int1 (by rfl) m_int boot_int (pa_cons (pe_op op_add (pe_op op_add (pe_ix (r := rIxL K) ix_list (pv 5) (pv 7) (fun _ _ => rfl)) pe_int) (pc d_law_number hr (by omega) (by rfl) (pa_cons (pv 0) (pa_cons pe_int (pa_cons pe_int (pa_cons pe_int pa_nil)))))) pa_nil)) pe_int) (pg_sub (pv 6) (pv 7) set_list)) (pss_cons (ps_set (i := 8) c_law_file_names.nd rfl (.inl rfl) (pe_op op_cat (pv 5) (pe_lst (pa_cons (pv 3) pa_nil)))) (pss_cut (ps_if (pt_cmpR op_gt (pv 2) pe_int (nomark _)) (pss_one (ps_set (i := 8) c_law_file_names.nd rfl (.inl rfl) (pe_slice (r := rSlL K) sl_list (pv 5) (po_some pe_int) po_none))) pss_nil) (pss_cons (ps_set (i := 9) c_law_file_names.nd rfl (.inl rfl) (pe_lst pa_nil)) (pss_cut (ps_for PassesOwn.never rfl (pi_list (pe_lst (pa_cons (pv 5) (pa_cons (pv 6) (pa_cons (pv 8) pa_nil))))) (pg_name (i := 10) c_law_file_names.nd rfl (.inl rfl)) (pss_one (ps_expr (pe_bm PySem.F.plainAttrs_list PySem.F.slot_list_append PySem.F.type_list_append mt_append (pv 9) (pa_cons (pe_join pe_str (pe_lc (own := [("_law_k", 11)]) (g := gName 11) (tt := tYes) rfl c_law_file_names.nd (pi_list (pv 10)) (blkOk_by (N := n_law_file_names) (sc := defScope s_law_file_names) (by decide +kernel)) (fun _ _ _ _ _ => (pg_name (i := 11) c_law_file_names.nd rfl (.inl rfl))) (fun _ _ _ _ _ => pts_nil) (fun _ _ _ _ _ => (pe_ix ix_str (pv 1) (pv 11) (fun _ _ => rfl))))) pa_nil))))) (pss_one (ps_ret (pv 9))))))))))))))), ?_⟩
  have NUM : ∀ {σ : L2.St} {H5 : Hp} {tb tc td : TE} {i : Int} {k size : Int}, Ex H H5 → σ[0]? = some (some v) → Ev tb σ H5 (.int i) → Ev tc σ H5 (.int k) → Ev td σ H5 (.int size) → 0 ≤ i → i ≤ 1000 → 0 ≤ k → k ≤ 1000 → 0 < size → EvP (tCall (spNumber K) [] L2.E0 (tCons (tVar 0) (tCons tb (tCons tc (tCons td tNil))))) σ H5 (IntP fun r => 0 ≤ r ∧ r < size) := fun e h0 hb hc hd i0 i1 k0 k1 s0 => evi_number (evsc_var h0 (hv.ex e)) hb hc hd hns ⟨i0, i1⟩ ⟨k0, k1⟩ s0
  refine q_asg ev_c fun H1 e1 => ?_
  refine q_asgP (P := IntP fun x => 1 ≤ x ∧ x ≤ 21) (evi_op0 (evi ev_c) (NUM e1 rfl ev_c ev_c ev_c (by decide) (by decide) (by decide) (by decide) (by decide)) fun i j H hi hj => ⟨i + j, rfl, by omega, by omega⟩) fun v2 H2 e2 ⟨many, ev2, m0, m1⟩ => ?_
  subst ev2
  have e12 := e1.trans e2
  refine q_asgP (NUM e12 rfl ev_c ev_c ev_c (by decide) (by decide) (by decide) (by decide) (by decide)) fun v3 H3 e3 ⟨b, ev3, b0, b1⟩ => ?_
  subst ev3
  have e13 := e12.trans e3
  refine q_asgP (NUM e13 rfl ev_c ev_c ev_c (by decide) (by decide) (by decide) (by decide) (by decide)) fun v4 H4 e4 ⟨t, ev4, t0, t1⟩ => ?_
  subst ev4
  have e14 := e13.trans e4
  refine q_asgL (el_lcR1 (fun _ => true) (fun k => .int ((b + t * (k : Int)).fmod 26)) (ea_cons (ev_var rfl) ea_nil) ⟨by omega, by omega⟩ (fun _ => rfl) (fun i H5 e5 hi => et_yes) fun i H5 e5 hi _ => ev_op (ev_int1 (ev_op (ev_var rfl) (ev_op (ev_var rfl) (ev_var rfl) (rv_I (C := CMul) (.inl ⟨by omega, by omega⟩))) rv_I0)) ev_c (rv_I (C := fun _ j => j ≠ 0) (by decide))) fun p1 H5 hp1 e5 h5 => ?_
  rw [given_all] at h5
  obtain ⟨fs, efs, f26, flen⟩ : ∃ fs : List Int, (List.range many.toNat).map (fun k : Nat => V.int ((b + t * (k : Int)).fmod 26)) = iv fs ∧ (∀ x ∈ fs, 0 ≤ x ∧ x < 26) ∧ fs.length = many.toNat := ⟨(List.range many.toNat).map fun k : Nat => (b + t * (k : Int)).fmod 26, by rw [iv, List.map_map]; rfl, fun x hx => by
    obtain ⟨k, _, rfl⟩ := List.mem_map.mp hx
    exact fmod_in (by decide), by simp⟩
  rw [efs] at h5
  have e15 := e14.trans e5
  refine q_asgL (el_listof (ev_var rfl) (sq_of h5)) fun p2 H6 hp2 e6 h6 => ?_
  have e16 := e15.trans e6
  refine q_asgP (NUM e16 rfl ev_c ev_c (ev_var rfl) (by decide) (by decide) (by decide) (by decide) (by omega)) fun v7 H7 e7 ⟨spot, ev7, sp0, sp1⟩ => ?_
  subst ev7
  have e17 := e16.trans e7
  have h57 := e7 _ _ (e6 _ _ h5)
  have FS : ∀ {σ : L2.St} {H5 : Hp}, H5 p1 = some (.lst (iv fs)) → σ[5]? = some (some (.ref p1)) → σ[7]? = some (some (.int spot)) → EvP (tOp (rIxL K) (tVar 5) (tVar 7)) σ H5 (IntP fun _ => True) := fun h a b => by
    refine (evp_ixU (sq_of h) (ev_var a) ((evi (ev_var b)).imp fun v H ⟨r, ev, er⟩ => ⟨r, ev, by omega, by simp; omega⟩)).imp fun v8 H8 hv8 => ?_
    obtain ⟨x, hx, rfl⟩ := List.mem_map.mp hv8
    exact ⟨x, rfl, trivial⟩
  refine q_setLP (P := IntP fun x => 0 ≤ x ∧ x < 26) (e7 _ _ h6) (evi_op (C := fun _ j => j ≠ 0) (A := fun _ => True) (evi_int1 (evi_op0 (R := IntP fun _ => True) (evi_op0 (R := IntP fun _ => True) (FS h57 rfl rfl) (evi ev_c) fun i j H _ _ => ⟨_, rfl, trivial⟩) (NUM e17 rfl ev_c ev_c ev_c (by decide) (by decide) (by decide) (by decide) (by decide)) fun i j H _ _ => ⟨_, rfl, trivial⟩)) (evi ev_c) (fun i j _ hj => by omega) fun i j H _ hj => ⟨_, rfl, by rw [hj]; exact fmod_in (by decide)⟩) (ev_var rfl) (ev_var rfl) ⟨sp0, by simp; omega⟩ fun v8 H8 e8 ⟨z, ev8, z0, z1⟩ H9 e9 => ?_
  subst ev8
  have hn19 : H5 p2 = none := hp2
  have e5x : p1 ≠ p2 := fun e => by rw [e] at h5; rw [h5] at hn19; cases hn19
  have h89 := (e8.trans e9)
  obtain ⟨HB, eHB⟩ : ∃ HB, upd H9 p2 (.lst ((iv fs).set spot.toNat (.int z))) = HB := ⟨_, rfl⟩
  have exB : Ex H HB := eHB ▸ Ex.mut (e17.trans h89) (fresh_back e15 hp2)
  have hb1 : HB p1 = some (.lst (iv fs)) := by rw [← eHB, upd_ne e5x]; exact h89 _ _ h57
  obtain ⟨gs, hb2, g26, glen⟩ : ∃ gs, HB p2 = some (.lst (iv gs)) ∧ (∀ x ∈ gs, 0 ≤ x ∧ x < 26) ∧ gs.length = many.toNat := ⟨fs.set spot.toNat z, by rw [← eHB, upd_same]; simp [iv, List.map_set], fun x hx => by
    rcases List.mem_or_eq_of_mem_set hx with h | h
    · exact f26 x h
    · subst h; exact ⟨z0, z1⟩, by simp [flen]⟩
  rw [eHB]
  refine q_asgL (el_cat2 (ev_var rfl) hb1 (fun H1 e => el_lst (ea_cons (ev_var rfl) ea_nil) (by show 1 ≤ 100000; decide)) (by simp; omega)) fun p3 HC hp3 eC h3 => ?_
  have hc1 := eC _ _ hb1
  have hc2 := eC _ _ hb2
  refine q_cut (M := fun σ' H' => ∃ (p3 : Addr) (ts : List Int), σ' = [some v, some (.str az), some (.int many), some (.int b), some (.int t), some (.ref p1), some (.ref p2), some (.int spot), some (.ref p3), none, none, none] ∧ Ex HB H' ∧ H' p3 = some (.lst (iv ts)) ∧ In26 ts) ?_ fun σ' HD ⟨p3, ts, eσ, eD, hd3, ht⟩ => ?_
  · refine s_when (et_test (ev_op (ev_var rfl) ev_c rv_I0)) (fun _ HD eD => s_asgL (el_sl (lo := some ((1 : Nat) : Int)) (ev_var rfl) (eo_some ev_c) eo_none (sq_of (eD _ _ hc1))) fun p4 HE hp4 eE h4 => ⟨p4, fs.drop 1, rfl, eC.trans (eD.trans eE), by rw [h4, cut_drop (α := Int)]; simp [iv, List.map_drop], by simp; omega, fun x hx => f26 x (List.mem_of_mem_drop hx)⟩) fun _ HD eD => ⟨p3, fs ++ [b], rfl, eC.trans eD, by rw [eD _ _ h3]; simp, by simp; omega, fun x hx => ?_⟩
    rcases List.mem_append.mp hx with h | h
    · exact f26 x h
    · rw [List.mem_singleton.mp h]; exact ⟨b0, b1⟩
  subst eσ
  refine q_asgL (el_lst ea_nil (by decide)) fun p9 HE hp9 eE h9 => ?_
  have exE : Ex H HE := (exB.trans eD).trans eE
  have h0 : H p9 = none := fresh_back (exB.trans eD) hp9
  have hd1 := eD _ _ hb1
  have hd2 := eD _ _ hb2
  refine q_cut (M := fun σ' H' => ∃ (r10 r11 : Option V) (zs : List PySem.Str), σ' = [some v, some (.str az), some (.int many), some (.int b), some (.int t), some (.ref p1), some (.ref p2), some (.int spot), some (.ref p3), some (.ref p9), r10, r11] ∧ Ex H H' ∧ H' p9 = some (.lst (zs.map V.str)) ∧ zs.length = 3 ∧ ∀ z ∈ zs, PyData.strOk z = true) ?_ fun σ' HF ⟨r10, r11, zs, eσ, eF, hf9, hz3, hzs⟩ => ?_
  · refine s_forNL (xs := [.ref p1, .ref p2, .ref p3]) (el_lst (ea_cons (ev_var rfl) (ea_cons (ev_var rfl) (ea_cons (ev_var rfl) ea_nil))) (by show 3 ≤ 100000; decide)) (fun q j σ' H' => ∃ (r10 r11 : Option V) (zs : List PySem.Str), σ' = [some v, some (.str az), some (.int many), some (.int b), some (.int t), some (.ref p1), some (.ref p2), some (.int spot), some (.ref p3), some (.ref p9), r10, r11] ∧ Ex HD H' ∧ H' q = some (.lst [.ref p1, .ref p2, .ref p3]) ∧ q ≠ p9 ∧ H' p9 = some (.lst (zs.map V.str)) ∧ zs.length = j ∧ ∀ z ∈ zs, PyData.strOk z = true)
      (fun q H1 hq e1 hq1 => ⟨none, none, [], rfl, eE.trans e1, hq1, (fun e => by rw [e, h9] at hq; cases hq), e1 _ _ h9, rfl, fun z hz => by simp at hz⟩) (fun q i σ' H' hi ⟨r10, r11, zs, eσ, ex, hq, hne, hp, hzl, hzs⟩ => sq_of hq) (fun q i x σ' H' hi ⟨r10, r11, zs, eσ, ex, hq, hne, hp, hzl, hzs⟩ => ?_) fun q σ' H' ⟨r10, r11, zs, eσ, ex, hq, hne, hp, hzl, hzs⟩ => ⟨r10, r11, zs, eσ, (exB.trans eD).trans ex, hp, hzl, hzs⟩
    subst eσ
    obtain ⟨a, xs, rfl, hxs, x22, x26⟩ : ∃ (a : Addr) (xs : List Int), x = .ref a ∧ HD a = some (.lst (iv xs)) ∧ xs.length ≤ 22 ∧ ∀ x ∈ xs, 0 ≤ x ∧ x < 26 := by
      match i, hi with
      | 0, hi => cases hi; exact ⟨p1, fs, rfl, hd1, by omega, f26⟩
      | 1, hi => cases hi; exact ⟨p2, gs, rfl, hd2, by omega, g26⟩
      | 2, hi => cases hi; exact ⟨p3, ts, rfl, hd3, ht.1, ht.2⟩
    have i3 : i < 3 := (List.getElem?_eq_some_iff.mp hi).1
    refine s_appP (P := fun v _ => ∃ z, v = V.str z ∧ PyData.strOk z = true) hp (ev_var rfl) (fun H1 e1 Q1 q1 => ⟨⟨_, rfl⟩, el_lcL (fun _ => true) (fun k => .str (ltr (xs[k]?.getD 0))) (ev_var rfl) (sq_of (ex _ _ hxs)) (by simp; omega) (fun _ => rfl) (fun k y H2 e2 hy => et_yes) (fun k y H2 e2 hy _ => ?_) H1 e1 _ fun q2 H2 hq2 e2 h2 => ?_⟩) (by simp; omega) fun w H1 e1 ⟨z, ew, hz⟩ => ?_
    · rw [List.getElem?_map] at hy
      cases hk : xs[k]? with
      | none => rw [hk] at hy; cases hy
      | some u =>
        rw [hk] at hy
        cases hy
        have hu := x26 u (List.mem_of_getElem? hk)
        exact ev_op (ev_var rfl) (ev_var rfl) (rv_ixS (by decide) (az_at hu.1 hu.2))
    · have eys : given (iv xs).length (fun _ => true) (fun k => V.str (ltr (xs[k]?.getD 0))) = (xs.map ltr).map V.str := by
        rw [given_all]
        refine List.ext_getElem (by simp) fun k h1 h2 => ?_
        have hk : k < xs.length := by simpa using h1
        simp [List.getElem?_eq_getElem hk]
      rw [eys] at h2
      refine ⟨⟨#[]⟩, q2, xs.map ltr, rfl, rfl, .inl (sq_of h2), ?_, q1 _ H2 e2 ⟨_, rfl, ltr_ok x26⟩⟩
      have el : ∀ l : List Int, ((l.map ltr).map (·.length)).sum = l.length := fun l => by
        induction l with
        | nil => rfl
        | cons a l ih => simp only [List.map_cons, List.sum_cons, ih, List.length_cons]; show 1 + l.length = l.length + 1; omega
      rw [el]
      show xs.length + (xs.map ltr).length * 0 ≤ 16777216
      omega
    · subst ew
      refine ⟨_, _, zs ++ [z], rfl, Ex.mut (ex.trans e1) hp9, ?_, hne, ?_, by simp; omega, fun y hy => ?_⟩
      · rw [upd_ne hne]; exact e1 _ _ hq
      · rw [upd_same]; simp
      · rcases List.mem_append.mp hy with h | h
        · exact hzs y h
        · rw [List.mem_singleton.mp h]; exact hz
  subst eσ
  exact s_retP (evp (ev_var rfl)) fun u H12 e12 eu => kq u H12 (eF.trans e12) ⟨p9, zs, eu, e12 _ _ hf9, hz3, hzs⟩
end
end Lp
end
section
set_option Elab.async false
set_option linter.all false
set_option maxRecDepth 100000
set_option maxHeartbeats 4000000
/-! Lp.M3: a dict of marks. -/
namespace Lp
open PySem PySem.Spec PyProof.Rows L2 Evl
theorem u1_of {k : Nat} {A : Around} (r : Room k A) : A.units + 1 < cLine := by have := r.units; omega
def OptAt (H : Hp) : Option Mark → Option V → Prop
  | none, none => True
  | some k, some v => MkAt k v H
  | _, _ => False
structure DcR (H : Hp) (m : Mm) (kvs : List (Key × V)) : Prop where
  nd : (kvs.map (·.1)).Nodup
  keyI : ∀ kv ∈ kvs, ∃ p : Int, kv.1 = .inl p
  gives : ∀ p : Int, OptAt H (m p) (valV kvs (.inl p))
def DcAt (m : Mm) (d : Addr) (H : Hp) : Prop := ∃ kvs, H d = some (.dK kvs) ∧ DcR H m kvs
def setM (m : Mm) (p : Int) (o : Option Mark) : Mm := fun x => if x = p then o else m x
def InN (m : Mm) (n : Int) : Prop := ∀ p k, m p = some k → 0 ≤ p ∧ p < n
def cnt (m : Mm) (n : Nat) : Nat := ((List.range n).filter fun i : Nat => (m (i : Int)).isSome).length
theorem mem_keys {kvs : List (Key × V)} {k : Key} : k ∈ kvs.map (·.1) ↔ (valV kvs k).isSome = true := by
  rw [← valV_any, List.any_eq_true, List.mem_map]
  exact ⟨fun ⟨x, h1, h2⟩ => ⟨x, h1, by simpa using h2⟩, fun ⟨x, h1, h2⟩ => ⟨x, h1, by simpa using h2⟩⟩
theorem valV_drop (k j : Key) : ∀ kvs : List (Key × V), valV (dropK kvs k) j = if j = k then none else valV kvs j
  | [] => by simp [dropK, valV]
  | p :: r => by
    have ih := valV_drop k j r
    by_cases h : p.1 = k
    · have e : dropK (p :: r) k = dropK r k := by simp [dropK, h]
      rw [e, ih]
      by_cases hj : j = k
      · rw [if_pos hj, if_pos hj]
      · rw [if_neg hj, if_neg hj, valV_neg (fun e => hj (by rw [← e, h]))]
    · have e : dropK (p :: r) k = p :: dropK r k := by simp [dropK, h]
      rw [e]
      by_cases hj : p.1 = j
      · rw [valV_pos hj, if_neg (fun e => h (by rw [hj, e])), valV_pos hj]
      · rw [valV_neg hj, ih, valV_neg hj]
theorem OptAt.imp {H H' : Hp} {o : Option Mark} {u : Option V} (i : ∀ k v, MkAt k v H → MkAt k v H') (h : OptAt H o u) : OptAt H' o u := by
  cases o <;> cases u
  · trivial
  · exact h
  · exact h
  · exact i _ _ h
theorem OptAt.some_eq {H : Hp} {o : Option Mark} {u : Option V} (h : OptAt H o u) : o.isSome = u.isSome := by
  cases o <;> cases u
  · rfl
  · exact h.elim
  · exact h.elim
  · rfl
theorem put_keys {kvs : List (Key × V)} {k : Key} {v : V} : (putK kvs k v).map (·.1) = if (valV kvs k).isSome = true then kvs.map (·.1) else kvs.map (·.1) ++ [k] := by
  unfold putK
  by_cases h : (kvs.any fun kv => decide (kv.1 = k)) = true
  · rw [if_pos h, if_pos (by rw [← valV_any]; exact h), List.map_map]
    refine List.map_congr_left fun x _ => ?_
    show (if x.1 = k then (x.1, v) else x).1 = x.1
    split <;> rfl
  · rw [if_neg h, if_neg (fun q => h (by rw [valV_any]; exact q)), List.map_append]
    rfl
theorem DcR.put {H : Hp} {m : Mm} {kvs : List (Key × V)} {p : Int} {k : Mark} {v : V} (h : DcR H m kvs) (hk : MkAt k v H) : DcR H (setM m p (some k)) (putK kvs (.inl p) v) := by
  have hi : ∀ x ∈ kvs.map (·.1), ∃ q : Int, x = .inl q := fun x hx => by
    obtain ⟨kv, h1, rfl⟩ := List.mem_map.mp hx
    exact h.keyI kv h1
  refine ⟨?_, fun kv hkv => ?_, fun q => ?_⟩
  · rw [put_keys]
    by_cases c : (valV kvs (Sum.inl p)).isSome = true
    · rw [if_pos c]; exact h.nd
    · rw [if_neg c]
      refine List.nodup_append.mpr ⟨h.nd, by simp, fun a ha b hb => ?_⟩
      rw [List.mem_singleton.mp hb]
      exact fun e => c (mem_keys.mp (by rw [← e]; exact ha))
  · have hm : kv.1 ∈ (putK kvs (.inl p) v).map (·.1) := List.mem_map.mpr ⟨kv, hkv, rfl⟩
    rw [put_keys] at hm
    by_cases c : (valV kvs (Sum.inl p)).isSome = true
    · rw [if_pos c] at hm; exact hi _ hm
    · rw [if_neg c] at hm
      rcases List.mem_append.mp hm with a | a
      · exact hi _ a
      · exact ⟨p, List.mem_singleton.mp a⟩
  · rw [valV_put]
    unfold setM
    by_cases e : q = p
    · subst e; rw [if_pos rfl, if_pos rfl]; exact hk
    · rw [if_neg e, if_neg (fun x => e (Sum.inl.inj x))]; exact h.gives q
theorem DcR.drop {H : Hp} {m : Mm} {kvs : List (Key × V)} {p : Int} (h : DcR H m kvs) : DcR H (setM m p none) (dropK kvs (.inl p)) := by
  refine ⟨?_, fun kv hkv => h.keyI kv (List.mem_filter.mp hkv).1, fun q => ?_⟩
  · exact h.nd.sublist (List.Sublist.map _ List.filter_sublist)
  · rw [valV_drop]
    unfold setM
    by_cases e : q = p
    · subst e; rw [if_pos rfl, if_pos rfl]; trivial
    · rw [if_neg e, if_neg (fun x => e (Sum.inl.inj x))]; exact h.gives q
theorem len_le {α : Type} [DecidableEq α] : ∀ {l k : List α}, l.Nodup → (∀ x ∈ l, x ∈ k) → l.length ≤ k.length
  | [], _, _, _ => Nat.zero_le _
  | a :: l, k, hn, h => by
    have ha := h a List.mem_cons_self
    have hn' := List.nodup_cons.mp hn
    have ih := len_le (l := l) (k := k.erase a) hn'.2 fun x hx => (List.mem_erase_of_ne (fun e => hn'.1 (by rw [← e]; exact hx))).mpr (h x (List.mem_cons_of_mem _ hx))
    rw [List.length_erase_of_mem ha] at ih
    have : 0 < k.length := List.length_pos_of_mem ha
    simp only [List.length_cons]
    omega
theorem DcR.len {H : Hp} {m : Mm} {kvs : List (Key × V)} {n : Int} (h : DcR H m kvs) (hn : InN m n) : kvs.length = cnt m n.toNat := by
  have e1 : kvs.length = (kvs.map (·.1)).length := by simp
  have e2 : cnt m n.toNat = (((List.range n.toNat).filter fun i : Nat => (m (i : Int)).isSome).map fun i : Nat => (Sum.inl (i : Int) : Key)).length := by simp [cnt]
  have nd2 : (((List.range n.toNat).filter fun i : Nat => (m (i : Int)).isSome).map fun i : Nat => (Sum.inl (i : Int) : Key)).Nodup := by
    refine List.Pairwise.map _ (fun a b (hab : a ≠ b) => ?_) (List.Nodup.sublist List.filter_sublist List.nodup_range)
    intro e
    have := Sum.inl.inj e
    omega
  have sub : ∀ x : Key, x ∈ kvs.map (·.1) ↔ x ∈ ((List.range n.toNat).filter fun i : Nat => (m (i : Int)).isSome).map fun i : Nat => (Sum.inl (i : Int) : Key) := fun x => by
    constructor
    · intro hx
      obtain ⟨kv, h1, rfl⟩ := List.mem_map.mp hx
      obtain ⟨p, hp⟩ := h.keyI kv h1
      rw [mem_keys, hp, ← (h.gives p).some_eq] at hx
      obtain ⟨k, hk⟩ := Option.isSome_iff_exists.mp hx
      have := hn p k hk
      refine List.mem_map.mpr ⟨p.toNat, List.mem_filter.mpr ⟨List.mem_range.mpr (by omega), ?_⟩, ?_⟩
      · show (m ((p.toNat : Nat) : Int)).isSome = true
        rw [show ((p.toNat : Nat) : Int) = p by omega]; exact hx
      · rw [show ((p.toNat : Nat) : Int) = p by omega, hp]
    · intro hx
      obtain ⟨i, h1, rfl⟩ := List.mem_map.mp hx
      rw [mem_keys, ← (h.gives i).some_eq]
      exact (List.mem_filter.mp h1).2
  rw [e1, e2]
  exact Nat.le_antisymm (len_le h.nd fun x hx => (sub x).mp hx) (len_le nd2 fun x hx => (sub x).mpr hx)
theorem cnt_le (m : Mm) (n : Nat) : cnt m n ≤ n := by
  have := List.length_filter_le (fun i : Nat => (m (i : Int)).isSome) (List.range n)
  simpa [cnt] using this
theorem MkAt.xp {k : Mark} {v : V} {d : Addr} {kvs : List (Key × V)} {H H' : Hp} (hd : H d = some (.dK kvs)) (e : ExP d H H') (h : MkAt k v H) : MkAt k v H' := by
  obtain ⟨p, rfl, hp⟩ := h
  refine ⟨p, rfl, e _ _ hp fun q => ?_⟩
  rw [q, hd] at hp
  cases hp
theorem DcR.xp {m : Mm} {d : Addr} {ks kvs : List (Key × V)} {H H' : Hp} (hd : H d = some (.dK ks)) (e : ExP d H H') (h : DcR H m kvs) : DcR H' m kvs := ⟨h.nd, h.keyI, fun p => (h.gives p).imp fun _ _ x => MkAt.xp hd e x⟩
theorem DcAt.ex {m : Mm} {d : Addr} {H H' : Hp} (e : Ex H H') (h : DcAt m d H) : DcAt m d H' := let ⟨kvs, h1, h2⟩ := h; ⟨kvs, e _ _ h1, h2.xp h1 (exp_of e)⟩
theorem exp_upd {d : Addr} {H : Hp} {o : HO} : ExP d H (upd H d o) := fun b u h n => by rw [upd_ne n]; exact h
section
variable {σ : L2.St} {H : Hp} {ta td ty tv : TE} {D : Ends} {m : Mm} {d : Addr} {p n : Int}
theorem et_din (hy : Ev ty σ H (.int p)) (ho : Ev td σ H (.ref d)) (h : DcAt m d H) : EvT (tB (tDIn ty td)) σ H (m p).isSome := fun H1 e Q q =>
  hy H1 e _ fun H2 e2 => ho H2 (e.trans e2) _ fun H3 e3 => let ⟨kvs, hd, hr⟩ := (h.ex (e.trans (e2.trans e3))); ⟨d, valV kvs (.inl p), rfl, .k (k := .inl p) hd, _, rfl, by rw [← (hr.gives p).some_eq]; exact q H3 (e2.trans e3)⟩
theorem et_dnin (hy : Ev ty σ H (.int p)) (ho : Ev td σ H (.ref d)) (h : DcAt m d H) : EvT (tB (tDNotIn ty td)) σ H (!(m p).isSome) := fun H1 e Q q =>
  hy H1 e _ fun H2 e2 => ho H2 (e.trans e2) _ fun H3 e3 => let ⟨kvs, hd, hr⟩ := (h.ex (e.trans (e2.trans e3))); ⟨d, valV kvs (.inl p), rfl, .k (k := .inl p) hd, _, rfl, by rw [← (hr.gives p).some_eq]; exact q H3 (e2.trans e3)⟩
theorem evp_dget {k : Mark} (ho : Ev td σ H (.ref d)) (hy : Ev ty σ H (.int p)) (h : DcAt m d H) (hm : m p = some k) : EvP (tDGet td ty) σ H (MkAt k) := fun H1 e Q q =>
  ho H1 e _ fun H2 e2 => hy H2 (e.trans e2) _ fun H3 e3 => by
    obtain ⟨kvs, hd, hr⟩ := (h.ex (e.trans (e2.trans e3)))
    have hg := hr.gives p
    rw [hm] at hg
    cases hv : valV kvs (.inl p) with
    | none => rw [hv] at hg; exact hg.elim
    | some v =>
      rw [hv] at hg
      exact ⟨d, v, rfl, by rw [← hv]; exact .k (k := .inl p) hd, q v H3 (e2.trans e3) hg⟩
theorem ev_dlen (ho : Ev td σ H (.ref d)) (h : DcAt m d H) (hn : InN m n) : Ev (tCB (fun xs H Q => ∃ a kvs, xs = [V.ref a] ∧ H a = some (.dK kvs) ∧ Q (.int kvs.length) H) (tCons td tNil)) σ H (.int (cnt m n.toNat)) := fun H1 e Q q =>
  ho H1 e _ fun H2 e2 => let ⟨kvs, hd, hr⟩ := (h.ex (e.trans e2)); ⟨d, kvs, rfl, hd, by rw [hr.len hn]; exact q H2 e2⟩
theorem s_dput {k : Mark} (hv : EvP tv σ H (MkAt k)) (ho : Ev td σ H (.ref d)) (hy : Ev ty σ H (.int p)) (h : DcAt m d H) (hn : InN m n) (hz : n ≤ 90000) (kq : ∀ H', ExP d H H' → DcAt (setM m p (some k)) d H' → D.nx σ H') : sDPut td ty tv D σ H :=
  hv H (Ex.refl H) _ fun v H1 e1 hv1 => ho H1 e1 _ fun H2 e2 => hy H2 (e1.trans e2) _ fun H3 e3 => by
    obtain ⟨kvs, hd, hr⟩ := (h.ex (e1.trans (e2.trans e3)))
    have hl := hr.len hn
    have := cnt_le m n.toNat
    refine ⟨d, _, rfl, .k (k := .inl p) hd (Nat.lt_of_le_of_lt (by omega : kvs.length ≤ 90000) (by decide)), kq _ ((exp_of (e1.trans (e2.trans e3))).trans exp_upd) ⟨_, upd_same, ?_⟩⟩
    exact (hr.put (hv1.ex (e2.trans e3))).xp hd exp_upd
theorem s_dpop (ho : Ev td σ H (.ref d)) (hy : Ev ty σ H (.int p)) (h : DcAt m d H) (hm : (m p).isSome = true) (kq : ∀ H', ExP d H H' → DcAt (setM m p none) d H' → D.nx σ H') : tDrop (tDPop1 td ty) D σ H :=
  ho H (Ex.refl H) _ fun H1 e1 => ⟨d, rfl, .inl (let ⟨kvs, hd, _⟩ := h.ex e1; ⟨kvs, .inl hd⟩), hy H1 e1 _ fun H2 e2 => by
    obtain ⟨kvs, hd, hr⟩ := (h.ex (e1.trans e2))
    have hs := (hr.gives p).some_eq
    rw [hm] at hs
    obtain ⟨v, hv⟩ := Option.isSome_iff_exists.mp hs.symm
    exact ⟨kvs, .inl p, v, hd, rfl, hv, kq _ ((exp_of (e1.trans e2)).trans exp_upd) ⟨_, upd_same, hr.drop.xp hd exp_upd⟩⟩⟩
end
end Lp
end
section
set_option Elab.async false
set_option linter.all false
set_option maxRecDepth 100000
set_option maxHeartbeats 8000000
/-! Lp.L6: deeds on the dict. -/
namespace Lp
open PySem PySem.Spec PyProof.Rows L2 Evl
theorem TpAt.xp {xs : List V} {v : V} {d : Addr} {kvs : List (Key × V)} {H H' : Hp} (hd : H d = some (.dK kvs)) (e : ExP d H H') (h : TpAt xs v H) : TpAt xs v H' := by
  obtain ⟨p, rfl, hp⟩ := h
  refine ⟨p, rfl, e _ _ hp fun q => ?_⟩
  rw [q, hd] at hp
  cases hp
def deedM (m : Mm) : Deed → Mm
  | .un a b => fun x => if a ≤ x ∧ x < b then none else m x
  | .as a b r f i => fun x => if a ≤ x ∧ x < b then some (advM (mkOf r f i) (x - a)) else m x
theorem InN.deed {m : Mm} {n : Int} {dd : Deed} (h : InN m n) (hd : DeedOk n dd) : InN (deedM m dd) n := fun p k e => by
  cases dd with
  | un a b =>
    simp only [deedM] at e
    split at e
    · cases e
    · exact h p k e
  | as a b r f i =>
    have h1 : 0 ≤ a ∧ a < b ∧ b ≤ n := ⟨hd.1, hd.2.1, hd.2.2.1⟩
    simp only [deedM] at e
    split at e
    · omega
    · exact h p k e
theorem okMm.deed {m : Mm} {n : Int} {dd : Deed} (h : okMm m) (hd : DeedOk n dd) : okMm (deedM m dd) := fun p k e => by
  cases dd with
  | un a b =>
    simp only [deedM] at e
    split at e
    · cases e
    · exact h p k e
  | as a b r f i =>
    simp only [deedM] at e
    split at e
    · cases e
      exact okM.adv (m := mkOf r f i) ⟨hd.2.2.2.1, hd.2.2.2.2⟩ _
    · exact h p k e
section
variable {P : Program} {w : World} {K : PySem.W.Frag} {mg : PySem.Str → Option Value} {base : Heap}
def spMarksDo : Sp := fun vs H Q _ => ∃ (d : Addr) (v : V) (n : Int) (m : Mm) (dd : Deed), vs = [.ref d, v, .int n] ∧ DcAt m d H ∧ InN m n ∧ n ≤ 4096 ∧ TpAt (dvs dd) v H ∧ DeedOk n dd ∧ ∀ u H', ExP d H H' → DcAt (deedM m dd) d H' → TpAt [.str "gives", .non] u H' → Q u H'
theorem b_marks_do (m_range : mg "range" = none) : Body P w K mg base n_law_marks_do "_law_marks_do" s_law_marks_do 0 spMarksDo := by
  intro f cdv A outer s H vs Q E hr h
  obtain ⟨d, v, n, m, dd, rfl, hd, hn, n4, hv, ok, kq⟩ := h
  refine ⟨_, (pss_cons (ps_set (i := 3) c_law_marks_do.nd rfl (.inl rfl) (pe_ix (r := rIxT K) ix_tup (pv 1) pe_int (fun _ _ => rfl))) (pss_cons (ps_set (i := 4) c_law_marks_do.nd rfl (.inl rfl) (pe_ix (r := rIxT K) ix_tup (pv 1) pe_int (fun _ _ => rfl))) (pss_cut (ps_if (PW.pt (pw_or (pt_cmpR op_lt (pv 3) pe_int (nomark _)) (pw_or (pt_cmpR op_ge (pv 3) (pv 4) (nomark _)) (pw_or1 (pt_cmpR op_gt (pv 4) (pv 2) (nomark _)))))) (pss_one ps_never) pss_nil) (pss_cut (ps_if (pt_cmpR op_eq (pe_ix (r := rIxT K) ix_tup (pv 1) pe_int (fun _ _ => rfl)) pe_str (nomark _)) (pss_one ps_never) pss_nil) (pss_cut (ps_for PassesOwn.never rfl (pi_range2 (by rfl) m_range (pa_cons (pv 3) (pa_cons (pv 4) pa_nil))) (pg_name (i := 5) c_law_marks_do.nd rfl (.inl rfl)) (pss_one (ps_if (pt_cmpR op_eq (pe_ix (r := rIxT K) ix_tup (pv 1) pe_int (fun _ _ => rfl)) pe_str (nomark _)) (pss_one ps_never) (pss_one (ps_if (PW.pt (pw_and (pt_cmpR op_eq (pe_ix (r := rIxT K) ix_tup (pv 1) pe_int (fun _ _ => rfl)) pe_str (nomark _)) (pw_and1 (pt_cmpR op_ne (pe_ix (r := rIxT K) ix_tup (pv 1) pe_int (fun _ _ => rfl)) pe_str (nomark _))))) (pss_one (ps_dput (u1_of hr) (pv 0) (pv 5) (pe_tup (pa_cons (pe_ix (r := rIxT K) ix_tup (pv 1) pe_int (fun _ _ => rfl)) (pa_cons (pe_ix (r := rIxT K) ix_tup (pv 1) pe_int (fun _ _ => rfl)) (pa_cons (pe_op op_sub (pe_op op_add (pe_ix (r := rIxT K) ix_tup (pv 1) pe_int (fun _ _ => rfl)) (pv 5)) (pv 3)) pa_nil)))) (by rfl))) (pss_one (ps_if (pt_cmpR op_eq (pe_ix (r := rIxT K) ix_tup (pv 1) pe_int (fun _ _ => rfl)) pe_str (nomark _)) (pss_one (ps_dput (u1_of hr) (pv 0) (pv 5) (pe_tup (pa_cons (pe_ix (r := rIxT K) ix_tup (pv 1) pe_int (fun _ _ => rfl)) (pa_cons pe_str (pa_cons pe_int pa_nil)))) (by rfl))) (pss_one (ps_if (pt_cmp (pc_din (u1_of hr) (pv 5) (pv 0))) (pss_one (ps_expr (pe_dpop1 (pv 0) (pv 5) ⟨rfl, rfl, rfl, rfl⟩))) pss_nil))))))))) (pss_one (ps_ret (pe_tup (pa_cons pe_str (pa_cons pe_non pa_nil)))))))))), ?_⟩
  obtain ⟨kv0, hd0, _⟩ := id hd
  cases dd with
  | un a b =>
    obtain ⟨a0, ab, bn⟩ := ok
    refine q_asg (ev_ixT (evt_var (v := v) rfl hv) ev_c rfl) fun H1 e1 => q_asg (ev_ixT (evt_var (v := v) rfl (hv.ex e1)) ev_c rfl) fun H2 e2 => ?_
    refine q_cut (M := fun σ' H' => σ' = [some (.ref d), some v, some (.int n), some (.int a), some (.int b), none] ∧ Ex H H') ?_ fun σ' H3 ⟨eσ, e3⟩ => ?_
    · refine s_when (b := false) (et_is (et_or (et_test (ev_op (ev_var rfl) ev_c rv_I0)) fun _ => et_or (et_test (ev_op (ev_var rfl) (ev_var rfl) rv_I0)) fun _ => et_test (ev_op (ev_var rfl) (ev_var rfl) rv_I0)) ?_) (fun h => by cases h) fun _ H3 e3 => ⟨rfl, e1.trans (e2.trans e3)⟩
      simp; omega
    subst eσ
    refine q_cut (M := fun σ' H' => σ' = [some (.ref d), some v, some (.int n), some (.int a), some (.int b), none] ∧ Ex H H') ?_ fun σ' H4 ⟨eσ, e4⟩ => ?_
    · exact s_when (b := false) (et_is (et_test (ev_op (ev_ixT (evt_var (v := v) rfl (hv.ex e3)) ev_c rfl) ev_c (rv_eq rfl))) (by decide +kernel)) (fun h => by cases h) fun _ H4 e4 => ⟨rfl, e3.trans e4⟩
    subst eσ
    refine q_cut (M := fun _ H' => ExP d H H' ∧ DcAt (deedM m (.un a b)) d H') ?_ fun σ' H5 ⟨e5, hd5⟩ => s_retP (eup (eu_tup (ea_cons ev_c (ea_cons ev_c ea_nil)) (by show 2 ≤ 100000; decide))) fun u H6 e6 h6 => kq u H6 (e5.trans (exp_of e6)) (hd5.ex e6) h6
    refine s_forR2 (ea_cons (ev_var rfl) (ea_cons (ev_var rfl) ea_nil)) ⟨a0, by omega, by omega, by omega⟩ (fun j σ' H' => ∃ r5 : Option V, σ' = [some (.ref d), some v, some (.int n), some (.int a), some (.int b), r5] ∧ ExP d H H' ∧ DcAt (deedM m (.un a (a + (j : Int)))) d H') (fun H5 e5 => ⟨none, rfl, exp_of (e4.trans e5), ?_⟩) (fun j σ' H' hj ⟨r5, eσ, ex, hd'⟩ => ?_) fun σ' H' ⟨r5, eσ, ex, hd'⟩ => ⟨ex, ?_⟩
    · have e : deedM m (.un a (a + ((0 : Nat) : Int))) = m := funext fun x => if_neg (by omega)
      rw [e]; exact hd.ex (e4.trans e5)
    · subst eσ
      have hv' := hv.xp hd0 ex
      refine s_if (b := false) (et_is (et_test (ev_op (ev_ixT (evt_var (v := v) rfl hv') ev_c rfl) ev_c (rv_eq rfl))) (by decide +kernel)) (fun h => by cases h) fun _ H5 e5 => ?_
      refine s_if (b := false) (et_is (et_and (b := false) (et_test (ev_op (ev_ixT (evt_var (v := v) rfl (hv'.ex e5)) ev_c rfl) ev_c (rv_eq rfl))) fun h => absurd h (by decide +kernel)) (Bool.and_false _)) (fun h => by cases h) fun _ H6 e6 => ?_
      have e56 := e5.trans e6
      refine s_if (b := false) (et_is (et_test (ev_op (ev_ixT (evt_var (v := v) rfl (hv'.ex e56)) ev_c rfl) ev_c (rv_eq rfl))) (by decide +kernel)) (fun h => by cases h) fun _ H7 e7 => ?_
      have e57 := e56.trans e7
      have em : ∀ x, deedM m (.un a (a + ((j + 1 : Nat) : Int))) x = setM (deedM m (.un a (a + (j : Int)))) (a + (j : Int)) none x := fun x => by
        simp only [deedM, setM]
        split <;> split <;> (try split) <;> first | rfl | omega
      refine s_when (et_din (ev_var rfl) (ev_var rfl) (hd'.ex e57)) (fun hb H8 e8 => ?_) fun hb H8 e8 => ⟨_, rfl, ex.trans (exp_of (e57.trans e8)), ?_⟩
      · refine s_dpop (ev_var rfl) (ev_var rfl) (hd'.ex (e57.trans e8)) hb fun H9 e9 h9 => ⟨_, rfl, ex.trans ((exp_of (e57.trans e8)).trans e9), ?_⟩
        rw [funext em]
        exact h9
      · have : deedM m (.un a (a + ((j + 1 : Nat) : Int))) = deedM m (.un a (a + (j : Int))) := funext fun x => by
          rw [em x]
          unfold setM
          split
          · next h => subst h; exact (Option.isNone_iff_eq_none.mp (by simpa using hb)).symm
          · rfl
        rw [this]
        exact hd'.ex (e57.trans e8)
    · rw [show a + (((b - a).toNat : Nat) : Int) = b by omega] at hd'; exact hd'
  | as a b r fn i =>
    obtain ⟨a0, ab, bn, ro, fo⟩ := ok
    refine q_asg (ev_ixT (evt_var (v := v) rfl hv) ev_c rfl) fun H1 e1 => q_asg (ev_ixT (evt_var (v := v) rfl (hv.ex e1)) ev_c rfl) fun H2 e2 => ?_
    refine q_cut (M := fun σ' H' => σ' = [some (.ref d), some v, some (.int n), some (.int a), some (.int b), none] ∧ Ex H H') ?_ fun σ' H3 ⟨eσ, e3⟩ => ?_
    · refine s_when (b := false) (et_is (et_or (et_test (ev_op (ev_var rfl) ev_c rv_I0)) fun _ => et_or (et_test (ev_op (ev_var rfl) (ev_var rfl) rv_I0)) fun _ => et_test (ev_op (ev_var rfl) (ev_var rfl) rv_I0)) ?_) (fun h => by cases h) fun _ H3 e3 => ⟨rfl, e1.trans (e2.trans e3)⟩
      simp; omega
    subst eσ
    refine q_cut (M := fun σ' H' => σ' = [some (.ref d), some v, some (.int n), some (.int a), some (.int b), none] ∧ Ex H H') ?_ fun σ' H4 ⟨eσ, e4⟩ => ?_
    · exact s_when (b := false) (et_is (et_test (ev_op (ev_ixT (evt_var (v := v) rfl (hv.ex e3)) ev_c rfl) ev_c (rv_eq rfl))) (by decide +kernel)) (fun h => by cases h) fun _ H4 e4 => ⟨rfl, e3.trans e4⟩
    subst eσ
    refine q_cut (M := fun _ H' => ExP d H H' ∧ DcAt (deedM m (.as a b r fn i)) d H') ?_ fun σ' H5 ⟨e5, hd5⟩ => s_retP (eup (eu_tup (ea_cons ev_c (ea_cons ev_c ea_nil)) (by show 2 ≤ 100000; decide))) fun u H6 e6 h6 => kq u H6 (e5.trans (exp_of e6)) (hd5.ex e6) h6
    refine s_forR2 (ea_cons (ev_var rfl) (ea_cons (ev_var rfl) ea_nil)) ⟨a0, by omega, by omega, by omega⟩ (fun j σ' H' => ∃ r5 : Option V, σ' = [some (.ref d), some v, some (.int n), some (.int a), some (.int b), r5] ∧ ExP d H H' ∧ DcAt (deedM m (.as a (a + (j : Int)) r fn i)) d H') (fun H5 e5 => ⟨none, rfl, exp_of (e4.trans e5), ?_⟩) (fun j σ' H' hj ⟨r5, eσ, ex, hd'⟩ => ?_) fun σ' H' ⟨r5, eσ, ex, hd'⟩ => ⟨ex, ?_⟩
    · have e : deedM m (.as a (a + ((0 : Nat) : Int)) r fn i) = m := funext fun x => if_neg (by omega)
      rw [e]; exact hd.ex (e4.trans e5)
    · subst eσ
      have hv' := hv.xp hd0 ex
      have em : ∀ x, deedM m (.as a (a + ((j + 1 : Nat) : Int)) r fn i) x = setM (deedM m (.as a (a + (j : Int)) r fn i)) (a + (j : Int)) (some (advM (mkOf r fn i) (j : Int))) x := fun x => by
        simp only [deedM, setM]
        split <;> split <;> (try split) <;> first | rfl | omega | skip
        · next h => subst h; rw [show a + (j : Int) - a = (j : Int) by omega]
      have hin : InN (deedM m (.as a (a + (j : Int)) r fn i)) n := fun p k e => by
        simp only [deedM] at e
        split at e
        · omega
        · exact hn p k e
      refine s_if (b := false) (et_is (et_test (ev_op (ev_ixT (evt_var (v := v) rfl hv') ev_c rfl) ev_c (rv_eq rfl))) (by decide +kernel)) (fun h => by cases h) fun _ H5 e5 => ?_
      refine s_if (b := !decide (V.str fn = V.str "")) (et_is (et_and (et_test (ev_op (ev_ixT (evt_var (v := v) rfl (hv'.ex e5)) ev_c rfl) ev_c (rv_eq rfl))) fun _ => et_test (ev_op (ev_ixT (evt_var (v := v) rfl (hv'.ex e5)) ev_c rfl) ev_c (rv_ne rfl))) ?_) (fun hb H6 e6 => ?_) fun hb H6 e6 => ?_
      · rw [show (decide (V.str "assign" = V.str "assign")) = true by simp, Bool.true_and]
      · have hv6 := hv'.ex (e5.trans e6)
        have hf : ¬ fn = ("" : PySem.Str) := by simpa using hb
        have ek : advM (mkOf r fn i) (j : Int) = ⟨r, fn, i + (a + (j : Int)) - a⟩ := by
          unfold advM mkOf
          rw [if_neg hf]
          simp only [if_neg hf, Mark.mk.injEq, true_and]
          omega
        refine s_dput (k := advM (mkOf r fn i) (j : Int)) ?_ (ev_var rfl) (ev_var rfl) (hd'.ex (e5.trans e6)) hin (by omega) fun H9 e9 h9 => ⟨_, rfl, ex.trans ((exp_of (e5.trans e6)).trans e9), ?_⟩
        · rw [ek]
          exact eup (eu_tup (ea_cons (ev_ixT (evt_var (v := v) rfl hv6) ev_c rfl) (ea_cons (ev_ixT (evt_var (v := v) rfl hv6) ev_c rfl) (ea_cons (ev_op (ev_op (ev_ixT (evt_var (v := v) rfl hv6) ev_c rfl) (ev_var rfl) rv_I0) (ev_var rfl) rv_I0) ea_nil))) (by show 3 ≤ 100000; decide))
        · rw [funext em]; exact h9
      · have hf : fn = ("" : PySem.Str) := by simpa using hb
        refine s_if (b := true) (et_is (et_test (ev_op (ev_ixT (evt_var (v := v) rfl (hv'.ex (e5.trans e6))) ev_c rfl) ev_c (rv_eq rfl))) (by decide +kernel)) (fun _ H7 e7 => ?_) fun h => by cases h
        have e57 := e5.trans (e6.trans e7)
        have hv6 := hv'.ex e57
        have ek : advM (mkOf r fn i) (j : Int) = ⟨r, "", 0⟩ := by
          unfold advM mkOf
          rw [if_pos hf, hf]
          rfl
        refine s_dput (k := advM (mkOf r fn i) (j : Int)) ?_ (ev_var rfl) (ev_var rfl) (hd'.ex e57) hin (by omega) fun H9 e9 h9 => ⟨_, rfl, ex.trans ((exp_of e57).trans e9), ?_⟩
        · rw [ek]
          exact eup (eu_tup (ea_cons (ev_ixT (evt_var (v := v) rfl hv6) ev_c rfl) (ea_cons ev_c (ea_cons ev_c ea_nil))) (by show 3 ≤ 100000; decide))
        · rw [funext em]; exact h9
    · rw [show a + (((b - a).toNat : Nat) : Int) = b by omega] at hd'; exact hd'
end
end Lp
end
section
set_option Elab.async false
set_option linter.all false
set_option maxRecDepth 100000
set_option maxHeartbeats 8000000
/-! Lp.L7: the law looks at marks. -/
namespace Lp
open PySem PySem.Spec PyProof.Rows L2 Evl
def stepU (m : Mm) (lo : Int) (i : Nat) : Bool := (m (lo + i)).isSome && (decide (i = 0) || decide (m (lo + i) = (m (lo + i - 1)).map (advM · 1)))
def unifB (m : Mm) (lo hi : Int) : Bool := (List.range (hi - lo).toNat).all (stepU m lo)
theorem unif_eq {m : Mm} {lo sp : Int} (h : 1 ≤ sp) : unifB m lo (lo + sp) = uniB m lo sp := by
  rw [Bool.eq_iff_iff, uniB_iff, unifB, List.all_eq_true, show lo + sp - lo = sp by omega]
  constructor
  · intro a
    have h0 := a 0 (List.mem_range.mpr (by omega))
    obtain ⟨k, hk⟩ := Option.isSome_iff_exists.mp (Bool.and_eq_true_iff.mp h0).1
    rw [show lo + ((0 : Nat) : Int) = lo by omega] at hk
    refine ⟨k, hk, fun x h1 h2 => ?_⟩
    have key : ∀ i : Nat, (i : Int) < sp → m (lo + i) = some (advM k i) := fun i => by
      induction i with
      | zero => intro _; rw [show lo + ((0 : Nat) : Int) = lo by omega, hk]; congr 1; exact (advM_zero k).symm
      | succ i ih =>
        intro hi
        have hs := a (i + 1) (List.mem_range.mpr (by omega))
        have h3 := (Bool.and_eq_true_iff.mp hs).2
        rw [show decide (i + 1 = 0) = false by simp, Bool.false_or] at h3
        have h4 := of_decide_eq_true h3
        rw [show lo + ((i + 1 : Nat) : Int) - 1 = lo + (i : Int) by omega, ih (by omega)] at h4
        rw [h4]
        show some (advM (advM k i) 1) = _
        rw [advM_add]
        rfl
    have := key (x - lo).toNat (by omega)
    rw [show (((x - lo).toNat : Nat) : Int) = x - lo by omega, show lo + (x - lo) = x by omega] at this
    exact this
  · rintro ⟨k, hk, h1⟩ i hi
    have hi' : (i : Int) < sp := by have := List.mem_range.mp hi; omega
    unfold stepU
    have e1 := h1 (lo + i) (by omega) (by omega)
    rw [e1]
    cases i with
    | zero => rfl
    | succ i =>
      rw [h1 (lo + ((i + 1 : Nat) : Int) - 1) (by omega) (by omega)]
      simp only [Option.isSome_some, Bool.true_and, Option.map_some]
      have e3 : advM (advM k (lo + ((i + 1 : Nat) : Int) - 1 - lo)) 1 = advM k (lo + ((i + 1 : Nat) : Int) - lo) := by
        rw [advM_add]
        congr 1
        omega
      rw [decide_eq_true (show some (advM k (lo + ((i + 1 : Nat) : Int) - lo)) = some (advM (advM k (lo + ((i + 1 : Nat) : Int) - 1 - lo)) 1) by rw [e3]), Bool.or_true]
def cntI (m : Mm) (lo : Int) (n : Nat) : Nat := ((List.range n).filter fun i : Nat => (m (lo + (i : Int))).isSome).length
theorem cntI_zero (m : Mm) (n : Nat) : cntI m 0 n = cnt m n := by simp [cntI, cnt]
theorem cntI_add (m : Mm) (lo : Int) (a b : Nat) : cntI m lo (a + b) = cntI m lo a + cntI m (lo + a) b := by
  unfold cntI
  rw [List.range_add, List.filter_append, List.length_append, List.filter_map, List.length_map]
  congr 3
  funext i
  simp only [Function.comp]
  rw [show lo + ((a + i : Nat) : Int) = lo + (a : Int) + (i : Int) by omega]
theorem cntI_none {m : Mm} {lo : Int} {n : Nat} (h : ∀ x, lo ≤ x → x < lo + n → m x = none) : cntI m lo n = 0 := by
  unfold cntI
  rw [List.filter_eq_nil_iff.mpr fun i hi => ?_]
  · rfl
  · have := List.mem_range.mp hi
    rw [h _ (by omega) (by omega)]
    simp
theorem cntI_some {m : Mm} {lo : Int} {n : Nat} (h : ∀ x, lo ≤ x → x < lo + n → (m x).isSome = true) : cntI m lo n = n := by
  unfold cntI
  rw [List.filter_eq_self.mpr fun i hi => ?_, List.length_range]
  have := List.mem_range.mp hi
  exact h _ (by omega) (by omega)
def totR : List Row → Int
  | [] => 0
  | r :: rs => (r.e - r.s) + totR rs
theorem desc_tot {m : Mm} {rs : List Row} : ∀ {lo hi : Int}, Desc m lo hi rs → totR rs = (cntI m lo (hi - lo).toNat : Int) := by
  induction rs with
  | nil =>
    intro lo hi h
    rw [cntI_none fun x h1 h2 => h.2 x h1 (by have := h.1; omega)]
    rfl
  | cons r rs ih =>
    intro lo hi ⟨h1, h2, h3, h4, h5, h6⟩
    rw [show (hi - lo).toNat = (r.s - lo).toNat + ((r.e - r.s).toNat + (hi - r.e).toNat) by omega, cntI_add, cntI_add, cntI_none fun x a b => h4 x a (by omega), cntI_some fun x a b => ?_]
    · show r.e - r.s + totR rs = _
      rw [ih h6, show lo + ((r.s - lo).toNat : Int) + ((r.e - r.s).toNat : Int) = r.e by omega]
      omega
    · rw [h5 x (by omega) (by omega)]; rfl
section
variable {P : Program} {w : World} {K : PySem.W.Frag} {mg : PySem.Str → Option Value} {base : Heap}
def spAfter : Sp := fun vs H Q _ => ∃ v m, vs = [v] ∧ MkAt m v H ∧ ∀ v' H', Ex H H' → MkAt (advM m 1) v' H' → Q v' H'
theorem b_after : Body P w K mg base n_law_after "_law_after" s_law_after 0 spAfter := by
  intro f cdv A outer s H vs Q E hr h
  obtain ⟨v, m, rfl, hm, kq⟩ := h
  refine ⟨_, (pss_cons (ps_if (pt_cmpR op_eq (pe_ix (r := rIxT K) ix_tup (pv 0) pe_int (fun _ _ => rfl)) pe_str (nomark _)) (pss_one (ps_ret (pv 0))) pss_nil) (pss_one (ps_ret (pe_tup (pa_cons (pe_ix (r := rIxT K) ix_tup (pv 0) pe_int (fun _ _ => rfl)) (pa_cons (pe_ix (r := rIxT K) ix_tup (pv 0) pe_int (fun _ _ => rfl)) (pa_cons (pe_op op_add (pe_ix (r := rIxT K) ix_tup (pv 0) pe_int (fun _ _ => rfl)) pe_int) pa_nil))))))), ?_⟩
  refine q_when (et_test (ev_op (ev_ixT (evt_var (v := v) rfl hm) ev_c rfl) ev_c (rv_eq rfl))) (fun hb H1 e => s_ret (ev_var rfl) fun H2 e2 => ?_) (fun hb H1 e => s_retP (eup (eu_tup (ea_cons (ev_ixT (evt_var (v := v) rfl (hm.ex e)) ev_c rfl) (ea_cons (ev_ixT (evt_var (v := v) rfl (hm.ex e)) ev_c rfl) (ea_cons (ev_op (ev_ixT (evt_var (v := v) rfl (hm.ex e)) ev_c rfl) ev_c rv_I0) ea_nil))) (by show 3 ≤ 100000; decide))) fun v' H2 e2 h2 => ?_)
  · refine kq _ H2 (e.trans e2) ?_
    have hf : m.f = ("" : PySem.Str) := by simpa using hb
    rw [advM, if_pos hf]
    exact hm.ex (e.trans e2)
  · refine kq _ H2 (e.trans e2) ?_
    have hf : ¬ m.f = ("" : PySem.Str) := by simpa using hb
    rw [advM, if_neg hf]
    exact h2
theorem ev_after {ta : TE} {σ : L2.St} {H : Hp} {m : Mark} {E : XK} (ha : EvP ta σ H (MkAt m)) : EvP (tCall spAfter [] E (tCons ta tNil)) σ H (MkAt (advM m 1)) :=
  evp_call (eap_cons ha eap_nil fun _ _ _ e h => h.ex e) fun vs H1 _ ⟨v, ws, e1, hv, e3⟩ Q q => ⟨v, m, by rw [e1, e3], hv, q⟩
theorem et_neM {ta tb : TE} {σ : L2.St} {H : Hp} {a b : Mark} (ha : EvP ta σ H (MkAt a)) (hb : EvP tb σ H (MkAt b)) (oa : okM a) (ob : okM b) : EvT (tTest (tOp (rNeD K) ta tb)) σ H (!decide (a = b)) :=
  et_test (ev_is (et_neD ha hb (fun _ _ _ e h => h.ex e) (fun _ _ h => dp_mk h) (fun _ _ h => dp_mk h) (shaped_mk oa) (shaped_mk ob)) (by rw [eqv_mk]))
def spUniform : Sp := fun vs H Q _ => ∃ (d : Addr) (lo hi : Int) (m : Mm), vs = [.ref d, .int lo, .int hi] ∧ DcAt m d H ∧ okMm m ∧ 0 ≤ lo ∧ lo ≤ hi ∧ hi ≤ 90000 ∧ RetV (.bl (unifB m lo hi)) H Q
theorem b_uniform (m_range : mg "range" = none) (d_law_after : Cl P w K mg base 1 "_law_after" spAfter) : Body P w K mg base n_law_uniform "_law_uniform" s_law_uniform 1 spUniform := by
  intro f cdv A outer s H vs Q E hr h
  obtain ⟨d, lo, hi, m, rfl, hd, ok, l0, l1, l2, kq⟩ := h
  refine ⟨_, (pss_cons (ps_for PassesOwn.never rfl (pi_range2 (by rfl) m_range (pa_cons (pv 1) (pa_cons (pv 2) pa_nil))) (pg_name (i := 3) c_law_uniform.nd rfl (.inl rfl)) (pss_one (ps_if (PW.pt (pw_or (pt_cmp (pc_dnotin (u1_of hr) (pv 3) (pv 0))) (pw_or1 (PW.pt (pw_and (pt_cmpR op_gt (pv 3) (pv 1) (nomark _)) (pw_and1 (pt_cmpR (r := rNeD K) (op_neD hr.units) (pe_dget (u1_of hr) (pv 0) (pv 3) (fun _ _ => rfl)) (pc d_law_after hr (by omega) (by rfl) (pa_cons (pe_dget (u1_of hr) (pv 0) (pe_op op_sub (pv 3) pe_int) (fun _ _ => rfl)) pa_nil)) (nomark _)))))))) (pss_one (ps_ret pe_bl)) pss_nil))) (pss_one (ps_ret pe_bl))), ?_⟩
  refine q_forR2 (ea_cons (ev_var rfl) (ea_cons (ev_var rfl) ea_nil)) ⟨l0, by omega, by omega, by omega⟩ (fun i σ' H' => ∃ r3 : Option V, σ' = [some (.ref d), some (.int lo), some (.int hi), r3] ∧ Ex H H' ∧ ∀ j < i, stepU m lo j = true) (fun H1 e1 => ⟨none, rfl, e1, fun j hj => absurd hj (Nat.not_lt_zero _)⟩) (fun i σ' H' hi' ⟨r3, eσ, ex, hall⟩ => ?_) fun σ' H' ⟨r3, eσ, ex, hall⟩ => ?_
  · subst eσ
    have hd' := hd.ex ex
    refine s_when (b := !stepU m lo i) (et_is (et_or (a := !(m (lo + i)).isSome) (b := !(decide (i = 0) || decide (m (lo + i) = (m (lo + i - 1)).map (advM · 1)))) (et_dnin (ev_var rfl) (ev_var rfl) hd') fun hs => ?_) (by unfold stepU; rw [Bool.not_and])) (fun hb H1 e1 => s_ret ev_c fun H2 e2 => ?_) fun hb H1 e1 => ⟨_, rfl, ex.trans e1, fun j hj => ?_⟩
    · obtain ⟨k, hk⟩ := Option.isSome_iff_exists.mp (by simpa using hs : (m (lo + i)).isSome = true)
      cases i with
      | zero =>
        refine et_is (et_and (a := false) (b := false) (et_is (et_test (ev_op (ev_var rfl) (ev_var rfl) rv_I0)) (by simp)) fun h => by cases h) (by simp)
      | succ i =>
        have hp := hall i (Nat.lt_succ_self _)
        obtain ⟨k0, hk0⟩ := Option.isSome_iff_exists.mp (Bool.and_eq_true_iff.mp hp).1
        have e0 : lo + ((i + 1 : Nat) : Int) - 1 = lo + (i : Int) := by omega
        refine et_is (et_and (a := true) (b := !decide (k = advM k0 1)) (et_is (et_test (ev_op (ev_var rfl) (ev_var rfl) rv_I0)) (by simp; omega)) fun _ => et_neM (evp_dget (ev_var rfl) (ev_var rfl) hd' hk) (ev_after (evp_dget (ev_var rfl) (ev_is (ev_op (ev_var rfl) ev_c rv_I0) (by rw [e0])) hd' hk0)) (ok _ _ hk) ((ok _ _ hk0).adv 1)) ?_
        rw [e0, hk, hk0]
        simp
    · have : unifB m lo hi = false := by
        unfold unifB
        rw [List.all_eq_false]
        exact ⟨i, List.mem_range.mpr (by omega), by simpa using hb⟩
      rw [← this]
      exact kq H2 (ex.trans (e1.trans e2))
    · rcases Nat.lt_succ_iff_lt_or_eq.mp hj with h | h
      · exact hall j h
      · subst h; simpa using hb
  · refine s_ret (v := .bl (unifB m lo hi)) (ev_is ev_c ?_) fun H2 e2 => kq H2 (ex.trans e2)
    have : unifB m lo hi = true := List.all_eq_true.mpr fun j hj => hall j (List.mem_range.mp hj)
    rw [this]
theorem ev_sameM {ta tb : TE} {σ : L2.St} {H : Hp} {m : Mark} {E : XK} (ha : EvP ta σ H (MkAt m)) (hb : EvP tb σ H (MkAt m)) : Ev (tCall (spSame 2) [] E (tCons ta (tCons tb tNil))) σ H (.bl true) :=
  ev_callV (eap_cons ha (eap_cons hb eap_nil fun _ _ _ e h => h.ex e) fun _ _ _ e h => h.ex e) fun vs H1 _ ⟨v, ws, e1, ⟨p, ep, hp⟩, u, us, e2, ⟨q, eq, hq⟩, e3⟩ Q k => ⟨v, u, by rw [e1, e2, e3], .inr (.inr (.inr ⟨p, q, mv m, ep, eq, hp, hq, by show 3 ≤ 10; decide, fun x hx => by
    rcases List.mem_cons.mp hx with h | hx
    · exact .inr (.inl ⟨_, h, h⟩)
    rcases List.mem_cons.mp hx with h | hx
    · exact .inr (.inl ⟨_, h, h⟩)
    rw [List.mem_singleton.mp hx]
    exact .inl ⟨_, rfl, rfl⟩⟩)), k⟩
theorem ev_whole {ta : TE} {σ : L2.St} {H : Hp} {i : Int} {E : XK} (ha : Ev ta σ H (.int i)) : Ev (tCall spWhole [] E (tCons ta tNil)) σ H (.bl true) := ev_callV (eap (ea_cons ha ea_nil)) fun vs H1 _ e Q q => ⟨i, e, q⟩
def spDescribes : Sp := fun vs H Q _ => ∃ (v : V) (d : Addr) (n : Int) (m : Mm) (rs : List Row), vs = [v, .ref d, .int n] ∧ LrAt rs v H ∧ DcAt m d H ∧ InN m n ∧ okMm m ∧ 0 ≤ n ∧ n ≤ 4096 ∧ Desc m 0 n rs ∧ RetV (.bl true) H Q
theorem b_describes (m_isinstance : mg "isinstance" = none) (m_list : mg "list" = none) (m_tuple : mg "tuple" = none) (m_len : mg "len" = none) (m_min : mg "min" = none) (m_range : mg "range" = none) (d_law_is_whole : Cl P w K mg base 1 "_law_is_whole" spWhole) (d_law_after : Cl P w K mg base 1 "_law_after" spAfter) (d_law_same : Cl P w K mg base 3 "_law_same" (spSame 2)) : Body P w K mg base n_law_describes "_law_describes" s_law_describes 3 spDescribes := by
  intro f cdv A outer s H vs Q E hr h
  obtain ⟨v, d, n, m, rs, rfl, hl, hd, hn, ok, n0, n4, ds, kq⟩ := h
  obtain ⟨a, us, rfl, ha, hus⟩ := id hl
  refine ⟨_, (pss_cons (ps_if (pt_not (pt_val (pe_callB (r := rIsi K) call_isi (by rfl) m_isinstance boot_isinstance (pa_cons (pv 0) (pa_cons (pe_bltn (by rfl) m_list boot_list (v := .ty "list") rfl) pa_nil))))) (pss_one (ps_ret pe_bl)) pss_nil) (pss_cons (ps_set (i := 3) c_law_describes.nd rfl (.inl rfl) pe_int) (pss_cons (ps_set (i := 4) c_law_describes.nd rfl (.inl rfl) pe_int) (pss_cons (ps_for PassesOwn.never rfl (pi_list (pv 0)) (pg_name (i := 5) c_law_describes.nd rfl (.inl rfl)) (pss_cons (ps_if (PW.pt (pw_or (pt_not (pt_val (pe_callB (r := rIsi K) call_isi (by rfl) m_isinstance boot_isinstance (pa_cons (pv 5) (pa_cons (pe_bltn (by rfl) m_tuple boot_tuple (v := .ty "tuple") rfl) pa_nil))))) (pw_or1 (pt_cmpR op_ne (pe_callB call_len_seq (by rfl) m_len boot_len (pa_cons (pv 5) pa_nil)) pe_int (nomark _))))) (pss_one (ps_ret pe_bl)) pss_nil) (pss_cons (ps_if (PW.pt (pw_or (pt_not (pt_val (pc d_law_is_whole hr (by omega) (by rfl) (pa_cons (pe_ix (r := rIxT K) ix_tup (pv 5) pe_int (fun _ _ => rfl)) pa_nil)))) (pw_or (pt_not (pt_val (pc d_law_is_whole hr (by omega) (by rfl) (pa_cons (pe_ix (r := rIxT K) ix_tup (pv 5) pe_int (fun _ _ => rfl)) pa_nil)))) (pw_or1 (pt_not (pt_chain3 op_le op_lt op_le (pv 4) (pe_ix (r := rIxT K) ix_tup (pv 5) pe_int (fun _ _ => rfl)) (pe_ix (r := rIxT K) ix_tup (pv 5) pe_int (fun _ _ => rfl)) (pv 2))))))) (pss_one (ps_ret pe_bl)) pss_nil) (pss_cons (ps_set (i := 4) c_law_describes.nd rfl (.inl rfl) (pe_ix (r := rIxT K) ix_tup (pv 5) pe_int (fun _ _ => rfl))) (pss_cons (ps_set (i := 3) c_law_describes.nd rfl (.inl rfl) (pe_op op_sub (pe_op op_add (pv 3) (pe_ix (r := rIxT K) ix_tup (pv 5) pe_int (fun _ _ => rfl))) (pe_ix (r := rIxT K) ix_tup (pv 5) pe_int (fun _ _ => rfl)))) (pss_cons (ps_set (i := 6) c_law_describes.nd rfl (.inl rfl) (pe_tup (pa_cons (pe_ix (r := rIxT K) ix_tup (pv 5) pe_int (fun _ _ => rfl)) (pa_cons (pe_ix (r := rIxT K) ix_tup (pv 5) pe_int (fun _ _ => rfl)) (pa_cons (pe_ix (r := rIxT K) ix_tup (pv 5) pe_int (fun _ _ => rfl)) pa_nil))))) (pss_cons (ps_if (PW.pt (pw_or (pt_cmp (pc_dnotin (u1_of hr) (pe_ix (r := rIxT K) ix_tup (pv 5) pe_int (fun _ _ => rfl)) (pv 1))) (pw_or1 (pt_not (pt_val (pc d_law_same hr (by omega) (by rfl) (pa_cons (pv 6) (pa_cons (pe_dget (u1_of hr) (pv 1) (pe_ix (r := rIxT K) ix_tup (pv 5) pe_int (fun _ _ => rfl)) (fun _ _ => rfl)) pa_nil)))))))) (pss_one (ps_ret pe_bl)) pss_nil) (pss_one (ps_for PassesOwn.never rfl (pi_range2 (by rfl) m_range (pa_cons (pe_ix (r := rIxT K) ix_tup (pv 5) pe_int (fun _ _ => rfl)) (pa_cons (pe_callB (call_min2 rfl) (by rfl) m_min boot_min (pa_cons (pe_ix (r := rIxT K) ix_tup (pv 5) pe_int (fun _ _ => rfl)) (pa_cons (pe_op op_add (pe_op op_add (pe_ix (r := rIxT K) ix_tup (pv 5) pe_int (fun _ _ => rfl)) (pe_callB call_lenD (by rfl) m_len boot_len (pa_cons (pv 1) pa_nil))) pe_int) pa_nil))) pa_nil))) (pg_name (i := 7) c_law_describes.nd rfl (.inl rfl)) (pss_cons (ps_if (PW.pt (pw_or (pt_cmp (pc_dnotin (u1_of hr) (pv 7) (pv 1))) (pw_or1 (pt_cmpR (r := rNeD K) (op_neD hr.units) (pv 6) (pe_dget (u1_of hr) (pv 1) (pv 7) (fun _ _ => rfl)) (nomark _))))) (pss_one (ps_ret pe_bl)) pss_nil) (pss_one (ps_set (i := 6) c_law_describes.nd rfl (.inl rfl) (pc d_law_after hr (by omega) (by rfl) (pa_cons (pv 6) pa_nil)))))))))))))) (pss_one (ps_ret (pe_cmpR op_eq (pv 3) (pe_callB call_lenD (by rfl) m_len boot_len (pa_cons (pv 1) pa_nil)) (nomark _)))))))), ?_⟩
  refine q_when (b := false) (et_not (a := true) (et_B (ev_isi (ev_var rfl) ev_c (fun _ e => .base (.lst (e _ _ ha))) (kit_ty (by decide +kernel))))) (fun h => by cases h) fun _ H1 e1 => ?_
  refine q_asg ev_c fun H2 e2 => q_asg ev_c fun H3 e3 => ?_
  have e13 := e1.trans (e2.trans e3)
  have hlen := hus.length
  refine q_forLn (ev_var rfl) (sq_of (e13 _ _ ha)) (fun i σ' H' => ∃ (found edge : Int) (r5 r6 r7 : Option V), σ' = [some (.ref a), some (.ref d), some (.int n), some (.int found), some (.int edge), r5, r6, r7] ∧ Ex H H' ∧ 0 ≤ edge ∧ Desc m edge n (rs.drop i) ∧ found + totR (rs.drop i) = (cnt m n.toNat : Int))
    (fun H4 e4 => ⟨0, 0, none, none, none, rfl, e13.trans e4, Int.le_refl _, ds, by rw [List.drop_zero, desc_tot ds, Int.zero_add, Int.sub_zero, cntI_zero]⟩) (fun i σ' H' hi ⟨_, _, _, _, _, _, ex, _⟩ => sq_of (ex _ _ ha)) (fun i x σ' H' hx ⟨found, edge, r5, r6, r7, eσ, ex, g0, ds', ft⟩ => ?_) fun σ' H' ⟨found, edge, r5, r6, r7, eσ, ex, g0, ds', ft⟩ => ?_
  · subst eσ
    obtain ⟨r, hr', hx0⟩ := hus.at hx
    rw [drop_at hr'] at ds' ft
    obtain ⟨c1, c2, c3, c4, c5, c6⟩ := ds'
    have hxx : TpAt (rv r) x H' := TpAt.ex ex hx0
    obtain ⟨px, rfl, hpx⟩ := id hxx
    have hd' := hd.ex ex
    refine q_when (b := false) (et_is (et_or (a := false) (b := false) (et_not (a := true) (et_B (ev_isi (ev_var rfl) ev_c (fun _ e => .base (.tup (e _ _ hpx))) (kit_ty (by decide +kernel))))) fun _ => et_is (et_test (ev_op (ev_lenT (ev_var rfl) (st_of hpx)) ev_c (rv_ne rfl))) (by simp [rv])) rfl) (fun h => by cases h) fun _ H4 e4 => ?_
    have hx4 := hxx.ex e4
    refine q_when (b := false) (et_is (et_or (a := false) (b := false) (et_not (a := true) (et_B (ev_whole (ev_ixT (evt_var rfl hx4) ev_c rfl)))) fun _ => et_is (et_or (a := false) (b := false) (et_not (a := true) (et_B (ev_whole (ev_ixT (evt_var rfl hx4) ev_c rfl)))) fun _ => et_is (et_not (et_chain3 (ev_var rfl) (ev_ixT (evt_var rfl hx4) ev_c rfl) (ev_ixT (evt_var rfl hx4) ev_c rfl) (ev_var rfl))) ?_) rfl) rfl) (fun h => by cases h) fun _ H5 e5 => ?_
    · simp [c1, c2, c3]
    have e45 := e4.trans e5
    have hx5 := hxx.ex e45
    refine q_asg (ev_ixT (evt_var rfl hx5) ev_c rfl) fun H6 e6 => ?_
    have e46 := e45.trans e6
    refine q_asg (ev_op (ev_op (ev_var rfl) (ev_ixT (evt_var rfl (hxx.ex e46)) ev_c rfl) rv_I0) (ev_ixT (evt_var rfl (hxx.ex e46)) ev_c rfl) rv_I0) fun H7 e7 => ?_
    have e47 := e46.trans e7
    have hx7 := hxx.ex e47
    refine q_asgP (P := MkAt r.m) (eup (eu_tup (ea_cons (ev_ixT (evt_var rfl hx7) ev_c rfl) (ea_cons (ev_ixT (evt_var rfl hx7) ev_c rfl) (ea_cons (ev_ixT (evt_var rfl hx7) ev_c rfl) ea_nil))) (by show 3 ≤ 100000; decide))) fun mv1 H8 e8 hm8 => ?_
    have e48 := e47.trans e8
    have hm0 : m r.s = some r.m := by rw [c5 r.s (Int.le_refl _) c2, Int.sub_self, advM_zero]
    have hx8 := hxx.ex e48
    refine q_when (b := false) (et_is (et_or (a := false) (b := false) (et_is (et_dnin (p := r.s) (ev_ixT (evt_var rfl hx8) ev_c rfl) (ev_var rfl) (hd'.ex e48)) (by rw [hm0]; rfl)) fun _ => et_not (a := true) (et_B (ev_sameM (evt_var rfl hm8) (evp_dget (ev_var rfl) (ev_ixT (evt_var rfl hx8) ev_c rfl) (hd'.ex e48) hm0)))) rfl) (fun h => by cases h) fun _ H9 e9 => ?_
    have e49 := e48.trans e9
    have hx9 := hxx.ex e49
    have hmn := mn_eq r.e (r.s + (cnt m n.toNat : Int) + 1)
    have hcl := cnt_le m n.toNat
    refine s_forR2 (ea_cons (ev_ixT (evt_var rfl hx9) ev_c rfl) (ea_cons (ev_min2 (ev_ixT (evt_var rfl hx9) ev_c rfl) (ev_op (ev_op (ev_ixT (evt_var rfl hx9) ev_c rfl) (ev_dlen (ev_var rfl) (hd'.ex e49) hn) rv_I0) ev_c rv_I0)) ea_nil)) ⟨by show 0 ≤ r.s; omega, by show r.s ≤ 100000; omega, by omega, by omega⟩
      (fun j σ' H' => ∃ (r7 : Option V) (mw : V), σ' = [some (.ref a), some (.ref d), some (.int n), some (.int (found + r.e - r.s)), some (.int r.e), some (.ref px), some mw, r7] ∧ Ex H H' ∧ MkAt (advM r.m j) mw H') (fun H10 e10 => ⟨_, mv1, rfl, ex.trans (e49.trans e10), by rw [show (((0 : Nat) : Int)) = 0 from rfl, advM_zero]; exact TpAt.ex (e9.trans e10) hm8⟩) (fun j σ' H' hj ⟨r7, mw, eσ, ex', hmw⟩ => ?_) fun σ' H' ⟨r7, mw, eσ, ex', hmw⟩ => ⟨_, r.e, _, _, _, eσ, ex', by omega, c6, ?_⟩
    · subst eσ
      have hj' : r.s + (j : Int) < r.e := by omega
      have hmj : m (r.s + (j : Int)) = some (advM r.m j) := by rw [c5 _ (by omega) hj', show r.s + (j : Int) - r.s = (j : Int) by omega]
      have okj := ok _ _ hmj
      refine q_when (b := false) (et_is (et_or (a := false) (b := false) (et_is (et_dnin (p := r.s + (j : Int)) (ev_var rfl) (ev_var rfl) (hd.ex ex')) (by rw [hmj]; rfl)) fun _ => et_is (et_neM (evt_var rfl hmw) (evp_dget (ev_var rfl) (ev_var rfl) (hd.ex ex') hmj) okj okj) (by simp)) rfl) (fun h => by cases h) fun _ H11 e11 => ?_
      refine s_asgP (ev_after (evt_var rfl (TpAt.ex e11 hmw))) fun mw' H12 e12 h12 => ⟨_, mw', rfl, ex'.trans (e11.trans e12), ?_⟩
      rw [advM_add] at h12
      exact h12
    · have : totR (r :: rs.drop (i + 1)) = (r.e - r.s) + totR (rs.drop (i + 1)) := rfl
      omega
  · subst eσ
    refine s_ret (ev_is (ev_op (ev_var rfl) (ev_dlen (ev_var rfl) (hd.ex ex) hn) (rv_eq rfl)) ?_) fun H9 e9 => kq H9 (ex.trans e9)
    rw [← hlen, List.drop_length] at ft
    have : found = (cnt m n.toNat : Int) := by simpa [totR] using ft
    rw [this]
    simp
end
end Lp
end
section
set_option Elab.async false
set_option linter.all false
set_option maxRecDepth 100000
set_option maxHeartbeats 8000000
/-! Lp.L8: the law looks at entries. -/
namespace Lp
open PySem PySem.Spec PyProof.Rows L2 Evl
theorem given_nil (n : Nat) (v : Nat → V) : given n (fun _ => false) v = [] := by
  induction n with
  | zero => rfl
  | succ n ih => rw [given_no rfl, ih]
theorem given_pos {n i : Nat} {f : Nat → Bool} {v : Nat → V} (hi : i < n) (h : f i = true) : 0 < (given n f v).length := by
  unfold given
  rw [List.length_map]
  exact List.length_pos_of_mem (List.mem_filter.mpr ⟨List.mem_range.mpr hi, h⟩)
section
variable {σ : L2.St} {H : Hp} {ta tb tc td te tl : TE} {K : PySem.W.Frag} {D : Ends} {t : TT} {tu tz : L2.TS}
theorem el_lcR2 {ta : TA} {j : Nat} {vs : List Nat} {lo n : Int} (f : Nat → Bool) (v : Nat → V) (h : EvA ta σ H [.int lo, .int n]) (hn : 0 ≤ lo ∧ lo ≤ 40000 ∧ -40000 ≤ n ∧ n ≤ 40000) (hw : ∀ x, wipe ((wipe σ vs).set j (some x)) vs = wipe σ vs)
    (ht : ∀ (i : Nat) H1, Ex H H1 → lo + (i : Int) < n → EvT t ((wipe σ vs).set j (some (.int (lo + (i : Int))))) H1 (f i)) (he : ∀ (i : Nat) H1, Ex H H1 → lo + (i : Int) < n → f i = true → Ev te ((wipe σ vs).set j (some (.int (lo + (i : Int))))) H1 (v i)) :
    EvL (tLc (iRng2 ta) (gName j) t te vs) σ H (given (n - lo).toNat f v) := fun H0 e Q q => h H0 e _ fun H1 e1 => ⟨lo, n, rfl, ⟨by omega, by omega, by omega, by omega⟩, fun Dl hD =>
  lc_range (lo := lo) (n := (n - lo).toNat) (Cw H1 f v Dl) ⟨hD, Ex.new hD, upd_same⟩ (fun i H' hi p => ⟨hw _, cw_turn p (by omega) (ht i H1 (e.trans e1) (by omega)) (fun hf => he i H1 (e.trans e1) (by omega) hf)⟩) (fun H' p => q Dl H' (fresh_back e1 p.1) (e1.trans p.2.1) p.2.2)⟩
theorem evt_ixL {p : Addr} {us ys : List V} {i : Int} {x : V} (ha : Ev ta σ H (.ref p)) (hp : SqL K H p us) (hb : Ev tb σ H (.int i)) (hz : atI us i = some x) (hx : TpAt ys x H) : EvP (tOp (rIxL K) ta tb) σ H (TpAt ys) := fun H1 e Q q =>
  ev_op ha hb (rv_ixL hp hz) H1 e _ fun H2 e2 => q x H2 e2 (hx.ex (e.trans e2))
/-- over a new list, not known beforehand -/
theorem q_forNP {j : Nat} {A : List V → Hp → Prop} (h : EvN tl σ H (fun p H => ∃ xs, H p = some (.lst xs) ∧ A xs H)) (Pv : List V → Addr → Nat → L2.St → Hp → Prop) (h0 : ∀ xs p H1, H p = none → Ex H H1 → H1 p = some (.lst xs) → A xs H1 → Pv xs p 0 σ H1) (hl : ∀ xs p i σ' H', i ≤ xs.length → Pv xs p i σ' H' → SqL K H' p xs)
    (hs : ∀ xs p i x σ' H', xs[i]? = some x → Pv xs p i σ' H' → tu { D with nx := Pv xs p (i + 1), ct := Pv xs p (i + 1), bk := tz D } (σ'.set j (some x)) H') (hd : ∀ xs p σ' H', Pv xs p xs.length σ' H' → tz D σ' H') : tSeq (tFor (iList K tl) (gName j) tu) tz D σ H :=
  h H (Ex.refl H) _ fun p H1 hp e ⟨xs, h1, hA⟩ => ⟨p, rfl, ⟨xs, sq_of h1⟩, for_list (D := { D with nx := tz D }) (Pv xs p) (h0 xs p H1 hp e h1 hA) (hl xs p) (hs xs p) (hd xs p)⟩
end
structure LawFan (ws : List Int) : Prop where
  ne : ws ≠ []
  len : ws.length ≤ 4
  all : ∀ x ∈ ws, 2 ≤ x ∧ x ≤ 8
  prod : prodI ws ≤ 4096
theorem FanOk.law {most : Int} {ws : List Int} (h : FanOk most ws) (hm : most ≤ 4096) : LawFan ws := ⟨h.ne, h.len, h.all, by have := h.prod; omega⟩
theorem LawFan.wok {ws : List Int} (h : LawFan ws) : WOk ws := FanOk.wok (most := 4096) ⟨h.ne, h.len, h.all, h.prod⟩ (Int.le_refl _)
def BlkOk (ws : List Int) (lo hi : Int) : Prop := ∃ (j : Nat) (sp : Int), (spansOf ws)[j]? = some sp ∧ hi - lo = sp ∧ lo.fmod sp = 0
def ApartOk (m : Mm) (ws : List Int) (page later : Int) : Prop := ∀ sp ∈ spansOf ws, page / sp * sp ≤ later → later < page / sp * sp + sp → uniB m (page / sp * sp) sp = false
section
variable {P : Program} {w : World} {K : PySem.W.Frag} {mg : PySem.Str → Option Value} {base : Heap}
def spIsBlock : Sp := fun vs H Q _ => ∃ (v : V) (ws : List Int) (lo hi : Int), vs = [v, .int lo, .int hi] ∧ LiAt ws v H ∧ LawFan ws ∧ BlkOk ws lo hi ∧ RetV (.bl true) H Q
theorem b_is_block (m_int : mg "int" = none) (m_len : mg "len" = none) (d_law_fan_spans : Cl P w K mg base 1 "_law_fan_spans" spFanSpans) : Body P w K mg base n_law_is_block "_law_is_block" s_law_is_block 1 spIsBlock := by
  intro f cdv A outer s H vs Q E hr h
  obtain ⟨v, ws, lo, hi, rfl, hv, hw, ⟨j, sp, hj, e1, e2⟩, kq⟩ := h
  refine ⟨_, (pss_one (ps_ret (pe_cmpR op_gt (pe_callB call_len_seq (by rfl) m_len boot_len (pa_cons (pe_lc (own := [("_law_span", 3)]) (g := gName 3) rfl c_law_is_block.nd (pi_list (pc d_law_fan_spans hr (by omega) (by rfl) (pa_cons (pv 0) pa_nil))) (blkOk_by (N := n_law_is_block) (sc := defScope s_law_is_block) (by decide +kernel)) (fun _ _ _ _ _ => (pg_name (i := 3) c_law_is_block.nd rfl (.inl rfl))) (fun _ _ _ _ _ => (pts_one (PW.pt (pw_and (pt_cmpR op_eq (pe_op op_sub (pv 2) (pv 1)) (pv 3) (nomark _)) (pw_and1 (pt_cmpR op_eq (pe_op op_modN (pe_callTy call_int1 (by rfl) m_int boot_int (pa_cons (pv 1) pa_nil)) (pv 3)) pe_int (nomark _))))))) (fun _ _ _ _ _ => (pv 3))) pa_nil)) pe_int (nomark _)))), ?_⟩
  have hws := hw.wok
  have hl : (iv (spansOf ws)).length = ws.length := by simp [spans_len]
  refine s_ret (ev_is (ev_op (ev_lenNL (el_lcNL (fun i => decide (hi - lo = ((spansOf ws)[i]?).getD 0) && decide (lo.fmod (((spansOf ws)[i]?).getD 0) = 0)) (fun i => .int (((spansOf ws)[i]?).getD 0)) (en_spans (evp_var (v := v) rfl fun H1 e => hv.ex e) hw.len hw.all) (by rw [hl]; have := hw.len; omega) (fun _ => rfl) (fun i x H1 e1 hx => ?_) fun i x H1 e1 hx _ => ?_)) ev_c rv_I0) ?_) kq
  · rw [List.getElem?_map] at hx
    cases hq : (spansOf ws)[i]? with
    | none => rw [hq] at hx; cases hx
    | some y =>
      rw [hq] at hx
      cases hx
      have hy := span_ok hws hq
      refine et_is (et_and (et_test (ev_op (ev_op (ev_var rfl) (ev_var rfl) rv_I0) (ev_var rfl) (rv_eq rfl))) fun _ => et_test (ev_op (ev_op (ev_int1 (ev_var rfl)) (ev_var rfl) (rv_I (C := fun _ j => j ≠ 0) (by omega))) ev_c (rv_eq rfl))) ?_
      simp
  · rw [List.getElem?_map] at hx
    cases hq : (spansOf ws)[i]? with
    | none => rw [hq] at hx; cases hx
    | some y =>
      rw [hq] at hx
      cases hx
      exact ev_var rfl
  · have hjl : j < (iv (spansOf ws)).length := by
      rw [List.length_map]
      exact (List.getElem?_eq_some_iff.mp hj).1
    have := given_pos (v := fun i => V.int (((spansOf ws)[i]?).getD 0)) (f := fun i => decide (hi - lo = ((spansOf ws)[i]?).getD 0) && decide (lo.fmod (((spansOf ws)[i]?).getD 0) = 0)) hjl (by simp only [hj, Option.getD_some, e1, e2]; simp)
    rw [decide_eq_true (show (0 : Int) < _ from by exact_mod_cast this)]
def spApart : Sp := fun vs H Q _ => ∃ (d : Addr) (v : V) (m : Mm) (ws : List Int) (page later : Int), vs = [.ref d, v, .int page, .int later] ∧ DcAt m d H ∧ okMm m ∧ LiAt ws v H ∧ LawFan ws ∧ 0 ≤ page ∧ page ≤ 4096 ∧ ApartOk m ws page later ∧ RetV (.bl true) H Q
theorem b_apart (m_sorted : mg "sorted" = none) (d_law_fan_spans : Cl P w K mg base 1 "_law_fan_spans" spFanSpans) (d_law_uniform : Cl P w K mg base 2 "_law_uniform" spUniform) : Body P w K mg base n_law_apart "_law_apart" s_law_apart 2 spApart := by
  intro f cdv A outer s H vs Q E hr h
  obtain ⟨d, v, m, ws, page, later, rfl, hd, ok, hv, hw, p0, p1, ap, kq⟩ := h
  refine ⟨_, (pss_cons (ps_for PassesOwn.never rfl (pi_list (pe_callB (r := rSortedI K) cr_sortedI (by rfl) m_sorted boot_sorted (pa_cons (pc d_law_fan_spans hr (by omega) (by rfl) (pa_cons (pv 1) pa_nil)) pa_nil))) (pg_name (i := 4) c_law_apart.nd rfl (.inl rfl)) (pss_cons (ps_set (i := 5) c_law_apart.nd rfl (.inl rfl) (pe_op op_mul (pe_op op_fdivN (pv 2) (pv 4)) (pv 4))) (pss_one (ps_if (pt_chain op_le op_lt (pv 5) (pv 3) (pe_op op_add (pv 5) (pv 4))) (pss_one (ps_ret (pe_not (pc d_law_uniform hr (by omega) (by rfl) (pa_cons (pv 0) (pa_cons (pv 5) (pa_cons (pe_op op_add (pv 5) (pv 4)) pa_nil))))))) pss_nil)))) (pss_one (ps_ret pe_bl))), ?_⟩
  have hws := hw.wok
  refine q_forNP (K := K) (A := fun xs _ => ∃ ns : List Int, xs = iv ns ∧ ns.Perm (spansOf ws)) (fun H1 e1 Q1 q1 => en_spans (evp_var (v := v) rfl fun H1 e => hv.ex e) hw.len hw.all H1 e1 _ fun p H2 hp e2 h2 => ⟨p, spansOf ws, rfl, sq_of h2, fun ns' q hperm _ hq => q1 q _ (fresh_back e2 hq) (e2.trans (Ex.new hq)) ⟨_, upd_same, ns', rfl, hperm⟩⟩)
    (fun xs p i σ' H' => ∃ (r4 r5 : Option V), σ' = [some (.ref d), some v, some (.int page), some (.int later), r4, r5] ∧ Ex H H' ∧ H' p = some (.lst xs) ∧ ∃ ns : List Int, xs = iv ns ∧ ns.Perm (spansOf ws)) (fun xs p H1 hp e1 h1 hA => ⟨none, none, rfl, e1, h1, hA⟩) (fun xs p i σ' H' _ ⟨_, _, _, _, h1, _⟩ => sq_of h1) (fun xs p i x σ' H' hx ⟨r4, r5, eσ, ex, h1, ns, ens, hp⟩ => ?_) fun xs p σ' H' ⟨r4, r5, eσ, ex, _⟩ => ?_
  · subst eσ ens
    rw [List.getElem?_map] at hx
    cases hq : ns[i]? with
    | none => rw [hq] at hx; cases hx
    | some sp =>
      rw [hq] at hx
      cases hx
      have hm : sp ∈ spansOf ws := hp.mem_iff.mp (List.mem_of_getElem? hq)
      obtain ⟨jj, hjj⟩ := List.getElem?_of_mem hm
      have hy := span_ok hws hjj
      have hlow := low_le (sp := sp) (page := page) hy.1
      unfold lowB at hlow
      have hq0 : 0 ≤ page / sp * sp := Int.mul_nonneg (Int.ediv_nonneg p0 (by omega)) (by omega)
      refine q_asg (v := .int (page / sp * sp)) (ev_is (ev_op (ev_op (ev_var rfl) (ev_var rfl) (rv_I (C := CDivN) ⟨by omega, by omega⟩)) (ev_var rfl) (rv_I (C := CMul) (.inr ⟨by omega, by omega⟩))) (by rw [Int.fdiv_eq_ediv_of_nonneg _ (by omega)])) fun H2 e2 => ?_
      refine s_when (et_chain2 (ev_var rfl) (ev_var rfl) (ev_op (ev_var rfl) (ev_var rfl) rv_I0)) (fun hb H3 e3 => ?_) fun hb H3 e3 => ⟨_, _, rfl, ex.trans (e2.trans e3), e3 _ _ (e2 _ _ h1), ns, rfl, hp⟩
      have e23 := ex.trans (e2.trans e3)
      have hb' := Bool.and_eq_true_iff.mp hb
      have g := ap sp hm (of_decide_eq_true hb'.1) (of_decide_eq_true hb'.2)
      refine s_ret (ev_is (ev_notV (a := false) (ev_callV (eap (ea_cons (ev_var rfl) (ea_cons (ev_var rfl) (ea_cons (ev_op (ev_var rfl) (ev_var rfl) rv_I0) ea_nil)))) fun vs H4 e4 ev Q2 q2 => ?_)) rfl) fun H4 e4 => kq H4 (e23.trans e4)
      refine ⟨d, page / sp * sp, page / sp * sp + sp, m, ev, hd.ex (e23.trans e4), ok, hq0, by omega, by omega, ?_⟩
      rw [unif_eq hy.1, g]
      exact q2
  · subst eσ
    exact s_ret ev_c fun H2 e2 => kq H2 (ex.trans e2)
def spEntriesLeast : Sp := fun vs H Q _ => ∃ (v fv : V) (d : Addr) (m : Mm) (ws : List Int) (rs : List Row), vs = [v, .ref d, fv] ∧ LrAt rs v H ∧ DcAt m d H ∧ okMm m ∧ InN m (prodI ws) ∧ LiAt ws fv H ∧ LawFan ws ∧ Desc m 0 (prodI ws) rs ∧ (∀ r ∈ rs, BlkOk ws r.s r.e) ∧ (∀ (i : Nat) r r', rs[i]? = some r → rs[i + 1]? = some r' → ApartOk m ws r.s r'.s) ∧ rs.length ≤ 5000 ∧ RetV (.bl true) H Q
theorem desc_in {m : Mm} {rs : List Row} : ∀ {lo hi : Int}, Desc m lo hi rs → ∀ r ∈ rs, lo ≤ r.s ∧ r.s < r.e ∧ r.e ≤ hi := by
  induction rs with
  | nil => intro lo hi _ r hr; cases hr
  | cons r rs ih =>
    intro lo hi ⟨h1, h2, h3, h4, h5, h6⟩ q hq
    rcases List.mem_cons.mp hq with e | hq
    · subst e; exact ⟨h1, h2, h3⟩
    · have := ih h6 q hq
      omega
theorem b_entries_least (m_len : mg "len" = none) (m_range : mg "range" = none) (d_law_fan_spans : Cl P w K mg base 1 "_law_fan_spans" spFanSpans) (d_law_describes : Cl P w K mg base 4 "_law_describes" spDescribes) (d_law_is_block : Cl P w K mg base 2 "_law_is_block" spIsBlock) (d_law_apart : Cl P w K mg base 3 "_law_apart" spApart) :
    Body P w K mg base n_law_entries_least "_law_entries_least" s_law_entries_least 4 spEntriesLeast := by
  intro f cdv A outer s H vs Q E hr h
  obtain ⟨v, fv, d, m, ws, rs, rfl, hl, hd, ok, hn, hf, hw, ds, bk, ap, r5, kq⟩ := h
  obtain ⟨a, us, rfl, ha, hus⟩ := id hl
  obtain ⟨fa, rfl, hfa⟩ := id hf
  refine ⟨_, (pss_cons (ps_set (i := 3) c_law_entries_least.nd rfl (.inl rfl) (pe_op op_mul (pe_ix (r := rIxL K) ix_list (pc d_law_fan_spans hr (by omega) (by rfl) (pa_cons (pv 2) pa_nil)) pe_int (fun _ _ => rfl)) (pe_ix (r := rIxL K) ix_list (pv 2) pe_int (fun _ _ => rfl)))) (pss_cons (ps_if (pt_not (pt_val (pc d_law_describes hr (by omega) (by rfl) (pa_cons (pv 0) (pa_cons (pv 1) (pa_cons (pv 3) pa_nil)))))) (pss_one (ps_ret pe_bl)) pss_nil) (pss_cons (ps_if (pt_cmpR op_gt (pe_callB call_len_seq (by rfl) m_len boot_len (pa_cons (pe_lc (own := [("_law_row", 4)]) (g := gName 4) rfl c_law_entries_least.nd (pi_list (pv 0)) (blkOk_by (N := n_law_entries_least) (sc := defScope s_law_entries_least) (by decide +kernel)) (fun _ _ _ _ _ => (pg_name (i := 4) c_law_entries_least.nd rfl (.inl rfl))) (fun _ _ _ _ _ => (pts_one (pt_not (pt_val (pc d_law_is_block hr (by omega) (by rfl) (pa_cons (pv 2) (pa_cons (pe_ix (r := rIxT K) ix_tup (pv 4) pe_int (fun _ _ => rfl)) (pa_cons (pe_ix (r := rIxT K) ix_tup (pv 4) pe_int (fun _ _ => rfl)) pa_nil)))))))) (fun _ _ _ _ _ => (pv 4))) pa_nil)) pe_int (nomark _)) (pss_one (ps_ret pe_bl)) pss_nil) (pss_one (ps_ret (pe_cmpR op_eq (pe_callB call_len_seq (by rfl) m_len boot_len (pa_cons (pe_lc (own := [("_law_k", 5)]) (g := gName 5) rfl c_law_entries_least.nd (pi_range2 (by rfl) m_range (pa_cons pe_int (pa_cons (pe_callB call_len_seq (by rfl) m_len boot_len (pa_cons (pv 0) pa_nil)) pa_nil))) (blkOk_by (N := n_law_entries_least) (sc := defScope s_law_entries_least) (by decide +kernel)) (fun _ _ _ _ _ => (pg_name (i := 5) c_law_entries_least.nd rfl (.inl rfl))) (fun _ _ _ _ _ => (pts_one (pt_not (pt_val (pc d_law_apart hr (by omega) (by rfl) (pa_cons (pv 1) (pa_cons (pv 2) (pa_cons (pe_ix (r := rIxT K) ix_tup (pe_ix (r := rIxL K) ix_list (pv 0) (pe_op op_sub (pv 5) pe_int) (fun _ _ => rfl)) pe_int (fun _ _ => rfl)) (pa_cons (pe_ix (r := rIxT K) ix_tup (pe_ix (r := rIxL K) ix_list (pv 0) (pv 5) (fun _ _ => rfl)) pe_int (fun _ _ => rfl)) pa_nil))))))))) (fun _ _ _ _ _ => (pv 5))) pa_nil)) pe_int (nomark _))))))), ?_⟩
  have hws := hw.wok
  have pr := prod_ok hws
  have hlen := hus.length
  obtain ⟨wd, wt, ew⟩ : ∃ wd wt, ws = wd :: wt := by
    cases hq : ws with
    | nil => exact absurd hq hw.ne
    | cons a l => exact ⟨a, l, rfl⟩
  have hsp0 : (spansOf ws)[0]? = some (prodI wt) := span_at (lev := 0) (by rw [ew]; rfl)
  have hw0 : ws[0]? = some wd := by rw [ew]; rfl
  have sp0 := span_ok hws hsp0
  refine q_asg (v := .int (prodI ws)) (ev_is (ev_op (fun H1 e1 Q1 q1 => en_spans (evp_var (v := .ref fa) rfl fun H1 e => hf.ex e) hw.len hw.all H1 e1 _ fun p H2 hp e2 h2 => ⟨p, _, _, _, rfl, rfl, sq_of h2, iv_at (i := 0) hsp0, q1 _ e2⟩) (ev_op (ev_var rfl) ev_c (rv_ixL (sq_of hfa) (iv_at (i := 0) hw0))) (rv_I (C := CMul) (.inl ⟨by omega, by omega⟩))) (by rw [ew, Int.mul_comm]; rfl)) fun H1 e1 => ?_
  refine q_when (b := false) (et_not (a := true) (et_B (ev_callV (eap (ea_cons (ev_var rfl) (ea_cons (ev_var rfl) (ea_cons (ev_var rfl) ea_nil)))) fun vs H2 e2 ev Q2 q2 => ⟨.ref a, d, prodI ws, m, rs, ev, hl.ex (e1.trans e2), hd.ex (e1.trans e2), hn, ok, by omega, by omega, ds, q2⟩))) (fun h => by cases h) fun _ H2 e2 => ?_
  have e12 := e1.trans e2
  have ha2 := e12 _ _ ha
  refine q_when (b := false) (et_is (et_test (ev_op (ev_lenNL (el_lcL (fun _ => false) (fun _ => .non) (ev_var rfl) (sq_of ha2) (by omega) (fun _ => rfl) (fun i x H3 e3 hx => ?_) fun i x H3 e3 hx hb => by cases hb)) ev_c rv_I0)) (by rw [given_nil]; simp)) (fun h => by cases h) fun _ H3 e3 => ?_
  · obtain ⟨r, hr', hx0⟩ := hus.at hx
    have hx3 : TpAt (rv r) x H3 := TpAt.ex (e12.trans e3) hx0
    exact et_not (a := true) (et_B (ev_callV (eap (ea_cons (ev_var rfl) (ea_cons (ev_ixT (evt_var rfl hx3) ev_c rfl) (ea_cons (ev_ixT (evt_var rfl hx3) ev_c rfl) ea_nil)))) fun vs H4 e4 ev Q2 q2 => ⟨.ref fa, ws, r.s, r.e, ev, hf.ex (e12.trans (e3.trans e4)), hw, bk r (List.mem_of_getElem? hr'), q2⟩))
  have e13 := e12.trans e3
  have ha3 := e13 _ _ ha
  refine s_ret (ev_is (ev_op (ev_lenNL (el_lcR2 (fun _ => false) (fun _ => .non) (ea_cons ev_c (ea_cons (ev_lenL (ev_var rfl) (sq_of ha3)) ea_nil)) ⟨by decide, by decide, by omega, by omega⟩ (fun _ => rfl) (fun i H4 e4 hi => ?_) fun i H4 e4 hi hb => by cases hb)) ev_c (rv_eq rfl)) (by rw [given_nil]; simp)) fun H4 e4 => kq H4 (e13.trans e4)
  have i1 : i + 1 < us.length := by omega
  have i0 : i < us.length := by omega
  obtain ⟨r, hr1, hx0⟩ := hus.at (List.getElem?_eq_getElem i0)
  obtain ⟨r', hr2, hx1⟩ := hus.at (List.getElem?_eq_getElem i1)
  have e14 := e13.trans e4
  have ha4 := e14 _ _ ha
  have hin := desc_in ds r (List.mem_of_getElem? hr1)
  refine et_not (a := true) (et_B (ev_callV (eap (ea_cons (ev_var rfl) (ea_cons (ev_var rfl) (ea_cons (ev_ixT (evt_ixL (i := (i : Int)) (ev_var rfl) (sq_of ha4) (ev_is (ev_op (ev_var rfl) ev_c rv_I0) (by rw [show (1 : Int) + (i : Int) - 1 = (i : Int) by omega])) (atI_nat (List.getElem?_eq_getElem i0)) (TpAt.ex e14 hx0)) ev_c rfl) (ea_cons (ev_ixT (evt_ixL (i := ((i + 1 : Nat) : Int)) (ev_var rfl) (sq_of ha4) (ev_is (ev_var rfl) (by rw [show (1 : Int) + (i : Int) = ((i + 1 : Nat) : Int) by omega])) (atI_nat (List.getElem?_eq_getElem i1)) (TpAt.ex e14 hx1)) ev_c rfl) ea_nil))))) fun vs H5 e5 ev Q2 q2 => ⟨d, .ref fa, m, ws, r.s, r'.s, ev, hd.ex (e14.trans e5), ok, hf.ex (e14.trans e5), hw, hin.1, by omega, ap i r r' hr1 hr2, q2⟩))
end
end Lp
end
section
set_option Elab.async false
set_option linter.all false
set_option maxRecDepth 100000
set_option maxHeartbeats 8000000
/-! Lp.L9: the law looks at tables. -/
namespace Lp
open PySem PySem.Spec PyProof.Rows L2 Evl
/-- the tables in an entry -/
def subT (m : Mm) : List Int → Int → Int → List (Int × Int)
  | [], _, _ => []
  | w :: ws, lev, lo => match kind m (w :: ws) lo with
    | .tab => (lev, lo) :: (List.range w.toNat).flatMap fun k => subT m ws (lev + 1) (lo + (k : Nat) * prodI ws)
    | _ => []
def tabT (m : Mm) (w : Int) (ws : List Int) (lev lo : Int) : List (Int × Int) := (List.range w.toNat).flatMap fun k => subT m ws (lev + 1) (lo + (k : Nat) * prodI ws)
theorem subT_tab {m : Mm} {w : Int} {ws : List Int} {lev lo : Int} (h : kind m (w :: ws) lo = .tab) : subT m (w :: ws) lev lo = (lev, lo) :: tabT m w ws lev lo := by
  unfold subT
  rw [h]
  rfl
theorem subT_not {m : Mm} {ws : List Int} {lev lo : Int} (h : kind m ws lo ≠ .tab) : subT m ws lev lo = [] := by
  cases ws with
  | nil => rfl
  | cons w ws =>
    unfold subT
    cases hk : kind m (w :: ws) lo with
    | non => rfl
    | mk k => rfl
    | tab => exact absurd hk h
theorem flat_len {α : Type} {f : Nat → List α} {c : Nat} (h : ∀ i, (f i).length ≤ c) (n : Nat) : ((List.range n).flatMap f).length ≤ n * c := by
  induction n with
  | zero => simp
  | succ n ih =>
    rw [List.range_succ, List.flatMap_append, List.length_append, Nat.succ_mul]
    have := h n
    simp only [List.flatMap_cons, List.flatMap_nil, List.append_nil]
    omega
theorem subT_len {m : Mm} : ∀ {ws : List Int} (lev lo : Int), (∀ x ∈ ws, 2 ≤ x) → ((subT m ws lev lo).length : Int) + 1 ≤ prodI ws
  | [], lev, lo, _ => by simp [subT, prodI]
  | w :: ws, lev, lo, h => by
    have hw := h w List.mem_cons_self
    have ih := fun lev lo => subT_len (m := m) (ws := ws) lev lo fun x hx => h x (List.mem_cons_of_mem _ hx)
    have hp : 1 ≤ prodI ws := by have := ih 0 0; omega
    have hpp : 2 * prodI ws ≤ w * prodI ws := Int.mul_le_mul_of_nonneg_right hw (by omega)
    by_cases hk : kind m (w :: ws) lo = .tab
    · rw [subT_tab hk]
      have hl := flat_len (f := fun k : Nat => subT m ws (lev + 1) (lo + (k : Nat) * prodI ws)) (c := (prodI ws).toNat - 1) (fun i => by have := ih (lev + 1) (lo + (i : Nat) * prodI ws); omega) w.toNat
      have e : ((w.toNat * ((prodI ws).toNat - 1) : Nat) : Int) = w * prodI ws - w := by
        rw [Int.natCast_mul, show ((w.toNat : Nat) : Int) = w by omega, show (((prodI ws).toNat - 1 : Nat) : Int) = prodI ws - 1 by omega, Int.mul_sub, Int.mul_one]
      show (((lev, lo) :: tabT m w ws lev lo).length : Int) + 1 ≤ w * prodI ws
      have : ((tabT m w ws lev lo).length : Int) ≤ w * prodI ws - w := by rw [← e]; exact_mod_cast hl
      simp only [List.length_cons]
      omega
    · rw [subT_not hk]
      show (0 : Int) + 1 ≤ w * prodI ws
      omega
theorem flat_sum {α : Type} {f : Nat → List α} (l : List Nat) : (l.flatMap f).length = (l.map fun k => (f k).length).sum := by
  induction l with
  | nil => rfl
  | cons a l ih => simp [ih]
theorem subT_entC {m : Mm} : ∀ {ws : List Int} (lev lo : Int), (subT m ws lev lo).length = entC m ws lo
  | [], lev, lo => rfl
  | w :: ws, lev, lo => by
    unfold subT entC
    cases hk : kind m (w :: ws) lo with
    | non => rfl
    | mk k => rfl
    | tab =>
      simp only [List.length_cons, flat_sum]
      rw [Nat.add_comm]
      congr 2
      exact List.map_congr_left fun k _ => subT_entC (lev + 1) _
theorem tabT_tabC {m : Mm} {w : Int} {ws : List Int} {lev lo : Int} : (tabT m w ws lev lo).length + 1 = tabC m w ws lo := by
  unfold tabT tabC
  rw [flat_sum, Nat.add_comm]
  congr 2
  exact List.map_congr_left fun k _ => subT_entC (lev + 1) _
theorem rv_isN {x : V} {H : Hp} : RV (fun x y H Q => y = V.non ∧ Q (.bl (decide (x = V.non))) H) x .non H (.bl (decide (x = V.non))) := fun H1 _ _ q => ⟨rfl, q H1 (Ex.refl H1)⟩
theorem TpAt.xl {xs us : List V} {v : V} {d : Addr} {H H' : Hp} (hd : H d = some (.lst us)) (e : ExP d H H') (h : TpAt xs v H) : TpAt xs v H' := by
  obtain ⟨p, rfl, hp⟩ := h
  refine ⟨p, rfl, e _ _ hp fun q => ?_⟩
  rw [q, hd] at hp
  cases hp
theorem BlsOf.xl {bs : List (Int × Int)} {vs us : List V} {d : Addr} {H H' : Hp} (hd : H d = some (.lst us)) (e : ExP d H H') (h : BlsOf H bs vs) : BlsOf H' bs vs := F2.imp h fun _ _ x => TpAt.xl hd e x
section
variable {P : Program} {w : World} {K : PySem.W.Frag} {mg : PySem.Str → Option Value} {base : Heap}
theorem s_extP {σ : L2.St} {H : Hp} {ta te : TE} {D : Ends} {l p : Addr} {xs zs : List V} (hl : H l = some (.lst xs)) (ha : Ev ta σ H (.ref l)) (hp : H p = some (.lst zs)) (h : Ev te σ H (.ref p)) (hz : xs.length + zs.length ≤ 100000) (k : ∀ H1, Ex H H1 → D.nx σ (upd H1 l (.lst (xs ++ zs)))) :
    tDrop (tBM K "list" rExtend ta (tCons te tNil)) D σ H := ha H (Ex.refl H) _ fun H1 e1 =>
  ⟨Or.inl ⟨rfl, xs, sq_of (e1 l _ hl)⟩, h H1 e1 _ fun H2 e2 => ⟨l, p, xs, zs, rfl, rfl, e2 l _ (e1 l _ hl), e2 _ _ (e1 _ _ hp), sz_of hz, k H2 (e1.trans e2)⟩⟩
def spTablesAt (d : Nat) : Sp := fun vs H Q _ => ∃ (v fv : V) (all : List Int) (lev : Nat) (lo : Int) (m : Mm) (wd : Int) (ws : List Int), vs = [v, fv, .int lev, .int lo] ∧ LiAt all fv H ∧ LawFan all ∧ all.drop lev = wd :: ws ∧ ws.length < d ∧ TabAt m wd ws lo v H ∧
  ∀ p H', H p = none → Ex H H' → (∃ us, H' p = some (.lst us) ∧ BlsOf H' (tabT m wd ws lev lo) us) → Q (.ref p) H'
theorem q_asgN {σ : L2.St} {H : Hp} {te : TE} {D : Ends} {tz : L2.TS} {i : Nat} {P : Addr → Hp → Prop} (h : EvN te σ H P) (k : ∀ p H1, H p = none → Ex H H1 → P p H1 → tz D (σ.set i (some (.ref p))) H1) : tSeq (tAsg te (gName i)) tz D σ H := h H (Ex.refl H) _ fun p H1 hp e h1 => k p H1 hp e h1
theorem cl_tables_at (D : Dfd K mg "_law_tables_at" s_law_tables_at p_law_tables_at) (m_isinstance : mg "isinstance" = none) (m_list : mg "list" = none) (m_len : mg "len" = none) (m_range : mg "range" = none) (d_law_fan_spans : Cl P w K mg base 1 "_law_fan_spans" spFanSpans) : ∀ d : Nat, Cl P w K mg base (d + 1) "_law_tables_at" (spTablesAt d) := by
  intro d
  induction d with
  | zero =>
    refine cl_of D c_law_tables_at (fun vs H Q E h => ?_) fun f cdv A outer s H vs Q E hr h => ?_
    · obtain ⟨_, _, _, _, _, _, _, _, rfl, _⟩ := h; rfl
    · obtain ⟨_, _, _, _, _, _, _, _, _, _, _, _, h, _⟩ := h
      exact absurd h (Nat.not_lt_zero _)
  | succ d d_law_tables_at =>
    refine cl_of D c_law_tables_at (fun vs H Q E h => ?_) fun f cdv A outer s H vs Q E hr h => ?_
    · obtain ⟨_, _, _, _, _, _, _, _, rfl, _⟩ := h; rfl
    obtain ⟨v, fv, all, lev, lo, m, wd, ws, rfl, hf, hw, hdr, hd, hT, kq⟩ := h
    obtain ⟨p, es, rfl, hp, hes, hent⟩ := id hT
    obtain ⟨fa, rfl, hfa⟩ := id hf
    refine ⟨_, (pss_cons (ps_if (PW.pt (pw_or (pt_not (pt_val (pe_callB (r := rIsi K) call_isi (by rfl) m_isinstance boot_isinstance (pa_cons (pv 0) (pa_cons (pe_bltn (by rfl) m_list boot_list (v := .ty "list") rfl) pa_nil))))) (pw_or1 (pt_cmpR op_ne (pe_callB call_len_seq (by rfl) m_len boot_len (pa_cons (pv 0) pa_nil)) (pe_ix (r := rIxL K) ix_list (pv 1) (pv 2) (fun _ _ => rfl)) (nomark _))))) (pss_one (ps_ret pe_non)) pss_nil) (pss_cons (ps_set (i := 4) c_law_tables_at.nd rfl (.inl rfl) (pe_ix (r := rIxL K) ix_list (pc d_law_fan_spans hr (by omega) (by rfl) (pa_cons (pv 1) pa_nil)) (pv 2) (fun _ _ => rfl))) (pss_cons (ps_set (i := 5) c_law_tables_at.nd rfl (.inl rfl) (pe_lst pa_nil)) (pss_cons (ps_for PassesOwn.never rfl (pi_range1 (by rfl) m_range (pa_cons (pe_callB call_len_seq (by rfl) m_len boot_len (pa_cons (pv 0) pa_nil)) pa_nil)) (pg_name (i := 6) c_law_tables_at.nd rfl (.inl rfl)) (pss_one (ps_if (pt_val (pe_callB (r := rIsi K) call_isi (by rfl) m_isinstance boot_isinstance (pa_cons (pe_ix (r := rIxL K) ix_list (pv 0) (pv 6) (fun _ _ => rfl)) (pa_cons (pe_bltn (by rfl) m_list boot_list (v := .ty "list") rfl) pa_nil)))) (pss_cons (ps_if (pt_cmpR op_eq (pe_op op_add (pv 2) pe_int) (pe_callB call_len_seq (by rfl) m_len boot_len (pa_cons (pv 1) pa_nil)) (nomark _)) (pss_one (ps_ret pe_non)) pss_nil) (pss_cons (ps_set (i := 7) c_law_tables_at.nd rfl (.inl rfl) (pc d_law_tables_at hr (by omega) (by rfl) (pa_cons (pe_ix (r := rIxL K) ix_list (pv 0) (pv 6) (fun _ _ => rfl)) (pa_cons (pv 1) (pa_cons (pe_op op_add (pv 2) pe_int) (pa_cons (pe_op op_add (pv 3) (pe_op op_mul (pv 6) (pv 4))) pa_nil)))))) (pss_cons (ps_if (pt_cmpR op_isN (pv 7) pe_non (nomark _)) (pss_one (ps_ret pe_non)) pss_nil) (pss_cons (ps_expr (pe_bm PySem.F.plainAttrs_list PySem.F.slot_list_append PySem.F.type_list_append mt_append (pv 5) (pa_cons (pe_tup (pa_cons (pe_op op_add (pv 2) pe_int) (pa_cons (pe_op op_add (pv 3) (pe_op op_mul (pv 6) (pv 4))) pa_nil))) pa_nil))) (pss_one (ps_expr (pe_bm PySem.F.plainAttrs_list PySem.F.slot_list_extend PySem.F.type_list_extend mt_extend (pv 5) (pa_cons (pv 7) pa_nil)))))))) pss_nil))) (pss_one (ps_ret (pv 5))))))), ?_⟩
    have hws := hw.wok
    have hall : ∀ x ∈ wd :: ws, 2 ≤ x ∧ x ≤ 8 := fun x hx => hw.all x (List.mem_of_mem_drop (by rw [hdr]; exact hx))
    have hwd := hall wd List.mem_cons_self
    have hpr := hws.2 lev
    rw [hdr] at hpr
    have hat : all[lev]? = some wd := by
      have := congrArg (fun l => l[0]?) hdr
      simpa using this
    have hsp := span_at hdr
    have hsp1 := span_ok hws hsp
    have hlv : lev + 1 + ws.length = all.length := by
      have := congrArg List.length hdr
      simp only [List.length_drop, List.length_cons] at this
      omega
    refine q_when (b := false) (et_is (et_or (a := false) (b := false) (et_not (a := true) (et_B (ev_isi (ev_var rfl) ev_c (fun _ e => .base (.lst (e _ _ hp))) (kit_ty (by decide +kernel))))) fun _ => et_is (et_test (ev_op (ev_lenL (ev_var rfl) (sq_of hp)) (ev_op (ev_var rfl) (ev_var rfl) (rv_ixL (sq_of hfa) (iv_at hat))) (rv_ne rfl))) (by simp; omega)) rfl) (fun h => by cases h) fun _ H1 e1 => ?_
    refine q_asg (v := .int (prodI ws)) (fun H2 e2 Q2 q2 => en_spans (evp_var (v := .ref fa) rfl fun H1 e => hf.ex (e1.trans e)) hw.len hw.all H2 e2 _ fun p H3 hp e3 h3 => ⟨_, rfl, p, _, _, _, rfl, rfl, sq_of h3, iv_at hsp, q2 _ e3⟩) fun H2 e2 => ?_
    refine q_asgL (el_lst ea_nil (by decide)) fun l H3 hl0 e3 hl3 => ?_
    have e13 := e1.trans (e2.trans e3)
    have hl : H l = none := fresh_back (e1.trans e2) hl0
    refine q_forR1 (ea_cons (ev_lenL (ev_var rfl) (sq_of (e13 _ _ hp))) ea_nil) ⟨by omega, by omega⟩ (fun i σ' H' => ∃ (r6 r7 : Option V) (us : List V), σ' = [some (.ref p), some (.ref fa), some (.int lev), some (.int lo), some (.int (prodI ws)), some (.ref l), r6, r7] ∧ Ex H H' ∧ H' l = some (.lst us) ∧ BlsOf H' ((List.range i).flatMap fun k => subT m ws ((lev : Int) + 1) (lo + (k : Nat) * prodI ws)) us)
      (fun H4 e4 => ⟨none, none, [], rfl, e13.trans e4, e4 _ _ hl3, .nil⟩) (fun i σ' H' hi ⟨r6, r7, us, eσ, ex, hl', hbs⟩ => ?_) fun σ' H' ⟨r6, r7, us, eσ, ex, hl', hbs⟩ => ?_
    · subst eσ
      have hil : i < es.length := by omega
      have hx := List.getElem?_eq_getElem hil
      have he := (hent i _ hx).ex ex
      have hp' := ex _ _ hp
      have evx : Ev (tOp (rIxL K) (tVar 0) (tVar 6)) (List.set [some (.ref p), some (.ref fa), some (.int lev), some (.int lo), some (.int (prodI ws)), some (.ref l), r6, r7] 6 (some (.int (i : Int)))) H' es[i] := ev_op (ev_var rfl) (ev_var rfl) (rv_ixL (sq_of hp') (atI_nat hx))
      have enx : ∀ i : Nat, ((List.range (i + 1)).flatMap fun k : Nat => subT m ws ((lev : Int) + 1) (lo + (k : Nat) * prodI ws)) = ((List.range i).flatMap fun k : Nat => subT m ws ((lev : Int) + 1) (lo + (k : Nat) * prodI ws)) ++ subT m ws ((lev : Int) + 1) (lo + (i : Nat) * prodI ws) := fun i => by
        rw [List.range_succ, List.flatMap_append]
        simp
      refine s_when (et_B (isi_list he evx ev_c)) (fun hb H4 e4 => ?_) fun hb H4 e4 => ⟨_, _, us, rfl, ex.trans e4, e4 _ _ hl', ?_⟩
      · have hk : kind m ws (lo + (i : Nat) * prodI ws) = .tab := by
          cases hq : kind m ws (lo + (i : Nat) * prodI ws) with
          | non => rw [hq] at hb; cases hb
          | mk k => rw [hq] at hb; cases hb
          | tab => rfl
        rcases ent_cases he with ⟨hq, _⟩ | ⟨k, hq, _⟩ | ⟨_, w', ws', ews, hT'⟩
        · rw [hk] at hq; cases hq
        · rw [hk] at hq; cases hq
        subst ews
        have hlw : (w' :: ws').length = ws'.length + 1 := rfl
        refine q_when (b := false) (et_is (et_test (ev_op (ev_op (ev_var rfl) ev_c rv_I0) (ev_lenL (ev_var rfl) (sq_of (e4 _ _ (ex _ _ hfa)))) (rv_eq rfl))) (by simp; omega)) (fun h => by cases h) fun _ H5 e5 => ?_
        have e45 := e4.trans e5
        refine q_asgN (P := fun p H => ∃ us, H p = some (.lst us) ∧ BlsOf H (tabT m w' ws' ((lev : Int) + 1) (lo + (i : Nat) * prodI (w' :: ws'))) us) (evn_call (eap (ea_cons (evx.mono e45) (ea_cons (ev_var rfl) (ea_cons (ev_op (ev_var rfl) ev_c rv_I0) (ea_cons (ev_op (ev_var rfl) (ev_op (ev_var rfl) (ev_var rfl) (rv_I (C := CMul) (.inr ⟨by omega, by omega⟩))) rv_I0) ea_nil))))) fun vs H6 e6 ev Q2 q2 => ⟨es[i], .ref fa, all, lev + 1, _, m, w', ws', by rw [ev]; rfl, hf.ex (ex.trans (e45.trans e6)), hw, drop_next hdr, by omega, hT'.ex (e45.trans e6), fun u H7 hu e7 h7 => q2 u H7 hu e7 h7⟩) fun b H6 hb5 e6 hv6 => ?_
        obtain ⟨zs, hb6, hz6⟩ := hv6
        refine q_when (b := false) (et_is (et_test (ev_op (ev_var rfl) ev_c rv_isN)) (by simp)) (fun h => by cases h) fun _ H7 e7 => ?_
        have e47 := e45.trans (e6.trans e7)
        have hl7 := e47 _ _ hl'
        have hbs7 : BlsOf H7 _ us := BlsOf.ex e47 hbs
        have hb7 := e7 _ _ hb6
        have hz7 : BlsOf H7 _ zs := BlsOf.ex e7 hz6
        have lens := hbs.length
        have lenz := hz6.length
        have lsub := subT_len (m := m) (ws := w' :: ws') ((lev : Int) + 1) (lo + (i : Nat) * prodI (w' :: ws')) fun x hx => (hall x (List.mem_cons_of_mem _ hx)).1
        rw [subT_tab hk, List.length_cons] at lsub
        have lpre := flat_len (f := fun k : Nat => subT m (w' :: ws') ((lev : Int) + 1) (lo + (k : Nat) * prodI (w' :: ws'))) (c := 4096) (fun k => by
          have := subT_len (m := m) (ws := w' :: ws') ((lev : Int) + 1) (lo + (k : Nat) * prodI (w' :: ws')) fun x hx => (hall x (List.mem_cons_of_mem _ hx)).1
          omega) i
        have lpre2 : i * 4096 ≤ 8 * 4096 := Nat.mul_le_mul_right _ (by omega)
        refine s_appP (P := TpAt [.int ((lev : Int) + 1), .int (lo + (i : Nat) * prodI (w' :: ws'))]) hl7 (ev_var rfl) (eup (eu_tup (ea_cons (ev_op (ev_var rfl) ev_c rv_I0) (ea_cons (ev_op (ev_var rfl) (ev_op (ev_var rfl) (ev_var rfl) (rv_I (C := CMul) (.inr ⟨by omega, by omega⟩))) rv_I0) ea_nil)) (by show 2 ≤ 100000; decide))) (by omega) fun v8 H8 e8 h8 => ?_
        have hl8 := e8 _ _ hl7
        have hne : b ≠ l := fun e => by
          have := e45 _ _ hl'
          rw [← e, hb5] at this
          cases this
        have hb8 : upd H8 l (.lst (us ++ [v8])) b = some (.lst zs) := by rw [upd_ne hne]; exact e8 _ _ hb7
        refine s_extP (xs := us ++ [v8]) upd_same (ev_var rfl) hb8 (ev_var rfl) (by simp; omega) fun H9 e9 => ⟨_, _, us ++ [v8] ++ zs, rfl, ?_, upd_same, ?_⟩
        · exact Ex.mut (Ex.trans (Ex.mut (ex.trans (e47.trans e8)) hl) e9) hl
        · have t1 : BlsOf H8 _ us := BlsOf.ex e8 hbs7
          have t3 : BlsOf H8 _ zs := BlsOf.ex e8 hz7
          have t : BlsOf H8 _ (us ++ [v8] ++ zs) := F2.append (F2.append t1 (F2.one (a := ((lev : Int) + 1, lo + (i : Nat) * prodI (w' :: ws'))) h8)) t3
          have t' := BlsOf.xl hl8 (exp_upd (o := .lst (us ++ [v8]))) t
          have t'' := BlsOf.ex e9 t'
          have t4 := BlsOf.xl (e9 _ _ upd_same) (exp_upd (o := .lst (us ++ [v8] ++ zs))) t''
          rw [enx, subT_tab hk]
          rw [show ∀ (A T : List (Int × Int)) x, A ++ x :: T = A ++ [x] ++ T from fun A T x => by simp]
          exact t4
      · have hk : kind m ws (lo + (i : Nat) * prodI ws) ≠ .tab := fun hq => by rw [hq] at hb; cases hb
        rw [enx, subT_not hk, List.append_nil]
        exact BlsOf.ex e4 hbs
    · subst eσ
      rw [show (es.length : Int).toNat = wd.toNat by omega] at hbs
      exact s_ret (ev_var rfl) fun H2 e2 => kq _ H2 hl (ex.trans e2) ⟨us, e2 _ _ hl', BlsOf.ex e2 hbs⟩
end
end Lp
end
section
set_option Elab.async false
set_option linter.all false
set_option maxRecDepth 100000
set_option maxHeartbeats 8000000
/-! Lp.L10: the tables that are needed. -/
namespace Lp
open PySem PySem.Spec PyProof.Rows L2 Evl
def needB (m : Mm) (sp lo : Int) : Bool := !empB m lo sp && !uniB m lo sp
def needRow (m : Mm) (sp : Int) (lev : Int) (n : Nat) : List (Int × Int) := (List.range n).flatMap fun k : Nat => if needB m sp ((k : Int) * sp) then [(lev, (k : Int) * sp)] else []
def spn (ws : List Int) (j : Nat) : Int := prodI (ws.drop (j + 1))
def needTo (m : Mm) (ws : List Int) (n : Nat) : List (Int × Int) := (List.range n).flatMap fun j : Nat => needRow m (spn ws j) ((j : Int) + 1) (prodI ws / spn ws j).toNat
def SortedP (qs : List (Int × Int)) : Prop := qs.Pairwise fun a b => SrtO.lexB b a = false
def keyP (H : Hp) : V → Int × Int
  | .ref a => match H a with
    | some (.tup [.int i, .int j]) => (i, j)
    | _ => (0, 0)
  | _ => (0, 0)
theorem keyP_at {H : Hp} {v : V} {q : Int × Int} (h : TpAt [.int q.1, .int q.2] v H) : keyP H v = q := by
  obtain ⟨p, rfl, hp⟩ := h
  simp only [keyP, hp]
theorem bls_keys {H : Hp} {ps : List (Int × Int)} {us : List V} (h : BlsOf H ps us) : us.map (keyP H) = ps := by
  induction h with
  | nil => rfl
  | cons h _ ih => rw [List.map_cons, ih, keyP_at h]
theorem bls_all {H : Hp} {us : List V} (h : ∀ u ∈ us, TpAt [.int (keyP H u).1, .int (keyP H u).2] u H) : BlsOf H (us.map (keyP H)) us := by
  induction us with
  | nil => exact .nil
  | cons u us ih => exact .cons (h u List.mem_cons_self) (ih fun x hx => h x (List.mem_cons_of_mem _ hx))
theorem bls_mem {H : Hp} {ps : List (Int × Int)} {us : List V} (h : BlsOf H ps us) : ∀ u ∈ us, TpAt [.int (keyP H u).1, .int (keyP H u).2] u H := by
  induction h with
  | nil => intro u hu; cases hu
  | cons h _ ih =>
    intro u hu
    rcases List.mem_cons.mp hu with e | hu
    · subst e; rw [keyP_at h]; exact h
    · exact ih u hu
section
variable {P : Program} {w : World} {K : PySem.W.Frag} {mg : PySem.Str → Option Value} {base : Heap}
theorem LbAt.ex {bs : List (Int × Int)} {v : V} {H H' : Hp} (e : Ex H H') (h : LbAt bs v H) : LbAt bs v H' := let ⟨p, us, h1, h2, h3⟩ := h; ⟨p, us, h1, e _ _ h2, BlsOf.ex e h3⟩
theorem en_sortP {σ : L2.St} {H : Hp} {te : TE} {ps : List (Int × Int)} (ha : EvP te σ H (LbAt ps)) : EvN (tCB (rSortedPO K) (tCons te tNil)) σ H (fun p H' => ∃ us qs, H' p = some (.lst us) ∧ BlsOf H' qs us ∧ qs.Perm ps ∧ SortedP qs) := fun H1 e Q q =>
  ha H1 e _ fun v H2 e2 ⟨a, us, ev, h2, hb⟩ => by
    subst ev
    refine ⟨a, us, keyP H2, rfl, sq_of h2, fun x hx => ?_, fun ys p hs hst hp => ?_⟩
    · exact bls_mem hb x hx
    · refine q p _ (fresh_back e2 hp) (e2.trans (Ex.new hp)) ⟨ys, ys.map (keyP H2), upd_same, ?_, ?_, ?_⟩
      · exact BlsOf.ex (Ex.new hp) (bls_all fun u hu => bls_mem hb u (hst.perm.mem_iff.mp hu))
      · rw [← bls_keys hb]
        exact hst.perm.map _
      · exact List.pairwise_map.mpr hs
theorem given_pos_iff {n : Nat} {f : Nat → Bool} {v : Nat → V} : 0 < (given n f v).length ↔ ∃ i < n, f i = true := by
  constructor
  · intro h
    unfold given at h
    rw [List.length_map] at h
    obtain ⟨x, hx⟩ := List.exists_mem_of_length_pos h
    exact ⟨x, List.mem_range.mp (List.mem_filter.mp hx).1, (List.mem_filter.mp hx).2⟩
  · rintro ⟨i, hi, h⟩
    exact given_pos hi h
def spNeeded : Sp := fun vs H Q _ => ∃ (d : Addr) (fv : V) (m : Mm) (ws : List Int), vs = [.ref d, fv] ∧ DcAt m d H ∧ okMm m ∧ LiAt ws fv H ∧ LawFan ws ∧ ∀ p H', H p = none → Ex H H' → (∃ us qs, H' p = some (.lst us) ∧ BlsOf H' qs us ∧ qs.Perm (needTo m ws (ws.length - 1)) ∧ SortedP qs) → Q (.ref p) H'
theorem b_needed (m_len : mg "len" = none) (m_range : mg "range" = none) (m_sorted : mg "sorted" = none) (d_law_fan_spans : Cl P w K mg base 1 "_law_fan_spans" spFanSpans) (d_law_uniform : Cl P w K mg base 2 "_law_uniform" spUniform) : Body P w K mg base n_law_needed_tables "_law_needed_tables" s_law_needed_tables 2 spNeeded := by
  intro f cdv A outer s H vs Q E hr h
  obtain ⟨d, fv, m, ws, rfl, hd, ok, hf, hw, kq⟩ := h
  obtain ⟨fa, rfl, hfa⟩ := id hf
  refine ⟨_, (pss_cons (ps_set (i := 2) c_law_needed_tables.nd rfl (.inl rfl) (pc d_law_fan_spans hr (by omega) (by rfl) (pa_cons (pv 1) pa_nil))) (pss_cons (ps_set (i := 3) c_law_needed_tables.nd rfl (.inl rfl) (pe_op op_mul (pe_ix (r := rIxL K) ix_list (pv 2) pe_int (fun _ _ => rfl)) (pe_ix (r := rIxL K) ix_list (pv 1) pe_int (fun _ _ => rfl)))) (pss_cons (ps_set (i := 4) c_law_needed_tables.nd rfl (.inl rfl) (pe_lst pa_nil)) (pss_cons (ps_for PassesOwn.never rfl (pi_range1 (by rfl) m_range (pa_cons (pe_op op_sub (pe_callB call_len_seq (by rfl) m_len boot_len (pa_cons (pv 1) pa_nil)) pe_int) pa_nil)) (pg_name (i := 5) c_law_needed_tables.nd rfl (.inl rfl)) (pss_one (ps_for PassesOwn.never rfl (pi_range1 (by rfl) m_range (pa_cons (pe_op op_fdivN (pv 3) (pe_ix (r := rIxL K) ix_list (pv 2) (pv 5) (fun _ _ => rfl))) pa_nil)) (pg_name (i := 6) c_law_needed_tables.nd rfl (.inl rfl)) (pss_cons (ps_set (i := 7) c_law_needed_tables.nd rfl (.inl rfl) (pe_op op_mul (pv 6) (pe_ix (r := rIxL K) ix_list (pv 2) (pv 5) (fun _ _ => rfl)))) (pss_cons (ps_set (i := 8) c_law_needed_tables.nd rfl (.inl rfl) (pe_callB call_len_seq (by rfl) m_len boot_len (pa_cons (pe_lc (own := [("_law_page", 9)]) (g := gName 9) rfl c_law_needed_tables.nd (pi_range2 (by rfl) m_range (pa_cons (pv 7) (pa_cons (pe_op op_add (pv 7) (pe_ix (r := rIxL K) ix_list (pv 2) (pv 5) (fun _ _ => rfl))) pa_nil))) (blkOk_by (N := n_law_needed_tables) (sc := defScope s_law_needed_tables) (by decide +kernel)) (fun _ _ _ _ _ => (pg_name (i := 9) c_law_needed_tables.nd rfl (.inl rfl))) (fun _ _ _ _ _ => (pts_one (pt_cmp (pc_din (u1_of hr) (pv 9) (pv 0))))) (fun _ _ _ _ _ => (pv 9))) pa_nil))) (pss_one (ps_if (PW.pt (pw_and (pt_cmpR op_gt (pv 8) pe_int (nomark _)) (pw_and1 (pt_not (pt_val (pc d_law_uniform hr (by omega) (by rfl) (pa_cons (pv 0) (pa_cons (pv 7) (pa_cons (pe_op op_add (pv 7) (pe_ix (r := rIxL K) ix_list (pv 2) (pv 5) (fun _ _ => rfl))) pa_nil))))))))) (pss_one (ps_expr (pe_bm PySem.F.plainAttrs_list PySem.F.slot_list_append PySem.F.type_list_append mt_append (pv 4) (pa_cons (pe_tup (pa_cons (pe_op op_add (pv 5) pe_int) (pa_cons (pv 7) pa_nil))) pa_nil)))) pss_nil))))))) (pss_one (ps_ret (pe_callB (r := rSortedPO K) cr_sortedPO (by rfl) m_sorted boot_sorted (pa_cons (pv 4) pa_nil)))))))), ?_⟩
  have hws := hw.wok
  have pr := prod_ok hws
  obtain ⟨wd, wt, ew⟩ : ∃ wd wt, ws = wd :: wt := by
    cases hq : ws with
    | nil => exact absurd hq hw.ne
    | cons a l => exact ⟨a, l, rfl⟩
  have hsp0 : (spansOf ws)[0]? = some (prodI wt) := span_at (lev := 0) (by rw [ew]; rfl)
  have hw0 : ws[0]? = some wd := by rw [ew]; rfl
  have sp0 := span_ok hws hsp0
  have w1 : 1 ≤ ws.length := by rw [ew]; simp
  have w4 := hw.len
  refine q_asgP (en_spans (evp_var (v := .ref fa) rfl fun H1 e => hf.ex e) hw.len hw.all).p fun v1 H1 e1 ⟨p1, ev1, hp1⟩ => ?_
  subst ev1
  refine q_asg (v := .int (prodI ws)) (ev_is (ev_op (ev_op (ev_var rfl) ev_c (rv_ixL (sq_of hp1) (iv_at (i := 0) hsp0))) (ev_op (ev_var rfl) ev_c (rv_ixL (sq_of (e1 _ _ hfa)) (iv_at (i := 0) hw0))) (rv_I (C := CMul) (.inl ⟨by omega, by omega⟩))) (by rw [ew, Int.mul_comm]; rfl)) fun H2 e2 => ?_
  refine q_asgL (el_lst ea_nil (by decide)) fun l H3 hl0 e3 hl3 => ?_
  have e13 := e1.trans (e2.trans e3)
  have hl : H l = none := fresh_back (e1.trans e2) hl0
  have hp3 := e3 _ _ (e2 _ _ hp1)
  have hspj : ∀ j : Nat, j < ws.length → (spansOf ws)[j]? = some (spn ws j) := fun j hj => by
    unfold spansOf spn
    rw [List.getElem?_map, List.getElem?_range hj]
    rfl
  have rowlen : ∀ (sp lev : Int) (n : Nat), (needRow m sp lev n).length ≤ n := fun sp lev n => by
    have := flat_len (f := fun k : Nat => if needB m sp ((k : Int) * sp) then [(lev, (k : Int) * sp)] else []) (c := 1) (fun i => by split <;> simp) n
    unfold needRow
    omega
  have spos : ∀ j : Nat, 1 ≤ spn ws j ∧ spn ws j ≤ 4096 := fun j => hws.2 (j + 1)
  have dv : ∀ j : Nat, 0 ≤ prodI ws / spn ws j ∧ prodI ws / spn ws j ≤ 4096 := fun j => by
    have hs := spos j
    have : prodI ws / spn ws j ≤ prodI ws := Int.ediv_le_self _ (by omega)
    have : 0 ≤ prodI ws / spn ws j := Int.ediv_nonneg (by omega) (by omega)
    omega
  have tonext : ∀ j : Nat, needTo m ws (j + 1) = needTo m ws j ++ needRow m (spn ws j) ((j : Int) + 1) (prodI ws / spn ws j).toNat := fun j => by
    unfold needTo
    rw [List.range_succ, List.flatMap_append]
    simp
  have tolen : ∀ j : Nat, (needTo m ws j).length ≤ j * 4096 := fun j => by
    induction j with
    | zero => simp [needTo]
    | succ j ih =>
      rw [tonext, List.length_append, Nat.succ_mul]
      have := rowlen (spn ws j) ((j : Int) + 1) (prodI ws / spn ws j).toNat
      have := dv j
      omega
  refine q_forR1 (ea_cons (ev_op (ev_lenL (ev_var rfl) (sq_of (e13 _ _ hfa))) ev_c rv_I0) ea_nil) ⟨by simp; omega, by simp; omega⟩ (fun j σ' H' => ∃ (r5 r6 r7 r8 : Option V) (us : List V), σ' = [some (.ref d), some (.ref fa), some (.ref p1), some (.int (prodI ws)), some (.ref l), r5, r6, r7, r8, none] ∧ Ex H H' ∧ H' p1 = some (.lst (iv (spansOf ws))) ∧ H' l = some (.lst us) ∧ BlsOf H' (needTo m ws j) us)
    (fun H4 e4 => ⟨none, none, none, none, [], rfl, e13.trans e4, e4 _ _ hp3, e4 _ _ hl3, .nil⟩) (fun j σ' H' hj ⟨r5, r6, r7, r8, us, eσ, ex, hp', hl', hb⟩ => ?_) fun σ' H' ⟨r5, r6, r7, r8, us, eσ, ex, hp', hl', hb⟩ => ?_
  · subst eσ
    have hjl : j < ws.length := by simp at hj; omega
    have hpl : p1 ≠ l := fun e => by rw [e] at hp3; have := e3 _ _ (e2 _ _ hp1); rw [e] at hp1; have := e2 _ _ hp1; rw [this] at hl0; cases hl0
    have hsj := hspj j hjl
    have hs1 := spos j
    have hdv := dv j
    have hj4 : j * 4096 ≤ 4 * 4096 := Nat.mul_le_mul_right _ (by omega)
    have htl := tolen j
    have ixs : ∀ {σ : L2.St} {H5 : Hp}, σ[2]? = some (some (.ref p1)) → σ[5]? = some (some (.int (j : Int))) → H5 p1 = some (.lst (iv (spansOf ws))) → Ev (tOp (rIxL K) (tVar 2) (tVar 5)) σ H5 (.int (spn ws j)) := fun h1 h2 h3 => ev_op (ev_var h1) (ev_var h2) (rv_ixL (sq_of h3) (iv_at hsj))
    refine s_forR1 (n := prodI ws / spn ws j) (ea_cons (ev_is (ev_op (ev_var rfl) (ixs rfl rfl hp') (rv_I (C := CDivN) ⟨by omega, by omega⟩)) (by rw [Int.fdiv_eq_ediv_of_nonneg _ (by omega)])) ea_nil) ⟨by omega, by omega⟩ (fun k σ' H' => ∃ (r6 r7 r8 : Option V) (us : List V), σ' = [some (.ref d), some (.ref fa), some (.ref p1), some (.int (prodI ws)), some (.ref l), some (.int (j : Int)), r6, r7, r8, none] ∧ Ex H H' ∧ H' p1 = some (.lst (iv (spansOf ws))) ∧ H' l = some (.lst us) ∧ BlsOf H' (needTo m ws j ++ needRow m (spn ws j) ((j : Int) + 1) k) us)
      (fun H5 e5 => ⟨r6, r7, r8, us, rfl, ex.trans e5, e5 _ _ hp', e5 _ _ hl', by rw [show needRow m (spn ws j) ((j : Int) + 1) 0 = [] from rfl, List.append_nil]; exact BlsOf.ex e5 hb⟩) (fun k σ' H' hk ⟨r6, r7, r8, us, eσ, ex, hp', hl', hb⟩ => ?_) fun σ' H' ⟨r6, r7, r8, us, eσ, ex, hp', hl', hb⟩ => ⟨_, r6, r7, r8, us, eσ, ex, hp', hl', by rw [tonext]; exact hb⟩
    subst eσ
    have hlow : 0 ≤ (k : Int) * spn ws j ∧ (k : Int) * spn ws j + spn ws j ≤ prodI ws := by
      refine ⟨Int.mul_nonneg (by omega) (by omega), ?_⟩
      have h1 : ((k : Int) + 1) * spn ws j ≤ prodI ws / spn ws j * spn ws j := Int.mul_le_mul_of_nonneg_right (by omega) (by omega)
      have h2 : prodI ws / spn ws j * spn ws j ≤ prodI ws := Int.ediv_mul_le _ (by omega)
      rw [Int.add_mul, Int.one_mul] at h1
      omega
    refine q_asg (v := .int ((k : Int) * spn ws j)) (ev_op (ev_var rfl) (ixs rfl rfl hp') (rv_I (C := CMul) (.inr ⟨by omega, by omega⟩))) fun H5 e5 => ?_
    have hp5 := e5 _ _ hp'
    have hd5 := hd.ex (ex.trans e5)
    refine q_asg (ev_lenNL (el_lcR2 (fun i => (m ((k : Int) * spn ws j + (i : Nat))).isSome) (fun i => .int ((k : Int) * spn ws j + (i : Nat))) (ea_cons (ev_var rfl) (ea_cons (ev_op (ev_var rfl) (ixs rfl rfl hp5) rv_I0) ea_nil)) ⟨by omega, by omega, by omega, by omega⟩ (fun _ => rfl) (fun i H6 e6 hi => et_din (ev_var rfl) (ev_var rfl) (hd5.ex e6)) fun i H6 e6 hi _ => ev_var rfl)) fun H6 e6 => ?_
    have hp6 := e6 _ _ hp5
    have e56 := e5.trans e6
    have rownext : needRow m (spn ws j) ((j : Int) + 1) (k + 1) = needRow m (spn ws j) ((j : Int) + 1) k ++ (if needB m (spn ws j) ((k : Int) * spn ws j) then [((j : Int) + 1, (k : Int) * spn ws j)] else []) := by
      unfold needRow
      rw [List.range_succ, List.flatMap_append]
      simp
    refine s_when (b := needB m (spn ws j) ((k : Int) * spn ws j)) (et_is (et_and (et_test (ev_op (ev_var rfl) ev_c rv_I0)) fun _ => et_not (et_B (b := uniB m ((k : Int) * spn ws j) (spn ws j)) (ev_callV (eap (ea_cons (ev_var rfl) (ea_cons (ev_var rfl) (ea_cons (ev_op (ev_var rfl) (ixs rfl rfl hp6) rv_I0) ea_nil)))) fun vs H7 e7 ev Q2 q2 => ⟨d, _, _, m, ev, hd5.ex (e6.trans e7), ok, hlow.1, by omega, by omega, by rw [unif_eq hs1.1]; exact q2⟩))) ?_) (fun hb1 H7 e7 => ?_) fun hb1 H7 e7 => ⟨_, _, _, us, rfl, ex.trans (e56.trans e7), e7 _ _ hp6, e7 _ _ (e6 _ _ (e5 _ _ hl')), ?_⟩
    · unfold needB
      congr 1
      rw [Bool.eq_iff_iff, decide_eq_true_iff, Bool.not_eq_true', ← Bool.not_eq_true]
      rw [show ∀ x : Nat, ((0 : Int) < (x : Int) ↔ 0 < x) from fun x => by omega, given_pos_iff, empB_iff]
      constructor
      · rintro ⟨i, hi, hs⟩ ha
        rw [ha _ (by omega) (by omega)] at hs
        cases hs
      · intro hn
        false_or_by_contra
        rename_i hno
        refine hn fun x x1 x2 => ?_
        cases hx : m x with
        | none => rfl
        | some q =>
          exact absurd ⟨(x - (k : Int) * spn ws j).toNat, by omega, by rw [show (k : Int) * spn ws j + ((x - (k : Int) * spn ws j).toNat : Nat) = x by omega, hx]; rfl⟩ hno
    · have e57 := e56.trans e7
      have hl7 := e57 _ _ hl'
      have hlen := hb.length
      rw [List.length_append] at hlen
      have := rowlen (spn ws j) ((j : Int) + 1) k
      refine s_appP (P := TpAt [.int ((j : Int) + 1), .int ((k : Int) * spn ws j)]) hl7 (ev_var rfl) (eup (eu_tup (ea_cons (ev_op (ev_var rfl) ev_c rv_I0) (ea_cons (ev_var rfl) ea_nil)) (by show 2 ≤ 100000; decide))) (by omega) fun v8 H8 e8 h8 => ⟨_, _, _, us ++ [v8], rfl, Ex.mut (ex.trans (e57.trans e8)) hl, ?_, upd_same, ?_⟩
      · rw [upd_ne hpl]; exact e8 _ _ (e7 _ _ hp6)
      · rw [rownext, if_pos hb1, ← List.append_assoc]
        exact BlsOf.xl (e8 _ _ hl7) exp_upd (F2.append (BlsOf.ex (e57.trans e8) hb) (F2.one (a := ((j : Int) + 1, (k : Int) * spn ws j)) h8))
    · rw [rownext, hb1, if_neg Bool.false_ne_true, List.append_nil]
      exact BlsOf.ex (e56.trans e7) hb
  · subst eσ
    rw [show ((((iv ws).length : Int) - 1).toNat) = ws.length - 1 by simp] at hb
    exact s_retN (en_sortP (K := K) (evp_var (v := .ref l) rfl fun H1 e => ⟨l, us, rfl, e _ _ hl', BlsOf.ex e hb⟩)) fun p H4 hp e4 h4 => kq p H4 (fresh_back ex hp) (ex.trans e4) h4
end
end Lp
end
section
set_option Elab.async false
set_option linter.all false
set_option maxRecDepth 100000
set_option maxHeartbeats 4000000
/-! Lp.M4: covers. -/
namespace Lp
open PySem PySem.Spec PyProof.Rows L2 Evl
theorem prodI_app (a b : List Int) : prodI (a ++ b) = prodI a * prodI b := by
  induction a with
  | nil => simp [prodI]
  | cons x a ih => simp only [List.cons_append, prodI, ih, Int.mul_assoc]
theorem prodI_dvd {ws : List Int} {a b : Nat} (h : a ≤ b) : prodI (ws.drop b) ∣ prodI (ws.drop a) := by
  have e : ws.drop a = (ws.drop a).take (b - a) ++ ws.drop b := by
    have := (List.take_append_drop (b - a) (ws.drop a)).symm
    rwa [List.drop_drop, show a + (b - a) = b by omega] at this
  rw [e, prodI_app]
  exact ⟨_, Int.mul_comm _ _⟩
theorem spans_at {ws : List Int} {j : Nat} {sp : Int} : (spansOf ws)[j]? = some sp ↔ j < ws.length ∧ sp = spn ws j := by
  unfold spansOf spn
  rw [List.getElem?_map]
  by_cases h : j < ws.length
  · rw [List.getElem?_range h]
    simp [h, eq_comm]
  · rw [List.getElem?_eq_none (by simp; omega)]
    simp [h]
theorem low_dvd {sp p : Int} : sp ∣ lowB sp p := ⟨p / sp, by unfold lowB; rw [Int.mul_comm]⟩
theorem low_of {sp p L : Int} (h : 1 ≤ sp) (hd : sp ∣ L) (h1 : L ≤ p) (h2 : p < L + sp) : lowB sp p = L := by
  obtain ⟨c, rfl⟩ := hd
  have hl := low_le (sp := sp) (page := p) h
  unfold lowB at hl ⊢
  have : p / sp = c := by
    refine Int.le_antisymm ?_ ?_
    · refine Int.lt_add_one_iff.mp (Int.lt_of_mul_lt_mul_right (a := sp) ?_ (by omega))
      rw [Int.add_mul, Int.one_mul, Int.mul_comm c sp]
      omega
    · refine Int.lt_add_one_iff.mp (Int.lt_of_mul_lt_mul_right (a := sp) ?_ (by omega))
      rw [Int.add_mul, Int.one_mul, Int.mul_comm c sp]
      omega
  rw [this, Int.mul_comm]
/-- no block round p that begins before p lies in [s, e) -/
def CovInv (ws : List Int) (s e p : Int) : Prop := ∀ j < ws.length, lowB (spn ws j) p < p → ¬ (s ≤ lowB (spn ws j) p ∧ lowB (spn ws j) p + spn ws j ≤ e)
theorem cov_go {ws : List Int} (hw : LawFan ws) {s e : Int} (hs : 0 ≤ s) (he : e ≤ prodI ws) : ∀ (n : Nat) (p : Int), (e - p).toNat ≤ n → s ≤ p → p ≤ e → CovInv ws s e p → ∃ bs, bs.length ≤ (e - p).toNat ∧ Greedy (spansOf ws) (prodI ws) e p bs ∧ IsCov (spansOf ws) (prodI ws) s e p bs := by
  have hws := hw.wok
  have spos : ∀ j : Nat, 1 ≤ spn ws j ∧ spn ws j ≤ 4096 := fun j => hws.2 (j + 1)
  have w1 : 0 < ws.length := List.length_pos_iff.mpr hw.ne
  intro n
  induction n with
  | zero =>
    intro p hn h1 h2 _
    exact ⟨[], Nat.zero_le _, by show p = e; omega, by show p = e; omega⟩
  | succ n ih =>
    intro p hn h1 h2 hinv
    by_cases heq : p = e
    · exact ⟨[], Nat.zero_le _, heq, heq⟩
    have hlt : p < e := by omega
    -- the widest block
    let ok : Nat → Bool := fun j => decide (lowB (spn ws j) p = p) && decide (p + spn ws j ≤ e)
    have hex : ((List.range ws.length).find? ok).isSome = true := by
      rw [List.find?_isSome]
      refine ⟨ws.length - 1, List.mem_range.mpr (by omega), ?_⟩
      have e1 : spn ws (ws.length - 1) = 1 := by
        unfold spn
        rw [show ws.length - 1 + 1 = ws.length by omega, List.drop_length]
        rfl
      show (decide (lowB (spn ws (ws.length - 1)) p = p) && decide (p + spn ws (ws.length - 1) ≤ e)) = true
      rw [e1]
      simp [lowB]
      omega
    obtain ⟨l, hl⟩ := Option.isSome_iff_exists.mp hex
    have hok := List.find?_some hl
    have hmem := List.mem_range.mp (List.mem_of_find?_eq_some hl)
    have hmin : ∀ j < l, ok j = false := fun j hj => by
      rw [List.find?_range_eq_some] at hl
      simpa using hl.2.2 j hj
    have hok' := Bool.and_eq_true_iff.mp hok
    have k1 : lowB (spn ws l) p = p := of_decide_eq_true hok'.1
    have k2 : p + spn ws l ≤ e := of_decide_eq_true hok'.2
    have kd : spn ws l ∣ p := by have := low_dvd (sp := spn ws l) (p := p); rwa [k1] at this
    have hsp := spos l
    have hinv' : CovInv ws s e (p + spn ws l) := fun j hj hL ⟨g1, g2⟩ => by
      have hsj := spos j
      have hlow := low_le (sp := spn ws j) (page := p + spn ws l) hsj.1
      rcases Nat.lt_or_ge j l with c | c
      · have hd : spn ws l ∣ spn ws j := prodI_dvd (by omega)
        have hdL : spn ws l ∣ lowB (spn ws j) (p + spn ws l) := Int.dvd_trans hd low_dvd
        have hLp : lowB (spn ws j) (p + spn ws l) ≤ p := by
          obtain ⟨x, hx⟩ := hdL
          obtain ⟨y, hy⟩ := kd
          rw [hx]
          have h3 : spn ws l * x < spn ws l * (y + 1) := by rw [Int.mul_add, Int.mul_one, ← hy, ← hx]; exact hL
          have h4 : x < y + 1 := Int.lt_of_mul_lt_mul_left h3 (by omega)
          have h5 : spn ws l * x ≤ spn ws l * y := Int.mul_le_mul_of_nonneg_left (by omega) (by omega)
          omega
        have hlp : lowB (spn ws j) p = lowB (spn ws j) (p + spn ws l) := low_of hsj.1 low_dvd hLp (by omega)
        rcases Int.lt_or_eq_of_le hLp with a | a
        · exact hinv j hj (by omega) ⟨by omega, by omega⟩
        · have := hmin j c
          have e1 : (decide (lowB (spn ws j) p = p) && decide (p + spn ws j ≤ e)) = true := by
            rw [decide_eq_true (by omega : lowB (spn ws j) p = p), decide_eq_true (by omega : p + spn ws j ≤ e)]
            rfl
          rw [show ok j = true from e1] at this
          cases this
      · have hd : spn ws j ∣ spn ws l := prodI_dvd (by omega)
        have : lowB (spn ws j) (p + spn ws l) = p + spn ws l := low_of hsj.1 (Int.dvd_add (Int.dvd_trans hd kd) hd) (Int.le_refl _) (by omega)
        omega
    obtain ⟨bs, b1, b2, b3⟩ := ih (p + spn ws l) (by omega) (by omega) k2 hinv'
    refine ⟨(p, p + spn ws l) :: bs, by simp only [List.length_cons]; omega, ⟨rfl, hlt, by omega, by omega, ⟨l, spn ws l, ⟨spans_at.mpr ⟨hmem, rfl⟩, k1, k2, fun j hj sq hq => ?_⟩, rfl⟩, b2⟩, ⟨rfl, by omega, k2, by omega, by omega, ⟨l, ?_, fun k hk => ⟨spn ws k, spans_at.mpr ⟨by omega, rfl⟩, fun ⟨g1, g2⟩ => ?_⟩⟩, b3⟩⟩
    · obtain ⟨_, rfl⟩ := spans_at.mp hq
      have hm := hmin j hj
      have hlow := low_le (sp := spn ws j) (page := p) (spos j).1
      have := Bool.and_eq_false_iff.mp (show (decide (lowB (spn ws j) p = p) && decide (p + spn ws j ≤ e)) = false from hm)
      rcases this with a | a
      · have := of_decide_eq_false a
        omega
      · have := of_decide_eq_false a
        omega
    · unfold lvlOf
      rw [spans_len, List.find?_range_eq_some]
      refine ⟨?_, List.mem_range.mpr hmem, fun j hj => ?_⟩
      · unfold isB
        rw [spans_at.mpr ⟨hmem, rfl⟩]
        simp [k1]
      · unfold isB
        rw [spans_at.mpr ⟨by omega, rfl⟩]
        have hm := hmin j hj
        have := Bool.and_eq_false_iff.mp (show (decide (lowB (spn ws j) p = p) && decide (p + spn ws j ≤ e)) = false from hm)
        rcases this with a | a
        · simp [of_decide_eq_false a]
        · have h9 := of_decide_eq_false a
          simp
          by_cases h10 : lowB (spn ws j) p = p
          · exact .inr (by omega)
          · exact .inl h10
    · have hm := hmin k (by omega)
      have hlow := low_le (sp := spn ws k) (page := p) (spos k).1
      have := Bool.and_eq_false_iff.mp (show (decide (lowB (spn ws k) p = p) && decide (p + spn ws k ≤ e)) = false from hm)
      rcases this with a | a
      · have := of_decide_eq_false a
        exact hinv k (by omega) (by omega) ⟨g1, g2⟩
      · have := of_decide_eq_false a
        rcases Int.lt_or_eq_of_le hlow.1 with c | c
        · exact hinv k (by omega) c ⟨g1, g2⟩
        · omega
theorem cov_exists {ws : List Int} (hw : LawFan ws) {s e : Int} (hs : 0 ≤ s) (hse : s < e) (he : e ≤ prodI ws) : ∃ bs, bs.length ≤ 5000 ∧ Greedy (spansOf ws) (prodI ws) e s bs ∧ IsCov (spansOf ws) (prodI ws) s e s bs := by
  obtain ⟨bs, h1, h2, h3⟩ := cov_go hw hs he _ s (Nat.le_refl _) (Int.le_refl _) (by omega) fun j hj hl ⟨g1, _⟩ => by omega
  have := hw.prod
  exact ⟨bs, by omega, h2, h3⟩
end Lp
end
section
set_option Elab.async false
set_option linter.all false
set_option maxRecDepth 100000
set_option maxHeartbeats 8000000
/-! Lp.L11: deeds on the regions. -/
namespace Lp
open PySem PySem.Spec PyProof.Rows L2 Evl
def RmAt (C : Addr) (m : Mm) (n : Int) (p : Addr) (H : Hp) : Prop := ∃ rs, RgAt C H p n rs ∧ Canon m 0 n rs
theorem RmAt.ex {C : Addr} {m : Mm} {n : Int} {p : Addr} {H H' : Hp} (e : Ex H H') (h : RmAt C m n p H) : RmAt C m n p H' := let ⟨rs, h1, h2⟩ := h; ⟨rs, h1.ex e, h2⟩
def gA {α : Type} (us ws : List α) : List α := if us.length = 4 ∧ ws.length = 2 then us ++ ws else []
section
variable {P : Program} {w : World} {K : PySem.W.Frag} {mg : PySem.Str → Option Value} {base : Heap} {C : Addr}
/-- assign, as the top leaves it -/
def Afd (K : PySem.W.Frag) (C : Addr) : Prop := ∃ f fd, FunD K "assign" "Regions.assign" (defArgs s_Regions_assign) (defBody s_Regions_assign) (defScope s_Regions_assign) [] [("file", .str ""), ("index", .int 0)] f fd ∧ Cls K C ∧ Meth K C "assign" f
def MtA (P : Program) (w : World) (K : PySem.W.Frag) (mg : PySem.Str → Option Value) (base : Heap) (k : Nat) (C : Addr) (sp : Sp) : Prop := ∃ f fd, FnOk P w K mg base L2.CX0 k f fd p_Regions_assign sp ∧ Cls K C ∧ Meth K C "assign" f ∧ KBinds K fd p_Regions_assign [Str.ofString "file", Str.ofString "index"] gA gA
theorem mtA_of {k : Nat} {sp : Sp} (D : Afd K C) (len : Len p_Regions_assign sp) (b : Body P w K mg base n_Regions_assign "Regions.assign" s_Regions_assign k sp) : MtA P w K mg base (k + 1) C sp := by
  obtain ⟨f, fd, F, hc, hm⟩ := D
  refine ⟨f, fd, F.ok c_Regions_assign len (fun cdv A outer s H vs Q E hr hsp => ?_), hc, hm, ?_⟩
  · obtain ⟨t, h, q⟩ := b f cdv A outer s H vs Q E hr hsp
    exact ⟨t, h.nox, q⟩
  · refine ⟨fun s us ws _ hl => ?_, fun {vs us zs ws} r1 r2 => ?_⟩
    · obtain ⟨oc, od, dV, kV, doc, pm, an, cdv, ct, osl, rfl, lk, hcd, hD, hK⟩ := F.ex
      rcases hD with ⟨_, rfl⟩ | ⟨e, _⟩
      · unfold gA at hl ⊢
        by_cases c : us.length = 4 ∧ ws.length = 2
        · rw [if_pos c]
          match us, ws, c with
          | [a, b, c, d], [e, f], _ => exact .of_eq rfl
        · rw [if_neg c] at hl
          cases hl
      · exact absurd rfl e
    · unfold gA
      by_cases c : us.length = 4 ∧ ws.length = 2
      · rw [if_pos c, if_pos (by rw [r1.length, r2.length]; exact c)]
        exact r1.append r2
      · rw [if_neg c, if_neg (by rw [r1.length, r2.length]; exact c)]
        exact .nil
theorem pmA {X : Cx} {k j : Nat} {sp : Sp} {pos apos : Pos} {e o : Expr} {es : List Expr} {kws : List Keyword} {ta : TE} {t tk : TA} {pl : Sem Bool} (c : MtA X.prog X.w X.K X.mg X.base k C sp) (hr : Room j X.A) (hk : k ≤ j) (he : PE X o ta) (ha : PA X (e :: es) t) (hkw : PK X kws tk)
    (hall : (backToKw pos (keywordEach kws X.env)).all (·.1.isSome) = true := by rfl) (hks : (backToKw pos (keywordEach kws X.env)).filterMap (·.1) = [Str.ofString "file", Str.ofString "index"] := by rfl)
    (hst : starEach (e :: es) X.env = (false, eval e X.env) :: starEach es X.env := by rfl) (hpl : ((backTo pos (starEach (e :: es) X.env)).any (·.1) || (backToKw pos (keywordEach kws X.env)).any (·.1.isNone)) = false := by rfl)
    (ht : eval (.Call (.Attribute o "assign" apos) (e :: es) kws pos) X.env = (do
      let ov ← eval o X.env
      standAt apos.atName
      let (f, first) ← holding [ov] (getMethod ov "assign" pl)
      callWith pos f first (backTo pos (starEach (e :: es) X.env)) (backToKw pos (keywordEach kws X.env))) := by rfl) :
    PE X (.Call (.Attribute o "assign" apos) (e :: es) kws pos) (tMethK C "assign" sp gA L2.E0 ta t tk) := by
  obtain ⟨f, fd, F, hc, hm, hb⟩ := c
  exact pe_methK (pl := pl) he hc hm F (hr.mono hk) hb L2.pass0 ha hkw hall hks hst hpl ht
theorem go_assign {σ : L2.St} {H : Hp} {ta : TE} {t tk : TA} {Q : VK} {m : Mm} {n a b i : Int} {r f : PySem.Str} {p : Addr} (hp : Ev ta σ H (.ref p)) (ht : EvA t σ H [.int a, .int b, .str r]) (hk : EvA tk σ H [.str f, .int i]) (hR : RmAt C m n p H) (hd : DeedOk n (.as a b r f i)) (ok : okMm m) (n4 : n ≤ 4096)
    (k : ∀ H', ExP p H H' → RmAt C (deedM m (.as a b r f i)) n p H' → Q .non H') : tMethK C "assign" (spAssign C) gA L2.E0 ta t tk σ H Q := by
  refine hp H (Ex.refl H) _ fun H1 e1 => ?_
  obtain ⟨rs, hrg, hcan⟩ := id (hR.ex e1)
  obtain ⟨dx, a0, us0, hp2, ha0, hus0⟩ := id hrg
  refine ⟨p, dx, FR n a0, rfl, hp2, fr_no n a0 (by decide +kernel) (by decide +kernel), ?_⟩
  refine ht H1 e1 _ fun H2 e2 => hk H2 (e1.trans e2) _ fun H3 e3 => ?_
  obtain ⟨d1, d2, d3, d4, d5⟩ := hd
  have hl := desc_len hcan.1
  have can' : Canon (deedM m (.as a b r f i)) 0 n (putR rs [⟨a, b, mkOf r f i⟩] a b n) := put_canon hcan d1 (by omega) d3 ⟨Int.le_refl _, d2, Int.le_refl _, fun x (h1 : a ≤ x) (h2 : x < a) => by omega, fun x h1 h2 => if_pos ⟨h1, h2⟩, Int.le_refl _, fun x (h1 : b ≤ x) (h2 : x < b) => by omega⟩ fun x hx => if_neg (by omega)
  exact ⟨p, n, a, b, r, f, i, rs, rfl, hrg.ex (e2.trans e3), d1, d2, d3, by omega, desc_ok hcan.1 ok, ⟨d4, d5⟩, can'.are, fun H' ex hR' => k H' ((exp_of (e1.trans (e2.trans e3))).trans ex) ⟨_, hR', can'⟩⟩
theorem go_unassign {σ : L2.St} {H : Hp} {ta : TE} {t : TA} {Q : VK} {m : Mm} {n a b : Int} {p : Addr} (hp : Ev ta σ H (.ref p)) (ht : EvA t σ H [.int a, .int b]) (hR : RmAt C m n p H) (hd : DeedOk n (.un a b)) (ok : okMm m) (n4 : n ≤ 4096)
    (k : ∀ H', ExP p H H' → RmAt C (deedM m (.un a b)) n p H' → Q .non H') : tMeth C "unassign" (spUnassign C) [] L2.E0 ta t σ H Q := by
  refine hp H (Ex.refl H) _ fun H1 e1 => ?_
  obtain ⟨rs, hrg, hcan⟩ := id (hR.ex e1)
  obtain ⟨dx, a0, us0, hp2, ha0, hus0⟩ := id hrg
  refine ⟨p, dx, FR n a0, rfl, hp2, fr_no n a0 (by decide +kernel) (by decide +kernel), ?_⟩
  refine ht H1 e1 _ fun H2 e2 => ?_
  obtain ⟨d1, d2, d3⟩ := hd
  have hl := desc_len hcan.1
  have can' : Canon (deedM m (.un a b)) 0 n (putR rs [] a b n) := put_canon hcan d1 (by omega) d3 ⟨by omega, fun x h1 h2 => if_pos ⟨h1, h2⟩⟩ fun x hx => if_neg (by omega)
  exact ⟨p, n, a, b, rs, rfl, hrg.ex e2, d1, d2, d3, by omega, desc_ok hcan.1 ok, can'.are, fun H' ex hR' => k H' ((exp_of (e1.trans e2)).trans ex) ⟨_, hR', can'⟩⟩
theorem TpAt.xi {xs : List V} {v : V} {p C dx : Addr} {fs : List (PySem.Str × V)} {H H' : Hp} (hd : H p = some (.ins C dx fs)) (e : ExP p H H') (h : TpAt xs v H) : TpAt xs v H' := by
  obtain ⟨q, rfl, hp⟩ := h
  refine ⟨q, rfl, e _ _ hp fun z => ?_⟩
  rw [z, hd] at hp
  cases hp
theorem RmAt.ins {m : Mm} {n : Int} {p : Addr} {H : Hp} (h : RmAt C m n p H) : ∃ dx fs, H p = some (.ins C dx fs) := let ⟨_, ⟨dx, _, _, h1, _⟩, _⟩ := h; ⟨dx, _, h1⟩
def spMarksAsk (C : Addr) : Sp := fun vs H Q _ => ∃ (p : Addr) (v : V) (n : Int) (m : Mm) (dd : Deed), vs = [.ref p, v] ∧ RmAt C m n p H ∧ TpAt (dvs dd) v H ∧ DeedOk n dd ∧ okMm m ∧ n ≤ 4096 ∧ ∀ u H', ExP p H H' → RmAt C (deedM m dd) n p H' → TpAt [.str "gives", .non] u H' → Q u H'
theorem b_marks_ask (d_unassign : Mt P w K mg base 6 C "unassign" (spUnassign C)) (d_assignA : MtA P w K mg base 6 C (spAssign C)) : Body P w K mg base n_law_marks_ask "_law_marks_ask" s_law_marks_ask 6 (spMarksAsk C) := by
  intro f cdv A outer s H vs Q E hr h
  obtain ⟨p, v, n, m, dd, rfl, hR, hv, ok, om, n4, kq⟩ := h
  refine ⟨_, (pss_one (ps_try_thru0 (pss_cons (ps_if (pt_cmpR op_eq (pe_ix (r := rIxT K) ix_tup (pv 1) pe_int (fun _ _ => rfl)) pe_str (nomark _)) (pss_one (ps_ret (pe_tup (pa_cons pe_str (pa_cons (pm d_unassign hr (by omega) (pv 0) (pa_cons (pe_ix (r := rIxT K) ix_tup (pv 1) pe_int (fun _ _ => rfl)) (pa_cons (pe_ix (r := rIxT K) ix_tup (pv 1) pe_int (fun _ _ => rfl)) pa_nil))) pa_nil))))) pss_nil) (pss_cons (ps_if (pt_cmpR op_eq (pe_ix (r := rIxT K) ix_tup (pv 1) pe_int (fun _ _ => rfl)) pe_str (nomark _)) (pss_one ps_never) pss_nil) (pss_cons (ps_if (pt_cmpR op_eq (pe_ix (r := rIxT K) ix_tup (pv 1) pe_int (fun _ _ => rfl)) pe_int (nomark _)) (pss_one (ps_ret (pe_tup (pa_cons pe_str (pa_cons (pmA d_assignA hr (by omega) (pv 0) (pa_cons (pe_ix (r := rIxT K) ix_tup (pv 1) pe_int (fun _ _ => rfl)) (pa_cons (pe_ix (r := rIxT K) ix_tup (pv 1) pe_int (fun _ _ => rfl)) (pa_cons (pe_ix (r := rIxT K) ix_tup (pv 1) pe_int (fun _ _ => rfl)) pa_nil))) (pk_cons (pe_ix (r := rIxT K) ix_tup (pv 1) pe_int (fun _ _ => rfl)) (pk_cons (pe_ix (r := rIxT K) ix_tup (pv 1) pe_int (fun _ _ => rfl)) pk_nil))) pa_nil))))) pss_nil) (pss_cons ps_never (pss_cons ps_never (pss_one ps_never)))))))), ?_⟩
  cases dd with
  | un a b =>
    refine q_when (b := true) (et_is (et_test (ev_op (ev_ixT (evt_var (v := v) rfl hv) ev_c rfl) ev_c (rv_eq rfl))) (by decide +kernel)) (fun _ H1 e1 => ?_) fun h => by cases h
    have hv1 := hv.ex e1
    refine go_unassign (ev_var rfl) (ea_cons (ev_ixT (evt_var (v := v) rfl hv1) ev_c rfl) (ea_cons (ev_ixT (evt_var (v := v) rfl hv1) ev_c rfl) ea_nil)) (hR.ex e1) ok om n4 fun H' ex hR' => ⟨(by show 2 ≤ sizeLine; decide), fun t ht => ?_⟩
    exact kq _ _ ((exp_of e1).trans (ex.trans (exp_of (Ex.new ht)))) (hR'.ex (Ex.new ht)) ⟨t, rfl, upd_same⟩
  | as a b r fn i =>
    refine q_when (b := false) (et_is (et_test (ev_op (ev_ixT (evt_var (v := v) rfl hv) ev_c rfl) ev_c (rv_eq rfl))) (by decide +kernel)) (fun h => by cases h) fun _ H1 e1 => ?_
    refine q_when (b := false) (et_is (et_test (ev_op (ev_ixT (evt_var (v := v) rfl (hv.ex e1)) ev_c rfl) ev_c (rv_eq rfl))) (by decide +kernel)) (fun h => by cases h) fun _ H2 e2 => ?_
    refine q_when (b := true) (et_is (et_test (ev_op (ev_ixT (evt_var (v := v) rfl (hv.ex (e1.trans e2))) ev_c rfl) ev_c (rv_eq rfl))) (by decide +kernel)) (fun _ H3 e3 => ?_) fun h => by cases h
    have e13 := e1.trans (e2.trans e3)
    have hv3 := hv.ex e13
    refine go_assign (ev_var rfl) (ea_cons (ev_ixT (evt_var (v := v) rfl hv3) ev_c rfl) (ea_cons (ev_ixT (evt_var (v := v) rfl hv3) ev_c rfl) (ea_cons (ev_ixT (evt_var (v := v) rfl hv3) ev_c rfl) ea_nil))) (ea_cons (ev_ixT (evt_var (v := v) rfl hv3) ev_c rfl) (ea_cons (ev_ixT (evt_var (v := v) rfl hv3) ev_c rfl) ea_nil)) (hR.ex e13) ok om n4 fun H' ex hR' => ⟨(by show 2 ≤ sizeLine; decide), fun t ht => ?_⟩
    exact kq _ _ ((exp_of e13).trans (ex.trans (exp_of (Ex.new ht)))) (hR'.ex (Ex.new ht)) ⟨t, rfl, upd_same⟩
def deedTo (m : Mm) (a b : Int) (r f : PySem.Str) (i : Int) : Mm := deedM m (.as a b r f i)
theorem deed_chain {m : Mm} {a s e i : Int} {r f : PySem.Str} (h1 : a ≤ s) (h2 : s < e) : deedM (deedM m (.as a s r f i)) (.as s e r f (if f = ("" : PySem.Str) then i else i + s - a)) = deedM m (.as a e r f i) := funext fun x => by
  simp only [deedM]
  by_cases c1 : s ≤ x ∧ x < e
  · rw [if_pos c1, if_pos (show a ≤ x ∧ x < e by omega)]
    congr 1
    unfold advM mkOf
    by_cases hf : f = ("" : PySem.Str)
    · simp [hf]
    · simp only [if_neg hf, Mark.mk.injEq, true_and]
      omega
  · rw [if_neg c1]
    by_cases c2 : a ≤ x ∧ x < s
    · rw [if_pos c2, if_pos (show a ≤ x ∧ x < e by omega)]
    · rw [if_neg c2, if_neg (show ¬ (a ≤ x ∧ x < e) by omega)]
def CS : Type := Addr
def spFoldTell (C S : Addr) : Sp := fun vs H Q _ => ∃ (p : Addr) (sv v : V) (bl : Bool) (ws : List Int) (m : Mm) (dd : Deed), vs = [.ref p, sv, v, .bl bl] ∧ RmAt C m (prodI ws) p H ∧ ShAt S ws sv H ∧ LawFan ws ∧ TpAt (dvs dd) v H ∧ DeedOk (prodI ws) dd ∧ okMm m ∧
  ∀ u H', ExP p H H' → RmAt C (deedM m dd) (prodI ws) p H' → TpAt [.str "gives", .non] u H' → Q u H'
def posAt : Int → List (Int × Int) → Nat → Int
  | p, _, 0 => p
  | p, [], _ + 1 => p
  | _, q :: r, k + 1 => posAt q.2 r k
theorem IsCov.at {sps : List Int} {n s e : Int} : ∀ {bs : List (Int × Int)} {p : Int}, IsCov sps n s e p bs → ∀ (i : Nat) q, bs[i]? = some q → q.1 = posAt p bs i ∧ q.2 = posAt p bs (i + 1) ∧ q.1 < q.2 ∧ q.2 ≤ e ∧ p ≤ q.1
  | [], p, h, i, q, hq => by simp at hq
  | (a, b) :: r, p, ⟨h1, h2, h3, h4, h5, h6, h7⟩, i, q, hq => by
    cases i with
    | zero =>
      simp at hq
      subst hq
      exact ⟨h1, by cases r <;> rfl, h2, h3, by show p ≤ a; omega⟩
    | succ j =>
      have := IsCov.at h7 j q (by simpa using hq)
      exact ⟨this.1, this.2.1, this.2.2.1, this.2.2.2.1, by omega⟩
theorem IsCov.fin {sps : List Int} {n s e : Int} : ∀ {bs : List (Int × Int)} {p : Int}, IsCov sps n s e p bs → posAt p bs bs.length = e
  | [], p, h => h
  | (a, b) :: r, p, ⟨h1, h2, h3, h4, h5, h6, h7⟩ => by
    show posAt b r r.length = e
    exact IsCov.fin h7
theorem okMm.as {m : Mm} {a b i : Int} {r f : PySem.Str} (h : okMm m) (hr : PyData.strOk r = true) (hf : PyData.strOk f = true) : okMm (deedM m (.as a b r f i)) := fun p k e => by
  simp only [deedM] at e
  split at e
  · cases e
    exact okM.adv (m := mkOf r f i) ⟨hr, hf⟩ _
  · exact h p k e
theorem ExP.ins {p b C dx : Addr} {fs : List (PySem.Str × V)} {H H' : Hp} {o : HO} (hd : H p = some (.ins C dx fs)) (e : ExP p H H') (h : H b = some o) (hn : ∀ C dx fs, o ≠ .ins C dx fs) : H' b = some o := e b o h fun z => by
  rw [z, hd] at h
  cases h
  exact hn _ _ _ rfl
theorem b_fold_tell {S : Addr} (TC : TS K S) (d_law_marks_ask : Cl P w K mg base 7 "_law_marks_ask" (spMarksAsk C)) (d_cover : Cl P w K mg base 5 "cover" (spCover S)) (d_assignA : MtA P w K mg base 6 C (spAssign C)) : Body P w K mg base n_law_fold_tell "_law_fold_tell" s_law_fold_tell 7 (spFoldTell C S) := by
  intro f cdv A outer s H vs Q E hr h
  obtain ⟨p, sv, v, bl, ws, m, dd, rfl, hR, hS, hw, hv, ok, om, kq⟩ := h
  refine ⟨_, (pss_cons (ps_if (PW.pt (pw_or (pt_cmpR op_ne (pe_ix (r := rIxT K) ix_tup (pv 2) pe_int (fun _ _ => rfl)) pe_str (nomark _)) (pw_or1 (pt_not (pt_truth (pv 3) (by intro _; rfl)))))) (pss_one (ps_ret (pc d_law_marks_ask hr (by omega) (by rfl) (pa_cons (pv 0) (pa_cons (pv 2) pa_nil))))) pss_nil) (pss_cons (ps_for PassesOwn.never rfl (pi_list (pc d_cover hr (by omega) (by rfl) (pa_cons (pv 1) (pa_cons (pe_ix (r := rIxT K) ix_tup (pv 2) pe_int (fun _ _ => rfl)) (pa_cons (pe_ix (r := rIxT K) ix_tup (pv 2) pe_int (fun _ _ => rfl)) pa_nil))))) (pg_name (i := 4) c_law_fold_tell.nd rfl (.inl rfl)) (pss_cons (ps_set (i := 5) c_law_fold_tell.nd rfl (.inl rfl) (pe_ix (r := rIxT K) ix_tup (pv 2) pe_int (fun _ _ => rfl))) (pss_cons (ps_if (pt_cmpR op_ne (pe_ix (r := rIxT K) ix_tup (pv 2) pe_int (fun _ _ => rfl)) pe_str (nomark _)) (pss_one (ps_set (i := 5) c_law_fold_tell.nd rfl (.inl rfl) (pe_op op_sub (pe_op op_add (pe_ix (r := rIxT K) ix_tup (pv 2) pe_int (fun _ _ => rfl)) (pe_ix (r := rIxT K) ix_tup (pv 4) pe_int (fun _ _ => rfl))) (pe_ix (r := rIxT K) ix_tup (pv 2) pe_int (fun _ _ => rfl))))) pss_nil) (pss_one (ps_expr (pmA d_assignA hr (by omega) (pv 0) (pa_cons (pe_ix (r := rIxT K) ix_tup (pv 4) pe_int (fun _ _ => rfl)) (pa_cons (pe_ix (r := rIxT K) ix_tup (pv 4) pe_int (fun _ _ => rfl)) (pa_cons (pe_ix (r := rIxT K) ix_tup (pv 2) pe_int (fun _ _ => rfl)) pa_nil))) (pk_cons (pe_ix (r := rIxT K) ix_tup (pv 2) pe_int (fun _ _ => rfl)) (pk_cons (pv 5) pk_nil)))))))) (pss_one (ps_ret (pe_tup (pa_cons pe_str (pa_cons pe_non pa_nil))))))), ?_⟩
  have hws := hw.wok
  have n4 := hw.prod
  have etb : ∀ {σ : L2.St} {H1 : Hp}, σ[3]? = some (some (.bl bl)) → EvT (fun σ H Q => tVar 3 σ H fun x H' => ∃ k, TruV K x H' k ∧ Q k H') σ H1 bl := fun h H1 e Q q => ⟨_, h, bl, rfl, q H1 (Ex.refl _)⟩
  have ask : ∀ {σ : L2.St} {H1 : Hp} {D : Ends}, σ[0]? = some (some (.ref p)) → σ[2]? = some (some v) → Ex H H1 → D.rt = Q → tRet (tCall (spMarksAsk C) [] L2.E0 (tCons (tVar 0) (tCons (tVar 2) tNil))) D σ H1 := fun h0 h2 e hD => by
    refine ⟨_, h0, _, h2, p, v, prodI ws, m, dd, rfl, hR.ex e, hv.ex e, ok, om, n4, fun u H' ex hR' hu => ?_⟩
    rw [hD]
    exact kq u H' ((exp_of e).trans ex) hR' hu
  cases dd with
  | un a b =>
    refine q_when (b := true) (et_is (et_or (a := true) (b := false) (et_is (et_test (ev_op (ev_ixT (evt_var (v := v) rfl hv) ev_c rfl) ev_c (rv_ne rfl))) (by decide +kernel)) fun h => by cases h) rfl) (fun _ H1 e1 => ask rfl rfl e1 rfl) fun h => by cases h
  | as a b r fn i =>
    obtain ⟨a0, ab, bn, ro, fo⟩ := id ok
    refine q_when (b := !bl) (et_is (et_or (a := false) (b := !bl) (et_is (et_test (ev_op (ev_ixT (evt_var (v := v) rfl hv) ev_c rfl) ev_c (rv_ne rfl))) (by decide +kernel)) fun _ => et_not (etb rfl)) rfl) (fun _ H1 e1 => ask rfl rfl e1 rfl) fun _ H1 e1 => ?_
    obtain ⟨bs, bl5, gr, cv⟩ := cov_exists hw a0 ab bn
    have hv1 := hv.ex e1
    obtain ⟨dxI, fsI, hpI⟩ := (hR.ex e1).ins
    have hne : ∀ {H' : Hp} {q : Addr} {xs : List V}, ExP p H1 H' → H1 q = some (.lst xs) → H' q = some (.lst xs) := fun e h => ExP.ins hpI e h fun _ _ _ z => by cases z
    refine q_forNP (K := K) (A := fun xs H => BlsOf H bs xs) (fun H2 e2 Q2 q2 => ⟨_, rfl, ev_ixT (evt_var (v := v) (i := 2) rfl (hv1.ex e2)) ev_c rfl H2 (Ex.refl _) _ fun H3 e3 => ev_ixT (evt_var (v := v) (i := 2) rfl (hv1.ex (e2.trans e3))) ev_c rfl H3 (Ex.refl _) _ fun H4 e4 => ⟨sv, ws, bs, a, b, rfl, hS.ex (e1.trans (e2.trans (e3.trans e4))), hws, a0, ab, bn, bl5, gr, cv, fun q H5 hq e5 h5 => q2 q H5 (fresh_back (e3.trans e4) hq) (e3.trans (e4.trans e5)) h5⟩⟩)
      (fun xs q j σ' H' => ∃ (r4 r5 : Option V), σ' = [some (.ref p), some sv, some v, some (.bl bl), r4, r5] ∧ ExP p H H' ∧ H' p ≠ none ∧ H' q = some (.lst xs) ∧ BlsOf H' bs xs ∧ TpAt (dvs (.as a b r fn i)) v H' ∧ RmAt C (deedM m (.as a (posAt a bs j) r fn i)) (prodI ws) p H')
      (fun xs q H2 hq e2 h2 hA => ⟨none, none, rfl, exp_of (e1.trans e2), by rw [e2 _ _ hpI]; simp, h2, hA, hv1.ex e2, ?_⟩) (fun xs q j σ' H' _ ⟨_, _, _, _, _, h1, _⟩ => sq_of h1) (fun xs q j x σ' H' hx ⟨r4, r5, eσ, ex, hpn, h1, hb, hv', hR'⟩ => ?_) fun xs q σ' H' ⟨r4, r5, eσ, ex, hpn, h1, hb, hv', hR'⟩ => ?_
    · have e0 : deedM m (.as a (posAt a bs 0) r fn i) = m := funext fun x => if_neg (show ¬ (a ≤ x ∧ x < posAt a bs 0) by have : posAt a bs 0 = a := (by cases bs <;> rfl); omega)
      rw [e0]
      exact hR.ex (e1.trans e2)
    · subst eσ
      obtain ⟨qq, hqq, hxx⟩ := F2.at hb hx
      obtain ⟨g1, g2, g3, g4, g5⟩ := cv.at j qq hqq
      refine q_asg (ev_ixT (evt_var (v := v) rfl hv') ev_c rfl) fun H2 e2 => ?_
      have hv2 := hv'.ex e2
      have hx2 := TpAt.ex e2 hxx
      refine q_ifAsg (v := .int (if fn = ("" : PySem.Str) then i else i + qq.1 - a)) (et_test (ev_op (ev_ixT (evt_var (v := v) rfl hv2) ev_c rfl) ev_c (rv_ne rfl))) (fun hb => ?_) (fun hb => ?_) fun H3 e3 => ?_
      · have hf : ¬ fn = ("" : PySem.Str) := by simpa using hb
        rw [if_neg hf]
        exact ev_op (ev_op (ev_ixT (evt_var (v := v) rfl hv2) ev_c rfl) (ev_ixT (evt_var rfl hx2) ev_c rfl) rv_I0) (ev_ixT (evt_var (v := v) rfl hv2) ev_c rfl) rv_I0
      · have hf : fn = ("" : PySem.Str) := by simpa using hb
        rw [if_pos hf]
        rfl
      have e23 := e2.trans e3
      have hv3 := hv2.ex e3
      have hx3 := TpAt.ex e3 hx2
      obtain ⟨dx3, fs3, hp3⟩ := (hR'.ex e23).ins
      refine go_assign (r := r) (f := fn) (i := if fn = ("" : PySem.Str) then i else i + qq.1 - a) (a := qq.1) (b := qq.2) (ev_var rfl) (ea_cons (ev_ixT (evt_var rfl hx3) ev_c rfl) (ea_cons (ev_ixT (evt_var rfl hx3) ev_c rfl) (ea_cons (ev_ixT (evt_var (v := v) rfl hv3) ev_c rfl) ea_nil))) (ea_cons (ev_ixT (evt_var (v := v) rfl hv3) ev_c rfl) (ea_cons (ev_var rfl) ea_nil)) (hR'.ex e23) ⟨by omega, g3, by omega, ro, fo⟩ (om.as ro fo) n4 fun H4 ex4 hR4 => ?_
      refine ⟨_, _, rfl, ex.trans ((exp_of e23).trans ex4), ?_, ExP.ins hp3 ex4 (e23 _ _ h1) (fun _ _ _ z => by cases z), F2.imp (BlsOf.ex e23 hb) (fun _ _ z => TpAt.xi hp3 ex4 z), TpAt.xi hp3 ex4 hv3, ?_⟩
      · obtain ⟨_, _, hq4⟩ := hR4.ins
        rw [hq4]; simp
      · rw [← g1] at hR4
        rw [deed_chain g5 g3, g2] at hR4
        exact hR4
    · subst eσ
      have hlen : bs.length = xs.length := F2.length hb
      rw [← hlen, cv.fin] at hR'
      refine s_retP (eup (eu_tup (ea_cons ev_c (ea_cons ev_c ea_nil)) (by show 2 ≤ 100000; decide))) fun u H2 e2 h2 => kq u H2 (ex.trans (exp_of e2)) (hR'.ex e2) h2
end
end Lp
end
section
set_option Elab.async false
set_option linter.all false
set_option maxRecDepth 100000
set_option maxHeartbeats 4000000
/-! Lp.M5: blocks and tables. -/
namespace Lp
open PySem PySem.Spec PyProof.Rows L2 Evl
theorem prod_split {ws : List Int} (hp : PosW ws) (k : Nat) : ∃ c : Int, 1 ≤ c ∧ prodI ws = c * prodI (ws.drop k) := by
  have hd := prodI_dvd (ws := ws) (a := 0) (b := k) (Nat.zero_le _)
  obtain ⟨c, hc⟩ := hd
  rw [List.drop_zero] at hc
  have h1 := hp 0
  have h2 := hp k
  rw [List.drop_zero] at h1
  refine ⟨c, ?_, by rw [hc, Int.mul_comm]⟩
  false_or_by_contra
  have : prodI (ws.drop k) * c ≤ prodI (ws.drop k) * 0 := Int.mul_le_mul_of_nonneg_left (by omega) (by omega)
  omega
/-- where a block of a lower level lies -/
theorem child_of {c sp t n : Int} (hc : 1 ≤ c) (hs : 1 ≤ sp) (ht : 0 ≤ t) (hb : t * sp + sp ≤ n * (c * sp)) : ∃ (i : Nat) (t' : Int), (i : Int) < n ∧ 0 ≤ t' ∧ t * sp = (i : Int) * (c * sp) + t' * sp ∧ t' * sp + sp ≤ c * sp := by
  have e := Int.emod_add_mul_ediv t c
  have e1 := Int.emod_nonneg t (by omega : c ≠ 0)
  have e2 := Int.emod_lt_of_pos t (by omega : 0 < c)
  have e3 : 0 ≤ t / c := Int.ediv_nonneg ht (by omega)
  have e4 : t * sp = (t / c) * (c * sp) + (t % c) * sp := by
    rw [← Int.mul_assoc, ← Int.add_mul]
    congr 1
    rw [Int.mul_comm (t / c) c]
    omega
  have e5 : (t % c) * sp + sp ≤ c * sp := by
    have : (t % c + 1) * sp ≤ c * sp := Int.mul_le_mul_of_nonneg_right (by omega) (by omega)
    rw [Int.add_mul, Int.one_mul] at this
    exact this
  refine ⟨(t / c).toNat, t % c, ?_, e1, by rw [show (((t / c).toNat : Nat) : Int) = t / c by omega]; exact e4, e5⟩
  rw [show (((t / c).toNat : Nat) : Int) = t / c by omega]
  have hcs : 1 * 1 ≤ c * sp := Int.mul_le_mul hc hs (by omega) (by omega)
  have h0 : 0 ≤ (t % c) * sp := Int.mul_nonneg e1 (by omega)
  have h9 : (t / c) * (c * sp) < n * (c * sp) := by omega
  exact Int.lt_of_mul_lt_mul_right h9 (by omega)
theorem chunk_lt {i j : Nat} {P : Int} (hP : 1 ≤ P) (h : i < j) : (i : Int) * P + P ≤ (j : Int) * P := by
  have : ((i : Int) + 1) * P ≤ (j : Int) * P := Int.mul_le_mul_of_nonneg_right (by omega) (by omega)
  rw [Int.add_mul, Int.one_mul] at this
  exact this
/-! rows are blocks -/
theorem row_blk {m : Mm} : ∀ {ws : List Int} {lo : Int}, PosW ws → ∀ r ∈ blkRows m ws lo, ∃ (k : Nat) (t : Int), k ≤ ws.length ∧ r.s = lo + t * prodI (ws.drop k) ∧ r.e = r.s + prodI (ws.drop k)
  | [], lo, hp, r, hr => by
    unfold blkRows at hr
    cases hk : kind m [] lo with
    | non => rw [hk] at hr; cases hr
    | mk k => rw [hk] at hr; rw [List.mem_singleton.mp hr]; exact ⟨0, 0, Nat.le_refl _, by simp, rfl⟩
    | tab => rw [hk] at hr; cases hr
  | w :: ws, lo, hp, r, hr => by
    unfold blkRows at hr
    cases hk : kind m (w :: ws) lo with
    | non => rw [hk] at hr; cases hr
    | mk k => rw [hk] at hr; rw [List.mem_singleton.mp hr]; exact ⟨0, 0, Nat.zero_le _, by simp, rfl⟩
    | tab =>
      rw [hk] at hr
      obtain ⟨i, hi, hri⟩ := List.mem_flatMap.mp hr
      obtain ⟨k, t, h1, h2, h3⟩ := row_blk hp.tail r hri
      obtain ⟨c, hc, ec⟩ := prod_split hp.tail k
      refine ⟨k + 1, (i : Int) * c + t, by simp; omega, ?_, h3⟩
      rw [h2, ec, List.drop_succ_cons, Int.add_mul, Int.mul_assoc]
      omega
theorem tab_blk {m : Mm} {w : Int} {ws : List Int} (hp : PosW (w :: ws)) : ∀ r ∈ tabRows m w ws 0, BlkOk (w :: ws) r.s r.e := fun r hr => by
  obtain ⟨i, hi, hri⟩ := List.mem_flatMap.mp hr
  obtain ⟨k, t, h1, h2, h3⟩ := row_blk hp.tail r hri
  obtain ⟨c, hc, ec⟩ := prod_split hp.tail k
  refine ⟨k, prodI (ws.drop k), spans_at.mpr ⟨by simp; omega, rfl⟩, by omega, ?_⟩
  rw [h2, ec, Int.zero_add, ← Int.mul_assoc, ← Int.add_mul, Int.mul_fmod_left]
/-! in a uniform block stands one row at most -/
def inB (L sp : Int) (r : Row) : Bool := decide (L ≤ r.s) && decide (r.s < L + sp)
theorem flat_one {α : Type} {f : Nat → List α} {i0 : Nat} (h0 : (f i0).length ≤ 1) (h : ∀ i, i ≠ i0 → f i = []) (n : Nat) : ((List.range n).flatMap f).length ≤ 1 := by
  have hz : ∀ n, n ≤ i0 → (List.range n).flatMap f = [] := fun n => by
    induction n with
    | zero => intro _; rfl
    | succ n ih =>
      intro hn
      rw [List.range_succ, List.flatMap_append, ih (by omega)]
      simp [h n (by omega)]
  induction n with
  | zero => simp
  | succ n ih =>
    rw [List.range_succ, List.flatMap_append, List.length_append]
    simp only [List.flatMap_cons, List.flatMap_nil, List.append_nil]
    by_cases c : n = i0
    · subst c
      rw [hz n (Nat.le_refl _)]
      simpa using h0
    · rw [h n c]
      simpa using ih
theorem apart_step {m : Mm} {w : Int} {ws : List Int} {lo L : Int} {k : Nat} {t : Int} (hp : PosW (w :: ws)) (hb : ∀ lo t, 0 ≤ t → t * prodI (ws.drop k) + prodI (ws.drop k) ≤ prodI ws → uniB m (lo + t * prodI (ws.drop k)) (prodI (ws.drop k)) = true → ((blkRows m ws lo).filter (inB (lo + t * prodI (ws.drop k)) (prodI (ws.drop k)))).length ≤ 1)
    (ht : 0 ≤ t) (hL : L = lo + t * prodI (ws.drop k)) (hr : t * prodI (ws.drop k) + prodI (ws.drop k) ≤ prodI (w :: ws)) (hu : uniB m L (prodI (ws.drop k)) = true) : ((tabRows m w ws lo).filter (inB L (prodI (ws.drop k)))).length ≤ 1 := by
  subst hL
  obtain ⟨c, hc, ec⟩ := prod_split hp.tail k
  have hsp := hp.tail k
  have hP := hp.tail.pos
  obtain ⟨i0, t', hi0, ht', et, eb⟩ := child_of (n := w) hc hsp ht (by rw [← ec]; exact hr)
  rw [← ec] at et eb
  have eL : lo + t * prodI (ws.drop k) = lo + (i0 : Int) * prodI ws + t' * prodI (ws.drop k) := by omega
  unfold tabRows
  rw [List.filter_flatMap]
  refine flat_one (i0 := i0) ?_ (fun i hi => ?_) _
  · rw [eL]
    exact hb _ _ ht' eb (by rw [← eL]; exact hu)
  · rw [List.filter_eq_nil_iff]
    intro r hr'
    have hd := desc_in (blk_desc (m := m) (lo := lo + (i : Nat) * prodI ws) hp.tail) r hr'
    have h0 : 0 ≤ t' * prodI (ws.drop k) := Int.mul_nonneg ht' (by omega)
    simp only [inB, Bool.and_eq_true, decide_eq_true_iff, not_and]
    intro g1
    rcases Nat.lt_or_gt_of_ne hi with a | a
    · have := chunk_lt hP a
      omega
    · have := chunk_lt hP a
      omega
theorem apart_blk {m : Mm} : ∀ {ws : List Int}, PosW ws → ∀ k ≤ ws.length, ∀ lo t, 0 ≤ t → t * prodI (ws.drop k) + prodI (ws.drop k) ≤ prodI ws → uniB m (lo + t * prodI (ws.drop k)) (prodI (ws.drop k)) = true → ((blkRows m ws lo).filter (inB (lo + t * prodI (ws.drop k)) (prodI (ws.drop k)))).length ≤ 1
  | [], hp, k, hk, lo, t, ht, hr, hu => by
    refine Nat.le_trans (List.length_filter_le _ _) ?_
    unfold blkRows
    cases kind m [] lo <;> simp
  | w :: ws, hp, k, hk, lo, t, ht, hr, hu => by
    cases hkd : kind m (w :: ws) lo with
    | non => rw [blk_non hkd]; simp
    | mk q => rw [blk_mk hkd]; exact Nat.le_trans (List.length_filter_le _ _) (Nat.le_refl 1)
    | tab =>
      rw [blk_tab hkd]
      cases k with
      | zero =>
        have h1 := hp.pos
        rw [List.drop_zero] at hr hu
        have t0 : t = 0 := by
          false_or_by_contra
          have : 1 * prodI (w :: ws) ≤ t * prodI (w :: ws) := Int.mul_le_mul_of_nonneg_right (by omega) (by omega)
          omega
        rw [t0, Int.zero_mul, Int.add_zero] at hu
        rw [(kind_tab hkd).2.1] at hu
        cases hu
      | succ k =>
        exact apart_step hp (fun lo t => apart_blk hp.tail k (by simp at hk; omega) lo t) ht rfl hr hu
theorem two_filter {α : Type} {p : α → Bool} {l : List α} {i : Nat} {a b : α} (ha : l[i]? = some a) (hb : l[i + 1]? = some b) (pa : p a = true) (pb : p b = true) : 2 ≤ (l.filter p).length := by
  have e : l = l.take i ++ a :: b :: l.drop (i + 2) := by
    conv => lhs; rw [← List.take_append_drop i l]
    rw [drop_at ha, drop_at hb]
  rw [e, List.filter_append, List.filter_cons_of_pos pa, List.filter_cons_of_pos pb, List.length_append]
  simp only [List.length_cons]
  omega
theorem tab_apart {m : Mm} {w : Int} {ws : List Int} (hp : PosW (w :: ws)) {i : Nat} {r r' : Row} (h1 : (tabRows m w ws 0)[i]? = some r) (h2 : (tabRows m w ws 0)[i + 1]? = some r') : ApartOk m (w :: ws) r.s r'.s := fun sp hsp g1 g2 => by
  obtain ⟨j, hj⟩ := List.getElem?_of_mem hsp
  obtain ⟨hjl, rfl⟩ := spans_at.mp hj
  have hs := hp (j + 1)
  have es : spn (w :: ws) j = prodI (ws.drop j) := rfl
  have hin := desc_in (tab_desc hp) r (List.mem_of_getElem? h1)
  have hlow := low_le (sp := spn (w :: ws) j) (page := r.s) hs
  unfold lowB at hlow
  have hq0 : 0 ≤ r.s / spn (w :: ws) j := Int.ediv_nonneg hin.1 (by unfold spn; omega)
  cases hu : uniB m (r.s / spn (w :: ws) j * spn (w :: ws) j) (spn (w :: ws) j) with
  | false => rfl
  | true =>
    have hb : r.s / spn (w :: ws) j * spn (w :: ws) j + spn (w :: ws) j ≤ prodI (w :: ws) := by
      obtain ⟨c, hc, ec⟩ := prod_split hp (j + 1)
      have : r.s / spn (w :: ws) j < c := by
        refine Int.lt_of_mul_lt_mul_right (a := spn (w :: ws) j) ?_ (by unfold spn; omega)
        have : c * spn (w :: ws) j = prodI (w :: ws) := ec.symm
        omega
      have h9 : (r.s / spn (w :: ws) j + 1) * spn (w :: ws) j ≤ c * spn (w :: ws) j := Int.mul_le_mul_of_nonneg_right (by omega) (by unfold spn; omega)
      rw [Int.add_mul, Int.one_mul] at h9
      have : c * spn (w :: ws) j = prodI (w :: ws) := ec.symm
      omega
    have := apart_step (m := m) (lo := 0) (L := r.s / spn (w :: ws) j * spn (w :: ws) j) (k := j) (t := r.s / spn (w :: ws) j) hp (fun lo t => apart_blk hp.tail j (by simp at hjl; omega) lo t) hq0 (by rw [Int.zero_add]; rfl) hb hu
    have h3 := two_filter (p := inB (r.s / spn (w :: ws) j * spn (w :: ws) j) (prodI (ws.drop j))) h1 h2 (by unfold inB; rw [decide_eq_true hlow.1, decide_eq_true (show r.s < r.s / spn (w :: ws) j * spn (w :: ws) j + prodI (ws.drop j) from hlow.2)]; rfl) (by unfold inB; rw [decide_eq_true g1, decide_eq_true (show r'.s < r.s / spn (w :: ws) j * spn (w :: ws) j + prodI (ws.drop j) from g2)]; rfl)
    omega
end Lp
end
section
set_option Elab.async false
set_option linter.all false
set_option maxRecDepth 100000
set_option maxHeartbeats 4000000
/-! Lp.M6: the tables in the tree are those that are needed. -/
namespace Lp
open PySem PySem.Spec PyProof.Rows L2 Evl
theorem need_iff {m : Mm} {sp lo : Int} : needB m sp lo = true ↔ empB m lo sp = false ∧ uniB m lo sp = false := by
  unfold needB
  cases empB m lo sp <;> cases uniB m lo sp <;> simp
theorem tab_iff {m : Mm} {w : Int} {ws : List Int} {lo : Int} : kind m (w :: ws) lo = .tab ↔ needB m (prodI (w :: ws)) lo = true := by
  constructor
  · intro h
    have := kind_tab h
    exact need_iff.mpr ⟨this.1, this.2.1⟩
  · intro h
    obtain ⟨h1, h2⟩ := need_iff.mp h
    unfold kind
    rw [h1, h2]
    rfl
theorem need_up {m : Mm} {sp lo SP LO : Int} (h : needB m sp lo = true) (h1 : LO ≤ lo) (h2 : lo + sp ≤ LO + SP) : needB m SP LO = true := by
  obtain ⟨a, b⟩ := need_iff.mp h
  refine need_iff.mpr ⟨?_, ?_⟩
  · cases c : empB m LO SP with
    | false => rfl
    | true =>
      have := empB_iff.mp c
      rw [show empB m lo sp = true from empB_iff.mpr fun x x1 x2 => this x (by omega) (by omega)] at a
      cases a
  · cases c : uniB m LO SP with
    | false => rfl
    | true =>
      obtain ⟨k, hk, hx⟩ := uniB_iff.mp c
      have hsp : ¬ sp ≤ 0 := fun z => by
        have : empB m lo sp = true := empB_iff.mpr fun x x1 x2 => by omega
        rw [this] at a
        cases a
      rw [show uniB m lo sp = true from uniB_iff.mpr ⟨advM k (lo - LO), hx lo h1 (by omega), fun x x1 x2 => by rw [hx x (by omega) (by omega), advM_add]; congr 2; omega⟩] at b
      cases b
def InT (m : Mm) (ws : List Int) (lev lo : Int) (q : Int × Int) : Prop := ∃ (k : Nat) (t : Int), k < ws.length ∧ 0 ≤ t ∧ q = (lev + (k : Int), lo + t * prodI (ws.drop k)) ∧ t * prodI (ws.drop k) + prodI (ws.drop k) ≤ prodI ws ∧ needB m (prodI (ws.drop k)) (lo + t * prodI (ws.drop k)) = true
theorem mem_tab_step {m : Mm} {w : Int} {ws : List Int} {lev lo : Int} (hp : PosW (w :: ws)) (hb : ∀ lev lo q, q ∈ subT m ws lev lo ↔ InT m ws lev lo q) (q : Int × Int) :
    q ∈ tabT m w ws lev lo ↔ ∃ (k : Nat) (t : Int), k < ws.length ∧ 0 ≤ t ∧ q = (lev + 1 + (k : Int), lo + t * prodI (ws.drop k)) ∧ t * prodI (ws.drop k) + prodI (ws.drop k) ≤ prodI (w :: ws) ∧ needB m (prodI (ws.drop k)) (lo + t * prodI (ws.drop k)) = true := by
  have hw := hp.head
  have hP := hp.tail.pos
  unfold tabT
  rw [List.mem_flatMap]
  constructor
  · rintro ⟨i, hi, hq⟩
    obtain ⟨k, t, h1, h2, h3, h4, h5⟩ := (hb _ _ _).mp hq
    have hi' := List.mem_range.mp hi
    obtain ⟨c, hc, ec⟩ := prod_split hp.tail k
    have e : ((i : Int) * c + t) * prodI (ws.drop k) = (i : Int) * prodI ws + t * prodI (ws.drop k) := by
      rw [ec, Int.add_mul, Int.mul_assoc]
    have hch := chunk_lt (j := w.toNat) hP hi'
    rw [show ((w.toNat : Nat) : Int) = w by omega] at hch
    have hm : prodI (w :: ws) = w * prodI ws := rfl
    have hic : 0 ≤ (i : Int) * c := Int.mul_nonneg (by omega) (by omega)
    refine ⟨k, (i : Int) * c + t, h1, by omega, ?_, ?_, ?_⟩
    · rw [h3, e]
      congr 1
      omega
    · rw [e, hm]
      omega
    · rw [e, ← Int.add_assoc]
      exact h5
  · rintro ⟨k, t, h1, h2, h3, h4, h5⟩
    obtain ⟨c, hc, ec⟩ := prod_split hp.tail k
    obtain ⟨i, t', hi, ht', et, eb⟩ := child_of (n := w) hc (hp.tail k) h2 (by rw [← ec]; exact h4)
    rw [← ec] at et eb
    refine ⟨i, List.mem_range.mpr (by omega), (hb _ _ _).mpr ⟨k, t', h1, ht', ?_, eb, ?_⟩⟩
    · rw [h3, et]
      congr 1
      omega
    · rw [et, ← Int.add_assoc] at h5
      exact h5
theorem mem_sub {m : Mm} : ∀ {ws : List Int}, PosW ws → ∀ (lev lo : Int) (q : Int × Int), q ∈ subT m ws lev lo ↔ InT m ws lev lo q
  | [], hp, lev, lo, q => by
    constructor
    · intro h; cases h
    · rintro ⟨k, t, h, _⟩; cases h
  | w :: ws, hp, lev, lo, q => by
    have hb := fun lev lo q => mem_sub (m := m) hp.tail lev lo q
    have h1 := hp.pos
    by_cases hk : kind m (w :: ws) lo = .tab
    · rw [subT_tab hk, List.mem_cons, mem_tab_step hp hb]
      constructor
      · rintro (h | ⟨k, t, h1, h2, h3, h4, h5⟩)
        · exact ⟨0, 0, by simp, Int.le_refl _, by rw [h]; simp, by rw [List.drop_zero]; omega, by rw [List.drop_zero, Int.zero_mul, Int.add_zero]; exact tab_iff.mp hk⟩
        · exact ⟨k + 1, t, by simp; omega, h2, by rw [h3]; congr 1; omega, h4, h5⟩
      · rintro ⟨k, t, h1', h2, h3, h4, h5⟩
        cases k with
        | zero =>
          have t0 : t = 0 := by
            rw [List.drop_zero] at h4
            false_or_by_contra
            have : 1 * prodI (w :: ws) ≤ t * prodI (w :: ws) := Int.mul_le_mul_of_nonneg_right (by omega) (by omega)
            omega
          subst t0
          exact .inl (by rw [h3]; simp)
        | succ k => exact .inr ⟨k, t, by simp at h1'; omega, h2, by rw [h3]; show (lev + ((k + 1 : Nat) : Int), _) = (lev + 1 + (k : Int), _); congr 1; omega, h4, h5⟩
    · rw [subT_not hk]
      constructor
      · intro h; cases h
      · rintro ⟨k, t, h1', h2, h3, h4, h5⟩
        have : 0 ≤ t * prodI ((w :: ws).drop k) := Int.mul_nonneg h2 (by have := hp k; omega)
        exact absurd (tab_iff.mpr (need_up h5 (by omega) (by omega))) hk
theorem flat_nodup {α : Type} {f : Nat → List α} (h1 : ∀ i, (f i).Nodup) (h2 : ∀ i j, i < j → ∀ a ∈ f i, a ∉ f j) (n : Nat) : ((List.range n).flatMap f).Nodup := by
  induction n with
  | zero => simp
  | succ n ih =>
    rw [List.range_succ, List.flatMap_append]
    simp only [List.flatMap_cons, List.flatMap_nil, List.append_nil]
    refine List.nodup_append.mpr ⟨ih, h1 n, fun a ha b hb e => ?_⟩
    obtain ⟨i, hi, hai⟩ := List.mem_flatMap.mp ha
    exact h2 i n (List.mem_range.mp hi) a hai (e ▸ hb)
theorem tab_nodup_step {m : Mm} {w : Int} {ws : List Int} {lev lo : Int} (hp : PosW (w :: ws)) (hb : ∀ lev lo, (subT m ws lev lo).Nodup) : (tabT m w ws lev lo).Nodup := by
  have hP := hp.tail.pos
  refine flat_nodup (fun i => hb _ _) (fun i j hij a ha hb' => ?_) _
  obtain ⟨k, t, h1, h2, h3, h4, h5⟩ := (mem_sub hp.tail _ _ _).mp ha
  obtain ⟨k', t', h1', h2', h3', h4', h5'⟩ := (mem_sub hp.tail _ _ _).mp hb'
  rw [h3] at h3'
  have e := (Prod.mk.inj h3').2
  have hch := chunk_lt hP hij
  have : 0 ≤ t' * prodI (ws.drop k') := Int.mul_nonneg h2' (by have := hp.tail k'; omega)
  have := hp.tail k
  omega
theorem sub_nodup {m : Mm} : ∀ {ws : List Int}, PosW ws → ∀ (lev lo : Int), (subT m ws lev lo).Nodup
  | [], hp, lev, lo => List.nodup_nil
  | w :: ws, hp, lev, lo => by
    by_cases hk : kind m (w :: ws) lo = .tab
    · rw [subT_tab hk]
      refine List.nodup_cons.mpr ⟨fun h => ?_, tab_nodup_step hp fun lev lo => sub_nodup hp.tail lev lo⟩
      obtain ⟨k, t, h1, h2, h3, h4, h5⟩ := (mem_tab_step hp (fun lev lo q => mem_sub hp.tail lev lo q) _).mp h
      have := (Prod.mk.inj h3).1
      omega
    · rw [subT_not hk]
      exact List.nodup_nil
theorem mem_row {m : Mm} {sp lev : Int} {n : Nat} {q : Int × Int} : q ∈ needRow m sp lev n ↔ ∃ k : Nat, k < n ∧ needB m sp ((k : Int) * sp) = true ∧ q = (lev, (k : Int) * sp) := by
  unfold needRow
  rw [List.mem_flatMap]
  constructor
  · rintro ⟨k, hk, h⟩
    by_cases c : needB m sp ((k : Int) * sp) = true
    · rw [if_pos c] at h
      exact ⟨k, List.mem_range.mp hk, c, List.mem_singleton.mp h⟩
    · rw [if_neg c] at h
      cases h
  · rintro ⟨k, hk, c, rfl⟩
    exact ⟨k, List.mem_range.mpr hk, by rw [if_pos c]; exact List.mem_singleton.mpr rfl⟩
theorem row_nodup {m : Mm} {sp lev : Int} {n : Nat} (hs : 1 ≤ sp) : (needRow m sp lev n).Nodup := by
  refine flat_nodup (fun i => by split <;> simp) (fun i j hij a ha hb => ?_) _
  have e1 : a = (lev, (i : Int) * sp) := by
    split at ha
    · exact List.mem_singleton.mp ha
    · cases ha
  have e2 : a = (lev, (j : Int) * sp) := by
    split at hb
    · exact List.mem_singleton.mp hb
    · cases hb
  rw [e1] at e2
  have := (Prod.mk.inj e2).2
  have := chunk_lt hs hij
  omega
theorem need_nodup {m : Mm} {ws : List Int} {n : Nat} (hp : PosW ws) : (needTo m ws n).Nodup := by
  refine flat_nodup (fun i => row_nodup (hp (i + 1))) (fun i j hij a ha hb => ?_) _
  obtain ⟨_, _, _, e1⟩ := mem_row.mp ha
  obtain ⟨_, _, _, e2⟩ := mem_row.mp hb
  rw [e1] at e2
  have := (Prod.mk.inj e2).1
  omega
theorem tables_perm {m : Mm} {w : Int} {ws : List Int} (hp : PosW (w :: ws)) : (tabT m w ws 0 0).Perm (needTo m (w :: ws) ((w :: ws).length - 1)) := by
  refine (List.perm_ext_iff_of_nodup (tab_nodup_step hp fun lev lo => sub_nodup hp.tail lev lo) (need_nodup hp)).mpr fun q => ?_
  rw [mem_tab_step hp (fun lev lo q => mem_sub hp.tail lev lo q)]
  unfold needTo
  rw [List.mem_flatMap]
  have el : (w :: ws).length - 1 = ws.length := by simp
  rw [el]
  have hpp := hp.pos
  constructor
  · rintro ⟨k, t, h1, h2, h3, h4, h5⟩
    have es : spn (w :: ws) k = prodI (ws.drop k) := rfl
    have hs := hp.tail k
    refine ⟨k, List.mem_range.mpr h1, mem_row.mpr ⟨t.toNat, ?_, ?_, ?_⟩⟩
    · have h6 : t + 1 ≤ prodI (w :: ws) / spn (w :: ws) k := (Int.le_ediv_iff_mul_le (by rw [es]; omega)).mpr (by rw [es, Int.add_mul, Int.one_mul]; exact h4)
      omega
    · rw [es, show ((t.toNat : Nat) : Int) = t by omega]
      rw [Int.zero_add] at h5
      exact h5
    · rw [es, show ((t.toNat : Nat) : Int) = t by omega, h3, Int.zero_add, Int.zero_add]
      congr 1
      omega
  · rintro ⟨k, hk, hq⟩
    obtain ⟨t, h1, h2, h3⟩ := mem_row.mp hq
    have es : spn (w :: ws) k = prodI (ws.drop k) := rfl
    have hs := hp.tail k
    rw [es] at h1 h2 h3
    refine ⟨k, t, List.mem_range.mp hk, by omega, ?_, ?_, ?_⟩
    · rw [h3, Int.zero_add, Int.zero_add]
      congr 1
      omega
    · have h6 : (t : Int) + 1 ≤ prodI (w :: ws) / prodI (ws.drop k) := by omega
      have := (Int.le_ediv_iff_mul_le (by omega)).mp h6
      rw [Int.add_mul, Int.one_mul] at this
      exact this
    · rw [Int.zero_add]
      exact h2
theorem sorted_one {a b : List (Int × Int)} (ha : SortedP a) (hb : SortedP b) (h : a.Perm b) : a = b := by
  refine List.Perm.eq_of_pairwise (le := fun x y => SrtO.lexB y x = false) (fun x y _ _ h1 h2 => ?_) ha hb h
  have := SrtO.lexB_no.mp h1
  have := SrtO.lexB_no.mp h2
  obtain ⟨x1, x2⟩ := x
  obtain ⟨y1, y2⟩ := y
  simp only at *
  congr 1
  · omega
  · omega
end Lp
end
section
set_option Elab.async false
set_option linter.all false
set_option maxRecDepth 100000
set_option maxHeartbeats 8000000
/-! Lp.L12: a folded table as the law wants it. -/
namespace Lp
open PySem PySem.Spec PyProof.Rows L2 Evl
def prsD (qs : List (Int × Int)) : PyData := .list (qs.map fun q => .tuple [.int q.1, .int q.2])
theorem shaped_prs (qs : List (Int × Int)) : SeqAt.shaped (prsD qs) = true := shaped_list fun x hx => by
  obtain ⟨r, hr, rfl⟩ := List.mem_map.mp hx
  refine ⟨by simp [PyData.canLay0, PyData.canLayAll0], ?_⟩
  show PyData.depth (.tuple [.int r.1, .int r.2]) ≤ 60
  simp [PyData.depth, PyData.depthAll]
section
variable {P : Program} {w : World} {K : PySem.W.Frag} {mg : PySem.Str → Option Value} {base : Heap} {CF CS CR : Addr}
theorem dp_prs {H : Hp} {qs : List (Int × Int)} {us : List V} (h : BlsOf H qs us) : DpAll K H us (qs.map fun q => .tuple [.int q.1, .int q.2]) := by
  induction h with
  | nil => exact .nil
  | cons h _ ih => exact .cons (dp_two h) ih
theorem et_nePrs {σ : L2.St} {H : Hp} {ta tb : TE} {ps rs : List (Int × Int)} (hp : ps.Perm rs) (ha : EvN ta σ H (fun p H' => ∃ us qs, H' p = some (.lst us) ∧ BlsOf H' qs us ∧ qs.Perm ps ∧ SortedP qs)) (hb : EvN tb σ H (fun p H' => ∃ us qs, H' p = some (.lst us) ∧ BlsOf H' qs us ∧ qs.Perm rs ∧ SortedP qs)) :
    EvT (tTest (tOp (rNeD K) ta tb)) σ H false := fun H1 e Q q =>
  ha H1 e _ fun p H2 _ e2 ⟨us, qs, h1, h2, h3, h4⟩ => hb H2 (e.trans e2) _ fun p' H3 _ e3 ⟨us', qs', g1, g2, g3, g4⟩ => by
    have eq := sorted_one h4 g4 (h3.trans (hp.trans g3.symm))
    subst eq
    refine ⟨prsD qs, prsD qs, .lst (sq_of (e3 _ _ h1)) (dp_prs (BlsOf.ex e3 h2)), .lst (sq_of g1) (dp_prs g2), shaped_prs _, shaped_prs _, ?_⟩
    rw [eqv_self (shaped_prs qs)]
    exact ⟨false, rfl, q H3 (e2.trans e3)⟩
def spLeast (CF CS : Addr) : Sp := fun vs H Q _ => ∃ (ft d : Addr) (fv : V) (m : Mm) (wd : Int) (ws : List Int), vs = [.ref ft, .ref d, fv] ∧ FtAt CF CS H ft m wd ws ∧ DcAt m d H ∧ okMm m ∧ InN m (prodI (wd :: ws)) ∧ LiAt (wd :: ws) fv H ∧ LawFan (wd :: ws) ∧ RetV (.bl true) H Q
theorem FtAt.ins {H : Hp} {p : Addr} {m : Mm} {wd : Int} {ws : List Int} (h : FtAt CF CS H p m wd ws) {x : PySem.Str} (h1 : ¬ x = "shape") (h2 : ¬ x = "root") : ∃ dx fs, H p = some (.ins CF dx fs) ∧ fs.lookup x = none := let ⟨dx, sv, r, g, _⟩ := h; ⟨dx, _, g, ft_no sv r h1 h2⟩
theorem b_least (m_len : mg "len" = none) (m_sorted : mg "sorted" = none) (d_entries : Mt2 P w K mg base 18 CF "entries" (spEntries CF CS)) (d_tree : Mt P w K mg base 7 CF "tree" (spTree CF CS)) (d_table_count : Mt P w K mg base 7 CF "table_count" (spCount CF CS))
    (d_law_entries_least : Cl P w K mg base 5 "_law_entries_least" spEntriesLeast) (d_law_tables_at : Cl P w K mg base 6 "_law_tables_at" (spTablesAt 5)) (d_law_needed_tables : Cl P w K mg base 3 "_law_needed_tables" spNeeded) (d_law_same : Cl P w K mg base 2 "_law_same" (spSame 1)) :
    Body2 P w K mg base n_law_least_good "_law_least_good" s_law_least_good 18 (spLeast CF CS) := by
  intro f cdv A outer s H vs Q hr h
  obtain ⟨ft, d, fv, m, wd, ws, rfl, hF, hd, ok, hn, hf, hw, kq⟩ := h
  refine ⟨_, (pss2_cons (ps2_if (pt2_not (pt2_val (pc2 d_law_entries_least.two hr (by omega) (by rfl) (pa2_cons (pm20 d_entries hr (by omega) (pv 0)) (pa2_cons (.of (pv 1)) (pa2_cons (.of (pv 2)) (.of pa_nil))))))) (.of (pss_one (ps_ret pe_bl))) (.of pss_nil)) (.of (pss_cons (ps_set (i := 3) c_law_least_good.nd rfl (.inl rfl) (pc d_law_tables_at hr (by omega) (by rfl) (pa_cons (pm0 d_tree hr (by omega) (pv 0)) (pa_cons (pv 2) (pa_cons pe_int (pa_cons pe_int pa_nil)))))) (pss_cons (ps_if (PW.pt (pw_or (pt_cmpR op_isN (pv 3) pe_non (nomark _)) (pw_or1 (pt_cmpR (r := rNeD K) (op_neD hr.units) (pe_callB (r := rSortedPO K) cr_sortedPO (by rfl) m_sorted boot_sorted (pa_cons (pv 3) pa_nil)) (pc d_law_needed_tables hr (by omega) (by rfl) (pa_cons (pv 1) (pa_cons (pv 2) pa_nil))) (nomark _))))) (pss_one (ps_ret pe_bl)) pss_nil) (pss_one (ps_ret (pc d_law_same hr (by omega) (by rfl) (pa_cons (pm0 d_table_count hr (by omega) (pv 0)) (pa_cons (pe_op op_add (pe_callB call_len_seq (by rfl) m_len boot_len (pa_cons (pv 3) pa_nil)) pe_int) pa_nil))))))))), ?_⟩
  have hws := hw.wok
  have hpos := hws.pos
  have hn4 := hw.prod
  have hdesc := tab_desc (m := m) (lo := 0) hpos
  rw [Int.zero_add] at hdesc
  have hlen := desc_len hdesc
  have mth : ∀ {sp : Sp} {x : PySem.Str} {σ : L2.St} {H1 : Hp} {Pv : V → Hp → Prop}, ¬ x = "shape" → ¬ x = "root" → σ[0]? = some (some (.ref ft)) → Ex H H1 → (∀ H2, Ex H1 H2 → ∀ Q : VK, (∀ v H3, Ex H2 H3 → Pv v H3 → Q v H3) → sp [.ref ft] H2 Q L2.E0) → EvP (tMeth CF x sp [] L2.E0 (tVar 0) tNil) σ H1 Pv := fun n1 n2 h0 e k H2 e2 Q q => by
    obtain ⟨dx, fs, g1, g2⟩ := (hF.ex (e.trans e2)).ins n1 n2
    exact ⟨_, h0, ft, dx, fs, rfl, g1, g2, k H2 e2 Q q⟩
  refine q_when (b := false) (et_not (a := true) (et_B (ev_callV (eap_cons (P := LrAt (tabRows m wd ws 0)) (mth (by decide +kernel) (by decide +kernel) rfl (Ex.refl H) fun H2 e2 Q2 q2 => ⟨ft, m, wd, ws, rfl, hF.ex e2, hws, q2⟩) (eap_cons (evp (ev_var rfl)) (eap_cons (evp (ev_var rfl)) eap_nil fun _ _ _ _ h => h) fun _ _ _ _ h => h) fun _ _ _ e h => h.ex e) fun vs H1 e1 ⟨v, us, g1, g2, v', us', g3, g4, v2, us2, g5, g6, g7⟩ Q2 q2 =>
    ⟨v, fv, d, m, wd :: ws, tabRows m wd ws 0, by rw [g1, g3, g5, g7, g4, g6], g2, hd.ex e1, ok, hn, hf.ex e1, hw, hdesc, tab_blk hpos, fun i r r' h1 h2 => tab_apart hpos h1 h2, by omega, q2⟩))) (fun h => by cases h) fun _ H1 e1 => ?_
  refine q_asgN (P := fun p H => ∃ us, H p = some (.lst us) ∧ BlsOf H (tabT m wd ws 0 0) us) (evn_call (eap_cons (P := TabAt m wd ws 0) (mth (by decide +kernel) (by decide +kernel) rfl e1 fun H2 e2 Q2 q2 => ⟨ft, m, wd, ws, rfl, hF.ex (e1.trans e2), hws, q2⟩) (eap (ea_cons (ev_var rfl) (ea_cons ev_c (ea_cons ev_c ea_nil)))) fun _ _ _ e h => h.ex e) fun vs H2 e2 ⟨v, us, g1, g2, g3⟩ Q2 q2 =>
    ⟨v, fv, wd :: ws, 0, 0, m, wd, ws, by rw [g1, g3]; rfl, hf.ex (e1.trans e2), hw, rfl, by have := hw.len; simp only [List.length_cons] at this; omega, g2, fun u H7 hu e7 h7 => q2 u H7 hu e7 h7⟩) fun b H2 hb1 e2 ⟨us, hb2, hbs⟩ => ?_
  have e12 := e1.trans e2
  refine q_when (b := false) (et_is (et_or (a := false) (b := false) (et_is (et_test (ev_op (ev_var rfl) ev_c rv_isN)) (by simp)) fun _ => et_nePrs (tables_perm (m := m) hpos) (en_sortP (evp_var (v := .ref b) rfl fun H3 e3 => ⟨b, us, rfl, e3 _ _ hb2, BlsOf.ex e3 hbs⟩)) (evn_call (eap (ea_cons (ev_var rfl) (ea_cons (ev_var rfl) ea_nil))) fun vs H3 e3 ev Q2 q2 => ⟨d, fv, m, wd :: ws, ev, hd.ex (e12.trans e3), ok, hf.ex (e12.trans e3), hw, q2⟩)) rfl) (fun h => by cases h) fun _ H3 e3 => ?_
  have e13 := e12.trans e3
  have hlen2 := hbs.length
  refine s_ret (ev_callV (eap_cons (P := fun v _ => v = .int (tabC m wd ws 0)) (mth (by decide +kernel) (by decide +kernel) rfl e13 fun H4 e4 Q2 q2 => ⟨ft, m, wd, ws, rfl, hF.ex (e13.trans e4), hws, fun H5 e5 => q2 _ H5 e5 rfl⟩) (eap (ea_cons (ev_op (ev_lenL (ev_var rfl) (sq_of (e3 _ _ hb2))) ev_c rv_I0) ea_nil)) fun _ _ _ _ h => h) fun vs H4 e4 ⟨v, us', g1, g2, g3⟩ Q2 q2 => ⟨.int (tabC m wd ws 0), .int (tabC m wd ws 0), ?_, .inl ⟨_, rfl, rfl⟩, q2⟩) fun H4 e4 => kq H4 (e13.trans e4)
  rw [g1, g2, g3, ← tabT_tabC (lev := 0), hlen2]
  simp
end
end Lp
end
section
set_option Elab.async false
set_option linter.all false
set_option maxRecDepth 100000
set_option maxHeartbeats 8000000
/-! Lp.L13: the law. -/
namespace Lp
open PySem PySem.Spec PyProof.Rows L2 Evl
section
variable {σ : L2.St} {H : Hp} {ta tb tc td te tl : TE} {K : PySem.W.Frag} {D : Ends} {t : TT} {tu tz : L2.TS}
theorem eap_two {te1 te2 : TE} {lo : Int} {A : Int → Prop} (h1 : Ev te1 σ H (.int lo)) (h2 : EvP te2 σ H (IntP A)) : EvAP (tCons te1 (tCons te2 tNil)) σ H (fun vs _ => ∃ n, vs = [.int lo, .int n] ∧ A n) := fun H1 e Q q =>
  h1 H1 e _ fun H2 e2 => h2 H2 (e.trans e2) _ fun v H3 e3 ⟨n, ev, hn⟩ => q _ H3 (e2.trans e3) ⟨n, by rw [ev], hn⟩
theorem evn_make {C : Addr} {sp : Sp} {E : XK} {ta : TA} {R : List V → Hp → Prop} {P : Addr → Hp → Prop} (h : EvAP ta σ H R) (k : ∀ vs H1 x dx H2, Ex H H1 → R vs H1 → H1 x = none → Ex H1 H2 → H2 x = some (.ins C dx []) → ∀ Q : VK, (∀ H3, ExP x H2 H3 → P x H3 → Q .non H3) → sp (.ref x :: vs) H2 Q E) : EvN (tMake C sp [] E ta) σ H P := fun H0 e Q q =>
  h H0 e _ fun vs H1 e1 hr x dx hx hdx hne => by
    rw [List.append_nil]
    have hx' : (upd H1 dx (.own x)) x = none := by rw [upd_ne (Ne.symm hne)]; exact hx
    have e2 : Ex H1 (upd (upd H1 dx (.own x)) x (.ins C dx [])) := (Ex.new hdx).trans (Ex.new hx')
    refine k vs H1 x dx _ (e.trans e1) hr hx e2 upd_same _ fun H3 e3 hp => ⟨rfl, q x H3 (fresh_back e1 hx) (e1.trans fun b o hb => e3 b o (e2 b o hb) fun z => ?_) hp⟩
    rw [z, hx] at hb
    cases hb
theorem s_forR2P {ta : TA} {j : Nat} {lo : Int} {A : Int → Prop} (h : EvAP ta σ H (fun vs _ => ∃ n, vs = [.int lo, .int n] ∧ A n)) (hA : ∀ n, A n → 0 ≤ lo ∧ lo ≤ 100000 ∧ -100000 ≤ n ∧ n ≤ 100000) (Pv : Nat → L2.St → Hp → Prop) (h0 : ∀ H1, Ex H H1 → Pv 0 σ H1)
    (hs : ∀ n (i : Nat) σ' H', A n → lo + (i : Int) < n → Pv i σ' H' → tu { D with nx := Pv (i + 1), ct := Pv (i + 1), bk := D.nx } (σ'.set j (some (.int (lo + (i : Int))))) H') (hd : ∀ i σ' H', Pv i σ' H' → D.nx σ' H') : tFor (iRng2 ta) (gName j) tu D σ H :=
  h H (Ex.refl H) _ fun vs H1 e ⟨n, ev, hn⟩ => ⟨lo, n, ev, ⟨by have := hA n hn; omega, by have := hA n hn; omega, by have := hA n hn; omega, by have := hA n hn; omega⟩, for_range (lo := lo) (n := (n - lo).toNat) Pv (h0 H1 e) (fun i σ' H' hi p => hs n i σ' H' hn (by omega) p) (fun σ' H' p => hd _ σ' H' p)⟩
theorem q_forR2P {ta : TA} {j : Nat} {lo : Int} {A : Int → Prop} (h : EvAP ta σ H (fun vs _ => ∃ n, vs = [.int lo, .int n] ∧ A n)) (hA : ∀ n, A n → 0 ≤ lo ∧ lo ≤ 100000 ∧ -100000 ≤ n ∧ n ≤ 100000) (Pv : Nat → L2.St → Hp → Prop) (h0 : ∀ H1, Ex H H1 → Pv 0 σ H1)
    (hs : ∀ n (i : Nat) σ' H', A n → lo + (i : Int) < n → Pv i σ' H' → tu { D with nx := Pv (i + 1), ct := Pv (i + 1), bk := tz D } (σ'.set j (some (.int (lo + (i : Int))))) H') (hd : ∀ i σ' H', Pv i σ' H' → tz D σ' H') : tSeq (tFor (iRng2 ta) (gName j) tu) tz D σ H :=
  s_forR2P (D := { D with nx := tz D }) h hA Pv h0 hs hd
end
theorem sc_kp {K : PySem.W.Frag} {H H' : Hp} {a : Addr} {xs : List V} (h : SqL K H a xs) (kp : ∀ {b : Addr} {o : HO}, H b = some o → ((∀ ks, o ≠ .dK ks) ∧ ∀ C dx fs, o ≠ .ins C dx fs) → H' b = some o) : SqL K H' a xs := by
  rcases h with (h | ⟨o, h⟩) | h
  · exact .inl (.inl (kp h ⟨(fun _ z => by cases z), fun _ _ _ z => by cases z⟩))
  · exact .inl (.inr ⟨o, kp h ⟨(fun _ z => by cases z), fun _ _ _ z => by cases z⟩⟩)
  · exact .inr h
/-- what stands between the law's steps: the regions tell mr, the dict md -/
structure StAt (K : PySem.W.Frag) (CS CR : Addr) (a fa sh rg d : Addr) (nv : V) (ns ws : List Int) (mr md : Mm) (H : Hp) : Prop where
  sc : SqL K H a (ns.map V.int)
  fan : H fa = some (.lst (iv ws))
  nm : NmAt nv H
  sha : ShAt CS ws (.ref sh) H
  reg : RmAt CR mr (prodI ws) rg H
  dic : DcAt md d H
  ne : sh ≠ rg
section
variable {K : PySem.W.Frag} {CS CR : Addr} {a fa sh rg d : Addr} {nv : V} {ns ws : List Int} {mr md m' : Mm} {H H' : Hp}
theorem StAt.ex (e : Ex H H') (h : StAt K CS CR a fa sh rg d nv ns ws mr md H) : StAt K CS CR a fa sh rg d nv ns ws mr md H' := ⟨ex_l e h.sc, e _ _ h.fan, h.nm.ex e, h.sha.ex e, h.reg.ex e, h.dic.ex e, h.ne⟩
theorem StAt.xd (h : StAt K CS CR a fa sh rg d nv ns ws mr md H) (e : ExP d H H') (hd : DcAt m' d H') : StAt K CS CR a fa sh rg d nv ns ws mr m' H' := by
  obtain ⟨kvs, hk, _⟩ := h.dic
  have kp : ∀ {b : Addr} {o : HO}, H b = some o → (∀ ks, o ≠ .dK ks) → H' b = some o := fun {b o} hb hn => e b o hb fun z => by
    rw [z, hk] at hb
    cases hb
    exact hn _ rfl
  refine ⟨sc_kp h.sc (fun hb hn => kp hb (hn.1 ·)), kp h.fan (fun _ z => by cases z), ?_, ?_, ?_, hd, h.ne⟩
  · obtain ⟨b, zs, h1, h2, h3⟩ := h.nm
    exact ⟨b, zs, h1, kp h2 (fun _ z => by cases z), h3⟩
  · obtain ⟨p, dx, tw, ts, h0, h1, h2, h3⟩ := h.sha
    exact ⟨p, dx, tw, ts, h0, kp h1 (fun _ z => by cases z), kp h2 (fun _ z => by cases z), kp h3 (fun _ z => by cases z)⟩
  · obtain ⟨rs, ⟨dx, b, us, h1, h2, h3⟩, h4⟩ := h.reg
    exact ⟨rs, ⟨dx, b, us, kp h1 (fun _ z => by cases z), kp h2 (fun _ z => by cases z), F2.imp h3 fun _ _ z => TpAt.xp hk e z⟩, h4⟩
theorem StAt.xr (h : StAt K CS CR a fa sh rg d nv ns ws mr md H) (e : ExP rg H H') (hr : RmAt CR m' (prodI ws) rg H') : StAt K CS CR a fa sh rg d nv ns ws m' md H' := by
  obtain ⟨dxr, fsr, hk⟩ := h.reg.ins
  have kp : ∀ {b : Addr} {o : HO}, H b = some o → (∀ C dx fs, o ≠ .ins C dx fs) → H' b = some o := fun hb hn => ExP.ins hk e hb hn
  refine ⟨sc_kp h.sc (fun hb hn => kp hb fun C dx fs => hn.2 C dx fs), kp h.fan (fun _ _ _ z => by cases z), ?_, ?_, hr, ?_, h.ne⟩
  · obtain ⟨b, zs, h1, h2, h3⟩ := h.nm
    exact ⟨b, zs, h1, kp h2 (fun _ _ _ z => by cases z), h3⟩
  · obtain ⟨p, dx, tw, ts, h0, h1, h2, h3⟩ := h.sha
    cases h0
    exact ⟨_, dx, tw, ts, rfl, e _ _ h1 h.ne, kp h2 (fun _ _ _ z => by cases z), kp h3 (fun _ _ _ z => by cases z)⟩
  · obtain ⟨kvs, h1, h2⟩ := h.dic
    exact ⟨kvs, kp h1 (fun _ _ _ z => by cases z), ⟨h2.nd, h2.keyI, fun p => (h2.gives p).imp fun _ _ z => TpAt.xi hk e z⟩⟩
end
section
variable {P : Program} {w : World} {K : PySem.W.Frag} {mg : PySem.Str → Option Value} {base : Heap} {CF CS CR : Addr}
def spLaw (K : PySem.W.Frag) : Sp := fun vs H Q _ => ∃ (a : Addr) (ns : List Int), vs = [.ref a] ∧ SqL K H a (ns.map V.int) ∧ ns.length ≤ 100 ∧ ∀ H', Q (.bl true) H'
theorem dic_new {d : Addr} {H : Hp} (h : H d = some (.dK [])) : DcAt (fun _ => none) d H := ⟨[], h, ⟨List.nodup_nil, (fun kv h => by cases h), fun p => trivial⟩⟩
theorem b_law (m_list : mg "list" = none) (m_range : mg "range" = none) (d_law_fold_fan : Cl P w K mg base 3 "_law_fold_fan" (spFoldFan K)) (d_law_fan_spans : Cl P w K mg base 1 "_law_fan_spans" spFanSpans) (d_law_file_names : Cl P w K mg base 2 "_law_file_names" (spFileNames K))
    (c_Shape : Ma P w K mg base 1 "Shape" CS (spSInit CS)) (c_Regions : Ma P w K mg base 1 "Regions" CR (spRInit CR)) (c_FoldedTable : Ma2 P w K mg base 26 "FoldedTable" CF (spFInit CF CS CR)) (d_law_least_good : Cl2 P w K mg base 19 "_law_least_good" (spLeast CF CS))
    (d_law_fold_many : Cl P w K mg base 2 "_law_fold_many" (spFoldMany K)) (d_law_fold_deed : Cl P w K mg base 2 "_law_fold_deed" (spDeed K)) (d_law_marks_do : Cl P w K mg base 1 "_law_marks_do" spMarksDo) (d_law_same : Cl P w K mg base 3 "_law_same" (spSame 2)) (d_law_fold_tell : Cl P w K mg base 8 "_law_fold_tell" (spFoldTell CR CS)) (d_law_number : Cl P w K mg base 1 "_law_number" (spNumber K)) :
    Body2 P w K mg base n_law "law" s_law 27 (spLaw K) := by
  intro f cdv A outer s H vs Q hr h
  obtain ⟨a, ns, rfl, ha, hns, kq⟩ := h
  refine ⟨_, (pss2_cons (.of (ps_set (i := 1) c_law.nd rfl (.inl rfl) (pc d_law_fold_fan hr (by omega) (by rfl) (pa_cons (pv 0) pa_nil)))) (pss2_cons (.of (ps_set (i := 2) c_law.nd rfl (.inl rfl) (pe_op op_mul (pe_ix (r := rIxL K) ix_list (pc d_law_fan_spans hr (by omega) (by rfl) (pa_cons (pv 1) pa_nil)) pe_int (fun _ _ => rfl)) (pe_ix (r := rIxL K) ix_list (pv 1) pe_int (fun _ _ => rfl))))) (pss2_cons (.of (ps_set (i := 3) c_law.nd rfl (.inl rfl) (pc d_law_file_names hr (by omega) (by rfl) (pa_cons (pv 0) pa_nil)))) (pss2_cons (.of (ps_set (i := 4) c_law.nd rfl (.inl rfl) (pmk c_Shape hr (by omega) (by rfl) (pa_cons (pe_callTy call_list_of (by rfl) m_list boot_list (pa_cons (pv 1) pa_nil)) pa_nil)))) (pss2_cons (.of (ps_set (i := 5) c_law.nd rfl (.inl rfl) (pmk c_Regions hr (by omega) (by rfl) (pa_cons (pv 2) pa_nil)))) (pss2_cons (.of (ps_set (i := 6) c_law.nd rfl (.inl rfl) pe_dnewK)) (pss2_cons (ps2_if (pt2_not (pt2_val (pc2 d_law_least_good hr (by omega) (by rfl) (pa2_cons (pmk2 c_FoldedTable hr (by omega) (by rfl) (pa2_cons (.of (pv 4)) (pa2_cons (.of (pv 5)) (.of pa_nil)))) (pa2_cons (.of (pv 6)) (pa2_cons (.of (pv 1)) (.of pa_nil))))))) (.of (pss_one (ps_ret pe_bl))) (.of pss_nil)) (pss2_cons (ps2_for rfl rfl (pi_range2 (by rfl) m_range (pa_cons pe_int (pa_cons (pe_op op_add pe_int (pc d_law_fold_many hr (by omega) (by rfl) (pa_cons (pv 0) (pa_cons (pv 2) pa_nil)))) pa_nil))) (pg_name (i := 7) c_law.nd rfl (.inl rfl)) (pss2_cons (.of (ps_set (i := 8) c_law.nd rfl (.inl rfl) (pc d_law_fold_deed hr (by omega) (by rfl) (pa_cons (pv 0) (pa_cons (pv 7) (pa_cons (pv 1) (pa_cons (pv 3) pa_nil))))))) (pss2_cons (.of (ps_set (i := 9) c_law.nd rfl (.inl rfl) (pc d_law_marks_do hr (by omega) (by rfl) (pa_cons (pv 6) (pa_cons (pv 8) (pa_cons (pv 2) pa_nil)))))) (pss2_cons (ps2_if (.of (pt_not (pt_val (pc d_law_same hr (by omega) (by rfl) (pa_cons (pc d_law_fold_tell hr (by omega) (by rfl) (pa_cons (pv 5) (pa_cons (pv 4) (pa_cons (pv 8) (pa_cons (pe_cmpR op_eq (pc d_law_number hr (by omega) (by rfl) (pa_cons (pv 0) (pa_cons (pv 7) (pa_cons pe_int (pa_cons pe_int pa_nil))))) pe_int (nomark _)) pa_nil))))) (pa_cons (pv 9) pa_nil)))))) (.of (pss_one (ps_ret pe_bl))) (.of pss_nil)) (pss2_one (ps2_if (pt2_not (pt2_val (pc2 d_law_least_good hr (by omega) (by rfl) (pa2_cons (pmk2 c_FoldedTable hr (by omega) (by rfl) (pa2_cons (.of (pv 4)) (pa2_cons (.of (pv 5)) (.of pa_nil)))) (pa2_cons (.of (pv 6)) (pa2_cons (.of (pv 1)) (.of pa_nil))))))) (.of (pss_one (ps_ret pe_bl))) (.of pss_nil))))))) (.of (pss_one (ps_ret pe_bl))))))))))), ?_⟩
  have scAt : ∀ {H1 : Hp}, Ex H H1 → ScAt K ns (.ref a) H1 := fun e => ⟨a, rfl, ex_l e ha⟩
  refine q_asgN (P := fun p H => ∃ ws, FanOk 4096 ws ∧ H p = some (.lst (iv ws))) (evn_call (eap_cons (evsc_var (v := .ref a) rfl (scAt (Ex.refl H))) eap_nil fun _ _ _ e h => h.ex e) fun vs H1 e1 ⟨v, us, g1, g2, g3⟩ Q2 q2 => ⟨v, ns, by rw [g1, g3], g2, hns, fun ws p H2 hf hp e2 h2 => q2 p H2 hp e2 ⟨ws, hf, h2⟩⟩) fun fa H1 hfa e1 ⟨ws, fok, hf1⟩ => ?_
  have hw : LawFan ws := fok.law (Int.le_refl _)
  have hws := hw.wok
  have pr := prod_ok hws
  obtain ⟨wd, wt, ew⟩ : ∃ wd wt, ws = wd :: wt := by
    cases hq : ws with
    | nil => exact absurd hq hw.ne
    | cons a l => exact ⟨a, l, rfl⟩
  have hsp0 : (spansOf ws)[0]? = some (prodI wt) := span_at (lev := 0) (by rw [ew]; rfl)
  have hw0 : ws[0]? = some wd := by rw [ew]; rfl
  have sp0 := span_ok hws hsp0
  refine q_asg (v := .int (prodI ws)) (ev_is (ev_op (fun H2 e2 Q1 q1 => en_spans (evp_var (v := .ref fa) rfl fun H1 e => ⟨fa, rfl, e _ _ hf1⟩) hw.len hw.all H2 e2 _ fun p H2 hp e2 h2 => ⟨p, _, _, _, rfl, rfl, sq_of h2, iv_at (i := 0) hsp0, q1 _ e2⟩) (ev_op (ev_var rfl) ev_c (rv_ixL (sq_of hf1) (iv_at (i := 0) hw0))) (rv_I (C := CMul) (.inl ⟨by omega, by omega⟩))) (by rw [ew, Int.mul_comm]; rfl)) fun H2 e2 => ?_
  have e12 := e1.trans e2
  refine q_asgP (P := NmAt) (evp_call (eap_cons (evsc_var (v := .ref a) rfl (scAt e12)) eap_nil fun _ _ _ e h => h.ex e) fun vs H3 e3 ⟨v, us, g1, g2, g3⟩ Q2 q2 => ⟨v, ns, by rw [g1, g3], g2, hns, fun u H4 e4 hu => q2 u H4 e4 hu⟩) fun nv H3 e3 hnv => ?_
  have e13 := e12.trans e3
  have hf3 := e3 _ _ (e2 _ _ hf1)
  refine q_asgN (P := fun p H => ShAt CS ws (.ref p) H) (evn_make (eap_cons (EvN.p (P := fun p H => H p = some (.lst (iv ws))) (el_listof (ev_var rfl) (sq_of hf3))) eap_nil fun _ _ _ e ⟨p, h1, h2⟩ => ⟨p, h1, e _ _ h2⟩) fun vs H4 x dx H5 e4 ⟨v, us, g1, ⟨q, g2, g3⟩, g4⟩ hx e5 h5 Q2 q2 => ⟨x, dx, q, ws, by rw [g1, g2, g4], h5, e5 _ _ g3, hws, fun H6 e6 h6 => q2 H6 e6 h6⟩) fun sh H4 hsh0 e4 hsh4 => ?_
  refine q_asgN (P := fun p H => RgAt CR H p (prodI ws) []) (evn_make (eap (ea_cons (ev_var rfl) ea_nil)) fun vs H5 x dx H6 e5 ev hx e6 h6 Q2 q2 => ⟨x, dx, prodI ws, by rw [ev], h6, fun H7 e7 h7 => q2 H7 e7 h7⟩) fun rg H5 hrg0 e5 hrg5 => ?_
  refine q_asgN (P := fun p H => H p = some (.dK [])) (fun H6 e6 Q2 q2 => fun p hp => q2 p _ hp (Ex.new hp) upd_same) fun d H6 hd0 e6 hd6 => ?_
  have e16 := e13.trans (e4.trans (e5.trans e6))
  have st0 : StAt K CS CR a fa sh rg d nv ns ws (fun _ => none) (fun _ => none) H6 := by
    refine ⟨ex_l e16 ha, e6 _ _ (e5 _ _ (e4 _ _ hf3)), hnv.ex (e4.trans (e5.trans e6)), hsh4.ex (e5.trans e6), ⟨[], hrg5.ex e6, ⟨⟨by omega, fun _ _ _ => rfl⟩, trivial⟩⟩, dic_new hd6, fun z => ?_⟩
    obtain ⟨p, dx, tw, ts, h0, h1, _⟩ := hsh4
    cases h0
    rw [← z, h1] at hrg0
    cases hrg0
  have LG : ∀ {σ : L2.St} {H1 : Hp} {m : Mm}, StAt K CS CR a fa sh rg d nv ns ws m m H1 → okMm m → InN m (prodI ws) → σ[4]? = some (some (.ref sh)) → σ[5]? = some (some (.ref rg)) → σ[6]? = some (some (.ref d)) → σ[1]? = some (some (.ref fa)) →
      EvT (tNot (tB (tCall (spLeast CF CS) [] L2.E0 (tCons (tMake CF (spFInit CF CS CR) [] L2.E0 (tCons (tVar 4) (tCons (tVar 5) tNil))) (tCons (tVar 6) (tCons (tVar 1) tNil)))))) σ H1 false := fun {σ H1 m} st om hin s4 s5 s6 s1 => by
    subst ew
    refine et_not (a := true) (et_B (ev_callV (eap_cons (P := fun v H => ∃ p, v = .ref p ∧ FtAt CF CS H p m wd wt) (EvN.p (P := fun p H => FtAt CF CS H p m wd wt) (evn_make (eap (ea_cons (ev_var s4) (ea_cons (ev_var s5) ea_nil))) fun vs H2 x dx H3 e2 ev hx e3 h3 Q2 q2 => ?_)) (eap (ea_cons (ev_var s6) (ea_cons (ev_var s1) ea_nil))) fun _ _ _ e ⟨p, h1, h2⟩ => ⟨p, h1, h2.ex e⟩) fun vs H2 e2 ⟨v, us, g1, ⟨p, g2, g3⟩, g4⟩ Q2 q2 => ?_))
    · have st2 := st.ex (e2.trans e3)
      obtain ⟨rs, hrg, hcan⟩ := st2.reg
      exact ⟨x, dx, .ref sh, rg, m, wd, wt, rs, by rw [ev], h3, st2.sha, hrg, hws, hcan, om, fun H4 e4 h4 => q2 H4 e4 h4⟩
    · have st2 := st.ex e2
      exact ⟨p, d, .ref fa, m, wd, wt, by rw [g1, g2, g4], g3, st2.dic, om, hin, ⟨fa, rfl, st2.fan⟩, hw, q2⟩
  refine q_when (b := false) (LG st0 (fun x k h => by cases h) (fun x k h => by cases h) rfl rfl rfl rfl) (fun h => by cases h) fun _ H7 e7 => ?_
  have e17 := e16.trans e7
  refine q_forR2P (lo := 1) (A := fun n => 1 ≤ n ∧ n ≤ 11) (eap_two ev_c (evi_op0 (evi ev_c) (evp_call (P := IntP fun x => 0 ≤ x ∧ x ≤ 10) (eap_cons (evsc_var (v := .ref a) rfl (scAt e17)) (eap (ea_cons (ev_var rfl) ea_nil)) fun _ _ _ e h => h.ex e) fun vs H8 e8 ⟨v, us, g1, g2, g3⟩ Q2 q2 => ⟨v, ns, prodI ws, by rw [g1, g3], g2, hns, fun r H9 r0 r1 e9 => q2 _ H9 e9 ⟨r, rfl, r0, r1⟩⟩) fun i j H hi hj => ⟨i + j, rfl, by omega, by omega⟩)) (fun n hn => ⟨by decide, by decide, by omega, by omega⟩)
    (fun i σ' H' => ∃ (r7 r8 r9 : Option V) (m : Mm), σ' = [some (.ref a), some (.ref fa), some (.int (prodI ws)), some nv, some (.ref sh), some (.ref rg), some (.ref d), r7, r8, r9] ∧ StAt K CS CR a fa sh rg d nv ns ws m m H' ∧ okMm m ∧ InN m (prodI ws)) (fun H8 e8 => ⟨none, none, none, fun _ => none, rfl, st0.ex (e7.trans e8), (fun x k h => by cases h), (fun x k h => by cases h)⟩) (fun n i σ' H' hn hi ⟨r7, r8, r9, m, eσ, st, om, hin⟩ => ?_) fun i σ' H' ⟨r7, r8, r9, m, eσ, st, om, hin⟩ => ?_
  · subst eσ
    have hi10 : (i : Int) ≤ 9 := by omega
    have sc' : ∀ {H1 : Hp}, Ex H' H1 → ScAt K ns (.ref a) H1 := fun e => ⟨a, rfl, ex_l e st.sc⟩
    refine q_asgP (P := fun v H => ∃ dd, DeedOk (prodI ws) dd ∧ TpAt (dvs dd) v H) (evp_call (eap_cons (evsc_var (v := .ref a) rfl (sc' (Ex.refl _))) (eap_cons (evp (ev_var rfl)) (eap_cons (P := LiAt ws) (evp_var (v := .ref fa) rfl fun H1 e => ⟨fa, rfl, e _ _ st.fan⟩) (eap_cons (P := NmAt) (evp_var (v := nv) rfl fun H1 e => st.nm.ex e) eap_nil fun _ _ _ e h => h.ex e) fun _ _ _ e h => h.ex e) fun _ _ _ _ h => h) fun _ _ _ e h => h.ex e) fun vs H1 e1 ⟨v, us, g1, g2, v1, us1, g3, g4, v2, us2, g5, g6, v3, us3, g7, g8, g9⟩ Q2 q2 =>
      ⟨v, ns, 1 + (i : Int), v2, v3, ws, by rw [g1, g3, g5, g7, g9, g4], g2, hns, by omega, by omega, g6, fok, g8, fun dd u H2 hd e2 hu => q2 u H2 e2 ⟨dd, hd, hu⟩⟩) fun v8 H8 e8 ⟨dd, hdd, hv8⟩ => ?_
    have st8 := st.ex e8
    have n4 := hw.prod
    refine ⟨_, rfl, _, rfl, _, rfl, d, v8, prodI ws, m, dd, rfl, st8.dic, hin, n4, hv8, hdd, fun u9 H9 ex9 hd9 hu9 => ?_⟩
    obtain ⟨kvs8, hk8, _⟩ := st8.dic
    have hv9 := TpAt.xp hk8 ex9 hv8
    have st9 := st8.xd ex9 hd9
    have sc9 : ∀ {H1 : Hp}, Ex H9 H1 → ScAt K ns (.ref a) H1 := fun e => ⟨a, rfl, ex_l e st9.sc⟩
    refine ⟨_, rfl, _, rfl, _, rfl, ?_⟩
    refine evi_number (K := K) (ns := ns) (at_ := 1 + (i : Int)) (k := 11) (size := 2) (evsc_var (v := .ref a) rfl (sc9 (Ex.refl _))) (ev_var rfl) ev_c ev_c hns ⟨by omega, by omega⟩ ⟨by decide, by decide⟩ (by decide) H9 (Ex.refl _) _ fun v10 H10 e10 ⟨r, ev10, _⟩ => ?_
    subst ev10
    have st10 := st9.ex e10
    obtain ⟨dxr, fsr, hr10⟩ := st10.reg.ins
    refine ⟨rfl, rg, .ref sh, v8, _, ws, m, dd, rfl, st10.reg, st10.sha, hw, hv9.ex e10, hdd, om, fun u11 H11 ex11 hR11 hu11 => ?_⟩
    have st11 := st10.xr ex11 hR11
    have hu911 := TpAt.xi hr10 ex11 (hu9.ex e10)
    obtain ⟨p9, rfl, hp9⟩ := id hu911
    obtain ⟨p11, rfl, hp11⟩ := id hu11
    refine ⟨_, rfl, _, _, rfl, .inr (.inr (.inr ⟨p11, p9, _, rfl, rfl, hp11, hp9, by show 2 ≤ 10; decide, fun x hx => ?_⟩)), fun H12 e12 => ⟨true, rfl, ?_⟩⟩
    · rcases List.mem_cons.mp hx with h | hx
      · exact .inr (.inl ⟨_, h, h⟩)
      · have h := List.mem_singleton.mp hx
        exact .inr (.inr (.inl ⟨h, h⟩))
    refine iteF ?_
    have om' : okMm (deedM m dd) := om.deed hdd
    have hin' : InN (deedM m dd) (prodI ws) := hin.deed hdd
    refine s_when (b := false) (LG (st11.ex e12) om' hin' rfl rfl rfl rfl) (fun h => by cases h) fun _ H13 e13' => ⟨_, _, _, deedM m dd, rfl, st11.ex (e12.trans e13'), om', hin'⟩
  · subst eσ
    exact s_ret ev_c fun H9 e9 => kq H9
end
end Lp
end
section
set_option Elab.async false
set_option linter.all false
set_option maxRecDepth 100000
set_option maxHeartbeats 8000000
/-! Lp.K: the facts that the top leaves, and the law's promise from them. -/
namespace Lp
open PySem PySem.Spec PyProof.Rows L2
def d_advanced : He.DefD := ⟨("advanced", none), "advanced", "advanced", defArgs s_advanced, defBody s_advanced, defScope s_advanced, [], []⟩
def d_successor : He.DefD := ⟨("successor", none), "successor", "successor", defArgs s_successor, defBody s_successor, defScope s_successor, [], []⟩
def d_continues : He.DefD := ⟨("continues", none), "continues", "continues", defArgs s_continues, defBody s_continues, defScope s_continues, [], []⟩
def d_check_range : He.DefD := ⟨("check_range", none), "check_range", "check_range", defArgs s_check_range, defBody s_check_range, defScope s_check_range, [], []⟩
def d_mark_in : He.DefD := ⟨("mark_in", none), "mark_in", "mark_in", defArgs s_mark_in, defBody s_mark_in, defScope s_mark_in, [], []⟩
def d_clipped : He.DefD := ⟨("clipped", none), "clipped", "clipped", defArgs s_clipped, defBody s_clipped, defScope s_clipped, [], []⟩
def d_joined : He.DefD := ⟨("joined", none), "joined", "joined", defArgs s_joined, defBody s_joined, defScope s_joined, [], []⟩
def d_are_regions : He.DefD := ⟨("are_regions", none), "are_regions", "are_regions", defArgs s_are_regions, defBody s_are_regions, defScope s_are_regions, [], []⟩
def d_Regions_init : He.DefD := ⟨("Regions", some "__init__"), "__init__", "Regions.__init__", defArgs s_Regions_init, defBody s_Regions_init, defScope s_Regions_init, [], []⟩
def d_Regions_as_list : He.DefD := ⟨("Regions", some "as_list"), "as_list", "Regions.as_list", defArgs s_Regions_as_list, defBody s_Regions_as_list, defScope s_Regions_as_list, [], []⟩
def d_Regions_put_parts : He.DefD := ⟨("Regions", some "put_parts"), "put_parts", "Regions.put_parts", defArgs s_Regions_put_parts, defBody s_Regions_put_parts, defScope s_Regions_put_parts, [], []⟩
def d_Regions_assign : He.DefD := ⟨("Regions", some "assign"), "assign", "Regions.assign", defArgs s_Regions_assign, defBody s_Regions_assign, defScope s_Regions_assign, [], [("file", .str ""), ("index", .int 0)]⟩
def d_Regions_unassign : He.DefD := ⟨("Regions", some "unassign"), "unassign", "Regions.unassign", defArgs s_Regions_unassign, defBody s_Regions_unassign, defScope s_Regions_unassign, [], []⟩
def d_marked_blocks : He.DefD := ⟨("marked_blocks", none), "marked_blocks", "marked_blocks", defArgs s_marked_blocks, defBody s_marked_blocks, defScope s_marked_blocks, [], []⟩
def d_stands_for_one : He.DefD := ⟨("stands_for_one", none), "stands_for_one", "stands_for_one", defArgs s_stands_for_one, defBody s_stands_for_one, defScope s_stands_for_one, [], []⟩
def d_is_table : He.DefD := ⟨("is_table", none), "is_table", "is_table", defArgs s_is_table, defBody s_is_table, defScope s_is_table, [], []⟩
def d_folded : He.DefD := ⟨("folded", none), "folded", "folded", defArgs s_folded, defBody s_folded, defScope s_folded, [], []⟩
def d_tables_in : He.DefD := ⟨("tables_in", none), "tables_in", "tables_in", defArgs s_tables_in, defBody s_tables_in, defScope s_tables_in, [], []⟩
def d_copied : He.DefD := ⟨("copied", none), "copied", "copied", defArgs s_copied, defBody s_copied, defScope s_copied, [], []⟩
def d_FoldedTable_init : He.DefD := ⟨("FoldedTable", some "__init__"), "__init__", "FoldedTable.__init__", defArgs s_FoldedTable_init, defBody s_FoldedTable_init, defScope s_FoldedTable_init, [], []⟩
def d_FoldedTable_entries : He.DefD := ⟨("FoldedTable", some "entries"), "entries", "FoldedTable.entries", defArgs s_FoldedTable_entries, defBody s_FoldedTable_entries, defScope s_FoldedTable_entries, [], []⟩
def d_FoldedTable_table_count : He.DefD := ⟨("FoldedTable", some "table_count"), "table_count", "FoldedTable.table_count", defArgs s_FoldedTable_table_count, defBody s_FoldedTable_table_count, defScope s_FoldedTable_table_count, [], []⟩
def d_FoldedTable_tree : He.DefD := ⟨("FoldedTable", some "tree"), "tree", "FoldedTable.tree", defArgs s_FoldedTable_tree, defBody s_FoldedTable_tree, defScope s_FoldedTable_tree, [], []⟩
def d_Shape_init : He.DefD := ⟨("Shape", some "__init__"), "__init__", "Shape.__init__", defArgs s_Shape_init, defBody s_Shape_init, defScope s_Shape_init, [], []⟩
def d_Shape_span : He.DefD := ⟨("Shape", some "span"), "span", "Shape.span", defArgs s_Shape_span, defBody s_Shape_span, defScope s_Shape_span, [], []⟩
def d_Shape_block_at : He.DefD := ⟨("Shape", some "block_at"), "block_at", "Shape.block_at", defArgs s_Shape_block_at, defBody s_Shape_block_at, defScope s_Shape_block_at, [], []⟩
def d_level_of : He.DefD := ⟨("level_of", none), "level_of", "level_of", defArgs s_level_of, defBody s_level_of, defScope s_level_of, [], []⟩
def d_largest_block : He.DefD := ⟨("largest_block", none), "largest_block", "largest_block", defArgs s_largest_block, defBody s_largest_block, defScope s_largest_block, [], []⟩
def d_is_cover : He.DefD := ⟨("is_cover", none), "is_cover", "is_cover", defArgs s_is_cover, defBody s_is_cover, defScope s_is_cover, [], []⟩
def d_cover : He.DefD := ⟨("cover", none), "cover", "cover", defArgs s_cover, defBody s_cover, defScope s_cover, [], []⟩
def d_law_number : He.DefD := ⟨("_law_number", none), "_law_number", "_law_number", defArgs s_law_number, defBody s_law_number, defScope s_law_number, [], []⟩
def d_law_is_whole : He.DefD := ⟨("_law_is_whole", none), "_law_is_whole", "_law_is_whole", defArgs s_law_is_whole, defBody s_law_is_whole, defScope s_law_is_whole, [], []⟩
def d_law_same : He.DefD := ⟨("_law_same", none), "_law_same", "_law_same", defArgs s_law_same, defBody s_law_same, defScope s_law_same, [], []⟩
def d_law_fan_spans : He.DefD := ⟨("_law_fan_spans", none), "_law_fan_spans", "_law_fan_spans", defArgs s_law_fan_spans, defBody s_law_fan_spans, defScope s_law_fan_spans, [], []⟩
def d_law_fan : He.DefD := ⟨("_law_fan", none), "_law_fan", "_law_fan", defArgs s_law_fan, defBody s_law_fan, defScope s_law_fan, [], []⟩
def d_law_fold_fan : He.DefD := ⟨("_law_fold_fan", none), "_law_fold_fan", "_law_fold_fan", defArgs s_law_fold_fan, defBody s_law_fold_fan, defScope s_law_fold_fan, [], []⟩
def d_law_fold_many : He.DefD := ⟨("_law_fold_many", none), "_law_fold_many", "_law_fold_many", defArgs s_law_fold_many, defBody s_law_fold_many, defScope s_law_fold_many, [], []⟩
def d_law_file_names : He.DefD := ⟨("_law_file_names", none), "_law_file_names", "_law_file_names", defArgs s_law_file_names, defBody s_law_file_names, defScope s_law_file_names, [], []⟩
def d_law_fold_deed : He.DefD := ⟨("_law_fold_deed", none), "_law_fold_deed", "_law_fold_deed", defArgs s_law_fold_deed, defBody s_law_fold_deed, defScope s_law_fold_deed, [], []⟩
def d_law_marks_do : He.DefD := ⟨("_law_marks_do", none), "_law_marks_do", "_law_marks_do", defArgs s_law_marks_do, defBody s_law_marks_do, defScope s_law_marks_do, [], []⟩
def d_law_marks_ask : He.DefD := ⟨("_law_marks_ask", none), "_law_marks_ask", "_law_marks_ask", defArgs s_law_marks_ask, defBody s_law_marks_ask, defScope s_law_marks_ask, [], []⟩
def d_law_fold_tell : He.DefD := ⟨("_law_fold_tell", none), "_law_fold_tell", "_law_fold_tell", defArgs s_law_fold_tell, defBody s_law_fold_tell, defScope s_law_fold_tell, [], []⟩
def d_law_after : He.DefD := ⟨("_law_after", none), "_law_after", "_law_after", defArgs s_law_after, defBody s_law_after, defScope s_law_after, [], []⟩
def d_law_uniform : He.DefD := ⟨("_law_uniform", none), "_law_uniform", "_law_uniform", defArgs s_law_uniform, defBody s_law_uniform, defScope s_law_uniform, [], []⟩
def d_law_describes : He.DefD := ⟨("_law_describes", none), "_law_describes", "_law_describes", defArgs s_law_describes, defBody s_law_describes, defScope s_law_describes, [], []⟩
def d_law_is_block : He.DefD := ⟨("_law_is_block", none), "_law_is_block", "_law_is_block", defArgs s_law_is_block, defBody s_law_is_block, defScope s_law_is_block, [], []⟩
def d_law_apart : He.DefD := ⟨("_law_apart", none), "_law_apart", "_law_apart", defArgs s_law_apart, defBody s_law_apart, defScope s_law_apart, [], []⟩
def d_law_entries_least : He.DefD := ⟨("_law_entries_least", none), "_law_entries_least", "_law_entries_least", defArgs s_law_entries_least, defBody s_law_entries_least, defScope s_law_entries_least, [], []⟩
def d_law_tables_at : He.DefD := ⟨("_law_tables_at", none), "_law_tables_at", "_law_tables_at", defArgs s_law_tables_at, defBody s_law_tables_at, defScope s_law_tables_at, [], []⟩
def d_law_needed_tables : He.DefD := ⟨("_law_needed_tables", none), "_law_needed_tables", "_law_needed_tables", defArgs s_law_needed_tables, defBody s_law_needed_tables, defScope s_law_needed_tables, [], []⟩
def d_law_least_good : He.DefD := ⟨("_law_least_good", none), "_law_least_good", "_law_least_good", defArgs s_law_least_good, defBody s_law_least_good, defScope s_law_least_good, [], []⟩
def d_law : He.DefD := ⟨("law", none), "law", "law", defArgs s_law, defBody s_law, defScope s_law, [], []⟩
def fn : List He.DefD := [d_advanced, d_successor, d_continues, d_check_range, d_mark_in, d_clipped, d_joined, d_are_regions, d_Regions_init, d_Regions_as_list, d_Regions_put_parts, d_Regions_assign, d_Regions_unassign, d_marked_blocks, d_stands_for_one, d_is_table, d_folded, d_tables_in, d_copied, d_FoldedTable_init, d_FoldedTable_entries, d_FoldedTable_table_count, d_FoldedTable_tree, d_Shape_init, d_Shape_span, d_Shape_block_at, d_level_of, d_largest_block, d_is_cover, d_cover, d_law_number, d_law_is_whole, d_law_same, d_law_fan_spans, d_law_fan, d_law_fold_fan, d_law_fold_many, d_law_file_names, d_law_fold_deed, d_law_marks_do, d_law_marks_ask, d_law_fold_tell, d_law_after, d_law_uniform, d_law_describes, d_law_is_block, d_law_apart, d_law_entries_least, d_law_tables_at, d_law_needed_tables, d_law_least_good, d_law]
def fa : List He.Fa := [.glo "advanced", .glo "successor", .glo "continues", .glo "check_range", .glo "mark_in", .glo "clipped", .glo "joined", .glo "are_regions", .glo "marked_blocks", .glo "stands_for_one", .glo "is_table", .glo "folded", .glo "tables_in", .glo "copied", .glo "level_of", .glo "largest_block", .glo "is_cover", .glo "cover", .glo "_law_number", .glo "_law_is_whole", .glo "_law_same", .glo "_law_fan_spans", .glo "_law_fan", .glo "_law_fold_fan", .glo "_law_fold_many", .glo "_law_file_names", .glo "_law_fold_deed", .glo "_law_marks_do", .glo "_law_marks_ask", .glo "_law_fold_tell", .glo "_law_after", .glo "_law_uniform", .glo "_law_describes", .glo "_law_is_block", .glo "_law_apart", .glo "_law_entries_least", .glo "_law_tables_at", .glo "_law_needed_tables", .glo "_law_least_good", .glo "law", .glo "Regions", .cls "Regions", .mkr "Regions", .noat "Regions" "limit", .noat "Regions" "rows", .meth "Regions" "as_list", .meth "Regions" "put_parts", .meth "Regions" "assign", .meth "Regions" "unassign", .glo "FoldedTable", .cls "FoldedTable", .mkr "FoldedTable", .noat "FoldedTable" "shape", .noat "FoldedTable" "root", .meth "FoldedTable" "entries", .meth "FoldedTable" "table_count", .meth "FoldedTable" "tree", .glo "Shape", .cls "Shape", .mkr "Shape", .noat "Shape" "widths", .noat "Shape" "levels", .noat "Shape" "page_count", .noat "Shape" "spans", .meth "Shape" "span", .meth "Shape" "block_at", .free "len", .free "max", .free "min", .free "list", .free "tuple", .free "reversed", .free "range", .free "isinstance", .free "enumerate", .free "zip", .free "sum", .free "int", .free "bool", .free "str", .free "abs", .free "sorted"]
def names0 : List PySem.Str := ["_wall", "advanced", "successor", "continues", "PagesError", "AccessError", "BadRange", "Unmapped", "check_range", "mark_in", "rows_before", "row_with", "clipped", "joined", "are_regions", "Regions", "marked_blocks", "stands_for_one", "is_table", "folded", "tables_in", "copied", "FoldedTable", "Shape", "level_of", "largest_block", "is_cover", "cover", "_law_number", "_law_is_whole"]
def names1 : List PySem.Str := ["_law_same", "_law_fan_spans", "_law_fan", "_law_fold_fan", "_law_fold_many", "_law_file_names", "_law_fold_deed", "_law_marks_do", "_law_marks_ask", "_law_fold_tell", "_law_after", "_law_uniform", "_law_describes", "_law_is_block", "_law_apart", "_law_entries_least", "_law_tables_at", "_law_needed_tables", "_law_least_good"]
def names : List PySem.Str := names0 ++ names1
def lawAt : Nat := 56
abbrev R : PySem.W.OpenRow := PySem.W.OpenLaw.row PySem.Challenge.rw_lentpages_k52_whole_fold_least
abbrev hk : PySem.W.Hook := He.hookD 5 fa fn
def ob (s : PySem.W.SharedT) : He.AlD := He.obsDG 5 fa fn (HandSHeadRun.getT s)
theorem ob_eq (s : PySem.W.SharedT) : ob s = hk.obs s.abs := He.obsDG_eq (HandSHeadRun.getT_eq s)
section
variable {K : PySem.W.Frag} {mg : PySem.Str → Option Value} {x m q : PySem.Str} {C f : Addr} {fd : FuncData} {st : Stmt} {ps : List PySem.Str}
theorem fun_plain (F : FunD K x q (defArgs st) (defBody st) (defScope st) [] [] f fd) : L2.Fun K x q st f fd := by
  obtain ⟨oc, od, dV, kV, doc, pm, an, cdv, ct, osl, e, lk, hcd, hD, _⟩ := F.ex
  rcases hD with ⟨_, rfl⟩ | ⟨e, _⟩
  · exact ⟨⟨oc, od, kV, doc, pm, an, cdv, ct, osl, e, lk, hcd⟩, F.kp⟩
  · exact absurd rfl e
abbrev BndOk (x q : PySem.Str) (st : Stmt) (ps : List PySem.Str) : Prop := ∀ (kV doc pm : Value) (an : Option Addr) (cdv ct : Value) (us : List Value), us.length = ps.length → bindArgs (PySem.W.fnOf x q (defArgs st) (defBody st) (defScope st) .none kV doc pm an cdv ct) ⟨us, []⟩ = pure (ps.zip us)
theorem dfd_of (F : ∃ fd, FunD K x x (defArgs st) (defBody st) (defScope st) [] [] f fd) (hm : mg x = some (.ref f)) (h : BndOk x x st ps) : Dfd K mg x st ps := by
  obtain ⟨fd, F⟩ := F
  exact ⟨f, fd, fun_plain F, hm, (fun_plain F).binds h⟩
theorem mfd_of (F : ∃ fd, FunD K m q (defArgs st) (defBody st) (defScope st) [] [] f fd) (hc : Cls K C) (hm : Meth K C m f) (h : BndOk m q st ps) : Mfd K C m q st ps := by
  obtain ⟨fd, F⟩ := F
  exact ⟨f, fd, fun_plain F, hc, hm, (fun_plain F).binds h⟩
theorem ifd_of (F : ∃ fd, FunD K "__init__" q (defArgs st) (defBody st) (defScope st) [] [] f fd) (hc : Mk K C f) (hm : mg x = some (.ref C)) (h : BndOk "__init__" q st ps) : Ifd K mg x C q st ps := by
  obtain ⟨fd, F⟩ := F
  exact ⟨f, fd, fun_plain F, hc, hm, (fun_plain F).binds h⟩
end

theorem facts {P : Program} {w : World} {K : PySem.W.Frag} {h : Heap} {mg : PySem.Str → Option Value} {f : Addr} (X : K.In h) (G : h.Ns mainGlobals mg) (hfa : mg ("law" : PySem.Str) = some (.ref f)) (c : He.SaysD fa fn K) :
    ∃ fd : FuncData, (∀ (s : Shared) (v : Value), BindsTo s fd ⟨[v], []⟩ [("_law_script", v)]) ∧ ∀ base : Heap, K.In base → base.Ns mainGlobals mg → FnOk2 P w K mg base 28 f fd ["_law_script"] (spLaw K) := by
  have m_len : mg "len" = none := He.free_ok X G (c.fact 66 (f := .free "len") rfl)
  have m_max : mg "max" = none := He.free_ok X G (c.fact 67 (f := .free "max") rfl)
  have m_min : mg "min" = none := He.free_ok X G (c.fact 68 (f := .free "min") rfl)
  have m_list : mg "list" = none := He.free_ok X G (c.fact 69 (f := .free "list") rfl)
  have m_tuple : mg "tuple" = none := He.free_ok X G (c.fact 70 (f := .free "tuple") rfl)
  have m_reversed : mg "reversed" = none := He.free_ok X G (c.fact 71 (f := .free "reversed") rfl)
  have m_range : mg "range" = none := He.free_ok X G (c.fact 72 (f := .free "range") rfl)
  have m_isinstance : mg "isinstance" = none := He.free_ok X G (c.fact 73 (f := .free "isinstance") rfl)
  have m_enumerate : mg "enumerate" = none := He.free_ok X G (c.fact 74 (f := .free "enumerate") rfl)
  have m_zip : mg "zip" = none := He.free_ok X G (c.fact 75 (f := .free "zip") rfl)
  have m_sum : mg "sum" = none := He.free_ok X G (c.fact 76 (f := .free "sum") rfl)
  have m_int : mg "int" = none := He.free_ok X G (c.fact 77 (f := .free "int") rfl)
  have m_bool : mg "bool" = none := He.free_ok X G (c.fact 78 (f := .free "bool") rfl)
  have m_str : mg "str" = none := He.free_ok X G (c.fact 79 (f := .free "str") rfl)
  have m_abs : mg "abs" = none := He.free_ok X G (c.fact 80 (f := .free "abs") rfl)
  have m_sorted : mg "sorted" = none := He.free_ok X G (c.fact 81 (f := .free "sorted") rfl)
  have g_Regions : mg "Regions" = some (.ref (He.ga K "Regions")) := He.glo_ok X G (c.fact 40 (f := .glo "Regions") rfl)
  have g_FoldedTable : mg "FoldedTable" = some (.ref (He.ga K "FoldedTable")) := He.glo_ok X G (c.fact 49 (f := .glo "FoldedTable") rfl)
  have g_Shape : mg "Shape" = some (.ref (He.ga K "Shape")) := He.glo_ok X G (c.fact 57 (f := .glo "Shape") rfl)
  have TRg : TR K (He.ga K "Regions") := ⟨He.cls_ok (c.fact 41 (f := .cls "Regions") rfl), He.noat_ok (c.fact 43 (f := .noat "Regions" "limit") rfl), He.noat_ok (c.fact 44 (f := .noat "Regions" "rows") rfl)⟩
  have TSh : TS K (He.ga K "Shape") := ⟨He.cls_ok (c.fact 58 (f := .cls "Shape") rfl), He.noat_ok (c.fact 60 (f := .noat "Shape" "widths") rfl), He.noat_ok (c.fact 61 (f := .noat "Shape" "levels") rfl), He.noat_ok (c.fact 62 (f := .noat "Shape" "page_count") rfl), He.noat_ok (c.fact 63 (f := .noat "Shape" "spans") rfl)⟩
  have TFd : TFt K (He.ga K "FoldedTable") := ⟨He.cls_ok (c.fact 50 (f := .cls "FoldedTable") rfl), He.noat_ok (c.fact 52 (f := .noat "FoldedTable" "shape") rfl), He.noat_ok (c.fact 53 (f := .noat "FoldedTable" "root") rfl)⟩
  have D_advanced : Dfd K mg "advanced" s_advanced p_advanced := dfd_of (c.def_ 0 (d := d_advanced) rfl) (He.glo_ok X G (c.fact 0 (f := .glo "advanced") rfl)) (fun _ _ _ _ _ _ us hl => match us, hl with | [_, _], _ => rfl)
  have D_successor : Dfd K mg "successor" s_successor p_successor := dfd_of (c.def_ 1 (d := d_successor) rfl) (He.glo_ok X G (c.fact 1 (f := .glo "successor") rfl)) (fun _ _ _ _ _ _ us hl => match us, hl with | [_], _ => rfl)
  have D_continues : Dfd K mg "continues" s_continues p_continues := dfd_of (c.def_ 2 (d := d_continues) rfl) (He.glo_ok X G (c.fact 2 (f := .glo "continues") rfl)) (fun _ _ _ _ _ _ us hl => match us, hl with | [_, _], _ => rfl)
  have D_check_range : Dfd K mg "check_range" s_check_range p_check_range := dfd_of (c.def_ 3 (d := d_check_range) rfl) (He.glo_ok X G (c.fact 3 (f := .glo "check_range") rfl)) (fun _ _ _ _ _ _ us hl => match us, hl with | [_, _, _], _ => rfl)
  have D_mark_in : Dfd K mg "mark_in" s_mark_in p_mark_in := dfd_of (c.def_ 4 (d := d_mark_in) rfl) (He.glo_ok X G (c.fact 4 (f := .glo "mark_in") rfl)) (fun _ _ _ _ _ _ us hl => match us, hl with | [_, _], _ => rfl)
  have D_clipped : Dfd K mg "clipped" s_clipped p_clipped := dfd_of (c.def_ 5 (d := d_clipped) rfl) (He.glo_ok X G (c.fact 5 (f := .glo "clipped") rfl)) (fun _ _ _ _ _ _ us hl => match us, hl with | [_, _, _], _ => rfl)
  have D_joined : Dfd K mg "joined" s_joined p_joined := dfd_of (c.def_ 6 (d := d_joined) rfl) (He.glo_ok X G (c.fact 6 (f := .glo "joined") rfl)) (fun _ _ _ _ _ _ us hl => match us, hl with | [_], _ => rfl)
  have D_are_regions : Dfd K mg "are_regions" s_are_regions p_are_regions := dfd_of (c.def_ 7 (d := d_are_regions) rfl) (He.glo_ok X G (c.fact 7 (f := .glo "are_regions") rfl)) (fun _ _ _ _ _ _ us hl => match us, hl with | [_, _], _ => rfl)
  have D_Regions_init : Ifd K mg "Regions" (He.ga K "Regions") "Regions.__init__" s_Regions_init p_Regions_init := ifd_of (c.def_ 8 (d := d_Regions_init) rfl) (He.mkr_ok (c.fact 42 (f := .mkr "Regions") rfl)) g_Regions (fun _ _ _ _ _ _ us hl => match us, hl with | [_, _], _ => rfl)
  have D_Regions_as_list : Mfd K (He.ga K "Regions") "as_list" "Regions.as_list" s_Regions_as_list p_Regions_as_list := mfd_of (c.def_ 9 (d := d_Regions_as_list) rfl) (He.cls_ok (c.fact 41 (f := .cls "Regions") rfl)) (He.meth_ok (c.fact 45 (f := .meth "Regions" "as_list") rfl)) (fun _ _ _ _ _ _ us hl => match us, hl with | [_], _ => rfl)
  have D_Regions_put_parts : Mfd K (He.ga K "Regions") "put_parts" "Regions.put_parts" s_Regions_put_parts p_Regions_put_parts := mfd_of (c.def_ 10 (d := d_Regions_put_parts) rfl) (He.cls_ok (c.fact 41 (f := .cls "Regions") rfl)) (He.meth_ok (c.fact 46 (f := .meth "Regions" "put_parts") rfl)) (fun _ _ _ _ _ _ us hl => match us, hl with | [_, _, _, _], _ => rfl)
  have D_Regions_assign : Afd K (He.ga K "Regions") := by
    obtain ⟨fd, F⟩ := (c.def_ 11 (d := d_Regions_assign) rfl)
    exact ⟨_, fd, F, He.cls_ok (c.fact 41 (f := .cls "Regions") rfl), He.meth_ok (c.fact 47 (f := .meth "Regions" "assign") rfl)⟩
  have D_Regions_unassign : Mfd K (He.ga K "Regions") "unassign" "Regions.unassign" s_Regions_unassign p_Regions_unassign := mfd_of (c.def_ 12 (d := d_Regions_unassign) rfl) (He.cls_ok (c.fact 41 (f := .cls "Regions") rfl)) (He.meth_ok (c.fact 48 (f := .meth "Regions" "unassign") rfl)) (fun _ _ _ _ _ _ us hl => match us, hl with | [_, _, _], _ => rfl)
  have D_marked_blocks : Dfd K mg "marked_blocks" s_marked_blocks p_marked_blocks := dfd_of (c.def_ 13 (d := d_marked_blocks) rfl) (He.glo_ok X G (c.fact 8 (f := .glo "marked_blocks") rfl)) (fun _ _ _ _ _ _ us hl => match us, hl with | [_, _, _, _], _ => rfl)
  have D_stands_for_one : Dfd K mg "stands_for_one" s_stands_for_one p_stands_for_one := dfd_of (c.def_ 14 (d := d_stands_for_one) rfl) (He.glo_ok X G (c.fact 9 (f := .glo "stands_for_one") rfl)) (fun _ _ _ _ _ _ us hl => match us, hl with | [_, _], _ => rfl)
  have D_is_table : Dfd K mg "is_table" s_is_table p_is_table := dfd_of (c.def_ 15 (d := d_is_table) rfl) (He.glo_ok X G (c.fact 10 (f := .glo "is_table") rfl)) (fun _ _ _ _ _ _ us hl => match us, hl with | [_, _, _, _, _], _ => rfl)
  have D_folded : Dfd K mg "folded" s_folded p_folded := dfd_of (c.def_ 16 (d := d_folded) rfl) (He.glo_ok X G (c.fact 11 (f := .glo "folded") rfl)) (fun _ _ _ _ _ _ us hl => match us, hl with | [_, _, _, _], _ => rfl)
  have D_tables_in : Dfd K mg "tables_in" s_tables_in p_tables_in := dfd_of (c.def_ 17 (d := d_tables_in) rfl) (He.glo_ok X G (c.fact 12 (f := .glo "tables_in") rfl)) (fun _ _ _ _ _ _ us hl => match us, hl with | [_], _ => rfl)
  have D_copied : Dfd K mg "copied" s_copied p_copied := dfd_of (c.def_ 18 (d := d_copied) rfl) (He.glo_ok X G (c.fact 13 (f := .glo "copied") rfl)) (fun _ _ _ _ _ _ us hl => match us, hl with | [_], _ => rfl)
  have D_FoldedTable_init : Ifd K mg "FoldedTable" (He.ga K "FoldedTable") "FoldedTable.__init__" s_FoldedTable_init p_FoldedTable_init := ifd_of (c.def_ 19 (d := d_FoldedTable_init) rfl) (He.mkr_ok (c.fact 51 (f := .mkr "FoldedTable") rfl)) g_FoldedTable (fun _ _ _ _ _ _ us hl => match us, hl with | [_, _, _], _ => rfl)
  have D_FoldedTable_entries : Mfd K (He.ga K "FoldedTable") "entries" "FoldedTable.entries" s_FoldedTable_entries p_FoldedTable_entries := mfd_of (c.def_ 20 (d := d_FoldedTable_entries) rfl) (He.cls_ok (c.fact 50 (f := .cls "FoldedTable") rfl)) (He.meth_ok (c.fact 54 (f := .meth "FoldedTable" "entries") rfl)) (fun _ _ _ _ _ _ us hl => match us, hl with | [_], _ => rfl)
  have D_FoldedTable_table_count : Mfd K (He.ga K "FoldedTable") "table_count" "FoldedTable.table_count" s_FoldedTable_table_count p_FoldedTable_table_count := mfd_of (c.def_ 21 (d := d_FoldedTable_table_count) rfl) (He.cls_ok (c.fact 50 (f := .cls "FoldedTable") rfl)) (He.meth_ok (c.fact 55 (f := .meth "FoldedTable" "table_count") rfl)) (fun _ _ _ _ _ _ us hl => match us, hl with | [_], _ => rfl)
  have D_FoldedTable_tree : Mfd K (He.ga K "FoldedTable") "tree" "FoldedTable.tree" s_FoldedTable_tree p_FoldedTable_tree := mfd_of (c.def_ 22 (d := d_FoldedTable_tree) rfl) (He.cls_ok (c.fact 50 (f := .cls "FoldedTable") rfl)) (He.meth_ok (c.fact 56 (f := .meth "FoldedTable" "tree") rfl)) (fun _ _ _ _ _ _ us hl => match us, hl with | [_], _ => rfl)
  have D_Shape_init : Ifd K mg "Shape" (He.ga K "Shape") "Shape.__init__" s_Shape_init p_Shape_init := ifd_of (c.def_ 23 (d := d_Shape_init) rfl) (He.mkr_ok (c.fact 59 (f := .mkr "Shape") rfl)) g_Shape (fun _ _ _ _ _ _ us hl => match us, hl with | [_, _], _ => rfl)
  have D_Shape_span : Mfd K (He.ga K "Shape") "span" "Shape.span" s_Shape_span p_Shape_span := mfd_of (c.def_ 24 (d := d_Shape_span) rfl) (He.cls_ok (c.fact 58 (f := .cls "Shape") rfl)) (He.meth_ok (c.fact 64 (f := .meth "Shape" "span") rfl)) (fun _ _ _ _ _ _ us hl => match us, hl with | [_, _], _ => rfl)
  have D_Shape_block_at : Mfd K (He.ga K "Shape") "block_at" "Shape.block_at" s_Shape_block_at p_Shape_block_at := mfd_of (c.def_ 25 (d := d_Shape_block_at) rfl) (He.cls_ok (c.fact 58 (f := .cls "Shape") rfl)) (He.meth_ok (c.fact 65 (f := .meth "Shape" "block_at") rfl)) (fun _ _ _ _ _ _ us hl => match us, hl with | [_, _, _], _ => rfl)
  have D_level_of : Dfd K mg "level_of" s_level_of p_level_of := dfd_of (c.def_ 26 (d := d_level_of) rfl) (He.glo_ok X G (c.fact 14 (f := .glo "level_of") rfl)) (fun _ _ _ _ _ _ us hl => match us, hl with | [_, _, _], _ => rfl)
  have D_largest_block : Dfd K mg "largest_block" s_largest_block p_largest_block := dfd_of (c.def_ 27 (d := d_largest_block) rfl) (He.glo_ok X G (c.fact 15 (f := .glo "largest_block") rfl)) (fun _ _ _ _ _ _ us hl => match us, hl with | [_, _, _], _ => rfl)
  have D_is_cover : Dfd K mg "is_cover" s_is_cover p_is_cover := dfd_of (c.def_ 28 (d := d_is_cover) rfl) (He.glo_ok X G (c.fact 16 (f := .glo "is_cover") rfl)) (fun _ _ _ _ _ _ us hl => match us, hl with | [_, _, _, _], _ => rfl)
  have D_cover : Dfd K mg "cover" s_cover p_cover := dfd_of (c.def_ 29 (d := d_cover) rfl) (He.glo_ok X G (c.fact 17 (f := .glo "cover") rfl)) (fun _ _ _ _ _ _ us hl => match us, hl with | [_, _, _], _ => rfl)
  have D_law_number : Dfd K mg "_law_number" s_law_number p_law_number := dfd_of (c.def_ 30 (d := d_law_number) rfl) (He.glo_ok X G (c.fact 18 (f := .glo "_law_number") rfl)) (fun _ _ _ _ _ _ us hl => match us, hl with | [_, _, _, _], _ => rfl)
  have D_law_is_whole : Dfd K mg "_law_is_whole" s_law_is_whole p_law_is_whole := dfd_of (c.def_ 31 (d := d_law_is_whole) rfl) (He.glo_ok X G (c.fact 19 (f := .glo "_law_is_whole") rfl)) (fun _ _ _ _ _ _ us hl => match us, hl with | [_], _ => rfl)
  have D_law_same : Dfd K mg "_law_same" s_law_same p_law_same := dfd_of (c.def_ 32 (d := d_law_same) rfl) (He.glo_ok X G (c.fact 20 (f := .glo "_law_same") rfl)) (fun _ _ _ _ _ _ us hl => match us, hl with | [_, _], _ => rfl)
  have D_law_fan_spans : Dfd K mg "_law_fan_spans" s_law_fan_spans p_law_fan_spans := dfd_of (c.def_ 33 (d := d_law_fan_spans) rfl) (He.glo_ok X G (c.fact 21 (f := .glo "_law_fan_spans") rfl)) (fun _ _ _ _ _ _ us hl => match us, hl with | [_], _ => rfl)
  have D_law_fan : Dfd K mg "_law_fan" s_law_fan p_law_fan := dfd_of (c.def_ 34 (d := d_law_fan) rfl) (He.glo_ok X G (c.fact 22 (f := .glo "_law_fan") rfl)) (fun _ _ _ _ _ _ us hl => match us, hl with | [_, _, _], _ => rfl)
  have D_law_fold_fan : Dfd K mg "_law_fold_fan" s_law_fold_fan p_law_fold_fan := dfd_of (c.def_ 35 (d := d_law_fold_fan) rfl) (He.glo_ok X G (c.fact 23 (f := .glo "_law_fold_fan") rfl)) (fun _ _ _ _ _ _ us hl => match us, hl with | [_], _ => rfl)
  have D_law_fold_many : Dfd K mg "_law_fold_many" s_law_fold_many p_law_fold_many := dfd_of (c.def_ 36 (d := d_law_fold_many) rfl) (He.glo_ok X G (c.fact 24 (f := .glo "_law_fold_many") rfl)) (fun _ _ _ _ _ _ us hl => match us, hl with | [_, _], _ => rfl)
  have D_law_file_names : Dfd K mg "_law_file_names" s_law_file_names p_law_file_names := dfd_of (c.def_ 37 (d := d_law_file_names) rfl) (He.glo_ok X G (c.fact 25 (f := .glo "_law_file_names") rfl)) (fun _ _ _ _ _ _ us hl => match us, hl with | [_], _ => rfl)
  have D_law_fold_deed : Dfd K mg "_law_fold_deed" s_law_fold_deed p_law_fold_deed := dfd_of (c.def_ 38 (d := d_law_fold_deed) rfl) (He.glo_ok X G (c.fact 26 (f := .glo "_law_fold_deed") rfl)) (fun _ _ _ _ _ _ us hl => match us, hl with | [_, _, _, _], _ => rfl)
  have D_law_marks_do : Dfd K mg "_law_marks_do" s_law_marks_do p_law_marks_do := dfd_of (c.def_ 39 (d := d_law_marks_do) rfl) (He.glo_ok X G (c.fact 27 (f := .glo "_law_marks_do") rfl)) (fun _ _ _ _ _ _ us hl => match us, hl with | [_, _, _], _ => rfl)
  have D_law_marks_ask : Dfd K mg "_law_marks_ask" s_law_marks_ask p_law_marks_ask := dfd_of (c.def_ 40 (d := d_law_marks_ask) rfl) (He.glo_ok X G (c.fact 28 (f := .glo "_law_marks_ask") rfl)) (fun _ _ _ _ _ _ us hl => match us, hl with | [_, _], _ => rfl)
  have D_law_fold_tell : Dfd K mg "_law_fold_tell" s_law_fold_tell p_law_fold_tell := dfd_of (c.def_ 41 (d := d_law_fold_tell) rfl) (He.glo_ok X G (c.fact 29 (f := .glo "_law_fold_tell") rfl)) (fun _ _ _ _ _ _ us hl => match us, hl with | [_, _, _, _], _ => rfl)
  have D_law_after : Dfd K mg "_law_after" s_law_after p_law_after := dfd_of (c.def_ 42 (d := d_law_after) rfl) (He.glo_ok X G (c.fact 30 (f := .glo "_law_after") rfl)) (fun _ _ _ _ _ _ us hl => match us, hl with | [_], _ => rfl)
  have D_law_uniform : Dfd K mg "_law_uniform" s_law_uniform p_law_uniform := dfd_of (c.def_ 43 (d := d_law_uniform) rfl) (He.glo_ok X G (c.fact 31 (f := .glo "_law_uniform") rfl)) (fun _ _ _ _ _ _ us hl => match us, hl with | [_, _, _], _ => rfl)
  have D_law_describes : Dfd K mg "_law_describes" s_law_describes p_law_describes := dfd_of (c.def_ 44 (d := d_law_describes) rfl) (He.glo_ok X G (c.fact 32 (f := .glo "_law_describes") rfl)) (fun _ _ _ _ _ _ us hl => match us, hl with | [_, _, _], _ => rfl)
  have D_law_is_block : Dfd K mg "_law_is_block" s_law_is_block p_law_is_block := dfd_of (c.def_ 45 (d := d_law_is_block) rfl) (He.glo_ok X G (c.fact 33 (f := .glo "_law_is_block") rfl)) (fun _ _ _ _ _ _ us hl => match us, hl with | [_, _, _], _ => rfl)
  have D_law_apart : Dfd K mg "_law_apart" s_law_apart p_law_apart := dfd_of (c.def_ 46 (d := d_law_apart) rfl) (He.glo_ok X G (c.fact 34 (f := .glo "_law_apart") rfl)) (fun _ _ _ _ _ _ us hl => match us, hl with | [_, _, _, _], _ => rfl)
  have D_law_entries_least : Dfd K mg "_law_entries_least" s_law_entries_least p_law_entries_least := dfd_of (c.def_ 47 (d := d_law_entries_least) rfl) (He.glo_ok X G (c.fact 35 (f := .glo "_law_entries_least") rfl)) (fun _ _ _ _ _ _ us hl => match us, hl with | [_, _, _], _ => rfl)
  have D_law_tables_at : Dfd K mg "_law_tables_at" s_law_tables_at p_law_tables_at := dfd_of (c.def_ 48 (d := d_law_tables_at) rfl) (He.glo_ok X G (c.fact 36 (f := .glo "_law_tables_at") rfl)) (fun _ _ _ _ _ _ us hl => match us, hl with | [_, _, _, _], _ => rfl)
  have D_law_needed_tables : Dfd K mg "_law_needed_tables" s_law_needed_tables p_law_needed_tables := dfd_of (c.def_ 49 (d := d_law_needed_tables) rfl) (He.glo_ok X G (c.fact 37 (f := .glo "_law_needed_tables") rfl)) (fun _ _ _ _ _ _ us hl => match us, hl with | [_, _], _ => rfl)
  have D_law_least_good : Dfd K mg "_law_least_good" s_law_least_good p_law_least_good := dfd_of (c.def_ 50 (d := d_law_least_good) rfl) (He.glo_ok X G (c.fact 38 (f := .glo "_law_least_good") rfl)) (fun _ _ _ _ _ _ us hl => match us, hl with | [_, _, _], _ => rfl)
  obtain ⟨fd, F⟩ := (c.def_ 51 (d := d_law) rfl)
  have e := hfa.symm.trans (He.glo_ok X G (c.fact 39 (f := .glo "law") rfl))
  cases e
  have b := FunD.bindsA (ps := ["_law_script"]) F fun _ _ _ _ _ _ us hl => match us, hl with | [_], _ => rfl
  refine ⟨fd, fun s v => b s [v] rfl, fun base _ _ => ?_⟩
  have d_advanced := cl_of (P := P) (w := w) (mg := mg) (base := base) D_advanced c_advanced (fun vs H Q E h => by obtain ⟨_, _, _, rfl, _⟩ := h; rfl) (b_advanced )
  have d_successor := cl_of (P := P) (w := w) (mg := mg) (base := base) D_successor c_successor (fun vs H Q E h => by obtain ⟨_, _, rfl, _⟩ := h; rfl) (b_successor d_advanced)
  have d_continues := cl_of (P := P) (w := w) (mg := mg) (base := base) D_continues c_continues (fun vs H Q E h => by obtain ⟨_, _, _, _, rfl, _⟩ := h; rfl) (b_continues d_successor)
  have d_check_range := cl_of (P := P) (w := w) (mg := mg) (base := base) D_check_range c_check_range (fun vs H Q E h => by obtain ⟨_, _, _, rfl, _⟩ := h; rfl) (b_check )
  have d_mark_in := cl_of (P := P) (w := w) (mg := mg) (base := base) D_mark_in c_mark_in (fun vs H Q E h => by obtain ⟨_, _, _, rfl, _⟩ := h; rfl) (b_mark_in d_advanced)
  have d_clipped := cl_of (P := P) (w := w) (mg := mg) (base := base) D_clipped c_clipped (fun vs H Q E h => by obtain ⟨_, _, _, _, rfl, _⟩ := h; rfl) (b_clipped m_max m_min d_mark_in)
  have d_joined := cl_of (P := P) (w := w) (mg := mg) (base := base) D_joined c_joined (fun vs H Q E h => by obtain ⟨_, _, rfl, _⟩ := h; rfl) (b_joined d_mark_in d_continues)
  have d_are_regions := cl_of (P := P) (w := w) (mg := mg) (base := base) D_are_regions c_are_regions (fun vs H Q E h => by obtain ⟨_, _, _, rfl, _⟩ := h; rfl) (b_are d_advanced)
  have c_Regions1 := ma_of (P := P) (w := w) (mg := mg) (base := base) D_Regions_init c_Regions_init (fun vs H Q E h => by obtain ⟨_, _, _, rfl, _⟩ := h; rfl) (b_rinit TRg)
  have d_as_list := mt_of (P := P) (w := w) (mg := mg) (base := base) D_Regions_as_list c_Regions_as_list (fun vs H Q E h => by obtain ⟨_, _, _, rfl, _⟩ := h; rfl) (b_as_list TRg m_list)
  have d_put_parts := mt_of (P := P) (w := w) (mg := mg) (base := base) D_Regions_put_parts c_Regions_put_parts (fun vs H Q E h => by obtain ⟨_, _, _, _, _, _, _, rfl, _⟩ := h; rfl) (b_put TRg d_clipped d_joined d_are_regions)
  have d_assignA := mtA_of (P := P) (w := w) (mg := mg) (base := base) D_Regions_assign (fun vs H Q E h => by obtain ⟨_, _, _, _, _, _, _, _, rfl, _⟩ := h; rfl) (b_assign TRg d_check_range d_put_parts)
  have d_unassign := mt_of (P := P) (w := w) (mg := mg) (base := base) D_Regions_unassign c_Regions_unassign (fun vs H Q E h => by obtain ⟨_, _, _, _, _, rfl, _⟩ := h; rfl) (b_unassign TRg d_check_range d_put_parts)
  have c_Shape1 := ma_of (P := P) (w := w) (mg := mg) (base := base) D_Shape_init c_Shape_init (fun vs H Q E h => by obtain ⟨_, _, _, _, rfl, _⟩ := h; rfl) (b_sinit TSh m_tuple m_len m_reversed)
  have d_span := mt_of (P := P) (w := w) (mg := mg) (base := base) D_Shape_span c_Shape_span (fun vs H Q E h => by obtain ⟨_, _, _, _, rfl, _⟩ := h; rfl) (b_span TSh)
  have d_block_at := mt_of (P := P) (w := w) (mg := mg) (base := base) D_Shape_block_at c_Shape_block_at (fun vs H Q E h => by obtain ⟨_, _, _, _, _, rfl, _⟩ := h; rfl) (b_block_at TSh d_check_range)
  have d_level_of := cl_of (P := P) (w := w) (mg := mg) (base := base) D_level_of c_level_of (fun vs H Q E h => by obtain ⟨_, _, _, _, rfl, _⟩ := h; rfl) (b_level_of TSh m_range d_block_at)
  have d_largest_block := cl_of (P := P) (w := w) (mg := mg) (base := base) D_largest_block c_largest_block (fun vs H Q E h => by obtain ⟨_, _, _, _, _, _, rfl, _⟩ := h; rfl) (b_largest TSh d_block_at)
  have d_is_cover := cl_of (P := P) (w := w) (mg := mg) (base := base) D_is_cover c_is_cover (fun vs H Q E h => by obtain ⟨_, _, _, _, _, _, rfl, _⟩ := h; rfl) (b_is_cover TSh d_block_at d_level_of)
  have d_cover := cl_of (P := P) (w := w) (mg := mg) (base := base) D_cover c_cover (fun vs H Q E h => by obtain ⟨_, _, _, _, _, rfl, _⟩ := h; rfl) (b_cover TSh d_check_range d_largest_block d_is_cover)
  have d_stands_for_one := cl_of (P := P) (w := w) (mg := mg) (base := base) D_stands_for_one c_stands_for_one (fun vs H Q E h => by obtain ⟨_, _, _, _, _, rfl, _⟩ := h; rfl) (b_stands m_isinstance m_list m_zip d_advanced)
  have GD : GenD P w K mg base (He.ga K "Shape") := by
    obtain ⟨f, fd, F, hm, hb⟩ := D_marked_blocks
    exact ⟨f, fd, gfn_mb m_isinstance m_list m_enumerate d_span F hm hb 5, hm, F.kp, hb⟩
  have d_tables_in := cl_tin (P := P) (w := w) (mg := mg) (base := base) D_tables_in m_isinstance m_list m_sum 5
  have d_copied := cl_copied (P := P) (w := w) (mg := mg) (base := base) D_copied m_isinstance m_list 5
  have d_is_table := cl_is_table (P := P) (w := w) (mg := mg) (base := base) D_is_table GD m_isinstance m_list d_span d_joined d_stands_for_one
  have d_folded := cl_folded (P := P) (w := w) (mg := mg) (base := base) D_folded TSh m_range d_span d_clipped d_is_table 5
  have c_FT := ma_ft (P := P) (w := w) (mg := mg) (base := base) D_FoldedTable_init TFd d_as_list d_folded
  have d_entries := mt_entries (P := P) (w := w) (mg := mg) (base := base) D_FoldedTable_entries TFd GD m_list
  have d_table_count := mt_count (P := P) (w := w) (mg := mg) (base := base) (CS := He.ga K "Shape") D_FoldedTable_table_count TFd d_tables_in
  have d_tree := mt_tree (P := P) (w := w) (mg := mg) (base := base) (CS := He.ga K "Shape") D_FoldedTable_tree TFd d_copied
  have d_law_number := cl_of (P := P) (w := w) (mg := mg) (base := base) D_law_number c_law_number (fun vs H Q E h => by obtain ⟨_, _, _, _, _, rfl, _⟩ := h; rfl) (b_number m_len m_abs m_int m_range)
  have d_law_is_whole := cl_of (P := P) (w := w) (mg := mg) (base := base) D_law_is_whole c_law_is_whole (fun vs H Q E h => by obtain ⟨_, rfl, _⟩ := h; rfl) (b_whole m_isinstance m_int m_bool)
  have sames := cl_same (P := P) (w := w) (mg := mg) (base := base) D_law_same m_isinstance m_int m_bool m_str m_list m_tuple m_len m_range d_law_is_whole
  have d_law_fan_spans := cl_of (P := P) (w := w) (mg := mg) (base := base) D_law_fan_spans c_law_fan_spans (fun vs H Q E h => by obtain ⟨_, _, rfl, _⟩ := h; rfl) (b_fan_spans m_range m_len)
  have d_law_fan := cl_of (P := P) (w := w) (mg := mg) (base := base) D_law_fan c_law_fan (fun vs H Q E h => by obtain ⟨_, _, _, rfl, _⟩ := h; rfl) (b_fan m_range d_law_number)
  have d_law_fold_fan := cl_of (P := P) (w := w) (mg := mg) (base := base) D_law_fold_fan c_law_fold_fan (fun vs H Q E h => by obtain ⟨_, _, rfl, _⟩ := h; rfl) (b_fold_fan d_law_number d_law_fan)
  have d_law_fold_many := cl_of (P := P) (w := w) (mg := mg) (base := base) D_law_fold_many c_law_fold_many (fun vs H Q E h => by obtain ⟨_, _, _, rfl, _⟩ := h; rfl) (b_fold_many m_min d_law_number)
  have d_law_fold_deed := cl_of (P := P) (w := w) (mg := mg) (base := base) D_law_fold_deed c_law_fold_deed (fun vs H Q E h => by obtain ⟨_, _, _, _, _, _, rfl, _⟩ := h; rfl) (b_deed m_int m_len m_min d_law_number d_law_fan_spans)
  have d_law_file_names := cl_of (P := P) (w := w) (mg := mg) (base := base) D_law_file_names c_law_file_names (fun vs H Q E h => by obtain ⟨_, _, rfl, _⟩ := h; rfl) (b_file_names m_int m_list m_range d_law_number)
  have d_law_marks_do := cl_of (P := P) (w := w) (mg := mg) (base := base) D_law_marks_do c_law_marks_do (fun vs H Q E h => by obtain ⟨_, _, _, _, _, rfl, _⟩ := h; rfl) (b_marks_do m_range)
  have d_law_marks_ask := cl_of (P := P) (w := w) (mg := mg) (base := base) D_law_marks_ask c_law_marks_ask (fun vs H Q E h => by obtain ⟨_, _, _, _, _, rfl, _⟩ := h; rfl) (b_marks_ask d_unassign d_assignA)
  have d_law_fold_tell := cl_of (P := P) (w := w) (mg := mg) (base := base) D_law_fold_tell c_law_fold_tell (fun vs H Q E h => by obtain ⟨_, _, _, _, _, _, _, rfl, _⟩ := h; rfl) (b_fold_tell TSh d_law_marks_ask d_cover d_assignA)
  have d_law_after := cl_of (P := P) (w := w) (mg := mg) (base := base) D_law_after c_law_after (fun vs H Q E h => by obtain ⟨_, _, rfl, _⟩ := h; rfl) (b_after )
  have d_law_uniform := cl_of (P := P) (w := w) (mg := mg) (base := base) D_law_uniform c_law_uniform (fun vs H Q E h => by obtain ⟨_, _, _, _, rfl, _⟩ := h; rfl) (b_uniform m_range d_law_after)
  have d_law_describes := cl_of (P := P) (w := w) (mg := mg) (base := base) D_law_describes c_law_describes (fun vs H Q E h => by obtain ⟨_, _, _, _, _, rfl, _⟩ := h; rfl) (b_describes m_isinstance m_list m_tuple m_len m_min m_range d_law_is_whole d_law_after (sames 2))
  have d_law_is_block := cl_of (P := P) (w := w) (mg := mg) (base := base) D_law_is_block c_law_is_block (fun vs H Q E h => by obtain ⟨_, _, _, _, rfl, _⟩ := h; rfl) (b_is_block m_int m_len d_law_fan_spans)
  have d_law_apart := cl_of (P := P) (w := w) (mg := mg) (base := base) D_law_apart c_law_apart (fun vs H Q E h => by obtain ⟨_, _, _, _, _, _, rfl, _⟩ := h; rfl) (b_apart m_sorted d_law_fan_spans d_law_uniform)
  have d_law_entries_least := cl_of (P := P) (w := w) (mg := mg) (base := base) D_law_entries_least c_law_entries_least (fun vs H Q E h => by obtain ⟨_, _, _, _, _, _, rfl, _⟩ := h; rfl) (b_entries_least m_len m_range d_law_fan_spans d_law_describes d_law_is_block d_law_apart)
  have d_law_tables_at := cl_tables_at (P := P) (w := w) (mg := mg) (base := base) D_law_tables_at m_isinstance m_list m_len m_range d_law_fan_spans 5
  have d_law_needed_tables := cl_of (P := P) (w := w) (mg := mg) (base := base) D_law_needed_tables c_law_needed_tables (fun vs H Q E h => by obtain ⟨_, _, _, _, rfl, _⟩ := h; rfl) (b_needed m_len m_range m_sorted d_law_fan_spans d_law_uniform)
  have d_law_least_good := cl2_of (P := P) (w := w) (mg := mg) (base := base) D_law_least_good c_law_least_good (fun vs H Q E h => by obtain ⟨_, _, _, _, _, _, rfl, _⟩ := h; rfl) (b_least m_len m_sorted d_entries d_tree d_table_count d_law_entries_least d_law_tables_at d_law_needed_tables (sames 1))
  exact fun2_ok (fun_plain F) c_law (fun vs H Q E h => by obtain ⟨_, _, rfl, _⟩ := h; rfl) ((b_law m_list m_range d_law_fold_fan d_law_fan_spans d_law_file_names c_Shape1 c_Regions1 c_FT d_law_least_good d_law_fold_many d_law_fold_deed d_law_marks_do (sames 2) d_law_fold_tell d_law_number) _)
end Lp
end
section
set_option Elab.async false
set_option linter.all false
set_option maxRecDepth 100000
set_option maxHeartbeats 4000000
/-! Lp.E1: a thread of the own logic, told to the machine. -/
namespace Lp
open PySem PySem.Spec PyProof.Rows L2 PySem.W
/-- the caller's thread stops -/
theorem stops {M : Model} {Post : Outcome → Shared → Prop} {f : Flow} {p : Pos} {s : Shared} (hg : leftWithCleanup s.gens = false) (hp : Post (.done f) s) : HkM M Post s ⟨.pure (.done f), .builtin "claim.caller" {}, p, []⟩ := by
  obtain ⟨heap, gens, drawn, toks, os⟩ := s
  refine Hk.stop (o := .done f) (s' := ⟨heap, gens, drawn, toks, os⟩) (.inl rfl) ?_ rfl hp
  show finish (.done f) ⟨heap, gens, drawn, toks, os⟩ = _
  simp only [finish]
  rw [hg]
  rfl
theorem caller_ends {prog : Program} {w : World} {t : Sem Fin} {s : Shared} {R : Shared → Prop} {u : Value} (hz : s.asleep) (h : wpC (model prog w) callerA t (fun fin s' => fin = .done (.ret u) ∧ R s' ∧ leftWithCleanup s'.gens = false) (fun _ _ => False) s) :
    ∃ n s' s'', schedN (denote table) prog w n (.single s ⟨t, .builtin "claim.caller" {}, default, []⟩) = .halted (.done (.ret u)) s' ∧ s'.heap.life = s.heap.life ∧ s'.forget = s''.forget ∧ R s'' := by
  have e : t.wrap (fun f => .pure f) .raise id id = t := by
    rw [← Sem.bind_eq_wrap t (fun f => .pure f)]
    exact bind_pure t
  have hk : HkM (model prog w) (fun o s' => o = .done (.ret u) ∧ R s') s ⟨t, .builtin "claim.caller" {}, default, []⟩ := by
    have z := h (fun o s' => o = .done (.ret u) ∧ R s') (.builtin "claim.caller" {}) (fun f => .pure f) .raise id id [] default caller_in (fun fin p' s' q => ?_) (fun x p' s' q => q.elim)
    · rw [e] at z
      exact z
    · obtain ⟨rfl, q1, q2⟩ := q
      exact stops q2 ⟨rfl, q1⟩
  obtain ⟨n, o, s2, h1, h2, s', h3, _, rfl, h5⟩ := hk.sched s _ rfl rfl hz
  exact ⟨n, s2, s', h1, h2, h3, h5⟩
end Lp
end
section
set_option Elab.async false
set_option linter.all false
set_option maxRecDepth 100000
set_option maxHeartbeats 4000000
/-! Lp.E2: the head for the own logic. -/
namespace Lp
open PySem PySem.Spec PyProof.Rows L2 PySem.W PySem.Calls
/-- what is left behind a call that gives True -/
def TrueEnd (s₁ : Shared) (s' : Shared) : Prop := OldK s₁.heap s'.heap ∧ s'.os = s₁.os ∧ AllBare s'.gens
theorem call_from {c : ClaimW} {tree : List Value → Sem Fin} {w : World} {s : Shared} {free : Addr → Prop} {gens : Prop} {kept : Heap → Prop} (hz : s.asleep) (hn : s.gens = #[])
    (spec : ∀ args, c.pre args = true → WData.layableAll args = true → ∀ ord : List DictEntry → List DictEntry, (∀ l, (ord l).Perm l) →
      ∃ vs s₁, layAllW c.records (classAt s.heap) w.params ord args s = some (vs, s₁) ∧ wpC (model c.prog w) callerA (tree vs) (fun fin s' => fin = .done (.ret (.bool true)) ∧ (c.Ends s args vs s₁ (.ok (.ret (.bool true))) s' ∧ s'.os = s.os ∧ kept s'.heap) ∧ leftWithCleanup s'.gens = false) (fun _ _ => False) s₁) :
    c.CallFrom (fun vs => ⟨tree vs, .builtin "claim.caller" {}, default, []⟩) w free gens kept s := fun args h1 h2 ord h3 => by
  obtain ⟨vs, s₁, lay, run⟩ := spec args h1 h2 ord h3
  have rest := layAllW_rest _ _ _ lay
  obtain ⟨n, s', s'', sched, life, fo, ⟨ends, os, kp⟩⟩ := caller_ends (Shared.asleep_of_life rest.2.2.2 hz) run
  obtain ⟨eh, _, _, eo, _⟩ := Shared.forget_eq fo
  have ends' := ends.congr eh
  have kp' : kept s'.heap := by rw [eh]; exact kp
  refine ⟨vs, s₁, lay, n, _, s', sched, ?_, fun _ i x hx => ?_, kp', congrArg Life.seen (life.trans rest.2.2.2), Shared.rest_eq (eo.trans os)⟩
  · rcases ends' with ⟨v, ev, d1, d2, d3, d4, d5⟩ | ⟨e, ob, cls, ev, _⟩
    · cases ev
      exact .inl ⟨_, rfl, d1, d2, d3, fun b o y _ => d4 b o y, d5⟩
    · cases ev
  · rw [hn] at hx
    simp at hx
theorem holds_own {r : OpenRow} {q : Program} {loose : List Str} {Xt : Shared → Bool} {XP : (Str → Option Value) → Heap → Prop} {α : Type} {Yf : Shared → α} {Ya : World → α} {YP : World → Heap → Prop} {d : DefRec} {N : Nat}
    (left : LeftO r.prog q loose Xt Yf Ya N) (hY : ∀ w s, Yf s = Ya w → YP w s.heap) (hYk : ∀ w h h', YP w h → (∀ b o, h.get? b = some o → h'.get? b = some o) → YP w h')
    (hX : ∀ s, Xt s = true → XP (s.heap.nsMap mainGlobals) s.heap) (hXk : ∀ mg h h', XP mg h → (∀ b o, h.get? b = some o → h'.get? b = some o) → XP mg h')
    (hdef : defOf q r.name = some (d, [])) (hp : r.prog.theDef r.name = some (d.params, d.body, d.scope)) (hk : kwWritten? d.params.kwonlyargs d.params.kw_defaults = some []) (hRf : ∀ s, Xt s = true → RecFacts r.records s.heap) (hwr : (!r.writes || r.records.isEmpty) = true)
    (k1 : r.wellSaid = true) (ok : (chainsOk q && opensWell r.prog && (frees r.toRowW && r.within.isEmpty)) = true) (hb : r.prog.bare) (hw : r.toRowW.promised)
    (call : ∀ (w : World) (s₀ s₁ : Shared) (mg mb : Str → Option Value), Ground q loose r.records XP w s₀ mg mb s₁.heap → YP w s₁.heap → ∀ (f : Addr), mg r.name = some (.ref f) → s₁.gens = #[] → ∀ (args : List WData) (vs : List Value), r.claim.pre args = true → WData.layableAll args = true → WellAll w.params s₁.heap vs args →
      codeC (model r.prog w) callerA (.call (.ref f) ⟨vs, []⟩) (fun res s' => res = .ok (.ret (.bool true)) ∧ TrueEnd s₁ s') s₁)
    (good : ∀ (s₀ s₁ s' : Shared) (args : List WData), TrueEnd s₁ s' → GoodWG r.claim (classAt s₀.heap) (ExcName.means s₀.heap) args s₁ (.ok (.ret (.bool true))) s') : r.Holds := by
  obtain ⟨oka, okb⟩ := Bool.and_eq_true_iff.mp ok
  obtain ⟨hch, hop⟩ := Bool.and_eq_true_iff.mp oka
  obtain ⟨okf, okw⟩ := Bool.and_eq_true_iff.mp okb
  obtain ⟨hsame, hu, ha, hap, hm⟩ := frees_parts okf
  refine ⟨k1, hw, ⟨hb, hop, by show r.makers.map _ = []; rw [hm]; rfl⟩, RowW.promised.witness hw, fun w => ?_⟩
  have bh := left.behind (XP := fun mg h => XP mg h ∧ RecFacts r.records h) (fun s hs => ⟨hX s hs, hRf s hs⟩) hch w
  refine ⟨bh.1, fun s' hs' => ?_⟩
  obtain ⟨s₀, hf, hg0, s, hT, hz, hgens, hg, G00, y⟩ := bh.2 s' hs'
  have G0 : Ground q loose [] XP w s (s.heap.nsMap mainGlobals) (s.heap.nsMap builtinsNs) s.heap := ⟨G00.T, G00.B, G00.D, G00.TE, G00.TD, G00.W, G00.X.1, G00.cls, G00.has, G00.apart, G00.once, G00.K⟩
  have RF := G00.X.2
  have G := RF.ground G0
  have hn : s.gens = #[] := Array.eq_empty_of_size_eq_zero (beq_iff_eq.mp hgens)
  refine ⟨s₀, hf, hg0, s, hT, fun n hn' => ?_, RF.1, RF.2.1, call_from (c := r.toRowW.claim) hz hn fun args hpre hlay ord hord => ?_⟩
  · obtain rfl : n = r.name := by split at hn' <;> simp_all
    exact pinned_of_view hg G0 hdef hp hk
  · obtain ⟨⟨vs, s₁⟩, lay⟩ := Option.isSome_iff_exists.mp (layAllW_isSome (P := w.params) (ord := ord) G.has args r.toRowW.args s (pre_splitW hpre).1)
    have keeps := layAllW_keeps _ _ _ lay
    have rest := layAllW_rest _ _ _ lay
    obtain ⟨as, hrd, hin, hold⟩ := reads_layAllW hord _ _ _ lay hlay s₁.heap (fun _ _ e => e)
    have La : Laid r.toRowW.records w s s₁ args vs as := ⟨⟨ord, hord, lay⟩, hrd, hin, hold, keeps, rest.1.trans hn, rest.2.2.1⟩
    have G₁ := G.keeps hXk keeps
    obtain ⟨a, o, pm, cd, doc, dV, kV, h1, h2, h3, h4, h5⟩ := G₁.fn hdef
    have run := call w s s₁ _ _ G₁ (hYk _ _ _ (hY w s y) keeps) a h1 La.gens args vs hpre hlay La.well
    refine ⟨vs, s₁, lay, wpC_bind (wpC_of (wpAny_nsGet G₁.T.g ?_))⟩
    rw [h1]
    refine wpC_bind (wpC_call (codeC_mono run fun res s' ⟨e, te⟩ => ?_))
    subst e
    have z := (good s s₁ s' args te).laid (c := r.toRowW.claim) hsame (List.isEmpty_iff.mp okw) (ident_freeW hu ha hap) La
    exact wpC_pure ⟨rfl, ⟨z.1, z.2.1, fun wr => ⟨namesKept_of hT hg _ keeps te.1.old, noTable hwr wr⟩⟩, leftWithCleanup_false_of_bare z.2.2⟩
end Lp
end
section
set_option Elab.async false
set_option linter.all false
set_option maxRecDepth 100000
set_option maxHeartbeats 4000000
/-! Lp.E3: the law's call by its promise. -/
namespace Lp
open PySem PySem.Spec PyProof.Rows L2 PySem.W PySem.Calls
/-- an abstract heap with at most the script in it -/
structure Scr (P : Program) (w : World) (K : PySem.W.Frag) (a : Addr) (ns : List Int) (h : Heap) (H : Hp) : Prop where
  only : Only H
  sq : SqL K H a (ns.map V.int)
  ok : HOk P w H h
  at_ : ∀ b, H b ≠ none → b = a
  off : H a ≠ none → K.lookup a = none
theorem scr_of {P : Program} {w : World} {K : PySem.W.Frag} {a : Addr} {ns : List Int} {vs : List Value} {h : Heap} (X : K.In h) (ha : h.get? a = some { cls := .type "list", data := .seq vs.toArray }) (hi : IntsAre vs ns) (hl : ns.length ≤ sizeLine) : ∃ H, Scr P w K a ns h H := by
  have rv := vals_ints hi
  have hlen := hi.length
  cases q : K.lookup a with
  | some o =>
    have e := X a o q
    rw [ha] at e
    cases e
    exact ⟨fun _ => none, fun _ => .inl rfl, .inr ⟨_, vs.toArray, _, q, rfl, rfl, rfl, by rw [List.size_toArray, hlen]; exact hl, by simpa using rv⟩, (fun b u z => by cases z), fun b z => absurd rfl z, fun z => absurd rfl z⟩
  | none =>
    have same : ∀ {b : Addr} {u : HO}, (if b = a then some (HO.frz { cls := .type "list", data := .seq vs.toArray } (.lst (ns.map V.int))) else none) = some u → b = a ∧ u = .frz { cls := .type "list", data := .seq vs.toArray } (.lst (ns.map V.int)) := fun {b u} z => by
      by_cases c : b = a
      · rw [if_pos c] at z; exact ⟨c, (Option.some.inj z).symm⟩
      · rw [if_neg c] at z; cases z
    refine ⟨fun b => if b = a then some (.frz { cls := .type "list", data := .seq vs.toArray } (.lst (ns.map V.int))) else none, fun b => ?_, .inl (.inr ⟨_, if_pos rfl⟩), fun b u z => ?_, fun b z => ?_, fun _ => q⟩
    · by_cases c : b = a
      · exact .inr ⟨_, _, if_pos c⟩
      · exact .inl (if_neg c)
    · obtain ⟨rfl, rfl⟩ := same z
      exact ⟨ha, by rw [List.length_map]; exact hl, vs, _, rv, ha⟩
    · obtain ⟨u, hu⟩ := Option.ne_none_iff_exists'.mp z
      exact (same hu).1
theorem law_runs {P : Program} {w : World} {K : PySem.W.Frag} {mg mb : Str → Option Value} {k : Nat} {fa a : Addr} {fd : FuncData} {x : Str} {sp : Sp} {s₁ : Shared} {vs : List Value} {ns : List Int}
    (X : K.In s₁.heap) (hm : s₁.heap.Ns mainGlobals mg) (hb : s₁.heap.Ns builtinsNs mb) (hbb : ∀ x : Str, x ≠ "__name__" → mb x = bootBuiltins x) (hlim : s₁.heap.NoLimit) (hg : s₁.gens = #[])
    (ha : s₁.heap.get? a = some { cls := .type "list", data := .seq vs.toArray }) (hi : IntsAre vs ns) (hl : ns.length ≤ sizeLine) (hr : Room k callerA)
    (F : ∀ base : Heap, K.In base → base.Ns mainGlobals mg → FnOk2 P w K mg base k fa fd [x] sp) (hbind : ∀ (s : Shared) (u : Value), BindsTo s fd ⟨[u], []⟩ [(x, u)])
    (hsp : ∀ H : Hp, SqL K H a (ns.map V.int) → sp [.ref a] H (fun v _ => v = .bl true) L2.E0) :
    codeC (model P w) callerA (.call (.ref fa) ⟨[.ref a], []⟩) (fun res s' => res = .ok (.ret (.bool true)) ∧ TrueEnd s₁ s') s₁ := by
  obtain ⟨H, S⟩ := scr_of (P := P) (w := w) X ha hi hl
  -- what is no list stays in the base
  have keep : ∀ {b : Addr} {o : Obj}, s₁.heap.get? b = some o → b ≠ a → (hidT s₁.heap H).get? b = some o := fun {b o} e n => hidT_get e (by
    cases q : H b with
    | none => rfl
    | some u => exact absurd (S.at_ b (by rw [q]; simp)) n)
  have names : ∀ {b : Addr} {m : Str → Option Value}, s₁.heap.Ns b m → (hidT s₁.heap H).Ns b m := fun {b m} ⟨o, es, ep, e, dt, r⟩ => ⟨o, es, ep, keep e (fun z => by
    rw [z, ha] at e
    cases e
    have dt' : Data.seq vs.toArray _ = Data.dict es ep := dt
    cases dt'), dt, r⟩
  have inb : K.In (hidT s₁.heap H) := fun b o e => by
    by_cases c : b = a
    · subst c
      refine hidT_get (X b o e) ?_
      cases q : H b with
      | none => rfl
      | some u =>
        have := S.off (by rw [q]; simp)
        rw [this] at e
        cases e
    · exact keep (X b o e) c
  have md : Mod K mg (hidT s₁.heap H) := ⟨inb, names hm, ⟨mb, names hb, hbb⟩, let ⟨mc, h1, h2⟩ := hlim; ⟨mc, names h1, h2⟩⟩
  have e0 : Env0 P w K mg (hidT s₁.heap H) callerA [] s₁ H := ⟨rfl, md, fun b o e => of_hidT e, Nat.le_of_eq (hidT_size _ _), trivial, (fun b hb => by cases hb), S.ok, .of_eq hg⟩
  refine codeC_mono ((F _ inb (names hm)).run callerA [] s₁ H ⟨[.ref a], []⟩ [.ref a] [.ref a] _ hr e0 (hbind s₁ (.ref a)) (.cons rfl .nil) (hsp H S.sq)) fun r s' h => ?_
  match r, h with
  | .ok (.ret u), h =>
    obtain ⟨v, H', os, bare, un, hok', r', q⟩ := h
    obtain rfl : v = .bl true := q
    obtain rfl : u = Value.bool true := r'
    refine ⟨rfl, OldK.of_keep fun b o e => ?_, os, bare⟩
    cases q : H b with
    | none => exact un.keep b o e q (fun z => by cases z) (by simp)
    | some u =>
      rcases S.only b with z | ⟨ob, xs, z⟩
      · rw [q] at z; cases z
      · obtain ⟨e1, _⟩ := S.ok b _ z
        obtain ⟨e2, _⟩ := hok' b _ (un.frzs b ob _ z)
        rw [e] at e1
        cases e1
        exact e2
end Lp
end
section
set_option Elab.async false
set_option linter.all false
set_option maxRecDepth 100000
set_option maxHeartbeats 0
namespace Lp
open PySem PySem.Spec PyProof.Rows L2
theorem run (w : World) : HandSHeadRun.RunEq R (PySem.W.view R.prog [lawAt]) hk ob 100000 names w := by
  intro os
  kernel_rfl
theorem post_good {l : PySem.W.OpenLaw} (s₀ s₁ s' : Shared) (args : List PySem.W.WData) (h : TrueEnd s₁ s') : PySem.W.GoodWG l.row.toRowW.claim (classAt s₀.heap) (ExcName.means s₀.heap) args s₁ (.ok (.ret (.bool true))) s' :=
  ⟨.inl ⟨.bool true, .bool true, [], rfl, fun _ => rfl, .bool true, Att.post_true l _, fun _ => ⟨List.Pairwise.nil, fun _ hm => nomatch hm⟩⟩, h.1, h.2.1, h.2.2⟩
end Lp
open PySem PySem.W PySem.Calls PyProof.Rows HandSHeadRun
theorem PySem.Challenge.cw_lentpages_k52_whole_fold_least_holds : PySem.Challenge.rw_lentpages_k52_whole_fold_least.Holds := by
  w_on; o_law
  have left : LeftO Lp.R.prog (view Lp.R.prog [Lp.lawAt]) Lp.names (fun s => xlAt (view Lp.R.prog [Lp.lawAt]) [] s && recOk Lp.R.toRowW.records s) Lp.hk.obs Lp.hk.val (100000 + 600) true :=
    left_one (M := 100000) (by kernel_rfl) (Nat.ble_eq_true_of_le (by omega)) (fun s => by kernel_rfl) (Nat.ble_eq_true_of_le (by omega)) fun w os => by
      have z := Lp.run w os
      have eo : Lp.ob = fun s => Lp.hk.obs s.abs := funext Lp.ob_eq
      rw [eo] at z
      simp only [endQ_eq, seenQ_eq]
      exact z
  refine Lp.holds_own (r := Lp.R) (q := view Lp.R.prog [Lp.lawAt]) (loose := Lp.names) (XP := XL (view Lp.R.prog [Lp.lawAt]) []) (YP := Lp.hk.says) (d := topDef Lp.R.prog Lp.lawAt) left Lp.hk.of Lp.hk.keeps (fun s z => xl_of s (Bool.and_eq_true_iff.mp z).1) XL.keeps
    (by kernel_rfl) (by kernel_rfl) (by rfl) (fun s z => recFacts_of (Bool.and_eq_true_iff.mp z).2) (by decide +kernel) (by decide +kernel) (by decide +kernel) ⟨rfl, rfl, rfl, rfl, rfl, by decide +kernel⟩ ?hw ?hc (fun s₀ s₁ s' args h => Lp.post_good (l := PySem.Challenge.rw_lentpages_k52_whole_fold_least) s₀ s₁ s' args h)
  case hw => w_witness2
  case hc =>
    intro w s₀ s₁ mg mb G Y f hf hg args vals hpre hlay hwl
    obtain ⟨a, vs, ns, rfl, rfl, hobj, hints, hlen⟩ := Att.script_of (l := PySem.Challenge.rw_lentpages_k52_whole_fold_least) (n := 63) rfl hpre hwl
    obtain ⟨K, KX, c⟩ := Y
    have hmg : mg ("law" : PySem.Str) = some (.ref f) := hf
    obtain ⟨fd, hb, hF⟩ := Lp.facts (P := Lp.R.prog) (w := w) KX G.T.g hmg c
    exact Lp.law_runs KX G.T.g G.T.b G.T.builtins G.T.nolimit hg hobj hints (Nat.le_trans hlen (by decide)) ⟨rfl, by decide, by decide⟩ hF hb fun H hS => ⟨a, ns, rfl, hS, by omega, fun _ => rfl⟩
end
