import PyProof.Rows.All
import Wide.All
import OpenK.AllK
import Wide.FinOn
import HandS.GenList
import HandS.ForMost
import HandS.Base
import HandS.Call
import HandS.List
import HandS.IsInst
import HandS.More
import HandS.OwnEq
import HandS.Words
import HandS.Ends
import HandS.HeadEnd
import PyProof.ReprBulk
import HandS.Defaults
import PySem.Challenge.RW_roomtold_k18_whole_rows_of_searches
import HandS.Comp
import HandS.Conv
import HandS.Codes
import HandS.Property
import HandS.Style
import HandS.Star
import HandS.NoneIn
import HandS.Dict
import HandS.Iter
import HandS.Flow
import HandS.Evl
import PyProof.P3Eq
import KE.KStateDown
import Lean
import HandS.Head0
import HandS.Head1
import HandS.Head2
import HandS.HeadHook1
import HandS.HeadHook2
import HandS.MakeKwOnly
set_option Elab.async false
set_option linter.all false
set_option maxRecDepth 100000
set_option maxHeartbeats 0
section
/-! A sleeping generator is not touched by code that could as well run beside one that can't be woken. -/
namespace Rt
open PySem PySem.Spec PyProof.Rows L2 GenW
open Sem (wp)

/-- the same to be seen, but it can't be woken -/
def deaf : GenState → GenState
  | .suspended _ l c p fs cl => .suspended (fun _ => .unsupported "asleep") l c p fs cl
  | x => x
def isAsleep : GenState → Prop
  | .suspended _ _ _ _ _ _ => True
  | _ => False
def plainG : GenState → Prop
  | .suspended _ _ _ _ fs _ => splitAtGen fs = none
  | _ => True
def plainE : End → Prop
  | .susp _ _ _ _ _ _ fs => splitAtGen fs = none
  | _ => True
theorem plainE_state {e : End} (h : plainE e) : plainG e.genState := by
  cases e with
  | ret r => exact True.intro
  | susp v g l k c p fs => exact h

/-- a: the generators with those of G deaf; b: as they are -/
structure Deaf (G : Nat → Option GenState) (a b : Array GenState) : Prop where
  size : a.size = b.size
  on : ∀ i x, G i = some x → isAsleep x ∧ b[i]? = some x ∧ a[i]? = some (deaf x)
  off : ∀ i, G i = none → a[i]? = b[i]? ∧ ∀ x, a[i]? = some x → plainG x

theorem Deaf.put {G : Nat → Option GenState} {a b : Array GenState} (d : Deaf G a b) {g : Nat} {x : GenState} (hg : G g = none) (hx : plainG x) : Deaf G (a.setIfInBounds g x) (b.setIfInBounds g x) where
  size := by rw [Array.size_setIfInBounds, Array.size_setIfInBounds, d.size]
  on := fun i y hi => by
    have hne : g ≠ i := fun e => by rw [e, hi] at hg; cases hg
    rw [Array.getElem?_setIfInBounds_ne hne, Array.getElem?_setIfInBounds_ne hne]
    exact d.on i y hi
  off := fun i hi => by
    by_cases e : g = i
    · subst e
      refine ⟨?_, fun y hy => ?_⟩
      · by_cases hl : g < a.size
        · have hl2 : g < b.size := by rw [← d.size]; exact hl
          simp [hl, hl2]
        · have hl2 : ¬ g < b.size := by rw [← d.size]; exact hl
          simp [hl, hl2]
      · by_cases hl : g < a.size
        · have e2 : (a.setIfInBounds g x)[g]? = some x := by simp [hl]
          rw [e2] at hy; cases hy; exact hx
        · have e2 : (a.setIfInBounds g x)[g]? = none := by simp [hl]
          rw [e2] at hy; cases hy
    · rw [Array.getElem?_setIfInBounds_ne e, Array.getElem?_setIfInBounds_ne e]
      exact d.off i hi
theorem Deaf.push {G : Nat → Option GenState} {a b : Array GenState} (d : Deaf G a b) {x : GenState} (hx : plainG x) : Deaf G (a.push x) (b.push x) where
  size := by rw [Array.size_push, Array.size_push, d.size]
  on := fun i y hi => by
    obtain ⟨h1, h2, h3⟩ := d.on i y hi
    have l1 : i < b.size := (Array.getElem?_eq_some_iff.mp h2).1
    have l2 : i < a.size := (Array.getElem?_eq_some_iff.mp h3).1
    refine ⟨h1, ?_, ?_⟩
    · rw [Array.getElem?_push, if_neg (Nat.ne_of_lt l1)]; exact h2
    · rw [Array.getElem?_push, if_neg (Nat.ne_of_lt l2)]; exact h3
  off := fun i hi => by
    obtain ⟨h1, h2⟩ := d.off i hi
    rw [Array.getElem?_push, Array.getElem?_push, d.size]
    by_cases e : i = b.size
    · rw [if_pos e, if_pos e]
      exact ⟨rfl, fun y hy => by cases hy; exact hx⟩
    · rw [if_neg e, if_neg e]
      exact ⟨h1, h2⟩
theorem deaf_seen {x : GenState} : (deaf x).seen = x.seen := by cases x <;> rfl
theorem deaf_asleep {x : GenState} (h : isAsleep x) : ∃ l c p fs cl, deaf x = .suspended (fun _ => .unsupported "asleep") l c p fs cl := by
  cases x with
  | suspended k l c p fs cl => exact ⟨l, c, p, fs, cl, rfl⟩
  | _ => exact h.elim
/-- whoever is not asleep, or can be woken, is none of G's -/
theorem Deaf.none_of {G : Nat → Option GenState} {a b : Array GenState} (d : Deaf G a b) {g : Nat} {x : GenState} (h : a[g]? = some x) (hx : ¬ isAsleep x) : G g = none ∧ b[g]? = some x := by
  cases e : G g with
  | none => exact ⟨rfl, by rw [← (d.off g e).1]; exact h⟩
  | some y =>
    obtain ⟨h1, _, h3⟩ := d.on g y e
    obtain ⟨l, c, p, fs, cl, e2⟩ := deaf_asleep h1
    rw [h, e2] at h3
    cases h3
    exact (hx True.intro).elim

theorem splitApp_none : ∀ {a b : List Frame}, splitAtGen a = none → splitAtGen b = none → splitAtGen (a ++ b) = none
  | [], _, _, h => h
  | .gen .. :: _, _, h, _ => by simp [splitAtGen] at h
  | .ret k hd g l c p kp :: r, b, h, hb => by
    have h' : splitAtGen r = none := by
      cases e : splitAtGen r with
      | none => rfl
      | some x => simp [splitAtGen, e] at h
    have ih := splitApp_none h' hb
    show (splitAtGen (r ++ b)).map _ = none
    rw [ih]
    rfl
theorem split_tail {k hd g l c p kp} {r : List Frame} (h : splitAtGen (.ret k hd g l c p kp :: r) = none) : splitAtGen r = none := by
  cases e : splitAtGen r with
  | none => rfl
  | some x => simp [splitAtGen, e] at h
theorem no_unsup {M : Model} {Γ : PySem.Ctx} {p : Pos} {w : String} {fs : List Frame} {s s' : Shared} {e : End} (h : Runs M Γ p (.unsupported w) fs s e s') : False := by
  generalize ht : (Sem.unsupported w : Sem PySem.Fin) = t at h
  induction h with
  | segRet _ _ ih _ => exact ih ht
  | segGen _ _ ih _ => exact ih ht
  | segSuspOut _ _ ih => exact ih ht
  | segSuspGen _ _ _ _ ih _ => exact ih ht
  | _ => cases ht

theorem runs_deaf {M : Model} {G : Nat → Option GenState} {Γ : PySem.Ctx} {p : Pos} {t : Sem PySem.Fin} {fs : List Frame} {s s' : Shared} {e : End} (h : Runs M Γ p t fs s e s') :
    splitAtGen fs = none → ∀ b, Deaf G s.gens b → plainE e ∧ ∃ b', Deaf G s'.gens b' ∧ Runs M Γ p t fs { s with gens := b } e { s' with gens := b' } := by
  induction h with
  | done => exact fun _ b d => ⟨True.intro, b, d, .done⟩
  | raise => exact fun _ b d => ⟨True.intro, b, d, .raise⟩
  | again hq _ ih =>
    intro hf b d
    obtain ⟨h1, b', d', r⟩ := ih hf b d
    exact ⟨h1, b', d', .again hq r⟩
  | rule _ ih =>
    intro hf b d
    obtain ⟨h1, b', d', r⟩ := ih hf b d
    exact ⟨h1, b', d', .rule r⟩
  | «at» _ ih =>
    intro hf b d
    obtain ⟨h1, b', d', r⟩ := ih hf b d
    exact ⟨h1, b', d', .at r⟩
  | load ho _ ih =>
    intro hf b d
    obtain ⟨h1, b', d', r⟩ := ih hf b d
    exact ⟨h1, b', d', .load ho r⟩
  | update ho _ ih =>
    intro hf b d
    obtain ⟨h1, b', d', r⟩ := ih hf b d
    exact ⟨h1, b', d', .update ho r⟩
  | loadIfAlive _ ih =>
    intro hf b d
    obtain ⟨h1, b', d', r⟩ := ih hf b d
    exact ⟨h1, b', d', .loadIfAlive r⟩
  | point _ ih =>
    intro hf b d
    obtain ⟨h1, b', d', r⟩ := ih hf b d
    exact ⟨h1, b', d', .point r⟩
  | alloc _ ih =>
    intro hf b d
    obtain ⟨h1, b', d', r⟩ := ih hf b d
    exact ⟨h1, b', d', .alloc r⟩
  | fresh _ ih =>
    intro hf b d
    obtain ⟨h1, b', d', r⟩ := ih hf b d
    exact ⟨h1, b', d', .fresh r⟩
  | ask _ ih =>
    intro hf b d
    obtain ⟨h1, b', d', r⟩ := ih hf b d
    exact ⟨h1, b', d', .ask r⟩
  | choose hn _ ih =>
    intro hf b d
    obtain ⟨h1, b', d', r⟩ := ih hf b d
    exact ⟨h1, b', d', .choose hn r⟩
  | os _ ih =>
    intro hf b d
    obtain ⟨h1, b', d', r⟩ := ih hf b d
    exact ⟨h1, b', d', .os r⟩
  | handled _ ih =>
    intro hf b d
    obtain ⟨h1, b', d', r⟩ := ih hf b d
    exact ⟨h1, b', d', .handled r⟩
  | @genState g st _ _ k s e s' hg _ ih =>
    intro hf b d
    obtain ⟨h1, b', d', r⟩ := ih hf b d
    cases hG : G g with
    | none =>
      have hb : b[g]? = some st := by rw [← (d.off g hG).1]; exact hg
      exact ⟨h1, b', d', .genState (s := { s with gens := b }) hb r⟩
    | some x =>
      obtain ⟨_, h3, h4⟩ := d.on g x hG
      rw [hg] at h4
      have e2 : st = deaf x := Option.some.inj h4
      refine ⟨h1, b', d', .genState (s := { s with gens := b }) h3 ?_⟩
      rw [e2, deaf_seen] at r
      exact r
  | stack _ ih =>
    intro hf b d
    obtain ⟨h1, b', d', r⟩ := ih hf b d
    exact ⟨h1, b', d', .stack r⟩
  | thread _ ih =>
    intro hf b d
    obtain ⟨h1, b', d', r⟩ := ih hf b d
    exact ⟨h1, b', d', .thread r⟩
  | @newGen _ _ k s e s' c _ ih =>
    intro hf b d
    have dp := d.push (x := .fresh c) True.intro
    obtain ⟨h1, b', d', r⟩ := ih hf (b.push (.fresh c)) dp
    refine ⟨h1, b', d', .newGen (s := { s with gens := b }) ?_⟩
    rw [d.size] at r
    exact r
  | call _ _ ih1 ih2 =>
    intro hf b d
    obtain ⟨_, b1, d1, r1⟩ := ih1 rfl b d
    obtain ⟨h2, b2, d2, r2⟩ := ih2 hf b1 d1
    exact ⟨h2, b2, d2, .call r1 r2⟩
  | callSusp _ ih =>
    intro hf b d
    obtain ⟨h1, b1, d1, r1⟩ := ih rfl b d
    exact ⟨splitApp_none (show splitAtGen _ = none from h1) rfl, b1, d1, .callSusp r1⟩
  | yield => exact fun _ b d => ⟨rfl, b, d, .yield⟩
  | @resumeFresh Γ p g l k s c e₁ s₁ e s' hg _ hq _ ih1 ih2 =>
    intro hf b d
    obtain ⟨hG, hb⟩ := d.none_of hg (fun z => z)
    obtain ⟨h1, b1, d1, r1⟩ := ih1 rfl (b.setIfInBounds g .running) (d.put (x := .running) hG True.intro)
    obtain ⟨h2, b2, d2, r2⟩ := ih2 hf (b1.setIfInBounds g e₁.genState) (d1.put hG (plainE_state h1))
    exact ⟨h2, b2, d2, .resumeFresh (s := { s with gens := b }) (s₁ := { s₁ with gens := b1 }) hb r1 hq r2⟩
  | @resumeSuspended Γ p g r l k s k₀ l₀ c₀ p₀ fs cl e₁ s₁ e s' hg hr hq _ ih1 ih2 =>
    intro hf b d
    cases hG : G g with
    | none =>
      obtain ⟨e1, e2⟩ := d.off g hG
      have hb : b[g]? = some (.suspended k₀ l₀ c₀ p₀ fs cl) := by rw [← e1]; exact hg
      obtain ⟨h1, b1, d1, r1⟩ := ih1 (e2 _ hg) (b.setIfInBounds g .running) (d.put (x := .running) hG True.intro)
      obtain ⟨h2, b2, d2, r2⟩ := ih2 hf (b1.setIfInBounds g e₁.genState) (d1.put hG (plainE_state h1))
      exact ⟨h2, b2, d2, .resumeSuspended (s := { s with gens := b }) (s₁ := { s₁ with gens := b1 }) hb r1 hq r2⟩
    | some x =>
      obtain ⟨h1, _, h3⟩ := d.on g x hG
      obtain ⟨l', c', p', fs', cl', e2⟩ := deaf_asleep h1
      rw [hg, e2] at h3
      cases h3
      exact (no_unsup hr).elim
  | resumeJustStarted hg hv _ ih =>
    intro hf b d
    obtain ⟨hG, hb⟩ := d.none_of hg (fun z => z)
    obtain ⟨h1, b', d', r⟩ := ih hf b d
    exact ⟨h1, b', d', .resumeJustStarted hb hv r⟩
  | @resumeThrowFresh g _ _ k e s' x l s c hg _ ih =>
    intro hf b d
    obtain ⟨hG, hb⟩ := d.none_of hg (fun z => z)
    obtain ⟨h1, b', d', r⟩ := ih hf (b.setIfInBounds g .finished) (d.put (x := .finished) hG True.intro)
    exact ⟨h1, b', d', .resumeThrowFresh (s := { s with gens := b }) hb r⟩
  | resumeRunning hg _ ih =>
    intro hf b d
    obtain ⟨hG, hb⟩ := d.none_of hg (fun z => z)
    obtain ⟨h1, b', d', r⟩ := ih hf b d
    exact ⟨h1, b', d', .resumeRunning hb r⟩
  | resumeFinished hg _ ih =>
    intro hf b d
    obtain ⟨hG, hb⟩ := d.none_of hg (fun z => z)
    obtain ⟨h1, b', d', r⟩ := ih hf b d
    exact ⟨h1, b', d', .resumeFinished hb r⟩
  | segRet _ _ ih1 ih2 =>
    intro hf b d
    obtain ⟨_, b1, d1, r1⟩ := ih1 rfl b d
    obtain ⟨h2, b2, d2, r2⟩ := ih2 (split_tail hf) b1 d1
    exact ⟨h2, b2, d2, .segRet r1 r2⟩
  | segGen _ _ _ _ => exact fun hf => by simp [splitAtGen] at hf
  | segSuspOut hs _ ih =>
    intro hf b d
    obtain ⟨h1, b1, d1, r1⟩ := ih rfl b d
    exact ⟨splitApp_none (show splitAtGen _ = none from h1) hf, b1, d1, .segSuspOut hs r1⟩
  | segSuspGen hs _ _ _ _ _ => exact fun hf => by rw [hf] at hs; cases hs

theorem wakes_deaf {M : Model} {G : Nat → Option GenState} {Γ : PySem.Ctx} {p : Pos} {g : Nat} {r : Resume} {s s' : Shared} {res : GenResult} (h : Wakes M Γ p g r s res s') (b : Array GenState) (d : Deaf G s.gens b) :
    ∃ b', Deaf G s'.gens b' ∧ Wakes M Γ p g r { s with gens := b } res { s' with gens := b' } := by
  unfold Wakes at h
  cases hg : s.gens[g]? with
  | none => rw [hg] at h; exact h.elim
  | some x =>
    rw [hg] at h
    cases x with
    | fresh c =>
      obtain ⟨hG, hb⟩ := d.none_of hg (fun z => z)
      cases r with
      | send v =>
        by_cases hv : v = .none
        · subst hv
          obtain ⟨e₁, s₁, h1, hq, rfl, rfl⟩ := h
          obtain ⟨q1, b1, d1, r1⟩ := runs_deaf h1 rfl (b.setIfInBounds g .running) (d.put (x := .running) hG True.intro)
          refine ⟨b1.setIfInBounds g e₁.genState, d1.put hG (plainE_state q1), ?_⟩
          unfold Wakes
          show match b[g]? with | _ => _
          rw [hb]
          exact ⟨e₁, { s₁ with gens := b1 }, r1, hq, rfl, rfl⟩
        · have h' : res = .justStarted ∧ s' = s := by cases v <;> first | exact absurd rfl hv | exact h
          obtain ⟨rfl, rfl⟩ := h'
          exact ⟨b, d, Sem.wakes_justStarted M Γ hb hv⟩
      | throw v =>
        obtain ⟨rfl, rfl⟩ := h
        refine ⟨b.setIfInBounds g .finished, d.put (x := .finished) hG True.intro, ?_⟩
        unfold Wakes
        show match b[g]? with | _ => _
        rw [hb]
        exact ⟨rfl, rfl⟩
    | suspended k₀ l₀ c₀ p₀ fs cl =>
      obtain ⟨e₁, s₁, h1, hq, rfl, rfl⟩ := h
      cases hG : G g with
      | none =>
        obtain ⟨e1, e2⟩ := d.off g hG
        have hb : b[g]? = some (.suspended k₀ l₀ c₀ p₀ fs cl) := by rw [← e1]; exact hg
        obtain ⟨q1, b1, d1, r1⟩ := runs_deaf h1 (e2 _ hg) (b.setIfInBounds g .running) (d.put (x := .running) hG True.intro)
        refine ⟨b1.setIfInBounds g e₁.genState, d1.put hG (plainE_state q1), ?_⟩
        unfold Wakes
        show match b[g]? with | _ => _
        rw [hb]
        exact ⟨e₁, { s₁ with gens := b1 }, r1, hq, rfl, rfl⟩
      | some y =>
        obtain ⟨q1, _, q3⟩ := d.on g y hG
        obtain ⟨l', c', p', fs', cl', e2⟩ := deaf_asleep q1
        rw [hg, e2] at q3
        cases q3
        exact (no_unsup h1).elim
    | running =>
      obtain ⟨hG, hb⟩ := d.none_of hg (fun z => z)
      obtain ⟨rfl, rfl⟩ := h
      refine ⟨b, d, ?_⟩
      unfold Wakes
      show match b[g]? with | _ => _
      rw [hb]
      exact ⟨rfl, rfl⟩
    | finished =>
      obtain ⟨hG, hb⟩ := d.none_of hg (fun z => z)
      obtain ⟨rfl, rfl⟩ := h
      refine ⟨b, d, ?_⟩
      unfold Wakes
      show match b[g]? with | _ => _
      rw [hb]
      exact ⟨rfl, rfl⟩

theorem wp_deaf {α : Type} {M : Model} {G : Nat → Option GenState} {Γ : PySem.Ctx} (t : Sem α) : ∀ (Q : α → Pos → Shared → Prop) (E : Value → Pos → Shared → Prop) (p : Pos) (s : Shared), wp M Γ t Q E p s → ∀ b, Deaf G s.gens b →
    wp M Γ t (fun a p' s' => ∃ g', Deaf G g' s'.gens ∧ Q a p' { s' with gens := g' }) (fun e p' s' => ∃ g', Deaf G g' s'.gens ∧ E e p' { s' with gens := g' }) p { s with gens := b } := by
  induction t with
  | pure a => exact fun Q E p s h b d => ⟨s.gens, d, h⟩
  | raise e => exact fun Q E p s h b d => ⟨s.gens, d, h⟩
  | unsupported _ => exact fun Q E p s h b d => h
  | finish _ => exact fun Q E p s h b d => h
  | register _ _ => exact fun Q E p s h b d => h
  | yield _ _ _ _ => exact fun Q E p s h b d => h
  | fork _ _ => exact fun Q E p s h b d => h
  | await _ _ _ _ _ => exact fun Q E p s h b d => h
  | rule _ k ih => exact fun Q E p s h b d => ih () Q E p s h b d
  | «at» p' k ih => exact fun Q E p s h b d => ih () Q E p' s h b d
  | load a _ k ih => exact fun Q E p s h b d => let ⟨o, ho, h⟩ := h; ⟨o, ho, ih o Q E p s h b d⟩
  | update a _ f k ih => exact fun Q E p s h b d => ⟨h.1, ih () Q E p _ h.2 b d⟩
  | loadIfAlive a k ih => exact fun Q E p s h b d => ih _ Q E p s h b d
  | point _ k ih => exact fun Q E p s h b d => ih () Q E p s h b d
  | alloc o k ih => exact fun Q E p s h b d => ih _ Q E p _ h b d
  | fresh k ih => exact fun Q E p s h b d => ih _ Q E p _ h b d
  | ask k ih => exact fun Q E p s h b d => ih _ Q E p s h b d
  | choose src m k ih => exact fun Q E p s h b d => ⟨h.1, ih _ Q E p _ h.2 b d⟩
  | os q _ k ih => exact fun Q E p s h b d => ih _ Q E p _ h b d
  | call c hd _ _ k ih =>
    intro Q E p s h b d
    obtain ⟨r, s', hr, h⟩ := h
    obtain ⟨_, b', d', hr'⟩ := runs_deaf hr rfl b d
    exact ⟨r, { s' with gens := b' }, hr', ih r Q E p s' h b' d'⟩
  | handled own k ih => exact fun Q E p s h b d => ih _ Q E p s h b d
  | genState g k ih =>
    intro Q E p s h b d
    obtain ⟨st, hs, h⟩ := h
    cases hG : G g with
    | none => exact ⟨st, by rw [← hs]; exact ((d.off g hG).1).symm, ih _ Q E p s h b d⟩
    | some x =>
      obtain ⟨_, h3, h4⟩ := d.on g x hG
      rw [hs] at h4
      have e2 : st = deaf x := Option.some.inj h4
      refine ⟨x, h3, ?_⟩
      rw [e2, deaf_seen] at h
      exact ih _ Q E p s h b d
  | newGen c k ih =>
    intro Q E p s h b d
    have dp := d.push (x := .fresh c) True.intro
    have r := ih _ Q E p _ h (b.push (.fresh c)) dp
    rw [d.size] at r
    exact r
  | resume g r _ k ih =>
    intro Q E p s h b d
    obtain ⟨res, s', hw, h⟩ := h
    obtain ⟨b', d', hw'⟩ := wakes_deaf hw b d
    exact ⟨res, { s' with gens := b' }, hw', ih res Q E p s' h b' d'⟩
  | stack k ih => exact fun Q E p s h b d => ih _ Q E p s h b d
  | thread k ih => exact fun Q E p s h b d => ih _ Q E p s h b d

/-- who sleeps now -/
def sleepers (b : Array GenState) : Nat → Option GenState := fun i => match b[i]? with
  | some (.suspended k l c p fs cl) => some (.suspended k l c p fs cl)
  | _ => none
theorem deaf_all (b : Array GenState) : Deaf (sleepers b) (b.map deaf) b where
  size := Array.size_map
  on := fun i x h => by
    unfold sleepers at h
    cases hb : b[i]? with
    | none => rw [hb] at h; cases h
    | some y =>
      rw [hb] at h
      cases y with
      | suspended k l c p fs cl =>
        cases h
        refine ⟨True.intro, rfl, ?_⟩
        rw [Array.getElem?_map, hb]
        rfl
      | _ => cases h
  off := fun i h => by
    unfold sleepers at h
    rw [Array.getElem?_map]
    cases hb : b[i]? with
    | none => exact ⟨rfl, fun x hx => by cases hx⟩
    | some y =>
      rw [hb] at h
      cases y with
      | suspended k l c p fs cl => cases h
      | fresh c => exact ⟨rfl, fun x hx => by cases hx; exact True.intro⟩
      | running => exact ⟨rfl, fun x hx => by cases hx; exact True.intro⟩
      | finished => exact ⟨rfl, fun x hx => by cases hx; exact True.intro⟩
theorem deaf_bare {x : GenState} : (deaf x).bare = x.bare := by cases x <;> rfl
theorem bare_deafen {b : Array GenState} (h : AllBare b) : AllBare (b.map deaf) := fun x hx => by
  obtain ⟨y, hy, e⟩ := Array.mem_map.mp hx
  rw [← e, deaf_bare]
  exact h y hy
theorem Deaf.bare {G : Nat → Option GenState} {a b : Array GenState} (d : Deaf G a b) (h : AllBare a) : AllBare b := fun y hy => by
  obtain ⟨i, hi, e⟩ := Array.mem_iff_getElem.mp hy
  have hb : b[i]? = some y := by rw [Array.getElem?_eq_getElem hi, e]
  cases hG : G i with
  | none =>
    have ha : a[i]? = some y := by rw [(d.off i hG).1]; exact hb
    exact h y (Array.mem_of_getElem? ha)
  | some x =>
    obtain ⟨_, h2, h3⟩ := d.on i x hG
    rw [hb] at h2
    cases h2
    have := h _ (Array.mem_of_getElem? h3)
    rw [deaf_bare] at this
    exact this

/-- THE FRAME RULE: what runs while those that sleep now are deaf, runs with them as they are, and leaves them asleep -/
theorem wpAny_asleep {α : Type} {M : Model} {A : Around} {t : Sem α} {Q : α → Shared → Prop} {E : Value → Shared → Prop} {s : Shared}
    (h : wpAny M A t (fun a s' => ∀ b, Deaf (sleepers s.gens) s'.gens b → Q a { s' with gens := b }) (fun e s' => ∀ b, Deaf (sleepers s.gens) s'.gens b → E e { s' with gens := b }) { s with gens := s.gens.map deaf }) : wpAny M A t Q E s := fun Γ p hΓ => by
  have q := wp_deaf (G := sleepers s.gens) t _ _ p _ (h Γ p hΓ) s.gens (deaf_all s.gens)
  exact Sem.wp_mono M Γ t (fun a p' s' ⟨g', d, z⟩ => z s'.gens d) (fun e p' s' ⟨g', d, z⟩ => z s'.gens d) p s q
theorem asleep_at {b c a : Array GenState} {g : Nat} {k : Resume → Sem PySem.Fin} {l : List Value} {cd : Code} {p : Pos} {fs : List Frame} {cl : Bool} (h : b[g]? = some (.suspended k l cd p fs cl)) (d : Deaf (sleepers b) a c) : c[g]? = some (.suspended k l cd p fs cl) := by
  have e : sleepers b g = some (.suspended k l cd p fs cl) := by
    unfold sleepers
    rw [h]
  exact (d.on g _ e).2.1
end Rt
end
section
/-! Generators whose consumer computes between the yields: the generator's own side. -/
namespace Rt
open PySem PySem.Spec PyProof.Rows L2 GenW
open Sem (wp)

/-! ### a segment of a run, up to the next yield or the end -/
def Sg (M : Model) (A : Around) (Ph : End → Shared → Prop) (c : Code) (t : Sem PySem.Fin) (fs : List Frame) (s : Shared) : Prop :=
  ∀ (Γ : PySem.Ctx) (p : Pos), Γ.code = c → Γ.Woken A → ∃ e s', Runs M Γ p t fs s e s' ∧ Ph e s'
section
variable {M : Model} {A : Around} {Ph : End → Shared → Prop} {c : Code} {fs : List Frame} {s : Shared}
theorem sg_wrap {α : Type} {m : Sem α} {K : α → Sem PySem.Fin} {J : Value → Sem PySem.Fin} {gd : Bool → Bool} {lv : List Value → List Value}
    (h : wpAny M (A.over c fs) m (fun a s' => Sg M A Ph c (K a) fs s') (fun x s' => Sg M A Ph c (J x) fs s') s) : Sg M A Ph c (m.wrap K J gd lv) fs s := by
  intro Γ p hc hΓ
  subst hc
  refine runs_wrap_of_wp K J gd lv m (h (Γ.over fs) p (hΓ.over fs)) ?_ ?_
  · exact fun a p' s' q => q Γ p' rfl hΓ
  · exact fun x p' s' q => q Γ p' rfl hΓ
theorem sg_bindw {α β : Type} {m : Sem α} {f : α → Sem β} {K : β → Sem PySem.Fin} {J : Value → Sem PySem.Fin} {gd : Bool → Bool} {lv : List Value → List Value}
    (h : wpAny M (A.over c fs) m (fun a s' => Sg M A Ph c ((f a).wrap K J gd lv) fs s') (fun x s' => Sg M A Ph c (J x) fs s') s) : Sg M A Ph c ((m >>= f).wrap K J gd lv) fs s := by
  rw [Sem.bind_eq_wrap', Sem.wrap_wrap]
  exact sg_wrap h
theorem sg_bindw2 {α β γ : Type} {m : Sem α} {f : α → Sem β} {f2 : β → Sem γ} {K : γ → Sem PySem.Fin} {J : Value → Sem PySem.Fin} {gd : Bool → Bool} {lv : List Value → List Value}
    (h : wpAny M (A.over c fs) m (fun a s' => Sg M A Ph c ((f a).wrap (fun b => (f2 b).wrap K J gd lv) J gd lv) fs s') (fun x s' => Sg M A Ph c (J x) fs s') s) : Sg M A Ph c (((m >>= f) >>= f2).wrap K J gd lv) fs s := by
  rw [Sem.bind_eq_wrap' (m >>= f) f2, Sem.wrap_wrap]
  exact sg_bindw h
theorem sg_pos {q : Pos} {k : Unit → Sem PySem.Fin} (h : Sg M A Ph c (k ()) fs s) : Sg M A Ph c (.at q k) fs s :=
  sg_wrap (m := standAt q) (K := k) (J := .raise) (gd := id) (lv := id) (wpAny_standAt h)
theorem sg_pt {l : List Value} {k : Unit → Sem PySem.Fin} (h : Sg M A Ph c (k ()) fs s) : Sg M A Ph c (.point l k) fs s :=
  sg_wrap (m := point) (K := k) (J := .raise) (gd := id) (lv := fun _ => l) (wpAny_point h)
theorem sg_call {c' : Code} {h g l} {k : Result → Sem PySem.Fin} (hc : ∀ p, Sg M A Ph c' (M.den c') (.ret k h g l c p [] :: fs) s) : Sg M A Ph c (.call c' h g l k) fs s := by
  intro Γ p e hΓ
  subst e
  obtain ⟨e, s', hr, he⟩ := hc p (Γ.goto c') p rfl (hΓ.goto c')
  exact ⟨e, s', runs_call_seg hr, he⟩
theorem sg_leaf {k h g l c₁ p₁ kp} (r : Result) (hk : Sg M A Ph c₁ (k r) fs s) : Sg M A Ph c (leafOf r) (.ret k h g l c₁ p₁ kp :: fs) s := by
  intro Γ p e hΓ
  obtain ⟨e, s', hr, he⟩ := hk (Γ.goto c₁) p₁ rfl (hΓ.goto c₁)
  exact ⟨e, s', Runs.pop r hr, he⟩
theorem sg_again {c' : Code} (hq : c'.quiet = true) (hc : Sg M A Ph c' (M.den c') fs s) : Sg M A Ph c (.pure (.again c')) fs s := by
  intro Γ p e hΓ
  obtain ⟨e, s', hr, he⟩ := hc (Γ.goto c') p rfl (hΓ.goto c')
  exact ⟨e, s', Runs.head (c₁ := c') (fun _ _ x => .again hq x) hr, he⟩
theorem sg_end (r : Result) (h : Ph (.ret r) s) : Sg M A Ph c (leafOf r) [] s := fun Γ p _ _ => ⟨.ret r, s, Runs.leaf r, h⟩
theorem sg_yield {v g₀ l} {k : Resume → Sem PySem.Fin} (hfs : splitAtGen fs = none) (hg : g₀ = false) (h : ∀ p, Ph (.susp v false l k c p fs) s) : Sg M A Ph c (.yield v g₀ l k) fs s := by
  subst hg
  intro Γ p e _
  subst e
  exact ⟨_, s, Runs.yield' fs hfs, h p⟩
theorem sg_execs_cons {env : Env} {K : Flow → Sem PySem.Fin} {J : Value → Sem PySem.Fin} {gd : Bool → Bool} {lv : List Value → List Value} {st : Stmt} {rest : List Stmt}
    (h : Sg M A Ph c ((exec st env).wrap (fun f => match f with | .next => (execs rest env).wrap K J gd lv | f => K f) J gd lv) fs s) : Sg M A Ph c ((execs (st :: rest) env).wrap K J gd lv) fs s := by
  rw [execs_cons_wrap]
  exact h
end

/-! ### the generator's frame, seen at each wake anew -/
/-- the heap as of the generator's making: the elder objects, as they are now -/
def cutH (h : Heap) (n : Nat) : Heap := { h with objs := h.objs.extract 0 n }
theorem cut_size {h : Heap} {n : Nat} (hn : n ≤ h.objs.size) : (cutH h n).objs.size = n := by
  show (h.objs.extract 0 n).size = n
  rw [Array.size_extract]
  omega
theorem cut_get {h : Heap} {n b : Nat} (hb : b < n) : (cutH h n).get? b = h.get? b := by
  have e : (cutH h n).objs[b]? = h.objs[b]? := by
    show (h.objs.extract 0 n)[b]? = h.objs[b]?
    rw [Array.getElem?_extract]
    by_cases hl : b < min n h.objs.size - 0
    · rw [if_pos hl, Nat.zero_add]
    · rw [if_neg hl]
      have : h.objs.size ≤ b := by omega
      rw [Array.getElem?_eq_none this]
  unfold Heap.get?
  rw [e]
theorem cut_some {h : Heap} {n : Nat} {b : Addr} {o : Obj} (e : (cutH h n).get? b = some o) : b < n ∧ h.get? b = some o := by
  have h1 := Heap.lt_size e
  have h2 : (h.objs.extract 0 n).size ≤ n := by rw [Array.size_extract]; omega
  have h3 : b < n := Nat.lt_of_lt_of_le h1 h2
  exact ⟨h3, by rw [← cut_get h3]; exact e⟩
def cutS (s : Shared) (n : Nat) : Shared := { s with heap := cutH s.heap n }

/-- what stays through a generator's life -/
structure GFam where
  P : Program
  w : World
  K : PySem.W.Frag
  mg : Str → Option Value
  base : Heap
  A : Around
  N : List Str
  env : Env
  outer : List Env
  pn : List (Addr × Obj)
  os : OsState
/-- a wake: the state, what is tracked, what of the consumer's is pinned -/
structure WkD where
  s : Shared
  H : Hp
  xp : List (Addr × Obj)
/-- .. the context from a wake on -/
def GFam.cx (F : GFam) (z : WkD) : Cx where
  prog := F.P
  w := F.w
  K := F.K
  mg := F.mg
  base := F.base
  A := F.A
  N := F.N
  s_0 := cutS z.s F.env.locals
  H_0 := z.H
  env := F.env
  outer := F.outer
  stack := F.env :: F.outer
  ex := []
  fn := fun _ => true
  calm := true
  pn := F.pn ++ z.xp
  xe := fun _ _ => False
/-- the frame has no cells -/
structure GFam.Ok (F : GFam) : Prop where
  kind : F.env.scope.kind = .function
  glob : F.env.globals = mainGlobals
  blt : F.env.builtins = builtinsNs
  cells : F.env.cells = []
  nocell : ∀ x, F.env.kindOf x ≠ some .cell ∧ F.env.kindOf x ≠ some .free
  hd : F.A.handled = none
  frames : F.A.frames = some (F.env :: F.outer)
  frame : F.env.frame = some F.env.locals
  bsz : F.base.objs.size ≤ F.env.locals

/-- it may be woken so: pl stands -/
structure Wk (F : GFam) (own : List (Addr × Obj)) (z : WkD) : Prop where
  mod : Mod F.K F.mg F.base
  bs : ∀ b o, F.base.get? b = some o → z.s.heap.get? b = some o ∧ z.H b = none
  funs : z.s.heap.FunFrames F.base F.outer
  frf : ∀ b ∈ frs F.outer, z.H b = none
  frl : ∀ b ∈ frs F.outer, b < F.env.locals
  hok : HOk F.P F.w z.H z.s.heap
  bare : AllBare z.s.gens
  os : z.s.os = F.os
  pl : ∀ p ∈ own, z.s.heap.get? p.1 = some p.2 ∧ z.H p.1 = none
  xp : ∀ p ∈ z.xp, z.s.heap.get? p.1 = some p.2 ∧ z.H p.1 = none ∧ p.1 ≠ F.env.locals ∧ p.1 ∉ frs F.outer ∧ ∀ v, p.2.data ≠ .cell v
  ap : ∀ p ∈ z.xp, ∀ q ∈ own, p.1 ≠ q.1

theorem funs_cut {h base : Heap} {n : Nat} : ∀ {l : List Env}, (∀ b ∈ frs l, b < n) → h.FunFrames base l → (cutH h n).FunFrames base l
  | [], _, _ => True.intro
  | env :: r, hl, hf => by
    obtain ⟨hk, ⟨L, o, h1, h2, h3, h4⟩, h5⟩ := hf
    have hL : L < n := hl L (by unfold frs; rw [List.filterMap_cons, h1]; exact List.mem_cons_self)
    refine ⟨hk, ⟨L, o, h1, h2, by rw [cut_get hL]; exact h3, h4⟩, funs_cut (fun b hb => hl b ?_) h5⟩
    unfold frs
    rw [List.filterMap_cons, h1]
    exact List.mem_cons_of_mem _ hb

/-- THE WAKE: the generator's invariant anew -/
theorem GFam.Ok.wake {F : GFam} (ok : F.Ok) {pl ip : List (Addr × Obj)} {z : WkD} {σ : L2.St} {oL : Obj} (wk : Wk F pl z) (hL : (F.env.locals, oL) ∈ pl) (hp : ∀ p ∈ F.pn ++ ip, p ∈ pl ∧ p.1 ≠ F.env.locals ∧ p.1 ∉ frs F.outer ∧ ∀ v, p.2.data ≠ .cell v)
    (hloc : ∀ h : Heap, h.get? F.env.locals = some oL → ∃ m, h.Ns F.env.locals m ∧ ∀ (i : Nat) (x : Str) (v : V), F.N[i]? = some x → σ[i]? = some (some v) → Vis F.env.scope x → ∃ u, RelV v u ∧ F.env.kindOf x = some .local ∧ m x = some u) (hlen : σ.length = F.N.length) :
    Inv (F.cx z) ip σ z.H z.s := by
  obtain ⟨eL, nL⟩ := wk.pl _ hL
  have hlt : F.env.locals < z.s.heap.objs.size := Heap.lt_size eL
  have sz0 : (cutS z.s F.env.locals).heap.objs.size = F.env.locals := cut_size (Nat.le_of_lt hlt)
  have nc : ∀ x c, F.env.cells.lookup x = some c → False := fun x c e => by rw [ok.cells] at e; cases e
  have hb : ∀ b o, F.base.get? b = some o → b < F.env.locals := fun b o e => Nat.lt_of_lt_of_le (Heap.lt_size e) ok.bsz
  have nex : ∀ b : Addr, b ∉ (F.cx z).ex := fun b q => by cases (show b ∈ ([] : List Addr) from q)
  obtain ⟨m, hn, hl⟩ := hloc z.s.heap eL
  have okc : (F.cx z).Ok := by
    refine ⟨wk.mod, ok.kind, ok.glob, ok.blt, Nat.le_of_eq sz0, fun x y c e => (nc x c e).elim, fun x hx => ?_, fun x c _ e => (nc x c e).elim, fun _ => ok.hd, ok.frames, .inr ⟨rfl, ok.frame⟩, fun b q => absurd q (nex b), fun b o e => ⟨?_, (wk.bs b o e).2⟩,
      by rw [show (F.cx z).s_0.heap.objs.size = F.env.locals from sz0]; exact ok.bsz, fun b _ _ => nex b, fun b q => absurd q (nex b), funs_cut wk.frl wk.funs, wk.frf⟩
    · rcases hx with q | q
      · exact absurd q (ok.nocell x).1
      · exact absurd q (ok.nocell x).2
    · show (cutH z.s.heap F.env.locals).get? b = some o
      rw [cut_get (hb b o e)]
      exact (wk.bs b o e).1
  refine ⟨okc, rfl, wk.bare, ⟨fun b o e _ _ _ => (cut_some e).2, fun b o e _ _ _ => ⟨o.slots, (cut_some e).2⟩, fun b o e n _ => n, fun b o e _ => ⟨o, (cut_some e).2⟩, fun _ _ e => e, fun _ _ _ e => e, fun b ps e => ⟨#[], by rw [show z.H b = some (.tbl ps) from e]; simp⟩⟩,
    ⟨m, hn, fun i x v e1 e2 e3 => ?_⟩, fun x c e => (nc x c e).elim, nL, fun x c e => (nc x c e).elim, fun p hp' => ?_, wk.hok, hlen⟩
  · obtain ⟨u, r, k, e⟩ := hl i x v e1 e2 e3
    exact ⟨u, r, .inl ⟨k, e⟩⟩
  · have hp2 : p ∈ (F.pn ++ z.xp) ++ ip := hp'
    have go : p ∈ F.pn ++ ip → _ := fun q => by
      obtain ⟨h1, h2, h3, h4⟩ := hp p q
      obtain ⟨e1, e2⟩ := wk.pl p h1
      exact (⟨e1, e2, h2, h3, h4⟩ : z.s.heap.get? p.1 = some p.2 ∧ z.H p.1 = none ∧ p.1 ≠ F.env.locals ∧ p.1 ∉ frs F.outer ∧ ∀ v, p.2.data ≠ .cell v)
    rcases List.mem_append.mp hp2 with q | q
    · rcases List.mem_append.mp q with q | q
      · exact go (List.mem_append_left _ q)
      · exact wk.xp p q
    · exact go (List.mem_append_right _ q)

/-! ### what a generator promises -/
structure GSpec where
  /-- woken for the i-th time with the heap Hw it hands out x, the heap then H -/
  out : Nat → Hp → V → Hp → Prop
  /-- .. it ends -/
  dn : Nat → Hp → Hp → Prop
  /-- what the consumer may do between a yield and the next wake -/
  kp : Hp → Hp → Prop
  outS : ∀ i Hw x H, out i Hw x H → Same Hw H
  dnS : ∀ i Hw H, dn i Hw H → Same Hw H
/-- what a segment's end says; n: yields that it may still do -/
def GE (F : GFam) (Aw : Around) (sp : GSpec) : Nat → Nat → WkD → End → Shared → Prop
  | 0 => fun i z e s1 => match e with
    | .ret r => r = .ok (.ret .none) ∧ ∃ σ ip H', Inv (F.cx z) ip σ H' s1 ∧ sp.dn i z.H H'
    | .susp .. => False
  | n + 1 => fun i z e s1 => match e with
    | .ret r => r = .ok (.ret .none) ∧ ∃ σ ip H', Inv (F.cx z) ip σ H' s1 ∧ sp.dn i z.H H'
    | .susp v g l k c p fs => (End.susp v g l k c p fs).quiet = true ∧ ∃ x σ ip H' oL, RelV x v ∧ Inv (F.cx z) ip σ H' s1 ∧ s1.heap.get? F.env.locals = some oL ∧ (∀ v, oL.data ≠ .cell v) ∧ sp.out i z.H x H' ∧ (∀ p ∈ z.xp, ∀ q ∈ F.pn ++ ip, p.1 ≠ q.1) ∧
        ∀ y, Wk F ((F.env.locals, oL) :: (F.pn ++ ip)) y → sp.kp H' y.H → Sg (model F.P F.w) Aw (GE F Aw sp n (i + 1) y) c (k (.send .none)) fs y.s
theorem ge_ret {F : GFam} {Aw : Around} {sp : GSpec} {n i : Nat} {z : WkD} {s1 : Shared} {H' : Hp} {σ : L2.St} {ip : List (Addr × Obj)} (I : Inv (F.cx z) ip σ H' s1) (d : sp.dn i z.H H') : GE F Aw sp n i z (.ret (.ok (.ret .none))) s1 := by
  cases n <;> exact ⟨rfl, σ, ip, H', I, d⟩

/-! ### the body's statements -/
/-- what is wanted behind a statement: by the number of yields so far, the heap at the last wake -/
structure GEnds where
  nx : Nat → Hp → L2.St → Hp → Prop
  rt : Nat → Hp → VK
  bk : Nat → Hp → L2.St → Hp → Prop := fun _ _ _ _ => False
  ct : Nat → Hp → L2.St → Hp → Prop := fun _ _ _ _ => False
abbrev TGn := GEnds → Nat → Hp → L2.St → Hp → Prop
def GEnds.at (D : GEnds) (i : Nat) (Hw : Hp) : Ends := { nx := D.nx i Hw, rt := D.rt i Hw, bk := D.bk i Hw, ct := D.ct i Hw }
def SPg (F : GFam) (ip : List (Addr × Obj)) (D : GEnds) (i : Nat) (z : WkD) (f : Flow) (s : Shared) : Prop := SP (F.cx z) ip (D.at i z.H) f s
/-- where its code stands -/
structure GC (F : GFam) (Aw : Around) (c : Code) (fs : List Frame) (gd : Bool → Bool) : Prop where
  over : Aw.over c fs = F.A
  split : splitAtGen fs = none
  guard : fs.any Frame.guarded = false
  gd : gd false = false
/-- the frame stands already; what the consumer has pinned is none of the generator's own -/
structure ZOk (F : GFam) (ip : List (Addr × Obj)) (z : WkD) : Prop where
  size : F.env.locals ≤ z.s.heap.objs.size
  ap : ∀ p ∈ z.xp, ∀ q ∈ F.pn ++ ip, p.1 ≠ q.1
/-- what follows -/
def GK (F : GFam) (Aw : Around) (sp : GSpec) (B : Nat) (ip : List (Addr × Obj)) (c : Code) (fs : List Frame) (K : Flow → Sem PySem.Fin) (D : GEnds) : Prop :=
  ∀ (n i : Nat) (z : WkD) (s : Shared) (f : Flow), n + i = B → ZOk F ip z → SPg F ip D i z f s → Sg (model F.P F.w) Aw (GE F Aw sp n i z) c (K f) fs s
structure GS (F : GFam) (sp : GSpec) (B : Nat) (st : Stmt) (t : TGn) : Prop where
  run : ∀ (Aw : Around) (ip : List (Addr × Obj)) (n i : Nat) (z : WkD) (c : Code) (fs : List Frame) (K : Flow → Sem PySem.Fin) (J : Value → Sem PySem.Fin) (gd : Bool → Bool) (lv : List Value → List Value) (s : Shared) (σ : L2.St) (H : Hp) (D : GEnds),
    GC F Aw c fs gd → n + i = B → ZOk F ip z → GK F Aw sp B ip c fs K D → Inv (F.cx z) ip σ H s → t D i z.H σ H → Sg (model F.P F.w) Aw (GE F Aw sp n i z) c ((exec st F.env).wrap K J gd lv) fs s
structure GSs (F : GFam) (sp : GSpec) (B : Nat) (st : List Stmt) (t : TGn) : Prop where
  run : ∀ (Aw : Around) (ip : List (Addr × Obj)) (n i : Nat) (z : WkD) (c : Code) (fs : List Frame) (K : Flow → Sem PySem.Fin) (J : Value → Sem PySem.Fin) (gd : Bool → Bool) (lv : List Value → List Value) (s : Shared) (σ : L2.St) (H : Hp) (D : GEnds),
    GC F Aw c fs gd → n + i = B → ZOk F ip z → GK F Aw sp B ip c fs K D → Inv (F.cx z) ip σ H s → t D i z.H σ H → Sg (model F.P F.w) Aw (GE F Aw sp n i z) c ((execs st F.env).wrap K J gd lv) fs s

section
variable {F : GFam} {sp : GSpec} {B : Nat} {st : Stmt} {rest : List Stmt}
def gPlain (t : TS) : TGn := fun D i Hw σ H => t (D.at i Hw) σ H
theorem gs_ps {t : TS} (h : ∀ z, PS (F.cx z) st t) : GS F sp B st (gPlain t) := by
  refine ⟨fun Aw ip n i z c fs K J gd lv s σ H D g hn hz k I ht => sg_wrap ?_⟩
  rw [g.over]
  exact wpAny_mono ((h z).run ip s σ H (D.at i z.H) I ht) (fun f s' q => k n i z s' f hn hz q) fun _ _ z => z.elim
theorem gss_pss {t : TS} (h : ∀ z, PSs (F.cx z) rest t) : GSs F sp B rest (gPlain t) := by
  refine ⟨fun Aw ip n i z c fs K J gd lv s σ H D g hn hz k I ht => sg_wrap ?_⟩
  rw [g.over]
  exact wpAny_mono ((h z).run ip s σ H (D.at i z.H) I ht) (fun f s' q => k n i z s' f hn hz q) fun _ _ z => z.elim
def gNx : TGn := fun D i Hw σ H => D.nx i Hw σ H
theorem gss_nil : GSs F sp B [] gNx :=
  ⟨fun Aw ip n i z c fs K J gd lv s σ H D g hn hz k I ht => k n i z s .next hn hz ⟨σ, H, I, ht⟩⟩
def gThen (t u : TGn) : TGn := fun D i Hw σ H => t { D with nx := fun i' Hw' σ' H' => u D i' Hw' σ' H' } i Hw σ H
theorem gss_cons {t u : TGn} (a : GS F sp B st t) (b : GSs F sp B rest u) : GSs F sp B (st :: rest) (gThen t u) := by
  refine ⟨fun Aw ip n i z c fs K J gd lv s σ H D g hn hz k I ht => sg_execs_cons ?_⟩
  refine a.run Aw ip n i z c fs _ J gd lv s σ H { D with nx := fun i' Hw' σ' H' => u D i' Hw' σ' H' } g hn hz (fun n' i' z' s' f hn' hz' q => ?_) I ht
  cases f with
  | next =>
    obtain ⟨σ', H', I', q⟩ := q
    exact b.run Aw ip n' i' z' c fs K J gd lv s' σ' H' D g hn' hz' k I' q
  | brk => exact k n' i' z' s' .brk hn' hz' q
  | cont => exact k n' i' z' s' .cont hn' hz' q
  | ret u => exact k n' i' z' s' (.ret u) hn' hz' q

/-! ### if -/
def gIf (tc : TT) (t u : TGn) : TGn := fun D i Hw σ H => tc σ H fun b H1 => if b = true then t D i Hw σ H1 else u D i Hw σ H1
theorem gs_if {test : Expr} {a b : List Stmt} {pos : Pos} {tc : TT} {t u : TGn} (hc : ∀ z, PT (F.cx z) test tc) (ha : GSs F sp B a t) (hb : GSs F sp B b u) : GS F sp B (.If test a b pos) (gIf tc t u) := by
  refine ⟨fun Aw ip n i z c fs K J gd lv s σ H D g hn hz k I ht => ?_⟩
  rw [exec_If]
  refine sg_bindw (wpAny_standAt (sg_bindw ?_))
  rw [g.over]
  refine wpAny_mono ((hc z).run ip s σ H _ I ht) (fun d s' ⟨H1, I1, q1⟩ => ?_) fun _ _ z => z.elim
  cases d with
  | true => exact ha.run Aw ip n i z c fs K J gd lv s' σ H1 D g hn hz k I1 q1
  | false => exact hb.run Aw ip n i z c fs K J gd lv s' σ H1 D g hn hz k I1 q1

/-! ### yield -/
def gYield (sp : GSpec) (B : Nat) (te : TE) : TGn := fun D i Hw σ H => te σ H fun x H1 => i < B ∧ sp.out i Hw x H1 ∧ ∀ H2, sp.kp H1 H2 → D.nx (i + 1) H2 σ H2
theorem gs_yield {e : Expr} {yp pos : Pos} {te : TE} (ok : F.Ok) (he : ∀ z, PE (F.cx z) e te) (hco : F.env.scope.isCoroutine = false := by rfl) : GS F sp B (.Expr (.Yield (some e) yp) pos) (gYield sp B te) := by
  refine ⟨fun Aw ip n i z c fs K J gd lv s σ H D g hn hz k I ht => ?_⟩
  have hi : interactive F.env = false := I.quiet
  rw [exec_Expr F.env _ pos hi rfl]
  show Sg _ _ _ c (.at pos fun _ => ((eval e F.env >>= fun v => (standAt yp >>= fun _ => yieldOut F.env v)) >>= fun x => dropValue (.Yield (some e) yp) pos x).wrap K J gd lv) fs s
  refine sg_pos (sg_bindw2 ?_)
  rw [g.over]
  have hy : ∀ v, yieldOut F.env v = yieldValue v := fun v => by simp only [yieldOut, hco, Bool.false_eq_true, if_false]
  refine wpAny_mono ((he z).run ip s σ H _ I ht) (fun v s' hv => ?_) fun _ _ z => z.elim
  obtain ⟨x, H1, I1, rv, hB, ho, hk⟩ := hv
  rw [hy]
  refine sg_pos (sg_yield (l := lv []) g.split g.gd fun p => ?_)
  obtain ⟨n, rfl⟩ : ∃ m, n = m + 1 := ⟨n - 1, by omega⟩
  obtain ⟨m, hm, hl⟩ := id I1.loc
  obtain ⟨oL, es, ep, eL, hrest⟩ := id hm
  refine ⟨by show (!(false || fs.any Frame.guarded)) = true; rw [g.guard]; rfl, x, σ, ip, H1, oL, rv, I1, eL, (fun v q => by rw [hrest.1] at q; cases q), ho, hz.ap, fun y wk kp => ?_⟩
  have I2 : Inv (F.cx y) ip σ y.H y.s := by
    refine ok.wake wk List.mem_cons_self (fun q hq => ?_) (fun h e => ?_) I1.len
    · have hq2 : q ∈ (F.cx z).pn ++ ip := by
        rcases List.mem_append.mp hq with q1 | q1
        · exact List.mem_append_left _ (List.mem_append_left _ q1)
        · exact List.mem_append_right _ q1
      obtain ⟨h1, h2, h3, h4, h5⟩ := I1.pin q hq2
      exact ⟨List.mem_cons_of_mem _ hq, h3, h4, h5⟩
    · refine ⟨m, ⟨oL, es, ep, e, hrest⟩, fun j x' v' e1 e2 e3 => ?_⟩
      obtain ⟨u, r, l⟩ := hl j x' v' e1 e2 e3
      rcases l with ⟨k1, k2⟩ | ⟨k1, _⟩
      · exact ⟨u, r, k1, k2⟩
      · rcases k1 with k1 | k1
        · exact absurd k1 (ok.nocell x').1
        · exact absurd k1 (ok.nocell x').2
  exact k n (i + 1) y y.s .next (by omega) ⟨Nat.le_of_lt (Heap.lt_size (wk.pl _ List.mem_cons_self).1), fun p hp q hq => wk.ap p hp q (List.mem_cons_of_mem _ hq)⟩ ⟨σ, y.H, I2, hk y.H kp⟩

/-! ### loops -/
theorem sg_runOwn {M : Model} {A : Around} {Ph : End → Shared → Prop} {c c' : Code} {fs : List Frame} {s : Shared} {env : Env} {K : Flow → Sem PySem.Fin} {J : Value → Sem PySem.Fin} {gd : Bool → Bool} {lv : List Value → List Value}
    (h : ∀ p kf, (∀ f, kf (.ok f) = K f) → Sg M A Ph c' (M.den c') (.ret kf none (gd false) (lv []) c p [] :: fs) s) : Sg M A Ph c ((runOwn c' env).wrap K J gd lv) fs s := by
  unfold runOwn run
  exact sg_call fun p => h p _ fun f => rfl
/-- what a loop's turn does with the flow of its body -/
structure LoopK (c : Code) (K : Flow → Sem PySem.Fin) : Prop where
  nx : K .next = .pure (.again c)
  ct : K .cont = .pure (.again c)
  bk : K .brk = .pure (.done .next)
  rt : ∀ v, K (.ret v) = .pure (.done (.ret v))
theorem sg_while {P : Program} {w : World} {A : Around} {Ph : End → Shared → Prop} {fs : List Frame} {s : Shared} {env : Env} {test : Expr} {body : List Stmt}
    (h : wpAny (model P w) (A.over (.whileLoop test body [] env) fs) (isTrue test env (eval test env)) (fun b s' => if b = true then
        ∀ (K : Flow → Sem PySem.Fin) (J : Value → Sem PySem.Fin), LoopK (.whileLoop test body [] env) K → Sg (model P w) A Ph (.whileLoop test body [] env) ((execs body env).wrap K J id id) fs s'
      else Sg (model P w) A Ph (.whileLoop test body [] env) (.pure (.done .next)) fs s') (fun _ _ => False) s) :
    Sg (model P w) A Ph (.whileLoop test body [] env) ((model P w).den (.whileLoop test body [] env)) fs s := by
  show Sg _ A Ph _ ((whileTurn test body [] env).onRaise (fun x => do noteFrame x env; theTreesLotGoes x)) fs s
  unfold whileTurn
  rw [Sem.onRaise_eq_wrap]
  refine sg_bindw (wpAny_mono h (fun b s' hb => ?_) fun _ _ z => z.elim)
  cases b with
  | true =>
    rw [if_pos rfl] at hb ⊢
    rw [Sem.bind_eq_wrap', Sem.wrap_wrap]
    exact hb _ _ ⟨rfl, rfl, rfl, fun v => rfl⟩
  | false =>
    rw [if_neg Bool.false_ne_true] at hb ⊢
    exact hb
theorem gc_loop {F : GFam} {Aw : Around} {c c' : Code} {fs : List Frame} {gd : Bool → Bool} {k : Result → Sem PySem.Fin} {l kp : List Value} {p : Pos} (g : GC F Aw c fs gd) (hw : c'.weight = 0) (hu : c'.cUnits = 0) : GC F Aw c' (.ret k none (gd false) l c p kp :: fs) id where
  over := (over_loop hw hu).trans g.over
  split := by
    show (splitAtGen fs).map _ = none
    rw [g.split]
    rfl
  guard := by
    show (gd false || fs.any Frame.guarded) = false
    rw [g.gd, g.guard]
    rfl
  gd := rfl

section
variable {F : GFam} {sp : GSpec} {B : Nat}
def gWhile (tc : TT) (tb : TGn) : TGn := fun D i Hw σ H => ∃ W : Nat → Nat → Hp → L2.St → Hp → Prop, (∃ m, W m i Hw σ H) ∧ ∀ m i Hw σ H, W m i Hw σ H →
  tc σ H fun b H1 => if b = true then ∃ N : Nat → Hp → L2.St → Hp → Prop, (∀ i' Hw' σ' H', N i' Hw' σ' H' → ∃ m', m' < m ∧ W m' i' Hw' σ' H') ∧ tb { D with nx := N, ct := N, bk := D.nx } i Hw σ H1 else D.nx i Hw σ H1
theorem gs_while {test : Expr} {body : List Stmt} {pos : Pos} {tc : TT} {tb : TGn} (hc : ∀ z, PT (F.cx z) test tc) (hb : GSs F sp B body tb) : GS F sp B (.While test body [] pos) (gWhile tc tb) := by
  refine ⟨fun Aw ip n i z c fs K J gd lv s σ H D g hn hz k I ht => ?_⟩
  obtain ⟨W, ⟨m0, w0⟩, turn⟩ := ht
  rw [exec_While]
  refine sg_bindw (wpAny_standAt (sg_runOwn fun p kf hkf => ?_))
  have gl := gc_loop (k := kf) (c' := .whileLoop test body [] F.env) (l := lv []) (kp := []) (p := p) g rfl rfl
  have loop : ∀ (m n i : Nat) (z : WkD) (s : Shared) (σ : L2.St) (H : Hp), n + i = B → ZOk F ip z → W m i z.H σ H → Inv (F.cx z) ip σ H s →
      Sg (model F.P F.w) Aw (GE F Aw sp n i z) (.whileLoop test body [] F.env) ((model F.P F.w).den (.whileLoop test body [] F.env)) (.ret kf none (gd false) (lv []) c p [] :: fs) s := by
    intro m
    induction m using Nat.strongRecOn with
    | ind m ih =>
      intro n i z s σ H hn hz w I
      refine sg_while ?_
      rw [gl.over]
      refine wpAny_mono ((hc z).run ip s σ H _ I (turn m i z.H σ H w)) (fun b s' hb' => ?_) fun _ _ q => q.elim
      obtain ⟨H2, I2, q2⟩ := hb'
      cases b with
      | true =>
        rw [if_pos rfl] at q2 ⊢
        obtain ⟨N, hN, q2⟩ := q2
        intro K' J' lk
        refine hb.run Aw ip n i z _ _ K' J' id id s' σ H2 { D with nx := N, ct := N, bk := D.nx } gl hn hz (fun n' i' z' s3 f hn' hz' hs => ?_) I2 q2
        cases f with
        | next =>
          obtain ⟨σ3, H3, I3, n3⟩ := hs
          obtain ⟨m', hm, w3⟩ := hN i' z'.H σ3 H3 n3
          rw [lk.nx]
          exact sg_again rfl (ih m' hm n' i' z' s3 σ3 H3 hn' hz' w3 I3)
        | cont =>
          obtain ⟨σ3, H3, I3, n3⟩ := hs
          obtain ⟨m', hm, w3⟩ := hN i' z'.H σ3 H3 n3
          rw [lk.ct]
          exact sg_again rfl (ih m' hm n' i' z' s3 σ3 H3 hn' hz' w3 I3)
        | brk =>
          rw [lk.bk]
          refine sg_leaf (.ok .next) ?_
          rw [hkf]
          exact k n' i' z' s3 .next hn' hz' hs
        | ret v =>
          rw [lk.rt]
          refine sg_leaf (.ok (.ret v)) ?_
          rw [hkf]
          exact k n' i' z' s3 (.ret v) hn' hz' hs
      | false =>
        rw [if_neg Bool.false_ne_true] at q2 ⊢
        refine sg_leaf (.ok .next) ?_
        rw [hkf]
        exact k n i z s' .next hn hz ⟨σ, H2, I2, q2⟩
  exact loop m0 n i z s σ H hn hz w0 I

theorem sg_for {P : Program} {w : World} {A : Around} {Ph : End → Shared → Prop} {fs : List Frame} {s : Shared} {env : Env} {tg : Expr} {it : Value} {body : List Stmt}
    (h : wpAny (model P w) (A.over (.forLoop tg it body [] env) fs) (pyNext it) (fun r s1 => match r with
      | none => Sg (model P w) A Ph (.block [] env) (.pure (.done .next)) fs s1
      | some v => wpAny (model P w) (A.over (.forLoop tg it body [] env) fs) (letOwnedTupleGo tg it v) (fun _ s2 => wpAny (model P w) (A.over (.forLoop tg it body [] env) fs) (assign tg env v) (fun _ s3 =>
          ∀ (K : Flow → Sem PySem.Fin) (J : Value → Sem PySem.Fin), LoopK (.forLoop tg it body [] env) K → Sg (model P w) A Ph (.forLoop tg it body [] env) ((execs body env).wrap K J id id) fs s3) (fun _ _ => False) s2) (fun _ _ => False) s1) (fun _ _ => False) s) :
    Sg (model P w) A Ph (.forLoop tg it body [] env) ((model P w).den (.forLoop tg it body [] env)) fs s := by
  show Sg _ A Ph _ ((forTurn tg it body [] env).onRaise (fun x => do noteFrame x env; theTreesLotGoes x)) fs s
  unfold forTurn
  rw [Sem.onRaise_eq_wrap]
  refine sg_bindw (wpAny_standAt (sg_bindw (wpAny_onRaise (wpAny_mono h (fun r s1 hr => ?_) fun _ _ z => z.elim))))
  cases r with
  | none => exact sg_again rfl hr
  | some v =>
    refine sg_bindw (wpAny_mono hr (fun _ s2 h2 => ?_) fun _ _ z => z.elim)
    refine sg_bindw (wpAny_mono h2 (fun _ s3 h3 => ?_) fun _ _ z => z.elim)
    rw [Sem.bind_eq_wrap', Sem.wrap_wrap]
    exact h3 _ _ ⟨rfl, rfl, rfl, fun v => rfl⟩
def gFor (wi : TI) (g : TG) (tb : TGn) : TGn := fun D i Hw σ H => wi σ H fun J H1 => ∃ W : Nat → Nat → Nat → Hp → L2.St → Hp → Prop, (∃ m, W 0 m i Hw σ H1) ∧ ∀ j m i Hw σ H, W j m i Hw σ H →
  (J.stop j H ∧ D.nx i Hw σ H) ∨ (J.go j H ∧ ∃ N : Nat → Hp → L2.St → Hp → Prop, (∀ i' Hw' σ' H', N i' Hw' σ' H' → ∃ m', m' < m ∧ W (j + 1) m' i' Hw' σ' H') ∧ ∀ x H', J.yld j H x H' → g x σ H' fun σ2 H2 => tb { D with nx := N, ct := N, bk := D.nx } i Hw σ2 H2)
theorem gs_for {tg iter : Expr} {body : List Stmt} {pos : Pos} {wi : TI} {g : TG} {tb : TGn} (hi : ∀ z, PI (F.cx z) tg iter wi) (hg : ∀ z, PG (F.cx z) tg g) (hb : GSs F sp B body tb)
    (hs : ∀ x, foldedSetIterable iter F.env x = pure x := by intro _; rfl) : GS F sp B (.For tg iter body [] pos) (gFor wi g tb) := by
  refine ⟨fun Aw ip n i z c fs K J gd lv s σ H D gc hn hz k I ht => ?_⟩
  rw [exec_For]
  refine sg_bindw (wpAny_standAt (sg_bindw ?_))
  rw [gc.over]
  refine wpAny_mono ((hi z).run ip s σ H _ I ht) (fun v s1 h1 => sg_bindw (wpAny_of_eq (hs v) (sg_bindw (wpAny_standAt (sg_bindw (wpAny_holding ?_)))))) fun _ _ q => q.elim
  rw [gc.over]
  refine wpAny_mono h1 (fun itv s2 h2 => sg_runOwn fun p kf hkf => ?_) fun _ _ q => q.elim
  obtain ⟨it, fp, tn, Jt, H2, e, I2, T, st2, f2, W, ⟨m0, w0⟩, turn⟩ := h2
  subst e
  have gl := gc_loop (k := kf) (c' := .forLoop tg (.ref it) body [] F.env) (l := lv []) (kp := []) (p := p) gc rfl rfl
  have old : ∀ b ∈ fp, F.env.locals ≤ b := fun b hb => by
    rcases (f2 b hb).2.2.2.1 with q | q
    · cases (show b ∈ ([] : List Addr) from q)
    · have e : (F.cx z).s_0.heap.objs.size = F.env.locals := cut_size hz.size
      rw [e] at q
      exact q
  have stat : ∀ {z' : WkD} {σ' : L2.St} {H' : Hp} {s' : Shared}, Inv (F.cx z') ip σ' H' s' → (∀ p ∈ z'.xp, ∀ b ∈ fp, p.1 ≠ b) → (∀ b ∈ fp, H' b = none) → ∀ b ∈ fp, FpOk (F.cx z') ip H' b := fun {z' σ' H' s'} I' hx hn b hb => by
    obtain ⟨_, q1, q2, _, q4, q5⟩ := f2 b hb
    refine ⟨hn b hb, q1, q2, .inr (Nat.le_trans I'.ok.above (old b hb)), q4, fun q hq => ?_⟩
    rcases List.mem_append.mp (show q ∈ (F.pn ++ z'.xp) ++ ip from hq) with hq | hq
    · rcases List.mem_append.mp hq with hq | hq
      · exact q5 q (List.mem_append_left _ (List.mem_append_left _ hq))
      · exact hx q hq b hb
    · exact q5 q (List.mem_append_right _ hq)
  have loop : ∀ (m j n i : Nat) (z : WkD) (s : Shared) (σ : L2.St) (H : Hp), n + i = B → ZOk F ip z → (∀ p ∈ z.xp, ∀ b ∈ fp, p.1 ≠ b) → W j m i z.H σ H → tn j s.heap → (∀ b ∈ fp, H b = none) → Inv (F.cx z) ip σ H s →
      Sg (model F.P F.w) Aw (GE F Aw sp n i z) (.forLoop tg (.ref it) body [] F.env) ((model F.P F.w).den (.forLoop tg (.ref it) body [] F.env)) (.ret kf none (gd false) (lv []) c p [] :: fs) s := by
    intro m
    induction m using Nat.strongRecOn with
    | ind m ih =>
      intro j n i z s σ H hn hz hx w st hfr I
      refine sg_for ?_
      rw [gl.over]
      rcases turn j m i z.H σ H w with ⟨stop, qn⟩ | ⟨go, N, hN, step⟩
      · refine wpAny_mono (T.done (F.cx z) rfl rfl rfl rfl j ip s σ H (fun _ _ => False) I (stat I hx hfr) st stop) (fun r s4 ⟨hr, I4⟩ => ?_) fun _ _ q => q
        subst hr
        refine sg_leaf (.ok .next) ?_
        rw [hkf]
        exact k n i z s4 .next hn hz ⟨σ, H, I4, qn⟩
      · refine wpAny_mono (T.item (F.cx z) rfl rfl rfl rfl j ip s σ H (fun _ _ => False) I (stat I hx hfr) st go) (fun r s4 ⟨u, hr, h4⟩ => ?_) fun _ _ q => q
        subst hr
        refine wpAny_mono h4 (fun _ s5 ⟨x, H5, I5, r5, y5, st5, fr5⟩ => ?_) fun _ _ q => q
        have I5' := I5.pinned (stat I5 hx fr5) (T.obj _ _ st5)
        refine wpAny_mono ((hg z).run _ s5 σ H5 x u _ I5' r5 (step x H5 y5)) (fun _ s6 ⟨σ6, H6, I6, q6⟩ => ?_) fun _ _ q => q.elim
        intro K' J' lk
        have hz6 : ZOk F (ip ++ pinsAt fp s5.heap) z := ⟨hz.size, fun p' hp' q hq => by
          rcases List.mem_append.mp hq with hq | hq
          · exact hz.ap p' hp' q (List.mem_append_left _ hq)
          · rcases List.mem_append.mp hq with hq | hq
            · exact hz.ap p' hp' q (List.mem_append_right _ hq)
            · exact hx p' hp' _ (of_pinsAt hq).1⟩
        refine hb.run Aw _ n i z _ _ K' J' id id s6 σ6 H6 { D with nx := N, ct := N, bk := D.nx } gl hn hz6 (fun n' i' z' s7 f hn' hz' hs => ?_) I6 q6
        have hz7 : ZOk F ip z' := ⟨hz'.size, fun p' hp' q hq => hz'.ap p' hp' q (by
          rcases List.mem_append.mp hq with hq | hq
          · exact List.mem_append_left _ hq
          · exact List.mem_append_right _ (List.mem_append_left _ hq))⟩
        have hx7 : ∀ p ∈ z'.xp, ∀ b ∈ fp, p.1 ≠ b := fun p' hp' b hb' => by
          obtain ⟨o, e, _⟩ := T.obj _ _ st5 b hb'
          exact hz'.ap p' hp' (b, o) (List.mem_append_right _ (List.mem_append_right _ (mem_pinsAt hb' e)))
        have again : ∀ {σ7 : L2.St} {H7 : Hp}, Inv (F.cx z') (ip ++ pinsAt fp s5.heap) σ7 H7 s7 → N i' z'.H σ7 H7 →
            Sg (model F.P F.w) Aw (GE F Aw sp n' i' z') (.forLoop tg (.ref it) body [] F.env) (.pure (.again (.forLoop tg (.ref it) body [] F.env))) (.ret kf none (gd false) (lv []) c p [] :: fs) s7 := fun {σ7 H7} I7 n7 => by
          obtain ⟨m', hm, w7⟩ := hN i' z'.H σ7 H7 n7
          have pin7 : ∀ b ∈ fp, ∀ o, s5.heap.get? b = some o → s7.heap.get? b = some o ∧ H7 b = none := fun b hb' o e =>
            let q := I7.pin (b, o) (List.mem_append_right _ (List.mem_append_right _ (mem_pinsAt hb' e)))
            ⟨q.1, q.2.1⟩
          refine sg_again rfl (ih m' hm (j + 1) n' i' z' s7 σ7 H7 hn' hz7 hx7 w7 (T.keep _ _ _ st5 fun b hb' o e => (pin7 b hb' o e).1) (fun b hb' => ?_) I7.unpinned)
          obtain ⟨o, e, _⟩ := T.obj _ _ st5 b hb'
          exact (pin7 b hb' o e).2
        cases f with
        | next =>
          obtain ⟨σ7, H7, I7, n7⟩ := hs
          rw [lk.nx]
          exact again I7 n7
        | cont =>
          obtain ⟨σ7, H7, I7, n7⟩ := hs
          rw [lk.ct]
          exact again I7 n7
        | brk =>
          obtain ⟨σ7, H7, I7, q7⟩ := hs
          rw [lk.bk]
          refine sg_leaf (.ok .next) ?_
          rw [hkf]
          exact k n' i' z' s7 .next hn' hz7 ⟨σ7, H7, I7.unpinned, q7⟩
        | ret v =>
          obtain ⟨x7, σ7, H7, I7, r7, q7⟩ := hs
          rw [lk.rt]
          refine sg_leaf (.ok (.ret v)) ?_
          rw [hkf]
          exact k n' i' z' s7 (.ret v) hn' hz7 ⟨x7, σ7, H7, I7.unpinned, r7, q7⟩
  exact loop m0 0 n i z s2 σ H2 hn hz (fun q hq b hb => (f2 b hb).2.2.2.2.2 q (List.mem_append_left _ (List.mem_append_right _ hq))) w0 st2 (fun b hb => (f2 b hb).1) I2
end
end
end Rt
end
section
/-! A generator def's promise, and its consumers: a for, a list comprehension. -/
namespace Rt
open PySem PySem.Spec PyProof.Rows L2 GenW
open Sem (wp)

theorem sg_func {P : Program} {w : World} {A : Around} {Ph : End → Shared → Prop} {fs : List Frame} {s : Shared} {env : Env} {body : List Stmt}
    (h : ∀ (K : Flow → Sem PySem.Fin) (J : Value → Sem PySem.Fin), (∀ v, K (.ret v) = .pure (.done (.ret v))) → K .next = .pure (.done (.ret .none)) → Sg (model P w) A Ph (.func body env) ((execs body env).wrap K J id id) fs s) :
    Sg (model P w) A Ph (.func body env) ((model P w).den (.func body env)) fs s := by
  show Sg _ A Ph _ (.point [] fun _ => ((execs body env).onRaise (leaving env)) >>= _) fs s
  refine sg_pt ?_
  rw [Sem.onRaise_eq_wrap, Sem.bind_eq_wrap', Sem.wrap_wrap]
  exact h _ _ (fun v => rfl) rfl

def gFam (P : Program) (w : World) (K : PySem.W.Frag) (mg : Str → Option Value) (base : Heap) (Aw : Around) (N : List Str) (env : Env) (outer : List Env) (a : Addr) (go : Obj) (os : OsState) : GFam :=
  ⟨P, w, K, mg, base, Aw.deeper env, N, env, outer, [(a, go)], os⟩
/-- a new generator, that waits at its beginning -/
def GNew (P : Program) (w : World) (K : PySem.W.Frag) (mg : Str → Option Value) (base : Heap) (k : Nat) (outer : List Env) (H : Hp) (s : Shared) (g : GSpec) (B : Nat) (u : Value) (s' : Shared) : Prop :=
  ∃ (a : Addr) (gi : Nat) (go oL : Obj) (vs : Array Value) (c : Code) (N : List Str) (env : Env), u = .ref a ∧ s.heap.objs.size = env.locals ∧ env.locals < a ∧ s'.heap.objs.size = a + 1 ∧ go.cls = .type "generator" ∧ go.data = .fields vs ∧
    (∀ h : Heap, h.get? a = some go → h.IsGen a gi) ∧ (∀ v, oL.data ≠ .cell v) ∧ s'.heap.get? a = some go ∧ s'.heap.get? env.locals = some oL ∧ s'.gens[gi]? = some (.fresh c) ∧ s'.os = s.os ∧ AllBare s'.gens ∧ (∀ b o, s.heap.get? b = some o → s'.heap.get? b = some o) ∧
    ∀ Aw y, Room k Aw → Aw.frames = some outer → Wk (gFam P w K mg base Aw N env outer a go s.os) [(env.locals, oL), (a, go)] y → g.kp H y.H →
      Sg (model P w) Aw (GE (gFam P w K mg base Aw N env outer a go s.os) Aw g B 0 y) c ((model P w).den c) [] y.s

/-- a generator def's promise -/
abbrev SpGen := List V → Hp → GSpec → Prop
structure GDef (P : Program) (w : World) (K : PySem.W.Frag) (mg : Str → Option Value) (base : Heap) (k B : Nat) (f : Addr) (fd : FuncData) (ps : List Str) (sp : SpGen) : Prop where
  len : ∀ vs H g, sp vs H g → vs.length = ps.length
  run : ∀ (A : Around) (outer : List Env) (s : Shared) (H : Hp) (args : Args) (us : List Value) (vs : List V) (g : GSpec), Room k A → Env0 P w K mg base A outer s H → BindsTo s fd args (ps.zip us) → Vals vs us → sp vs H g →
    codeAny (model P w) A (.call (.ref f) args) (fun r s' => match r with | .ok (.ret u) => GNew P w K mg base k outer H s g B u s' | _ => False) s

theorem cells_none : ∀ (names : List (Str × NameKind)) (n : Nat) (acc : List (Str × Addr)), (∀ y ∈ names, y.2 ≠ .cell) → cellsFrom n names acc = acc
  | [], _, _, _ => rfl
  | (x, kd) :: r, n, acc, h => by
    have h0 : ¬ ((kd == NameKind.cell) = true) := fun e => h (x, kd) List.mem_cons_self (by simpa using e)
    unfold cellsFrom
    rw [if_neg h0]
    exact cells_none r n acc fun y hy => h y (List.mem_cons_of_mem _ hy)

/-- THE RULE: a generator def, by its body -/
theorem gdef_of {P : Program} {w : World} {K : PySem.W.Frag} {mg : Str → Option Value} {base : Heap} {k B : Nat} {f : Addr} {name qual : Str} {params : Arguments} {body : List Stmt} {scope : Scope} {dV kV doc pm cdv ct oc : Value} {an od : Option Addr}
    {osl : Array (Option Value)} {N ps : List Str} {sp : SpGen} (lk : K.lookup f = some ⟨oc, od, .func (PySem.W.fnOf name qual params body scope dV kV doc pm an cdv ct), osl⟩) (hcd : PySem.W.codeIn K cdv qual = true) (S : GScope N ps scope)
    (nc : ∀ y ∈ scope.names, y.2 ≠ .cell) (len : ∀ vs H g, sp vs H g → vs.length = ps.length)
    (hbody : ∀ (Aw : Around) (outer : List Env) (L a : Addr) (go : Obj) (os : OsState) (H : Hp) (vs : List V) (g : GSpec), Room k (Aw.deeper (envOfC qual scope L f cdv)) → (gFam P w K mg base Aw N (envOfC qual scope L f cdv) outer a go os).Ok → sp vs H g →
      ∃ t, GSs (gFam P w K mg base Aw N (envOfC qual scope L f cdv) outer a go os) g B body t ∧ ∀ H2, g.kp H H2 → t { nx := fun i Hw _ H' => g.dn i Hw H', rt := fun i Hw v H' => v = .non ∧ g.dn i Hw H' } 0 H2 (L2.start N vs) H2) :
    GDef P w K mg base (k + 1) B f (PySem.W.fnOf name qual params body scope dV kV doc pm an cdv ct) ps sp := by
  refine ⟨len, fun A outer s H args us vs g hr e0 hb r hsp => ?_⟩
  have hl := len _ _ _ hsp
  have KX : K.In s.heap := e0.mod.kin.keeps fun b o e => (e0.bs b o e).1
  have lim : s.heap.NoLimit := e0.mod.nolimit.keeps fun b o e => (e0.bs b o e).1
  have cnone : ∀ n, cellsFrom n scope.names [] = [] := fun n => cells_none scope.names n [] nc
  have loc : ∀ x ∈ ps, scope.names.lookup x = some .local := fun x hx => by
    rcases S.par x hx with q | q
    · exact q
    · exact absurd rfl (nc _ (PySem.mem_of_lookup q))
  have hkind : ∀ y ∈ ps.zip us, scope.names.lookup y.1 = some .local ∨ (scope.names.lookup y.1 = some .cell ∧ ((cellsFrom (s.heap.objs.size + 1) scope.names []).lookup y.1).isSome = true) := fun ⟨n, v⟩ hy => .inl (loc n (List.of_mem_zip hy).1)
  refine codeAny_call_generator hr.depth (KX _ _ lk) rfl S.co S.gen rfl (PySem.W.codeRec_of KX hcd) (hb _ _ _ _ ?_)
  refine wpAny_newFunctionEnv_cells S.kind hkind fun env he s1 x => ?_
  subst he
  refine ⟨lim.keeps x.toInCall.keep, ?_⟩
  obtain ⟨h1, tk, es1, hk1⟩ := x.done
  have os1 : s1.os = s.os := by rw [es1]
  have gen1 : s1.gens = s.gens := by rw [es1]
  obtain ⟨oL, ee, ep, eL, hrest⟩ := id x.toInCall.ns
  have lt1 : s.heap.objs.size < s1.heap.objs.size := Heap.lt_size eL
  have main : ∀ (go : Obj) (nm qn : Value) (tk2 : Nat), go.cls = .type "generator" → go.data = .fields #[.int s1.gens.size 0, nm, qn] → go.slots = #[] → (∀ h : Heap, (h.push go).get? h.objs.size = some go) →
      GNew P w K mg base (k + 1) outer H s g B (.ref s1.heap.objs.size) { s1 with gens := s1.gens.push (.fresh (.func body (envOfC qual scope s.heap.objs.size f cdv))), toks := tk2, heap := s1.heap.push go } := by
    intro go nm qn tk2 hgc hgd hgs hgp
    have kp : ∀ b o, s1.heap.get? b = some o → (s1.heap.push go).get? b = some o := fun b o e => Heap.get?_push_of_some _ e
    refine ⟨s1.heap.objs.size, s1.gens.size, go, oL, _, _, N, envOfC qual scope s.heap.objs.size f cdv, rfl, rfl, lt1, Heap.size_push .., hgc, hgd, fun h e => ⟨go, nm, qn, e, hgc, hgd, hgs⟩, (fun v q => by rw [hrest.1] at q; cases q), hgp _, kp _ _ eL, Array.getElem?_push_size .., os1, AllBare.push (by rw [gen1]; exact e0.bare) rfl, fun b o e => kp b o (x.toInCall.keep b o e), ?_⟩
    intro Aw y hrw hfr wk hkp
    have ok : (gFam P w K mg base Aw N (envOfC qual scope s.heap.objs.size f cdv) outer s1.heap.objs.size go s.os).Ok := by
      refine ⟨S.kind, rfl, rfl, cnone _, fun z => ⟨fun q => ?_, fun q => ?_⟩, hrw.hd, Around.frames_deeper hfr, rfl, e0.bsz⟩
      · exact absurd rfl (nc _ (PySem.mem_of_lookup (show scope.names.lookup z = some .cell from q)))
      · exact absurd rfl (S.nofree _ (PySem.mem_of_lookup (show scope.names.lookup z = some .free from q)))
    obtain ⟨t, ht, hq⟩ := hbody Aw outer s.heap.objs.size s1.heap.objs.size go s.os H vs g (hrw.deeper _) ok hsp
    have ndP : ps.Nodup := by rw [← S.pre]; exact S.nd.sublist (List.take_sublist _ _)
    have hpl : ps.length ≤ N.length := by have := congrArg List.length S.pre; rw [List.length_take] at this; omega
    have Lne : s1.heap.objs.size ≠ s.heap.objs.size := Nat.ne_of_gt lt1
    have I : Inv ((gFam P w K mg base Aw N (envOfC qual scope s.heap.objs.size f cdv) outer s1.heap.objs.size go s.os).cx y) [] (L2.start N vs) y.H y.s := by
      refine ok.wake wk List.mem_cons_self (fun q hq => ?_) (fun h e => ?_) ?_
      · have hq' : q ∈ [(s1.heap.objs.size, go)] := (List.mem_append.mp hq).elim (fun z => z) fun z => by cases z
        rw [List.mem_singleton.mp hq']
        refine ⟨List.mem_cons_of_mem _ List.mem_cons_self, Lne, fun z => ?_, fun v q => by rw [hgd] at q; cases q⟩
        exact absurd (wk.frl _ z) (Nat.not_lt.mpr (Nat.le_of_lt lt1))
      · refine ⟨_, ⟨oL, ee, ep, e, hrest⟩, fun i z v q1 q2 q3 => ?_⟩
        have hi : i < vs.length := by
          unfold L2.start at q2
          by_cases hi : i < vs.length
          · exact hi
          · rw [List.getElem?_append_right (by simpa using hi), List.getElem?_replicate] at q2
            split at q2 <;> cases q2
        have ha : vs[i]? = some v := by
          unfold L2.start at q2
          rw [List.getElem?_append_left (by simpa using hi), List.getElem?_map] at q2
          cases e : vs[i]? with
          | none => rw [e] at q2; cases q2
          | some b => rw [e] at q2; cases q2; rfl
        obtain ⟨u, hu, rv⟩ := r.get ha
        have hp : ps[i]? = some z := by
          rw [← S.pre, List.getElem?_take_of_lt (by omega)]
          exact q1
        have kl := loc z (List.mem_of_getElem? hp)
        exact ⟨u, rv, kl, bindL_get ndP hp hu kl⟩
      · unfold L2.start
        show _ = N.length
        rw [List.length_append, List.length_map, List.length_replicate]
        omega
    have hz : ZOk (gFam P w K mg base Aw N (envOfC qual scope s.heap.objs.size f cdv) outer s1.heap.objs.size go s.os) [] y := by
      refine ⟨Nat.le_of_lt (Heap.lt_size (wk.pl _ List.mem_cons_self).1), fun p hp q hq => wk.ap p hp q ?_⟩
      exact List.mem_cons_of_mem _ ((List.mem_append.mp hq).elim (fun z => z) fun z => by cases z)
    refine sg_func fun K' J' h1 h2 => ?_
    refine ht.run Aw [] B 0 y _ [] K' J' id id y.s (L2.start N vs) y.H _ ⟨over_func, rfl, rfl, rfl⟩ (Nat.add_zero _) hz (fun n i z s' fl hn hz' hs => ?_) I (hq y.H hkp)
    cases fl with
    | next =>
      obtain ⟨σ', H', I', q⟩ := hs
      rw [h2]
      exact sg_end (.ok (.ret .none)) (ge_ret I' q)
    | brk => obtain ⟨_, _, _, q⟩ := hs; exact False.elim q
    | cont => obtain ⟨_, _, _, q⟩ := hs; exact False.elim q
    | ret u =>
      obtain ⟨v, σ', H', I', rv, ev, q⟩ := hs
      subst ev
      obtain rfl : u = Value.none := rv
      rw [h1]
      exact sg_end (.ok (.ret .none)) (ge_ret I' q)
  exact main _ _ _ _ rfl rfl rfl fun h => Heap.get?_push_size _ rfl
end Rt
end
section
/-! The consumer's side: one item of a generator. -/
namespace Rt
open PySem PySem.Spec PyProof.Rows L2 GenW
open Sem (wp)

/-- its next segment -/
def GoSg (M : Model) (A : Around) (Ph : End → Shared → Prop) (gs : GenState) (s : Shared) : Prop :=
  match gs with
  | .fresh c => Sg M A Ph c (M.den c) [] s
  | .suspended k _ c _ fs _ => Sg M A Ph c (k (.send .none)) fs s
  | _ => False
theorem wpAny_wake {α : Type} {M : Model} {A : Around} {Ph : End → Shared → Prop} {E : Value → Shared → Prop} {s : Shared} {g : Nat} {gs : GenState} {l : List Value} {k : GenResult → Sem α} {Q : α → Shared → Prop}
    (hg : s.gens[g]? = some gs) (hgo : GoSg M A Ph gs (s.setGen g .running)) (h : ∀ e s1, Ph e s1 → e.quiet = true ∧ wpAny M A (k e.result) Q E (s1.setGen g e.genState)) : wpAny M A (.resume g (.send .none) l k) Q E s := by
  intro Γ p hΓ
  rw [Sem.wp_resume]
  cases gs with
  | fresh c =>
    obtain ⟨e, s1, hr, he⟩ := hgo (Γ.wake c p) p rfl (hΓ.wake c p)
    obtain ⟨hq, hw⟩ := h e s1 he
    refine ⟨e.result, s1.setGen g e.genState, ?_, hw Γ p hΓ⟩
    unfold Wakes
    rw [hg]
    exact ⟨e, s1, hr, hq, rfl, rfl⟩
  | suspended k₀ l₀ c p₀ fs cl =>
    obtain ⟨e, s1, hr, he⟩ := hgo (Γ.wake c p) p₀ rfl (hΓ.wake c p)
    obtain ⟨hq, hw⟩ := h e s1 he
    refine ⟨e.result, s1.setGen g e.genState, ?_, hw Γ p hΓ⟩
    unfold Wakes
    rw [hg]
    exact ⟨e, s1, hr, hq, rfl, rfl⟩
  | running => exact hgo.elim
  | finished => exact hgo.elim

section
variable {P : Program} {w : World} {A : Around} {E : Value → Shared → Prop} {s : Shared}
theorem next_g {a : Addr} {g : Nat} {gs : GenState} {Ph : End → Shared → Prop} {Q : Option Value → Shared → Prop} (hh : A.handled = none) (hl : s.heap.NoLimit) (hroom : A.depth < recursionLimit) (hg : s.heap.IsGen a g) (hgs : s.gens[g]? = some gs)
    (hgo : GoSg (model P w) A.in1 Ph gs (s.setGen g .running))
    (h : ∀ e s1, Ph e s1 → match e with
      | .ret r => r = .ok (.ret .none) ∧ ∀ h', (∀ b o, s1.heap.get? b = some o → h'.get? b = some o) → Q none { s1.setGen g .finished with heap := h' }
      | .susp v g₀ l k c p fs => (End.susp v g₀ l k c p fs).quiet = true ∧ Q (some v) (s1.setGen g (End.susp v g₀ l k c p fs).genState)) :
    wpAny (model P w) A (pyNext (.ref a)) Q E s := by
  unfold pyNext
  refine wpAny_bind (wpAny_attempt (wpAny_callSpecial?_slot (name := Str.ofString "__next__") hg.typeIs slot_gen_next (wpAny_call_entry slot_gen_next hg.typeIs entry_gen_next ?_ (args_gen_next _))))
  show wpAny _ A.in1 (Builtin.Generator.genWake (.ref a) (.send .none)) _ _ s
  unfold Builtin.Generator.genWake
  refine wpAny_bind (wpAny_holding (wpAny_genNumber hg (wpAny_bind (wpAny_genState hgs ?_))))
  have turn : ∀ (l : List Value) (kk : GenResult → Sem PySem.Fin) (QQ : PySem.Fin → Shared → Prop) (EE : Value → Shared → Prop),
      (∀ (v : Value) (s1 : Shared), Q (some v) s1 → wpAny (model P w) A.in1 (kk (.yielded v)) QQ EE s1) → (∀ (s1 : Shared), (∀ h' : Heap, (∀ b o, s1.heap.get? b = some o → h'.get? b = some o) → Q none { s1.setGen g .finished with heap := h' }) → wpAny (model P w) A.in1 (kk (.returned .none)) QQ EE (s1.setGen g .finished)) →
      wpAny (model P w) A.in1 (.resume g (.send .none) l kk) QQ EE s := fun l kk QQ EE h1 h2 => by
    refine wpAny_wake hgs hgo fun e s1 he => ?_
    have q := h e s1 he
    cases e with
    | ret r =>
      obtain ⟨e1, q⟩ := q
      subst e1
      exact ⟨rfl, h2 s1 q⟩
    | susp v g₀ l₀ k c p fs => exact ⟨q.1, h1 v _ q.2⟩
  cases gs with
  | running => exact hgo.elim
  | finished => exact hgo.elim
  | _ =>
    refine wpAny_bind (wpAny_roomToWake hl hroom ?_)
    refine turn _ _ _ _ (fun v s1 q => wpAny_pure ⟨v, rfl, wpAny_pure q⟩) fun s1 q => ?_
    show wpAny _ A.in1 (newExc (.type "StopIteration") [] >>= _) _ _ _
    refine wpAny_bind ?_
    simp only [newExc, newTuple]
    refine wpAny_bind (wpAny_newObj_type ?_ (by size_fits))
    refine wpAny_bind (m := firstArgMember _ _) (wpAny_of_eq (a := Value.none) (by first | rfl | (simp only [firstArgMember]; rfl)) ?_)
    refine wpAny_newObj_type ?_ (by size_fits)
    simp only [raiseNew]
    refine wpAny_bind (wpAny_bind (wpAny_handled ?_))
    first | rw [show A.in1.handled = none from hh] | rw [hh]
    refine wpAny_throw ?_
    refine wpAny_bind (wpAny_isInstance (T := "StopIteration") (b := true) ⟨_, Heap.get?_push_size _ rfl, rfl⟩ isSubtype_stop ?_)
    exact wpAny_pure (q _ fun b o hb => Heap.get?_push_of_some _ (Heap.get?_push_of_some _ hb))
end

theorem objOk_there {P : Program} {w : World} {H : Hp} {h : Heap} {a : Addr} {o : HO} (x : ObjOk P w H h a o) : ∃ ob, h.get? a = some ob := by
  cases o with
  | lst xs => obtain ⟨_, _, _, _, e⟩ := x; exact ⟨_, e⟩
  | tup xs => obtain ⟨_, _, _, ⟨o, e, _⟩⟩ := x; exact ⟨o, e⟩
  | dK kvs => obtain ⟨_, _, _, _, o, _, _, e, _⟩ := x; exact ⟨o, e⟩
  | dT kvs => obtain ⟨_, _, _, _, o, _, _, e, _⟩ := x; exact ⟨o, e⟩
  | set S n => obtain ⟨o, _, _, _, e, _⟩ := x; exact ⟨o, e⟩
  | ins C dx fs => obtain ⟨_, _, _, e, _⟩ := x; exact ⟨_, e⟩
  | own y => obtain ⟨o, e⟩ := x; exact ⟨o, e⟩
  | xd fs => obtain ⟨_, ⟨o, _, _, e, _⟩, _⟩ := x; exact ⟨o, e⟩
  | rng lo hi => obtain ⟨_, _, _, e⟩ := x; exact ⟨_, e⟩
  | frz ob u => obtain ⟨e, _⟩ := x; exact ⟨_, e⟩
  | tbl ps => exact ⟨_, show h.get? a = some _ from x⟩
  | met f y => exact ⟨_, show h.get? a = some _ from x⟩
  | ext φ => obtain ⟨_, ⟨o, e⟩, _⟩ := x; exact ⟨o, e⟩

/-- a generator that waits to be woken for the i-th time; Hy: the heap at its last yield; own: what is its own -/
structure Slp (X : Cx) (F : GFam) (g : GSpec) (B : Nat) (gi : Nat) (own : List (Addr × Obj)) (i : Nat) (Hy : Hp) (s : Shared) (H : Hp) : Prop where
  gs : ∃ gs n, n + i = B ∧ s.gens[gi]? = some gs ∧ (i ≠ 0 → isAsleep gs) ∧ ∀ y, Wk F own y → g.kp Hy y.H → GoSg (model F.P F.w) X.A.in1 (GE F X.A.in1 g n i y) gs y.s
  own : ∀ p ∈ own, s.heap.get? p.1 = some p.2 ∧ H p.1 = none ∧ p.1 ≠ X.env.locals ∧ p.1 ∉ X.fs ∧ ∀ v, p.2.data ≠ .cell v

section
variable {X : Cx} {pins : List (Addr × Obj)} {σ : L2.St} {H : Hp} {s : Shared}
theorem Inv.gens (I : Inv X pins σ H s) {b : Array GenState} (h : AllBare b) : Inv X pins σ H { s with gens := b } := ⟨I.ok, I.os, h, I.base, I.loc, I.cell, I.free, I.freeC, I.pin, I.hok, I.len⟩
theorem Slp.pinned {F : GFam} {g : GSpec} {B gi i : Nat} {own : List (Addr × Obj)} {Hy : Hp} (I : Inv X pins σ H s) (sl : Slp X F g B gi own i Hy s H) : Inv X (pins ++ own) σ H s :=
  I.pins_of fun p hp => (List.mem_append.mp hp).elim (fun z => I.pin p (List.mem_append_right _ z)) fun z => sl.own p z

/-- what is fixed as long as a generator is held -/
structure GHold (X : Cx) (pins : List (Addr × Obj)) (env : Env) (a : Addr) (go : Obj) (gi : Nat) (os : OsState) : Prop where
  os : os = X.s_0.os
  frl : ∀ b ∈ frs X.stack, b < env.locals
  la : env.locals < a
  isg : ∀ h : Heap, h.get? a = some go → h.IsGen a gi
  pins : ∀ p ∈ X.pn ++ pins, p.1 < env.locals
  cells : ∀ x c, X.env.cells.lookup x = some c → c < env.locals
/-- what of the consumer's own is younger than the generator -/
structure GYoung (X : Cx) (L : Addr) (own xq : List (Addr × Obj)) (H : Hp) (s : Shared) : Prop where
  xp : ∀ p ∈ xq, s.heap.get? p.1 = some p.2 ∧ H p.1 = none ∧ p.1 ≠ L ∧ p.1 ∉ frs X.stack ∧ ∀ v, p.2.data ≠ .cell v
  ap : ∀ p ∈ xq, ∀ q ∈ own, p.1 ≠ q.1
  young : ∀ b, L ≤ b → b < s.heap.objs.size → H b = none → (∀ p ∈ xq, p.1 ≠ b) → (b ∈ X.ex ∨ X.s_0.heap.objs.size ≤ b) ∧ b ≠ X.env.locals
  loc : ∀ b, b ∉ frs X.stack → (∀ p ∈ xq, p.1 ≠ b) → b ≠ X.env.locals

/-- ONE ITEM: it hands out the next, or ends -/
theorem gen_turn {N : List Str} {env : Env} {a : Addr} {go : Obj} {gi B i : Nat} {os : OsState} {g : GSpec} {own xp : List (Addr × Obj)} {Hy : Hp} {E : Value → Shared → Prop} (hc : X.calm = true) (hroom : X.A.depth < recursionLimit) (I : Inv X pins σ H s) (hold : GHold X pins env a go gi os)
    (sl : Slp X (gFam X.prog X.w X.K X.mg X.base X.A.in1 N env X.stack a go os) g B gi own i Hy s H) (ha : (a, go) ∈ own) (hkp : g.kp Hy H) (yg : GYoung X env.locals own xp H s) :
    wpAny (model X.prog X.w) X.A (pyNext (.ref a)) (fun r s1 =>
      (∃ v x H' own', r = some v ∧ RelV x v ∧ g.out i H x H' ∧ Inv X pins σ H' s1 ∧ (a, go) ∈ own' ∧ (∀ p ∈ xp, ∀ q ∈ own', p.1 ≠ q.1) ∧ (∀ p ∈ xp, s1.heap.get? p.1 = some p.2 ∧ H' p.1 = none) ∧
        Slp X (gFam X.prog X.w X.K X.mg X.base X.A.in1 N env X.stack a go os) g B gi own' (i + 1) H' s1 H') ∨
      (r = none ∧ ∃ H', g.dn i H H' ∧ Inv X pins σ H' s1)) E s := by
  obtain ⟨gs, n, hn, hgs, hgi, wake⟩ := sl.gs
  have hgl : gi < s.gens.size := (Array.getElem?_eq_some_iff.mp hgs).1
  have hisg : s.heap.IsGen a gi := hold.isg _ (sl.own _ ha).1
  -- the wake
  have wk : Wk (gFam X.prog X.w X.K X.mg X.base X.A.in1 N env X.stack a go os) own ⟨s.setGen gi .running, H, xp⟩ :=
    ⟨I.mod, I.bs, I.stack, I.stkFree, hold.frl, I.hok, allBare_setGen I.bare rfl, by rw [hold.os]; exact I.os, fun p hp => ⟨(sl.own p hp).1, (sl.own p hp).2.1⟩, yg.xp, yg.ap⟩
  -- behind the generator's segment, in the consumer's eyes
  have back : ∀ {σg : L2.St} {ip : List (Addr × Obj)} {H' : Hp} {s1 : Shared} {x : GenState}, x.bare = true → Same H H' →
      Inv ((gFam X.prog X.w X.K X.mg X.base X.A.in1 N env X.stack a go os).cx ⟨s.setGen gi .running, H, xp⟩) ip σg H' s1 → Inv X pins σ H' (s1.setGen gi x) := by
    intro σg ip H' s1 x hx hsame J
    have hlt : env.locals < s.heap.objs.size := by
      have h1 := Heap.lt_size (sl.own _ ha).1
      exact Nat.lt_trans hold.la h1
    have old : ∀ b o, b < env.locals → s.heap.get? b = some o → (cutH s.heap env.locals).get? b = some o := fun b o hb e => by rw [cut_get hb]; exact e
    have xat : ∀ b o, (∃ p ∈ xp, p.1 = b) → s.heap.get? b = some o → s1.heap.get? b = some o ∧ H' b = none := fun b o ⟨p, hp, e⟩ q => by
      subst e
      have h1 := (yg.xp p hp).1
      rw [h1] at q
      cases q
      obtain ⟨z1, z2, _⟩ := J.pin p (List.mem_append_left _ (List.mem_append_right _ hp))
      exact ⟨z1, z2⟩
    have split : ∀ b o, s.heap.get? b = some o → H b = none → b ∉ (List.range s.heap.objs.size).filter (fun b => decide (env.locals ≤ b) && (H b).isNone && !(xp.map (·.1)).contains b) → b < env.locals ∨ ∃ p ∈ xp, p.1 = b := fun b o e hnone hb => by
      by_cases h1 : b < env.locals
      · exact .inl h1
      · refine .inr ?_
        by_cases h2 : (xp.map (·.1)).contains b = true
        · obtain ⟨p, hp, e2⟩ := List.mem_map.mp (List.contains_iff_mem.mp h2)
          exact ⟨p, hp, e2⟩
        · exfalso
          refine hb (List.mem_filter.mpr ⟨List.mem_range.mpr (Heap.lt_size e), ?_⟩)
          rw [hnone]
          simp only [Option.isNone_none, Bool.and_true, Bool.and_eq_true, decide_eq_true_eq, Bool.not_eq_true']
          exact ⟨Nat.le_of_not_lt h1, Bool.not_eq_true _ ▸ h2⟩
    refine I.call' (ch := (List.range s.heap.objs.size).filter (fun b => decide (env.locals ≤ b) && (H b).isNone && !(xp.map (·.1)).contains b)) J.os ⟨fun b o e hnone hb hx => ?_, fun b o e hnone hb hx => ?_, fun b o e hnone hx => ?_, fun b o e hx => ?_, J.base.tups, J.base.frzs, J.base.tbls⟩ J.hok (allBare_setGen J.bare hx) fun b hb => ?_
    · rcases split b o e hnone hx with h1 | h1
      · exact J.base.keep b o (old b o h1 e) hnone hb (fun z => by cases z)
      · exact (xat b o h1 e).1
    · rcases split b o e hnone hx with h1 | h1
      · exact J.base.slot b o (old b o h1 e) hnone hb (fun z => by cases z)
      · exact ⟨o.slots, (xat b o h1 e).1⟩
    · rcases split b o e hnone hx with h1 | h1
      · exact J.base.free b o (old b o h1 e) hnone (fun z => by cases z)
      · exact (xat b o h1 e).2
    · cases hnone : H b with
      | none =>
        rcases split b o e hnone hx with h1 | h1
        · exact J.base.there b o (old b o h1 e) (fun z => by cases z)
        · exact ⟨o, (xat b o h1 e).1⟩
      | some u => exact objOk_there (J.hok b u (hsame b u hnone))
    · obtain ⟨h1, h2⟩ := List.mem_filter.mp hb
      simp only [Bool.and_eq_true, decide_eq_true_eq, Bool.not_eq_true', Option.isNone_iff_eq_none] at h2
      obtain ⟨⟨h3, h4⟩, h5⟩ := h2
      have hnx : ∀ p ∈ xp, p.1 ≠ b := fun p hp e => by
        have : (xp.map (·.1)).contains b = true := List.contains_iff_mem.mpr (List.mem_map.mpr ⟨p, hp, e⟩)
        rw [h5] at this
        cases this
      obtain ⟨q1, q2⟩ := yg.young b h3 (List.mem_range.mp h1) h4 hnx
      exact ⟨q1, q2, fun x c e => Nat.ne_of_lt (Nat.lt_of_lt_of_le (hold.cells x c e) h3), fun p hp => Nat.ne_of_lt (Nat.lt_of_lt_of_le (hold.pins p hp) h3)⟩
  have fsub : ∀ b, b ∉ frs X.stack → b ∉ X.fs := fun b hb hm => hb (by
    rcases I.ok.stk with e | ⟨e, hf⟩
    · rw [e]; exact hm
    · rw [e]
      unfold frs
      rw [List.filterMap_cons, hf]
      exact List.mem_cons_of_mem _ hm)
  refine wpAny_gsz (n := gi + 1) hgl (next_g (I.ok.hd hc) I.nolimit hroom hisg hgs (wake ⟨s.setGen gi .running, H, xp⟩ wk hkp) fun e s1 he => ?_)
  cases e with
  | ret r =>
    have q : r = .ok (.ret .none) ∧ ∃ σ' ip H', Inv ((gFam X.prog X.w X.K X.mg X.base X.A.in1 N env X.stack a go os).cx ⟨s.setGen gi .running, H, xp⟩) ip σ' H' s1 ∧ g.dn i H H' := by
      cases n <;> exact he
    obtain ⟨e1, σg, ip, H', J, hd⟩ := q
    refine ⟨e1, fun h' hk _ => .inr ⟨rfl, H', hd, ?_⟩⟩
    have I1 := back (x := .finished) rfl (g.dnS _ _ _ hd) J
    exact I1.kept (h' := h') (t' := s1.toks) hk
  | susp v g₀ l k c p fs =>
    obtain ⟨n, rfl⟩ : ∃ m, n = m + 1 := by
      cases n with
      | zero => exact he.elim
      | succ m => exact ⟨m, rfl⟩
    obtain ⟨hq, x, σg, ip, H', oL, rv, J, eL, cL, ho, hap, cont⟩ := he
    refine ⟨hq, fun hsz => .inl ⟨v, x, H', (env.locals, oL) :: ([(a, go)] ++ ip), rfl, rv, ho, back (End.bare_of_quiet hq) (g.outS _ _ _ _ ho) J, ?_, ?_, ?_, ?_⟩⟩
    · exact List.mem_cons_of_mem _ List.mem_cons_self
    · intro q hq' r hr
      rcases List.mem_cons.mp hr with e | hr
      · rw [e]; exact (yg.xp q hq').2.2.1
      · exact hap q hq' r hr
    · intro q hq'
      obtain ⟨z1, z2, _⟩ := J.pin q (List.mem_append_left _ (List.mem_append_right _ hq'))
      exact ⟨z1, z2⟩
    · have hsz' : gi < s1.gens.size := by
        have e2 := setGen_size s1 gi (End.susp v g₀ l k c p fs).genState
        rw [e2] at hsz
        exact hsz
      refine ⟨⟨_, n, by omega, setGen_at hsz', fun _ => True.intro, fun y wy hky => cont y wy hky⟩, fun q hq' => ?_⟩
      rcases List.mem_cons.mp hq' with e | hq'
      · rw [e]
        have nst : env.locals ∉ frs X.stack := fun z => Nat.lt_irrefl _ (hold.frl _ z)
        exact ⟨eL, J.free, yg.loc _ nst (fun p' hp' => (yg.xp p' hp').2.2.1), fsub _ nst, cL⟩
      · have hq2 : q ∈ ((gFam X.prog X.w X.K X.mg X.base X.A.in1 N env X.stack a go os).cx ⟨s.setGen gi .running, H, xp⟩).pn ++ ip := by
          rcases List.mem_append.mp hq' with z | z
          · exact List.mem_append_left _ (List.mem_append_left _ z)
          · exact List.mem_append_right _ z
        obtain ⟨z1, z2, z3, z4, z5⟩ := J.pin q hq2
        exact ⟨z1, z2, yg.loc _ z4 (fun p' hp' => hap p' hp' q hq'), fsub _ z4, z5⟩

/-- it sleeps on -/
theorem Slp.keep {F : GFam} {g : GSpec} {B gi i : Nat} {own : List (Addr × Obj)} {Hy H2 : Hp} {s2 : Shared} {σ2 : L2.St} (sl : Slp X F g B gi own (i + 1) Hy s H) (I2 : Inv X (pins ++ own) σ2 H2 s2)
    (hg : ∀ gs, isAsleep gs → s.gens[gi]? = some gs → s2.gens[gi]? = some gs) : Slp X F g B gi own (i + 1) Hy s2 H2 := by
  obtain ⟨gs, n, hn, hgs, hgi, wake⟩ := sl.gs
  exact ⟨⟨gs, n, hn, hg gs (hgi (Nat.succ_ne_zero i)) hgs, hgi, wake⟩, fun p hp => I2.pin p (List.mem_append_right _ (List.mem_append_right _ hp))⟩
/-- what runs beside it -/
theorem beside {α : Type} {t : Sem α} {Q : α → Shared → Prop} {E : Value → Shared → Prop} {R : α → Shared → Prop} (I : Inv X pins σ H s)
    (h : ∀ b, AllBare b → wpAny (model X.prog X.w) X.A t R (fun _ _ => False) { s with gens := b })
    (hR : ∀ (a : α) (s' : Shared) (b : Array GenState), R a s' → (AllBare s'.gens → AllBare b) → (∀ (gi : Nat) (gs : GenState), isAsleep gs → s.gens[gi]? = some gs → b[gi]? = some gs) → Q a { s' with gens := b }) : wpAny (model X.prog X.w) X.A t Q E s := by
  refine wpAny_asleep (wpAny_mono (h _ (bare_deafen I.bare)) (fun a s' r b d => hR a s' b r d.bare fun gi gs hgs e => ?_) fun _ _ z => z.elim)
  cases gs with
  | suspended k l c p fs cl => exact asleep_at e d
  | _ => exact hgs.elim
end

/-! ### for x in g(..) -/
abbrev TGq := L2.St → Hp → (GSpec → Hp → Prop) → Prop
/-- an expression whose value is a new generator -/
structure PGn (X : Cx) (k B : Nat) (e : Expr) (tg : TGq) : Prop where
  run : ∀ (pins : List (Addr × Obj)) (s : Shared) (σ : L2.St) (H : Hp) (R : GSpec → Hp → Prop), Inv X pins σ H s → tg σ H R → wpAny (model X.prog X.w) X.A (eval e X.env)
    (fun u s' => ∃ H1 sc g, Inv X pins σ H1 sc ∧ R g H1 ∧ GNew X.prog X.w X.K X.mg X.base k X.stack H1 sc g B u s') X.xe s
def tCallGn (sp : SpGen) (t : TA) : TGq := fun σ H R => t σ H fun vs H1 => ∃ g, sp vs H1 g ∧ R g H1
theorem pgn_call {X : Cx} {k B : Nat} {f : Addr} {fd : FuncData} {ps : List Str} {sp : SpGen} {x : Str} {p pos : Pos} {e : Expr} {es : List Expr} {t : TA} (F : GDef X.prog X.w X.K X.mg X.base k B f fd ps sp) (hr : Room k X.A) (hg : Gl X x) (hm : X.mg x = some (.ref f))
    (hk : PySem.W.keepIn X.K (.ref f) = true) (hb : Binds X.K fd ps []) (ha : PA X (e :: es) t) (hdb : (x == ("__debug__" : Str)) = false := by decide)
    (he : starEach (e :: es) X.env = (false, eval e X.env) :: starEach es X.env := by rfl) (hpl : (backTo pos (starEach es X.env)).any (·.1) = false := by rfl) : PGn X k B (.Call (.Name x p) (e :: es) [] pos) (tCallGn sp t) := by
  refine ⟨fun pins s σ H R I h => ?_⟩
  refine wpAny_Call_Name_kw (ld_glob I hg hm ?_ hdb)
  refine PySem.W.callWith_K (h₀ := X.base) I.ok.mod.kin hk (thn (ha.run pos pins s σ H _ I h) fun us s1 ⟨vs, H1, I1, r, g, hsp, q⟩ => ⟨I1.kIn, ?_⟩) he hpl
  have hl : us.length = ps.length := by rw [← r.length]; exact F.len _ _ _ hsp
  have hbb := hb s1 us I1.kIn (by rw [List.append_nil]; exact hl)
  rw [List.append_nil] at hbb
  refine wpAny_call (codeAny_mono (F.run X.A X.stack s1 H1 ⟨us, []⟩ us vs g hr I1.env0 hbb r hsp) fun r s' hq => ?_)
  cases r with
  | error e => exact False.elim hq
  | ok fl =>
    cases fl with
    | ret u => exact ⟨H1, s1, g, I1, q, hq⟩
    | next => exact False.elim hq
    | brk => exact False.elim hq
    | cont => exact False.elim hq

def tForG (tg : TGq) (gt : TG) (tb : TS) : TS := fun D σ H => tg σ H fun g H1 => g.kp H1 H1 ∧ ∃ W : Nat → L2.St → Hp → Prop, W 0 σ H1 ∧ ∀ i σ H, W i σ H →
  (∀ x H', g.out i H x H' → gt x σ H' fun σ2 H2 => tb { D with nx := fun σ3 H3 => g.kp H' H3 ∧ W (i + 1) σ3 H3, ct := fun σ3 H3 => g.kp H' H3 ∧ W (i + 1) σ3 H3, bk := D.nx } σ2 H2) ∧ ∀ H', g.dn i H H' → D.nx σ H'
theorem frs_lt {X : Cx} {pins : List (Addr × Obj)} {σ : L2.St} {H : Hp} {s : Shared} (I : Inv X pins σ H s) : ∀ b ∈ frs X.stack, b < s.heap.objs.size := fun b hb => by
  obtain ⟨_, o, e, _⟩ := I.stack.mem hb
  exact Heap.lt_size e
/-- the generator that a call has made, held by who called -/
theorem GHold.made {X : Cx} {pins : List (Addr × Obj)} {σ : L2.St} {H : Hp} {sc : Shared} {env : Env} {a : Addr} {go : Obj} {gi : Nat} (I : Inv X pins σ H sc) (hL : sc.heap.objs.size = env.locals) (la : env.locals < a) (hg : ∀ h : Heap, h.get? a = some go → h.IsGen a gi) :
    GHold X pins env a go gi sc.os := by
  refine ⟨I.os, fun b hb => by rw [← hL]; exact frs_lt I b hb, la, hg, fun p hp => ?_, fun x c e => ?_⟩
  · rw [← hL]
    exact Heap.lt_size (I.pin p hp).1
  · rw [← hL]
    obtain ⟨v, o, e1, _⟩ := I.cell x c e
    exact Heap.lt_size e1
theorem ps_forG {X : Cx} {k B : Nat} {tg iter : Expr} {body : List Stmt} {wg : TGq} {gt : TG} {tb : TS} {pos : Pos} (hx : X.xe = fun _ _ => False) (hst : X.stack = X.env :: X.outer) (hf : X.env.frame = some X.env.locals) (hc : X.calm = true) (hr : Room (k + 1) X.A)
    (he : PGn X k B iter wg) (hg : PG X tg gt) (hbd : PSs X body tb) (hs : ∀ x, foldedSetIterable iter X.env x = pure x := by intro _; rfl) : PS X (.For tg iter body [] pos) (tForG wg gt tb) := by
  have hp : PassesOwn (model X.prog X.w) X.A X.env X.xe := by
    rw [hx]
    exact PassesOwn.never
  refine ⟨fun pins s σ H D I h => ?_⟩
  refine wpAny_For (thn (he.run pins s σ H _ I h) fun v s1 h1 => ?_) hs
  obtain ⟨H1, sc, g, I1, ⟨hk, W, w0, turn⟩, a, gi, go, oL, vs, c, N, env, rfl, hL, la, hsz, hgc, hgd, hisg, coL, ea, eL, hgs, hos, hba, hkeep, ready⟩ := h1
  refine wpAny_pyIter_gen (hisg _ ea) ?_
  have hold : GHold X pins env a go gi sc.os := GHold.made I1 hL la hisg
  have ltL : X.env.locals < env.locals := by rw [← hL]; exact I1.lt
  have stk : ∀ b, b ∉ frs X.stack → b ≠ X.env.locals := fun b hb e => hb (by
    rw [hst, e]
    unfold frs
    rw [List.filterMap_cons, hf]
    exact List.mem_cons_self)
  have yng : ∀ (own : List (Addr × Obj)) (H : Hp) (s : Shared), GYoung X env.locals own [] H s := fun own H s =>
    ⟨fun p hp => (by cases hp), fun p hp => (by cases hp), fun b hb _ _ _ => ⟨.inr (Nat.le_trans (by rw [← hL]; exact I1.sz) hb), Nat.ne_of_gt (Nat.lt_of_lt_of_le ltL hb)⟩, fun b hb _ => stk b hb⟩
  have I2 : Inv X pins σ H1 s1 := I1.call' (ch := []) hos (Un.kept hkeep) (I1.hok.kept hkeep) hba fun b hb => by cases hb
  have fresh : ∀ b, env.locals ≤ b → H1 b = none ∧ b ≠ X.env.locals ∧ b ∉ X.fs := fun b hb => by
    have hb' : sc.heap.objs.size ≤ b := by rw [hL]; exact hb
    exact ⟨I1.hok.fresh hb', Nat.ne_of_gt (Nat.lt_of_lt_of_le ltL hb), I1.nofs hb'⟩
  have sl0 : Slp X (gFam X.prog X.w X.K X.mg X.base X.A.in1 N env X.stack a go sc.os) g B gi [(env.locals, oL), (a, go)] 0 H1 s1 H1 := by
    refine ⟨⟨_, B, Nat.add_zero _, hgs, fun z => absurd rfl z, fun y wy ky => ready X.A.in1 y hr.in1 I1.ok.frames wy ky⟩, fun p hp => ?_⟩
    rcases List.mem_cons.mp hp with e | hp
    · rw [e]
      obtain ⟨z1, z2, z3⟩ := fresh _ (Nat.le_refl env.locals)
      exact ⟨eL, z1, z2, z3, coL⟩
    · rw [List.mem_singleton.mp hp]
      obtain ⟨z1, z2, z3⟩ := fresh a (Nat.le_of_lt la)
      exact ⟨ea, z1, z2, z3, fun v q => by rw [hgd] at q; cases q⟩
  refine codeAny_forLoop_any (fun m s' => ∃ i own Hy σ' H', m + i = B ∧ Inv X pins σ' H' s' ∧ Slp X (gFam X.prog X.w X.K X.mg X.base X.A.in1 N env X.stack a go sc.os) g B gi own i Hy s' H' ∧ (a, go) ∈ own ∧ g.kp Hy H' ∧ W i σ' H') ?_ B
    ⟨0, _, H1, σ, H1, Nat.add_zero _, I2, sl0, List.mem_cons_of_mem _ List.mem_cons_self, hk, w0⟩
  rintro m s3 ⟨i, own, Hy, σ3, H3, hm, I3, sl3, ha3, hk3, w3⟩
  obtain ⟨step, fin⟩ := turn i σ3 H3 w3
  refine wpAny_passesOwn hp (thn (gen_turn hc hr.depth I3 hold sl3 ha3 hk3 (yng own H3 s3)) fun r s4 h4 => ?_)
  rcases h4 with ⟨v, x, H4, own4, rfl, rv, ho, I4, ha4, _, _, sl4⟩ | ⟨rfl, H4, hd, I4⟩
  · have hgo : s4.heap.get? a = some go := (sl4.own _ ha4).1
    refine go_of hgo hgc hgd (by decide) ?_
    have st := step x H4 ho
    have I4' := sl4.pinned I4
    refine wpAny_passesOwn hp (beside (R := fun _ s' => ∃ σ' H', Inv X (pins ++ own4) σ' H' s' ∧ tb { D with nx := fun σ3 H3 => g.kp H4 H3 ∧ W (i + 1) σ3 H3, ct := fun σ3 H3 => g.kp H4 H3 ∧ W (i + 1) σ3 H3, bk := D.nx } σ' H') I4 (fun b hb => ?_) fun _ s5 b5 hR hbare hsl5 => ?_)
    · rw [← hx]
      exact hg.run _ _ σ3 H4 x v _ (Inv.gens I4' hb) rv st
    obtain ⟨σ5, H5, I5, q5⟩ := hR
    have I5' : Inv X (pins ++ own4) σ5 H5 { s5 with gens := b5 } := Inv.gens I5 (hbare I5.bare)
    refine wpAny_passesOwn hp (beside (R := fun f s' => SP X (pins ++ own4) { D with nx := fun σ3 H3 => g.kp H4 H3 ∧ W (i + 1) σ3 H3, ct := fun σ3 H3 => g.kp H4 H3 ∧ W (i + 1) σ3 H3, bk := D.nx } f s') I5' (fun b hb => ?_) fun f s6 b6 q6 hbare6 hsl6 => ?_)
    · rw [← hx]
      exact hbd.run _ _ σ5 H5 _ (Inv.gens I5' hb) q5
    have again : ∀ {σ6 : L2.St} {H6 : Hp}, Inv X (pins ++ own4) σ6 H6 s6 → g.kp H4 H6 ∧ W (i + 1) σ6 H6 → ∃ m', m' < m ∧ ∃ i own Hy σ' H', m' + i = B ∧ Inv X pins σ' H' { s6 with gens := b6 } ∧
        Slp X (gFam X.prog X.w X.K X.mg X.base X.A.in1 N env X.stack a go sc.os) g B gi own i Hy { s6 with gens := b6 } H' ∧ (a, go) ∈ own ∧ g.kp Hy H' ∧ W i σ' H' := fun {σ6 H6} J q => by
      have J' : Inv X (pins ++ own4) σ6 H6 { s6 with gens := b6 } := Inv.gens J (hbare6 J.bare)
      obtain ⟨_, n', hn', _⟩ := sl4.gs
      refine ⟨m - 1, by omega, i + 1, own4, H4, σ6, H6, by omega, J'.unpinned, sl4.keep J' (fun gs h1 h2 => hsl6 gi gs h1 (hsl5 gi gs h1 h2)), ha4, q.1, q.2⟩
    cases f with
    | next => obtain ⟨σ6, H6, J, q⟩ := q6; exact again J q
    | cont => obtain ⟨σ6, H6, J, q⟩ := q6; exact again J q
    | brk => obtain ⟨σ6, H6, J, q⟩ := q6; exact ⟨σ6, H6, (Inv.gens J (hbare6 J.bare)).unpinned, q⟩
    | ret u => obtain ⟨x6, σ6, H6, J, r6, q⟩ := q6; exact ⟨x6, σ6, H6, (Inv.gens J (hbare6 J.bare)).unpinned, r6, q⟩
  · exact wpAny_execs_nil ⟨σ3, H4, I4, fin H4 hd⟩
end Rt
end
section
/-! [e for x in g(..)] -/
namespace Rt
open PySem PySem.Spec PyProof.Rows L2 GenW
open Sem (wp)

def tLcG (wg : TGq) (gt : TG) (te : TE) (vs : List Nat) : TE := fun σ H Q => wg σ H fun g H1 => ∀ D, H1 D = none → g.kp H1 (upd H1 D (.lst [])) ∧ ∃ W : Nat → List V → Hp → Prop, W 0 [] (upd H1 D (.lst [])) ∧ ∀ i acc H, W i acc H → H D = some (.lst acc) →
  (∀ x H', g.out i H x H' → gt x (wipe σ vs) H' fun σ2 H2 => wipe σ2 vs = wipe σ vs ∧ te σ2 H2 fun y H4 => H4 D = some (.lst acc) ∧ acc.length < sizeLine ∧ g.kp H' (upd H4 D (.lst (acc ++ [y]))) ∧ W (i + 1) (acc ++ [y]) (upd H4 D (.lst (acc ++ [y])))) ∧
  ∀ H', g.dn i H H' → Q (.ref D) H'

theorem clo_none {cells : List (Str × Addr)} : ∀ (names : List (Str × NameKind)) (acc : List (Str × Addr)), (∀ y ∈ names, y.2 ≠ .free) → cloFrom cells names acc = acc
  | [], _, _ => rfl
  | (x, kd) :: r, acc, h => by
    have h0 : ¬ ((kd == NameKind.free) = true) := fun e => h (x, kd) List.mem_cons_self (by simpa using e)
    unfold cloFrom
    rw [if_neg h0]
    exact clo_none r acc fun y hy => h y (List.mem_cons_of_mem _ hy)

section
variable {X : Cx}
theorem pe_lcG {k B : Nat} {elt tg iter : Expr} {scope : Scope} {own : List (Str × Nat)} {pos : Pos} {wg : TGq} {gt : TG} {te : TE} (hc : X.calm = true) (hN : X.N.Nodup) (hr : Room (k + 1) X.A) (he : PGn X k B iter wg) (ok : BlkOk X.N X.env.scope scope own)
    (hnc : ∀ y ∈ scope.names, y.2 ≠ .cell ∧ y.2 ≠ .free)
    (hg : ∀ (s : Shared) (H : Hp) (C : Addr) (cl : List (Str × Addr)) (fp : List Addr), PG (X.blk s H scope (compEnvC scope cl C X.env) fp) tg gt)
    (hte : ∀ (s : Shared) (H : Hp) (C : Addr) (cl : List (Str × Addr)) (fp : List Addr), PE (X.blk s H scope (compEnvC scope cl C X.env) fp) elt te) (hs : ∀ x, foldedSetIterable iter X.env x = pure x := by intro _; rfl) :
    PE X (.ListComp elt [⟨tg, iter, [], 0⟩] scope pos) (tLcG wg gt te (own.map (·.2))) := by
  refine ⟨fun pins s σ H Q I h => ?_⟩
  rw [eval_ListComp]
  have hcl0 : cloFrom X.env.cells scope.names [] = [] := clo_none _ _ fun y hy => (hnc y hy).2
  have hfree : ∀ y ∈ scope.names, y.2 = .free → ∃ c, X.env.cells.lookup y.1 = some c := fun y hy e => absurd e (hnc y hy).2
  refine wpAny_comprehension_free (use := none) rfl hs (closure_ok hfree) ok.kind (fun y hy e => by rw [ok.uniq y hy, e]) (thn (he.run pins s σ H _ I h) fun v s1 h1 => ?_)
  obtain ⟨H1, sc, g, I1, hq, a, gi, go, oL, vs, c, N, env, rfl, hL, la, hsz, hgc, hgd, hisg, coL, ea, eL, hgs, hos, hba, hkeep, ready⟩ := h1
  refine wpAny_pyIter_gen (hisg _ ea) ?_
  refine wpAny_newObj_type (newEnv_comp ?_) (by show 0 ≤ sizeLine; decide)
  rw [hcl0]
  generalize hD : s1.heap.objs.size = D
  have scD : sc.heap.objs.size ≤ D := by rw [hL, ← hD, hsz]; exact Nat.le_of_lt (Nat.lt_of_lt_of_le la (Nat.le_succ a))
  have hDn : H1 D = none := I1.hok.fresh scD
  obtain ⟨hkp, W, w0, turn⟩ := hq D hDn
  have I2 : Inv X pins σ H1 s1 := I1.call' (ch := []) hos (Un.kept hkeep) (I1.hok.kept hkeep) hba fun b hb => by cases hb
  generalize hs3 : ({ s1 with heap := s1.heap.push { cls := .type "list", data := .seq ([] : List Value).toArray } } : Shared) = s3
  have I3 : Inv X pins σ (upd H1 D (.lst [])) s3 := by
    rw [← hs3]
    refine I2.laid (t' := s1.toks) (fun b o e => Heap.get?_push_of_some _ e) (Nat.le_of_eq hD) ⟨Nat.zero_le _, [], 0, .nil, ?_⟩
    rw [← hD]
    exact Heap.get?_push_size _ rfl
  have h3 : s3.heap = s1.heap.push { cls := .type "list", data := .seq ([] : List Value).toArray } := by rw [← hs3]
  have sz3 : s3.heap.objs.size = D + 1 := by rw [h3, Heap.size_push, hD]
  have aD : a + 1 = D := by rw [← hD, hsz]
  -- the iterator's own, older than the block
  generalize hfp : (List.range D).filter (fun b => decide (env.locals ≤ b)) = fp
  have mfp : ∀ b, b ∈ fp ↔ env.locals ≤ b ∧ b < D := fun b => by
    rw [← hfp, List.mem_filter, List.mem_range]
    simp only [decide_eq_true_eq]
    exact And.comm
  have f3 : ∀ b ∈ fp, FpOk X pins (upd H1 D (.lst [])) b ∧ b < s3.heap.objs.size := fun b hb => by
    obtain ⟨b1, b2⟩ := (mfp b).mp hb
    have b3 : sc.heap.objs.size ≤ b := by rw [hL]; exact b1
    refine ⟨I1.fpOk b3 ?_, by rw [sz3]; exact Nat.lt_succ_of_lt b2⟩
    rw [upd_ne (Nat.ne_of_lt b2)]
    exact I1.hok.fresh b3
  have I4 := block_start I3 ok hN f3
  rw [hcl0] at I4
  have pg := hg s3 (upd H1 D (.lst [])) s3.heap.objs.size (cellsFrom (s3.heap.objs.size + 1) scope.names []) fp
  have pe := hte s3 (upd H1 D (.lst [])) s3.heap.objs.size (cellsFrom (s3.heap.objs.size + 1) scope.names []) fp
  show codeAny _ _ (.compStart (.ListComp elt [⟨tg, iter, [], 0⟩] scope pos) 0 (.ref a) (.ref D) (compEnvC scope (cellsFrom (s3.heap.objs.size + 1) scope.names []) s3.heap.objs.size X.env)) (compPost (model X.prog X.w) X.A X.xe none (EP X pins σ Q) (.ref D) s3.heap.objs.size) { s3 with heap := pushCells (s3.heap.push { cls := .type "dict", data := .dict #[] }) scope.names }
  have hcn : ∀ n, cellsFrom n scope.names [] = [] := fun n => cells_none _ _ _ fun y hy => (hnc y hy).1
  rw [hcn] at I4 pg pe ⊢
  generalize hce : compEnvC scope [] s3.heap.objs.size X.env = ce at I4 pg pe ⊢
  have cL : ce.locals = D + 1 := by subst hce; exact sz3
  have cC : ce.cells = [] := by subst hce; rfl
  generalize hH3 : upd H1 D (.lst []) = H3 at I3 I4 pg pe w0 hkp f3
  have D3 : H3 D = some (.lst []) := by rw [← hH3]; exact upd_same
  generalize hs4 : ({ s3 with heap := pushCells (s3.heap.push { cls := .type "dict", data := .dict #[] }) scope.names } : Shared) = s4 at I4 ⊢
  have keep4 : ∀ b o, s1.heap.get? b = some o → s4.heap.get? b = some o := fun b o e => by
    rw [← hs4]
    refine pushCells_keeps _ _ _ _ (Heap.get?_push_of_some _ ?_)
    rw [h3]
    exact Heap.get?_push_of_some _ e
  have gens4 : s4.gens = s1.gens := by rw [← hs4, ← hs3]
  have os4 : s4.os = s1.os := by rw [← hs4, ← hs3]
  have ltf : ∀ b ∈ frs X.stack, b < env.locals := fun b hb => by rw [← hL]; exact frs_lt I1 b hb
  have hold : GHold (X.blk s3 H3 scope ce fp) [] env a go gi sc.os := by
    refine ⟨?_, ltf, la, hisg, fun p hp => (by cases (show p ∈ ([] : List (Addr × Obj)) from hp)), fun x c e => ?_⟩
    · show sc.os = s3.os
      rw [← hs3]
      exact hos.symm
    · have e' : ce.cells.lookup x = some c := e
      rw [cC] at e'
      cases e'
  have Lcl : env.locals < D := by rw [← aD]; exact Nat.lt_succ_of_lt la
  have sl0 : Slp (X.blk s3 H3 scope ce fp) (gFam X.prog X.w X.K X.mg X.base X.A.in1 N env X.stack a go sc.os) g B gi [(env.locals, oL), (a, go)] 0 H1 s4 H3 := by
    have own0 : ∀ b, env.locals ≤ b → b < D → H3 b = none ∧ b ≠ ce.locals ∧ b ∉ frs X.stack := fun b b1 b2 => by
      refine ⟨?_, by rw [cL]; exact Nat.ne_of_lt (Nat.lt_succ_of_lt b2), fun z => absurd (ltf b z) (Nat.not_lt.mpr b1)⟩
      rw [← hH3, upd_ne (Nat.ne_of_lt b2)]
      exact I1.hok.fresh (by rw [hL]; exact b1)
    refine ⟨⟨.fresh c, B, Nat.add_zero _, by rw [gens4]; exact hgs, fun z => absurd rfl z, fun y wy ky => ready X.A.in1 y hr.in1 I1.ok.frames wy ky⟩, fun p hp => ?_⟩
    rcases List.mem_cons.mp hp with e | hp
    · rw [e]
      obtain ⟨z1, z2, z3⟩ := own0 _ (Nat.le_refl env.locals) Lcl
      exact ⟨keep4 _ _ eL, z1, z2, z3, coL⟩
    · rw [List.mem_singleton.mp hp]
      obtain ⟨z1, z2, z3⟩ := own0 a (Nat.le_of_lt la) (by rw [← aD]; exact Nat.lt_succ_self a)
      exact ⟨keep4 _ _ ea, z1, z2, z3, fun v q => by rw [hgd] at q; cases q⟩
  have loop : codeAny (model X.prog X.w) X.A (.compLoop (.ListComp elt [⟨tg, iter, [], 0⟩] scope pos) 0 (.ref a) (.ref D) ce) (compPost (model X.prog X.w) X.A X.xe none (EP X pins σ Q) (.ref D) s3.heap.objs.size) s4 := by
    refine compLoop_any (fun m s' => ∃ i gown Hy acc H', m + i = B ∧ Inv (X.blk s3 H3 scope ce fp) [] (wipe σ (own.map (·.2))) H' s' ∧ Slp (X.blk s3 H3 scope ce fp) (gFam X.prog X.w X.K X.mg X.base X.A.in1 N env X.stack a go sc.os) g B gi gown i Hy s' H' ∧
      (a, go) ∈ gown ∧ g.kp Hy H' ∧ H' D = some (.lst acc) ∧ W i acc H') ?_ B ⟨0, _, H1, [], H3, Nat.add_zero _, I4, sl0, List.mem_cons_of_mem _ List.mem_cons_self, hkp, D3, w0⟩
    rintro m s5 ⟨i, gown, Hy, acc, H5, hm, I5, sl5, ha5, hk5, D5, w5⟩
    obtain ⟨step, fin⟩ := turn i acc H5 w5 D5
    -- the block's frame, as it stands
    obtain ⟨mC, ⟨oC, es, ep, eC, hCd, hCr⟩, _⟩ := id I5.loc
    have nC : H5 ce.locals = none := I5.free
    have yg : GYoung (X.blk s3 H3 scope ce fp) env.locals gown [(ce.locals, oC)] H5 s5 := by
      refine ⟨fun p hp => ?_, fun p hp q hq => ?_, fun b b1 b2 b3 b4 => ⟨?_, fun e => b4 _ List.mem_cons_self e.symm⟩, fun b _ hb e => hb _ List.mem_cons_self e.symm⟩
      · rw [List.mem_singleton.mp hp]
        refine ⟨eC, nC, ?_, fun z => ?_, fun v q => by rw [hCd] at q; cases q⟩
        · show ce.locals ≠ env.locals
          rw [cL]
          exact Nat.ne_of_gt (Nat.lt_succ_of_lt Lcl)
        · have z1 : ce.locals < env.locals := ltf _ z
          rw [cL] at z1
          exact absurd (Nat.lt_trans z1 Lcl) (Nat.not_lt.mpr (Nat.le_succ D))
      · rw [List.mem_singleton.mp hp]
        exact Ne.symm (sl5.own q hq).2.2.1
      · by_cases h1 : s3.heap.objs.size ≤ b
        · exact .inr h1
        · refine .inl ((mfp b).mpr ⟨b1, ?_⟩)
          rw [sz3] at h1
          have h2 : b ≠ D := fun e => by rw [e, D5] at b3; cases b3
          exact Nat.lt_of_le_of_ne (Nat.le_of_lt_succ (Nat.lt_of_not_le h1)) h2
    refine thnF (gen_turn (X := X.blk s3 H3 scope ce fp) hc hr.depth I5 hold sl5 ha5 hk5 yg) fun r s6 h6 => ?_
    rcases h6 with ⟨v, x, H6, gown6, rfl, rv, ho, I6, ha6, _, _, sl6⟩ | ⟨rfl, H6, hd, I6⟩
    · have hgo : s6.heap.get? a = some go := (sl6.own _ ha6).1
      refine go_of hgo hgc hgd (by decide) ?_
      have st := step x H6 ho
      have D6 : H6 D = some (.lst acc) := g.outS _ _ _ _ ho _ _ D5
      have I6' := sl6.pinned I6
      refine thnF (beside (X := X.blk s3 H3 scope ce fp) (R := fun _ s' => ∃ σ' H', Inv (X.blk s3 H3 scope ce fp) ([] ++ gown6) σ' H' s' ∧ wipe σ' (own.map (·.2)) = wipe σ (own.map (·.2)) ∧ te σ' H' fun y H4 => H4 D = some (.lst acc) ∧ acc.length < sizeLine ∧ g.kp H6 (upd H4 D (.lst (acc ++ [y]))) ∧ W (i + 1) (acc ++ [y]) (upd H4 D (.lst (acc ++ [y])))) I6' (fun b hb => ?_) fun _ s7 b7 hR hbare hsl7 => ?_) fun _ _ q => q
      · exact pg.run _ _ _ H6 x v _ (Inv.gens I6' hb) rv st
      obtain ⟨σ7, H7, I7, hw7, q7⟩ := hR
      have I7' : Inv (X.blk s3 H3 scope ce fp) ([] ++ gown6) σ7 H7 { s7 with gens := b7 } := Inv.gens I7 (hbare I7.bare)
      refine wpAny_tests_nil ?_
      rw [if_pos rfl]
      refine thnF (beside (X := X.blk s3 H3 scope ce fp) (R := fun u s' => ∃ y H', Inv (X.blk s3 H3 scope ce fp) ([] ++ gown6) σ7 H' s' ∧ RelV y u ∧ H' D = some (.lst acc) ∧ acc.length < sizeLine ∧ g.kp H6 (upd H' D (.lst (acc ++ [y]))) ∧ W (i + 1) (acc ++ [y]) (upd H' D (.lst (acc ++ [y])))) I7' (fun b hb => ?_) fun u s8 b8 hR hbare8 hsl8 => ?_) fun _ _ q => q
      · exact pe.run _ _ σ7 H7 _ (Inv.gens I7' hb) q7
      obtain ⟨y, H8, I8, ry, D8, hz8, hk8, w8⟩ := hR
      have I8' : Inv (X.blk s3 H3 scope ce fp) ([] ++ gown6) σ7 H8 { s8 with gens := b8 } := Inv.gens I8 (hbare8 I8.bare)
      refine thnF (beside (X := X.blk s3 H3 scope ce fp) (R := fun _ s' => Inv (X.blk s3 H3 scope ce fp) ([] ++ gown6) σ7 (upd H8 D (.lst (acc ++ [y]))) s') I8' (fun b hb => ?_) fun _ s9 b9 J hbare9 hsl9 => ?_) fun _ _ q => q
      · exact app_ok (X := X.blk s3 H3 scope ce fp) (Inv.gens I8' hb) D8 hz8 ry fun s' J => J
      have J' : Inv (X.blk s3 H3 scope ce fp) ([] ++ gown6) σ7 (upd H8 D (.lst (acc ++ [y]))) { s9 with gens := b9 } := Inv.gens J (hbare9 J.bare)
      obtain ⟨_, n', hn', _⟩ := sl6.gs
      have hl7 : (wipe σ (own.map (·.2))).length = σ7.length := by rw [← hw7, wipe_length]
      refine ⟨m - 1, by omega, i + 1, gown6, H6, acc ++ [y], _, by omega, (J'.unpinned (pins := [])).weak hl7 (fun j v' e => ?_), sl6.keep J' (fun gs h1 h2 => hsl9 gi gs h1 (hsl8 gi gs h1 (hsl7 gi gs h1 h2))), ha6, hk8, upd_same, w8⟩
      rw [← hw7] at e
      exact (wipe_some e).1
    · have I7 : Inv X pins σ H6 s6 := I3.call' (ch := fp) I6.os I6.base I6.hok I6.bare fun b hb => ⟨(f3 b hb).1.2.2.2.1, (f3 b hb).1.2.1, (f3 b hb).1.2.2.2.2.1, (f3 b hb).1.2.2.2.2.2⟩
      have n6 : H6 s3.heap.objs.size = none := by
        have z : H6 ce.locals = none := I6.free
        rw [cL] at z
        rw [sz3]
        exact z
      obtain ⟨m6, hn6, _⟩ := I6.loc
      have hn6' : s6.heap.Ns ce.locals m6 := hn6
      rw [cL, ← sz3] at hn6'
      refine ⟨m6, hn6', fun h'' sb => ?_⟩
      obtain ⟨f0, f1, f2, f3', f4, f5⟩ := I3.fpOk (Nat.le_refl _) n6
      exact ⟨.ref D, H6, I7.turned (t' := s6.toks) (fun b o hb e => (sb.2 b hb).trans e) f0 f1 f3' f4 f5, rfl, fin H6 hd⟩
  exact codeAny_compStart_list loop (wpAny_pyIter_gen (hisg _ (keep4 _ _ ea)) loop)
end
end Rt
end
section
/-! len(obj), obj[i] and obj != obj by the class's own __len__, __getitem__ and __eq__. -/
namespace Rt
open PySem PySem.Spec PyProof.Rows L2

section
variable {X : Cx} {CX : CXT} {k : Nat} {f C : Addr} {fd : FuncData} {ps : List Str} {sp : Sp} {E : XK}
/-- a callee run inside a builtin -/
theorem run_in1c {pins : List (Addr × Obj)} {σ : L2.St} {H : Hp} {s : Shared} {Q : VK} {us : List Value} {vs : List V} (F : FnOk X.prog X.w X.K X.mg X.base CX k f fd ps sp) (hr : Room (k + 1) X.A) (hb : Binds X.K fd ps []) (hx : Passes CX X E)
    (I : Inv X pins σ H s) (r : Vals vs us) (h : sp vs H Q E) : codeAny (model X.prog X.w) X.A.in1 (.call (.ref f) ⟨us, []⟩) (fun r s' => match r with
      | .ok (.ret v) => EP X pins σ Q v s'
      | .ok _ => False
      | .error e => X.xe e s') s := by
  have hl : us.length = ps.length := by rw [← r.length]; exact F.len _ _ _ _ h
  refine codeAny_mono (F.run X.A.in1 X.stack s H ⟨us, []⟩ us vs Q E hr.in1 I.env0.in1 (by
    have := hb s us I.kIn (by simpa using hl)
    simpa using this) r h) fun r s' hq => ?_
  cases r with
  | error e => exact hx pins σ H s e s' I hq
  | ok fl =>
    cases fl with
    | ret u => exact I.after hq
    | next => exact False.elim hq
    | brk => exact False.elim hq
    | cont => exact False.elim hq
theorem run_in1 {pins : List (Addr × Obj)} {σ : L2.St} {H : Hp} {s : Shared} {Q : VK} {us : List Value} {vs : List V} (F : FnOk X.prog X.w X.K X.mg X.base CX k f fd ps sp) (hr : Room (k + 1) X.A) (hb : Binds X.K fd ps []) (hx : Passes CX X E)
    (I : Inv X pins σ H s) (r : Vals vs us) (h : sp vs H Q E) : wpAny (model X.prog X.w) X.A.in1 (PySem.call (.ref f) us) (EP X pins σ Q) X.xe s :=
  wpAny_call (codeAny_mono (run_in1c F hr hb hx I r h) fun r s' hq => by
    cases r with
    | error e => exact hq
    | ok fl => cases fl <;> exact hq)

/-- len(obj) -/
def rLenO (C : Addr) (sp : Sp) (E : XK) : List V → Hp → VK → Prop := fun xs H Q => ∃ a dx fs, xs = [V.ref a] ∧ H a = some (.ins C dx fs) ∧ sp [.ref a] H (fun v H2 => ∃ n : Nat, n < 2 ^ 63 ∧ v = .int n ∧ Q (.int n) H2) E
theorem call_lenO (F : FnOk X.prog X.w X.K X.mg X.base CX k f fd ps sp) (hs : PySem.W.findIn X.K (.ref C) "__len__" = some (some (.ref f))) (hf : PySem.W.isFn X.K (.ref f) = true) (hr : Room (k + 1) X.A) (hb : Binds X.K fd ps [])
    (hx : Passes CX X E) : CallR X (.builtin "len") (rLenO C sp E) := by
  intro pins s σ H xs us Q I r h
  obtain ⟨a, dx, fs, rfl, ea, q⟩ := h
  obtain ⟨u, rfl, ru⟩ := vals1 r
  cases ru
  obtain ⟨mA, O, _⟩ := ins_get I.hok ea
  obtain ⟨od, J, _⟩ := O.look
  obtain ⟨m, hF⟩ := I.fr
  refine PySem.W.len_K hF I.ok.mod.kin J hs hf (wpAny_mono (run_in1 (vs := [.ref a]) F hr hb hx I (.cons rfl .nil) q) (fun v s' hv => ?_) fun _ _ e => e)
  obtain ⟨v', H', I', rv, n, hn, ev, q'⟩ := hv
  subst ev
  obtain ⟨t, rfl⟩ := rv
  exact ⟨⟨by omega, by exact_mod_cast hn⟩, ⟨.int n, H', I'.tok _, ⟨_, rfl⟩, q'⟩⟩

/-- obj[i] -/
def tSubO (C : Addr) (sp : Sp) (E : XK) (ta tb : TE) : TE := tOp (fun x y H Q => ∃ a dx fs, x = .ref a ∧ H a = some (.ins C dx fs) ∧ sp [.ref a, y] H Q E) ta tb
theorem pe_subO {a b : Expr} {ta tb : TE} {pos : Pos} (F : FnOk X.prog X.w X.K X.mg X.base CX k f fd ps sp) (hs : PySem.W.findIn X.K (.ref C) "__getitem__" = some (some (.ref f))) (hf : PySem.W.fnIn X.K f = true) (hfn : PySem.W.isFn X.K (.ref f) = true)
    (hr : Room (k + 1) X.A) (hb : Binds X.K fd ps []) (hx : Passes CX X E) (ha : PE X a ta) (hb' : PE X b tb)
    (hsl : ∀ o i, subscripted b true o i = runValue (.builtin "lifetime.subscript" ⟨[o, i], []⟩) := by intros; with_unfolding_all rfl) : PE X (.Subscript a b pos) (tSubO C sp E ta tb) := by
  refine ⟨fun pins s σ H Q I h => ?_⟩
  refine Subscript_ (binT ha hb' I h fun v u s2 x y H2 I2 rx ry q => ?_)
  obtain ⟨a, dx, fs, rfl, ea, q⟩ := q
  cases rx
  obtain ⟨mA, O, _⟩ := ins_get I2.hok ea
  obtain ⟨od, J, _⟩ := O.look
  obtain ⟨m, hF⟩ := I2.fr
  exact PySem.W.sub_K hF I2.ok.mod.kin J hs hf hfn (run_in1 (vs := [.ref a, y]) F hr hb hx I2 (.cons rfl (.cons ry .nil)) q) (hsl _ _)

theorem ifBound_objNe {M : Model} {A : Around} {E : Value → Shared → Prop} {s : Shared} {K : PySem.W.Frag} {x C : Addr} {ox : Obj} {od : Option Obj} {args : List Value} {Q : Option Value → Shared → Prop} (X : K.In s.heap) (I : PySem.W.InstAt s.heap x ox C od)
    (hs : PySem.W.findIn K (.ref C) "__ne__" = some (some (.builtin "object.__ne__")))
    (h : wpAny M A (PySem.call (.builtin "object.__ne__") (.ref x :: args)) (fun v => Q (some v)) E s) : wpAny M A (callSpecialIfBound? (.ref x) "__ne__" args) Q E s := by
  simp only [callSpecialIfBound?, bindSpecialIfBound?]
  refine wpAny_holding (wpAny_bind (wpAny_bind (wpAny_bind (I.type.here ((PySem.W.looks_findIn X hs).here ?_)))))
  refine wpAny_bind (wpAny_askSetting (wpAny_ite ?_))
  have fin : wpAny M A (PySem.call (.builtin "object.__ne__") ([.ref x] ++ args) >>= fun v => pure (some v)) Q E s := wpAny_bind (wpAny_mono h (fun v s' h' => wpAny_pure h') fun _ _ h' => h')
  split
  · exact wpAny_bind (wpAny_of_eq (F.cmp_object.ne.bind _) (wpAny_pure (by exact fin)))
  · exact wpAny_tryCatch (wpAny_bind (wpAny_of_eq (F.cmp_object.ne.bind _) (wpAny_pure (by exact fin))))

/-- a != b, two of one class with an __eq__ of its own and object's __ne__ -/
def rNeO (C : Addr) (sp : Sp) (E : XK) : R2 := fun x y H Q => ∃ a b dx dy fs gs, x = .ref a ∧ y = .ref b ∧ H a = some (.ins C dx fs) ∧ H b = some (.ins C dy gs) ∧ sp [.ref a, .ref b] H (fun v H2 => ∃ r, v = .bl r ∧ Q (.bl (!r)) H2) E
theorem op_neO (Fo : FnOk X.prog X.w X.K X.mg X.base CX k f fd ps sp) (hs : PySem.W.findIn X.K (.ref C) "__eq__" = some (some (.ref f))) (hf : PySem.W.isFn X.K (.ref f) = true)
    (hn : PySem.W.findIn X.K (.ref C) "__ne__" = some (some (.builtin "object.__ne__"))) (hm : PySem.W.mroIn X.K C (.type "object") = some true)
    (hr : Room (k + 1) X.A) (hb : Binds X.K fd ps []) (hx : Passes CX X E) : OpR X (compareOp .NotEq) (rNeO C sp E) := by
  intro pins s σ H x y v u Q I rx ry h
  obtain ⟨a, b, dx, dy, fs, gs, rfl, rfl, ea, eb, q⟩ := h
  cases rx
  cases ry
  obtain ⟨mA, O, _⟩ := ins_get I.hok ea
  obtain ⟨od, J, _⟩ := O.look
  obtain ⟨mB, O', _⟩ := ins_get I.hok eb
  obtain ⟨od', J', _⟩ := O'.look
  have hu0 : X.A.units < cLine := hr.units0
  have hu1 : X.A.in1.units < cLine := hr.in1.units0
  have ent : wpAny (model X.prog X.w) X.A.in1 (Builtin.«object.__ne__» ⟨[.ref a, .ref b], []⟩) (GQ.FinOf X.prog X.w X.A (wants (fun r s' => ∃ k, r = .bool k ∧ EP X pins σ Q (.bool k) s') X.xe)) (fun e s' => wants (fun r s' => ∃ k, r = .bool k ∧ EP X pins σ Q (.bool k) s') X.xe (.error e) s') s := by
    unfold Builtin.«object.__ne__»
    repeat (first | with_reducible refine wpAny_cRoomFor hu1 ?_ | (with_reducible refine PySem.W.ifBound_K I.kIn J hs hf ?_) | wp_step)
    refine codeAny_mono (run_in1c (vs := [.ref a, .ref b]) Fo hr hb hx I (.cons rfl (.cons rfl .nil)) q) fun r s' hv => ?_
    cases r with
    | error e => exact hv
    | ok fl =>
    cases fl with
    | next => exact False.elim hv
    | brk => exact False.elim hv
    | cont => exact False.elim hv
    | ret u =>
    obtain ⟨v', H', I', rv, r, ev, q'⟩ := hv
    subst ev
    cases rv
    refine wpAny_bind (wpAny_truthy_bool ?_)
    exact wpAny_pure ⟨!r, rfl, .bl (!r), H', I', rfl, q'⟩
  have one : wpAny (model X.prog X.w) X.A (tryCompare (.ref a) "__ne__" (.ref b)) (fun r s' => ∃ k, r = some (.bool k) ∧ EP X pins σ Q (.bool k) s') X.xe s := by
    unfold tryCompare
    refine wpAny_bind (ifBound_objNe I.kIn J hn ?_)
    refine wpAny_mono (wpAny_call (codeAny_call_builtin F.cmp_object.ne.plain F.cmpEntry_ne (PySem.W.check_slot F.cmpKind_ne F.cmpSplit_ne (J.type.andThen (PySem.W.looks_mroIn I.kIn hm)) (F.cmpArgs_ne _ _) ent))) (fun r s' hq => ?_) fun _ _ e => e
    obtain ⟨k, rfl, hq⟩ := hq
    exact wpAny_pure ⟨k, rfl, hq⟩
  show wpAny (model X.prog X.w) X.A (richCompare .NotEq (.ref a) (.ref b)) (EP X pins σ Q) X.xe s
  simp only [richCompare, cmpInfo_NotEq, oneThing_ref]
  refine wpAny_holding (wpAny_bind (wpAny_cRoomFor hu0 ?_))
  refine wpAny_bind (J.type.here (wpAny_bind (J'.type.here ?_)))
  rw [if_neg (by simp)]
  refine wpAny_bind (wpAny_pure ?_)
  simp only [Bool.false_eq_true, if_false]
  refine wpAny_bind (wpAny_mono one (fun r s' z => ?_) fun _ _ e => e)
  obtain ⟨k, rfl, hq⟩ := z
  exact wpAny_pure hq
end
end Rt
end
section
/-! sum(lists, []) and repr of a list of tuples of ints. -/
namespace Rt
open PySem PySem.Spec PyProof.Rows L2

def accF (g : Nat → List Value) : Nat → List Value
  | 0 => []
  | i + 1 => accF g i ++ g i

section
variable {prog : Program} {w : World} {A : Around} {R : Result → Shared → Prop}
theorem sum_loopL {I S ax b0 : Addr} {items : Array Value} {h0 : Heap} {g : Nat → List Value} (hh : A.handled = none) (hax : ax ≠ I) (hSI : S ≠ I) (hSax : S ≠ ax) (h0S : h0.objs.size = S + 1)
    (hrow : ∀ i v, items[i]? = some v → ∃ b c, v = .ref b ∧ b ≠ I ∧ b ≠ S ∧ h0.get? b = some { cls := .type "list", data := .seq (g i).toArray c })
    (hz : ∀ i, i ≤ items.size → (accF g i).length ≤ sizeLine) :
    ∀ (k i : Nat) (s : Shared) (tot : Addr) (c ct : Nat), items.size - i = k → i ≤ items.size → (s.heap.IsListIter I ax i ∧ s.heap.IsList ax items) → (∀ b o, b ≠ I → b ≠ S → h0.get? b = some o → s.heap.get? b = some o) →
      s.heap.get? S = some { cls := .type "list", dict := none, data := .seq #[.ref tot] c, slots := #[] } → tot ≠ I → tot ≠ S → (i = 0 ∧ tot = b0 ∨ 0 < i ∧ h0.objs.size ≤ tot) →
      s.heap.get? tot = some { cls := .type "list", data := .seq (accF g i).toArray ct } →
      (∀ (h' : Heap) (tk : Tok) (p : Addr) (cp : Nat), (∀ b o, b ≠ I → b ≠ S → h0.get? b = some o → h'.get? b = some o) → (items.size = 0 ∧ p = b0 ∨ 0 < items.size ∧ h0.objs.size ≤ p) →
        h'.get? p = some { cls := .type "list", data := .seq (accF g items.size).toArray cp } → R (.ok (.ret (.ref p))) { s with heap := h', toks := tk }) →
      codeAny (model prog w) A (.builtin "sum.loop" ⟨[.ref I, .ref S, rawInt 2, rawInt 0], []⟩) R s := by
  have W := Walks.list (prog := prog) (w := w) (A := A.in1) hh I ax hax items
  intro k
  induction k with
  | zero =>
    intro i s tot c ct hk hi hst hk0 hS ht1 ht2 ht3 htot hR
    have hin : i = items.size := by omega
    subst hin
    refine codeAny_builtin F.entry_sum_loop ?_
    rw [Around.under_plainId F.plain_sum_loop _]
    show wpAny _ A.in1 (seqItems? (.ref S) >>= _) _ _ s
    refine wpAny_bind (wpAny_seqItems hS rfl ?_)
    show wpAny _ A.in1 (tryCatch (pyNext (.ref I)) _ >>= _) _ _ s
    refine wpAny_bind (wpAny_tryCatch (W.done s _ _ hst fun h' tk hk' => ?_))
    have k2 : ∀ b o, b ≠ I → s.heap.get? b = some o → h'.get? b = some o := fun b o hb e => hk' b o (by simpa using hb) e
    exact wpAny_pure (hR h' tk tot ct (fun b o h1 h2 e => k2 b o h1 (hk0 b o h1 h2 e)) ht3 (k2 _ _ ht1 htot))
  | succ k ih =>
    intro i s tot c ct hk hi hst hk0 hS ht1 ht2 ht3 htot hR
    have hlt : i < items.size := by omega
    refine codeAny_builtin F.entry_sum_loop ?_
    rw [Around.under_plainId F.plain_sum_loop _]
    show wpAny _ A.in1 (seqItems? (.ref S) >>= _) _ _ s
    refine wpAny_bind (wpAny_seqItems hS rfl ?_)
    show wpAny _ A.in1 (tryCatch (pyNext (.ref I)) _ >>= _) _ _ s
    refine wpAny_bind (wpAny_tryCatch (W.item i s _ _ hlt hst fun v h' tk hP hst' hk' => ?_))
    have k2 : ∀ b o, b ≠ I → s.heap.get? b = some o → h'.get? b = some o := fun b o hb e => hk' b o (by simpa using hb) e
    obtain ⟨b, cb, rfl, hb1, hb2, hb⟩ := hrow i v hP
    have eb := k2 _ _ hb1 (hk0 _ _ hb1 hb2 hb)
    have et := k2 _ _ ht1 htot
    have eS := k2 _ _ hSI hS
    have hz' := hz (i + 1) hlt
    have lS : S < h'.objs.size := Heap.lt_size eS
    have lI : I < h'.objs.size := by obtain ⟨o, e, _⟩ := hst'.1; exact Heap.lt_size e
    have hsz' : h0.objs.size ≤ h'.objs.size := by rw [h0S]; exact lS
    show wpAny _ A.in1 ((holding [Value.ref b] (binaryOp .Add (.ref tot) (.ref b))).attempt >>= _) _ _ _
    refine wpAny_bind (wpAny_attempt (wpAny_holding (PySem.P.add_list et eb ?_ (by simpa [accF] using hz'))))
    show wpAny _ A.in1 (updateSeq S (fun _ => #[.ref h'.objs.size]) >>= _) _ _ _
    have eS' := Heap.get?_push_of_some { cls := .type "list", data := .seq ((accF g i).toArray ++ (g i).toArray) } eS
    refine wpAny_bind (wpAny_updateSeq eS' rfl ?_)
    have hS2 := Heap.get?_update_self (Obj.mapSeq fun _ => #[Value.ref h'.objs.size]) eS' rfl
    refine wpAny_bind (wpAny_letGo ?_)
    refine wpAny_bind (wpAny_updateSeq hS2 rfl (wpAny_pure ⟨plainId_quiet F.plain_sum_loop _, ih (i + 1) _ h'.objs.size _ 0 (by omega) hlt ?_ ?_ (Heap.get?_update_self _ hS2 rfl) (Nat.ne_of_gt lI) (Nat.ne_of_gt lS) (.inr ⟨Nat.succ_pos _, hsz'⟩) ?_ ?_⟩))
    · refine W.frame _ _ _ hst' fun b hb o e => ?_
      have nb : S ≠ b := by
        rcases List.mem_cons.mp hb with rfl | hb
        · exact hSI
        · rcases List.mem_cons.mp hb with rfl | hb
          · exact hSax
          · cases hb
      exact (Heap.get?_update_other _ _ nb).trans ((Heap.get?_update_other _ _ nb).trans (Heap.get?_push_of_some _ e))
    · intro b o h1 h2 e
      exact (Heap.get?_update_other _ _ (Ne.symm h2)).trans ((Heap.get?_update_other _ _ (Ne.symm h2)).trans (Heap.get?_push_of_some _ (k2 _ _ h1 (hk0 b o h1 h2 e))))
    · have ne : S ≠ h'.objs.size := Nat.ne_of_lt lS
      refine (Heap.get?_update_other _ _ ne).trans ((Heap.get?_update_other _ _ ne).trans ((Heap.get?_push_size _ rfl).trans ?_))
      simp [accF]
    · intro h'' tk'' p cp e1 e2 e3
      exact hR h'' tk'' p cp e1 e2 e3

theorem args_sum2 (a b : Value) : argsOk "sum" ⟨[a, b], []⟩ := by unfold argsOk; kernel_rfl
end

section
variable {prog : Program} {w : World} {A : Around} {E : Value → Shared → Prop} {s : Shared}
theorem sum_lists {l b0 : Addr} {items : Array Value} {g : Nat → List Value} {Q : Value → Shared → Prop} {c0 : Nat} (hh : A.handled = none) (hl : s.heap.IsList l items)
    (hb0 : s.heap.get? b0 = some { cls := .type "list", data := .seq #[] c0 })
    (hrow : ∀ i v, items[i]? = some v → ∃ b c, v = .ref b ∧ s.heap.get? b = some { cls := .type "list", data := .seq (g i).toArray c })
    (hz : ∀ i, i ≤ items.size → (accF g i).length ≤ sizeLine)
    (hQ : ∀ (h' : Heap) (tk : Tok) (p : Addr) (cp : Nat), (∀ b o, s.heap.get? b = some o → h'.get? b = some o) → (items.size = 0 ∧ p = b0 ∨ 0 < items.size ∧ s.heap.objs.size ≤ p) →
        h'.get? p = some { cls := .type "list", data := .seq (accF g items.size).toArray cp } → Q (.ref p) { s with heap := h', toks := tk }) :
    wpAny (model prog w) A (PySem.call (.builtin "sum") [.ref l, .ref b0]) Q E s := by
  refine PySem.call_function_tree F.kind_sum F.plain_sum F.entry_sum (args_sum2 _ _) ?_
  unfold Builtin.«sum»
  simp only [List.length_cons, List.length_nil]
  rw [if_neg (by decide)]
  refine wpAny_bind (wpAny_of_eq (show Builtin.Builtins.bindParams "sum" ["start"] 0 { pos := [.ref b0] } = pure [some (.ref b0)] from rfl) ?_)
  refine wpAny_bind (wpAny_pyIter_list hl ?_)
  refine wpAny_bind (wpAny_pure ?_)
  simp only [List.forIn_cons, List.forIn_nil]
  have tl : ∀ s' : Shared, (∀ b o, s.heap.get? b = some o → s'.heap.get? b = some o) → s'.TypeIs (.ref b0) "list" := fun s' k => ⟨_, k _ _ hb0, rfl⟩
  have k1 : ∀ b o, s.heap.get? b = some o → (s.heap.push { cls := .type "list_iterator", data := .fields #[.ref l, .int 0 0] }).get? b = some o := fun b o e => Heap.get?_push_of_some _ e
  refine wpAny_bind (wpAny_bind (wpAny_bind (wpAny_isInstance (T := "list") (b := false) (tl _ k1) F.sub_list_str ?_)))
  simp only [Bool.false_eq_true, if_false]
  refine wpAny_pure (wpAny_bind (wpAny_bind (wpAny_isInstance (T := "list") (b := false) (tl _ k1) F.sub_list_bytes ?_)))
  simp only [Bool.false_eq_true, if_false]
  refine wpAny_pure (wpAny_bind (wpAny_bind (wpAny_isInstance (T := "list") (b := false) (tl _ k1) F.sub_list_bytearray ?_)))
  simp only [Bool.false_eq_true, if_false]
  refine wpAny_pure (wpAny_pure ?_)
  refine wpAny_bind (wpAny_newObj_type ?_)
  have hlt : l < s.heap.objs.size := by obtain ⟨_, e, _⟩ := hl; exact Heap.lt_size e
  have hbt : b0 < s.heap.objs.size := Heap.lt_size hb0
  have sz1 : (s.heap.push { cls := .type "list_iterator", data := .fields #[.ref l, .int 0 0] }).objs.size = s.heap.objs.size + 1 := Heap.size_push _ _
  refine wpAny_pure ⟨plainId_quiet F.plain_sum_loop _, ?_⟩
  refine sum_loopL (I := s.heap.objs.size) (ax := l) (b0 := b0) (items := items) (g := g) (S := (s.heap.push { cls := .type "list_iterator", data := .fields #[.ref l, .int 0 0] }).objs.size)
    (h0 := (s.heap.push { cls := .type "list_iterator", data := .fields #[.ref l, .int 0 0] }).push { cls := .type "list", data := .seq #[.ref b0] }) hh (Nat.ne_of_lt hlt) (by rw [sz1]; exact Nat.succ_ne_self _) (by rw [sz1]; exact Nat.ne_of_gt (Nat.lt_succ_of_lt hlt)) ?_ ?_ hz
    items.size 0 _ b0 0 c0 (by omega) (Nat.zero_le _) ?_ ?_ ?_ (Nat.ne_of_lt hbt) (by rw [sz1]; exact Nat.ne_of_lt (Nat.lt_succ_of_lt hbt)) (.inl ⟨rfl, rfl⟩) ?_ ?_
  · rw [Heap.size_push]
  · intro i v e
    obtain ⟨b, c, rfl, hb⟩ := hrow i v e
    have lb := Heap.lt_size hb
    exact ⟨b, c, rfl, Nat.ne_of_lt lb, by rw [sz1]; exact Nat.ne_of_lt (Nat.lt_succ_of_lt lb), Heap.get?_push_of_some _ (k1 _ _ hb)⟩
  · exact ⟨⟨_, Heap.get?_push_of_some _ (Heap.get?_push_size _ rfl), rfl, rfl⟩, (hl.push _).push _⟩
  · exact fun b o _ _ e => e
  · have e := Heap.get?_push_size (s.heap.push { cls := .type "list_iterator", data := .fields #[.ref l, .int 0 0] }) (o := { cls := .type "list", data := .seq #[.ref b0] }) rfl
    exact e
  · exact Heap.get?_push_of_some _ (k1 _ _ hb0)
  · intro h' tk p cp hk hp hg
    refine hQ h' tk p cp (fun b o e => hk b o (Nat.ne_of_lt (Heap.lt_size e)) (by rw [sz1]; exact Nat.ne_of_lt (Nat.lt_succ_of_lt (Heap.lt_size e))) (Heap.get?_push_of_some _ (k1 _ _ e))) (hp.imp id fun ⟨h1, h2⟩ => ⟨h1, ?_⟩) hg
    rw [Heap.size_push, sz1] at h2
    exact Nat.le_trans (Nat.le_succ_of_le (Nat.le_succ _)) h2
end

section
variable {X : Cx}
theorem accF_len (g : Nat → List Value) : ∀ {i j : Nat}, i ≤ j → (accF g i).length ≤ (accF g j).length
  | i, j, h => by
    induction j with
    | zero => have : i = 0 := by omega
              subst this; exact Nat.le_refl _
    | succ j ih =>
      by_cases e : i = j + 1
      · subst e; exact Nat.le_refl _
      · have := ih (by omega)
        show _ ≤ (accF g j ++ g j).length
        rw [List.length_append]; omega
/-- sum([l1, l2, ..], []): the lists behind one another -/
def rSumL (K : PySem.W.Frag) : List V → Hp → VK → Prop := fun vs H Q => ∃ (a b0 : Addr) (rs : List (Addr × List V)), vs = [V.ref a, V.ref b0] ∧ SqL K H a (rs.map fun r => V.ref r.1) ∧ (∀ r ∈ rs, H r.1 = some (.lst r.2)) ∧ H b0 = some (.lst []) ∧
  ((rs.map (·.2)).flatten).length ≤ sizeLine ∧ (rs = [] → Q (.ref b0) H) ∧ ∀ p, H p = none → Q (.ref p) (upd H p (.lst (rs.map (·.2)).flatten))
theorem accF_vals {rs : List (List V)} {g : Nat → List Value} (h : ∀ i xs, rs[i]? = some xs → Vals xs (g i)) : ∀ i, i ≤ rs.length → Vals (rs.take i).flatten (accF g i)
  | 0, _ => by rw [List.take_zero]; exact .nil
  | i + 1, hi => by
    have e : rs[i]? = some rs[i] := List.getElem?_eq_getElem hi
    rw [List.take_succ, e, List.flatten_append]
    simp only [Option.toList_some, List.flatten_cons, List.flatten_nil, List.append_nil]
    exact (accF_vals h i (by omega)).append (h i _ e)
theorem cr_sumL (hc : X.calm = true) : CallR X (.builtin "sum") (rSumL X.K) := by
  intro pins s σ H vs us Q I r h
  obtain ⟨a, b0, rs, rfl, hs, hrs, hb, hz, q0, q1⟩ := h
  obtain ⟨u1, u2, rfl, r1, r2⟩ := vals2 r
  cases r1
  cases r2
  obtain ⟨its, rv, hl, _⟩ := I.list hs
  obtain ⟨_, itsb, cb, rb, lb, eb⟩ := I.lstM hb
  have eb0 : itsb = [] := by
    cases itsb with
    | nil => rfl
    | cons _ _ => simp at lb
  subst eb0
  have hrow : ∀ i : Nat, ∃ it : List Value, ∀ x : Addr × List V, rs[i]? = some x → Vals x.2 it ∧ ∃ c, s.heap.get? x.1 = some { cls := .type "list", data := .seq it.toArray c } := fun i => by
    cases e : rs[i]? with
    | none => exact ⟨[], fun x h => by cases h⟩
    | some x =>
      obtain ⟨_, it, c, r', _, e'⟩ := I.lstM (hrs x (List.mem_of_getElem? e))
      exact ⟨it, fun y h => by cases h; exact ⟨r', c, e'⟩⟩
  have hg : ∃ g : Nat → List Value, ∀ (i : Nat) (x : Addr × List V), rs[i]? = some x → Vals x.2 (g i) ∧ ∃ c, s.heap.get? x.1 = some { cls := .type "list", data := .seq (g i).toArray c } := ⟨fun i => Classical.choose (hrow i), fun i => Classical.choose_spec (hrow i)⟩
  obtain ⟨g, hg⟩ := hg
  have hlen : its.length = rs.length := by rw [← rv.length, List.length_map]
  have av := accF_vals (rs := rs.map (·.2)) (g := g) (fun i xs e => by
    rw [List.getElem?_map] at e
    cases e2 : rs[i]? with
    | none => rw [e2] at e; cases e
    | some x => rw [e2] at e; cases e; exact (hg i x e2).1)
  have avn := av rs.length (by simp)
  rw [List.take_of_length_le (by simp)] at avn
  refine sum_lists (g := g) (c0 := cb) (I.ok.hd hc) hl.isList eb ?_ ?_ ?_
  · intro i v e
    rw [List.getElem?_toArray] at e
    have hi : i < rs.length := by
      have := (List.getElem?_eq_some_iff.mp e).1
      omega
    obtain ⟨w, hw, rw'⟩ := rv.get (show (rs.map fun r => V.ref r.1)[i]? = some (V.ref (rs[i]).1) by rw [List.getElem?_map, List.getElem?_eq_getElem hi]; rfl)
    rw [e] at hw
    cases hw
    cases rw'
    obtain ⟨_, c, e'⟩ := hg i _ (List.getElem?_eq_getElem hi)
    exact ⟨_, c, rfl, e'⟩
  · intro i hi
    rw [List.size_toArray, hlen] at hi
    refine Nat.le_trans (accF_len g hi) ?_
    rw [← avn.length]
    exact hz
  · intro h' tk p cp hk hp hg'
    rw [List.size_toArray, hlen] at hp hg'
    rcases hp with ⟨h0, rfl⟩ | ⟨h0, h1⟩
    · exact ⟨.ref _, H, I.kept hk, rfl, q0 (List.eq_nil_of_length_eq_zero h0)⟩
    · exact ⟨.ref p, _, I.laid (o := .lst (rs.map (·.2)).flatten) hk h1 ⟨hz, _, cp, avn, hg'⟩, rfl, q1 p (I.hok.fresh h1)⟩
end
end Rt
end
section
/-! repr of a list of pairs of small ints; a law's end where the guards are known. -/
namespace Rt
open PySem PySem.Spec PyProof.Rows L2

/-- pairs of ints as data -/
def prData (ps : List (Int × Int)) : PyData := .list (ps.map fun p => .tuple [.int p.1, .int p.2])
def prText (ps : List (Int × Int)) : Str := (prData ps).shown
def SmallP (ps : List (Int × Int)) : Prop := ps.length ≤ 100000 ∧ ∀ p ∈ ps, p.1.natAbs < 10 ^ 9 ∧ p.2.natAbs < 10 ^ 9
theorem log_small {i : Int} (h : i.natAbs < 10 ^ 9) : i.natAbs.log2 < 1920 := by
  apply log2_small
  exact Nat.lt_of_lt_of_le h (Nat.le_trans (by decide : 10 ^ 9 ≤ 2 ^ 30) (Nat.pow_le_pow_right (by decide) (by decide)))
theorem pr_showable {ps : List (Int × Int)} (h : SmallP ps) : (prData ps).showable = true := by
  show PyData.showableAll _ = true
  refine PySem.Spec.showableAll_of fun x hx => ?_
  obtain ⟨p, hp, rfl⟩ := List.mem_map.mp hx
  obtain ⟨h1, h2⟩ := h.2 p hp
  simp [PyData.showable, PyData.showableAll, log_small h1, log_small h2]
theorem pr_noDict (ps : List (Int × Int)) : (prData ps).hasDict = false := by
  show PyData.hasDictAll _ = false
  induction ps with
  | nil => simp [PyData.hasDictAll]
  | cons p ps ih => simpa [PyData.hasDictAll, PyData.hasDict] using ih
theorem pr_leaves {ps : List (Int × Int)} (h : ∀ p ∈ ps, p.1.natAbs < 10 ^ 9 ∧ p.2.natAbs < 10 ^ 9) : (prData ps).leavesShort 13 = true := by
  show PyData.leavesShortAll 13 _ = true
  induction ps with
  | nil => simp [PyData.leavesShortAll]
  | cons p ps ih =>
    obtain ⟨h1, h2⟩ := h p List.mem_cons_self
    have e1 := PyData.shown_int_le (i := p.1) (Nat.lt_trans h1 (by decide))
    have e2 := PyData.shown_int_le (i := p.2) (Nat.lt_trans h2 (by decide))
    have ih' := ih fun q hq => h q (List.mem_cons_of_mem _ hq)
    simp [PyData.leavesShortAll, PyData.leavesShort, e1, e2, ih']
theorem pr_bulk (ps : List (Int × Int)) : (prData ps).bulk = 3 * ps.length := by
  show PyData.bulkAll _ = _
  induction ps with
  | nil => simp [PyData.bulkAll]
  | cons p ps ih =>
    simp only [List.map_cons, PyData.bulkAll, PyData.bulk, List.length_cons]
    rw [ih]
    omega
theorem pr_depth (ps : List (Int × Int)) : (prData ps).depth ≤ 4 := by
  have : PyData.depthAll (ps.map fun p => PyData.tuple [.int p.1, .int p.2]) ≤ 3 := by
    induction ps with
    | nil => simp [PyData.depthAll]
    | cons p ps ih =>
      simp only [List.map_cons, PyData.depthAll, PyData.depth]
      omega
  show PyData.depth (.list _) ≤ 4
  simp only [PyData.depth]
  omega
theorem pr_fits {ps : List (Int × Int)} (h : SmallP ps) : (prData ps).shown.length ≤ sizeLine :=
  PyData.shown_fits_bulk (B := 13) (by decide) (by decide) (pr_leaves h.2) (by rw [pr_bulk]; have := h.1; omega)

section
variable {X : Cx}
theorem reads_pair {K : PySem.W.Frag} {P : Program} {w : World} {H : Hp} {h : Heap} {a : Addr} {i j : Int} (ok : HOk P w H h) (e : H a = some (.tup [.int i, .int j])) : Reads h (.ref a) (.tuple [.int i, .int j]) [] := by
  obtain ⟨_, its, rv, o, ho, hc, n, hd⟩ := ok a _ e
  obtain ⟨t, u, rfl⟩ := rv.int2
  exact .tuple ho hc hd (.cons (as := []) (bs := []) (.int _ _) (.cons (as := []) (bs := []) (.int _ _) .nil))
theorem reads_pairs {P : Program} {w : World} {H : Hp} {h : Heap} (ok : HOk P w H h) : ∀ {qs : List (Addr × Int × Int)} {its : List Value}, Vals (qs.map fun q => V.ref q.1) its → (∀ q ∈ qs, H q.1 = some (.tup [.int q.2.1, .int q.2.2])) →
    ReadsAll h its (qs.map fun q => .tuple [.int q.2.1, .int q.2.2]) []
  | [], _, .nil, _ => .nil
  | q :: qs, _, .cons r t, h' => by
    cases r
    exact .cons (as := []) (bs := []) (reads_pair (K := default) ok (h' q List.mem_cons_self)) (reads_pairs ok t fun y hy => h' y (List.mem_cons_of_mem _ hy))

/-- repr of a list of pairs of ints -/
def rReprP (K : PySem.W.Frag) : List V → Hp → VK → Prop := fun vs H Q => ∃ (a : Addr) (qs : List (Addr × Int × Int)), vs = [V.ref a] ∧ H a = some (.lst (qs.map fun q => V.ref q.1)) ∧ (∀ q ∈ qs, H q.1 = some (.tup [.int q.2.1, .int q.2.2])) ∧
  SmallP (qs.map (·.2)) ∧ Q (.str (prText (qs.map (·.2)))) H
theorem cr_reprP (hg : X.A.guards = some []) (hu : X.A.units + 5 < cLine) : CallR X (.builtin "repr") (rReprP X.K) := by
  intro pins s σ H vs us Q I r h
  obtain ⟨a, qs, rfl, ha, hq, hs, q⟩ := h
  rw [Vals.ref1 r]
  obtain ⟨_, its, n, rv, _, e⟩ := I.lstM ha
  have rd : Reads s.heap (.ref a) (prData (qs.map (·.2))) [a] := by
    have := reads_pairs I.hok rv hq
    refine .list (as := []) e rfl rfl ?_
    rw [List.map_map]
    exact this
  have hd := pr_depth (qs.map (·.2))
  exact repr_of_reads' rd (pr_showable hs) (PyData.noDict_hsm (pr_noDict _)) hg (by omega) (fun _ _ e => e) (fun h' u tk hk => ⟨.str _, H, I.kept hk, ⟨_, rfl⟩, q⟩) (pr_fits hs)
end
end Rt
end
section
/-! The mirror: rows of told classes as lists of Nat, the search, its rows of writes; plain mathematics, no program in sight. -/
namespace Rt.M

def tg (t : List Nat) (i : Nat) : Nat := t.getD (i - 1) 0
def gr (t : List Nat) (i : Nat) : Nat := max (tg t (2 * i)) (tg t (2 * i + 1))
def st (t : List Nat) (i v : Nat) : List Nat := t.set (i - 1) v
def wr (t : List Nat) (ws : List (Nat × Nat)) : List Nat := ws.foldl (fun t p => st t p.1 p.2) t

theorem len_st (t : List Nat) (i v : Nat) : (st t i v).length = t.length := by simp [st]
theorem tg_same {t : List Nat} {i v : Nat} (h1 : 1 ≤ i) (h2 : i ≤ t.length) : tg (st t i v) i = v := by
  unfold tg st
  rw [List.getD_eq_getElem?_getD, List.getElem?_set]
  have h : i - 1 < t.length := by omega
  simp [h]
theorem tg_ne {t : List Nat} {i j v : Nat} (h1 : 1 ≤ i) (h2 : 1 ≤ j) (h : i ≠ j) : tg (st t i v) j = tg t j := by
  unfold tg st
  have h' : i - 1 ≠ j - 1 := by omega
  rw [List.getD_eq_getElem?_getD, List.getElem?_set, if_neg h', List.getD_eq_getElem?_getD]
theorem wr_nil (t : List Nat) : wr t [] = t := rfl
theorem wr_cons (t : List Nat) (p : Nat × Nat) (ws : List (Nat × Nat)) : wr t (p :: ws) = wr (st t p.1 p.2) ws := rfl
theorem wr_append (t : List Nat) (a b : List (Nat × Nat)) : wr t (a ++ b) = wr (wr t a) b := by simp [wr]
theorem len_wr (ws : List (Nat × Nat)) : ∀ t : List Nat, (wr t ws).length = t.length := by
  induction ws with
  | nil => intro t; rfl
  | cons p ws ih => intro t; rw [wr_cons, ih, len_st]

/-- all values at most c -/
def AllLe (c : Nat) (t : List Nat) : Prop := ∀ x ∈ t, x ≤ c
theorem AllLe.tg {c : Nat} {t : List Nat} (h : AllLe c t) (i : Nat) : tg t i ≤ c := by
  unfold M.tg
  rw [List.getD_eq_getElem?_getD]
  cases e : t[i - 1]? with
  | none => simp
  | some x => simpa using h x (List.mem_of_getElem? e)
theorem AllLe.gr {c : Nat} {t : List Nat} (h : AllLe c t) (i : Nat) : gr t i ≤ c := Nat.max_le.mpr ⟨h.tg _, h.tg _⟩
theorem AllLe.st {c : Nat} {t : List Nat} (h : AllLe c t) {i v : Nat} (hv : v ≤ c) : AllLe c (st t i v) := fun x hx => by
  rcases List.mem_or_eq_of_mem_set hx with e | e
  · exact h x e
  · subst e; exact hv

def ups (t : List Nat) (n : Nat) : List (Nat × Nat) :=
  if h : n = 0 then [] else if gr t n < tg t n then (n, gr t n) :: ups (st t n (gr t n)) (n / 2) else ups t (n / 2)
termination_by n
decreasing_by all_goals omega
theorem ups_zero (t : List Nat) : ups t 0 = [] := by rw [ups]; simp
theorem ups_yes {t : List Nat} {n : Nat} (h : 0 < n) (h2 : gr t n < tg t n) : ups t n = (n, gr t n) :: ups (st t n (gr t n)) (n / 2) := by
  rw [ups, dif_neg (by omega), if_pos h2]
theorem ups_no {t : List Nat} {n : Nat} (h : 0 < n) (h2 : ¬ gr t n < tg t n) : ups t n = ups t (n / 2) := by
  rw [ups, dif_neg (by omega), if_neg h2]
def low (t : List Nat) (n v : Nat) : List (Nat × Nat) := if tg t n ≤ v then [] else (n, v) :: ups (st t n v) (n / 2)

/-- each write lowers -/
def falls : List Nat → List (Nat × Nat) → Prop
  | _, [] => True
  | t, p :: ws => p.2 < tg t p.1 ∧ falls (st t p.1 p.2) ws
theorem falls_append (a b : List (Nat × Nat)) : ∀ t : List Nat, falls t a → falls (wr t a) b → falls t (a ++ b) := by
  induction a with
  | nil => intro t _ h; exact h
  | cons p a ih => intro t h1 h2; exact ⟨h1.1, ih _ h1.2 h2⟩
/-- nodes in 1 .. L, values at most c -/
def OkW (L c : Nat) (ws : List (Nat × Nat)) : Prop := ∀ p ∈ ws, 1 ≤ p.1 ∧ p.1 ≤ L ∧ p.2 ≤ c
theorem OkW.nil {L c : Nat} : OkW L c [] := fun p h => by cases h
theorem OkW.cons {L c : Nat} {p : Nat × Nat} {ws : List (Nat × Nat)} (h : 1 ≤ p.1 ∧ p.1 ≤ L ∧ p.2 ≤ c) (h' : OkW L c ws) : OkW L c (p :: ws) := fun q hq => by
  rcases List.mem_cons.mp hq with e | e
  · subst e; exact h
  · exact h' q e
theorem OkW.append {L c : Nat} {a b : List (Nat × Nat)} (h : OkW L c a) (h' : OkW L c b) : OkW L c (a ++ b) := fun q hq => by
  rcases List.mem_append.mp hq with e | e
  · exact h q e
  · exact h' q e
theorem OkW.reverse {L c : Nat} {a : List (Nat × Nat)} (h : OkW L c a) : OkW L c a.reverse := fun q hq => h q (List.mem_reverse.mp hq)
theorem AllLe.wr {c L : Nat} {ws : List (Nat × Nat)} : ∀ {t : List Nat}, AllLe c t → OkW L c ws → AllLe c (wr t ws) := by
  induction ws with
  | nil => intro t h _; exact h
  | cons p ws ih => intro t h h'; exact ih (h.st (h' p List.mem_cons_self).2.2) fun q hq => h' q (List.mem_cons_of_mem _ hq)

/-- what the ups are -/
theorem ups_spec (c : Nat) : ∀ (n : Nat) (t : List Nat), AllLe c t → n ≤ t.length → falls t (ups t n) ∧ OkW t.length c (ups t n) ∧ (∀ p ∈ ups t n, p.1 ≤ n) ∧ (ups t n).Pairwise (fun p q => p.1 ≠ q.1) := by
  intro n
  induction n using Nat.strongRecOn with
  | ind n ih =>
    intro t ht hn
    by_cases h0 : n = 0
    · subst h0; rw [ups_zero]; exact ⟨trivial, .nil, (fun p h => by cases h), .nil⟩
    · by_cases h : gr t n < tg t n
      · rw [ups_yes (by omega) h]
        obtain ⟨i1, i2, i3, i4⟩ := ih (n / 2) (by omega) (st t n (gr t n)) (ht.st (ht.gr n)) (by rw [len_st]; omega)
        rw [len_st] at i2
        refine ⟨⟨h, i1⟩, .cons ⟨by omega, hn, ht.gr n⟩ i2, fun p hp => ?_, List.Pairwise.cons (fun q hq => ?_) i4⟩
        · rcases List.mem_cons.mp hp with e | e
          · subst e; exact Nat.le_refl _
          · have := i3 p e; omega
        · have := i3 q hq
          show n ≠ q.1
          omega
      · rw [ups_no (by omega) h]
        obtain ⟨i1, i2, i3, i4⟩ := ih (n / 2) (by omega) t ht (by omega)
        exact ⟨i1, i2, fun p hp => by have := i3 p hp; omega, i4⟩
theorem low_spec {c n v : Nat} {t : List Nat} (ht : AllLe c t) (h1 : 1 ≤ n) (hn : n ≤ t.length) (hv : v ≤ c) : falls t (low t n v) ∧ OkW t.length c (low t n v) ∧ (low t n v).Pairwise (fun p q => p.1 ≠ q.1) := by
  unfold low
  split
  · exact ⟨trivial, .nil, .nil⟩
  · rename_i h
    obtain ⟨i1, i2, i3, i4⟩ := ups_spec c (n / 2) (st t n v) (ht.st hv) (by rw [len_st]; omega)
    rw [len_st] at i2
    refine ⟨⟨by show v < tg t n; omega, i1⟩, .cons ⟨h1, hn, hv⟩ i2, List.Pairwise.cons (fun q hq => ?_) i4⟩
    have := i3 q hq
    show n ≠ q.1
    omega

/-! ### the order of the writes of one row -/
theorem st_comm {t : List Nat} {i j v w : Nat} (h1 : 1 ≤ i) (h2 : 1 ≤ j) (h : i ≠ j) : st (st t i v) j w = st (st t j w) i v := by
  unfold st
  exact List.set_comm _ _ (by omega)
theorem wr_st {ws : List (Nat × Nat)} : ∀ {t : List Nat} {i v : Nat}, 1 ≤ i → (∀ p ∈ ws, 1 ≤ p.1 ∧ i ≠ p.1) → wr (st t i v) ws = st (wr t ws) i v := by
  induction ws with
  | nil => intro t i v _ _; rfl
  | cons p ws ih =>
    intro t i v h1 h
    obtain ⟨h2, h3⟩ := h p List.mem_cons_self
    rw [wr_cons, st_comm h1 h2 h3, ih h1 fun q hq => h q (List.mem_cons_of_mem _ hq)]
    rfl
theorem wr_reverse {ws : List (Nat × Nat)} : ∀ {t : List Nat}, (∀ p ∈ ws, 1 ≤ p.1) → ws.Pairwise (fun p q => p.1 ≠ q.1) → wr t ws.reverse = wr t ws := by
  induction ws with
  | nil => intro t _ _; rfl
  | cons p ws ih =>
    intro t h1 h
    cases h with
    | cons h2 h3 =>
      have hp := h1 p List.mem_cons_self
      have ht : ∀ q ∈ ws, 1 ≤ q.1 := fun q hq => h1 q (List.mem_cons_of_mem _ hq)
      rw [List.reverse_cons, wr_append, ih ht h3, wr_cons t p ws, wr_st hp fun q hq => ⟨ht q hq, h2 q hq⟩]
      rfl

/-! ### the search -/
inductive Ev where
  | node (n : Nat)
  | look (p : Nat)
  | found (p : Nat)
  | lower (n v : Nat)
  | nothing
section
variable (nd P sz : Nat) (rooms : List Nat) (cls : Nat → Nat)
abbrev Out := List (List (Nat × Nat)) × List Nat
def play : Nat → List Nat → Nat → Option Out
  | 0, _, _ => none
  | f + 1, t, n =>
    if n = 1 ∧ tg t 1 < nd then some ([], t)
    else if n < P then
      if nd ≤ tg t (2 * n) then play f t (2 * n)
      else if nd ≤ tg t (2 * n + 1) then play f t (2 * n + 1)
      else (play f (wr t (low t n (gr t n))) 1).map fun r => (low t n (gr t n) :: r.1, r.2)
    else if sz ≤ rooms.getD (n - P) 0 then some ([], t)
    else (play f (wr t (low t n (cls (rooms.getD (n - P) 0)))) 1).map fun r => (low t n (cls (rooms.getD (n - P) 0)) :: r.1, r.2)
def trace : Nat → List Nat → Nat → List (Ev × List Nat)
  | 0, _, _ => []
  | f + 1, t, n =>
    if n = 1 ∧ tg t 1 < nd then [(.nothing, t)]
    else (.node n, t) :: (if n < P then
      if nd ≤ tg t (2 * n) then trace f t (2 * n)
      else if nd ≤ tg t (2 * n + 1) then trace f t (2 * n + 1)
      else (.lower n (gr t n), wr t (low t n (gr t n))) :: trace f (wr t (low t n (gr t n))) 1
    else (.look (n - P), t) :: (if sz ≤ rooms.getD (n - P) 0 then [(.found (n - P), t)]
      else (.lower n (cls (rooms.getD (n - P) 0)), wr t (low t n (cls (rooms.getD (n - P) 0)))) :: trace f (wr t (low t n (cls (rooms.getD (n - P) 0)))) 1))
end

/-- what search_row does with an event: the row so far and the tree before -/
def eat (above : Bool) (s : List (Nat × Nat) × List Nat) (e : Ev × List Nat) : List (Nat × Nat) × List Nat :=
  match e.1 with
  | .lower n v => (s.1 ++ (if above then (low s.2 n v).reverse else low s.2 n v), e.2)
  | _ => (s.1, e.2)
def flat (above : Bool) (R : List (List (Nat × Nat))) : List (Nat × Nat) := (R.map fun r => if above then r.reverse else r).flatten
theorem flat_cons (above : Bool) (r : List (Nat × Nat)) (R : List (List (Nat × Nat))) : flat above (r :: R) = (if above then r.reverse else r) ++ flat above R := by simp [flat]
theorem flat_nil (above : Bool) : flat above [] = [] := rfl
theorem flat_false (R : List (List (Nat × Nat))) : flat false R = R.flatten := by simp [flat]
theorem flat_true (R : List (List (Nat × Nat))) : flat true R = (R.map List.reverse).flatten := by simp [flat]

section
variable {nd P sz : Nat} {rooms : List Nat} {cls : Nat → Nat} {c : Nat}
theorem eat_trace (above : Bool) : ∀ (f : Nat) (t : List Nat) (n : Nat) (R : List (List (Nat × Nat))) (T : List Nat) (row : List (Nat × Nat)) (now : List Nat), play nd P sz rooms cls f t n = some (R, T) →
    (trace nd P sz rooms cls f t n).foldl (eat above) (row, now) = (row ++ flat above R, T) := by
  intro f
  induction f with
  | zero => intro t n R T row now h; cases h
  | succ f ih =>
    intro t n R T row now h
    unfold play at h
    unfold trace
    by_cases h1 : n = 1 ∧ tg t 1 < nd
    · rw [if_pos h1] at h ⊢
      cases h
      simp [eat, flat_nil]
    · rw [if_neg h1] at h ⊢
      by_cases h2 : n < P
      · rw [if_pos h2] at h ⊢
        by_cases h3 : nd ≤ tg t (2 * n)
        · rw [if_pos h3] at h ⊢
          rw [List.foldl_cons]
          exact ih _ _ _ _ _ _ h
        · rw [if_neg h3] at h ⊢
          by_cases h4 : nd ≤ tg t (2 * n + 1)
          · rw [if_pos h4] at h ⊢
            rw [List.foldl_cons]
            exact ih _ _ _ _ _ _ h
          · rw [if_neg h4] at h ⊢
            rw [List.foldl_cons, List.foldl_cons]
            cases e : play nd P sz rooms cls f (wr t (low t n (gr t n))) 1 with
            | none => rw [e] at h; cases h
            | some r =>
              rw [e] at h
              cases h
              rw [ih _ _ _ _ _ _ e, flat_cons]
              simp [eat]
      · rw [if_neg h2] at h ⊢
        by_cases h3 : sz ≤ rooms.getD (n - P) 0
        · rw [if_pos h3] at h ⊢
          cases h
          simp [eat, flat_nil]
        · rw [if_neg h3] at h ⊢
          rw [List.foldl_cons, List.foldl_cons, List.foldl_cons]
          cases e : play nd P sz rooms cls f (wr t (low t n (cls (rooms.getD (n - P) 0)))) 1 with
          | none => rw [e] at h; cases h
          | some r =>
            rw [e] at h
            cases h
            rw [ih _ _ _ _ _ _ e, flat_cons]
            simp [eat]
theorem eat_snd (above : Bool) (es : List (Ev × List Nat)) : ∀ s : List (Nat × Nat) × List Nat, (es.foldl (eat above) s).2 = (es.map (·.2)).getLastD s.2 := by
  induction es with
  | nil => intro s; rfl
  | cons e es ih =>
    intro s
    rw [List.foldl_cons, ih, List.map_cons]
    have : (eat above s e).2 = e.2 := by
      unfold eat
      split <;> rfl
    rw [this]
    cases es with
    | nil => rfl
    | cons x es => simp [List.getLastD]
theorem trace_ne (f : Nat) (t : List Nat) (n : Nat) : trace nd P sz rooms cls (f + 1) t n ≠ [] := by
  unfold trace
  split <;> simp

/-- the whole of a played search -/
theorem play_spec : ∀ (f : Nat) (t : List Nat) (n : Nat) (R : List (List (Nat × Nat))) (T : List Nat), play nd P sz rooms cls f t n = some (R, T) → AllLe c t → t.length + 1 = 2 * P → 1 ≤ n → n < 2 * P → (∀ x, cls x ≤ c) →
    T = wr t (flat false R) ∧ T = wr t (flat true R) ∧ OkW t.length c (flat false R) ∧ OkW t.length c (flat true R) ∧ falls t (flat false R) := by
  intro f
  induction f with
  | zero => intro t n R T h; cases h
  | succ f ih =>
    intro t n R T h ht hl hn1 hn2 hc
    have lower : ∀ v, v ≤ c → ((play nd P sz rooms cls f (wr t (low t n v)) 1).map fun r => (low t n v :: r.1, r.2)) = some (R, T) →
        T = wr t (flat false R) ∧ T = wr t (flat true R) ∧ OkW t.length c (flat false R) ∧ OkW t.length c (flat true R) ∧ falls t (flat false R) := by
      intro v hv h
      cases e : play nd P sz rooms cls f (wr t (low t n v)) 1 with
      | none => rw [e] at h; cases h
      | some r =>
        rw [e] at h
        cases h
        obtain ⟨s1, s2, s3⟩ := low_spec ht hn1 (by omega) hv
        have hp : ∀ p ∈ low t n v, 1 ≤ p.1 := fun p hp => (s2 p hp).1
        obtain ⟨i1, i2, i3, i4, i5⟩ := ih _ _ _ _ e (ht.wr s2) (by rw [len_wr]; exact hl) (Nat.le_refl _) (by omega) hc
        rw [len_wr] at i3 i4
        simp only [flat_cons, if_true, Bool.false_eq_true, if_false]
        refine ⟨?_, ?_, s2.append i3, s2.reverse.append i4, falls_append _ _ _ s1 i5⟩
        · rw [wr_append]; exact i1
        · rw [wr_append, wr_reverse hp s3]; exact i2
    unfold play at h
    by_cases h1 : n = 1 ∧ tg t 1 < nd
    · rw [if_pos h1] at h
      cases h
      exact ⟨rfl, rfl, .nil, .nil, trivial⟩
    · rw [if_neg h1] at h
      by_cases h2 : n < P
      · rw [if_pos h2] at h
        by_cases h3 : nd ≤ tg t (2 * n)
        · rw [if_pos h3] at h
          exact ih _ _ _ _ h ht hl (by omega) (by omega) hc
        · rw [if_neg h3] at h
          by_cases h4 : nd ≤ tg t (2 * n + 1)
          · rw [if_pos h4] at h
            exact ih _ _ _ _ h ht hl (by omega) (by omega) hc
          · rw [if_neg h4] at h
            exact lower _ (ht.gr n) h
      · rw [if_neg h2] at h
        by_cases h3 : sz ≤ rooms.getD (n - P) 0
        · rw [if_pos h3] at h
          cases h
          exact ⟨rfl, rfl, .nil, .nil, trivial⟩
        · rw [if_neg h3] at h
          exact lower _ (hc _) h

/-! ### the search ends -/
def cnt (nd : Nat) (t : List Nat) : Nat := t.countP (fun x => decide (nd ≤ x))
theorem cnt_le {nd : Nat} (t : List Nat) : cnt nd t ≤ t.length := List.countP_le_length
theorem cnt_set : ∀ (t : List Nat) (j v : Nat), v ≤ t.getD j 0 → cnt nd (t.set j v) ≤ cnt nd t ∧ (nd ≤ t.getD j 0 → v < nd → j < t.length → cnt nd (t.set j v) + 1 ≤ cnt nd t) := by
  intro t
  induction t with
  | nil => intro j v _; exact ⟨Nat.le_refl _, fun _ _ h => by simp at h⟩
  | cons x t ih =>
    intro j v h
    cases j with
    | zero =>
      simp only [List.set_cons_zero, List.getD_cons_zero] at h ⊢
      simp only [cnt, List.countP_cons]
      refine ⟨?_, fun h1 h2 _ => ?_⟩
      · by_cases a : nd ≤ v
        · have b : nd ≤ x := by omega
          simp [a, b]
        · simp [a]
      · have a : ¬ nd ≤ v := by omega
        simp [a, h1]
    | succ j =>
      simp only [List.set_cons_succ, List.getD_cons_succ, List.length_cons] at h ⊢
      obtain ⟨i1, i2⟩ := ih j v h
      simp only [cnt, List.countP_cons] at i1 i2 ⊢
      exact ⟨by omega, fun a b d => by have := i2 a b (by omega); omega⟩
theorem cnt_falls (ws : List (Nat × Nat)) : ∀ t : List Nat, falls t ws → cnt nd (wr t ws) ≤ cnt nd t := by
  induction ws with
  | nil => intro t _; exact Nat.le_refl _
  | cons p ws ih =>
    intro t h
    rw [wr_cons]
    exact Nat.le_trans (ih _ h.2) (cnt_set t (p.1 - 1) p.2 (Nat.le_of_lt h.1)).1
theorem cnt_low {t : List Nat} {n v : Nat} (ht : AllLe c t) (h1 : 1 ≤ n) (hn : n ≤ t.length) (hv : v ≤ c) (hnd : nd ≤ tg t n) (hlt : v < nd) : cnt nd (wr t (low t n v)) + 1 ≤ cnt nd t := by
  have hs := (low_spec ht h1 hn hv).1
  unfold low at hs ⊢
  rw [if_neg (by omega)] at hs ⊢
  rw [wr_cons]
  have a := cnt_falls (nd := nd) _ _ hs.2
  have b := (cnt_set (nd := nd) t (n - 1) v (by have : v ≤ tg t n := by omega
                                                exact this)).2 hnd hlt (by omega)
  exact Nat.le_trans (Nat.succ_le_succ a) b
theorem play_ends : ∀ (f : Nat) (t : List Nat) (n d : Nat), AllLe c t → t.length + 1 = 2 * P → P ≤ 32 → 1 ≤ n → n < 2 * P → (∀ x, cls x ≤ c) → (∀ x, x < sz → cls x < nd) → nd ≤ tg t n ∨ n = 1 → 2 ^ d ≤ n → 6 * cnt nd t + 7 ≤ f + d →
    ∃ R T, play nd P sz rooms cls f t n = some (R, T) := by
  intro f
  induction f with
  | zero =>
    intro t n d ht hl hP h1 h2 hc hcl hn hd hf
    exfalso
    have : d < 6 := by
      apply Classical.byContradiction
      intro h
      have : 2 ^ 6 ≤ 2 ^ d := Nat.pow_le_pow_right (by decide) (by omega)
      omega
    omega
  | succ f ih =>
    intro t n d ht hl hP h1 h2 hc hcl hn hd hf
    have hd6 : d < 6 := by
      apply Classical.byContradiction
      intro h
      have : 2 ^ 6 ≤ 2 ^ d := Nat.pow_le_pow_right (by decide) (by omega)
      omega
    have lower : ∀ v, v ≤ c → v < nd → nd ≤ tg t n → ∃ R T, ((play nd P sz rooms cls f (wr t (low t n v)) 1).map fun r => (low t n v :: r.1, r.2)) = some (R, T) := by
      intro v hv hlt hnd
      obtain ⟨s1, s2, s3⟩ := low_spec ht h1 (by omega) hv
      have hcn := cnt_low (nd := nd) ht h1 (by omega) hv hnd hlt
      obtain ⟨R, T, e⟩ := ih (wr t (low t n v)) 1 0 (ht.wr s2) (by rw [len_wr]; exact hl) hP (Nat.le_refl _) (by omega) hc hcl (.inr rfl) (by decide) (by omega)
      rw [e]
      exact ⟨_, _, rfl⟩
    unfold play
    by_cases c1 : n = 1 ∧ tg t 1 < nd
    · rw [if_pos c1]; exact ⟨_, _, rfl⟩
    · rw [if_neg c1]
      have hnd : nd ≤ tg t n := by
        rcases hn with h | h
        · exact h
        · subst h
          apply Classical.byContradiction
          intro h
          exact c1 ⟨rfl, by omega⟩
      have hp2 : 2 ^ (d + 1) = 2 * 2 ^ d := by rw [Nat.pow_succ]; omega
      by_cases c2 : n < P
      · rw [if_pos c2]
        by_cases c3 : nd ≤ tg t (2 * n)
        · rw [if_pos c3]
          exact ih _ _ (d + 1) ht hl hP (by omega) (by omega) hc hcl (.inl c3) (by omega) (by omega)
        · rw [if_neg c3]
          by_cases c4 : nd ≤ tg t (2 * n + 1)
          · rw [if_pos c4]
            exact ih _ _ (d + 1) ht hl hP (by omega) (by omega) hc hcl (.inl c4) (by omega) (by omega)
          · rw [if_neg c4]
            exact lower _ (ht.gr n) (by unfold gr; omega) hnd
      · rw [if_neg c2]
        by_cases c3 : sz ≤ rooms.getD (n - P) 0
        · rw [if_pos c3]; exact ⟨_, _, rfl⟩
        · rw [if_neg c3]
          exact lower _ (hc _) (hcl _ (by omega)) hnd
end
end Rt.M
end
section
/-! The mirror, second part: upright trees, sizes, needs. -/
namespace Rt.M

def Upr (P : Nat) (t : List Nat) : Prop := ∀ n, 2 ≤ n → n < 2 * P → tg t n ≤ tg t (n / 2)
/-- upright at each stage of the writing -/
def UprS (P : Nat) : List Nat → List (Nat × Nat) → Prop
  | t, [] => Upr P t
  | t, p :: ws => Upr P t ∧ UprS P (st t p.1 p.2) ws
theorem UprS.head {P : Nat} {t : List Nat} {ws : List (Nat × Nat)} (h : UprS P t ws) : Upr P t := by
  cases ws with
  | nil => exact h
  | cons p ws => exact h.1
theorem UprS.append {P : Nat} {a b : List (Nat × Nat)} : ∀ {t : List Nat}, UprS P t a → UprS P (wr t a) b → UprS P t (a ++ b) := by
  induction a with
  | nil => intro t _ h; exact h
  | cons p a ih => intro t h1 h2; exact ⟨h1.1, ih h1.2 h2⟩
theorem UprS.last {P : Nat} {a : List (Nat × Nat)} : ∀ {t : List Nat}, UprS P t a → Upr P (wr t a) := by
  induction a with
  | nil => intro t h; exact h
  | cons p a ih => intro t h; exact ih h.2
/-- one write of an upright tree -/
theorem upr_st {P n v : Nat} {t : List Nat} (h : Upr P t) (hl : t.length + 1 = 2 * P) (h1 : 1 ≤ n) (h2 : n < 2 * P) (hv : v < tg t n) (hc : n < P → gr t n ≤ v) : Upr P (st t n v) := by
  intro m m1 m2
  by_cases e : m = n
  · subst e
    rw [tg_same h1 (by omega), tg_ne h1 (by omega) (by omega)]
    have := h m m1 m2
    omega
  · rw [tg_ne h1 (by omega) (Ne.symm e)]
    by_cases e2 : m / 2 = n
    · rw [e2, tg_same h1 (by omega)]
      have g := hc (by omega)
      have : tg t m ≤ gr t n := by
        unfold gr
        rcases Nat.mod_two_eq_zero_or_one m with q | q
        · have : m = 2 * n := by omega
          rw [this]; exact Nat.le_max_left _ _
        · have : m = 2 * n + 1 := by omega
          rw [this]; exact Nat.le_max_right _ _
      omega
    · rw [tg_ne h1 (by omega) (Ne.symm e2)]
      exact h m m1 m2
theorem ups_upr {P : Nat} : ∀ (n : Nat) (t : List Nat), Upr P t → t.length + 1 = 2 * P → n < P → UprS P t (ups t n) := by
  intro n
  induction n using Nat.strongRecOn with
  | ind n ih =>
    intro t h hl hn
    by_cases h0 : n = 0
    · subst h0; rw [ups_zero]; exact h
    · by_cases hg : gr t n < tg t n
      · rw [ups_yes (by omega) hg]
        have h' := upr_st h hl (by omega) (by omega) hg fun _ => Nat.le_refl _
        exact ⟨h, ih (n / 2) (by omega) _ h' (by rw [len_st]; exact hl) (by omega)⟩
      · rw [ups_no (by omega) hg]
        exact ih (n / 2) (by omega) _ h hl (by omega)
theorem low_upr {P n v : Nat} {t : List Nat} (h : Upr P t) (hl : t.length + 1 = 2 * P) (h1 : 1 ≤ n) (h2 : n < 2 * P) (hc : n < P → gr t n ≤ v) : UprS P t (low t n v) := by
  unfold low
  split
  · exact h
  · rename_i hv
    have h' := upr_st h hl h1 h2 (by omega) hc
    exact ⟨h, ups_upr _ _ h' (by rw [len_st]; exact hl) (by omega)⟩
section
variable {nd P sz : Nat} {rooms : List Nat} {cls : Nat → Nat}
theorem play_upr : ∀ (f : Nat) (t : List Nat) (n : Nat) (R : List (List (Nat × Nat))) (T : List Nat), play nd P sz rooms cls f t n = some (R, T) → Upr P t → t.length + 1 = 2 * P → 1 ≤ n → n < 2 * P → UprS P t (flat false R) := by
  intro f
  induction f with
  | zero => intro t n R T h; cases h
  | succ f ih =>
    intro t n R T h hu hl h1 h2
    have lower : ∀ v, (n < P → gr t n ≤ v) → ((play nd P sz rooms cls f (wr t (low t n v)) 1).map fun r => (low t n v :: r.1, r.2)) = some (R, T) → UprS P t (flat false R) := by
      intro v hv h
      cases e : play nd P sz rooms cls f (wr t (low t n v)) 1 with
      | none => rw [e] at h; cases h
      | some r =>
        rw [e] at h
        cases h
        have s := low_upr hu hl h1 h2 hv
        rw [flat_cons]
        exact s.append (ih _ _ _ _ e s.last (by rw [len_wr]; exact hl) (Nat.le_refl _) (by omega))
    unfold play at h
    by_cases c1 : n = 1 ∧ tg t 1 < nd
    · rw [if_pos c1] at h
      cases h
      exact hu
    · rw [if_neg c1] at h
      by_cases c2 : n < P
      · rw [if_pos c2] at h
        by_cases c3 : nd ≤ tg t (2 * n)
        · rw [if_pos c3] at h
          exact ih _ _ _ _ h hu hl (by omega) (by omega)
        · rw [if_neg c3] at h
          by_cases c4 : nd ≤ tg t (2 * n + 1)
          · rw [if_pos c4] at h
            exact ih _ _ _ _ h hu hl (by omega) (by omega)
          · rw [if_neg c4] at h
            exact lower _ (fun _ => Nat.le_refl _) h
      · rw [if_neg c2] at h
        by_cases c3 : sz ≤ rooms.getD (n - P) 0
        · rw [if_pos c3] at h
          cases h
          exact hu
        · rw [if_neg c3] at h
          exact lower _ (fun q => absurd q c2) h
end

/-! ### sizes -/
theorem sum_set : ∀ (t : List Nat) (j v : Nat), v < t.getD j 0 → (t.set j v).sum + 1 ≤ t.sum := by
  intro t
  induction t with
  | nil => intro j v h; simp at h
  | cons x t ih =>
    intro j v h
    cases j with
    | zero =>
      simp only [List.getD_cons_zero] at h
      simp only [List.set_cons_zero, List.sum_cons]
      omega
    | succ j =>
      simp only [List.getD_cons_succ] at h
      have := ih j v h
      simp only [List.set_cons_succ, List.sum_cons]
      omega
theorem falls_len (ws : List (Nat × Nat)) : ∀ t : List Nat, falls t ws → ws.length ≤ t.sum := by
  induction ws with
  | nil => intro t _; exact Nat.zero_le _
  | cons p ws ih =>
    intro t h
    have a := ih _ h.2
    have b := sum_set t (p.1 - 1) p.2 h.1
    rw [List.length_cons]
    exact Nat.le_trans (Nat.succ_le_succ a) b
theorem sum_le {c : Nat} : ∀ {t : List Nat}, AllLe c t → t.sum ≤ c * t.length
  | [], _ => by simp
  | x :: t, h => by
    have a := sum_le fun y hy => h y (List.mem_cons_of_mem _ hy)
    have b := h x List.mem_cons_self
    rw [List.sum_cons, List.length_cons, Nat.mul_succ]
    omega

/-! ### classes and needs -/
def clsOf (b : List Nat) (x : Nat) : Nat := (b.filter fun y => decide (y ≤ x)).length
def ltOf (b : List Nat) (x : Nat) : Nat := (b.filter fun y => decide (y < x)).length
def needOf (b : List Nat) (sz : Nat) : Option Nat := if ltOf b sz < b.length then some (ltOf b sz + 1) else none
theorem clsOf_le (b : List Nat) (x : Nat) : clsOf b x ≤ b.length := List.length_filter_le ..
theorem clsOf_lt {b : List Nat} {sz nd x : Nat} (h : needOf b sz = some nd) (hx : x < sz) : clsOf b x < nd := by
  unfold needOf at h
  split at h
  · cases h
    refine Nat.lt_succ_of_le ?_
    unfold clsOf ltOf
    rw [← List.countP_eq_length_filter, ← List.countP_eq_length_filter]
    refine List.countP_mono_left fun y _ hy => ?_
    simp only [decide_eq_true_eq] at hy ⊢
    omega
  · cases h
theorem fits_head {b : List Nat} (hb : b.Pairwise (· < ·)) (sz : Nat) : ∀ k, (((b.zipIdx k).filter fun p => decide (sz ≤ p.1)).map fun p => p.2 + 1).head? = if ltOf b sz < b.length then some (k + ltOf b sz + 1) else none := by
  induction b with
  | nil => intro k; rfl
  | cons x b ih =>
    intro k
    cases hb with
    | cons h1 h2 =>
      have ih := ih h2 (k + 1)
      rw [List.zipIdx_cons]
      by_cases c : sz ≤ x
      · have e : ltOf (x :: b) sz = 0 := by
          unfold ltOf
          rw [List.length_eq_zero_iff, List.filter_eq_nil_iff]
          intro y hy
          simp only [decide_eq_true_eq]
          rcases List.mem_cons.mp hy with q | q
          · omega
          · have := h1 y q
            omega
        rw [e, List.filter_cons_of_pos (by simpa using c)]
        simp
      · have e : ltOf (x :: b) sz = ltOf b sz + 1 := by
          unfold ltOf
          rw [List.filter_cons_of_pos (by simp; omega)]
          simp
        rw [e, List.filter_cons_of_neg (by simpa using c), ih]
        simp only [List.length_cons]
        by_cases q : ltOf b sz < b.length
        · rw [if_pos q, if_pos (by omega)]
          congr 1
          omega
        · rw [if_neg q, if_neg (by omega)]

/-! ### a whole search -/
def search (b : List Nat) (P sz : Nat) (rooms t : List Nat) : Out := match needOf b sz with
  | none => ([], t)
  | some nd => (play nd P sz rooms (clsOf b) (20 * t.length + 20) t 1).getD ([], t)
/-- a tree's data -/
structure VT (c P : Nat) (t : List Nat) : Prop where
  pg : P = 2 ∨ P = 4 ∨ P = 8 ∨ P = 16 ∨ P = 32
  len : t.length + 1 = 2 * P
  c1 : 1 ≤ c
  c8 : c ≤ 8
  le : AllLe c t
theorem VT.P32 {c P : Nat} {t : List Nat} (v : VT c P t) : P ≤ 32 := by rcases v.pg with h | h | h | h | h <;> omega
theorem VT.P2 {c P : Nat} {t : List Nat} (v : VT c P t) : 2 ≤ P := by rcases v.pg with h | h | h | h | h <;> omega
theorem VT.st {c P : Nat} {t : List Nat} (v : VT c P t) {n x : Nat} (hx : x ≤ c) : VT c P (st t n x) := ⟨v.pg, by rw [len_st]; exact v.len, v.c1, v.c8, v.le.st hx⟩
theorem VT.wr {c P : Nat} {t : List Nat} (v : VT c P t) {ws : List (Nat × Nat)} {L : Nat} (h : OkW L c ws) : VT c P (wr t ws) := ⟨v.pg, by rw [len_wr]; exact v.len, v.c1, v.c8, v.le.wr h⟩
theorem VT.low {c P : Nat} {t : List Nat} (v : VT c P t) {n x : Nat} (h1 : 1 ≤ n) (h2 : n < 2 * P) (hx : x ≤ c) : OkW t.length c (low t n x) := (low_spec v.le h1 (by have := v.len; omega) hx).2.1
/-- a step's data -/
structure VS (m : Nat) (b : List Nat) : Prop where
  m1 : 1 ≤ m
  m2 : m ≤ 1000
  l1 : 1 ≤ b.length
  l8 : b.length ≤ 8
  rg : ∀ x ∈ b, 1 ≤ x ∧ x ≤ m
  up : b.Pairwise (· < ·)
theorem cnt0 {b : List Nat} {P sz nd : Nat} {rooms t : List Nat} (v : VT b.length P t) (hn : needOf b sz = some nd) :
    ∃ R T, play nd P sz rooms (clsOf b) (20 * t.length + 20) t 1 = some (R, T) ∧ search b P sz rooms t = (R, T) := by
  have hc := cnt_le (nd := nd) t
  obtain ⟨R, T, e⟩ := play_ends (nd := nd) (sz := sz) (rooms := rooms) (20 * t.length + 20) t 1 0 v.le v.len v.P32 (Nat.le_refl _) (by have := v.P2; omega) (clsOf_le b) (fun x hx => clsOf_lt hn hx) (.inr rfl) (by decide) (by omega)
  refine ⟨R, T, e, ?_⟩
  unfold search
  rw [hn]
  simp only [e, Option.getD_some]
/-- what a whole search gives -/
theorem search_spec {b : List Nat} {P sz : Nat} {rooms t : List Nat} (v : VT b.length P t) :
    (search b P sz rooms t).2 = wr t (flat false (search b P sz rooms t).1) ∧ (search b P sz rooms t).2 = wr t (flat true (search b P sz rooms t).1) ∧ OkW t.length b.length (flat false (search b P sz rooms t).1) ∧
      OkW t.length b.length (flat true (search b P sz rooms t).1) ∧ falls t (flat false (search b P sz rooms t).1) ∧ (Upr P t → UprS P t (flat false (search b P sz rooms t).1)) := by
  cases hn : needOf b sz with
  | none =>
    have e : search b P sz rooms t = ([], t) := by unfold search; rw [hn]
    rw [e]
    exact ⟨rfl, rfl, .nil, .nil, trivial, fun h => h⟩
  | some nd =>
    obtain ⟨R, T, e, es⟩ := cnt0 (rooms := rooms) v hn
    rw [es]
    have h2 := v.P2
    obtain ⟨a1, a2, a3, a4, a5⟩ := play_spec _ _ _ _ _ e v.le v.len (Nat.le_refl _) (by omega) (clsOf_le b)
    exact ⟨a1, a2, a3, a4, a5, fun hu => play_upr _ _ _ _ _ e hu v.len (Nat.le_refl _) (by omega)⟩
/-- few writes -/
theorem search_len {b : List Nat} {P sz : Nat} {rooms t : List Nat} (v : VT b.length P t) : (flat false (search b P sz rooms t).1).length ≤ 504 := by
  have h := falls_len _ _ (search_spec (sz := sz) (rooms := rooms) v).2.2.2.2.1
  have h2 := sum_le v.le
  have h3 : t.length ≤ 63 := by have := v.len; have := v.P32; omega
  have h4 : b.length * t.length ≤ 8 * 63 := Nat.mul_le_mul v.c8 h3
  omega
theorem flat_len (R : List (List (Nat × Nat))) : (flat true R).length = (flat false R).length := by
  induction R with
  | nil => rfl
  | cons r R ih => rw [flat_cons, flat_cons, List.length_append, List.length_append, ih]; simp
/-- the events of a whole search -/
def evsOf (b : List Nat) (P sz : Nat) (rooms t : List Nat) : List (Ev × List Nat) := match needOf b sz with
  | none => [(.nothing, t)]
  | some nd => trace nd P sz rooms (clsOf b) (20 * t.length + 20) t 1
theorem eat_evs {b : List Nat} {P sz : Nat} {rooms t : List Nat} (v : VT b.length P t) (above : Bool) : (evsOf b P sz rooms t).foldl (eat above) ([], t) = (flat above (search b P sz rooms t).1, (search b P sz rooms t).2) := by
  cases hn : needOf b sz with
  | none =>
    have e : search b P sz rooms t = ([], t) := by unfold search; rw [hn]
    have e2 : evsOf b P sz rooms t = [(.nothing, t)] := by unfold evsOf; rw [hn]
    rw [e, e2]
    rfl
  | some nd =>
    obtain ⟨R, T, e, es⟩ := cnt0 (rooms := rooms) v hn
    have e2 : evsOf b P sz rooms t = trace nd P sz rooms (clsOf b) (20 * t.length + 20) t 1 := by unfold evsOf; rw [hn]
    rw [es, e2, eat_trace above _ _ _ _ _ _ _ e, List.nil_append]
theorem evs_ne (b : List Nat) (P sz : Nat) (rooms t : List Nat) : evsOf b P sz rooms t ≠ [] := by
  unfold evsOf
  split
  · simp
  · exact trace_ne _ _ _
theorem evs_last {b : List Nat} {P sz : Nat} {rooms t : List Nat} (v : VT b.length P t) : ((evsOf b P sz rooms t).map (·.2)).getLastD t = (search b P sz rooms t).2 := by
  have h := eat_snd false (evsOf b P sz rooms t) ([], t)
  rw [eat_evs v false] at h
  exact h.symm
end Rt.M
end
section
/-! The text by places: printed by gen_txt.py. -/
namespace Rt
open PySem PySem.Spec PyProof.Rows L2
def top (i : Nat) : Stmt := PySem.Challenge.pw_roomtold_k18_whole_rows_of_searches.main.body.getD i (.Pass ⟨0, 0, 0, 0⟩)
abbrev FnP (K : PySem.W.Frag) (x q : Str) (st : Stmt) (dvs : List V) (kws : List (Str × V)) (f : Addr) (fd : FuncData) : Prop := FunD K x q (defArgs st) (defBody st) (defScope st) dvs kws f fd

abbrev d_is_count : Stmt := top 14
abbrev d_are_bounds : Stmt := top 15
abbrev d_Steps_init : Stmt := inClass (top 16) 0
abbrev d_Steps_len : Stmt := inClass (top 16) 4
abbrev d_Steps_class_of : Stmt := inClass (top 16) 8
abbrev d_Steps_need : Stmt := inClass (top 16) 9
abbrev d_check_steps : Stmt := top 18
abbrev d_check_size : Stmt := top 19
abbrev d_are_told : Stmt := top 22
abbrev d_Tree_init : Stmt := inClass (top 23) 0
abbrev d_Tree_is_upright : Stmt := inClass (top 23) 4
abbrev d_Tree_eq : Stmt := inClass (top 23) 5
abbrev d_Tree_len : Stmt := inClass (top 23) 6
abbrev d_Tree_getitem : Stmt := inClass (top 23) 7
abbrev d_Tree_leaf : Stmt := inClass (top 23) 9
abbrev d_Tree_way : Stmt := inClass (top 23) 10
abbrev d_Tree_greater : Stmt := inClass (top 23) 11
abbrev d_Tree_least_on_way : Stmt := inClass (top 23) 12
abbrev d_Tree_missed : Stmt := inClass (top 23) 13
abbrev d_Tree_with_told : Stmt := inClass (top 23) 15
abbrev d_are_rooms : Stmt := top 24
abbrev d_check_tree : Stmt := top 25
abbrev d_check_parts : Stmt := top 26
abbrev d_check_above : Stmt := top 28
abbrev d_check_class : Stmt := top 29
abbrev d_lowering : Stmt := top 30
abbrev d_is_row : Stmt := top 31
abbrev d_check_row : Stmt := top 32
abbrev d_written : Stmt := top 33
abbrev d_stages : Stmt := top 34
abbrev d_check_asked : Stmt := top 36
abbrev d_next_node : Stmt := top 37
abbrev d_events : Stmt := top 38
abbrev d_behind : Stmt := top 39
abbrev d_search_row : Stmt := top 40
abbrev d_law_opened : Stmt := top 42
abbrev d_law_draw : Stmt := top 43
abbrev d_law_bounds : Stmt := top 44
abbrev d_law_class : Stmt := top 45
abbrev d_law_need : Stmt := top 46
abbrev d_law_made_steps : Stmt := top 47
abbrev d_law_told : Stmt := top 48
abbrev d_law_pages : Stmt := top 49
abbrev d_law_rooms : Stmt := top 50
abbrev d_law_greater : Stmt := top 51
abbrev d_law_mended : Stmt := top 52
abbrev d_law_exact : Stmt := top 53
abbrev d_law_lowered : Stmt := top 54
abbrev d_law_put : Stmt := top 55
abbrev d_law_down : Stmt := top 56
abbrev d_law_play : Stmt := top 57
abbrev d_law_scene : Stmt := top 58
abbrev d_law_tree : Stmt := top 59
abbrev d_law_falls : Stmt := top 60
abbrev d_law_upright_right : Stmt := top 61
abbrev d_law : Stmt := top 62
theorem sc_is_count : FnScope ["value", "least", "most"] ["value", "least", "most"] (defScope d_is_count) := ⟨rfl, rfl, rfl, by decide +kernel, rfl, by decide +kernel, by decide +kernel⟩
theorem sc_are_bounds : FnScope ["value", "most", "one", "other"] ["value", "most"] (defScope d_are_bounds) := ⟨rfl, rfl, rfl, by decide +kernel, rfl, by decide +kernel, by decide +kernel⟩
theorem sc_Steps_init : FnScope ["self", "most", "bounds"] ["self", "most", "bounds"] (defScope d_Steps_init) := ⟨rfl, rfl, rfl, by decide +kernel, rfl, by decide +kernel, by decide +kernel⟩
theorem sc_Steps_len : FnScope ["self"] ["self"] (defScope d_Steps_len) := ⟨rfl, rfl, rfl, by decide +kernel, rfl, by decide +kernel, by decide +kernel⟩
theorem sc_Steps_class_of : FnScope ["self", "room", "bound"] ["self", "room"] (defScope d_Steps_class_of) := ⟨rfl, rfl, rfl, by decide +kernel, rfl, by decide +kernel, by decide +kernel⟩
theorem sc_Steps_need : FnScope ["self", "size", "lesser", "bound"] ["self", "size"] (defScope d_Steps_need) := ⟨rfl, rfl, rfl, by decide +kernel, rfl, by decide +kernel, by decide +kernel⟩
theorem sc_check_steps : FnScope ["value"] ["value"] (defScope d_check_steps) := ⟨rfl, rfl, rfl, by decide +kernel, rfl, by decide +kernel, by decide +kernel⟩
theorem sc_check_size : FnScope ["steps", "size"] ["steps", "size"] (defScope d_check_size) := ⟨rfl, rfl, rfl, by decide +kernel, rfl, by decide +kernel, by decide +kernel⟩
theorem sc_are_told : FnScope ["value", "classes", "pages", "one"] ["value", "classes"] (defScope d_are_told) := ⟨rfl, rfl, rfl, by decide +kernel, rfl, by decide +kernel, by decide +kernel⟩
theorem sc_Tree_init : FnScope ["self", "classes", "told"] ["self", "classes", "told"] (defScope d_Tree_init) := ⟨rfl, rfl, rfl, by decide +kernel, rfl, by decide +kernel, by decide +kernel⟩
theorem sc_Tree_is_upright : FnScope ["self", "node"] ["self"] (defScope d_Tree_is_upright) := ⟨rfl, rfl, rfl, by decide +kernel, rfl, by decide +kernel, by decide +kernel⟩
theorem sc_Tree_eq : FnScope ["self", "other"] ["self", "other"] (defScope d_Tree_eq) := ⟨rfl, rfl, rfl, by decide +kernel, rfl, by decide +kernel, by decide +kernel⟩
theorem sc_Tree_len : FnScope ["self"] ["self"] (defScope d_Tree_len) := ⟨rfl, rfl, rfl, by decide +kernel, rfl, by decide +kernel, by decide +kernel⟩
theorem sc_Tree_getitem : FnScope ["self", "node"] ["self", "node"] (defScope d_Tree_getitem) := ⟨rfl, rfl, rfl, by decide +kernel, rfl, by decide +kernel, by decide +kernel⟩
theorem sc_Tree_leaf : FnScope ["self", "page"] ["self", "page"] (defScope d_Tree_leaf) := ⟨rfl, rfl, rfl, by decide +kernel, rfl, by decide +kernel, by decide +kernel⟩
theorem sc_Tree_way : FnScope ["self", "page", "found"] ["self", "page"] (defScope d_Tree_way) := ⟨rfl, rfl, rfl, by decide +kernel, rfl, by decide +kernel, by decide +kernel⟩
theorem sc_Tree_greater : FnScope ["self", "node"] ["self", "node"] (defScope d_Tree_greater) := ⟨rfl, rfl, rfl, by decide +kernel, rfl, by decide +kernel, by decide +kernel⟩
theorem sc_Tree_least_on_way : FnScope ["self", "page", "node"] ["self", "page"] (defScope d_Tree_least_on_way) := ⟨rfl, rfl, rfl, by decide +kernel, rfl, by decide +kernel, by decide +kernel⟩
theorem sc_Tree_missed : FnScope ["self", "page"] ["self"] (defScope d_Tree_missed) := ⟨rfl, rfl, rfl, by decide +kernel, rfl, by decide +kernel, by decide +kernel⟩
theorem sc_Tree_with_told : FnScope ["self", "node", "told"] ["self", "node", "told"] (defScope d_Tree_with_told) := ⟨rfl, rfl, rfl, by decide +kernel, rfl, by decide +kernel, by decide +kernel⟩
theorem sc_are_rooms : FnScope ["steps", "value", "one"] ["steps", "value"] (defScope d_are_rooms) := ⟨rfl, rfl, rfl, by decide +kernel, rfl, by decide +kernel, by decide +kernel⟩
theorem sc_check_tree : FnScope ["value"] ["value"] (defScope d_check_tree) := ⟨rfl, rfl, rfl, by decide +kernel, rfl, by decide +kernel, by decide +kernel⟩
theorem sc_check_parts : FnScope ["tree", "steps", "rooms"] ["tree", "steps", "rooms"] (defScope d_check_parts) := ⟨rfl, rfl, rfl, by decide +kernel, rfl, by decide +kernel, by decide +kernel⟩
theorem sc_check_above : FnScope ["value"] ["value"] (defScope d_check_above) := ⟨rfl, rfl, rfl, by decide +kernel, rfl, by decide +kernel, by decide +kernel⟩
theorem sc_check_class : FnScope ["tree", "told"] ["tree", "told"] (defScope d_check_class) := ⟨rfl, rfl, rfl, by decide +kernel, rfl, by decide +kernel, by decide +kernel⟩
theorem sc_lowering : FnScope ["tree", "node", "told", "above", "row", "now"] ["tree", "node", "told", "above"] (defScope d_lowering) := ⟨rfl, rfl, rfl, by decide +kernel, rfl, by decide +kernel, by decide +kernel⟩
theorem sc_is_row : FnScope ["tree", "value", "one"] ["tree", "value"] (defScope d_is_row) := ⟨rfl, rfl, rfl, by decide +kernel, rfl, by decide +kernel, by decide +kernel⟩
theorem sc_check_row : FnScope ["tree", "row"] ["tree", "row"] (defScope d_check_row) := ⟨rfl, rfl, rfl, by decide +kernel, rfl, by decide +kernel, by decide +kernel⟩
theorem sc_written : FnScope ["tree", "row", "node", "told"] ["tree", "row"] (defScope d_written) := ⟨rfl, rfl, rfl, by decide +kernel, rfl, by decide +kernel, by decide +kernel⟩
theorem sc_stages : GScope ["tree", "row", "node", "told"] ["tree", "row"] (defScope d_stages) := ⟨rfl, rfl, rfl, by decide +kernel, rfl, by decide +kernel, by decide +kernel⟩
theorem sc_check_asked : FnScope ["tree", "steps", "rooms", "size"] ["tree", "steps", "rooms", "size"] (defScope d_check_asked) := ⟨rfl, rfl, rfl, by decide +kernel, rfl, by decide +kernel, by decide +kernel⟩
theorem sc_next_node : FnScope ["tree", "node", "need", "child"] ["tree", "node", "need"] (defScope d_next_node) := ⟨rfl, rfl, rfl, by decide +kernel, rfl, by decide +kernel, by decide +kernel⟩
theorem sc_events : GScope ["tree", "steps", "rooms", "size", "need", "node", "page", "told", "child"] ["tree", "steps", "rooms", "size"] (defScope d_events) := ⟨rfl, rfl, rfl, by decide +kernel, rfl, by decide +kernel, by decide +kernel⟩
theorem sc_behind : FnScope ["tree", "steps", "rooms", "size", "event", "now"] ["tree", "steps", "rooms", "size"] (defScope d_behind) := ⟨rfl, rfl, rfl, by decide +kernel, rfl, by decide +kernel, by decide +kernel⟩
theorem sc_search_row : FnScope ["tree", "steps", "rooms", "size", "above", "row", "now", "event", "later"] ["tree", "steps", "rooms", "size", "above"] (defScope d_search_row) := ⟨rfl, rfl, rfl, by decide +kernel, rfl, by decide +kernel, by decide +kernel⟩
theorem sc_law_opened : FnScope ["_law_script", "_law_k", "_law_cell", "_law_great"] ["_law_script", "_law_k"] (defScope d_law_opened) := ⟨rfl, rfl, rfl, by decide +kernel, rfl, by decide +kernel, by decide +kernel⟩
theorem sc_law_draw : FnScope ["_law_pool", "_law_many", "_law_digit"] ["_law_pool", "_law_many"] (defScope d_law_draw) := ⟨rfl, rfl, rfl, by decide +kernel, rfl, by decide +kernel, by decide +kernel⟩
theorem sc_law_bounds : FnScope ["_law_pool", "_law_top", "_law_most", "_law_menu", "_law_bounds_here", "_law_step", "_law_one"] ["_law_pool", "_law_top"] (defScope d_law_bounds) := ⟨rfl, rfl, rfl, by decide +kernel, rfl, by decide +kernel, by decide +kernel⟩
theorem sc_law_class : FnScope ["_law_plan", "_law_room", "_law_one"] ["_law_plan", "_law_room"] (defScope d_law_class) := ⟨rfl, rfl, rfl, by decide +kernel, rfl, by decide +kernel, by decide +kernel⟩
theorem sc_law_need : FnScope ["_law_plan", "_law_size", "_law_fits", "_law_at", "_law_one"] ["_law_plan", "_law_size"] (defScope d_law_need) := ⟨rfl, rfl, rfl, by decide +kernel, rfl, by decide +kernel, by decide +kernel⟩
theorem sc_law_made_steps : FnScope ["_law_plan"] ["_law_plan"] (defScope d_law_made_steps) := ⟨rfl, rfl, rfl, by decide +kernel, rfl, by decide +kernel, by decide +kernel⟩
theorem sc_law_told : FnScope ["_law_pool", "_law_classes", "_law_pages_here", "_law_kind", "_law_row", "_law_node"] ["_law_pool", "_law_classes", "_law_pages_here"] (defScope d_law_told) := ⟨rfl, rfl, rfl, by decide +kernel, rfl, by decide +kernel, by decide +kernel⟩
theorem sc_law_pages : FnScope ["_law_pool", "_law_many"] ["_law_pool", "_law_many"] (defScope d_law_pages) := ⟨rfl, rfl, rfl, by decide +kernel, rfl, by decide +kernel, by decide +kernel⟩
theorem sc_law_rooms : FnScope ["_law_pool", "_law_plan", "_law_pages_here", "_law_page"] ["_law_pool", "_law_plan", "_law_pages_here"] (defScope d_law_rooms) := ⟨rfl, rfl, rfl, by decide +kernel, rfl, by decide +kernel, by decide +kernel⟩
theorem sc_law_greater : FnScope ["_law_row", "_law_node"] ["_law_row", "_law_node"] (defScope d_law_greater) := ⟨rfl, rfl, rfl, by decide +kernel, rfl, by decide +kernel, by decide +kernel⟩
theorem sc_law_mended : FnScope ["_law_row", "_law_out", "_law_node"] ["_law_row"] (defScope d_law_mended) := ⟨rfl, rfl, rfl, by decide +kernel, rfl, by decide +kernel, by decide +kernel⟩
theorem sc_law_exact : FnScope ["_law_plan", "_law_rooms_here", "_law_out", "_law_room"] ["_law_plan", "_law_rooms_here"] (defScope d_law_exact) := ⟨rfl, rfl, rfl, by decide +kernel, rfl, by decide +kernel, by decide +kernel⟩
theorem sc_law_lowered : FnScope ["_law_row", "_law_node", "_law_told_here", "_law_now", "_law_out", "_law_step"] ["_law_row", "_law_node", "_law_told_here"] (defScope d_law_lowered) := ⟨rfl, rfl, rfl, by decide +kernel, rfl, by decide +kernel, by decide +kernel⟩
theorem sc_law_put : FnScope ["_law_row", "_law_some", "_law_out", "_law_node", "_law_told_here"] ["_law_row", "_law_some"] (defScope d_law_put) := ⟨rfl, rfl, rfl, by decide +kernel, rfl, by decide +kernel, by decide +kernel⟩
theorem sc_law_down : FnScope ["_law_row", "_law_pages_here", "_law_need_here", "_law_node"] ["_law_row", "_law_pages_here", "_law_need_here", "_law_node"] (defScope d_law_down) := ⟨rfl, rfl, rfl, by decide +kernel, rfl, by decide +kernel, by decide +kernel⟩
theorem sc_law_play : FnScope ["_law_plan", "_law_row", "_law_rooms_here", "_law_size", "_law_need_here", "_law_pages_here", "_law_now", "_law_events", "_law_rows", "_law_node", "_law_step", "_law_low", "_law_page"] ["_law_plan", "_law_row", "_law_rooms_here", "_law_size"] (defScope d_law_play) := ⟨rfl, rfl, rfl, by decide +kernel, rfl, by decide +kernel, by decide +kernel⟩
theorem sc_law_scene : FnScope ["_law_pool", "_law_top", "_law_many", "_law_plan", "_law_pages_here", "_law_rooms_here", "_law_row", "_law_step"] ["_law_pool", "_law_top", "_law_many"] (defScope d_law_scene) := ⟨rfl, rfl, rfl, by decide +kernel, rfl, by decide +kernel, by decide +kernel⟩
theorem sc_law_tree : FnScope ["_law_plan", "_law_row"] ["_law_plan", "_law_row"] (defScope d_law_tree) := ⟨rfl, rfl, rfl, by decide +kernel, rfl, by decide +kernel, by decide +kernel⟩
theorem sc_law_falls : FnScope ["_law_row", "_law_some", "_law_now", "_law_node", "_law_told_here"] ["_law_row", "_law_some"] (defScope d_law_falls) := ⟨rfl, rfl, rfl, by decide +kernel, rfl, by decide +kernel, by decide +kernel⟩
theorem sc_law_upright_right : FnScope ["_law_pool", "_law_plan", "_law_pages_here", "_law_row", "_law_node", "_law_rooms_here", "_law_tree_here", "_law_steps", "_law_turn", "_law_size", "_law_now"] ["_law_pool"] (defScope d_law_upright_right) := ⟨rfl, rfl, rfl, by decide +kernel, rfl, by decide +kernel, by decide +kernel⟩
theorem sc_law : FnScope ["_law_script", "_law_k", "_law_pool", "_law_step", "_law_plan", "_law_row", "_law_rooms_here", "_law_tree_here", "_law_steps", "_law_turn", "_law_size", "_law_rows", "_law_below", "_law_down_here", "_law_told_here", "_law_later", "_law_one"] ["_law_script"] (defScope d_law) := ⟨rfl, rfl, rfl, by decide +kernel, rfl, by decide +kernel, by decide +kernel⟩
end Rt
end
section
/-! Defs by name, what readings evaluate to, the data of the program. -/
namespace Rt
open PySem PySem.Spec PyProof.Rows L2 Evl

theorem bt_isinstance : bootBuiltins "isinstance" = some (.builtin "isinstance") := by decide +kernel
theorem bt_len : bootBuiltins "len" = some (.builtin "len") := by decide +kernel
theorem bt_all : bootBuiltins "all" = some (.builtin "all") := by decide +kernel
theorem bt_max : bootBuiltins "max" = some (.builtin "max") := by decide +kernel
theorem bt_min : bootBuiltins "min" = some (.builtin "min") := by decide +kernel
theorem bt_sorted : bootBuiltins "sorted" = some (.builtin "sorted") := by decide +kernel
theorem bt_sum : bootBuiltins "sum" = some (.builtin "sum") := by decide +kernel
theorem bt_repr : bootBuiltins "repr" = some (.builtin "repr") := by decide +kernel
theorem bt_int : bootBuiltins "int" = some (.type "int") := by decide +kernel
theorem bt_bool : bootBuiltins "bool" = some (.type "bool") := by decide +kernel
theorem bt_list : bootBuiltins "list" = some (.type "list") := by decide +kernel
theorem bt_tuple : bootBuiltins "tuple" = some (.type "tuple") := by decide +kernel
theorem pe_gcR {X : Cx} {x : Str} {pos : Pos} {v : V} (hg : Gl X x) (h : ∃ u, X.mg x = some u ∧ RelV v u) (hd : (x == ("__debug__" : Str)) = false := by decide) : PE X (.Name x pos) (tC v) := by
  obtain ⟨u, h1, h2⟩ := h
  exact pe_glob hg h1 h2 hd

theorem room64 {k : Nat} {A : Around} (r : Room k A) : A.units + 64 < cLine := by have := r.un; omega
theorem room1 {k : Nat} {A : Around} (r : Room k A) : A.units + 1 < cLine := by have := r.un; omega
theorem room5 {k : Nat} {A : Around} (r : Room k A) : A.units + 5 < cLine := by have := r.un; omega

/-! ### defs by their names -/
section
variable (P : Program) (w : World) (K : PySem.W.Frag) (mg : Str → Option Value) (base : Heap)
/-- a def of the module, its promise -/
structure Dn (k : Nat) (x : Str) (ps : List Str) (dvs : List V) (sp : Sp) : Prop where
  ex : ∃ f fd ds, FnOk P w K mg base CX0 k f fd ps sp ∧ mg x = some (.ref f) ∧ PySem.W.keepIn K (.ref f) = true ∧ Vals dvs ds ∧ Binds K fd ps ds
/-- the same called with keywords -/
structure Dkw (k : Nat) (x : Str) (n : Nat) (ks : List Str) (gV : List V → List V → List V) (sp : Sp) : Prop where
  ex : ∃ f fd ps g, FnOk P w K mg base CX0 k f fd ps sp ∧ mg x = some (.ref f) ∧ PySem.W.keepIn K (.ref f) = true ∧ KBn K fd ps n ks g gV
/-- a method of the class at C -/
structure Dm (k : Nat) (C : Addr) (m : Str) (ps : List Str) (sp : Sp) : Prop where
  ex : ∃ f fd, FnOk P w K mg base CX0 k f fd ps sp ∧ Meth K C m f ∧ Binds K fd ps []
  cls : Cls K C
/-- __getitem__ -/
structure Dg (k : Nat) (C : Addr) (ps : List Str) (sp : Sp) : Prop where
  ex : ∃ f fd, FnOk P w K mg base CX0 k f fd ps sp ∧ Meth K C "__getitem__" f ∧ Binds K fd ps [] ∧ PySem.W.fnIn K f = true
/-- __eq__ -/
structure Dq (k : Nat) (C : Addr) (ps : List Str) (sp : Sp) : Prop where
  ex : ∃ f fd, FnOk P w K mg base CX0 k f fd ps sp ∧ Meth K C "__eq__" f ∧ Binds K fd ps []
  ne : PySem.W.findIn K (.ref C) "__ne__" = some (some (.builtin "object.__ne__"))
  ob : PySem.W.mroIn K C (.type "object") = some true
/-- a property -/
structure Dp (k : Nat) (C : Addr) (m : Str) (ps : List Str) (sp : Sp) : Prop where
  ex : ∃ p f fd, FnOk P w K mg base CX0 k f fd ps sp ∧ PropOf K C m p f ∧ Binds K fd ps []
  cls : Cls K C
/-- a class made by its name -/
structure Dk (k : Nat) (x : Str) (C : Addr) (ps : List Str) (sp : Sp) : Prop where
  ex : ∃ f fd, FnOk P w K mg base CX0 k f fd ps sp ∧ Mk K C f ∧ Binds K fd ps []
  nm : mg x = some (.ref C)
/-- a generator def -/
structure Dgn (k B : Nat) (x : Str) (ps : List Str) (sp : SpGen) : Prop where
  ex : ∃ f fd, GDef P w K mg base k B f fd ps sp ∧ mg x = some (.ref f) ∧ PySem.W.keepIn K (.ref f) = true ∧ Binds K fd ps []
end

section
variable {X : Cx} {k j n B : Nat} {x m : Str} {p pos apos : Pos} {C : Addr} {ps ks : List Str} {dvs : List V} {sp : Sp} {e o : Expr} {es : List Expr} {ta tb : TE} {t tk : TA} {gV : List V → List V → List V} {kws : List Keyword}
theorem pe_callD (D : Dn X.prog X.w X.K X.mg X.base k x ps dvs sp) (hr : Room j X.A) (hk : k ≤ j) (hg : Gl X x) (ha : PA X (e :: es) t) (hdb : (x == ("__debug__" : Str)) = false := by decide)
    (he : starEach (e :: es) X.env = (false, eval e X.env) :: starEach es X.env := by rfl) (hpl : (backTo pos (starEach es X.env)).any (·.1) = false := by rfl) :
    PE X (.Call (.Name x p) (e :: es) [] pos) (tCall sp dvs E0 t) := by
  obtain ⟨f, fd, ds, F, hm, kp, hd, b⟩ := D.ex
  exact pe_call F (hr.mono hk) hg hm kp b hd pass0 ha hdb he hpl
theorem pe_callKD (D : Dkw X.prog X.w X.K X.mg X.base k x n ks gV sp) (hr : Room j X.A) (hk : k ≤ j) (hg : Gl X x) (ha : PA X (e :: es) t) (hkw : PK X kws tk) (hall : (backToKw pos (keywordEach kws X.env)).all (·.1.isSome) = true := by rfl)
    (hks : (backToKw pos (keywordEach kws X.env)).filterMap (·.1) = ks := by rfl)
    (hdb : (x == ("__debug__" : Str)) = false := by decide) (he : starEach (e :: es) X.env = (false, eval e X.env) :: starEach es X.env := by rfl)
    (hpl : ((backTo pos (starEach (e :: es) X.env)).any (·.1) || (backToKw pos (keywordEach kws X.env)).any (·.1.isNone)) = false := by rfl) :
    PE X (.Call (.Name x p) (e :: es) kws pos) (tCallN n ks.length sp gV E0 t tk) := by
  obtain ⟨f, fd, ps, g, F, hm, kp, b⟩ := D.ex
  exact pe_callN F (hr.mono hk) hg hm kp b pass0 ha hkw hall hks hdb he hpl
theorem pe_methD {pl : Sem Bool} (D : Dm X.prog X.w X.K X.mg X.base k C m ps sp) (hr : Room j X.A) (hk : k ≤ j) (he : PE X o ta) (ha : PA X (e :: es) t)
    (hst : starEach (e :: es) X.env = (false, eval e X.env) :: starEach es X.env := by rfl) (hpl : (backTo pos (starEach es X.env)).any (·.1) = false := by rfl)
    (ht : eval (.Call (.Attribute o m apos) (e :: es) [] pos) X.env = (do
      let ov ← eval o X.env
      standAt apos.atName
      let (f, first) ← holding [ov] (getMethod ov m pl)
      callWith pos f first (backTo pos (starEach (e :: es) X.env)) (backToKw pos (keywordEach [] X.env))) := by rfl) :
    PE X (.Call (.Attribute o m apos) (e :: es) [] pos) (tMeth C m sp [] E0 ta t) := by
  obtain ⟨f, fd, F, hm, b⟩ := D.ex
  exact pe_meth he D.cls hm F (hr.mono hk) b .nil pass0 ha hst hpl ht
theorem pe_meth0D {pl : Sem Bool} (D : Dm X.prog X.w X.K X.mg X.base k C m ps sp) (hr : Room j X.A) (hk : k ≤ j) (he : PE X o ta)
    (ht : eval (.Call (.Attribute o m apos) [] [] pos) X.env = (do
      let ov ← eval o X.env
      standAt apos.atName
      let (f, first) ← holding [ov] (getMethod ov m pl)
      callWith pos f first (backTo pos (starEach [] X.env)) (backToKw pos (keywordEach [] X.env))) := by rfl) :
    PE X (.Call (.Attribute o m apos) [] [] pos) (tMeth C m sp [] E0 ta tNil) := by
  obtain ⟨f, fd, F, hm, b⟩ := D.ex
  exact pe_meth0 he D.cls hm F (hr.mono hk) b .nil pass0 ht
theorem pe_makeD (D : Dk X.prog X.w X.K X.mg X.base k x C ps sp) (hr : Room j X.A) (hk : k + 1 ≤ j) (hg : Gl X x) (ha : PA X (e :: es) t) (hdb : (x == ("__debug__" : Str)) = false := by decide)
    (he : starEach (e :: es) X.env = (false, eval e X.env) :: starEach es X.env := by rfl) (hpl : (backTo pos (starEach es X.env)).any (·.1) = false := by rfl) :
    PE X (.Call (.Name x p) (e :: es) [] pos) (tMake C sp [] E0 t) := by
  obtain ⟨f, fd, F, M, b⟩ := D.ex
  exact pe_make M F (hr.mono hk) hg D.nm b .nil pass0 ha hdb he hpl
theorem pe_lenD (D : Dm X.prog X.w X.K X.mg X.base k C "__len__" ps sp) (hr : Room j X.A) (hk : k + 1 ≤ j) (hg : Gl X "len") (hl : X.mg "len" = none) (he : PE X e ta) (hst : starEach [e] X.env = (false, eval e X.env) :: starEach [] X.env := by rfl) :
    PE X (.Call (.Name "len" p) [e] [] pos) (tCB (rLenO C sp E0) (tCons ta tNil)) := by
  obtain ⟨f, fd, F, hm, b⟩ := D.ex
  exact pe_callB (call_lenO F hm.at_ hm.fn (hr.mono hk) b pass0) hg hl bt_len (pa_cons he pa_nil hst) (by decide) (by decide) hst
theorem pe_subD {i : Expr} (D : Dg X.prog X.w X.K X.mg X.base k C ps sp) (hr : Room j X.A) (hk : k + 1 ≤ j) (ha : PE X e ta) (hb : PE X i tb)
    (hsl : ∀ o v, subscripted i true o v = runValue (.builtin "lifetime.subscript" ⟨[o, v], []⟩) := by intros; with_unfolding_all rfl) : PE X (.Subscript e i pos) (tSubO C sp E0 ta tb) := by
  obtain ⟨f, fd, F, hm, b, fi⟩ := D.ex
  exact pe_subO F hm.at_ fi hm.fn (hr.mono hk) b pass0 ha hb hsl
theorem op_neOD (D : Dq X.prog X.w X.K X.mg X.base k C ps sp) (hr : Room j X.A) (hk : k + 1 ≤ j) : OpR X (compareOp .NotEq) (rNeO C sp E0) := by
  obtain ⟨f, fd, F, hm, b⟩ := D.ex
  exact op_neO F hm.at_ hm.fn D.ne D.ob (hr.mono hk) b pass0
theorem pe_propD (D : Dp X.prog X.w X.K X.mg X.base k C m ps sp) (hr : Room j X.A) (hk : k + 1 ≤ j) (he : PE X e ta) (hab : attributeBase e m X.env (eval e X.env) = eval e X.env := by rfl) : PE X (.Attribute e m pos) (tProp C sp [] E0 ta) := by
  obtain ⟨q, f, fd, F, hp, b⟩ := D.ex
  exact pe_prop he D.cls hp F (hr.mono hk) b .nil (fun _ _ _ _ _ _ _ h => h.elim) hab
theorem pgn_callD {spg : SpGen} (D : Dgn X.prog X.w X.K X.mg X.base k B x ps spg) (hr : Room j X.A) (hk : k ≤ j) (hg : Gl X x) (ha : PA X (e :: es) t) (hdb : (x == ("__debug__" : Str)) = false := by decide)
    (he : starEach (e :: es) X.env = (false, eval e X.env) :: starEach es X.env := by rfl) (hpl : (backTo pos (starEach es X.env)).any (·.1) = false := by rfl) : PGn X k B (.Call (.Name x p) (e :: es) [] pos) (tCallGn spg t) := by
  obtain ⟨f, fd, F, hm, kp, b⟩ := D.ex
  exact pgn_call F (hr.mono hk) hg hm kp b ha hdb he hpl
/-- over a list or a tuple -/
def iSeq (K : PySem.W.Frag) (tl : TE) : TI := fun σ H R => (iList K tl σ H R) ∨ (iTup K tl σ H R)
theorem pi_seq {tg l : Expr} {tl : TE} (hl : PE X l tl) : PI X tg l (iSeq X.K tl) := by
  refine ⟨fun pins s σ H R I h => ?_⟩
  rcases h with h | h
  · exact (pi_list hl).run pins s σ H R I h
  · exact (pi_tup hl).run pins s σ H R I h
end

/-! ### what readings evaluate to -/
/-- some value with the property R -/
def Gv (te : TE) (σ : L2.St) (H : Hp) (R : V → Hp → Prop) : Prop := ∀ H1, Ex H H1 → ∀ Q : VK, (∀ v H2, Ex H1 H2 → R v H2 → Q v H2) → te σ H1 Q
/-- what a promise gives: a value with the property R, all that stood kept -/
def RetP (R : V → Hp → Prop) (H : Hp) (Q : VK) : Prop := ∀ v H2, Ex H H2 → R v H2 → Q v H2
def SpP (sp : Sp) (vs : List V) (H : Hp) (R : V → Hp → Prop) : Prop := ∀ H1, Ex H H1 → ∀ Q : VK, RetP R H1 Q → ∀ E : XK, sp vs H1 Q E
section
variable {K : PySem.W.Frag} {σ : L2.St} {H H' : Hp} {ta tb te : TE} {t : TA} {x y z v : V} {vs dvs : List V} {sp : Sp} {R R' : V → Hp → Prop} {a C dx : Addr} {fs : List (Str × V)} {f m : Str} {E : XK} {D : Ends}
theorem Gv.of {te : TE} (h : Ev te σ H v) (hR : ∀ H1, Ex H H1 → R v H1) : Gv te σ H R := fun H1 e Q q => h H1 e Q fun H2 e2 => q v H2 e2 (hR H2 (e.trans e2))
theorem Gv.mono (h : Gv te σ H R) (e : Ex H H') : Gv te σ H' R := fun H1 e1 Q q => h H1 (e.trans e1) Q q
theorem Gv.imp (h : Gv te σ H R) (hr : ∀ v H1, Ex H H1 → R v H1 → R' v H1) : Gv te σ H R' := fun H1 e1 Q q => h H1 e1 Q fun v H2 e2 r => q v H2 e2 (hr v H2 (e1.trans e2) r)
theorem gv_call (h : EvA t σ H vs) (hs : SpP sp (vs ++ dvs) H R) : Gv (tCall sp dvs E t) σ H R := fun H1 e Q q =>
  h H1 e _ fun H2 e2 => hs H2 (e.trans e2) Q (fun v H3 e3 r => q v H3 (e2.trans e3) r) E
theorem ev_fld (h : Ev ta σ H (.ref a)) (ha : H a = some (.ins C dx fs)) (c : Cls K C) (n : NoAttr K C f) (l : fs.lookup f = some v) : Ev (tFld K ta f) σ H v := fun H1 e Q q =>
  h H1 e _ fun H2 e2 => ⟨a, C, dx, fs, v, rfl, (e.trans e2) _ _ ha, c, n, l, q H2 e2⟩
theorem ev_meth (h : Ev ta σ H (.ref a)) (ha : H a = some (.ins C dx fs)) (l : fs.lookup m = none) (hv : EvA t σ H vs) (hs : SpV sp (.ref a :: vs) H z) : Ev (tMeth C m sp [] E ta t) σ H z := fun H1 e Q q =>
  h H1 e _ fun H2 e2 => ⟨a, dx, fs, rfl, (e.trans e2) _ _ ha, l, hv H2 (e.trans e2) _ fun H3 e3 => by
    rw [List.append_nil]
    exact hs H3 ((e.trans e2).trans e3) Q (fun H4 e4 => q H4 ((e2.trans e3).trans e4)) E⟩
theorem gv_meth (h : Ev ta σ H (.ref a)) (ha : H a = some (.ins C dx fs)) (l : fs.lookup m = none) (hv : EvA t σ H vs) (hs : SpP sp (.ref a :: vs) H R) : Gv (tMeth C m sp [] E ta t) σ H R := fun H1 e Q q =>
  h H1 e _ fun H2 e2 => ⟨a, dx, fs, rfl, (e.trans e2) _ _ ha, l, hv H2 (e.trans e2) _ fun H3 e3 => by
    rw [List.append_nil]
    exact hs H3 ((e.trans e2).trans e3) Q (fun v H4 e4 r => q v H4 ((e2.trans e3).trans e4) r) E⟩
theorem ev_lenO {n : Nat} (h : Ev ta σ H (.ref a)) (ha : H a = some (.ins C dx fs)) (hs : SpV sp [.ref a] H (.int (n : Int))) (hn : n < 2 ^ 63) : Ev (tCB (rLenO C sp E) (tCons ta tNil)) σ H (.int (n : Int)) := fun H1 e Q q =>
  h H1 e _ fun H2 e2 => ⟨a, dx, fs, rfl, (e.trans e2) _ _ ha, hs H2 (e.trans e2) _ (fun H3 e3 => ⟨n, hn, rfl, q H3 (e2.trans e3)⟩) E⟩
theorem ev_subO (h : Ev ta σ H (.ref a)) (ha : H a = some (.ins C dx fs)) (hb : Ev tb σ H y) (hs : SpV sp [.ref a, y] H z) : Ev (tSubO C sp E ta tb) σ H z := fun H1 e Q q =>
  h H1 e _ fun H2 e2 => hb H2 (e.trans e2) _ fun H3 e3 => ⟨a, dx, fs, rfl, ((e.trans e2).trans e3) _ _ ha, hs H3 ((e.trans e2).trans e3) Q (fun H4 e4 => q H4 ((e2.trans e3).trans e4)) E⟩
theorem ev_prop (h : Ev ta σ H (.ref a)) (ha : H a = some (.ins C dx fs)) (hs : SpV sp [.ref a] H z) : Ev (tProp C sp [] E ta) σ H z := fun H1 e Q q =>
  h H1 e _ fun H2 e2 => ⟨a, dx, fs, rfl, (e.trans e2) _ _ ha, hs H2 (e.trans e2) Q (fun H3 e3 => q H3 (e2.trans e3)) E⟩
/-- statements -/
theorem s_asgG {i : Nat} (h : Gv te σ H R) (k : ∀ v H1, Ex H H1 → R v H1 → D.nx (σ.set i (some v)) H1) : tAsg te (gName i) D σ H := h H (Ex.refl H) _ fun v H1 e r => k v H1 e r
theorem q_asgG {i : Nat} {tz : TS} (h : Gv te σ H R) (k : ∀ v H1, Ex H H1 → R v H1 → tz D (σ.set i (some v)) H1) : tSeq (tAsg te (gName i)) tz D σ H := h H (Ex.refl H) _ fun v H1 e r => k v H1 e r
theorem s_retG (h : Gv te σ H R) (k : ∀ v H1, Ex H H1 → R v H1 → D.rt v H1) : tRet te D σ H := h H (Ex.refl H) _ k
theorem et_val {b : Bool} (h : Ev te σ H (.bl b)) : EvT (tB te) σ H b := et_B h
/-- if .. : raise -/
theorem q_pass {tt : TT} {tz : TS} (h : EvT tt σ H false) (k : ∀ H1, Ex H H1 → tz D σ H1) : tSeq (tIfS tt tNever tNext) tz D σ H := q_when h (fun z => by cases z) fun _ => k
theorem s_pass {tt : TT} (h : EvT tt σ H false) (k : ∀ H1, Ex H H1 → D.nx σ H1) : tIfS tt tNever tNext D σ H := s_when h (fun z => by cases z) fun _ => k
theorem ev_chain {r r' : R2} {tc : TE} {w : V} {b : Bool} (ha : Ev ta σ H x) (hb : Ev tb σ H y) (hc : b = true → Ev tc σ H w) (h1 : RV r x y H (.bl b)) (h2 : b = true → RV r' y w H z) (h3 : b = false → z = .bl false) : Ev (tChain r r' ta tb tc) σ H z := fun H1 e Q q =>
  ha H1 e _ fun H2 e2 => hb H2 (e.trans e2) _ fun H3 e3 => h1 H3 ((e.trans e2).trans e3) _ fun H4 e4 => ⟨b, rfl, by
    have e' := ((e.trans e2).trans e3).trans e4
    have e'' := (e2.trans e3).trans e4
    cases b with
    | true => exact hc rfl H4 e' _ fun H5 e5 => h2 rfl H5 (e'.trans e5) Q fun H6 e6 => q H6 ((e''.trans e5).trans e6)
    | false => rw [← h3 rfl]; exact q H4 e''⟩
/-- isinstance -/
theorem ev_isi {c : V} {u tv : Value} {b : Bool} (hx : Ev ta σ H x) (hc : Ev tb σ H c) (k : ClsV c u) (ty : ∀ H1, Ex H H1 → TyX K H1 x tv) (o : PySem.W.kitOne K tv u = some b) : Ev (tCB (rIsi K) (tCons ta (tCons tb tNil))) σ H (.bl b) := fun H1 e Q q =>
  hx H1 e _ fun H2 e2 => hc H2 (e.trans e2) _ fun H3 e3 => ⟨x, c, tv, u, b, rfl, k, ty H3 ((e.trans e2).trans e3), o, q H3 (e2.trans e3)⟩
theorem ev_isiT {cs : List V} {us : List Value} {tv : Value} {b : Bool} {tu : TE} (hx : Ev ta σ H x) (hc : EvU tu σ H cs) (k : Paired ClsV cs us) (ty : ∀ H1, Ex H H1 → TyX K H1 x tv) (o : PySem.W.kitAny K tv us = some b) : Ev (tCB (rIsiT K) (tCons ta (tCons tu tNil))) σ H (.bl b) := fun H1 e Q q =>
  hx H1 e _ fun H2 e2 => hc H2 (e.trans e2) _ fun p H3 hp e3 h3 => ⟨x, p, cs, tv, us, b, rfl, h3, k, ty H3 ((e.trans e2).trans e3), o, q H3 (e2.trans e3)⟩
theorem ev_all {bs : List Bool} (h : EvL te σ H (bs.map V.bl)) : Ev (tCB (rAll K) (tCons te tNil)) σ H (.bl (bs.all id)) := fun H1 e Q q =>
  h H1 e _ fun p H2 _ e2 h2 => ⟨p, bs, rfl, sq_of h2, q H2 e2⟩
theorem ev_lenT {p : Addr} {xs : List V} (ha : Ev ta σ H (.ref p)) (h : SqT K H p xs) : Ev (tCB (rLenS K) (tCons ta tNil)) σ H (.int (xs.length : Int)) := fun H1 e Q q =>
  ha H1 e _ fun H2 e2 => ⟨p, xs, rfl, Or.inr (ex_t (e.trans e2) h), q H2 e2⟩
theorem ev_int1 {i : Int} (ha : Ev ta σ H (.int i)) : Ev (tCB (fun xs H Q => (∃ i, xs = [.int i] ∧ Q (.int i) H) ∨ ∃ k, xs = [.bl k] ∧ Q (.int (if k then 1 else 0)) H) (tCons ta tNil)) σ H (.int i) := fun H1 e Q q =>
  ha H1 e _ fun H2 e2 => Or.inl ⟨i, rfl, q H2 e2⟩
theorem ev_intB {k : Bool} (ha : Ev ta σ H (.bl k)) : Ev (tCB (fun xs H Q => (∃ i, xs = [.int i] ∧ Q (.int i) H) ∨ ∃ k, xs = [.bl k] ∧ Q (.int (if k then 1 else 0)) H) (tCons ta tNil)) σ H (.int (if k then 1 else 0)) := fun H1 e Q q =>
  ha H1 e _ fun H2 e2 => Or.inr ⟨k, rfl, q H2 e2⟩
/-- over a tuple -/
theorem el_lcT {tx : TE} {tt : TT} {xs : List V} {j : Nat} {ws : List Nat} (f : Nat → Bool) (v : Nat → V) (h : Ev te σ H (.ref a)) (hx : SqT K H a xs) (hz : xs.length ≤ 40000) (hw : ∀ x, wipe ((wipe σ ws).set j (some x)) ws = wipe σ ws)
    (ht : ∀ (i : Nat) (x : V) H1, Ex H H1 → xs[i]? = some x → EvT tt ((wipe σ ws).set j (some x)) H1 (f i)) (he : ∀ (i : Nat) (x : V) H1, Ex H H1 → xs[i]? = some x → f i = true → Ev tx ((wipe σ ws).set j (some x)) H1 (v i)) :
    EvL (tLc (iTup K te) (gName j) tt tx ws) σ H (given xs.length f v) := fun H0 e Q q => h H0 e _ fun H1 e1 => ⟨a, rfl, ⟨xs, ex_t (e.trans e1) hx⟩, fun Dl hD =>
  lc_tup (xs := xs) (Cw H1 f v Dl) ⟨hD, Ex.new hD, upd_same⟩ (fun i H' _ p => ex_t ((e.trans e1).trans p.2.1) hx) (fun i x H' hi p => ⟨hw x, cw_turn p (by have := (List.getElem?_eq_some_iff.mp hi).1; omega) (ht i x H1 (e.trans e1) hi) (fun hf => he i x H1 (e.trans e1) hi hf)⟩)
    (fun H' p => q Dl H' (fresh_back e1 p.1) (e1.trans p.2.1) p.2.2)⟩
theorem el_lcR2 {ta : TA} {tt : TT} {tx : TE} {j : Nat} {ws : List Nat} {lo n : Int} (f : Nat → Bool) (v : Nat → V) (h : EvA ta σ H [.int lo, .int n]) (hn : 0 ≤ lo ∧ lo ≤ n ∧ n ≤ 40000) (hw : ∀ x, wipe ((wipe σ ws).set j (some x)) ws = wipe σ ws)
    (ht : ∀ (i : Nat) H1, Ex H H1 → lo + (i : Int) < n → EvT tt ((wipe σ ws).set j (some (.int (lo + (i : Int))))) H1 (f i)) (he : ∀ (i : Nat) H1, Ex H H1 → lo + (i : Int) < n → f i = true → Ev tx ((wipe σ ws).set j (some (.int (lo + (i : Int))))) H1 (v i)) :
    EvL (tLc (iRng2 ta) (gName j) tt tx ws) σ H (given (n - lo).toNat f v) := fun H0 e Q q => h H0 e _ fun H1 e1 => ⟨lo, n, rfl, ⟨by omega, by omega, by omega, by omega⟩, fun Dl hD =>
  lc_range (lo := lo) (n := (n - lo).toNat) (Cw H1 f v Dl) ⟨hD, Ex.new hD, upd_same⟩ (fun i H' hi p => ⟨hw _, cw_turn p (by omega) (ht i H1 (e.trans e1) (by omega)) (fun hf => he i H1 (e.trans e1) (by omega) hf)⟩) (fun H' p => q Dl H' (fresh_back e1 p.1) (e1.trans p.2.1) p.2.2)⟩
theorem cw_tup {H1 H' : Hp} {f : Nat → Bool} {v : Nat → V} {Dl T : Addr} {i : Nat} {o : HO} (p : Cw H1 f v Dl i H') (hT : H' T = none) : Cw H1 f v Dl i (upd H' T o) := by
  obtain ⟨p1, p2, p3⟩ := p
  exact ⟨p1, p2.trans (Ex.new hT), by rw [upd_ne (ne_of_none p3 hT)]; exact p3⟩
/-- over zip(list, a new list), the target a pair of names -/
theorem el_lcZ {t1 t2 tx : TE} {tt : TT} {a : Addr} {xs ys : List V} {j l : Nat} {ws : List Nat} {n : Nat} (f : Nat → Bool) (v : Nat → V) (h1 : Ev t1 σ H (.ref a)) (hx : SqL K H a xs) (h2 : EvL t2 σ H ys) (hn : n = min xs.length ys.length) (hz : n ≤ 40000)
    (hw : ∀ x y, wipe (((wipe σ ws).set j (some x)).set l (some y)) ws = wipe σ ws)
    (ht : ∀ (i : Nat) (x y : V) H1, Ex H H1 → xs[i]? = some x → ys[i]? = some y → EvT tt (((wipe σ ws).set j (some x)).set l (some y)) H1 (f i))
    (he : ∀ (i : Nat) (x y : V) H1, Ex H H1 → xs[i]? = some x → ys[i]? = some y → f i = true → Ev tx (((wipe σ ws).set j (some x)).set l (some y)) H1 (v i)) :
    EvL (tLc (iZip K (tCons t1 (tCons t2 tNil))) (gTup K 2 (gCons (gName j) (gCons (gName l) gNil))) tt tx ws) σ H (given n f v) := fun H0 e Q q =>
  h1 H0 e _ fun H1 e1 => h2 H1 (e.trans e1) _ fun b H2 hb e2 hy => by
    have e02 : Ex H H2 := (e.trans e1).trans e2
    refine ⟨a, b, xs, ys, rfl, ex_l e02 hx, sq_of hy, fun Dl hD => ⟨fun i m H' => m = n - i ∧ i ≤ n ∧ Cw H2 f v Dl i H', ⟨n, by simp, Nat.zero_le _, hD, Ex.new hD, upd_same⟩, ?_⟩⟩
    rintro i m H' ⟨rfl, hi, p⟩
    have qx : SqL K H' a xs := ex_l (e02.trans p.2.1) hx
    have qy : SqL K H' b ys := ex_l p.2.1 (sq_of hy)
    by_cases hlt : i < n
    · have gx : xs[i]? = some xs[i] := List.getElem?_eq_getElem (by omega)
      have gy : ys[i]? = some ys[i] := List.getElem?_eq_getElem (by omega)
      refine .inr ⟨⟨xs, ys, _, _, qx, qy, gx, gy⟩, Cw H2 f v Dl (i + 1), fun H' p' => ⟨n - (i + 1), by omega, rfl, hlt, p'⟩, fun x H3 hy' => ?_⟩
      obtain ⟨T, x1, y1, rfl, hT, rfl, f1, f2⟩ := hy'
      have p' := cw_tup (o := .tup [x1, y1]) p hT
      refine ⟨T, [x1, y1], rfl, st_of upd_same, rfl, x1, [y1], rfl, y1, [], rfl, rfl, hw _ _, ?_⟩
      exact cw_turn p' (by omega) (ht i _ _ H2 e02 (f1 _ qx) (f2 _ qy)) fun hf => he i _ _ H2 e02 (f1 _ qx) (f2 _ qy) hf
    · have ei : i = n := by omega
      subst ei
      exact .inl ⟨⟨xs, ys, qx, qy, by omega⟩, q Dl H' (fresh_back (e1.trans e2) p.1) ((e1.trans e2).trans p.2.1) p.2.2⟩
/-- over enumerate(list) -/
theorem el_lcE {t1 tx : TE} {tt : TT} {a : Addr} {xs : List V} {j l : Nat} {ws : List Nat} (f : Nat → Bool) (v : Nat → V) (h1 : Ev t1 σ H (.ref a)) (hx : SqL K H a xs) (hz : xs.length ≤ 40000)
    (hw : ∀ x y, wipe (((wipe σ ws).set j (some x)).set l (some y)) ws = wipe σ ws)
    (ht : ∀ (i : Nat) (x : V) H1, Ex H H1 → xs[i]? = some x → EvT tt (((wipe σ ws).set j (some (.int (i : Int)))).set l (some x)) H1 (f i))
    (he : ∀ (i : Nat) (x : V) H1, Ex H H1 → xs[i]? = some x → f i = true → Ev tx (((wipe σ ws).set j (some (.int (i : Int)))).set l (some x)) H1 (v i)) :
    EvL (tLc (iEnum K (tCons t1 tNil)) (gTup K 2 (gCons (gName j) (gCons (gName l) gNil))) tt tx ws) σ H (given xs.length f v) := fun H0 e Q q =>
  h1 H0 e _ fun H2 e1 => by
    have e02 : Ex H H2 := e.trans e1
    refine ⟨a, xs, rfl, ex_l e02 hx, fun Dl hD => ⟨fun i m H' => m = xs.length - i ∧ i ≤ xs.length ∧ Cw H2 f v Dl i H', ⟨xs.length, by simp, Nat.zero_le _, hD, Ex.new hD, upd_same⟩, ?_⟩⟩
    rintro i m H' ⟨rfl, hi, p⟩
    have qx : SqL K H' a xs := ex_l (e02.trans p.2.1) hx
    by_cases hlt : i < xs.length
    · have gx : xs[i]? = some xs[i] := List.getElem?_eq_getElem (by omega)
      refine .inr ⟨⟨xs, _, qx, gx⟩, Cw H2 f v Dl (i + 1), fun H' p' => ⟨xs.length - (i + 1), by omega, rfl, hlt, p'⟩, fun x H3 hy' => ?_⟩
      obtain ⟨T, x1, rfl, hT, rfl, f1⟩ := hy'
      have p' := cw_tup (o := .tup [.int (i : Nat), x1]) p hT
      refine ⟨T, [.int (i : Nat), x1], rfl, st_of upd_same, rfl, _, [x1], rfl, x1, [], rfl, rfl, hw _ _, ?_⟩
      exact cw_turn p' (by omega) (ht i _ H2 e02 (f1 _ qx)) fun hf => he i _ H2 e02 (f1 _ qx) hf
    · have ei : i = xs.length := by omega
      subst ei
      exact .inl ⟨⟨xs, qx, Nat.le_refl _⟩, q Dl H' (fresh_back e1 p.1) (e1.trans p.2.1) p.2.2⟩
/-- all turns give -/
theorem given_all {n : Nat} {f : Nat → Bool} {v : Nat → V} (h : ∀ i, i < n → f i = true) : given n f v = (List.range n).map v := by
  unfold given
  rw [List.filter_eq_self.mpr fun i hi => h i (List.mem_range.mp hi)]
/-- all([..]), each True -/
theorem ev_allT {n : Nat} {f : Nat → Bool} {g : Nat → V} (h : EvL te σ H (given n f g)) (hf : ∀ i, i < n → f i = true ∧ g i = .bl true) : Ev (tCB (rAll K) (tCons te tNil)) σ H (.bl true) := by
  have e : given n f g = (List.replicate n true).map V.bl := by
    rw [given_all fun i hi => (hf i hi).1]
    refine List.ext_getElem (by simp) fun i h1 h2 => ?_
    simp only [List.getElem_map, List.getElem_range, List.getElem_replicate]
    exact (hf i (by simpa using h1)).2
  rw [e] at h
  refine ev_is (ev_all h) ?_
  rw [List.all_replicate]
  simp
theorem ev_yes {H : Hp} {σ : L2.St} : EvT tYes σ H true := fun H1 _ _ q => q H1 (Ex.refl H1)
end

theorem getD_at {t : List Nat} {i : Nat} (h : i < t.length) : t.getD i 0 = t[i] := by
  rw [List.getD_eq_getElem?_getD, List.getElem?_eq_getElem h]
  rfl
section
variable {K : PySem.W.Frag} {σ : L2.St} {H H' : Hp} {ta tb te tv : TE} {t : TA} {x y z v : V} {vs : List V} {R : V → Hp → Prop} {a C dx : Addr} {fs : List (Str × V)} {f : Str} {D : Ends} {tz : TS}
/-- self.f = e -/
theorem s_fldV {i : Nat} (hv : Gv tv σ H R) (ho : σ[i]? = some (some (.ref a))) (ha : H a = some (.ins C dx fs)) (c : Cls K C) (n : NoAttr K C f) (hl : fs.length < 1000) (k : ∀ v H1, Ex H H1 → R v H1 → D.nx σ (upd H1 a (.ins C dx (putF f v fs)))) : sFld K (tVar i) tv f D σ H :=
  hv H (Ex.refl H) _ fun v H1 e1 r => ⟨.ref a, ho, a, C, dx, fs, rfl, e1 _ _ ha, c, n, hl, k v H1 e1 r⟩
theorem q_fldV {i : Nat} (hv : Gv tv σ H R) (ho : σ[i]? = some (some (.ref a))) (ha : H a = some (.ins C dx fs)) (c : Cls K C) (n : NoAttr K C f) (hl : fs.length < 1000) (k : ∀ v H1, Ex H H1 → R v H1 → tz D σ (upd H1 a (.ins C dx (putF f v fs)))) : tSeq (sFld K (tVar i) tv f) tz D σ H :=
  s_fldV (D := { D with nx := tz D }) hv ho ha c n hl k
/-- tuple(list or tuple) -/
def rTupOf (K : PySem.W.Frag) : List V → Hp → VK → Prop := fun xs H Q => ∃ p ys, xs = [.ref p] ∧ ((SqL K H p ys ∧ ∀ l, H l = none → Q (.ref l) (upd H l (.tup ys))) ∨ (SqT K H p ys ∧ Q (.ref p) H))
theorem gv_tupL {p : Addr} {xs : List V} (h : Ev te σ H (.ref p)) (hx : SqL K H p xs) : Gv (tCB (rTupOf K) (tCons te tNil)) σ H (fun v H1 => ∃ q, v = .ref q ∧ SqT K H1 q xs) := fun H1 e Q q =>
  h H1 e _ fun H2 e2 => ⟨p, xs, rfl, .inl ⟨ex_l (e.trans e2) hx, fun l hl => q _ _ (e2.trans (Ex.new hl)) ⟨l, rfl, st_of upd_same⟩⟩⟩
theorem gv_tupT {p : Addr} {xs : List V} (h : Ev te σ H (.ref p)) (hx : SqT K H p xs) : Gv (tCB (rTupOf K) (tCons te tNil)) σ H (fun v H1 => ∃ q, v = .ref q ∧ SqT K H1 q xs) := fun H1 e Q q =>
  h H1 e _ fun H2 e2 => ⟨p, xs, rfl, .inr ⟨ex_t (e.trans e2) hx, q _ _ e2 ⟨p, rfl, ex_t (e.trans e2) hx⟩⟩⟩
theorem gv_tupRg {i j : Int} (h1 : Ev ta σ H (.int i)) (h2 : Ev tv σ H (.int j)) (ok : RgOk i j) : Gv (tTupRg (tRg2 ta tv)) σ H (fun v H1 => ∃ q, v = .ref q ∧ SqT K H1 q (rgV i j)) := fun H1 e Q q =>
  h1 H1 e _ fun H2 e2 => h2 H2 (e.trans e2) _ fun H3 e3 => ⟨i, j, rfl, rfl, ok, fun p hp => q _ _ ((e2.trans e3).trans (Ex.new hp)) ⟨p, rfl, st_of upd_same⟩⟩
/-- C(..): sp is told of the new object -/
theorem gv_make {sp : Sp} {E : XK} {R : V → Hp → Prop} (h : EvA t σ H vs) (hs : ∀ H1, Ex H H1 → ∀ x dx, H1 x = none → H1 dx = none → dx ≠ x → ∀ Q : VK, (∀ H2, Ex H1 H2 → R (.ref x) H2 → Q .non H2) → sp (.ref x :: vs) (upd (upd H1 dx (.own x)) x (.ins C dx [])) Q E) : Gv (tMake C sp [] E t) σ H R := fun H1 e Q q =>
  h H1 e _ fun H2 e2 => fun x dx hx hd ne => by
    rw [List.append_nil]
    exact hs H2 (e.trans e2) x dx hx hd ne _ fun H3 e3 r => ⟨rfl, q _ _ (e2.trans e3) r⟩
end
theorem sqT_ins {K : PySem.W.Frag} {H : Hp} {x r C dx : Addr} {fs : List (Str × V)} {o : HO} {xs : List V} (h : SqT K H r xs) (hx : H x = some (.ins C dx fs)) : SqT K (upd H x o) r xs := by
  rcases h with (h | ⟨ob, h⟩) | h
  · exact .inl (.inl (by rw [upd_ne (ne_of h hx (by simp))]; exact h))
  · exact .inl (.inr ⟨ob, by rw [upd_ne (ne_of h hx (by simp))]; exact h⟩)
  · exact .inr h
theorem ev_is' {r : R2} {x y z z' : V} {H : Hp} (h : RV r x y H z) (e : z = z') : RV r x y H z' := by
  rw [← e]
  exact h
theorem cut1 (xs : List V) : cutV xs (some 1) none = xs.drop 1 := by
  unfold cutV
  rw [show HT.sIx xs.length 0 (some 1) = min 1 xs.length from HT.sIx_nat xs.length 0 1, HT.sIx_none]
  cases xs with
  | nil => rfl
  | cons x r =>
    rw [show min 1 (x :: r).length = 1 by
      rw [List.length_cons]
      omega]
    show (List.take ((x :: r).length - 1) r) = r
    rw [List.length_cons, Nat.add_sub_cancel]
    exact List.take_length
/-! ### the data -/
def vi (t : List Nat) : List V := t.map fun (n : Nat) => V.int (n : Int)
theorem vi_len (t : List Nat) : (vi t).length = t.length := by simp [vi]
theorem vi_get {t : List Nat} {i : Nat} (h : i < t.length) : (vi t)[i]? = some (.int ((t.getD i 0 : Nat) : Int)) := by
  unfold vi
  rw [List.getElem?_map, List.getElem?_eq_getElem h, List.getD_eq_getElem?_getD, List.getElem?_eq_getElem h]
  rfl
theorem vi_at {t : List Nat} {i : Nat} (h : i < t.length) : atI (vi t) (i : Int) = some (.int ((t.getD i 0 : Nat) : Int)) := atI_nat (vi_get h)
theorem vi_tg {t : List Nat} {n : Nat} {i : Int} (h1 : 1 ≤ n) (h2 : n ≤ t.length) (e : i = (n : Int) - 1) : atI (vi t) i = some (.int ((M.tg t n : Nat) : Int)) := by
  have e' : i = ((n - 1 : Nat) : Int) := by omega
  rw [e']
  exact vi_at (by omega)
theorem vi_some {t : List Nat} {i : Nat} {x : V} (h : (vi t)[i]? = some x) : i < t.length ∧ x = .int ((t.getD i 0 : Nat) : Int) := by
  have hi : i < t.length := by
    have := (List.getElem?_eq_some_iff.mp h).1
    rwa [vi_len] at this
  rw [vi_get hi] at h
  exact ⟨hi, (Option.some.inj h).symm⟩
theorem vi_ints (t : List Nat) : vi t = (t.map fun (n : Nat) => (n : Int)).map V.int := by simp [vi]

def treeF (c : Nat) (tl : Addr) (P : Nat) (lv : Addr) : List (Str × V) := [("classes", .int (c : Int)), ("told_row", .ref tl), ("pages", .int (P : Int)), ("leaves", .ref lv)]
def stepF (m : Nat) (r : Addr) : List (Str × V) := [("most", .int (m : Int)), ("rows", .ref r)]
/-- a tree object: classes, told row -/
def TreeAt (K : PySem.W.Frag) (CT : Addr) (c P : Nat) (t : List Nat) (H : Hp) (a : Addr) : Prop :=
  M.VT c P t ∧ ∃ dx tl lv, H a = some (.ins CT dx (treeF c tl P lv)) ∧ SqT K H tl (vi t) ∧ SqT K H lv ((List.range P).map fun i => .int ((P + i : Nat) : Int))
def StepsAt (K : PySem.W.Frag) (CS : Addr) (m : Nat) (b : List Nat) (H : Hp) (a : Addr) : Prop :=
  M.VS m b ∧ ∃ dx r, H a = some (.ins CS dx (stepF m r)) ∧ SqT K H r (vi b)
/-- rooms: a list or a tuple -/
def RoomsAt (K : PySem.W.Frag) (rs : List Nat) (H : Hp) (a : Addr) : Prop := SqL K H a (vi rs) ∨ SqT K H a (vi rs)
theorem TreeAt.ex {K : PySem.W.Frag} {CT : Addr} {c P : Nat} {t : List Nat} {H H' : Hp} {a : Addr} (h : TreeAt K CT c P t H a) (e : Ex H H') : TreeAt K CT c P t H' a := by
  obtain ⟨v, dx, tl, lv, h1, h2, h3⟩ := h
  exact ⟨v, dx, tl, lv, e _ _ h1, ex_t e h2, ex_t e h3⟩
theorem StepsAt.ex {K : PySem.W.Frag} {CS : Addr} {m : Nat} {b : List Nat} {H H' : Hp} {a : Addr} (h : StepsAt K CS m b H a) (e : Ex H H') : StepsAt K CS m b H' a := by
  obtain ⟨v, dx, r, h1, h2⟩ := h
  exact ⟨v, dx, r, e _ _ h1, ex_t e h2⟩
theorem RoomsAt.ex {K : PySem.W.Frag} {rs : List Nat} {H H' : Hp} {a : Addr} (h : RoomsAt K rs H a) (e : Ex H H') : RoomsAt K rs H' a := h.imp (ex_l e) (ex_t e)

theorem steps_most (m : Nat) (r : Addr) : (stepF m r).lookup ("most" : Str) = some (.int (m : Int)) := by
  unfold stepF
  rw [List.lookup_cons_self]
theorem steps_rows (m : Nat) (r : Addr) : (stepF m r).lookup ("rows" : Str) = some (.ref r) := by
  have h : (("rows" : Str) == "most") = false := by decide +kernel
  unfold stepF
  simp only [List.lookup, h]
  rw [show (("rows" : Str) == "rows") = true from beq_self_eq_true _]
theorem steps_no {m : Nat} {r : Addr} {x : Str} (h1 : (x == "most") = false) (h2 : (x == "rows") = false) : (stepF m r).lookup x = none := by
  unfold stepF
  simp only [List.lookup, h1, h2]
theorem tree_classes (c : Nat) (tl : Addr) (P : Nat) (lv : Addr) : (treeF c tl P lv).lookup ("classes" : Str) = some (.int (c : Int)) := by
  unfold treeF
  rw [List.lookup_cons_self]
theorem tree_told_row (c : Nat) (tl : Addr) (P : Nat) (lv : Addr) : (treeF c tl P lv).lookup ("told_row" : Str) = some (.ref tl) := by
  have h : (("told_row" : Str) == "classes") = false := by decide +kernel
  unfold treeF
  simp only [List.lookup, h]
  rw [show (("told_row" : Str) == "told_row") = true from beq_self_eq_true _]
theorem tree_pages (c : Nat) (tl : Addr) (P : Nat) (lv : Addr) : (treeF c tl P lv).lookup ("pages" : Str) = some (.int (P : Int)) := by
  have h : (("pages" : Str) == "classes") = false := by decide +kernel
  have h2 : (("pages" : Str) == "told_row") = false := by decide +kernel
  unfold treeF
  simp only [List.lookup, h, h2]
  rw [show (("pages" : Str) == "pages") = true from beq_self_eq_true _]
theorem tree_leaves (c : Nat) (tl : Addr) (P : Nat) (lv : Addr) : (treeF c tl P lv).lookup ("leaves" : Str) = some (.ref lv) := by
  have h : (("leaves" : Str) == "classes") = false := by decide +kernel
  have h2 : (("leaves" : Str) == "told_row") = false := by decide +kernel
  have h3 : (("leaves" : Str) == "pages") = false := by decide +kernel
  unfold treeF
  simp only [List.lookup, h, h2, h3]
  rw [show (("leaves" : Str) == "leaves") = true from beq_self_eq_true _]
theorem tree_no {c : Nat} {tl : Addr} {P : Nat} {lv : Addr} {x : Str} (h1 : (x == "classes") = false) (h2 : (x == "told_row") = false) (h3 : (x == "pages") = false) (h4 : (x == "leaves") = false) : (treeF c tl P lv).lookup x = none := by
  unfold treeF
  simp only [List.lookup, h1, h2, h3, h4]
/-- what of the text the walks use -/
structure Tx (K : PySem.W.Frag) (mg : Str → Option Value) (CS CT pgs : Addr) : Prop where
  cS : Cls K CS
  cT : Cls K CT
  n_most : NoAttr K CS "most"
  n_rows : NoAttr K CS "rows"
  n_classes : NoAttr K CT "classes"
  n_told_row : NoAttr K CT "told_row"
  n_pages : NoAttr K CT "pages"
  n_leaves : NoAttr K CT "leaves"
  b_len : mg "len" = none
  b_isinstance : mg "isinstance" = none
  b_int : mg "int" = none
  b_bool : mg "bool" = none
  b_list : mg "list" = none
  b_tuple : mg "tuple" = none
  b_all : mg "all" = none
  b_zip : mg "zip" = none
  b_max : mg "max" = none
  b_min : mg "min" = none
  b_range : mg "range" = none
  b_sorted : mg "sorted" = none
  b_sum : mg "sum" = none
  b_repr : mg "repr" = none
  b_enumerate : mg "enumerate" = none
  g_MOST_ROOM : ∃ u, mg "MOST_ROOM" = some u ∧ RelV (.int 1000) u
  g_MOST_BOUNDS : ∃ u, mg "MOST_BOUNDS" = some u ∧ RelV (.int 8) u
  g_PAGES : ∃ u, mg "PAGES" = some u ∧ RelV (.ref pgs) u
  g_Tree : ∃ u, mg "Tree" = some u ∧ RelV (.ref CT) u
  g_Steps : ∃ u, mg "Steps" = some u ∧ RelV (.ref CS) u
  pages : ∀ H : Hp, SqT K H pgs (vi [2, 4, 8, 16, 32])
  isS : ∀ (H : Hp) (a dx : Addr) (fs : List (Str × V)), H a = some (.ins CS dx fs) → TyX K H (.ref a) (.ref CS)
  isT : ∀ (H : Hp) (a dx : Addr) (fs : List (Str × V)), H a = some (.ins CT dx fs) → TyX K H (.ref a) (.ref CT)
  kS : PySem.W.kitOne K (.ref CS) (.ref CS) = some true
  kT : PySem.W.kitOne K (.ref CT) (.ref CT) = some true
end Rt
end
section
/-! Counts, bounds, Steps. Printed by gen_rules.py from RtA.src. -/
namespace Rt
open PySem PySem.Spec PyProof.Rows L2 Evl
section
variable {P : Program} {w : World} {K : PySem.W.Frag} {mg : Str → Option Value} {base : Heap} {CS CT pgs : Addr}

/-- is_count of an int -/
def sp_is_count (K : PySem.W.Frag) (CS CT : Addr) : Sp := fun vs H Q _ => ∃ i lo hi : Int, vs = [.int i, .int lo, .int hi] ∧ RetV (.bl (decide (lo ≤ i) && decide (i ≤ hi))) H Q
theorem sv_is_count {H : Hp} {i lo hi : Int} {b : Bool} (e : (decide (lo ≤ i) && decide (i ≤ hi)) = b) : SpV (sp_is_count K CS CT) ([.int i, .int lo, .int hi] ++ []) H (.bl b) := fun H1 _ Q q E => ⟨i, lo, hi, rfl, by rw [e]; exact q⟩
theorem sv_is_count1 {H : Hp} {i lo hi : Int} (h1 : lo ≤ i) (h2 : i ≤ hi) : SpV (sp_is_count K CS CT) ([.int i, .int lo, .int hi] ++ []) H (.bl true) := sv_is_count (by simp [h1, h2])
theorem ok_is_count  {f : Addr} {fd : FuncData} (F : FnP K "is_count" "is_count" d_is_count [] [] f fd) (T : Tx K mg CS CT pgs) : FnOk P w K mg base CX0 1 f fd ["value", "least", "most"] (sp_is_count K CS CT) := by
  refine F.ok sc_is_count (fun vs H Q E h => ?_) (fun cdv A outer s H vs Q E hr h => ?_)
  · obtain ⟨i, lo, hi, rfl, _⟩ := h
    rfl
  · obtain ⟨i, lo, hi, rfl, k⟩ := h
    refine ⟨_, PSs.nox (pss_one (ps_ret (pe_and (pe_callB call_isi (by rfl) T.b_isinstance bt_isinstance (pa_cons (pv 0) (pa_cons (pe_bltn (v := .ty "int") (by rfl) T.b_int bt_int rfl) pa_nil))) (pe_and (pe_not (pe_callB call_isi (by rfl) T.b_isinstance bt_isinstance (pa_cons (pv 0) (pa_cons (pe_bltn (v := .ty "bool") (by rfl) T.b_bool bt_bool rfl) pa_nil)))) (pe_one (pe_chain op_le op_le (pv 1) (pv 0) (pv 2))))))), ?_⟩
    refine s_ret (ev_is (ev_andV (a := true) (b := decide (lo ≤ i) && decide (i ≤ hi)) (ev_isi (ev_var rfl) ev_c (ClsV.ty _) (fun _ _ => .base (.int i)) (kit_ty (by decide +kernel))) fun _ => ev_is (ev_andV (b := decide (lo ≤ i) && decide (i ≤ hi)) (ev_notV (ev_isi (b := false) (ev_var rfl) ev_c (ClsV.ty _) (fun _ _ => .base (.int i)) (kit_ty (by decide +kernel)))) fun _ =>
      ev_chain (b := decide (lo ≤ i)) (ev_var rfl) (ev_var rfl) (fun _ => ev_var rfl) rv_I0 (fun e => ?_) (fun e => by rw [e]; rfl)) rfl) rfl) k
    rw [e]
    exact rv_I0

/-- are_bounds of a good list -/
def sp_are_bounds (K : PySem.W.Frag) (CS CT : Addr) : Sp := fun vs H Q _ => ∃ (a : Addr) (b : List Nat) (m : Nat), vs = [.ref a, .int (m : Int)] ∧ M.VS m b ∧ H a = some (.lst (vi b)) ∧ RetV (.bl true) H Q
theorem ok_are_bounds (D_is_count : Dn P w K mg base 1 "is_count" ["value", "least", "most"] [] (sp_is_count K CS CT)) {f : Addr} {fd : FuncData} (F : FnP K "are_bounds" "are_bounds" d_are_bounds [] [] f fd) (T : Tx K mg CS CT pgs) : FnOk P w K mg base CX0 2 f fd ["value", "most"] (sp_are_bounds K CS CT) := by
  refine F.ok sc_are_bounds (fun vs H Q E h => ?_) (fun cdv A outer s H vs Q E hr h => ?_)
  · obtain ⟨a, b, m, rfl, _⟩ := h
    rfl
  · obtain ⟨a, b, m, rfl, v, hb, k⟩ := h
    refine ⟨_, PSs.nox (pss_cons (ps_if (PW.pt (pw_or (pt_not (pt_val (pe_callB call_isiT (by rfl) T.b_isinstance bt_isinstance (pa_cons (pv 0) (pa_cons (pe_tup (pa_cons (pe_bltn (v := .ty "list") (by rfl) T.b_list bt_list rfl) (pa_cons (pe_bltn (v := .ty "tuple") (by rfl) T.b_tuple bt_tuple rfl) pa_nil))) pa_nil))))) (pw_or1 (pt_not (pt_chain op_le op_le pe_int (pe_callB call_len_seq (by rfl) T.b_len bt_len (pa_cons (pv 0) pa_nil)) (pe_gcR (by rfl) T.g_MOST_BOUNDS)))))) (pss_one (ps_ret pe_bl)) pss_nil)
    (pss_cons (ps_if (pt_not (pt_val (pe_callB (cr_all (by rfl)) (by rfl) T.b_all bt_all (pa_cons (pe_lc (te := (tCall (sp_is_count K CS CT) [] E0 (tCons (tVar 2) (tCons (tC (.int 1)) (tCons (tVar 1) tNil))))) (tt := tYes) (own := [("one", 2)]) rfl sc_are_bounds.nd (pi_list (pv 0)) (blkOk_by (own := [("one", 2)]) (N := ["value", "most", "one", "other"]) (sc := defScope d_are_bounds) (by decide +kernel)) (fun _ _ _ _ _ => (pg_name (i := 2) sc_are_bounds.nd rfl (.inl rfl) (.inr rfl))) (fun _ _ _ _ _ => pts_nil) (fun _ _ _ _ _ => (pe_callD D_is_count hr (by decide) (by rfl) (pa_cons (pv 2) (pa_cons pe_int (pa_cons (pv 1) pa_nil)))))) pa_nil)))) (pss_one (ps_ret pe_bl)) pss_nil)
    (pss_one (ps_ret (pe_callB (cr_all (by rfl)) (by rfl) T.b_all bt_all (pa_cons (pe_lc (te := (tOp (rI0 fun i j => .bl (decide (i < j))) (tVar 2) (tVar 3))) (tt := tYes) (g := gTup K 2 (gCons (gName 2) (gCons (gName 3) gNil))) (own := [("one", 2), ("other", 3)]) rfl sc_are_bounds.nd (pi_zip (by rfl) T.b_zip (pa_cons (pv 0) (pa_cons (pe_slice sl_list (pv 0) (po_some pe_int) po_none) pa_nil))) (blkOk_by (own := [("one", 2), ("other", 3)]) (N := ["value", "most", "one", "other"]) (sc := defScope d_are_bounds) (by decide +kernel)) (fun _ _ _ _ _ => (pg_tup rfl (pgs_cons (pg_name (i := 2) sc_are_bounds.nd rfl (.inl rfl) (.inr rfl)) (pgs_cons (pg_name (i := 3) sc_are_bounds.nd rfl (.inl rfl) (.inr rfl)) pgs_nil)))) (fun _ _ _ _ _ => pts_nil) (fun _ _ _ _ _ => (pe_cmpR op_lt (pv 2) (pv 3) (nomark _)))) pa_nil)))))), ?_⟩
    have hS : SqL K H a (vi b) := sq_of hb
    have hl := v.l8
    -- the first test
    refine q_when (b := false) (et_or (a := false) (b := false) (et_not (a := true) (et_B (ev_isiT (tv := .type "list") (us := [.type "list", .type "tuple"]) (ev_var rfl) (eu_tup (ea_cons ev_c (ea_cons ev_c ea_nil)) (by decide)) (.cons (ClsV.ty _) (.cons (ClsV.ty _) .nil)) (fun H1 e1 => .base (.lst (e1 _ _ hb))) (kitAny_cons (b := true) (kit_ty (by decide +kernel)) (fun z => by cases z) fun _ => rfl))))
      fun _ => et_not (a := true) (et_test (ev_chain (b := true) ev_c (ev_len (ev_var rfl) hS) (fun _ => ev_c) (ev_is' rv_I0 (by rw [vi_len]; have := v.l1; simp; omega)) (fun _ => ev_is' rv_I0 (by rw [vi_len]; simp; omega)) (fun z => by cases z)))) (fun z => by cases z) fun _ H1 e1 => ?_
    -- each is a count
    refine q_when (b := false) (et_not (a := true) (et_B (ev_allT (el_lcL (fun _ => true) (fun _ => .bl true) (ev_var rfl) (ex_l e1 hS) (by rw [vi_len]; omega) (fun _ => rfl) (fun _ _ _ _ _ => ev_yes) fun i x H2 e2 hi _ => ?_) fun _ _ => ⟨rfl, rfl⟩))) (fun z => by cases z) fun _ H2 e2 => ?_
    · obtain ⟨h1, rfl⟩ := vi_some hi
      have hr := v.rg _ (List.getElem_mem h1)
      rw [← getD_at h1] at hr
      exact ev_call (ea_cons (ev_var rfl) (ea_cons ev_c (ea_cons (ev_var rfl) ea_nil))) (sv_is_count1 (by omega) (by omega))
    -- they rise
    refine s_ret (ev_allT (el_lcZ (n := b.length - 1) (fun _ => true) (fun _ => .bl true) (ev_var rfl) (ex_l (e1.trans e2) hS) (el_sl (ev_var rfl) (eo_some ev_c) eo_none (ex_l (e1.trans e2) hS)) ?_ (by omega) (fun _ _ => rfl) (fun _ _ _ _ _ _ _ => ev_yes) fun i x y H3 e3 hx hy _ => ?_) fun _ _ => ⟨rfl, rfl⟩) fun H3 e3 => k H3 ((e1.trans e2).trans e3)
    · rw [cut1, List.length_drop, vi_len]
      omega
    · obtain ⟨h1, rfl⟩ := vi_some hx
      rw [cut1, List.getElem?_drop] at hy
      obtain ⟨h2, rfl⟩ := vi_some hy
      refine ev_is (ev_op (ev_var rfl) (ev_var rfl) rv_I0) ?_
      have hp := List.pairwise_iff_getElem.mp v.up i (1 + i) h1 h2 (by omega)
      rw [getD_at h1, getD_at h2]
      simp [hp]

/-- a new Steps -/
def sp_Steps_init (K : PySem.W.Frag) (CS CT : Addr) : Sp := fun vs H Q _ => ∃ (H0 : Hp) (x dx l : Addr) (m : Nat) (b : List Nat), vs = [.ref x, .int (m : Int), .ref l] ∧ Ex H0 H ∧ H0 x = none ∧ H x = some (.ins CS dx []) ∧ H0 l = some (.lst (vi b)) ∧ M.VS m b ∧ ∀ H', Ex H0 H' → StepsAt K CS m b H' x → Q .non H'
theorem step_put {m r : V} : putF "rows" r (putF "most" m []) = ([("most", m), ("rows", r)] : List (Str × V)) := by
  have h : ¬ (("most" : Str) = "rows") := by decide +kernel
  show (if ("most" : Str) = "rows" then _ else (("most" : Str), m) :: putF "rows" r []) = _
  rw [if_neg h]
  rfl
theorem ok_Steps_init (D_is_count : Dn P w K mg base 1 "is_count" ["value", "least", "most"] [] (sp_is_count K CS CT)) (D_are_bounds : Dn P w K mg base 2 "are_bounds" ["value", "most"] [] (sp_are_bounds K CS CT)) {f : Addr} {fd : FuncData} (F : FnP K "__init__" "Steps.__init__" d_Steps_init [] [] f fd) (T : Tx K mg CS CT pgs) : FnOk P w K mg base CX0 3 f fd ["self", "most", "bounds"] (sp_Steps_init K CS CT) := by
  refine F.ok sc_Steps_init (fun vs H Q E h => ?_) (fun cdv A outer s H vs Q E hr h => ?_)
  · obtain ⟨H0, x, dx, l, m, b, rfl, _⟩ := h
    rfl
  · obtain ⟨H0, x, dx, l, m, b, rfl, e0, x0, hx, hl, v, k⟩ := h
    refine ⟨_, PSs.nox (pss_cons (ps_if (pt_not (pt_val (pe_callD D_is_count hr (by decide) (by rfl) (pa_cons (pv 1) (pa_cons pe_int (pa_cons (pe_gcR (by rfl) T.g_MOST_ROOM) pa_nil)))))) pss_never pss_nil)
    (pss_cons (ps_if (pt_not (pt_val (pe_callD D_are_bounds hr (by decide) (by rfl) (pa_cons (pv 2) (pa_cons (pv 1) pa_nil))))) pss_never pss_nil)
    (pss_cons (ps_fld (pv 0) (pv 1) rfl)
    (pss_one (ps_fld (pv 0) (pe_callTy call_tuple_of (by rfl) T.b_tuple bt_tuple (pa_cons (pv 2) pa_nil)) rfl))))), ?_⟩
    refine q_pass (et_not (a := true) (et_B (ev_call (ea_cons (ev_var rfl) (ea_cons ev_c (ea_cons ev_c ea_nil))) (sv_is_count1 (by have := v.m1; omega) (by have := v.m2; omega))))) fun H1 e1 => ?_
    refine q_pass (et_not (a := true) (et_B (ev_call (z := .bl true) (ea_cons (ev_var rfl) (ea_cons (ev_var rfl) ea_nil)) fun H2 e2 Q q E => ⟨l, b, m, rfl, v, ((e0.trans e1).trans e2) _ _ hl, q⟩))) fun H2 e2 => ?_
    refine q_fldV (R := fun v _ => v = .int (m : Int)) (Gv.of (ev_var rfl) fun _ _ => rfl) rfl ((e1.trans e2) _ _ hx) T.cS T.n_most (by decide) fun v1 H3 e3 hv => ?_
    subst hv
    have e03 : Ex H0 H3 := ((e0.trans e1).trans e2).trans e3
    have e04 : Ex H0 (upd H3 x (.ins CS dx (putF "most" (.int (m : Int)) []))) := Ex.mut e03 x0
    refine s_fldV (gv_tupL (xs := vi b) (ev_var rfl) (sq_of (e04 _ _ hl))) rfl upd_same T.cS T.n_rows (by show 1 < 1000; decide) fun v1 H5 e5 hv => ?_
    obtain ⟨r, rfl, hr'⟩ := hv
    refine k _ (Ex.mut (e04.trans e5) x0) ⟨v, dx, r, by rw [step_put]; exact upd_same, ?_⟩
    exact sqT_ins hr' (e5 _ _ upd_same)

/-- len(steps) -/
def sp_Steps_len (K : PySem.W.Frag) (CS CT : Addr) : Sp := fun vs H Q _ => ∃ (a : Addr) (m : Nat) (b : List Nat), vs = [.ref a] ∧ StepsAt K CS m b H a ∧ RetV (.int (b.length : Int)) H Q
theorem sv_Steps_len {H : Hp} {a : Addr} {m : Nat} {b : List Nat} (h : StepsAt K CS m b H a) : SpV (sp_Steps_len K CS CT) [.ref a] H (.int (b.length : Int)) := fun H1 e1 Q q E => ⟨a, m, b, rfl, h.ex e1, q⟩
theorem ok_Steps_len  {f : Addr} {fd : FuncData} (F : FnP K "__len__" "Steps.__len__" d_Steps_len [] [] f fd) (T : Tx K mg CS CT pgs) : FnOk P w K mg base CX0 1 f fd ["self"] (sp_Steps_len K CS CT) := by
  refine F.ok sc_Steps_len (fun vs H Q E h => ?_) (fun cdv A outer s H vs Q E hr h => ?_)
  · obtain ⟨a, m, b, rfl, _⟩ := h
    rfl
  · obtain ⟨a, m, b, rfl, ⟨v, dx, r, ha, hr'⟩, k⟩ := h
    refine ⟨_, PSs.nox (pss_one (ps_ret (pe_callB call_len_seq (by rfl) T.b_len bt_len (pa_cons (pe_fld (pv 0) rfl) pa_nil)))), ?_⟩
    exact s_ret (ev_is (ev_lenT (ev_fld (ev_var rfl) ha T.cS T.n_rows (steps_rows _ _)) hr') (by rw [vi_len])) k
/-- steps.class_of(room) -/
def sp_Steps_class_of (K : PySem.W.Frag) (CS CT : Addr) : Sp := fun vs H Q _ => ∃ (a : Addr) (m : Nat) (b : List Nat) (x : Nat), vs = [.ref a, .int (x : Int)] ∧ StepsAt K CS m b H a ∧ x ≤ m ∧ RetV (.int (M.clsOf b x : Int)) H Q
theorem filt_len (b : List Nat) (f : Nat → Bool) : (given b.length (fun i => f (b.getD i 0)) (fun i => .int ((b.getD i 0 : Nat) : Int))).length = (b.filter f).length := by
  unfold given
  rw [List.length_map]
  have e : b = (List.range b.length).map fun i => b.getD i 0 := by
    refine List.ext_getElem (by simp) fun i h1 h2 => ?_
    rw [List.getElem_map, List.getElem_range, getD_at h1]
  conv => rhs; rw [e, List.filter_map, List.length_map]
  rfl
theorem ok_Steps_class_of (D_is_count : Dn P w K mg base 1 "is_count" ["value", "least", "most"] [] (sp_is_count K CS CT)) {f : Addr} {fd : FuncData} (F : FnP K "class_of" "Steps.class_of" d_Steps_class_of [] [] f fd) (T : Tx K mg CS CT pgs) : FnOk P w K mg base CX0 2 f fd ["self", "room"] (sp_Steps_class_of K CS CT) := by
  refine F.ok sc_Steps_class_of (fun vs H Q E h => ?_) (fun cdv A outer s H vs Q E hr h => ?_)
  · obtain ⟨a, m, b, x, rfl, _⟩ := h
    rfl
  · obtain ⟨a, m, b, x, rfl, ⟨v, dx, r, ha, hr'⟩, hx, k⟩ := h
    have hl8 := v.l8
    refine ⟨_, PSs.nox (pss_cons (ps_if (pt_not (pt_val (pe_callD D_is_count hr (by decide) (by rfl) (pa_cons (pv 1) (pa_cons pe_int (pa_cons (pe_fld (pv 0) rfl) pa_nil)))))) pss_never pss_nil)
    (pss_one (ps_ret (pe_callB call_len_seq (by rfl) T.b_len bt_len (pa_cons (pe_lc (te := (tVar 2)) (tt := (tTest (tOp (rI0 fun i j => .bl (decide (i ≤ j))) (tVar 2) (tVar 1)))) (own := [("bound", 2)]) rfl sc_Steps_class_of.nd (pi_tup (pe_fld (pv 0) rfl)) (blkOk_by (own := [("bound", 2)]) (N := ["self", "room", "bound"]) (sc := defScope d_Steps_class_of) (by decide +kernel)) (fun _ _ _ _ _ => (pg_name (i := 2) sc_Steps_class_of.nd rfl (.inl rfl) (.inr rfl))) (fun _ _ _ _ _ => (pts_one (pt_cmpR op_le (pv 2) (pv 1) (nomark _)))) (fun _ _ _ _ _ => (pv 2))) pa_nil))))), ?_⟩
    refine q_pass (et_not (a := true) (et_B (ev_call (ea_cons (ev_var rfl) (ea_cons ev_c (ea_cons (ev_fld (ev_var rfl) ha T.cS T.n_most (steps_most _ _)) ea_nil))) (sv_is_count1 (by omega) (by omega))))) fun H1 e1 => ?_
    refine s_ret (ev_is (ev_lenN (el_lcT (fun i => decide (b.getD i 0 ≤ x)) (fun i => .int ((b.getD i 0 : Nat) : Int)) (ev_fld (ev_var rfl) (e1 _ _ ha) T.cS T.n_rows (steps_rows _ _)) (ex_t e1 hr') (by rw [vi_len]; omega) (fun _ => rfl)
      (fun i y H2 e2 hi => ?_) fun i y H2 e2 hi _ => ?_)) ?_) fun H2 e2 => k H2 (e1.trans e2)
    · obtain ⟨h1, rfl⟩ := vi_some hi
      exact et_is (et_test (ev_op (ev_var rfl) (ev_var rfl) rv_I0)) (by simp)
    · obtain ⟨h1, rfl⟩ := vi_some hi
      exact ev_var rfl
    · rw [vi_len, filt_len b fun y => decide (y ≤ x)]
      rfl
/-- check_steps(steps) -/
def sp_check_steps (K : PySem.W.Frag) (CS CT : Addr) : Sp := fun vs H Q _ => ∃ (a : Addr) (m : Nat) (b : List Nat), vs = [.ref a] ∧ StepsAt K CS m b H a ∧ RetV .non H Q
theorem ok_check_steps  {f : Addr} {fd : FuncData} (F : FnP K "check_steps" "check_steps" d_check_steps [] [] f fd) (T : Tx K mg CS CT pgs) : FnOk P w K mg base CX0 1 f fd ["value"] (sp_check_steps K CS CT) := by
  refine F.ok sc_check_steps (fun vs H Q E h => ?_) (fun cdv A outer s H vs Q E hr h => ?_)
  · obtain ⟨a, m, b, rfl, _⟩ := h
    rfl
  · obtain ⟨a, m, b, rfl, ⟨v, dx, r, ha, hr'⟩, k⟩ := h
    refine ⟨_, PSs.nox (pss_one (ps_if (pt_not (pt_val (pe_callB call_isi (by rfl) T.b_isinstance bt_isinstance (pa_cons (pv 0) (pa_cons (pe_gcR (by rfl) T.g_Steps) pa_nil))))) pss_never pss_nil)), ?_⟩
    exact s_pass (et_not (a := true) (et_B (ev_isi (ev_var rfl) ev_c (ClsV.own _) (fun H1 e1 => T.isS _ _ _ _ (e1 _ _ ha)) T.kS))) k
/-- check_size(steps, size) -/
def sp_check_size (K : PySem.W.Frag) (CS CT : Addr) : Sp := fun vs H Q _ => ∃ (a : Addr) (m : Nat) (b : List Nat) (x : Nat), vs = [.ref a, .int (x : Int)] ∧ StepsAt K CS m b H a ∧ 1 ≤ x ∧ x ≤ m ∧ RetV .non H Q
theorem ok_check_size (D_is_count : Dn P w K mg base 1 "is_count" ["value", "least", "most"] [] (sp_is_count K CS CT)) {f : Addr} {fd : FuncData} (F : FnP K "check_size" "check_size" d_check_size [] [] f fd) (T : Tx K mg CS CT pgs) : FnOk P w K mg base CX0 2 f fd ["steps", "size"] (sp_check_size K CS CT) := by
  refine F.ok sc_check_size (fun vs H Q E h => ?_) (fun cdv A outer s H vs Q E hr h => ?_)
  · obtain ⟨a, m, b, x, rfl, _⟩ := h
    rfl
  · obtain ⟨a, m, b, x, rfl, ⟨v, dx, r, ha, hr'⟩, h1, h2, k⟩ := h
    refine ⟨_, PSs.nox (pss_one (ps_if (pt_not (pt_val (pe_callD D_is_count hr (by decide) (by rfl) (pa_cons (pv 1) (pa_cons pe_int (pa_cons (pe_fld (pv 0) rfl) pa_nil)))))) pss_never pss_nil)), ?_⟩
    exact s_pass (et_not (a := true) (et_B (ev_call (ea_cons (ev_var rfl) (ea_cons ev_c (ea_cons (ev_fld (ev_var rfl) ha T.cS T.n_most (steps_most _ _)) ea_nil))) (sv_is_count1 (by omega) (by omega))))) k
/-- steps.need(size) -/
def optV : Option Nat → V
  | none => .non
  | some n => .int (n : Int)
def sp_Steps_need (K : PySem.W.Frag) (CS CT : Addr) : Sp := fun vs H Q _ => ∃ (a : Addr) (m : Nat) (b : List Nat) (x : Nat), vs = [.ref a, .int (x : Int)] ∧ StepsAt K CS m b H a ∧ 1 ≤ x ∧ x ≤ m ∧ RetV (optV (M.needOf b x)) H Q
theorem ok_Steps_need (D_check_size : Dn P w K mg base 2 "check_size" ["steps", "size"] [] (sp_check_size K CS CT)) {f : Addr} {fd : FuncData} (F : FnP K "need" "Steps.need" d_Steps_need [] [] f fd) (T : Tx K mg CS CT pgs) : FnOk P w K mg base CX0 3 f fd ["self", "size"] (sp_Steps_need K CS CT) := by
  refine F.ok sc_Steps_need (fun vs H Q E h => ?_) (fun cdv A outer s H vs Q E hr h => ?_)
  · obtain ⟨a, m, b, x, rfl, _⟩ := h
    rfl
  · obtain ⟨a, m, b, x, rfl, hs, h1, h2, k⟩ := h
    obtain ⟨v, dx, r, ha, hr'⟩ := id hs
    have hl8 := v.l8
    refine ⟨_, PSs.nox (pss_cons (ps_expr (pe_callD D_check_size hr (by decide) (by rfl) (pa_cons (pv 0) (pa_cons (pv 1) pa_nil))))
    (pss_cons (ps_set (i := 2) sc_Steps_need.nd rfl (.inl rfl) (pe_callB call_len_seq (by rfl) T.b_len bt_len (pa_cons (pe_lc (te := (tVar 3)) (tt := (tTest (tOp (rI0 fun i j => .bl (decide (i < j))) (tVar 3) (tVar 1)))) (own := [("bound", 3)]) rfl sc_Steps_need.nd (pi_tup (pe_fld (pv 0) rfl)) (blkOk_by (own := [("bound", 3)]) (N := ["self", "size", "lesser", "bound"]) (sc := defScope d_Steps_need) (by decide +kernel)) (fun _ _ _ _ _ => (pg_name (i := 3) sc_Steps_need.nd rfl (.inl rfl) (.inr rfl))) (fun _ _ _ _ _ => (pts_one (pt_cmpR op_lt (pv 3) (pv 1) (nomark _)))) (fun _ _ _ _ _ => (pv 3))) pa_nil)))
    (pss_one (ps_ret (pe_ifExp (pt_cmpR op_lt (pv 2) (pe_callB call_len_seq (by rfl) T.b_len bt_len (pa_cons (pe_fld (pv 0) rfl) pa_nil)) (nomark _)) (pe_op op_add (pv 2) pe_int) pe_non))))), ?_⟩
    refine q_drop (ev_call (z := .non) (ea_cons (ev_var rfl) (ea_cons (ev_var rfl) ea_nil)) fun H2 e2 Q q E => ⟨a, m, b, x, rfl, hs.ex e2, h1, h2, q⟩) fun H1 e1 => ?_
    refine q_asg (v := .int (M.ltOf b x : Int)) (ev_is (ev_lenN (el_lcT (fun i => decide (b.getD i 0 < x)) (fun i => .int ((b.getD i 0 : Nat) : Int)) (ev_fld (ev_var rfl) (e1 _ _ ha) T.cS T.n_rows (steps_rows _ _)) (ex_t e1 hr') (by rw [vi_len]; omega) (fun _ => rfl)
      (fun i y H2 e2 hi => ?_) fun i y H2 e2 hi _ => ?_)) ?_) fun H2 e2 => ?_
    · obtain ⟨h1, rfl⟩ := vi_some hi
      exact et_is (et_test (ev_op (ev_var rfl) (ev_var rfl) rv_I0)) (by simp)
    · obtain ⟨h1, rfl⟩ := vi_some hi
      exact ev_var rfl
    · rw [vi_len, filt_len b fun y => decide (y < x)]
      rfl
    · have e12 := e1.trans e2
      refine s_ret (ev_if (b := decide (M.ltOf b x < b.length)) (et_is (et_test (ev_op (ev_var rfl) (ev_lenT (ev_fld (ev_var rfl) (e12 _ _ ha) T.cS T.n_rows (steps_rows _ _)) (ex_t e12 hr')) rv_I0)) (by rw [vi_len]; simp)) (fun z => ?_) fun z => ?_) fun H3 e3 => k H3 (e12.trans e3)
      · refine ev_is (ev_op (ev_var rfl) ev_c rv_I0) ?_
        unfold M.needOf
        rw [if_pos (of_decide_eq_true z)]
        rfl
      · refine ev_is ev_c ?_
        unfold M.needOf
        rw [if_neg (of_decide_eq_false z)]
        rfl
end
end Rt
end
section
/-! Trees. Printed by gen_rules.py from RtB.src. -/
namespace Rt
open PySem PySem.Spec PyProof.Rows L2 Evl

/-! ### lists of ints as data -/
def dInts (t : List Nat) : List PyData := t.map fun (n : Nat) => PyData.int (n : Int)
theorem dInts_lay (t : List Nat) : PyData.canLayAll0 (dInts t) = true := by
  induction t with
  | nil => simp [dInts, PyData.canLayAll0]
  | cons n t ih => simpa [dInts, PyData.canLayAll0, PyData.canLay0] using ih
theorem dInts_depth (t : List Nat) : PyData.depthAll (dInts t) ≤ 1 := by
  induction t with
  | nil => simp [dInts, PyData.depthAll]
  | cons n t ih =>
    have e : dInts (n :: t) = PyData.int (n : Int) :: dInts t := rfl
    rw [e]
    simp only [PyData.depthAll, PyData.depth]
    omega
theorem dp_ints {K : PySem.W.Frag} {H : Hp} : ∀ t : List Nat, DpAll K H (vi t) (dInts t)
  | [] => .nil
  | n :: t => .cons (.int _) (dp_ints t)
/-- (classes, told row) -/
def dTree (c : Nat) (t : List Nat) : PyData := .tuple [.int (c : Int), .tuple (dInts t)]
theorem dTree_lay (c : Nat) (t : List Nat) : (dTree c t).canLay0 = true := by
  simp [dTree, PyData.canLay0, PyData.canLayAll0, dInts_lay]
theorem dTree_shaped (c : Nat) (t : List Nat) : SeqAt.shaped (dTree c t) = true := by
  have h := dInts_depth t
  have : (dTree c t).depth ≤ 64 := by
    simp only [dTree, PyData.depth, PyData.depthAll]
    omega
  unfold SeqAt.shaped
  rw [dTree_lay]
  simpa using this

/-! ### slices -/
theorem cut_take (xs : List V) (k : Nat) : cutV xs none (some (k : Int)) = xs.take k := by
  unfold cutV
  rw [HT.sIx_none, HT.sIx_nat]
  simp [List.take_eq_take_iff]
theorem cut_drop (xs : List V) (k : Nat) : cutV xs (some (k : Int)) none = xs.drop k := by
  unfold cutV
  rw [HT.sIx_none, HT.sIx_nat]
  by_cases h : k ≤ xs.length
  · rw [Nat.min_eq_left h, List.take_of_length_le (by simp)]
  · rw [Nat.min_eq_right (by omega), List.drop_of_length_le (Nat.le_refl _), List.drop_of_length_le (by omega), List.take_nil]
theorem vi_set (t : List Nat) (n v : Nat) (h1 : 1 ≤ n) (h2 : n ≤ t.length) : (vi t).take (n - 1) ++ (.int (v : Int) :: (vi t).drop n) = vi (M.st t n v) := by
  unfold M.st
  rw [List.set_eq_take_append_cons_drop, if_pos (by omega)]
  unfold vi
  rw [List.map_append, List.map_take, List.map_cons, List.map_drop]
  rw [show n - 1 + 1 = n by omega]

section
variable {K : PySem.W.Frag} {σ : L2.St} {H H' : Hp} {ta tb te t1 t2 : TE} {t : TA} {x y z v : V} {vs xs ys : List V} {R : V → Hp → Prop} {a C dx : Addr} {E : XK} {sp : Sp}
theorem ea_star (h : Gv te σ H (fun v H1 => ∃ p, v = .ref p ∧ SqT K H1 p xs)) (ht : EvA t σ H ys) : EvA (StX.tStar K te t) σ H (xs ++ ys) := fun H1 e Q q =>
  h H1 e _ fun v H2 e2 ⟨p, hv, hp⟩ => ⟨p, xs, hv, .inl hp, ht H2 (e.trans e2) _ fun H3 e3 => q H3 (e2.trans e3)⟩
theorem gv_slT {tl th : TO} {lo hi : Option Int} (h : Ev te σ H (.ref a)) (h1 : EvO tl σ H lo) (h2 : EvO th σ H hi) (hs : SqT K H a xs) (hw : ¬ (HT.sIx xs.length 0 lo = 0 ∧ HT.sIx xs.length xs.length hi = xs.length)) :
    Gv (tSl (rSlT K) te tl th) σ H (fun v H1 => ∃ p, v = .ref p ∧ SqT K H1 p (cutV xs lo hi)) := fun H1 e Q q =>
  h H1 e _ fun H2 e2 => h1 H2 (e.trans e2) _ fun H3 e3 => h2 H3 ((e.trans e2).trans e3) _ fun H4 e4 =>
    ⟨a, xs, rfl, ex_t (((e.trans e2).trans e3).trans e4) hs, hw, fun p hp => q _ _ (((e2.trans e3).trans e4).trans (Ex.new hp)) ⟨p, rfl, st_of upd_same⟩⟩
/-- C(v, a new list) -/
theorem gv_make2L (h1 : Ev t1 σ H v) (h2 : EvL t2 σ H xs) (hs : ∀ H1 p, Ex H H1 → H1 p = some (.lst xs) → ∀ x dx, H1 x = none → H1 dx = none → dx ≠ x → ∀ Q : VK, (∀ H2, Ex H1 H2 → R (.ref x) H2 → Q .non H2) → sp [.ref x, v, .ref p] (upd (upd H1 dx (.own x)) x (.ins C dx [])) Q E) :
    Gv (tMake C sp [] E (tCons t1 (tCons t2 tNil))) σ H R := fun H1 e Q q =>
  h1 H1 e _ fun H2 e2 => h2 H2 (e.trans e2) _ fun p H3 hp e3 h3 => fun x dx hx hd ne => by
    exact hs H3 p ((e.trans e2).trans e3) h3 x dx hx hd ne _ fun H4 e4 r => ⟨rfl, q _ _ ((e2.trans e3).trans e4) r⟩
end

section
variable {P : Program} {w : World} {K : PySem.W.Frag} {mg : Str → Option Value} {base : Heap} {CS CT pgs : Addr}
/-- are_told of a good list -/
def sp_are_told (K : PySem.W.Frag) (CS CT : Addr) : Sp := fun vs H Q _ => ∃ (a : Addr) (t : List Nat) (c pg : Nat), vs = [.ref a, .int (c : Int)] ∧ M.VT c pg t ∧ H a = some (.lst (vi t)) ∧ RetV (.bl true) H Q
theorem ok_are_told (D_is_count : Dn P w K mg base 1 "is_count" ["value", "least", "most"] [] (sp_is_count K CS CT)) {f : Addr} {fd : FuncData} (F : FnP K "are_told" "are_told" d_are_told [] [] f fd) (T : Tx K mg CS CT pgs) : FnOk P w K mg base CX0 2 f fd ["value", "classes"] (sp_are_told K CS CT) := by
  refine F.ok sc_are_told (fun vs H Q E h => ?_) (fun cdv A outer s H vs Q E hr h => ?_)
  · obtain ⟨a, t, c, pg, rfl, _⟩ := h
    rfl
  · obtain ⟨a, t, c, pg, rfl, v, ha, k⟩ := h
    have hS : SqL K H a (vi t) := sq_of ha
    have h63 : t.length ≤ 63 := by have := v.len; have := v.P32; omega
    obtain ⟨u, hu, ru⟩ := T.g_PAGES
    refine ⟨_, PSs.nox (pss_cons (ps_if (PW.pt (pw_or (pt_not (pt_val (pe_callB call_isiT (by rfl) T.b_isinstance bt_isinstance (pa_cons (pv 0) (pa_cons (pe_tup (pa_cons (pe_bltn (v := .ty "list") (by rfl) T.b_list bt_list rfl) (pa_cons (pe_bltn (v := .ty "tuple") (by rfl) T.b_tuple bt_tuple rfl) pa_nil))) pa_nil))))) (pw_or1 (pt_cmpR op_notIn_seq (pe_op op_add (pe_callB call_len_seq (by rfl) T.b_len bt_len (pa_cons (pv 0) pa_nil)) pe_int) (pe_lc (te := (tOp (rI CMul fun i j => .int (i * j)) (tC (.int 2)) (tVar 2))) (tt := tYes) (own := [("pages", 2)]) rfl sc_are_told.nd (pi_tup (pe_gcR (by rfl) T.g_PAGES)) (blkOk_by (own := [("pages", 2)]) (N := ["value", "classes", "pages", "one"]) (sc := defScope d_are_told) (by decide +kernel)) (fun _ _ _ _ _ => (pg_name (i := 2) sc_are_told.nd rfl (.inl rfl) (.inr rfl))) (fun _ _ _ _ _ => pts_nil) (fun _ _ _ _ _ => (pe_op op_mul pe_int (pv 2)))) (by with_unfolding_all rfl))))) (pss_one (ps_ret pe_bl)) pss_nil)
    (pss_one (ps_ret (pe_callB (cr_all (by rfl)) (by rfl) T.b_all bt_all (pa_cons (pe_lc (te := (tCall (sp_is_count K CS CT) [] E0 (tCons (tVar 3) (tCons (tC (.int 0)) (tCons (tVar 1) tNil))))) (tt := tYes) (own := [("one", 3)]) rfl sc_are_told.nd (pi_list (pv 0)) (blkOk_by (own := [("one", 3)]) (N := ["value", "classes", "pages", "one"]) (sc := defScope d_are_told) (by decide +kernel)) (fun _ _ _ _ _ => (pg_name (i := 3) sc_are_told.nd rfl (.inl rfl) (.inr rfl))) (fun _ _ _ _ _ => pts_nil) (fun _ _ _ _ _ => (pe_callD D_is_count hr (by decide) (by rfl) (pa_cons (pv 3) (pa_cons pe_int (pa_cons (pv 1) pa_nil)))))) pa_nil))))), ?_⟩
    refine q_when (b := false) (et_or (a := false) (b := false) (et_not (a := true) (et_B (ev_isiT (tv := .type "list") (us := [.type "list", .type "tuple"]) (ev_var rfl) (eu_tup (ea_cons ev_c (ea_cons ev_c ea_nil)) (by decide)) (.cons (ClsV.ty _) (.cons (ClsV.ty _) .nil)) (fun H1 e1 => .base (.lst (e1 _ _ ha))) (kitAny_cons (b := true) (kit_ty (by decide +kernel)) (fun z => by cases z) fun _ => rfl))))
      fun _ => et_is (et_test (ev_opL (x := .int (2 * (pg : Int))) (ev_is (ev_op (ev_len (ev_var rfl) hS) ev_c rv_I0) (by rw [vi_len]; have := v.len; congr 1; omega))
        (el_lcT (xs := vi [2, 4, 8, 16, 32]) (fun _ => true) (fun i => .int (2 * (([2, 4, 8, 16, 32].getD i 0 : Nat) : Int))) ev_c (T.pages H) (by decide) (fun _ => rfl) (fun _ _ _ _ _ => ev_yes) fun i x H2 e2 hi _ => ?_)
        fun p H1 h1 _ => rv_niL (sq_of h1) rfl rfl)) ?_) (fun z => by cases z) fun _ H1 e1 => ?_
    · obtain ⟨h1, rfl⟩ := vi_some hi
      exact ev_op ev_c (ev_var rfl) (rv_I (.inl ⟨by decide, by decide⟩))
    · rcases v.pg with h | h | h | h | h <;> subst h <;> rfl
    · refine s_ret (ev_allT (el_lcL (fun _ => true) (fun _ => .bl true) (ev_var rfl) (ex_l e1 hS) (by rw [vi_len]; omega) (fun _ => rfl) (fun _ _ _ _ _ => ev_yes) fun i x H2 e2 hi _ => ?_) fun _ _ => ⟨rfl, rfl⟩) fun H2 e2 => k H2 (e1.trans e2)
      obtain ⟨h1, rfl⟩ := vi_some hi
      have hle := v.le _ (List.getElem_mem h1)
      rw [← getD_at h1] at hle
      exact ev_call (ea_cons (ev_var rfl) (ea_cons ev_c (ea_cons (ev_var rfl) ea_nil))) (sv_is_count1 (by omega) (by omega))
/-- a new Tree -/
def sp_Tree_init (K : PySem.W.Frag) (CS CT : Addr) : Sp := fun vs H Q _ => ∃ (H0 : Hp) (x dx l : Addr) (c pg : Nat) (t : List Nat), vs = [.ref x, .int (c : Int), .ref l] ∧ Ex H0 H ∧ H0 x = none ∧ H x = some (.ins CT dx []) ∧ H0 l = some (.lst (vi t)) ∧ M.VT c pg t ∧ ∀ H', Ex H0 H' → TreeAt K CT c pg t H' x → Q .non H'
theorem n12 : ¬ (("classes" : Str) = "told_row") := by decide +kernel
theorem n13 : ¬ (("classes" : Str) = "pages") := by decide +kernel
theorem n14 : ¬ (("classes" : Str) = "leaves") := by decide +kernel
theorem n23 : ¬ (("told_row" : Str) = "pages") := by decide +kernel
theorem n24 : ¬ (("told_row" : Str) = "leaves") := by decide +kernel
theorem n34 : ¬ (("pages" : Str) = "leaves") := by decide +kernel
theorem tput2 {a b : V} : putF "told_row" b (putF "classes" a []) = ([("classes", a), ("told_row", b)] : List (Str × V)) := by
  simp only [putF, n12, if_false]
theorem tput3 {a b c : V} : putF "pages" c (putF "told_row" b (putF "classes" a [])) = ([("classes", a), ("told_row", b), ("pages", c)] : List (Str × V)) := by
  rw [tput2]
  simp only [putF, n13, n23, if_false]
theorem tput4 {a b c d : V} : putF "leaves" d (putF "pages" c (putF "told_row" b (putF "classes" a []))) = ([("classes", a), ("told_row", b), ("pages", c), ("leaves", d)] : List (Str × V)) := by
  rw [tput3]
  simp only [putF, n14, n24, n34, if_false]
theorem tget3 {a b c : V} : (putF "pages" c (putF "told_row" b (putF "classes" a []))).lookup ("pages" : Str) = some c := by
  rw [lookup_putF, if_pos rfl]
theorem leaves_rg (pg : Nat) : rgV (pg : Int) (2 * (pg : Int)) = (List.range pg).map fun i => V.int ((pg + i : Nat) : Int) := by
  unfold rgV
  rw [show (2 * (pg : Int) - (pg : Int)).toNat = pg by omega]
  refine List.map_congr_left fun i _ => ?_
  rw [Int.natCast_add]
theorem ok_Tree_init (D_is_count : Dn P w K mg base 1 "is_count" ["value", "least", "most"] [] (sp_is_count K CS CT)) (D_are_told : Dn P w K mg base 2 "are_told" ["value", "classes"] [] (sp_are_told K CS CT)) {f : Addr} {fd : FuncData} (F : FnP K "__init__" "Tree.__init__" d_Tree_init [] [] f fd) (T : Tx K mg CS CT pgs) : FnOk P w K mg base CX0 3 f fd ["self", "classes", "told"] (sp_Tree_init K CS CT) := by
  refine F.ok sc_Tree_init (fun vs H Q E h => ?_) (fun cdv A outer s H vs Q E hr h => ?_)
  · obtain ⟨H0, x, dx, l, c, pg, t, rfl, _⟩ := h
    rfl
  · obtain ⟨H0, x, dx, l, c, pg, t, rfl, e0, x0, hx, hl, v, k⟩ := h
    have hlen := v.len
    have h32 := v.P32
    refine ⟨_, PSs.nox (pss_cons (ps_if (pt_not (pt_val (pe_callD D_is_count hr (by decide) (by rfl) (pa_cons (pv 1) (pa_cons pe_int (pa_cons (pe_gcR (by rfl) T.g_MOST_BOUNDS) pa_nil)))))) pss_never pss_nil)
    (pss_cons (ps_if (pt_not (pt_val (pe_callD D_are_told hr (by decide) (by rfl) (pa_cons (pv 2) (pa_cons (pv 1) pa_nil))))) pss_never pss_nil)
    (pss_cons (ps_fld (pv 0) (pv 1) rfl)
    (pss_cons (ps_fld (pv 0) (pe_callTy call_tuple_of (by rfl) T.b_tuple bt_tuple (pa_cons (pv 2) pa_nil)) rfl)
    (pss_cons (ps_fld (pv 0) (pe_op op_fdiv (pe_op op_add (pe_callB call_len_seq (by rfl) T.b_len bt_len (pa_cons (pv 2) pa_nil)) pe_int) pe_int) rfl)
    (pss_one (ps_fld (pv 0) (pe_tupRg (by rfl) (by rfl) T.b_tuple (prg_2 (by rfl) T.b_range (pe_fld (pv 0) rfl) (pe_op op_mul pe_int (pe_fld (pv 0) rfl)))) rfl))))))), ?_⟩
    refine q_pass (et_not (a := true) (et_B (ev_call (ea_cons (ev_var rfl) (ea_cons ev_c (ea_cons ev_c ea_nil))) (sv_is_count1 (by have := v.c1; omega) (by have := v.c8; omega))))) fun H1 e1 => ?_
    refine q_pass (et_not (a := true) (et_B (ev_call (z := .bl true) (ea_cons (ev_var rfl) (ea_cons (ev_var rfl) ea_nil)) fun H2 e2 Q q E => ⟨l, t, c, pg, rfl, v, ((e0.trans e1).trans e2) _ _ hl, q⟩))) fun H2 e2 => ?_
    refine q_fldV (R := fun v _ => v = .int (c : Int)) (Gv.of (ev_var rfl) fun _ _ => rfl) rfl ((e1.trans e2) _ _ hx) T.cT T.n_classes (by decide) fun v1 H3 e3 hv => ?_
    subst hv
    have e03 : Ex H0 H3 := ((e0.trans e1).trans e2).trans e3
    have e04 := Ex.mut (o := .ins CT dx (putF "classes" (.int (c : Int)) [])) e03 x0
    refine q_fldV (gv_tupL (xs := vi t) (ev_var rfl) (sq_of (e04 _ _ hl))) rfl upd_same T.cT T.n_told_row (by show 1 < 1000; decide) fun v1 H5 e5 hv => ?_
    obtain ⟨tl, rfl, ht1⟩ := hv
    have hx5 := e5 _ _ (upd_same (H := H3))
    have ht2 := sqT_ins (o := .ins CT dx (putF "told_row" (.ref tl) (putF "classes" (.int (c : Int)) []))) ht1 hx5
    have e06 := Ex.mut (o := .ins CT dx (putF "told_row" (.ref tl) (putF "classes" (.int (c : Int)) []))) (e04.trans e5) x0
    refine q_fldV (R := fun v _ => v = .int (pg : Int)) (Gv.of (ev_op (ev_op (ev_len (ev_var rfl) (sq_of (e06 _ _ hl))) ev_c rv_I0) ev_c (rv_I ⟨by decide, by decide⟩)) fun _ _ => by rw [vi_len]; congr 1; omega) rfl upd_same T.cT T.n_pages (by rw [tput2]; show 2 < 1000; decide) fun v1 H7 e7 hv => ?_
    subst hv
    have hx7 := e7 _ _ (upd_same (H := H5))
    have ht3 := sqT_ins (o := .ins CT dx (putF "pages" (.int (pg : Int)) (putF "told_row" (.ref tl) (putF "classes" (.int (c : Int)) [])))) (ex_t e7 ht2) hx7
    have e08 := Ex.mut (o := .ins CT dx (putF "pages" (.int (pg : Int)) (putF "told_row" (.ref tl) (putF "classes" (.int (c : Int)) [])))) (e06.trans e7) x0
    refine s_fldV (gv_tupRg (K := K) (i := (pg : Int)) (j := 2 * (pg : Int)) (ev_fld (ev_var rfl) upd_same T.cT T.n_pages tget3) (ev_op ev_c (ev_fld (ev_var rfl) upd_same T.cT T.n_pages tget3) (rv_I (.inl ⟨by decide, by decide⟩))) (RgOk.of_le (by omega) (by omega) (by omega) (by omega))) rfl upd_same T.cT T.n_leaves (by rw [tput3]; show 3 < 1000; decide) fun v1 H9 e9 hv => ?_
    obtain ⟨lv, rfl, hlv⟩ := hv
    have hx9 := e9 _ _ (upd_same (H := H7))
    rw [leaves_rg] at hlv
    exact k _ (Ex.mut (e08.trans e9) x0) ⟨v, dx, tl, lv, by rw [tput4]; exact upd_same, sqT_ins (ex_t e9 ht3) hx9, sqT_ins hlv hx9⟩
/-- making one -/
theorem mk_Tree {H : Hp} {σ : L2.St} {t1 t2 : TE} {c pg : Nat} {t : List Nat} {E : XK} (h1 : Ev t1 σ H (.int (c : Int))) (h2 : EvL t2 σ H (vi t)) (v : M.VT c pg t) : Gv (tMake CT (sp_Tree_init K CS CT) [] E (tCons t1 (tCons t2 tNil))) σ H (fun u H1 => ∃ a, u = .ref a ∧ TreeAt K CT c pg t H1 a) :=
  gv_make2L h1 h2 fun H1 p e1 hp x dx hx hd ne Q q => ⟨H1, x, dx, p, c, pg, t, rfl, (Ex.new hd).trans (Ex.new (by rw [upd_ne (Ne.symm ne)]; exact hx)), hx, upd_same, hp, v, fun H' e' ht => q H' e' ⟨x, rfl, ht⟩⟩
end
end Rt
end
section
/-! Methods of trees. Printed by gen_rules.py from RtC.src. -/
namespace Rt
open PySem PySem.Spec PyProof.Rows L2 Evl

/-- the way up -/
def wayL (n : Nat) : List Nat := if h : n ≤ 1 then [n] else n :: wayL (n / 2)
termination_by n
decreasing_by omega
theorem way_one {n : Nat} (h : n ≤ 1) : wayL n = [n] := by rw [wayL, dif_pos h]
theorem way_more {n : Nat} (h : ¬ n ≤ 1) : wayL n = n :: wayL (n / 2) := by rw [wayL, dif_neg h]
theorem way_upr {pg : Nat} {t : List Nat} (hu : M.Upr pg t) : ∀ s, 1 ≤ s → s < 2 * pg → ∀ n ∈ wayL s, 1 ≤ n ∧ n ≤ s ∧ M.tg t s ≤ M.tg t n := by
  intro s
  induction s using Nat.strongRecOn with
  | ind s ih =>
    intro h1 h2 n hn
    by_cases h : s ≤ 1
    · rw [way_one h] at hn
      rw [List.mem_singleton] at hn
      subst hn
      exact ⟨h1, Nat.le_refl _, Nat.le_refl _⟩
    · rw [way_more h] at hn
      rcases List.mem_cons.mp hn with e | e
      · subst e
        exact ⟨h1, Nat.le_refl _, Nat.le_refl _⟩
      · obtain ⟨a, b, c⟩ := ih (s / 2) (by omega) (by omega) (by omega) n e
        exact ⟨a, by omega, Nat.le_trans (hu s (by omega) h2) c⟩
theorem vi_append (a b : List Nat) : vi (a ++ b) = vi a ++ vi b := by simp [vi]
theorem way_self (s : Nat) : s ∈ wayL s := by
  by_cases h : s ≤ 1
  · rw [way_one h]; exact List.mem_singleton_self _
  · rw [way_more h]; exact List.mem_cons_self

section
variable {K : PySem.W.Frag} {σ : L2.St} {H H' : Hp} {ta tb te : TE} {t : TA} {x y z v : V} {vs xs ys : List V} {a C dx : Addr} {fs : List (Str × V)} {m : Str} {E : XK} {sp : Sp}
theorem el_rev {p : Addr} (h : Ev te σ H (.ref p)) (hx : SqL K H p xs) : EvL (tRevL K te) σ H xs.reverse := fun H1 e Q q =>
  h H1 e _ fun H2 e2 => ⟨p, xs, rfl, ex_l (e.trans e2) hx, fun l hl => q l _ (fresh_back e2 hl) (e2.trans (Ex.new hl)) upd_same⟩
theorem el_is (h : EvL te σ H xs) (e : xs = ys) : EvL te σ H ys := by
  rw [← e]
  exact h
theorem el_meth (h : Ev ta σ H (.ref a)) (ha : H a = some (.ins C dx fs)) (l : fs.lookup m = none) (hv : EvA t σ H vs) (hs : SpL sp (.ref a :: vs) H xs) : EvL (tMeth C m sp [] E ta t) σ H xs := fun H1 e Q q =>
  h H1 e _ fun H2 e2 => ⟨a, dx, fs, rfl, (e.trans e2) _ _ ha, l, hv H2 (e.trans e2) _ fun H3 e3 => by
    rw [List.append_nil]
    exact hs H3 ((e.trans e2).trans e3) Q (fun p H4 hp e4 r => q p H4 (fresh_back (e2.trans e3) hp) ((e2.trans e3).trans e4) r) E⟩
theorem ev_minL {ns : List Int} {i : Int} (h : EvL te σ H (ns.map V.int)) (hi : i ∈ ns) (hle : ∀ y ∈ ns, i ≤ y) : Ev (tCB (rMin K) (tCons te tNil)) σ H (.int i) := fun H1 e Q q =>
  h H1 e _ fun p H2 _ e2 h2 => ⟨p, ns, rfl, sq_of h2, List.length_pos_of_mem hi, fun m hm hall => by
    have e3 : m = i := Int.le_antisymm (hall i hi) (hle m hm)
    rw [e3]
    exact q H2 e2⟩
end

section
variable {P : Program} {w : World} {K : PySem.W.Frag} {mg : Str → Option Value} {base : Heap} {CS CT pgs : Addr}
def sp_Tree_len (K : PySem.W.Frag) (CS CT : Addr) : Sp := fun vs H Q _ => ∃ (a : Addr) (c pg : Nat) (t : List Nat), vs = [.ref a] ∧ TreeAt K CT c pg t H a ∧ RetV (.int (pg : Int)) H Q
theorem sv_Tree_len {H : Hp} {a : Addr} {c pg : Nat} {t : List Nat} (h : TreeAt K CT c pg t H a) : SpV (sp_Tree_len K CS CT) [.ref a] H (.int (pg : Int)) := fun H1 e1 Q q E => ⟨a, c, pg, t, rfl, h.ex e1, q⟩
theorem ok_Tree_len  {f : Addr} {fd : FuncData} (F : FnP K "__len__" "Tree.__len__" d_Tree_len [] [] f fd) (T : Tx K mg CS CT pgs) : FnOk P w K mg base CX0 1 f fd ["self"] (sp_Tree_len K CS CT) := by
  refine F.ok sc_Tree_len (fun vs H Q E h => ?_) (fun cdv A outer s H vs Q E hr h => ?_)
  · obtain ⟨a, c, pg, t, rfl, _⟩ := h
    rfl
  · obtain ⟨a, c, pg, t, rfl, ⟨v, dx, tl, lv, ha, ht, hlv⟩, k⟩ := h
    refine ⟨_, PSs.nox (pss_one (ps_ret (pe_callB call_len_seq (by rfl) T.b_len bt_len (pa_cons (pe_fld (pv 0) rfl) pa_nil)))), ?_⟩
    exact s_ret (ev_is (ev_lenT (ev_fld (ev_var rfl) ha T.cT T.n_leaves (tree_leaves _ _ _ _)) hlv) (by simp)) k
/-- len(tree), said of any place -/
theorem ev_lenTree {σ : L2.St} {H : Hp} {te : TE} {a : Addr} {c pg : Nat} {t : List Nat} {E : XK} (h : Ev te σ H (.ref a)) (ht : TreeAt K CT c pg t H a) : Ev (tCB (rLenO CT (sp_Tree_len K CS CT) E) (tCons te tNil)) σ H (.int (pg : Int)) := by
  obtain ⟨v, dx, tl, lv, ha, _, _⟩ := id ht
  have := v.P32
  exact ev_lenO h ha (sv_Tree_len ht) (by omega)
def sp_Tree_getitem (K : PySem.W.Frag) (CS CT : Addr) : Sp := fun vs H Q _ => ∃ (a : Addr) (c pg n : Nat) (t : List Nat), vs = [.ref a, .int (n : Int)] ∧ TreeAt K CT c pg t H a ∧ 1 ≤ n ∧ n < 2 * pg ∧ RetV (.int (M.tg t n : Int)) H Q
theorem ok_Tree_getitem (D_is_count : Dn P w K mg base 1 "is_count" ["value", "least", "most"] [] (sp_is_count K CS CT)) {f : Addr} {fd : FuncData} (F : FnP K "__getitem__" "Tree.__getitem__" d_Tree_getitem [] [] f fd) (T : Tx K mg CS CT pgs) : FnOk P w K mg base CX0 2 f fd ["self", "node"] (sp_Tree_getitem K CS CT) := by
  refine F.ok sc_Tree_getitem (fun vs H Q E h => ?_) (fun cdv A outer s H vs Q E hr h => ?_)
  · obtain ⟨a, c, pg, n, t, rfl, _⟩ := h
    rfl
  · obtain ⟨a, c, pg, n, t, rfl, ⟨v, dx, tl, lv, ha, ht, hlv⟩, h1, h2, k⟩ := h
    have hlen := v.len
    refine ⟨_, PSs.nox (pss_cons (ps_if (pt_not (pt_val (pe_callD D_is_count hr (by decide) (by rfl) (pa_cons (pv 1) (pa_cons pe_int (pa_cons (pe_op op_sub (pe_op op_mul pe_int (pe_fld (pv 0) rfl)) pe_int) pa_nil)))))) pss_never pss_nil)
    (pss_one (ps_ret (pe_ix ix_tup (pe_fld (pv 0) rfl) (pe_op op_sub (pv 1) pe_int) (fun _ _ => rfl))))), ?_⟩
    refine q_pass (et_not (a := true) (et_B (ev_call (ea_cons (ev_var rfl) (ea_cons ev_c (ea_cons (ev_op (ev_op ev_c (ev_fld (ev_var rfl) ha T.cT T.n_pages (tree_pages _ _ _ _)) (rv_I (.inl ⟨by decide, by decide⟩))) ev_c rv_I0) ea_nil))) (sv_is_count1 (by omega) (by omega))))) fun H1 e1 => ?_
    exact s_ret (ev_op (ev_fld (ev_var rfl) (e1 _ _ ha) T.cT T.n_told_row (tree_told_row _ _ _ _)) (ev_op (ev_var rfl) ev_c rv_I0) (rv_ixT (ex_t e1 ht) (vi_tg h1 (by omega) rfl))) fun H2 e2 => k H2 (e1.trans e2)
theorem ev_treeAt {σ : L2.St} {H : Hp} {te ti : TE} {a : Addr} {c pg n : Nat} {i : Int} {t : List Nat} {E : XK} (h : Ev te σ H (.ref a)) (ht : TreeAt K CT c pg t H a) (hi : Ev ti σ H (.int i)) (e : i = (n : Int)) (h1 : 1 ≤ n) (h2 : n < 2 * pg) : Ev (tSubO CT (sp_Tree_getitem K CS CT) E te ti) σ H (.int (M.tg t n : Int)) := by
  obtain ⟨v, dx, tl, lv, ha, _, _⟩ := id ht
  subst e
  exact ev_subO h ha hi fun H1 e1 Q q E => ⟨a, c, pg, n, t, rfl, ht.ex e1, h1, h2, q⟩
def sp_Tree_leaf (K : PySem.W.Frag) (CS CT : Addr) : Sp := fun vs H Q _ => ∃ (a : Addr) (c pg n : Nat) (t : List Nat), vs = [.ref a, .int (n : Int)] ∧ TreeAt K CT c pg t H a ∧ n < pg ∧ RetV (.int ((pg + n : Nat) : Int)) H Q
theorem ok_Tree_leaf (D_is_count : Dn P w K mg base 1 "is_count" ["value", "least", "most"] [] (sp_is_count K CS CT)) {f : Addr} {fd : FuncData} (F : FnP K "leaf" "Tree.leaf" d_Tree_leaf [] [] f fd) (T : Tx K mg CS CT pgs) : FnOk P w K mg base CX0 2 f fd ["self", "page"] (sp_Tree_leaf K CS CT) := by
  refine F.ok sc_Tree_leaf (fun vs H Q E h => ?_) (fun cdv A outer s H vs Q E hr h => ?_)
  · obtain ⟨a, c, pg, n, t, rfl, _⟩ := h
    rfl
  · obtain ⟨a, c, pg, n, t, rfl, ⟨v, dx, tl, lv, ha, ht, hlv⟩, h1, k⟩ := h
    refine ⟨_, PSs.nox (pss_cons (ps_if (pt_not (pt_val (pe_callD D_is_count hr (by decide) (by rfl) (pa_cons (pv 1) (pa_cons pe_int (pa_cons (pe_op op_sub (pe_fld (pv 0) rfl) pe_int) pa_nil)))))) pss_never pss_nil)
    (pss_one (ps_ret (pe_op op_add (pe_fld (pv 0) rfl) (pv 1))))), ?_⟩
    refine q_pass (et_not (a := true) (et_B (ev_call (ea_cons (ev_var rfl) (ea_cons ev_c (ea_cons (ev_op (ev_fld (ev_var rfl) ha T.cT T.n_pages (tree_pages _ _ _ _)) ev_c rv_I0) ea_nil))) (sv_is_count1 (by omega) (by omega))))) fun H1 e1 => ?_
    exact s_ret (ev_is (ev_op (ev_fld (ev_var rfl) (e1 _ _ ha) T.cT T.n_pages (tree_pages _ _ _ _)) (ev_var rfl) rv_I0) (by rw [Int.natCast_add])) fun H2 e2 => k H2 (e1.trans e2)
theorem ev_leaf {σ : L2.St} {H : Hp} {te ti : TE} {a : Addr} {c pg n : Nat} {i : Int} {t : List Nat} {E : XK} (h : Ev te σ H (.ref a)) (ht : TreeAt K CT c pg t H a) (hi : Ev ti σ H (.int i)) (e : i = (n : Int)) (h1 : n < pg) : Ev (tMeth CT "leaf" (sp_Tree_leaf K CS CT) [] E te (tCons ti tNil)) σ H (.int ((pg + n : Nat) : Int)) := by
  obtain ⟨v, dx, tl, lv, ha, _, _⟩ := id ht
  subst e
  exact ev_meth h ha (tree_no (by decide +kernel) (by decide +kernel) (by decide +kernel) (by decide +kernel)) (ea_cons hi ea_nil) fun H1 e1 Q q E => ⟨a, c, pg, n, t, rfl, ht.ex e1, h1, q⟩
def sp_Tree_greater (K : PySem.W.Frag) (CS CT : Addr) : Sp := fun vs H Q _ => ∃ (a : Addr) (c pg n : Nat) (t : List Nat), vs = [.ref a, .int (n : Int)] ∧ TreeAt K CT c pg t H a ∧ 1 ≤ n ∧ n < pg ∧ RetV (.int (M.gr t n : Int)) H Q
theorem ok_Tree_greater (D_is_count : Dn P w K mg base 1 "is_count" ["value", "least", "most"] [] (sp_is_count K CS CT)) {f : Addr} {fd : FuncData} (F : FnP K "greater" "Tree.greater" d_Tree_greater [] [] f fd) (T : Tx K mg CS CT pgs) : FnOk P w K mg base CX0 2 f fd ["self", "node"] (sp_Tree_greater K CS CT) := by
  refine F.ok sc_Tree_greater (fun vs H Q E h => ?_) (fun cdv A outer s H vs Q E hr h => ?_)
  · obtain ⟨a, c, pg, n, t, rfl, _⟩ := h
    rfl
  · obtain ⟨a, c, pg, n, t, rfl, ⟨v, dx, tl, lv, ha, ht, hlv⟩, h1, h2, k⟩ := h
    have hlen := v.len
    refine ⟨_, PSs.nox (pss_cons (ps_if (pt_not (pt_val (pe_callD D_is_count hr (by decide) (by rfl) (pa_cons (pv 1) (pa_cons pe_int (pa_cons (pe_op op_sub (pe_fld (pv 0) rfl) pe_int) pa_nil)))))) pss_never pss_nil)
    (pss_one (ps_ret (pe_callB (call_max2 (by rfl)) (by rfl) T.b_max bt_max (pa_cons (pe_callTy call_int1 (by rfl) T.b_int bt_int (pa_cons (pe_ix ix_tup (pe_fld (pv 0) rfl) (pe_op op_sub (pe_op op_mul pe_int (pv 1)) pe_int) (fun _ _ => rfl)) pa_nil)) (pa_cons (pe_callTy call_int1 (by rfl) T.b_int bt_int (pa_cons (pe_ix ix_tup (pe_fld (pv 0) rfl) (pe_op op_mul pe_int (pv 1)) (fun _ _ => rfl)) pa_nil)) pa_nil)))))), ?_⟩
    refine q_pass (et_not (a := true) (et_B (ev_call (ea_cons (ev_var rfl) (ea_cons ev_c (ea_cons (ev_op (ev_fld (ev_var rfl) ha T.cT T.n_pages (tree_pages _ _ _ _)) ev_c rv_I0) ea_nil))) (sv_is_count1 (by omega) (by omega))))) fun H1 e1 => ?_
    refine s_ret (ev_is (ev_max2 (ev_int1 (ev_op (ev_fld (ev_var rfl) (e1 _ _ ha) T.cT T.n_told_row (tree_told_row _ _ _ _)) (ev_op (ev_op ev_c (ev_var rfl) (rv_I (.inl ⟨by decide, by decide⟩))) ev_c rv_I0) (rv_ixT (ex_t e1 ht) (vi_tg (n := 2 * n) (by omega) (by omega) (by omega)))))
      (ev_int1 (ev_op (ev_fld (ev_var rfl) (e1 _ _ ha) T.cT T.n_told_row (tree_told_row _ _ _ _)) (ev_op ev_c (ev_var rfl) (rv_I (.inl ⟨by decide, by decide⟩))) (rv_ixT (ex_t e1 ht) (vi_tg (n := 2 * n + 1) (by omega) (by omega) (by omega)))))) ?_) fun H2 e2 => k H2 (e1.trans e2)
    unfold M.gr
    congr 1
    split <;> omega
theorem ev_greater {σ : L2.St} {H : Hp} {te ti : TE} {a : Addr} {c pg n : Nat} {i : Int} {t : List Nat} {E : XK} (h : Ev te σ H (.ref a)) (ht : TreeAt K CT c pg t H a) (hi : Ev ti σ H (.int i)) (e : i = (n : Int)) (h1 : 1 ≤ n) (h2 : n < pg) : Ev (tMeth CT "greater" (sp_Tree_greater K CS CT) [] E te (tCons ti tNil)) σ H (.int (M.gr t n : Int)) := by
  obtain ⟨v, dx, tl, lv, ha, _, _⟩ := id ht
  subst e
  exact ev_meth h ha (tree_no (by decide +kernel) (by decide +kernel) (by decide +kernel) (by decide +kernel)) (ea_cons hi ea_nil) fun H1 e1 Q q E => ⟨a, c, pg, n, t, rfl, ht.ex e1, h1, h2, q⟩
def sp_Tree_with_told (K : PySem.W.Frag) (CS CT : Addr) : Sp := fun vs H Q _ => ∃ (a : Addr) (c pg n x : Nat) (t : List Nat), vs = [.ref a, .int (n : Int), .int (x : Int)] ∧ TreeAt K CT c pg t H a ∧ 1 ≤ n ∧ n < 2 * pg ∧ x ≤ c ∧ RetP (fun u H1 => ∃ b, u = .ref b ∧ TreeAt K CT c pg (M.st t n x) H1 b) H Q
theorem ok_Tree_with_told (D_is_count : Dn P w K mg base 1 "is_count" ["value", "least", "most"] [] (sp_is_count K CS CT)) (D_Tree_init : Dk P w K mg base 3 "Tree" CT ["self", "classes", "told"] (sp_Tree_init K CS CT)) {f : Addr} {fd : FuncData} (F : FnP K "with_told" "Tree.with_told" d_Tree_with_told [] [] f fd) (T : Tx K mg CS CT pgs) : FnOk P w K mg base CX0 5 f fd ["self", "node", "told"] (sp_Tree_with_told K CS CT) := by
  refine F.ok sc_Tree_with_told (fun vs H Q E h => ?_) (fun cdv A outer s H vs Q E hr h => ?_)
  · obtain ⟨a, c, pg, n, x, t, rfl, _⟩ := h
    rfl
  · obtain ⟨a, c, pg, n, x, t, rfl, ⟨v, dx, tl, lv, ha, ht, hlv⟩, h1, h2, h3, k⟩ := h
    have hlen := v.len
    have h32 := v.P32
    refine ⟨_, PSs.nox (pss_cons (ps_if (pt_not (pt_val (pe_callD D_is_count hr (by decide) (by rfl) (pa_cons (pv 1) (pa_cons pe_int (pa_cons (pe_op op_sub (pe_op op_mul pe_int (pe_fld (pv 0) rfl)) pe_int) pa_nil)))))) pss_never pss_nil)
    (pss_cons (ps_if (pt_not (pt_val (pe_callD D_is_count hr (by decide) (by rfl) (pa_cons (pv 2) (pa_cons pe_int (pa_cons (pe_fld (pv 0) rfl) pa_nil)))))) pss_never pss_nil)
    (pss_one (ps_ret (pe_makeD D_Tree_init hr (by decide) (by rfl) (pa_cons (pe_fld (pv 0) rfl) (pa_cons (pe_lst (StX.pa_star (pe_slice sl_tup (pe_fld (pv 0) rfl) po_none (po_some (pe_op op_sub (pv 1) pe_int))) (pa_cons (pv 2) (StX.pa_star (pe_slice sl_tup (pe_fld (pv 0) rfl) (po_some (pv 1)) po_none) pa_nil)))) pa_nil))))))), ?_⟩
    refine q_pass (et_not (a := true) (et_B (ev_call (ea_cons (ev_var rfl) (ea_cons ev_c (ea_cons (ev_op (ev_op ev_c (ev_fld (ev_var rfl) ha T.cT T.n_pages (tree_pages _ _ _ _)) (rv_I (.inl ⟨by decide, by decide⟩))) ev_c rv_I0) ea_nil))) (sv_is_count1 (by omega) (by omega))))) fun H1 e1 => ?_
    refine q_pass (et_not (a := true) (et_B (ev_call (ea_cons (ev_var rfl) (ea_cons ev_c (ea_cons (ev_fld (ev_var rfl) (e1 _ _ ha) T.cT T.n_classes (tree_classes _ _ _ _)) ea_nil))) (sv_is_count1 (by omega) (by omega))))) fun H2 e2 => ?_
    have e12 := e1.trans e2
    have en : (n : Int) - 1 = ((n - 1 : Nat) : Int) := by omega
    refine s_retG (mk_Tree (c := c) (pg := pg) (t := M.st t n x) (ev_fld (ev_var rfl) (e12 _ _ ha) T.cT T.n_classes (tree_classes _ _ _ _)) ?_ (v.st h3)) fun u H3 e3 hu => k u H3 (e12.trans e3) hu
    refine el_is (el_lst (ea_star (gv_slT (xs := vi t) (lo := none) (hi := some ((n : Int) - 1)) (ev_fld (ev_var rfl) (e12 _ _ ha) T.cT T.n_told_row (tree_told_row _ _ _ _)) eo_none (eo_some (ev_op (ev_var rfl) ev_c rv_I0)) (ex_t e12 ht)
        (by rw [en, HT.sIx_nat, vi_len]; rintro ⟨_, h⟩; omega))
      (ea_cons (x := .int (x : Int)) (ev_var rfl) (ea_star (gv_slT (xs := vi t) (lo := some (n : Int)) (hi := none) (ev_fld (ev_var rfl) (e12 _ _ ha) T.cT T.n_told_row (tree_told_row _ _ _ _)) (eo_some (ev_var rfl)) eo_none (ex_t e12 ht)
        (by rw [HT.sIx_nat, vi_len]; rintro ⟨h, _⟩; omega)) ea_nil))) (by
          have a1 := cutV_length (vi t) none (some ((n : Int) - 1))
          have a2 := cutV_length (vi t) (some (n : Int)) none
          rw [vi_len] at a1 a2
          simp only [List.length_append, List.length_cons, List.length_nil]
          omega)) ?_
    rw [en, cut_take, cut_drop, List.append_nil, vi_set t n x h1 (by omega)]
theorem gv_with_told {σ : L2.St} {H : Hp} {te ti tj : TE} {a : Addr} {c pg n x : Nat} {i j : Int} {t : List Nat} {E : XK} (h : Ev te σ H (.ref a)) (ht : TreeAt K CT c pg t H a) (hi : Ev ti σ H (.int i)) (e : i = (n : Int)) (hj : Ev tj σ H (.int j)) (e' : j = (x : Int)) (h1 : 1 ≤ n) (h2 : n < 2 * pg) (h3 : x ≤ c) :
    Gv (tMeth CT "with_told" (sp_Tree_with_told K CS CT) [] E te (tCons ti (tCons tj tNil))) σ H (fun u H1 => ∃ b, u = .ref b ∧ TreeAt K CT c pg (M.st t n x) H1 b) := by
  obtain ⟨v, dx, tl, lv, ha, _, _⟩ := id ht
  subst e
  subst e'
  exact gv_meth h ha (tree_no (by decide +kernel) (by decide +kernel) (by decide +kernel) (by decide +kernel)) (ea_cons hi (ea_cons hj ea_nil)) fun H1 e1 Q q E => ⟨a, c, pg, n, x, t, rfl, ht.ex e1, h1, h2, h3, q⟩
def sp_Tree_is_upright (K : PySem.W.Frag) (CS CT : Addr) : Sp := fun vs H Q _ => ∃ (a : Addr) (c pg : Nat) (t : List Nat), vs = [.ref a] ∧ TreeAt K CT c pg t H a ∧ M.Upr pg t ∧ RetV (.bl true) H Q
theorem ok_Tree_is_upright  {f : Addr} {fd : FuncData} (F : FnP K "is_upright" "Tree.is_upright" d_Tree_is_upright [] [] f fd) (T : Tx K mg CS CT pgs) : FnOk P w K mg base CX0 1 f fd ["self"] (sp_Tree_is_upright K CS CT) := by
  refine F.ok sc_Tree_is_upright (fun vs H Q E h => ?_) (fun cdv A outer s H vs Q E hr h => ?_)
  · obtain ⟨a, c, pg, t, rfl, _⟩ := h
    rfl
  · obtain ⟨a, c, pg, t, rfl, ⟨v, dx, tl, lv, ha, ht, hlv⟩, hu, k⟩ := h
    have hlen := v.len
    have h32 := v.P32
    have h2 := v.P2
    refine ⟨_, PSs.nox (pss_one (ps_ret (pe_callB (cr_all (by rfl)) (by rfl) T.b_all bt_all (pa_cons (pe_lc (te := (tOp (rI0 fun i j => .bl (decide (i ≤ j))) (tOp (rIxT K) (tFld K (tVar 0) "told_row") (tOp (rI0 fun i j => .int (i - j)) (tVar 1) (tC (.int 1)))) (tOp (rIxT K) (tFld K (tVar 0) "told_row") (tOp (rI0 fun i j => .int (i - j)) (tOp (rI CDiv fun i j => .int (i / j)) (tVar 1) (tC (.int 2))) (tC (.int 1)))))) (tt := tYes) (own := [("node", 1)]) rfl sc_Tree_is_upright.nd (pi_range2 (by rfl) T.b_range (pa_cons pe_int (pa_cons (pe_op op_mul pe_int (pe_fld (pv 0) rfl)) pa_nil))) (blkOk_by (own := [("node", 1)]) (N := ["self", "node"]) (sc := defScope d_Tree_is_upright) (by decide +kernel)) (fun _ _ _ _ _ => (pg_name (i := 1) sc_Tree_is_upright.nd rfl (.inl rfl) (.inr rfl))) (fun _ _ _ _ _ => pts_nil) (fun _ _ _ _ _ => (pe_cmpR op_le (pe_ix ix_tup (pe_fld (pv 0) rfl) (pe_op op_sub (pv 1) pe_int) (fun _ _ => rfl)) (pe_ix ix_tup (pe_fld (pv 0) rfl) (pe_op op_sub (pe_op op_fdiv (pv 1) pe_int) pe_int) (fun _ _ => rfl)) (nomark _)))) pa_nil)))), ?_⟩
    refine s_ret (ev_allT (el_lcR2 (lo := 2) (n := 2 * (pg : Int)) (fun _ => true) (fun _ => .bl true) (ea_cons ev_c (ea_cons (ev_op ev_c (ev_fld (ev_var rfl) ha T.cT T.n_pages (tree_pages _ _ _ _)) (rv_I (.inl ⟨by decide, by decide⟩))) ea_nil)) (by omega) (fun _ => rfl) (fun _ _ _ _ => ev_yes) fun i H1 e1 hi _ => ?_) fun _ _ => ⟨rfl, rfl⟩) k
    have hn : 2 + i < 2 * pg := by omega
    refine ev_is (ev_op (ev_op (ev_fld (ev_var rfl) (e1 _ _ ha) T.cT T.n_told_row (tree_told_row _ _ _ _)) (ev_op (ev_var rfl) ev_c rv_I0) (rv_ixT (ex_t e1 ht) (vi_tg (n := 2 + i) (by omega) (by omega) (by omega))))
      (ev_op (ev_fld (ev_var rfl) (e1 _ _ ha) T.cT T.n_told_row (tree_told_row _ _ _ _)) (ev_op (ev_op (ev_var rfl) ev_c (rv_I ⟨by decide, by decide⟩)) ev_c rv_I0) (rv_ixT (ex_t e1 ht) (vi_tg (n := (2 + i) / 2) (by omega) (by omega) (by omega)))) rv_I0) ?_
    exact congrArg V.bl (decide_eq_true (Int.ofNat_le.mpr (hu (2 + i) (by omega) hn)))
def sp_Tree_eq (K : PySem.W.Frag) (CS CT : Addr) : Sp := fun vs H Q _ => ∃ (a b : Addr) (c pg : Nat) (t : List Nat), vs = [.ref a, .ref b] ∧ TreeAt K CT c pg t H a ∧ TreeAt K CT c pg t H b ∧ RetV (.bl true) H Q
theorem ok_Tree_eq  {f : Addr} {fd : FuncData} (F : FnP K "__eq__" "Tree.__eq__" d_Tree_eq [] [] f fd) (T : Tx K mg CS CT pgs) : FnOk P w K mg base CX0 1 f fd ["self", "other"] (sp_Tree_eq K CS CT) := by
  refine F.ok sc_Tree_eq (fun vs H Q E h => ?_) (fun cdv A outer s H vs Q E hr h => ?_)
  · obtain ⟨a, b, c, pg, t, rfl, _⟩ := h
    rfl
  · obtain ⟨a, b, c, pg, t, rfl, ⟨v, dx, tl, lv, ha, ht, hlv⟩, ⟨_, dx2, tl2, lv2, ha2, ht2, hlv2⟩, k⟩ := h
    refine ⟨_, PSs.nox (pss_cons (ps_if (pt_not (pt_val (pe_callB call_isi (by rfl) T.b_isinstance bt_isinstance (pa_cons (pv 1) (pa_cons (pe_gcR (by rfl) T.g_Tree) pa_nil))))) pss_never pss_nil)
    (pss_one (ps_ret (pe_cmpR (op_eqD (room64 hr)) (pe_tup (pa_cons (pe_fld (pv 0) rfl) (pa_cons (pe_fld (pv 0) rfl) pa_nil))) (pe_tup (pa_cons (pe_fld (pv 1) rfl) (pa_cons (pe_fld (pv 1) rfl) pa_nil))) (nomark _))))), ?_⟩
    refine q_pass (et_not (a := true) (et_B (ev_isi (ev_var rfl) ev_c (ClsV.own _) (fun H1 e1 => T.isT _ _ _ _ (e1 _ _ ha2)) T.kT))) fun H1 e1 => ?_
    refine s_ret (ev_opUU (eu_tup (ea_cons (ev_fld (ev_var rfl) (e1 _ _ ha) T.cT T.n_classes (tree_classes _ _ _ _)) (ea_cons (ev_fld (ev_var rfl) (e1 _ _ ha) T.cT T.n_told_row (tree_told_row _ _ _ _)) ea_nil)) (by simp))
      (eu_tup (ea_cons (ev_fld (ev_var rfl) (e1 _ _ ha2) T.cT T.n_classes (tree_classes _ _ _ _)) (ea_cons (ev_fld (ev_var rfl) (e1 _ _ ha2) T.cT T.n_told_row (tree_told_row _ _ _ _)) ea_nil)) (by simp)) fun p q H2 hp hq e2 => rv_val fun H3 e3 Q' q' => ?_) fun H2 e2 => k H2 (e1.trans e2)
    have e13 := (e1.trans e2).trans e3
    refine ⟨dTree c t, dTree c t, .tup (st_of (e3 _ _ hp)) (.cons (.int _) (.cons (.tup (ex_t e13 ht) (dp_ints t)) .nil)), .tup (st_of (e3 _ _ hq)) (.cons (.int _) (.cons (.tup (ex_t e13 ht2) (dp_ints t)) .nil)), dTree_shaped c t, dTree_shaped c t, ?_⟩
    rw [SeqAt.eqv_refl _ (dTree_lay c t)]
    exact q'
def sp_Tree_way (K : PySem.W.Frag) (CS CT : Addr) : Sp := fun vs H Q _ => ∃ (a : Addr) (c pg n : Nat) (t : List Nat), vs = [.ref a, .int (n : Int)] ∧ TreeAt K CT c pg t H a ∧ n < pg ∧ RetL (vi (wayL (pg + n)).reverse) H Q
theorem ok_Tree_way (D_Tree_leaf : Dm P w K mg base 2 CT "leaf" ["self", "page"] (sp_Tree_leaf K CS CT)) {f : Addr} {fd : FuncData} (F : FnP K "way" "Tree.way" d_Tree_way [] [] f fd) (T : Tx K mg CS CT pgs) : FnOk P w K mg base CX0 3 f fd ["self", "page"] (sp_Tree_way K CS CT) := by
  refine F.ok sc_Tree_way (fun vs H Q E h => ?_) (fun cdv A outer s H vs Q E hr h => ?_)
  · obtain ⟨a, c, pg, n, t, rfl, _⟩ := h
    rfl
  · obtain ⟨a, c, pg, n, t, rfl, hT, h1, k⟩ := h
    have h32 := hT.1.P32
    have h2 := hT.1.P2
    refine ⟨_, PSs.nox (pss_cons (ps_set (i := 2) sc_Tree_way.nd rfl (.inl rfl) (pe_lst (pa_cons (pe_methD D_Tree_leaf hr (by decide) (pv 0) (pa_cons (pv 1) pa_nil)) pa_nil)))
    (pss_cons (ps_while PassesOwn.never (pt_cmpR op_gt (pe_ix ix_list (pv 2) (pe_un un_neg pe_int) (fun _ _ => rfl)) pe_int (nomark _)) (pss_one (ps_expr (pe_bm PySem.F.plainAttrs_list PySem.F.slot_list_append PySem.F.type_list_append mt_append (pv 2) (pa_cons (pe_op op_fdiv (pe_ix ix_list (pv 2) (pe_un un_neg pe_int) (fun _ _ => rfl)) pe_int) pa_nil)))))
    (pss_one (ps_ret (pe_revL (pv 2)))))), ?_⟩
    refine q_asgL (el_lst (ea_cons (ev_leaf (ev_var rfl) hT (ev_var rfl) rfl h1) ea_nil) (by simp)) fun p H1 hp e1 h1' => ?_
    refine q_while (fun m σ' H' => σ' = [some (.ref a), some (.int (n : Int)), some (.ref p)] ∧ Ex H H' ∧ m < 64 ∧ ∃ pre : List Nat, pre.length + m ≤ 64 ∧ H' p = some (.lst (vi pre ++ [.int (m : Int)])) ∧ pre ++ wayL m = wayL (pg + n)) (pg + n) ?_ fun m σ' H' hW => ?_
    · exact ⟨rfl, e1, by omega, [], by simp; omega, h1', rfl⟩
    · obtain ⟨rfl, eH, hm, pre, hpl, hp', hway⟩ := hW
      refine ⟨decide (1 < m), et_is (et_test (ev_op (ev_op (ev_var rfl) (ev_un ev_c ru_neg) (rv_ixL (sq_of hp') (atI_last _ _))) ev_c rv_I0)) (by simp; omega), fun hb H2 e2 => ?_, fun hb H2 e2 => ?_⟩
      · have hm1 : 1 < m := of_decide_eq_true hb
        refine ⟨fun σ2 H2 => ∃ m', m' < m ∧ σ2 = [some (.ref a), some (.int (n : Int)), some (.ref p)] ∧ Ex H H2 ∧ m' < 64 ∧ ∃ pre : List Nat, pre.length + m' ≤ 64 ∧ H2 p = some (.lst (vi pre ++ [.int (m' : Int)])) ∧ pre ++ wayL m' = wayL (pg + n), fun σ2 H2 h => h, ?_⟩
        refine s_app (e2 _ _ hp') (ev_var rfl) (ev_op (ev_op (ev_var rfl) (ev_un ev_c ru_neg) (rv_ixL (sq_of (e2 _ _ hp')) (atI_last _ _))) ev_c (rv_I ⟨by decide, by decide⟩)) (by rw [List.length_append, vi_len, List.length_singleton]; omega) fun H3 e3 => ?_
        refine ⟨m / 2, by omega, rfl, Ex.mut ((eH.trans e2).trans e3) hp, by omega, pre ++ [m], by simp; omega, ?_, ?_⟩
        · rw [upd_same]
          have e5 : ((m : Int) / 2) = ((m / 2 : Nat) : Int) := by omega
          rw [e5, vi_append]
          rfl
        · rw [← hway, way_more (n := m) (by omega), List.append_assoc]
          rfl
      · have hm1 : ¬ 1 < m := of_decide_eq_false hb
        have ew : vi pre ++ [.int (m : Int)] = vi (wayL (pg + n)) := by
          rw [← hway, way_one (by omega)]
          simp [vi]
        rw [ew] at hp'
        have : (vi (wayL (pg + n))).reverse = vi (wayL (pg + n)).reverse := by simp [vi]
        rw [← this] at k
        exact s_retL (el_rev (ev_var rfl) (sq_of (e2 _ _ hp'))) fun q H3 hq e3 h3 => k q H3 (fresh_back (eH.trans e2) hq) ((eH.trans e2).trans e3) h3
def sp_Tree_least_on_way (K : PySem.W.Frag) (CS CT : Addr) : Sp := fun vs H Q _ => ∃ (a : Addr) (c pg n : Nat) (t : List Nat), vs = [.ref a, .int (n : Int)] ∧ TreeAt K CT c pg t H a ∧ M.Upr pg t ∧ n < pg ∧ RetV (.int (M.tg t (pg + n) : Int)) H Q
theorem way_len (n : Nat) : (wayL n).length ≤ n + 1 := by
  induction n using Nat.strongRecOn with
  | ind n ih =>
    by_cases h : n ≤ 1
    · rw [way_one h]; simp
    · rw [way_more h, List.length_cons]
      have := ih (n / 2) (by omega)
      omega
theorem ok_Tree_least_on_way (D_Tree_way : Dm P w K mg base 3 CT "way" ["self", "page"] (sp_Tree_way K CS CT)) {f : Addr} {fd : FuncData} (F : FnP K "least_on_way" "Tree.least_on_way" d_Tree_least_on_way [] [] f fd) (T : Tx K mg CS CT pgs) : FnOk P w K mg base CX0 4 f fd ["self", "page"] (sp_Tree_least_on_way K CS CT) := by
  refine F.ok sc_Tree_least_on_way (fun vs H Q E h => ?_) (fun cdv A outer s H vs Q E hr h => ?_)
  · obtain ⟨a, c, pg, n, t, rfl, _⟩ := h
    rfl
  · obtain ⟨a, c, pg, n, t, rfl, hT, hu, h1, k⟩ := h
    obtain ⟨v, dx, tl, lv, ha, ht, hlv⟩ := id hT
    have h32 := v.P32
    have h2 := v.P2
    have hlen := v.len
    refine ⟨_, PSs.nox (pss_one (ps_ret (pe_callB (cr_min (by rfl)) (by rfl) T.b_min bt_min (pa_cons (pe_lc (te := (tCB (fun xs H Q => (∃ i, xs = [.int i] ∧ Q (.int i) H) ∨ ∃ k, xs = [.bl k] ∧ Q (.int (if k then 1 else 0)) H) (tCons (tOp (rIxT K) (tFld K (tVar 0) "told_row") (tOp (rI0 fun i j => .int (i - j)) (tVar 2) (tC (.int 1)))) tNil))) (tt := tYes) (own := [("node", 2)]) rfl sc_Tree_least_on_way.nd (pi_list (pe_methD D_Tree_way hr (by decide) (pv 0) (pa_cons (pv 1) pa_nil))) (blkOk_by (own := [("node", 2)]) (N := ["self", "page", "node"]) (sc := defScope d_Tree_least_on_way) (by decide +kernel)) (fun _ _ _ _ _ => (pg_name (i := 2) sc_Tree_least_on_way.nd rfl (.inl rfl) (.inr rfl))) (fun _ _ _ _ _ => pts_nil) (fun _ _ _ _ _ => (pe_callTy call_int1 (by rfl) T.b_int bt_int (pa_cons (pe_ix ix_tup (pe_fld (pv 0) rfl) (pe_op op_sub (pv 2) pe_int) (fun _ _ => rfl)) pa_nil)))) pa_nil)))), ?_⟩
    have hw := way_upr hu (pg + n) (by omega) (by omega)
    have hlw := way_len (pg + n)
    generalize hL : (wayL (pg + n)).reverse = L at *
    have hLm : ∀ x, x ∈ L ↔ x ∈ wayL (pg + n) := fun x => by rw [← hL]; exact List.mem_reverse
    have hLl : L.length ≤ 64 := by rw [← hL, List.length_reverse]; omega
    have el : EvL _ _ H _ := el_lcNL (K := K) (xs := vi L) (te := tCB (fun xs H Q => (∃ i, xs = [.int i] ∧ Q (.int i) H) ∨ ∃ k, xs = [.bl k] ∧ Q (.int (if k then 1 else 0)) H) (tCons (tOp (rIxT K) (tFld K (tVar 0) "told_row") (tOp (rI0 fun i j => .int (i - j)) (tVar 2) (tC (.int 1)))) tNil)) (t := tYes) (j := 2) (vs := [2]) (σ := [some (.ref a), some (.int (n : Int)), none]) (tl := tMeth CT "way" (sp_Tree_way K CS CT) [] E0 (tVar 0) (tCons (tVar 1) tNil))
      (fun _ => true) (fun i => .int (M.tg t (L.getD i 0) : Int)) (el_meth (ev_var rfl) ha (tree_no (by decide +kernel) (by decide +kernel) (by decide +kernel) (by decide +kernel)) (ea_cons (ev_var rfl) ea_nil) fun H1 e1 Q q E => ⟨a, c, pg, n, t, rfl, hT.ex e1, h1, by rw [hL]; exact q⟩) (by rw [vi_len]; omega) (fun _ => rfl) (fun _ _ _ _ _ => ev_yes) (fun i x H1 e1 hi _ => by
        obtain ⟨hi', rfl⟩ := vi_some hi
        have hm := List.getElem_mem hi'
        rw [← getD_at hi'] at hm
        obtain ⟨g1, g2, _⟩ := hw _ ((hLm _).mp hm)
        exact ev_int1 (ev_op (ev_fld (ev_var rfl) (e1 _ _ ha) T.cT T.n_told_row (tree_told_row _ _ _ _)) (ev_op (ev_var rfl) ev_c rv_I0) (rv_ixT (ex_t e1 ht) (vi_tg g1 (by omega) rfl))))
    have eg : given (vi L).length (fun _ => true) (fun i => V.int (M.tg t (L.getD i 0) : Int)) = (L.map fun m => (M.tg t m : Int)).map V.int := by
      rw [given_all fun _ _ => rfl, List.map_map, vi_len]
      refine List.ext_getElem (by simp) fun i h1 h2 => ?_
      simp only [List.getElem_map, List.getElem_range, Function.comp]
      rw [getD_at (by simpa using h2)]
    rw [eg] at el
    refine s_ret (ev_minL el ?_ ?_) k
    · exact List.mem_map.mpr ⟨pg + n, (hLm _).mpr (way_self _), rfl⟩
    · intro y hy
      obtain ⟨m, hm, rfl⟩ := List.mem_map.mp hy
      exact Int.ofNat_le.mpr (hw m ((hLm m).mp hm)).2.2
def sp_Tree_missed (K : PySem.W.Frag) (CS CT : Addr) : Sp := fun vs H Q _ => ∃ (a : Addr) (c pg : Nat) (t : List Nat), vs = [.ref a] ∧ TreeAt K CT c pg t H a ∧ M.Upr pg t ∧ RetL [] H Q
theorem ok_Tree_missed (D_Tree_getitem : Dg P w K mg base 2 CT ["self", "node"] (sp_Tree_getitem K CS CT)) (D_Tree_leaf : Dm P w K mg base 2 CT "leaf" ["self", "page"] (sp_Tree_leaf K CS CT)) (D_Tree_least_on_way : Dm P w K mg base 4 CT "least_on_way" ["self", "page"] (sp_Tree_least_on_way K CS CT)) {f : Addr} {fd : FuncData} (F : FnP K "missed" "Tree.missed" d_Tree_missed [] [] f fd) (T : Tx K mg CS CT pgs) : FnOk P w K mg base CX0 5 f fd ["self"] (sp_Tree_missed K CS CT) := by
  refine F.ok sc_Tree_missed (fun vs H Q E h => ?_) (fun cdv A outer s H vs Q E hr h => ?_)
  · obtain ⟨a, c, pg, t, rfl, _⟩ := h
    rfl
  · obtain ⟨a, c, pg, t, rfl, hT, hu, k⟩ := h
    obtain ⟨v, dx, tl, lv, ha, ht, hlv⟩ := id hT
    have h32 := v.P32
    refine ⟨_, PSs.nox (pss_one (ps_ret (pe_lc (te := (tVar 1)) (tt := (tTest (tOp (rI0 fun i j => .bl (decide (j < i))) (tSubO CT (sp_Tree_getitem K CS CT) E0 (tVar 0) (tMeth CT "leaf" (sp_Tree_leaf K CS CT) [] E0 (tVar 0) (tCons (tVar 1) tNil))) (tMeth CT "least_on_way" (sp_Tree_least_on_way K CS CT) [] E0 (tVar 0) (tCons (tVar 1) tNil))))) (own := [("page", 1)]) rfl sc_Tree_missed.nd (pi_range1 (by rfl) T.b_range (pa_cons (pe_fld (pv 0) rfl) pa_nil)) (blkOk_by (own := [("page", 1)]) (N := ["self", "page"]) (sc := defScope d_Tree_missed) (by decide +kernel)) (fun _ _ _ _ _ => (pg_name (i := 1) sc_Tree_missed.nd rfl (.inl rfl) (.inr rfl))) (fun _ _ _ _ _ => (pts_one (pt_cmpR op_gt (pe_subD D_Tree_getitem hr (by decide) (pv 0) (pe_methD D_Tree_leaf hr (by decide) (pv 0) (pa_cons (pv 1) pa_nil))) (pe_methD D_Tree_least_on_way hr (by decide) (pv 0) (pa_cons (pv 1) pa_nil)) (nomark _)))) (fun _ _ _ _ _ => (pv 1))))), ?_⟩
    have eg : given ((pg : Int).toNat) (fun _ => false) (fun _ => V.non) = [] := by
      unfold given
      rw [List.filter_eq_nil_iff.mpr (by simp)]
      rfl
    rw [← eg] at k
    refine s_retL (el_lcR1 (fun _ => false) (fun _ => V.non) (ea_cons (ev_fld (ev_var rfl) ha T.cT T.n_pages (tree_pages _ _ _ _)) ea_nil) (by omega) (fun _ => rfl) (fun i H1 e1 hi => ?_) fun _ _ _ _ z => by cases z) k
    have hi' : i < pg := by omega
    refine et_is (et_test (ev_op (ev_treeAt (n := pg + i) (ev_var rfl) (hT.ex e1) (ev_leaf (ev_var rfl) (hT.ex e1) (ev_var rfl) rfl hi') rfl (by omega) (by omega))
      (ev_meth (z := .int (M.tg t (pg + i) : Int)) (ev_var rfl) (e1 _ _ ha) (tree_no (by decide +kernel) (by decide +kernel) (by decide +kernel) (by decide +kernel)) (ea_cons (ev_var rfl) ea_nil) fun H2 e2 Q q E => ⟨a, c, pg, i, t, rfl, hT.ex (e1.trans e2), hu, hi', q⟩) rv_I0)) (by simp)
end
end Rt
end
section
/-! Rooms, rows of writes. Printed by gen_rules.py from RtD.src. -/
namespace Rt
open PySem PySem.Spec PyProof.Rows L2 Evl

theorem ty_L {K : PySem.W.Frag} {H : Hp} {a : Addr} {xs : List V} (h : SqL K H a xs) : TyX K H (.ref a) (.type "list") := by
  rcases h with (h | ⟨o, h⟩) | ⟨o, its, n, hk, hc, _⟩
  · exact .base (.lst h)
  · exact .base (.frz h)
  · exact .kList hk hc
theorem ty_T {K : PySem.W.Frag} {H : Hp} {a : Addr} {xs : List V} (h : SqT K H a xs) : TyX K H (.ref a) (.type "tuple") := by
  rcases h with (h | ⟨o, h⟩) | ⟨o, its, n, hk, hc, _⟩
  · exact .base (.tup h)
  · exact .fTuple h
  · exact .kTuple hk hc

/-- a scene: a tree, steps, rooms -/
structure Sit (K : PySem.W.Frag) (CS CT : Addr) (m pg : Nat) (b rs t : List Nat) (H : Hp) (a s r : Addr) : Prop where
  tree : TreeAt K CT b.length pg t H a
  steps : StepsAt K CS m b H s
  rooms : RoomsAt K rs H r
  rlen : rs.length = pg
  rle : ∀ x ∈ rs, x ≤ m
theorem Sit.ex {K : PySem.W.Frag} {CS CT : Addr} {m pg : Nat} {b rs t : List Nat} {H H' : Hp} {a s r : Addr} (h : Sit K CS CT m pg b rs t H a s r) (e : Ex H H') : Sit K CS CT m pg b rs t H' a s r := ⟨h.tree.ex e, h.steps.ex e, h.rooms.ex e, h.rlen, h.rle⟩

theorem sqT_lst {K : PySem.W.Frag} {H : Hp} {x r : Addr} {ys : List V} {o : HO} {xs : List V} (h : SqT K H r xs) (hx : H x = some (.lst ys)) : SqT K (upd H x o) r xs := by
  rcases h with (h | ⟨ob, h⟩) | h
  · exact .inl (.inl (by rw [upd_ne (ne_of h hx (by simp))]; exact h))
  · exact .inl (.inr ⟨ob, by rw [upd_ne (ne_of h hx (by simp))]; exact h⟩)
  · exact .inr h
theorem TreeAt.updL {K : PySem.W.Frag} {CT : Addr} {c P : Nat} {t : List Nat} {H : Hp} {a p : Addr} {ys : List V} {o : HO} (h : TreeAt K CT c P t H a) (hp : H p = some (.lst ys)) : TreeAt K CT c P t (upd H p o) a := by
  obtain ⟨v, dx, tl, lv, h1, h2, h3⟩ := h
  exact ⟨v, dx, tl, lv, by rw [upd_ne (ne_of h1 hp (by simp))]; exact h1, sqT_lst h2 hp, sqT_lst h3 hp⟩
theorem StepsAt.updL {K : PySem.W.Frag} {CS : Addr} {m : Nat} {b : List Nat} {H : Hp} {a p : Addr} {ys : List V} {o : HO} (h : StepsAt K CS m b H a) (hp : H p = some (.lst ys)) : StepsAt K CS m b (upd H p o) a := by
  obtain ⟨v, dx, r, h1, h2⟩ := h
  exact ⟨v, dx, r, by rw [upd_ne (ne_of h1 hp (by simp))]; exact h1, sqT_lst h2 hp⟩

/-! ### rows of writes -/
/-- pairs of ints -/
def PairsL (xs : List V) (H : Hp) (ws : List (Nat × Nat)) : Prop := ∃ qs : List (Addr × Nat × Nat), xs = qs.map (fun q => V.ref q.1) ∧ ws = qs.map (·.2) ∧ ∀ q ∈ qs, H q.1 = some (.tup [.int (q.2.1 : Int), .int (q.2.2 : Int)])
def RowAt (H : Hp) (p : Addr) (ws : List (Nat × Nat)) : Prop := ∃ xs, H p = some (.lst xs) ∧ PairsL xs H ws
theorem PairsL.ex {xs : List V} {H H' : Hp} {ws : List (Nat × Nat)} (h : PairsL xs H ws) (e : Ex H H') : PairsL xs H' ws := by
  obtain ⟨qs, h1, h2, h3⟩ := h
  exact ⟨qs, h1, h2, fun q hq => e _ _ (h3 q hq)⟩
theorem RowAt.ex {H H' : Hp} {p : Addr} {ws : List (Nat × Nat)} (h : RowAt H p ws) (e : Ex H H') : RowAt H' p ws := by
  obtain ⟨xs, h1, h2⟩ := h
  exact ⟨xs, e _ _ h1, h2.ex e⟩
theorem PairsL.nil {H : Hp} : PairsL [] H [] := ⟨[], rfl, rfl, fun q h => by cases h⟩
theorem PairsL.append {xs ys : List V} {H : Hp} {a b : List (Nat × Nat)} (h : PairsL xs H a) (h' : PairsL ys H b) : PairsL (xs ++ ys) H (a ++ b) := by
  obtain ⟨qs, rfl, rfl, h3⟩ := h
  obtain ⟨rs, rfl, rfl, h4⟩ := h'
  refine ⟨qs ++ rs, by rw [List.map_append], by rw [List.map_append], fun q hq => ?_⟩
  rcases List.mem_append.mp hq with e | e
  · exact h3 q e
  · exact h4 q e
theorem PairsL.one {p : Addr} {H : Hp} {i j : Nat} (h : H p = some (.tup [.int (i : Int), .int (j : Int)])) : PairsL [.ref p] H [(i, j)] := ⟨[(p, i, j)], rfl, rfl, fun q hq => by
  rw [List.mem_singleton] at hq
  subst hq
  exact h⟩
theorem PairsL.reverse {xs : List V} {H : Hp} {a : List (Nat × Nat)} (h : PairsL xs H a) : PairsL xs.reverse H a.reverse := by
  obtain ⟨qs, rfl, rfl, h3⟩ := h
  exact ⟨qs.reverse, by rw [List.map_reverse], by rw [List.map_reverse], fun q hq => h3 q (List.mem_reverse.mp hq)⟩
theorem PairsL.updL {xs ys : List V} {H : Hp} {p : Addr} {o : HO} {ws : List (Nat × Nat)} (h : PairsL xs H ws) (hp : H p = some (.lst ys)) : PairsL xs (upd H p o) ws := by
  obtain ⟨qs, h1, h2, h3⟩ := h
  exact ⟨qs, h1, h2, fun q hq => by rw [upd_ne (ne_of (h3 q hq) hp (by simp))]; exact h3 q hq⟩
theorem PairsL.len {xs : List V} {H : Hp} {ws : List (Nat × Nat)} (h : PairsL xs H ws) : xs.length = ws.length := by
  obtain ⟨qs, rfl, rfl, _⟩ := h
  simp
theorem PairsL.get {xs : List V} {H : Hp} {ws : List (Nat × Nat)} (h : PairsL xs H ws) {i : Nat} {x : V} (hx : xs[i]? = some x) : ∃ (p : Addr) (q : Nat × Nat), x = .ref p ∧ ws[i]? = some q ∧ H p = some (.tup [.int (q.1 : Int), .int (q.2 : Int)]) := by
  obtain ⟨qs, rfl, rfl, h3⟩ := h
  rw [List.getElem?_map] at hx
  cases e : qs[i]? with
  | none => rw [e] at hx; cases hx
  | some q =>
    rw [e] at hx
    cases hx
    exact ⟨q.1, q.2, rfl, by rw [List.getElem?_map, e]; rfl, h3 q (List.mem_of_getElem? e)⟩

section
variable {K : PySem.W.Frag} {σ : L2.St} {H H' : Hp} {ta tb te tx tl : TE} {t : TA} {tt : TT} {x y z v : V} {vs xs ys : List V} {a C dx : Addr} {m : Str} {E : XK} {sp : Sp} {D : Ends} {tu tz : TS} {g : TG}
theorem el_lcSeq {j : Nat} {ws : List Nat} (f : Nat → Bool) (v : Nat → V) (h : Ev te σ H (.ref a)) (hx : SqL K H a xs ∨ SqT K H a xs) (hz : xs.length ≤ 40000) (hw : ∀ x, wipe ((wipe σ ws).set j (some x)) ws = wipe σ ws)
    (ht : ∀ (i : Nat) (x : V) H1, Ex H H1 → xs[i]? = some x → EvT tt ((wipe σ ws).set j (some x)) H1 (f i)) (he : ∀ (i : Nat) (x : V) H1, Ex H H1 → xs[i]? = some x → f i = true → Ev tx ((wipe σ ws).set j (some x)) H1 (v i)) :
    EvL (tLc (iSeq K te) (gName j) tt tx ws) σ H (given xs.length f v) := fun H0 e Q q => by
  rcases hx with hx | hx
  · exact Or.inl (el_lcL f v h hx hz hw ht he H0 e Q q)
  · exact Or.inr (el_lcT f v h hx hz hw ht he H0 e Q q)
theorem ev_lenSeq {p : Addr} (ha : Ev ta σ H (.ref p)) (h : SqL K H p xs ∨ SqT K H p xs) : Ev (tCB (rLenS K) (tCons ta tNil)) σ H (.int (xs.length : Int)) := by
  rcases h with h | h
  · exact ev_len ha h
  · exact ev_lenT ha h
/-- return a if t else b -/
theorem s_retIf {b : Bool} (h : EvT tt σ H b) (k1 : b = true → ∀ H1, Ex H H1 → tRet ta D σ H1) (k2 : b = false → ∀ H1, Ex H H1 → tRet tb D σ H1) : tRet (tIf tt ta tb) D σ H := h H (Ex.refl H) _ fun H1 e => by
  cases b with
  | true => exact k1 rfl H1 e
  | false => exact k2 rfl H1 e
/-- row = [(..)] -/
theorem q_lstU {i : Nat} (h : EvU te σ H xs) (k : ∀ p q H1, H p = none → Ex H H1 → H1 p = some (.lst [.ref q]) → H1 q = some (.tup xs) → tz D (σ.set i (some (.ref p))) H1) : tSeq (tAsg (tLst (tCons te tNil)) (gName i)) tz D σ H :=
  h H (Ex.refl H) _ fun q H1 _ e1 h1 => ⟨by show 1 ≤ sizeLine; decide, fun p hp => k p q _ (fresh_back e1 hp) (e1.trans (Ex.new hp)) upd_same ((Ex.new hp) _ _ h1)⟩
/-- over a new tuple -/
theorem s_forNT {j : Nat} (h : EvU tl σ H xs) (Pv : Addr → Nat → L2.St → Hp → Prop) (h0 : ∀ p H1, H p = none → Ex H H1 → H1 p = some (.tup xs) → Pv p 0 σ H1) (hl : ∀ p i σ' H', i ≤ xs.length → Pv p i σ' H' → SqT K H' p xs)
    (hs : ∀ p i x σ' H', xs[i]? = some x → Pv p i σ' H' → tu { D with nx := Pv p (i + 1), ct := Pv p (i + 1), bk := D.nx } (σ'.set j (some x)) H') (hd : ∀ p σ' H', Pv p xs.length σ' H' → D.nx σ' H') : tFor (iTup K tl) (gName j) tu D σ H :=
  h H (Ex.refl H) _ fun p H1 hp e h1 => ⟨p, rfl, ⟨xs, st_of h1⟩, for_tup (Pv p) (h0 p H1 hp e h1) (hl p) (hs p) (hd p)⟩
theorem q_forNT {j : Nat} (h : EvU tl σ H xs) (Pv : Addr → Nat → L2.St → Hp → Prop) (h0 : ∀ p H1, H p = none → Ex H H1 → H1 p = some (.tup xs) → Pv p 0 σ H1) (hl : ∀ p i σ' H', i ≤ xs.length → Pv p i σ' H' → SqT K H' p xs)
    (hs : ∀ p i x σ' H', xs[i]? = some x → Pv p i σ' H' → tu { D with nx := Pv p (i + 1), ct := Pv p (i + 1), bk := tz D } (σ'.set j (some x)) H') (hd : ∀ p σ' H', Pv p xs.length σ' H' → tz D σ' H') : tSeq (tFor (iTup K tl) (gName j) tu) tz D σ H :=
  s_forNT (D := { D with nx := tz D }) h Pv h0 hl hs hd
end

section
variable {P : Program} {w : World} {K : PySem.W.Frag} {mg : Str → Option Value} {base : Heap} {CS CT pgs : Addr}
def sp_are_rooms (K : PySem.W.Frag) (CS CT : Addr) : Sp := fun vs H Q _ => ∃ (s r : Addr) (m : Nat) (b rs : List Nat), vs = [.ref s, .ref r] ∧ StepsAt K CS m b H s ∧ RoomsAt K rs H r ∧ rs.length ≤ 32 ∧ (∀ x ∈ rs, x ≤ m) ∧ RetV (.bl true) H Q
theorem ok_are_rooms (D_is_count : Dn P w K mg base 1 "is_count" ["value", "least", "most"] [] (sp_is_count K CS CT)) {f : Addr} {fd : FuncData} (F : FnP K "are_rooms" "are_rooms" d_are_rooms [] [] f fd) (T : Tx K mg CS CT pgs) : FnOk P w K mg base CX0 2 f fd ["steps", "value"] (sp_are_rooms K CS CT) := by
  refine F.ok sc_are_rooms (fun vs H Q E h => ?_) (fun cdv A outer s H vs Q E hr h => ?_)
  · obtain ⟨s, r, m, b, rs, rfl, _⟩ := h
    rfl
  · obtain ⟨s, r, m, b, rs, rfl, hs, hr0, hl, hle, k⟩ := h
    obtain ⟨v, dx, rr, ha, hrr⟩ := id hs
    refine ⟨_, PSs.nox (pss_one (ps_ret (pe_and (pe_callB call_isiT (by rfl) T.b_isinstance bt_isinstance (pa_cons (pv 1) (pa_cons (pe_tup (pa_cons (pe_bltn (v := .ty "list") (by rfl) T.b_list bt_list rfl) (pa_cons (pe_bltn (v := .ty "tuple") (by rfl) T.b_tuple bt_tuple rfl) pa_nil))) pa_nil))) (pe_one (pe_callB (cr_all (by rfl)) (by rfl) T.b_all bt_all (pa_cons (pe_lc (te := (tCall (sp_is_count K CS CT) [] E0 (tCons (tVar 2) (tCons (tC (.int 0)) (tCons (tFld K (tVar 0) "most") tNil))))) (tt := tYes) (own := [("one", 2)]) rfl sc_are_rooms.nd (pi_seq (pv 1)) (blkOk_by (own := [("one", 2)]) (N := ["steps", "value", "one"]) (sc := defScope d_are_rooms) (by decide +kernel)) (fun _ _ _ _ _ => (pg_name (i := 2) sc_are_rooms.nd rfl (.inl rfl) (.inr rfl))) (fun _ _ _ _ _ => pts_nil) (fun _ _ _ _ _ => (pe_callD D_is_count hr (by decide) (by rfl) (pa_cons (pv 2) (pa_cons pe_int (pa_cons (pe_fld (pv 0) rfl) pa_nil)))))) pa_nil)))))), ?_⟩
    refine s_ret (ev_is (ev_andV (a := true) (b := true) ?_ fun _ => ev_allT (el_lcSeq (fun _ => true) (fun _ => .bl true) (ev_var rfl) hr0 (by rw [vi_len]; omega) (fun _ => rfl) (fun _ _ _ _ _ => ev_yes) fun i x H1 e1 hi _ => ?_) fun _ _ => ⟨rfl, rfl⟩) rfl) k
    · rcases hr0 with h | h
      · exact ev_isiT (tv := .type "list") (us := [.type "list", .type "tuple"]) (ev_var rfl) (eu_tup (ea_cons ev_c (ea_cons ev_c ea_nil)) (by decide)) (.cons (ClsV.ty _) (.cons (ClsV.ty _) .nil)) (fun H1 e1 => ty_L (ex_l e1 h)) (kitAny_cons (b := true) (kit_ty (by decide +kernel)) (fun z => by cases z) fun _ => rfl)
      · exact ev_isiT (tv := .type "tuple") (us := [.type "list", .type "tuple"]) (ev_var rfl) (eu_tup (ea_cons ev_c (ea_cons ev_c ea_nil)) (by decide)) (.cons (ClsV.ty _) (.cons (ClsV.ty _) .nil)) (fun H1 e1 => ty_T (ex_t e1 h)) (kitAny_cons (b := false) (kit_ty (by decide +kernel)) (fun _ => kitAny_cons (b := true) (kit_ty (by decide +kernel)) (fun z => by cases z) fun _ => rfl) fun z => by cases z)
    · obtain ⟨h1, rfl⟩ := vi_some hi
      have hx := hle _ (List.getElem_mem h1)
      rw [← getD_at h1] at hx
      exact ev_call (ea_cons (ev_var rfl) (ea_cons ev_c (ea_cons (ev_fld (ev_var rfl) (e1 _ _ ha) T.cS T.n_most (steps_most _ _)) ea_nil))) (sv_is_count1 (by omega) (by omega))
def sp_check_tree (K : PySem.W.Frag) (CS CT : Addr) : Sp := fun vs H Q _ => ∃ (a : Addr) (c pg : Nat) (t : List Nat), vs = [.ref a] ∧ TreeAt K CT c pg t H a ∧ RetV .non H Q
theorem ok_check_tree  {f : Addr} {fd : FuncData} (F : FnP K "check_tree" "check_tree" d_check_tree [] [] f fd) (T : Tx K mg CS CT pgs) : FnOk P w K mg base CX0 1 f fd ["value"] (sp_check_tree K CS CT) := by
  refine F.ok sc_check_tree (fun vs H Q E h => ?_) (fun cdv A outer s H vs Q E hr h => ?_)
  · obtain ⟨a, c, pg, t, rfl, _⟩ := h
    rfl
  · obtain ⟨a, c, pg, t, rfl, ⟨v, dx, tl, lv, ha, ht, hlv⟩, k⟩ := h
    refine ⟨_, PSs.nox (pss_one (ps_if (pt_not (pt_val (pe_callB call_isi (by rfl) T.b_isinstance bt_isinstance (pa_cons (pv 0) (pa_cons (pe_gcR (by rfl) T.g_Tree) pa_nil))))) pss_never pss_nil)), ?_⟩
    exact s_pass (et_not (a := true) (et_B (ev_isi (ev_var rfl) ev_c (ClsV.own _) (fun H1 e1 => T.isT _ _ _ _ (e1 _ _ ha)) T.kT))) k
theorem ev_check_tree {σ : L2.St} {H : Hp} {te : TE} {a : Addr} {c pg : Nat} {t : List Nat} (h : Ev te σ H (.ref a)) (ht : TreeAt K CT c pg t H a) : Ev (tCall (sp_check_tree K CS CT) [] E0 (tCons te tNil)) σ H .non :=
  ev_call (ea_cons h ea_nil) fun H2 e2 Q q E => ⟨a, c, pg, t, rfl, ht.ex e2, q⟩
def sp_check_parts (K : PySem.W.Frag) (CS CT : Addr) : Sp := fun vs H Q _ => ∃ (a s r : Addr) (m pg : Nat) (b rs t : List Nat), vs = [.ref a, .ref s, .ref r] ∧ Sit K CS CT m pg b rs t H a s r ∧ RetV .non H Q
theorem ok_check_parts (D_check_tree : Dn P w K mg base 1 "check_tree" ["value"] [] (sp_check_tree K CS CT)) (D_check_steps : Dn P w K mg base 1 "check_steps" ["value"] [] (sp_check_steps K CS CT)) (D_Steps_len : Dm P w K mg base 1 CS "__len__" ["self"] (sp_Steps_len K CS CT)) (D_are_rooms : Dn P w K mg base 2 "are_rooms" ["steps", "value"] [] (sp_are_rooms K CS CT)) (D_Tree_len : Dm P w K mg base 1 CT "__len__" ["self"] (sp_Tree_len K CS CT)) {f : Addr} {fd : FuncData} (F : FnP K "check_parts" "check_parts" d_check_parts [] [] f fd) (T : Tx K mg CS CT pgs) : FnOk P w K mg base CX0 3 f fd ["tree", "steps", "rooms"] (sp_check_parts K CS CT) := by
  refine F.ok sc_check_parts (fun vs H Q E h => ?_) (fun cdv A outer s H vs Q E hr h => ?_)
  · obtain ⟨a, s, r, m, pg, b, rs, t, rfl, _⟩ := h
    rfl
  · obtain ⟨a, s, r, m, pg, b, rs, t, rfl, hS, k⟩ := h
    obtain ⟨v, dx, tl, lv, ha, ht, hlv⟩ := id hS.tree
    have h32 := v.P32
    have hl8 := v.c8
    refine ⟨_, PSs.nox (pss_cons (ps_expr (pe_callD D_check_tree hr (by decide) (by rfl) (pa_cons (pv 0) pa_nil)))
    (pss_cons (ps_expr (pe_callD D_check_steps hr (by decide) (by rfl) (pa_cons (pv 1) pa_nil)))
    (pss_cons (ps_if (pt_cmpR op_ne (pe_lenD D_Steps_len hr (by decide) (by rfl) T.b_len (pv 1)) (pe_fld (pv 0) rfl) (nomark _)) pss_never pss_nil)
    (pss_one (ps_if (PW.pt (pw_or (pt_not (pt_val (pe_callD D_are_rooms hr (by decide) (by rfl) (pa_cons (pv 1) (pa_cons (pv 2) pa_nil))))) (pw_or1 (pt_cmpR op_ne (pe_callB call_len_seq (by rfl) T.b_len bt_len (pa_cons (pv 2) pa_nil)) (pe_lenD D_Tree_len hr (by decide) (by rfl) T.b_len (pv 0)) (nomark _))))) pss_never pss_nil))))), ?_⟩
    refine q_drop (ev_check_tree (ev_var rfl) hS.tree) fun H1 e1 => ?_
    refine q_drop (ev_call (z := .non) (ea_cons (ev_var rfl) ea_nil) fun H2 e2 Q q E => ⟨s, m, b, rfl, hS.steps.ex (e1.trans e2), q⟩) fun H2 e2 => ?_
    have e12 := e1.trans e2
    obtain ⟨vS, dS, rS, haS, _⟩ := id hS.steps
    refine q_pass (et_is (et_test (ev_op (ev_lenO (ev_var rfl) (e12 _ _ haS) (sv_Steps_len (hS.steps.ex e12)) (by omega)) (ev_fld (ev_var rfl) (e12 _ _ ha) T.cT T.n_classes (tree_classes _ _ _ _)) (rv_ne rfl))) (by simp)) fun H3 e3 => ?_
    have e13 := e12.trans e3
    refine s_pass (et_or (a := false) (b := false) (et_not (a := true) (et_B (ev_call (ea_cons (ev_var rfl) (ea_cons (ev_var rfl) ea_nil)) fun H4 e4 Q q E => ⟨s, r, m, b, rs, rfl, hS.steps.ex (e13.trans e4), hS.rooms.ex (e13.trans e4), by rw [hS.rlen]; omega, hS.rle, q⟩)))
      fun _ => et_is (et_test (ev_op (ev_lenSeq (ev_var rfl) (hS.rooms.ex e13)) (ev_lenTree (ev_var rfl) (hS.tree.ex e13)) (rv_ne rfl))) (by rw [vi_len, hS.rlen]; simp)) fun H4 e4 => k H4 (e13.trans e4)
def sp_check_above (K : PySem.W.Frag) (CS CT : Addr) : Sp := fun vs H Q _ => ∃ ab : Bool, vs = [.bl ab] ∧ RetV .non H Q
theorem ok_check_above  {f : Addr} {fd : FuncData} (F : FnP K "check_above" "check_above" d_check_above [] [] f fd) (T : Tx K mg CS CT pgs) : FnOk P w K mg base CX0 1 f fd ["value"] (sp_check_above K CS CT) := by
  refine F.ok sc_check_above (fun vs H Q E h => ?_) (fun cdv A outer s H vs Q E hr h => ?_)
  · obtain ⟨ab, rfl, _⟩ := h
    rfl
  · obtain ⟨ab, rfl, k⟩ := h
    refine ⟨_, PSs.nox (pss_one (ps_if (pt_not (pt_val (pe_callB call_isi (by rfl) T.b_isinstance bt_isinstance (pa_cons (pv 0) (pa_cons (pe_bltn (v := .ty "bool") (by rfl) T.b_bool bt_bool rfl) pa_nil))))) pss_never pss_nil)), ?_⟩
    exact s_pass (et_not (a := true) (et_B (ev_isi (ev_var rfl) ev_c (ClsV.ty _) (fun _ _ => .base (.bl ab)) (kit_ty (by decide +kernel))))) k
def sp_check_class (K : PySem.W.Frag) (CS CT : Addr) : Sp := fun vs H Q _ => ∃ (a : Addr) (c pg x : Nat) (t : List Nat), vs = [.ref a, .int (x : Int)] ∧ TreeAt K CT c pg t H a ∧ x ≤ c ∧ RetV .non H Q
theorem ok_check_class (D_is_count : Dn P w K mg base 1 "is_count" ["value", "least", "most"] [] (sp_is_count K CS CT)) {f : Addr} {fd : FuncData} (F : FnP K "check_class" "check_class" d_check_class [] [] f fd) (T : Tx K mg CS CT pgs) : FnOk P w K mg base CX0 2 f fd ["tree", "told"] (sp_check_class K CS CT) := by
  refine F.ok sc_check_class (fun vs H Q E h => ?_) (fun cdv A outer s H vs Q E hr h => ?_)
  · obtain ⟨a, c, pg, x, t, rfl, _⟩ := h
    rfl
  · obtain ⟨a, c, pg, x, t, rfl, ⟨v, dx, tl, lv, ha, ht, hlv⟩, hx, k⟩ := h
    refine ⟨_, PSs.nox (pss_one (ps_if (pt_not (pt_val (pe_callD D_is_count hr (by decide) (by rfl) (pa_cons (pv 1) (pa_cons pe_int (pa_cons (pe_fld (pv 0) rfl) pa_nil)))))) pss_never pss_nil)), ?_⟩
    exact s_pass (et_not (a := true) (et_B (ev_call (ea_cons (ev_var rfl) (ea_cons ev_c (ea_cons (ev_fld (ev_var rfl) ha T.cT T.n_classes (tree_classes _ _ _ _)) ea_nil))) (sv_is_count1 (by omega) (by omega))))) k
def sp_next_node (K : PySem.W.Frag) (CS CT : Addr) : Sp := fun vs H Q _ => ∃ (a : Addr) (c pg n nd : Nat) (t : List Nat), vs = [.ref a, .int (n : Int), .int (nd : Int)] ∧ TreeAt K CT c pg t H a ∧ 1 ≤ n ∧ n < pg ∧
  RetV (optV (if nd ≤ M.tg t (2 * n) then some (2 * n) else if nd ≤ M.tg t (2 * n + 1) then some (2 * n + 1) else none)) H Q
theorem ok_next_node (D_Tree_getitem : Dg P w K mg base 2 CT ["self", "node"] (sp_Tree_getitem K CS CT)) {f : Addr} {fd : FuncData} (F : FnP K "next_node" "next_node" d_next_node [] [] f fd) (T : Tx K mg CS CT pgs) : FnOk P w K mg base CX0 4 f fd ["tree", "node", "need"] (sp_next_node K CS CT) := by
  refine F.ok sc_next_node (fun vs H Q E h => ?_) (fun cdv A outer s H vs Q E hr h => ?_)
  · obtain ⟨a, c, pg, n, nd, t, rfl, _⟩ := h
    rfl
  · obtain ⟨a, c, pg, n, nd, t, rfl, hT, h1, h2, k⟩ := h
    refine ⟨_, PSs.nox (pss_cons (ps_for PassesOwn.never rfl (pi_tup (pe_tup (pa_cons (pe_op op_mul pe_int (pv 1)) (pa_cons (pe_op op_add (pe_op op_mul pe_int (pv 1)) pe_int) pa_nil)))) (pg_name (i := 3) sc_next_node.nd rfl (.inl rfl)) (pss_one (ps_if (pt_cmpR op_ge (pe_subD D_Tree_getitem hr (by decide) (pv 0) (pv 3)) (pv 2) (nomark _)) (pss_one (ps_ret (pv 3))) pss_nil)))
    (pss_one (ps_ret pe_non))), ?_⟩
    refine q_forNT (xs := [.int ((2 * n : Nat) : Int), .int ((2 * n + 1 : Nat) : Int)]) (eu_tup (ea_cons (ev_is (ev_op ev_c (ev_var rfl) (rv_I (.inl ⟨by decide, by decide⟩))) (by simp)) (ea_cons (ev_is (ev_op (ev_op ev_c (ev_var rfl) (rv_I (.inl ⟨by decide, by decide⟩))) ev_c rv_I0) (by simp)) ea_nil)) (by simp))
      (fun p i σ' H' => ∃ x, σ' = [some (.ref a), some (.int (n : Int)), some (.int (nd : Int)), x] ∧ Ex H H' ∧ H' p = some (.tup [.int ((2 * n : Nat) : Int), .int ((2 * n + 1 : Nat) : Int)]) ∧ (1 ≤ i → ¬ nd ≤ M.tg t (2 * n)) ∧ (2 ≤ i → ¬ nd ≤ M.tg t (2 * n + 1)))
      (fun p H1 hp e1 h1' => ⟨none, rfl, e1, h1', fun z => by omega, fun z => by omega⟩) (fun p i σ' H' _ hP => by obtain ⟨_, _, _, h, _⟩ := hP; exact st_of h) (fun p i x σ' H' hi hP => ?_) (fun p σ' H' hP => ?_)
    · obtain ⟨y, rfl, e1, hp, g1, g2⟩ := hP
      match i, hi with
      | 0, hi =>
        cases hi
        refine s_if (b := decide (nd ≤ M.tg t (2 * n))) (et_is (et_test (ev_op (ev_treeAt (ev_var rfl) (hT.ex e1) (ev_var rfl) rfl (by omega) (by omega)) (ev_var rfl) rv_I0)) (by simp)) (fun z H2 e2 => ?_) (fun z H2 e2 => ?_)
        · refine s_ret (ev_var rfl) fun H3 e3 => ?_
          rw [if_pos (of_decide_eq_true z)] at k
          exact k H3 ((e1.trans e2).trans e3)
        · exact ⟨_, rfl, e1.trans e2, e2 _ _ hp, fun _ => of_decide_eq_false z, fun h => by omega⟩
      | 1, hi =>
        cases hi
        have g0 := g1 (Nat.le_refl _)
        refine s_if (b := decide (nd ≤ M.tg t (2 * n + 1))) (et_is (et_test (ev_op (ev_treeAt (ev_var rfl) (hT.ex e1) (ev_var rfl) rfl (by omega) (by omega)) (ev_var rfl) rv_I0)) (by simp)) (fun z H2 e2 => ?_) (fun z H2 e2 => ?_)
        · refine s_ret (ev_var rfl) fun H3 e3 => ?_
          rw [if_neg g0, if_pos (of_decide_eq_true z)] at k
          exact k H3 ((e1.trans e2).trans e3)
        · exact ⟨_, rfl, e1.trans e2, e2 _ _ hp, fun _ => g0, fun _ => of_decide_eq_false z⟩
      | (j + 2), hi => simp at hi
    · obtain ⟨y, rfl, e1, hp, g1, g2⟩ := hP
      refine s_ret ev_c fun H2 e2 => ?_
      rw [if_neg (g1 (by simp)), if_neg (g2 (by simp))] at k
      exact k H2 (e1.trans e2)
/-- what a row of writes comes back as: a new list -/
def RetRow (ws : List (Nat × Nat)) (H : Hp) (Q : VK) : Prop := ∀ p H2, H p = none → Ex H H2 → RowAt H2 p ws → Q (.ref p) H2
def sp_lowering (K : PySem.W.Frag) (CS CT : Addr) : Sp := fun vs H Q _ => ∃ (a : Addr) (c pg n x : Nat) (t : List Nat) (ab : Bool), vs = [.ref a, .int (n : Int), .int (x : Int), .bl ab] ∧ TreeAt K CT c pg t H a ∧ 1 ≤ n ∧ n < 2 * pg ∧ x ≤ c ∧ RetRow (if ab then (M.low t n x).reverse else M.low t n x) H Q
theorem ok_lowering (D_check_tree : Dn P w K mg base 1 "check_tree" ["value"] [] (sp_check_tree K CS CT)) (D_is_count : Dn P w K mg base 1 "is_count" ["value", "least", "most"] [] (sp_is_count K CS CT)) (D_Tree_len : Dm P w K mg base 1 CT "__len__" ["self"] (sp_Tree_len K CS CT)) (D_check_class : Dn P w K mg base 2 "check_class" ["tree", "told"] [] (sp_check_class K CS CT)) (D_check_above : Dn P w K mg base 1 "check_above" ["value"] [] (sp_check_above K CS CT)) (D_Tree_getitem : Dg P w K mg base 2 CT ["self", "node"] (sp_Tree_getitem K CS CT)) (D_Tree_with_told : Dm P w K mg base 5 CT "with_told" ["self", "node", "told"] (sp_Tree_with_told K CS CT)) (D_Tree_greater : Dm P w K mg base 2 CT "greater" ["self", "node"] (sp_Tree_greater K CS CT)) {f : Addr} {fd : FuncData} (F : FnP K "lowering" "lowering" d_lowering [] [("above", .bl false)] f fd) (T : Tx K mg CS CT pgs) : FnOk P w K mg base CX0 6 f fd ["tree", "node", "told", "above"] (sp_lowering K CS CT) := by
  refine F.ok sc_lowering (fun vs H Q E h => ?_) (fun cdv A outer s H vs Q E hr h => ?_)
  · obtain ⟨a, c, pg, n, x, t, ab, rfl, _⟩ := h
    rfl
  · obtain ⟨a, c, pg, n, x, t, ab, rfl, hT, h1, h2, hx, k⟩ := h
    have h32 := hT.1.P32
    refine ⟨_, PSs.nox (pss_cons (ps_expr (pe_callD D_check_tree hr (by decide) (by rfl) (pa_cons (pv 0) pa_nil)))
    (pss_cons (ps_if (pt_not (pt_val (pe_callD D_is_count hr (by decide) (by rfl) (pa_cons (pv 1) (pa_cons pe_int (pa_cons (pe_op op_sub (pe_op op_mul pe_int (pe_lenD D_Tree_len hr (by decide) (by rfl) T.b_len (pv 0))) pe_int) pa_nil)))))) pss_never pss_nil)
    (pss_cons (ps_expr (pe_callD D_check_class hr (by decide) (by rfl) (pa_cons (pv 0) (pa_cons (pv 2) pa_nil))))
    (pss_cons (ps_expr (pe_callD D_check_above hr (by decide) (by rfl) (pa_cons (pv 3) pa_nil)))
    (pss_cons (ps_if (pt_cmpR op_ge (pv 2) (pe_subD D_Tree_getitem hr (by decide) (pv 0) (pv 1)) (nomark _)) (pss_one (ps_ret (pe_lst pa_nil))) pss_nil)
    (pss_cons (ps_set (i := 4) sc_lowering.nd rfl (.inl rfl) (pe_lst (pa_cons (pe_tup (pa_cons (pv 1) (pa_cons (pv 2) pa_nil))) pa_nil)))
    (pss_cons (ps_set (i := 5) sc_lowering.nd rfl (.inl rfl) (pe_methD D_Tree_with_told hr (by decide) (pv 0) (pa_cons (pv 1) (pa_cons (pv 2) pa_nil))))
    (pss_cons (ps_set (i := 1) sc_lowering.nd rfl (.inl rfl) (pe_op op_fdiv (pv 1) pe_int))
    (pss_cons (ps_while PassesOwn.never (pt_cmpR op_ge (pv 1) pe_int (nomark _)) (pss_cons (ps_if (pt_cmpR op_gt (pe_subD D_Tree_getitem hr (by decide) (pv 5) (pv 1)) (pe_methD D_Tree_greater hr (by decide) (pv 5) (pa_cons (pv 1) pa_nil)) (nomark _)) (pss_cons (ps_expr (pe_bm PySem.F.plainAttrs_list PySem.F.slot_list_append PySem.F.type_list_append mt_append (pv 4) (pa_cons (pe_tup (pa_cons (pv 1) (pa_cons (pe_methD D_Tree_greater hr (by decide) (pv 5) (pa_cons (pv 1) pa_nil)) pa_nil))) pa_nil)))
    (pss_one (ps_set (i := 5) sc_lowering.nd rfl (.inl rfl) (pe_methD D_Tree_with_told hr (by decide) (pv 5) (pa_cons (pv 1) (pa_cons (pe_methD D_Tree_greater hr (by decide) (pv 5) (pa_cons (pv 1) pa_nil)) pa_nil)))))) pss_nil)
    (pss_one (ps_set (i := 1) sc_lowering.nd rfl (.inl rfl) (pe_op op_fdiv (pv 1) pe_int)))))
    (pss_one (ps_ret (pe_ifExp (pt_val (pv 3)) (pe_revL (pv 4)) (pv 4))))))))))))), ?_⟩
    refine q_drop (ev_check_tree (ev_var rfl) hT) fun H1 e1 => ?_
    refine q_pass (et_not (a := true) (et_B (ev_call (ea_cons (ev_var rfl) (ea_cons ev_c (ea_cons (ev_op (ev_op ev_c (ev_lenTree (ev_var rfl) (hT.ex e1)) (rv_I (.inl ⟨by decide, by decide⟩))) ev_c rv_I0) ea_nil))) (sv_is_count1 (by omega) (by omega))))) fun H2 e2 => ?_
    have e12 := e1.trans e2
    refine q_drop (ev_call (z := .non) (ea_cons (ev_var rfl) (ea_cons (ev_var rfl) ea_nil)) fun H3 e3 Q q E => ⟨a, c, pg, x, t, rfl, hT.ex (e12.trans e3), hx, q⟩) fun H3 e3 => ?_
    refine q_drop (ev_call (z := .non) (ea_cons (ev_var rfl) ea_nil) fun H3 e3 Q q E => ⟨ab, rfl, q⟩) fun H4 e4 => ?_
    have e14 := (e12.trans e3).trans e4
    refine q_when (b := decide (M.tg t n ≤ x)) (et_is (et_test (ev_op (ev_var rfl) (ev_treeAt (ev_var rfl) (hT.ex e14) (ev_var rfl) rfl h1 h2) rv_I0)) (by simp)) (fun z H5 e5 => ?_) fun z H5 e5 => ?_
    · have hl : M.low t n x = [] := by unfold M.low; rw [if_pos (of_decide_eq_true z)]
      have hr0 : (if ab = true then (M.low t n x).reverse else M.low t n x) = [] := by rw [hl]; cases ab <;> rfl
      rw [hr0] at k
      exact s_retL (el_lst ea_nil (by simp)) fun p H6 hp e6 h6 => k p H6 (fresh_back (e14.trans e5) hp) ((e14.trans e5).trans e6) ⟨_, h6, .nil⟩
    · have hl : M.low t n x = (n, x) :: M.ups (M.st t n x) (n / 2) := by unfold M.low; rw [if_neg (of_decide_eq_false z)]
      have e15 := e14.trans e5
      -- row = [(node, told)]
      refine q_lstU (eu_tup (ea_cons (x := .int (n : Int)) (ev_var rfl) (ea_cons (x := .int (x : Int)) (ev_var rfl) ea_nil)) (by simp)) fun p p0 H7 hp e7 h7 h7' => ?_
      have e17 := e15.trans e7
      have hpn : H p = none := fresh_back e15 hp
      have hrow : RowAt H7 p [(n, x)] := ⟨_, h7, .one h7'⟩
      refine q_asgG (gv_with_told (ev_var rfl) (hT.ex e17) (ev_var rfl) rfl (ev_var rfl) rfl h1 h2 hx) fun u H8 e8 hu => ?_
      obtain ⟨nw, rfl, hN⟩ := hu
      refine q_asg (v := .int ((n / 2 : Nat) : Int)) (ev_is (ev_op (ev_var rfl) ev_c (rv_I ⟨by decide, by decide⟩)) (by simp)) fun H9 e9 => ?_
      have e89 := e8.trans e9
      refine q_while (fun m σ' H' => ∃ nw done tt, σ' = [some (.ref a), some (.int (m : Int)), some (.int (x : Int)), some (.bl ab), some (.ref p), some (.ref nw)] ∧ Ex H H' ∧ m < pg ∧ done.length + m ≤ 64 ∧ RowAt H' p done ∧ TreeAt K CT c pg tt H' nw ∧ done ++ M.ups tt m = M.low t n x) (n / 2)
        ⟨nw, [(n, x)], _, rfl, e17.trans e89, by omega, by simp; omega, hrow.ex e89, hN.ex e9, hl.symm⟩ fun m σ' H' hW => ?_
      obtain ⟨nw, done, tt, rfl, eH, hm, hdl, hR, hN, hd⟩ := hW
      refine ⟨decide (1 ≤ m), et_is (et_test (ev_op (ev_var rfl) ev_c rv_I0)) (by simp; omega), fun hb H2 e2 => ?_, fun hb H2 e2 => ?_⟩
      · have hm1 : 1 ≤ m := of_decide_eq_true hb
        refine ⟨fun σ2 H2 => ∃ m', m' < m ∧ ∃ nw done tt, σ2 = [some (.ref a), some (.int (m' : Int)), some (.int (x : Int)), some (.bl ab), some (.ref p), some (.ref nw)] ∧ Ex H H2 ∧ m' < pg ∧ done.length + m' ≤ 64 ∧ RowAt H2 p done ∧ TreeAt K CT c pg tt H2 nw ∧ done ++ M.ups tt m' = M.low t n x, fun σ2 H2 h => h, ?_⟩
        have hG : ∀ {H' σ' te}, Ev te σ' H' (.ref nw) → TreeAt K CT c pg tt H' nw → σ'[1]? = some (some (.int (m : Int))) → Ev (tMeth CT "greater" (sp_Tree_greater K CS CT) [] E0 te (tCons (tVar 1) tNil)) σ' H' (.int (M.gr tt m : Int)) := fun h1 h2 h3 => ev_greater h1 h2 (ev_var h3) rfl hm1 hm
        refine q_when (b := decide (M.gr tt m < M.tg tt m)) (et_is (et_test (ev_op (ev_treeAt (ev_var rfl) (hN.ex e2) (ev_var rfl) rfl hm1 (by omega)) (hG (ev_var rfl) (hN.ex e2) rfl) rv_I0)) (by simp)) (fun z H3 e3 => ?_) fun z H3 e3 => ?_
        · have hz : M.gr tt m < M.tg tt m := of_decide_eq_true z
          have e23 := e2.trans e3
          obtain ⟨xs, hp1, hp2⟩ := hR.ex e23
          refine q_appU hp1 (ev_var rfl) (eu_tup (ea_cons (x := .int (m : Int)) (ev_var rfl) (ea_cons (hG (ev_var rfl) (hN.ex e23) rfl) ea_nil)) (by simp)) (by rw [hp2.len]; omega) fun q H4 hq e4 h4 => ?_
          have hp4 := e4 _ _ hp1
          have hx4 : Ex H (upd H4 p (.lst (xs ++ [.ref q]))) := Ex.mut ((eH.trans e23).trans e4) hpn
          have hN4 : TreeAt K CT c pg tt (upd H4 p (.lst (xs ++ [.ref q]))) nw := (hN.ex (e23.trans e4)).updL hp4
          have hq4 : PairsL (xs ++ [.ref q]) (upd H4 p (.lst (xs ++ [.ref q]))) (done ++ [(m, M.gr tt m)]) := ((hp2.ex e4).append (.one h4)).updL hp4
          refine s_asgG (gv_with_told (ev_var rfl) hN4 (ev_var rfl) rfl (hG (ev_var rfl) hN4 rfl) rfl hm1 (by omega) (hN.1.le.gr m)) fun u H5 e5 hu => ?_
          obtain ⟨nw', rfl, hN'⟩ := hu
          refine s_asg (v := .int ((m / 2 : Nat) : Int)) (ev_is (ev_op (ev_var rfl) ev_c (rv_I ⟨by decide, by decide⟩)) (by simp)) fun H6 e6 => ?_
          refine ⟨m / 2, by omega, nw', done ++ [(m, M.gr tt m)], _, rfl, (hx4.trans e5).trans e6, by omega, by simp; omega, RowAt.ex ⟨_, upd_same, hq4⟩ (e5.trans e6), hN'.ex e6, ?_⟩
          rw [← hd, M.ups_yes (by omega) hz, List.append_assoc]
          rfl
        · have hz : ¬ M.gr tt m < M.tg tt m := of_decide_eq_false z
          refine s_asg (v := .int ((m / 2 : Nat) : Int)) (ev_is (ev_op (ev_var rfl) ev_c (rv_I ⟨by decide, by decide⟩)) (by simp)) fun H6 e6 => ?_
          have e26 := (e2.trans e3).trans e6
          refine ⟨m / 2, by omega, nw, done, tt, rfl, eH.trans e26, by omega, by omega, hR.ex e26, hN.ex e26, ?_⟩
          rw [← hd, ← M.ups_no (by omega) hz]
      · have hm0 : m = 0 := by have := of_decide_eq_false hb; omega
        subst hm0
        rw [M.ups_zero, List.append_nil] at hd
        subst hd
        obtain ⟨xs, hp1, hp2⟩ := hR.ex e2
        refine s_retIf (et_B (ev_var rfl)) (fun z H3 e3 => ?_) fun z H3 e3 => ?_
        · subst z
          exact s_retL (el_rev (ev_var rfl) (sq_of (e3 _ _ hp1))) fun q H4 hq e4 h4 => k q H4 (fresh_back ((eH.trans e2).trans e3) hq) (((eH.trans e2).trans e3).trans e4) ⟨_, h4, ((hp2.ex e3).ex e4).reverse⟩
        · subst z
          exact s_ret (ev_var rfl) fun H4 e4 => k p H4 hpn (((eH.trans e2).trans e3).trans e4) ⟨_, e4 _ _ (e3 _ _ hp1), (hp2.ex e3).ex e4⟩
end
end Rt
end
section
/-! Rows checked and written. Printed by gen_rules.py from RtE.src. -/
namespace Rt
open PySem PySem.Spec PyProof.Rows L2 Evl
section
variable {P : Program} {w : World} {K : PySem.W.Frag} {mg : Str → Option Value} {base : Heap} {CS CT pgs : Addr}
def sp_is_row (K : PySem.W.Frag) (CS CT : Addr) : Sp := fun vs H Q _ => ∃ (a p : Addr) (c pg : Nat) (t : List Nat) (ws : List (Nat × Nat)), vs = [.ref a, .ref p] ∧ TreeAt K CT c pg t H a ∧ RowAt H p ws ∧ M.OkW t.length c ws ∧ ws.length ≤ 1000 ∧ RetV (.bl true) H Q
theorem ok_is_row (D_is_count : Dn P w K mg base 1 "is_count" ["value", "least", "most"] [] (sp_is_count K CS CT)) (D_Tree_len : Dm P w K mg base 1 CT "__len__" ["self"] (sp_Tree_len K CS CT)) {f : Addr} {fd : FuncData} (F : FnP K "is_row" "is_row" d_is_row [] [] f fd) (T : Tx K mg CS CT pgs) : FnOk P w K mg base CX0 3 f fd ["tree", "value"] (sp_is_row K CS CT) := by
  refine F.ok sc_is_row (fun vs H Q E h => ?_) (fun cdv A outer s H vs Q E hr h => ?_)
  · obtain ⟨a, p, c, pg, t, ws, rfl, _⟩ := h
    rfl
  · obtain ⟨a, p, c, pg, t, ws, rfl, hT, ⟨xs, hp, hx⟩, hok, hl, k⟩ := h
    obtain ⟨v, dx, tl, lv, ha, ht, hlv⟩ := id hT
    have h32 := v.P32
    have hlen := v.len
    have hxl := hx.len
    refine ⟨_, PSs.nox (pss_cons (ps_if (PW.pt (pw_or (pt_not (pt_val (pe_callB call_isi (by rfl) T.b_isinstance bt_isinstance (pa_cons (pv 1) (pa_cons (pe_bltn (v := .ty "list") (by rfl) T.b_list bt_list rfl) pa_nil))))) (pw_or1 (pt_not (pt_val (pe_callB (cr_all (by rfl)) (by rfl) T.b_all bt_all (pa_cons (pe_lc (te := (tAndV (tCB (rIsi K) (tCons (tVar 2) (tCons (tC (.ty "tuple")) tNil))) (tOp rEq (tCB (rLenS K) (tCons (tVar 2) tNil)) (tC (.int 2))))) (tt := tYes) (own := [("one", 2)]) rfl sc_is_row.nd (pi_list (pv 1)) (blkOk_by (own := [("one", 2)]) (N := ["tree", "value", "one"]) (sc := defScope d_is_row) (by decide +kernel)) (fun _ _ _ _ _ => (pg_name (i := 2) sc_is_row.nd rfl (.inl rfl) (.inr rfl))) (fun _ _ _ _ _ => pts_nil) (fun _ _ _ _ _ => (pe_and (pe_callB call_isi (by rfl) T.b_isinstance bt_isinstance (pa_cons (pv 2) (pa_cons (pe_bltn (v := .ty "tuple") (by rfl) T.b_tuple bt_tuple rfl) pa_nil))) (pe_one (pe_cmpR op_eq (pe_callB call_len_seq (by rfl) T.b_len bt_len (pa_cons (pv 2) pa_nil)) pe_int (nomark _)))))) pa_nil))))))) (pss_one (ps_ret pe_bl)) pss_nil)
    (pss_one (ps_ret (pe_callB (cr_all (by rfl)) (by rfl) T.b_all bt_all (pa_cons (pe_lc (te := (tAndV (tCall (sp_is_count K CS CT) [] E0 (tCons (tOp (rIxT K) (tVar 2) (tC (.int 0))) (tCons (tC (.int 1)) (tCons (tOp (rI0 fun i j => .int (i - j)) (tOp (rI CMul fun i j => .int (i * j)) (tC (.int 2)) (tCB (rLenO CT (sp_Tree_len K CS CT) E0) (tCons (tVar 0) tNil))) (tC (.int 1))) tNil)))) (tCall (sp_is_count K CS CT) [] E0 (tCons (tOp (rIxT K) (tVar 2) (tC (.int 1))) (tCons (tC (.int 0)) (tCons (tFld K (tVar 0) "classes") tNil)))))) (tt := tYes) (own := [("one", 2)]) rfl sc_is_row.nd (pi_list (pv 1)) (blkOk_by (own := [("one", 2)]) (N := ["tree", "value", "one"]) (sc := defScope d_is_row) (by decide +kernel)) (fun _ _ _ _ _ => (pg_name (i := 2) sc_is_row.nd rfl (.inl rfl) (.inr rfl))) (fun _ _ _ _ _ => pts_nil) (fun _ _ _ _ _ => (pe_and (pe_callD D_is_count hr (by decide) (by rfl) (pa_cons (pe_ix ix_tup (pv 2) pe_int (fun _ _ => rfl)) (pa_cons pe_int (pa_cons (pe_op op_sub (pe_op op_mul pe_int (pe_lenD D_Tree_len hr (by decide) (by rfl) T.b_len (pv 0))) pe_int) pa_nil)))) (pe_one (pe_callD D_is_count hr (by decide) (by rfl) (pa_cons (pe_ix ix_tup (pv 2) pe_int (fun _ _ => rfl)) (pa_cons pe_int (pa_cons (pe_fld (pv 0) rfl) pa_nil)))))))) pa_nil))))), ?_⟩
    refine q_when (b := false) (et_or (a := false) (b := false) (et_not (a := true) (et_B (ev_isi (ev_var rfl) ev_c (ClsV.ty _) (fun H1 e1 => .base (.lst (e1 _ _ hp))) (kit_ty (by decide +kernel)))))
      fun _ => et_not (a := true) (et_B (ev_allT (el_lcL (fun _ => true) (fun _ => .bl true) (ev_var rfl) (sq_of hp) (by omega) (fun _ => rfl) (fun _ _ _ _ _ => ev_yes) fun i x H1 e1 hi _ => ?_) fun _ _ => ⟨rfl, rfl⟩))) (fun z => by cases z) fun _ H2 e2 => ?_
    · obtain ⟨q, wq, rfl, hw, hq⟩ := hx.get hi
      exact ev_is (ev_andV (a := true) (b := true) (ev_isi (ev_var rfl) ev_c (ClsV.ty _) (fun H2 e2 => .base (.tup (e2 _ _ (e1 _ _ hq)))) (kit_ty (by decide +kernel))) fun _ => ev_is (ev_op (ev_lenT (ev_var rfl) (st_of (e1 _ _ hq))) ev_c (rv_eq rfl)) (by simp)) rfl
    · refine s_ret (ev_allT (el_lcL (fun _ => true) (fun _ => .bl true) (ev_var rfl) (sq_of (e2 _ _ hp)) (by omega) (fun _ => rfl) (fun _ _ _ _ _ => ev_yes) fun i x H1 e1 hi _ => ?_) fun _ _ => ⟨rfl, rfl⟩) fun H3 e3 => k H3 (e2.trans e3)
      obtain ⟨q, wq, rfl, hw, hq⟩ := hx.get hi
      have e21 := e2.trans e1
      have hq1 := e21 _ _ hq
      obtain ⟨g1, g2, g3⟩ := hok _ (List.mem_of_getElem? hw)
      exact ev_is (ev_andV (a := true) (b := true) (ev_call (ea_cons (ev_op (ev_var rfl) ev_c (rv_ixT (st_of hq1) (atI_nat (j := 0) rfl))) (ea_cons ev_c (ea_cons (ev_op (ev_op ev_c (ev_lenTree (ev_var rfl) (hT.ex e21)) (rv_I (.inl ⟨by decide, by decide⟩))) ev_c rv_I0) ea_nil))) (sv_is_count1 (by omega) (by omega)))
        fun _ => ev_call (ea_cons (ev_op (ev_var rfl) ev_c (rv_ixT (st_of hq1) (atI_nat (j := 1) rfl))) (ea_cons ev_c (ea_cons (ev_fld (ev_var rfl) (e21 _ _ ha) T.cT T.n_classes (tree_classes _ _ _ _)) ea_nil))) (sv_is_count1 (by omega) (by omega))) rfl
def sp_check_row (K : PySem.W.Frag) (CS CT : Addr) : Sp := fun vs H Q _ => ∃ (a p : Addr) (c pg : Nat) (t : List Nat) (ws : List (Nat × Nat)), vs = [.ref a, .ref p] ∧ TreeAt K CT c pg t H a ∧ RowAt H p ws ∧ M.OkW t.length c ws ∧ ws.length ≤ 1000 ∧ RetV .non H Q
theorem ok_check_row (D_check_tree : Dn P w K mg base 1 "check_tree" ["value"] [] (sp_check_tree K CS CT)) (D_is_row : Dn P w K mg base 3 "is_row" ["tree", "value"] [] (sp_is_row K CS CT)) {f : Addr} {fd : FuncData} (F : FnP K "check_row" "check_row" d_check_row [] [] f fd) (T : Tx K mg CS CT pgs) : FnOk P w K mg base CX0 4 f fd ["tree", "row"] (sp_check_row K CS CT) := by
  refine F.ok sc_check_row (fun vs H Q E h => ?_) (fun cdv A outer s H vs Q E hr h => ?_)
  · obtain ⟨a, p, c, pg, t, ws, rfl, _⟩ := h
    rfl
  · obtain ⟨a, p, c, pg, t, ws, rfl, hT, hR, hok, hl, k⟩ := h
    refine ⟨_, PSs.nox (pss_cons (ps_expr (pe_callD D_check_tree hr (by decide) (by rfl) (pa_cons (pv 0) pa_nil)))
    (pss_one (ps_if (pt_not (pt_val (pe_callD D_is_row hr (by decide) (by rfl) (pa_cons (pv 0) (pa_cons (pv 1) pa_nil))))) pss_never pss_nil))), ?_⟩
    refine q_drop (ev_check_tree (ev_var rfl) hT) fun H1 e1 => ?_
    exact s_pass (et_not (a := true) (et_B (ev_call (ea_cons (ev_var rfl) (ea_cons (ev_var rfl) ea_nil)) fun H2 e2 Q q E => ⟨a, p, c, pg, t, ws, rfl, hT.ex (e1.trans e2), hR.ex (e1.trans e2), hok, hl, q⟩))) fun H2 e2 => k H2 (e1.trans e2)
def sp_written (K : PySem.W.Frag) (CS CT : Addr) : Sp := fun vs H Q _ => ∃ (a p : Addr) (c pg : Nat) (t : List Nat) (ws : List (Nat × Nat)), vs = [.ref a, .ref p] ∧ TreeAt K CT c pg t H a ∧ RowAt H p ws ∧ M.OkW t.length c ws ∧ ws.length ≤ 1000 ∧ RetP (fun u H1 => ∃ b, u = .ref b ∧ TreeAt K CT c pg (M.wr t ws) H1 b) H Q
theorem wr_take {t : List Nat} {ws : List (Nat × Nat)} {i : Nat} {q : Nat × Nat} (h : ws[i]? = some q) : M.wr t (ws.take (i + 1)) = M.st (M.wr t (ws.take i)) q.1 q.2 := by
  rw [List.take_succ, h, M.wr_append]
  rfl
theorem ok_written (D_check_row : Dn P w K mg base 4 "check_row" ["tree", "row"] [] (sp_check_row K CS CT)) (D_Tree_with_told : Dm P w K mg base 5 CT "with_told" ["self", "node", "told"] (sp_Tree_with_told K CS CT)) {f : Addr} {fd : FuncData} (F : FnP K "written" "written" d_written [] [] f fd) (T : Tx K mg CS CT pgs) : FnOk P w K mg base CX0 6 f fd ["tree", "row"] (sp_written K CS CT) := by
  refine F.ok sc_written (fun vs H Q E h => ?_) (fun cdv A outer s H vs Q E hr h => ?_)
  · obtain ⟨a, p, c, pg, t, ws, rfl, _⟩ := h
    rfl
  · obtain ⟨a, p, c, pg, t, ws, rfl, hT, hR, hok, hl, k⟩ := h
    obtain ⟨xs, hp, hx⟩ := id hR
    have hlen := hT.1.len
    refine ⟨_, PSs.nox (pss_cons (ps_expr (pe_callD D_check_row hr (by decide) (by rfl) (pa_cons (pv 0) (pa_cons (pv 1) pa_nil))))
    (pss_cons (ps_for PassesOwn.never rfl (pi_list (pv 1)) (pg_tup rfl (pgs_cons (pg_name (i := 2) sc_written.nd rfl (.inl rfl)) (pgs_cons (pg_name (i := 3) sc_written.nd rfl (.inl rfl)) pgs_nil))) (pss_one (ps_set (i := 0) sc_written.nd rfl (.inl rfl) (pe_methD D_Tree_with_told hr (by decide) (pv 0) (pa_cons (pv 2) (pa_cons (pv 3) pa_nil))))))
    (pss_one (ps_ret (pv 0))))), ?_⟩
    refine q_drop (ev_call (z := .non) (ea_cons (ev_var rfl) (ea_cons (ev_var rfl) ea_nil)) fun H2 e2 Q q E => ⟨a, p, c, pg, t, ws, rfl, hT.ex e2, hR.ex e2, hok, hl, q⟩) fun H1 e1 => ?_
    refine q_forL (xs := xs) (ev_var rfl) (sq_of (e1 _ _ hp)) (fun i σ' H' => ∃ b y z, σ' = [some (.ref b), some (.ref p), y, z] ∧ Ex H H' ∧ TreeAt K CT c pg (M.wr t (ws.take i)) H' b) (fun H2 e2 => ⟨a, none, none, rfl, e1.trans e2, hT.ex (e1.trans e2)⟩) (fun i σ' H' _ hP => by obtain ⟨_, _, _, _, e, _⟩ := hP; exact sq_of (e _ _ hp)) (fun i x σ' H' hi hP => ?_) fun σ' H' hP => ?_
    · obtain ⟨b, y, z, rfl, eH, hB⟩ := hP
      obtain ⟨q, wq, rfl, hw, hq⟩ := hx.get hi
      obtain ⟨g1, g2, g3⟩ := hok _ (List.mem_of_getElem? hw)
      refine ⟨q, _, rfl, st_of (eH _ _ hq), rfl, _, _, rfl, _, _, rfl, rfl, ?_⟩
      refine s_asgG (gv_with_told (ev_var rfl) hB (ev_var rfl) rfl (ev_var rfl) rfl g1 (by omega) g3) fun u H2 e2 hu => ?_
      obtain ⟨b', rfl, hB'⟩ := hu
      exact ⟨b', _, _, rfl, eH.trans e2, by rw [wr_take hw]; exact hB'⟩
    · obtain ⟨b, y, z, rfl, eH, hB⟩ := hP
      rw [hx.len, List.take_length] at hB
      exact s_ret (ev_var rfl) fun H2 e2 => k _ H2 (eH.trans e2) ⟨b, rfl, hB.ex e2⟩
theorem gv_written {σ : L2.St} {H : Hp} {te ti : TE} {a : Addr} {c pg : Nat} {t : List Nat} {ws : List (Nat × Nat)} (h : Ev te σ H (.ref a)) (hi : Gv ti σ H (fun v H1 => ∃ p, v = .ref p ∧ RowAt H1 p ws)) (ht : TreeAt K CT c pg t H a) (hok : M.OkW t.length c ws) (hl : ws.length ≤ 1000) :
    Gv (tCall (sp_written K CS CT) [] E0 (tCons te (tCons ti tNil))) σ H (fun u H1 => ∃ b, u = .ref b ∧ TreeAt K CT c pg (M.wr t ws) H1 b) := fun H1 e Q q =>
  h H1 e _ fun H2 e2 => hi H2 (e.trans e2) _ fun v H3 e3 ⟨p, hv, hR⟩ => by
    subst hv
    exact ⟨a, p, c, pg, t, ws, rfl, ht.ex ((e.trans e2).trans e3), hR, hok, hl, fun u H4 e4 hu => q u H4 ((e2.trans e3).trans e4) hu⟩
def sp_check_asked (K : PySem.W.Frag) (CS CT : Addr) : Sp := fun vs H Q _ => ∃ (a s r : Addr) (m pg sz : Nat) (b rs t : List Nat), vs = [.ref a, .ref s, .ref r, .int (sz : Int)] ∧ Sit K CS CT m pg b rs t H a s r ∧ 1 ≤ sz ∧ sz ≤ m ∧ RetV .non H Q
theorem ok_check_asked (D_check_parts : Dn P w K mg base 3 "check_parts" ["tree", "steps", "rooms"] [] (sp_check_parts K CS CT)) (D_check_size : Dn P w K mg base 2 "check_size" ["steps", "size"] [] (sp_check_size K CS CT)) {f : Addr} {fd : FuncData} (F : FnP K "check_asked" "check_asked" d_check_asked [] [] f fd) (T : Tx K mg CS CT pgs) : FnOk P w K mg base CX0 4 f fd ["tree", "steps", "rooms", "size"] (sp_check_asked K CS CT) := by
  refine F.ok sc_check_asked (fun vs H Q E h => ?_) (fun cdv A outer s H vs Q E hr h => ?_)
  · obtain ⟨a, s, r, m, pg, sz, b, rs, t, rfl, _⟩ := h
    rfl
  · obtain ⟨a, s, r, m, pg, sz, b, rs, t, rfl, hS, h1, h2, k⟩ := h
    refine ⟨_, PSs.nox (pss_cons (ps_expr (pe_callD D_check_parts hr (by decide) (by rfl) (pa_cons (pv 0) (pa_cons (pv 1) (pa_cons (pv 2) pa_nil)))))
    (pss_one (ps_expr (pe_callD D_check_size hr (by decide) (by rfl) (pa_cons (pv 1) (pa_cons (pv 3) pa_nil)))))), ?_⟩
    refine q_drop (ev_call (z := .non) (ea_cons (ev_var rfl) (ea_cons (ev_var rfl) (ea_cons (ev_var rfl) ea_nil))) fun H2 e2 Q q E => ⟨a, s, r, m, pg, b, rs, t, rfl, hS.ex e2, q⟩) fun H1 e1 => ?_
    exact s_drop (ev_call (z := .non) (ea_cons (ev_var rfl) (ea_cons (ev_var rfl) ea_nil)) fun H2 e2 Q q E => ⟨s, m, b, sz, rfl, hS.steps.ex (e1.trans e2), h1, h2, q⟩) fun H2 e2 => k H2 (e1.trans e2)
end
end Rt
end
section
/-! The generators: stages, events. Printed by gen_rules.py from RtF.src. -/
namespace Rt
open PySem PySem.Spec PyProof.Rows L2 Evl GenW

theorem FunD.gen {P : Program} {w : World} {K : PySem.W.Frag} {mg : Str → Option Value} {base : Heap} {x qual : Str} {params : Arguments} {body : List Stmt} {scope : Scope} {dvs : List V} {kws : List (Str × V)} {f : Addr} {fd : FuncData}
    {N ps : List Str} {k B : Nat} {sp : SpGen} (F : FunD K x qual params body scope dvs kws f fd) (S : GScope N ps scope) (nc : ∀ y ∈ scope.names, y.2 ≠ .cell) (len : ∀ vs H g, sp vs H g → vs.length = ps.length)
    (hbody : ∀ (cdv : Value) (Aw : Around) (outer : List Env) (L a : Addr) (go : Obj) (os : OsState) (H : Hp) (vs : List V) (g : GSpec), Room k (Aw.deeper (envOfC qual scope L f cdv)) → (gFam P w K mg base Aw N (envOfC qual scope L f cdv) outer a go os).Ok → sp vs H g →
      ∃ t, GSs (gFam P w K mg base Aw N (envOfC qual scope L f cdv) outer a go os) g B body t ∧ ∀ H2, g.kp H H2 → t { nx := fun i Hw _ H' => g.dn i Hw H', rt := fun i Hw v H' => v = .non ∧ g.dn i Hw H' } 0 H2 (L2.start N vs) H2) :
    GDef P w K mg base (k + 1) B f fd ps sp := by
  obtain ⟨oc, od, dV, kV, doc, pm, an, cdv, ct, osl, rfl, lk, hcd, _, _⟩ := F.ex
  exact gdef_of lk hcd S nc len (hbody cdv)

section
variable {P : Program} {w : World} {K : PySem.W.Frag} {mg : Str → Option Value} {base : Heap} {CS CT pgs : Addr}

section
variable {σ : L2.St} {Hw H : Hp} {te : TE} {tt : TT} {v : V} {R : V → Hp → Prop} {D : GEnds} {i j : Nat} {u : TGn} {tu tw : TS}
theorem g_drop (h : Ev te σ H v) (k : ∀ H1, Ex H H1 → u D i Hw σ H1) : gThen (gPlain (tDrop te)) u D i Hw σ H := h H (Ex.refl H) _ fun H1 e => k H1 e
theorem g_asg (h : Ev te σ H v) (k : ∀ H1, Ex H H1 → u D i Hw (σ.set j (some v)) H1) : gThen (gPlain (tAsg te (gName j))) u D i Hw σ H := h H (Ex.refl H) _ fun H1 e => k H1 e
theorem g_asgG (h : Gv te σ H R) (k : ∀ v H1, Ex H H1 → R v H1 → u D i Hw (σ.set j (some v)) H1) : gThen (gPlain (tAsg te (gName j))) u D i Hw σ H := h H (Ex.refl H) _ fun v H1 e r => k v H1 e r
end
/-! ### stages -/
def stSpec (K : PySem.W.Frag) (CT : Addr) (c pg : Nat) (t : List Nat) (ws : List (Nat × Nat)) : GSpec where
  out := fun i Hw x H => Ex Hw H ∧ i ≤ ws.length ∧ ∃ b, x = .ref b ∧ TreeAt K CT c pg (M.wr t (ws.take i)) H b
  dn := fun i Hw H => Ex Hw H ∧ i = ws.length + 1
  kp := fun H1 H2 => Ex H1 H2
  outS := fun _ _ _ _ h => h.1
  dnS := fun _ _ _ h => h.1
def sp_stages (K : PySem.W.Frag) (CS CT : Addr) : SpGen := fun vs H g => ∃ (a p : Addr) (c pg : Nat) (t : List Nat) (ws : List (Nat × Nat)), vs = [.ref a, .ref p] ∧ TreeAt K CT c pg t H a ∧ RowAt H p ws ∧ M.OkW t.length c ws ∧ ws.length ≤ 1000 ∧ g = stSpec K CT c pg t ws
theorem ok_stages (D_check_row : Dn P w K mg base 4 "check_row" ["tree", "row"] [] (sp_check_row K CS CT)) (D_Tree_with_told : Dm P w K mg base 5 CT "with_told" ["self", "node", "told"] (sp_Tree_with_told K CS CT)) {f : Addr} {fd : FuncData} (F : FnP K "stages" "stages" d_stages [] [] f fd) (T : Tx K mg CS CT pgs) : GDef P w K mg base 6 4000 f fd ["tree", "row"] (sp_stages K CS CT) := by
  refine FunD.gen F sc_stages (by decide +kernel) (fun vs H g h => ?_) (fun cdv Aw outer L ga go os H vs g hr ok h => ?_)
  · obtain ⟨a, p, c, pg, t, ws, rfl, _⟩ := h
    rfl
  · obtain ⟨a, p, c, pg, t, ws, rfl, hT, hR, hok, hl, rfl⟩ := h
    have tupR : ∀ z, CallR ((gFam P w K mg base Aw ["tree", "row", "node", "told"] (envOfC "stages" (defScope d_stages) L f cdv) outer ga go os).cx z) (.type "tuple") (rTupOf K) := fun z => call_tuple_of
    refine ⟨_, (gss_cons (gs_ps fun z => (ps_expr (pe_callD D_check_row hr (by decide) (by rfl) (pa_cons (pv 0) (pa_cons (pv 1) pa_nil)))))
    (gss_cons (gs_ps fun z => (ps_set (i := 1) sc_stages.nd rfl (.inl rfl) (pe_callTy (tupR z) (by rfl) T.b_tuple bt_tuple (pa_cons (pv 1) pa_nil))))
    (gss_cons (gs_yield ok fun z => (pv 0))
    (gss_cons (gs_for (wi := iTup K (tVar 1)) (g := gTup K 2 (gCons (gName 2) (gCons (gName 3) gNil))) (fun z => (pi_tup (pv 1))) (fun z => (pg_tup rfl (pgs_cons (pg_name (i := 2) sc_stages.nd rfl (.inl rfl)) (pgs_cons (pg_name (i := 3) sc_stages.nd rfl (.inl rfl)) pgs_nil)))) (gss_cons (gs_ps fun z => (ps_set (i := 0) sc_stages.nd rfl (.inl rfl) (pe_methD D_Tree_with_told hr (by decide) (pv 0) (pa_cons (pv 2) (pa_cons (pv 3) pa_nil)))))
    (gss_cons (gs_yield ok fun z => (pv 0))
    gss_nil)))
    gss_nil)))), fun H0 e0 => ?_⟩
    have e0 : Ex H H0 := e0
    refine g_drop (ev_call (z := .non) (ea_cons (ev_var rfl) (ea_cons (ev_var rfl) ea_nil)) fun H2 e2 Q q E => ⟨a, p, c, pg, t, ws, rfl, hT.ex (e0.trans e2), hR.ex (e0.trans e2), hok, hl, q⟩) fun H1 e1 => ?_
    have e01 := e0.trans e1
    obtain ⟨xs, hp, hx⟩ := hR.ex e01
    have hlen := hT.1.len
    refine g_asgG (gv_tupL (xs := xs) (ev_var rfl) (sq_of hp)) fun u H2 e2 hu => ?_
    obtain ⟨q, rfl, hq⟩ := hu
    have e02 := e01.trans e2
    refine ⟨_, rfl, by decide, ⟨e1.trans e2, Nat.zero_le _, a, rfl, hT.ex e02⟩, fun H3 e3 => ?_⟩
    have e3 : Ex H2 H3 := e3
    have e03 := e02.trans e3
    refine ⟨_, rfl, q, rfl, ⟨xs, ex_t e3 hq⟩, fun j m i Hw σ H => m = ws.length - j ∧ j ≤ ws.length ∧ i = j + 1 ∧ Ex Hw H ∧ ∃ b y z, σ = [some (.ref b), some (.ref q), y, z] ∧ TreeAt K CT c pg (M.wr t (ws.take j)) H b ∧ SqT K H q xs ∧ PairsL xs H ws,
      ⟨ws.length, rfl, Nat.zero_le _, rfl, Ex.refl _, a, none, none, rfl, hT.ex e03, ex_t e3 hq, hx.ex (e2.trans e3)⟩, ?_⟩
    rintro j m i Hw σ H' ⟨rfl, hj, rfl, eH, b, y, z, rfl, hB, hq', hx'⟩
    have hxl := hx'.len
    by_cases hlt : j < ws.length
    · have hjx : j < xs.length := by omega
      refine .inr ⟨⟨xs, xs[j], hq', List.getElem?_eq_getElem hjx⟩, fun i' Hw' σ' H' => ∃ m', m' < ws.length - j ∧ m' = ws.length - (j + 1) ∧ j + 1 ≤ ws.length ∧ i' = (j + 1) + 1 ∧ Ex Hw' H' ∧ ∃ b y z, σ' = [some (.ref b), some (.ref q), y, z] ∧ TreeAt K CT c pg (M.wr t (ws.take (j + 1))) H' b ∧ SqT K H' q xs ∧ PairsL xs H' ws, fun i' Hw' σ' H' h => h, fun x H4 hy => ?_⟩
      obtain ⟨rfl, hy⟩ := hy
      have hxj := hy xs hq'
      obtain ⟨q2, wq, rfl, hw, hq2⟩ := hx'.get hxj
      obtain ⟨g1, g2, g3⟩ := hok _ (List.mem_of_getElem? hw)
      refine ⟨q2, _, rfl, st_of hq2, rfl, _, _, rfl, _, _, rfl, rfl, ?_⟩
      refine g_asgG (gv_with_told (ev_var rfl) hB (ev_var rfl) rfl (ev_var rfl) rfl g1 (by omega) g3) fun u H5 e5 hu => ?_
      obtain ⟨b', rfl, hB'⟩ := hu
      rw [← wr_take hw] at hB'
      refine ⟨_, rfl, by omega, ⟨eH.trans e5, hlt, b', rfl, hB'⟩, fun H6 e6 => ?_⟩
      have e6 : Ex H5 H6 := e6
      exact ⟨ws.length - (j + 1), by omega, rfl, hlt, rfl, Ex.refl _, b', _, _, rfl, hB'.ex e6, ex_t (e5.trans e6) hq', hx'.ex (e5.trans e6)⟩
    · have ej : j = ws.length := by omega
      subst ej
      exact .inl ⟨⟨xs, hq', by omega⟩, eH, rfl⟩

/-! ### what a consumer of events may do: change lists, but the rooms -/
def isLst : HO → Bool
  | .lst _ => true
  | _ => false
def KeepR (r : Addr) (H H' : Hp) : Prop := ∀ b o, H b = some o → (isLst o = false ∨ b = r) → H' b = some o
theorem KeepR.ofEx {r : Addr} {H H' : Hp} (e : Ex H H') : KeepR r H H' := fun b o h _ => e b o h
theorem KeepR.trans {r : Addr} {H H1 H2 : Hp} (a : KeepR r H H1) (b : KeepR r H1 H2) : KeepR r H H2 := fun x o h q => b x o (a x o h q) q
theorem KeepR.sqT {r a : Addr} {H H' : Hp} {xs : List V} (k : KeepR r H H') (h : SqT K H a xs) : SqT K H' a xs := by
  rcases h with (h | ⟨o, h⟩) | h
  · exact .inl (.inl (k _ _ h (.inl rfl)))
  · exact .inl (.inr ⟨o, k _ _ h (.inl rfl)⟩)
  · exact .inr h
theorem TreeAt.keep {r a : Addr} {c pg : Nat} {t : List Nat} {H H' : Hp} (h : TreeAt K CT c pg t H a) (k : KeepR r H H') : TreeAt K CT c pg t H' a := by
  obtain ⟨v, dx, tl, lv, h1, h2, h3⟩ := h
  exact ⟨v, dx, tl, lv, k _ _ h1 (.inl rfl), k.sqT h2, k.sqT h3⟩
theorem Sit.keep {a s r : Addr} {m pg : Nat} {b rs t : List Nat} {H H' : Hp} (h : Sit K CS CT m pg b rs t H a s r) (k : KeepR r H H') : Sit K CS CT m pg b rs t H' a s r := by
  refine ⟨h.tree.keep k, ?_, ?_, h.rlen, h.rle⟩
  · obtain ⟨v, dx, rr, h1, h2⟩ := h.steps
    exact ⟨v, dx, rr, k _ _ h1 (.inl rfl), k.sqT h2⟩
  · rcases h.rooms with h | h
    · rcases h with (h | ⟨o, h⟩) | h
      · exact .inl (.inl (.inl (k _ _ h (.inr rfl))))
      · exact .inl (.inl (.inr ⟨o, k _ _ h (.inl rfl)⟩))
      · exact .inl (.inr h)
    · exact .inr (k.sqT h)

/-! ### events -/
def evV : M.Ev → List V
  | .node n => [.str "node", .int (n : Int)]
  | .look n => [.str "look", .int (n : Int)]
  | .found n => [.str "found", .int (n : Int)]
  | .lower n v => [.str "lower", .int (n : Int), .int (v : Int)]
  | .nothing => [.str "nothing"]
/-- ((..), tree) -/
def EvAt (K : PySem.W.Frag) (CT : Addr) (c pg : Nat) (x : V) (H : Hp) (e : M.Ev × List Nat) : Prop := ∃ p q tr, x = .ref p ∧ H p = some (.tup [.ref q, .ref tr]) ∧ H q = some (.tup (evV e.1)) ∧ TreeAt K CT c pg e.2 H tr
def evSpec (K : PySem.W.Frag) (CT : Addr) (c pg : Nat) (evs : List (M.Ev × List Nat)) (r : Addr) : GSpec where
  out := fun i Hw x H => Ex Hw H ∧ ∃ e, evs[i]? = some e ∧ EvAt K CT c pg x H e
  dn := fun i Hw H => Ex Hw H ∧ i = evs.length
  kp := fun H1 H2 => KeepR r H1 H2
  outS := fun _ _ _ _ h => h.1
  dnS := fun _ _ _ h => h.1
section
variable {σ : L2.St} {Hw H : Hp} {te ta : TE} {targs : TA} {tt tc : TT} {v : V} {R : V → Hp → Prop} {D : GEnds} {i j : Nat} {u tA tB' : TGn} {tu tw : TS}
theorem g_ifT (h : EvT tc σ H true) (k : ∀ H1, Ex H H1 → tA { D with nx := fun i' Hw' σ' H' => u D i' Hw' σ' H' } i Hw σ H1) : gThen (gIf tc tA tB') u D i Hw σ H := h H (Ex.refl H) _ fun H1 e => by
  show (if true = true then _ else _)
  rw [if_pos rfl]
  exact k H1 e
theorem g_ifF (h : EvT tc σ H false) (k : ∀ H1, Ex H H1 → tB' { D with nx := fun i' Hw' σ' H' => u D i' Hw' σ' H' } i Hw σ H1) : gThen (gIf tc tA tB') u D i Hw σ H := h H (Ex.refl H) _ fun H1 e => by
  show (if false = true then _ else _)
  rw [if_neg (by simp)]
  exact k H1 e
theorem g_pIfT (h : EvT tc σ H true) (k : ∀ H1, Ex H H1 → tu { nx := u D i Hw, rt := D.rt i Hw, bk := D.bk i Hw, ct := D.ct i Hw } σ H1) : gThen (gPlain (tIfS tc tu tw)) u D i Hw σ H := h H (Ex.refl H) _ fun H1 e => by
  show (if true = true then _ else _)
  rw [if_pos rfl]
  exact k H1 e
theorem g_pIfF (h : EvT tc σ H false) (k : ∀ H1, Ex H H1 → u D i Hw σ H1) : gThen (gPlain (tIfS tc tu tNext)) u D i Hw σ H := h H (Ex.refl H) _ fun H1 e => by
  show (if false = true then _ else _)
  rw [if_neg (by simp)]
  exact k H1 e
theorem et_notN (h : Ev ta σ H v) : EvT (tB (tNotN ta)) σ H (!decide (v = .non)) := fun H1 e _ q => h H1 e _ fun H2 e2 => ⟨_, rfl, q H2 e2⟩
theorem et_isN (h : Ev ta σ H v) : EvT (tB (tIsN ta)) σ H (decide (v = .non)) := fun H1 e _ q => h H1 e _ fun H2 e2 => ⟨_, rfl, q H2 e2⟩
theorem g_yieldG {sp : GSpec} {B : Nat} (h : Gv te σ H R) (hi : i < B) (k : ∀ v H1, Ex H H1 → R v H1 → sp.out i Hw v H1 ∧ ∀ H2, sp.kp H1 H2 → u D (i + 1) H2 σ H2) : gThen (gYield sp B te) u D i Hw σ H := h H (Ex.refl H) _ fun v H1 e r => ⟨hi, k v H1 e r⟩
theorem gv_tup2 {te1 te2 : TE} {xs : List V} {y : V} (h : EvU te1 σ H xs) (h2 : Ev te2 σ H y) : Gv (tTup (tCons te1 (tCons te2 tNil))) σ H (fun v H1 => ∃ p q, v = .ref p ∧ H1 p = some (.tup [.ref q, y]) ∧ H1 q = some (.tup xs)) := fun H1 e Q k =>
  h H1 e _ fun q H2 _ e2 hq => h2 H2 (e.trans e2) _ fun H3 e3 => ⟨by show 2 ≤ sizeLine; decide, fun p hp => k _ _ ((e2.trans e3).trans (Ex.new hp)) ⟨p, q, rfl, upd_same, (Ex.new hp) _ _ (e3 _ _ hq)⟩⟩
/-- yield ((..), tree) -/
theorem g_ev {c pg : Nat} {evs rest : List (M.Ev × List Nat)} {ev : M.Ev} {t : List Nat} {r tr : Addr} {vs : List V} (hi : evs.drop i = (ev, t) :: rest) (h : EvA targs σ H vs) (hv : vs = evV ev) (h0 : σ[0]? = some (some (.ref tr))) (hT : TreeAt K CT c pg t H tr) (eHw : Ex Hw H) (hb : evs.length ≤ 3900)
    (k : ∀ H2, KeepR r H H2 → evs.drop (i + 1) = rest → u D (i + 1) H2 σ H2) : gThen (gYield (evSpec K CT c pg evs r) 4000 (tTup (tCons (tTup targs) (tCons (tVar 0) tNil)))) u D i Hw σ H := by
  have hlen : vs.length ≤ 3 := by rw [hv]; cases ev <;> simp [evV]
  have hil : i < evs.length := by
    apply Classical.byContradiction
    intro h
    rw [List.drop_of_length_le (by omega)] at hi
    cases hi
  have hgi : evs[i]? = some (ev, t) := by
    have := congrArg List.head? hi
    rw [List.head?_drop] at this
    exact this
  have hrest : evs.drop (i + 1) = rest := by
    rw [← List.drop_drop, hi]
    rfl
  refine g_yieldG (gv_tup2 (eu_tup h (by omega)) (ev_var h0)) (by omega) fun x H1 e1 hx => ?_
  obtain ⟨p, q, rfl, hp, hq⟩ := hx
  refine ⟨⟨eHw.trans e1, (ev, t), hgi, p, q, tr, rfl, hp, ?_, hT.ex e1⟩, fun H2 hk => k H2 ((KeepR.ofEx e1).trans hk) hrest⟩
  rw [← hv]
  exact hq
end
theorem gv_lowering {σ : L2.St} {H : Hp} {te ti tj : TE} {a : Addr} {c pg n x : Nat} {i j : Int} {t : List Nat} (h : Ev te σ H (.ref a)) (ht : TreeAt K CT c pg t H a) (hi : Ev ti σ H (.int i)) (e : i = (n : Int)) (hj : Ev tj σ H (.int j)) (e' : j = (x : Int)) (h1 : 1 ≤ n) (h2 : n < 2 * pg) (h3 : x ≤ c) :
    Gv (tCall (sp_lowering K CS CT) [.bl false] E0 (tCons te (tCons ti (tCons tj tNil)))) σ H (fun v H1 => ∃ p, v = .ref p ∧ RowAt H1 p (M.low t n x)) := by
  subst e
  subst e'
  exact gv_call (ea_cons h (ea_cons hi (ea_cons hj ea_nil))) fun H1 e1 Q q E => ⟨a, c, pg, n, x, t, false, rfl, ht.ex e1, h1, h2, h3, fun p H2 _ e2 hR => q _ H2 e2 ⟨p, rfl, hR⟩⟩
theorem trace_len {nd pg sz : Nat} {rs : List Nat} {cls : Nat → Nat} : ∀ (f : Nat) (t : List Nat) (n : Nat), (M.trace nd pg sz rs cls f t n).length ≤ 3 * f + 1 := by
  intro f
  induction f with
  | zero => intro t n; simp [M.trace]
  | succ f ih =>
    intro t n
    unfold M.trace
    repeat' split
    all_goals (simp only [List.length_cons, List.length_nil]; first | omega | (have := ih (M.wr t (M.low t n (M.gr t n))) 1; have := ih t (2 * n); have := ih t (2 * n + 1); have := ih (M.wr t (M.low t n (cls (rs.getD (n - pg) 0)))) 1; omega))
theorem evs_len {b : List Nat} {pg sz : Nat} {rs t : List Nat} (h : t.length ≤ 63) : (M.evsOf b pg sz rs t).length ≤ 3900 := by
  unfold M.evsOf
  split
  · simp
  · rename_i nd _
    have := trace_len (nd := nd) (pg := pg) (sz := sz) (rs := rs) (cls := M.clsOf b) (20 * t.length + 20) t 1
    omega
/-- need of a scene, class of a room -/
theorem ev_need {σ : L2.St} {H : Hp} {te ti : TE} {s : Addr} {m sz : Nat} {b : List Nat} (h : Ev te σ H (.ref s)) (hs : StepsAt K CS m b H s) (hi : Ev ti σ H (.int (sz : Int))) (h1 : 1 ≤ sz) (h2 : sz ≤ m) : Ev (tMeth CS "need" (sp_Steps_need K CS CT) [] E0 te (tCons ti tNil)) σ H (optV (M.needOf b sz)) := by
  obtain ⟨v, dx, rr, ha, _⟩ := id hs
  exact ev_meth h ha (steps_no (by decide +kernel) (by decide +kernel)) (ea_cons hi ea_nil) fun H1 e1 Q q E => ⟨s, m, b, sz, rfl, hs.ex e1, h1, h2, q⟩
theorem ev_class_of {σ : L2.St} {H : Hp} {te ti : TE} {s : Addr} {m x : Nat} {b : List Nat} (h : Ev te σ H (.ref s)) (hs : StepsAt K CS m b H s) (hi : Ev ti σ H (.int (x : Int))) (h2 : x ≤ m) : Ev (tMeth CS "class_of" (sp_Steps_class_of K CS CT) [] E0 te (tCons ti tNil)) σ H (.int (M.clsOf b x : Int)) := by
  obtain ⟨v, dx, rr, ha, _⟩ := id hs
  exact ev_meth h ha (steps_no (by decide +kernel) (by decide +kernel)) (ea_cons hi ea_nil) fun H1 e1 Q q E => ⟨s, m, b, x, rfl, hs.ex e1, h2, q⟩
def rIxR (K : PySem.W.Frag) : R2 := fun x y H Q => rIxL K x y H Q ∨ rIxT K x y H Q
theorem rv_ixR {p : Addr} {xs : List V} {i : Int} {v : V} {H : Hp} (h : SqL K H p xs ∨ SqT K H p xs) (ha : atI xs i = some v) : RV (rIxR K) (.ref p) (.int i) H v := fun H1 e Q q => by
  rcases h with h | h
  · exact .inl (rv_ixL h ha H1 e Q q)
  · exact .inr (rv_ixT h ha H1 e Q q)
/-- the loop's word -/
def EvW (K : PySem.W.Frag) (CS CT : Addr) (m pg sz nd : Nat) (b rs : List Nat) (s r : Addr) (evs : List (M.Ev × List Nat)) (mm i : Nat) (Hw : Hp) (σ : L2.St) (H : Hp) : Prop :=
  ∃ (tr : Addr) (tt : List Nat) (n : Nat) (x6 x7 x8 : Option V), σ = [some (.ref tr), some (.ref s), some (.ref r), some (.int (sz : Int)), some (.int (nd : Int)), some (.int (n : Int)), x6, x7, x8] ∧ Ex Hw H ∧ Sit K CS CT m pg b rs tt H tr s r ∧ 1 ≤ n ∧ n < 2 * pg ∧
    (∃ R T, M.play nd pg sz rs (M.clsOf b) mm tt n = some (R, T)) ∧ evs.drop i = M.trace nd pg sz rs (M.clsOf b) mm tt n
theorem low_len {c pg n v : Nat} {t : List Nat} (h : M.VT c pg t) (h1 : 1 ≤ n) (h2 : n < 2 * pg) (hv : v ≤ c) : (M.low t n v).length ≤ 504 := by
  have a := M.falls_len _ _ (M.low_spec h.le h1 (by have := h.len; omega) hv).1
  have b := M.sum_le h.le
  have c63 : t.length ≤ 63 := by have := h.len; have := h.P32; omega
  have d : c * t.length ≤ 8 * 63 := Nat.mul_le_mul h.c8 c63
  omega
/-- tree = written(tree, lowering(tree, node, told)); yield ('lower', node, told), tree; node = 1 -/
theorem lowpart {D : GEnds} {i : Nat} {Hw H : Hp} {m pg sz nd n v : Nat} {b rs tt : List Nat} {s r tr : Addr} {x6 x8 : Option V} {evs rest : List (M.Ev × List Nat)} (hS : Sit K CS CT m pg b rs tt H tr s r) (eHw : Ex Hw H) (n1 : 1 ≤ n) (n2 : n < 2 * pg) (hv : v ≤ b.length)
    (hd : evs.drop i = (.lower n v, M.wr tt (M.low tt n v)) :: rest) (hb : evs.length ≤ 3900)
    (k : ∀ H2 H3 tr', Ex H2 H3 → Sit K CS CT m pg b rs (M.wr tt (M.low tt n v)) H3 tr' s r → evs.drop (i + 1) = rest → D.nx (i + 1) H2 [some (.ref tr'), some (.ref s), some (.ref r), some (.int (sz : Int)), some (.int (nd : Int)), some (.int ((1 : Nat) : Int)), x6, some (.int (v : Int)), x8] H3) :
    gThen (gPlain (tAsg (tCall (sp_written K CS CT) [] E0 (tCons (tVar 0) (tCons (tCall (sp_lowering K CS CT) [.bl false] E0 (tCons (tVar 0) (tCons (tVar 5) (tCons (tVar 7) tNil)))) tNil))) (gName 0)))
      (gThen (gYield (evSpec K CT b.length pg evs r) 4000 (tTup (tCons (tTup (tCons (tC (.str "lower")) (tCons (tVar 5) (tCons (tVar 7) tNil)))) (tCons (tVar 0) tNil)))) (gPlain (tAsg (tC (.int 1)) (gName 5))))
      D i Hw [some (.ref tr), some (.ref s), some (.ref r), some (.int (sz : Int)), some (.int (nd : Int)), some (.int (n : Int)), x6, some (.int (v : Int)), x8] H := by
  have hV := hS.tree.1
  refine g_asgG (gv_written (ev_var rfl) (gv_lowering (ev_var rfl) hS.tree (ev_var rfl) rfl (ev_var rfl) rfl n1 n2 hv) hS.tree (hV.low n1 n2 hv) (by have := low_len hV n1 n2 hv; omega)) fun u H1 e1 hu => ?_
  obtain ⟨tr', rfl, hT⟩ := hu
  have hS1 := hS.ex e1
  refine g_ev hd (ea_cons ev_c (ea_cons (ev_var rfl) (ea_cons (ev_var rfl) ea_nil))) rfl rfl hT (eHw.trans e1) hb fun H2 hk hr => ?_
  have hS2 : Sit K CS CT m pg b rs (M.wr tt (M.low tt n v)) H1 tr' s r := ⟨hT, hS1.steps, hS1.rooms, hS1.rlen, hS1.rle⟩
  exact s_asg ev_c fun H3 e3 => k H2 H3 tr' e3 ((hS2.keep hk).ex e3) hr
def sp_events (K : PySem.W.Frag) (CS CT : Addr) : SpGen := fun vs H g => ∃ (a s r : Addr) (m pg sz : Nat) (b rs t : List Nat), vs = [.ref a, .ref s, .ref r, .int (sz : Int)] ∧ Sit K CS CT m pg b rs t H a s r ∧ 1 ≤ sz ∧ sz ≤ m ∧ g = evSpec K CT b.length pg (M.evsOf b pg sz rs t) r
theorem ok_events (D_Steps_need : Dm P w K mg base 3 CS "need" ["self", "size"] (sp_Steps_need K CS CT)) (D_Tree_getitem : Dg P w K mg base 2 CT ["self", "node"] (sp_Tree_getitem K CS CT)) (D_Tree_len : Dm P w K mg base 1 CT "__len__" ["self"] (sp_Tree_len K CS CT)) (D_Steps_class_of : Dm P w K mg base 2 CS "class_of" ["self", "room"] (sp_Steps_class_of K CS CT)) (D_next_node : Dn P w K mg base 4 "next_node" ["tree", "node", "need"] [] (sp_next_node K CS CT)) (D_Tree_greater : Dm P w K mg base 2 CT "greater" ["self", "node"] (sp_Tree_greater K CS CT)) (D_written : Dn P w K mg base 6 "written" ["tree", "row"] [] (sp_written K CS CT)) (D_lowering : Dn P w K mg base 6 "lowering" ["tree", "node", "told", "above"] [.bl false] (sp_lowering K CS CT)) {f : Addr} {fd : FuncData} (F : FnP K "events" "events" d_events [] [] f fd) (T : Tx K mg CS CT pgs) : GDef P w K mg base 7 4000 f fd ["tree", "steps", "rooms", "size"] (sp_events K CS CT) := by
  refine FunD.gen F sc_events (by decide +kernel) (fun vs H g h => ?_) (fun cdv Aw outer L ga go os H vs g hr ok h => ?_)
  · obtain ⟨a, s, r, m, pg, sz, b, rs, t, rfl, _⟩ := h
    rfl
  · obtain ⟨a, s, r, m, pg, sz, b, rs, t, rfl, hS, h1, h2, rfl⟩ := h
    have ixR : ∀ z, IxR ((gFam P w K mg base Aw ["tree", "steps", "rooms", "size", "need", "node", "page", "told", "child"] (envOfC "events" (defScope d_events) L f cdv) outer ga go os).cx z) (rIxR K) := fun z => IxR.or ix_list ix_tup
    refine ⟨_, (gss_cons (gs_ps fun z => (ps_par (i := 4) (j := 5) rfl sc_events.nd rfl rfl (by decide) rfl rfl (pa_cons (pe_methD D_Steps_need hr (by decide) (pv 1) (pa_cons (pv 3) pa_nil)) (pa_cons pe_int pa_nil)) (by rfl)))
    (gss_cons (gs_while (fun z => (pt_cmp (pc_notN (pv 4)))) (gss_cons (gs_ps fun z => (ps_if (PW.pt (pw_and (pt_cmpR op_eq (pv 5) pe_int (nomark _)) (pw_and1 (pt_cmpR op_lt (pe_subD D_Tree_getitem hr (by decide) (pv 0) pe_int) (pv 4) (nomark _))))) (pss_one ps_break) pss_nil))
    (gss_cons (gs_yield ok fun z => (pe_tup (pa_cons (pe_tup (pa_cons pe_str (pa_cons (pv 5) pa_nil))) (pa_cons (pv 0) pa_nil))))
    (gss_cons (gs_if (fun z => (pt_cmpR op_ge (pv 5) (pe_lenD D_Tree_len hr (by decide) (by rfl) T.b_len (pv 0)) (nomark _))) (gss_cons (gs_ps fun z => (ps_set (i := 6) sc_events.nd rfl (.inl rfl) (pe_op op_sub (pv 5) (pe_lenD D_Tree_len hr (by decide) (by rfl) T.b_len (pv 0)))))
    (gss_cons (gs_yield ok fun z => (pe_tup (pa_cons (pe_tup (pa_cons pe_str (pa_cons (pv 6) pa_nil))) (pa_cons (pv 0) pa_nil))))
    (gss_cons (gs_if (fun z => (pt_cmpR op_ge (pe_ix (ixR z) (pv 2) (pv 6) (fun _ _ => rfl)) (pv 3) (nomark _))) (gss_cons (gs_yield ok fun z => (pe_tup (pa_cons (pe_tup (pa_cons pe_str (pa_cons (pv 6) pa_nil))) (pa_cons (pv 0) pa_nil))))
    (gss_pss fun z => (pss_one ps_retN))) gss_nil)
    (gss_pss fun z => (pss_one (ps_set (i := 7) sc_events.nd rfl (.inl rfl) (pe_methD D_Steps_class_of hr (by decide) (pv 1) (pa_cons (pe_ix (ixR z) (pv 2) (pv 6) (fun _ _ => rfl)) pa_nil)))))))) (gss_pss fun z => (pss_cons (ps_set (i := 8) sc_events.nd rfl (.inl rfl) (pe_callD D_next_node hr (by decide) (by rfl) (pa_cons (pv 0) (pa_cons (pv 5) (pa_cons (pv 4) pa_nil)))))
    (pss_cons (ps_if (pt_cmp (pc_notN (pv 8))) (pss_cons (ps_set (i := 5) sc_events.nd rfl (.inl rfl) (pv 8))
    (pss_one ps_continue)) pss_nil)
    (pss_one (ps_set (i := 7) sc_events.nd rfl (.inl rfl) (pe_methD D_Tree_greater hr (by decide) (pv 0) (pa_cons (pv 5) pa_nil))))))))
    (gss_cons (gs_ps fun z => (ps_set (i := 0) sc_events.nd rfl (.inl rfl) (pe_callD D_written hr (by decide) (by rfl) (pa_cons (pv 0) (pa_cons (pe_callD D_lowering hr (by decide) (by rfl) (pa_cons (pv 0) (pa_cons (pv 5) (pa_cons (pv 7) pa_nil)))) pa_nil)))))
    (gss_cons (gs_yield ok fun z => (pe_tup (pa_cons (pe_tup (pa_cons pe_str (pa_cons (pv 5) (pa_cons (pv 7) pa_nil)))) (pa_cons (pv 0) pa_nil))))
    (gss_pss fun z => (pss_one (ps_set (i := 5) sc_events.nd rfl (.inl rfl) pe_int)))))))))
    (gss_cons (gs_yield ok fun z => (pe_tup (pa_cons (pe_tup (pa_cons pe_str pa_nil)) (pa_cons (pv 0) pa_nil))))
    gss_nil))), fun H0 e0 => ?_⟩
    have e0 : KeepR r H H0 := e0
    have hS0 := hS.keep e0
    have hlen := hS.tree.1.len
    have h32 := hS.tree.1.P32
    have hP2 := hS.tree.1.P2
    have h63 : t.length ≤ 63 := by omega
    have hb : (M.evsOf b pg sz rs t).length ≤ 3900 := evs_len h63
    -- need, node = steps.need(size), 1
    refine (ev_need (ev_var rfl) hS0.steps (ev_var rfl) h1 h2) H0 (Ex.refl _) _ fun H1 e1 => ⟨_, _, rfl, ?_⟩
    have hS1 := hS0.ex e1
    -- the last yield
    have fin : ∀ (i : Nat) (Hw H : Hp) (σ : L2.St) (tr : Addr) (tt : List Nat), σ[0]? = some (some (.ref tr)) → Ex Hw H → TreeAt K CT b.length pg tt H tr → (M.evsOf b pg sz rs t).drop i = [(.nothing, tt)] →
        gThen (gYield (evSpec K CT b.length pg (M.evsOf b pg sz rs t) r) 4000 (tTup (tCons (tTup (tCons (tC (.str "nothing")) tNil)) (tCons (tVar 0) tNil)))) gNx { nx := fun i Hw _ H' => (evSpec K CT b.length pg (M.evsOf b pg sz rs t) r).dn i Hw H', rt := fun i Hw v H' => v = .non ∧ (evSpec K CT b.length pg (M.evsOf b pg sz rs t) r).dn i Hw H' } i Hw σ H := by
      intro i Hw H σ tr tt h0 eHw hT hi
      refine g_ev hi (ea_cons ev_c ea_nil) rfl h0 hT eHw hb fun H2 hk hr => ⟨Ex.refl _, ?_⟩
      have hl := congrArg List.length hi
      rw [List.length_drop] at hl
      simp at hl
      omega
    cases hn : M.needOf b sz with
    | none =>
      refine ⟨fun m i Hw σ H => m = 0 ∧ i = 0 ∧ σ = [some (.ref a), some (.ref s), some (.ref r), some (.int (sz : Int)), some .non, some (.int 1), none, none, none] ∧ Ex Hw H ∧ TreeAt K CT b.length pg t H a, ⟨0, rfl, rfl, by rfl, e1, hS1.tree⟩, ?_⟩
      rintro m i Hw σ H' ⟨rfl, rfl, rfl, eHw, hT⟩
      refine (et_notN (v := .non) (ev_var rfl)) H' (Ex.refl _) _ fun H2 e2 => ?_
      show (if false = true then _ else _)
      rw [if_neg (by simp)]
      exact fin 0 Hw H2 _ a t rfl (eHw.trans e2) (hT.ex e2) (by unfold M.evsOf; rw [hn]; rfl)
    | some nd =>
      obtain ⟨R, T', hplay, _⟩ := M.cnt0 (rooms := rs) hS.tree.1 hn
      have hev : M.evsOf b pg sz rs t = M.trace nd pg sz rs (M.clsOf b) (20 * t.length + 20) t 1 := by unfold M.evsOf; rw [hn]
      generalize M.evsOf b pg sz rs t = evs at hev fin hb ⊢
      refine ⟨EvW K CS CT m pg sz nd b rs s r evs, ⟨20 * t.length + 20, a, t, 1, none, none, none, rfl, e1, hS1, by omega, by omega, ⟨R, T', hplay⟩, hev⟩, ?_⟩
      rintro mm i Hw σ H' ⟨tr, tt, n, x6, x7, x8, rfl, eHw, hS', n1, n2, ⟨R', T2, hp⟩, hd⟩
      refine (et_notN (v := .int (nd : Int)) (ev_var rfl)) H' (Ex.refl _) _ fun H2 e2 => ?_
      show (if (!decide (V.int (nd : Int) = V.non)) = true then _ else _)
      rw [if_pos (by simp)]
      cases mm with
      | zero => cases hp
      | succ mm =>
      refine ⟨fun i' Hw' σ' H' => ∃ m', m' < mm + 1 ∧ EvW K CS CT m pg sz nd b rs s r evs m' i' Hw' σ' H', fun i' Hw' σ' H' h => h, ?_⟩
      have hS2 := hS'.ex e2
      have eH2 := eHw.trans e2
      unfold M.play at hp
      unfold M.trace at hd
      have hrl := hS'.rlen
      -- if node == 1 and tree[1] < need: break
      have test : ∀ {H : Hp}, Sit K CS CT m pg b rs tt H tr s r → EvT (tAnd (tTest (tOp rEq (tVar 5) (tC (.int 1)))) (tTest (tOp (rI0 fun i j => .bl (decide (i < j))) (tSubO CT (sp_Tree_getitem K CS CT) E0 (tVar 0) (tC (.int 1))) (tVar 4)))) [some (.ref tr), some (.ref s), some (.ref r), some (.int (sz : Int)), some (.int (nd : Int)), some (.int (n : Int)), x6, x7, x8] H (decide (n = 1) && decide (M.tg tt 1 < nd)) := fun h =>
        et_and (et_is (et_test (ev_op (ev_var rfl) ev_c (rv_eq rfl))) (by simp; omega)) fun _ => et_is (et_test (ev_op (ev_treeAt (n := 1) (ev_var rfl) h.tree ev_c rfl (by omega) (by omega)) (ev_var rfl) rv_I0)) (by simp)
      by_cases c1 : n = 1 ∧ M.tg tt 1 < nd
      · rw [if_pos c1] at hd
        refine g_pIfT (et_is (test hS2) (by simp [c1.1, c1.2])) fun H3 e3 => ?_
        exact fin i Hw H3 _ tr tt rfl (eH2.trans e3) (hS2.ex e3).tree hd
      · rw [if_neg c1] at hd hp
        refine g_pIfF (et_is (test hS2) (by simpa using c1)) fun H3 e3 => ?_
        refine g_ev hd (ea_cons ev_c (ea_cons (ev_var rfl) ea_nil)) rfl rfl (hS2.ex e3).tree (eH2.trans e3) hb fun H4 hk4 hd4 => ?_
        have hS4 := (hS2.ex e3).keep hk4
        by_cases c2 : n < pg
        · rw [if_pos c2] at hd4 hp
          refine g_ifF (et_is (et_test (ev_op (ev_var rfl) (ev_lenTree (ev_var rfl) hS4.tree) rv_I0)) (by simp; omega)) fun H5 e5 => ?_
          have hS5 := hS4.ex e5
          refine q_asg (ev_call (ea_cons (ev_var rfl) (ea_cons (ev_var rfl) (ea_cons (ev_var rfl) ea_nil))) fun H6 e6 Q q E => ⟨tr, b.length, pg, n, nd, tt, rfl, (hS5.ex e6).tree, n1, c2, q⟩) fun H6 e6 => ?_
          have hS6 := hS5.ex e6
          have e46 := e5.trans e6
          by_cases c3 : nd ≤ M.tg tt (2 * n)
          · rw [if_pos c3] at hd4 hp
            rw [if_pos c3]
            refine q_when (b := true) (et_is (et_notN (v := .int ((2 * n : Nat) : Int)) (ev_var rfl)) (by simp)) (fun _ H7 e7 => ?_) fun z => by cases z
            refine q_asg (v := .int ((2 * n : Nat) : Int)) (ev_var rfl) fun H8 e8 => ?_
            exact ⟨mm, by omega, tr, tt, 2 * n, _, _, _, rfl, (e46.trans e7).trans e8, (hS6.ex e7).ex e8, by omega, by omega, ⟨R', T2, hp⟩, hd4⟩
          · rw [if_neg c3] at hd4 hp
            rw [if_neg c3]
            by_cases c4 : nd ≤ M.tg tt (2 * n + 1)
            · rw [if_pos c4] at hd4 hp
              rw [if_pos c4]
              refine q_when (b := true) (et_is (et_notN (v := .int ((2 * n + 1 : Nat) : Int)) (ev_var rfl)) (by simp)) (fun _ H7 e7 => ?_) fun z => by cases z
              refine q_asg (v := .int ((2 * n + 1 : Nat) : Int)) (ev_var rfl) fun H8 e8 => ?_
              exact ⟨mm, by omega, tr, tt, 2 * n + 1, _, _, _, rfl, (e46.trans e7).trans e8, (hS6.ex e7).ex e8, by omega, by omega, ⟨R', T2, hp⟩, hd4⟩
            · rw [if_neg c4] at hd4 hp
              rw [if_neg c4]
              refine q_when (b := false) (et_is (et_notN (v := .non) (ev_var rfl)) (by simp)) (fun z => by cases z) fun _ H7 e7 => ?_
              refine s_asg (ev_greater (ev_var rfl) (hS6.ex e7).tree (ev_var rfl) rfl n1 c2) fun H8 e8 => ?_
              refine lowpart (rest := M.trace nd pg sz rs (M.clsOf b) mm (M.wr tt (M.low tt n (M.gr tt n))) 1) ((hS6.ex e7).ex e8) ((e46.trans e7).trans e8) n1 n2 (hS6.tree.1.le.gr n) hd4 hb fun H9 H10 tr' e10 hS10 hd10 => ?_
              cases e : M.play nd pg sz rs (M.clsOf b) mm (M.wr tt (M.low tt n (M.gr tt n))) 1 with
              | none => rw [e] at hp; cases hp
              | some RT => exact ⟨mm, by omega, tr', _, 1, _, _, _, rfl, e10, hS10, by omega, by omega, ⟨RT.1, RT.2, e⟩, hd10⟩
        · rw [if_neg c2] at hd4 hp
          refine g_ifT (et_is (et_test (ev_op (ev_var rfl) (ev_lenTree (ev_var rfl) hS4.tree) rv_I0)) (by simp; omega)) fun H5 e5 => ?_
          have hS5 := hS4.ex e5
          have en : (n : Int) - (pg : Int) = ((n - pg : Nat) : Int) := by omega
          refine g_asg (v := .int ((n - pg : Nat) : Int)) (ev_is (ev_op (ev_var rfl) (ev_lenTree (ev_var rfl) hS5.tree) rv_I0) (by rw [en])) fun H6 e6 => ?_
          have e46 := e5.trans e6
          refine g_ev hd4 (ea_cons ev_c (ea_cons (ev_var rfl) ea_nil)) rfl rfl (hS5.ex e6).tree e46 hb fun H7 hk7 hd7 => ?_
          have hS7 := (hS5.ex e6).keep hk7
          have hix : n - pg < rs.length := by omega
          have hroom : ∀ {H : Hp} {y8 : Option V}, Sit K CS CT m pg b rs tt H tr s r → Ev (tOp (rIxR K) (tVar 2) (tVar 6)) [some (.ref tr), some (.ref s), some (.ref r), some (.int (sz : Int)), some (.int (nd : Int)), some (.int (n : Int)), some (.int ((n - pg : Nat) : Int)), x7, y8] H (.int ((rs.getD (n - pg) 0 : Nat) : Int)) := fun h => ev_op (ev_var rfl) (ev_var rfl) (rv_ixR h.rooms (vi_at hix))
          by_cases c3 : sz ≤ rs.getD (n - pg) 0
          · rw [if_pos c3] at hd7
            refine g_ifT (et_is (et_test (ev_op (hroom hS7) (ev_var rfl) rv_I0)) (decide_eq_true (Int.ofNat_le.mpr c3))) fun H8 e8 => ?_
            refine g_ev hd7 (ea_cons ev_c (ea_cons (ev_var rfl) ea_nil)) rfl rfl (hS7.ex e8).tree e8 hb fun H9 hk9 hd9 => ?_
            refine ⟨rfl, Ex.refl _, ?_⟩
            have hl := congrArg List.length hd7
            rw [List.length_drop] at hl
            simp at hl
            omega
          · rw [if_neg c3] at hd7 hp
            refine g_ifF (et_is (et_test (ev_op (hroom hS7) (ev_var rfl) rv_I0)) (decide_eq_false fun h => c3 (Int.ofNat_le.mp h))) fun H8 e8 => ?_
            refine s_asg (ev_class_of (ev_var rfl) (hS7.ex e8).steps (hroom (hS7.ex e8)) ?_) fun H9 e9 => ?_
            · have := hS7.rle _ (List.getElem_mem hix)
              rwa [← getD_at hix] at this
            · refine lowpart (rest := M.trace nd pg sz rs (M.clsOf b) mm (M.wr tt (M.low tt n (M.clsOf b (rs.getD (n - pg) 0)))) 1) ((hS7.ex e8).ex e9) (e8.trans e9) n1 n2 (M.clsOf_le b _) hd7 hb fun H10 H11 tr' e10 hS10 hd10 => ?_
              cases e : M.play nd pg sz rs (M.clsOf b) mm (M.wr tt (M.low tt n (M.clsOf b (rs.getD (n - pg) 0)))) 1 with
              | none => rw [e] at hp; cases hp
              | some RT => exact ⟨mm, by omega, tr', _, 1, _, _, _, rfl, e10, hS10, by omega, by omega, ⟨RT.1, RT.2, e⟩, hd10⟩
end
end Rt
end
section
/-! The searches: behind, search_row. Printed by gen_rules.py from RtG.src. -/
namespace Rt
open PySem PySem.Spec PyProof.Rows L2 Evl GenW

namespace M
/-- a lowering's node and class are good -/
def EvOk (pg c : Nat) (e : Ev) : Prop := match e with
  | .lower n v => 1 ≤ n ∧ n < 2 * pg ∧ v ≤ c
  | _ => True
theorem trace_ok {nd pg sz c : Nat} {rs : List Nat} {cls : Nat → Nat} (hc : ∀ x, cls x ≤ c) : ∀ (f : Nat) (t : List Nat) (n : Nat), AllLe c t → t.length + 1 = 2 * pg → 1 ≤ n → n < 2 * pg → ∀ e ∈ trace nd pg sz rs cls f t n, EvOk pg c e.1 := by
  intro f
  induction f with
  | zero => intro t n _ _ _ _ e he; cases he
  | succ f ih =>
    intro t n ht hl h1 h2 e he
    have lower : ∀ v, v ≤ c → e ∈ (Ev.lower n v, wr t (low t n v)) :: trace nd pg sz rs cls f (wr t (low t n v)) 1 → EvOk pg c e.1 := by
      intro v hv he
      rcases List.mem_cons.mp he with q | q
      · subst q; exact ⟨h1, h2, hv⟩
      · exact ih _ _ (ht.wr (low_spec ht h1 (by omega) hv).2.1) (by rw [len_wr]; exact hl) (Nat.le_refl _) (by omega) e q
    unfold trace at he
    by_cases c1 : n = 1 ∧ tg t 1 < nd
    · rw [if_pos c1, List.mem_singleton] at he
      subst he
      trivial
    · rw [if_neg c1] at he
      rcases List.mem_cons.mp he with q | he
      · subst q; trivial
      · by_cases c2 : n < pg
        · rw [if_pos c2] at he
          by_cases c3 : nd ≤ tg t (2 * n)
          · rw [if_pos c3] at he
            exact ih _ _ ht hl (by omega) (by omega) e he
          · rw [if_neg c3] at he
            by_cases c4 : nd ≤ tg t (2 * n + 1)
            · rw [if_pos c4] at he
              exact ih _ _ ht hl (by omega) (by omega) e he
            · rw [if_neg c4] at he
              exact lower _ (ht.gr n) he
        · rw [if_neg c2] at he
          rcases List.mem_cons.mp he with q | he
          · subst q; trivial
          · by_cases c3 : sz ≤ rs.getD (n - pg) 0
            · rw [if_pos c3, List.mem_singleton] at he
              subst he
              trivial
            · rw [if_neg c3] at he
              exact lower _ (hc _) he
theorem evs_ok {b : List Nat} {pg sz : Nat} {rs t : List Nat} (v : VT b.length pg t) : ∀ e ∈ evsOf b pg sz rs t, EvOk pg b.length e.1 := by
  unfold evsOf
  intro e he
  split at he
  · rw [List.mem_singleton] at he
    subst he
    trivial
  · exact trace_ok (clsOf_le b) _ _ _ v.le v.len (Nat.le_refl _) (by have := v.P2; omega) e he
theorem eat_len (ab : Bool) (es : List (Ev × List Nat)) : ∀ s : List (Nat × Nat) × List Nat, s.1.length ≤ (es.foldl (eat ab) s).1.length := by
  induction es with
  | nil => intro s; exact Nat.le_refl _
  | cons e es ih =>
    intro s
    rw [List.foldl_cons]
    refine Nat.le_trans ?_ (ih _)
    unfold eat
    split
    · simp
    · exact Nat.le_refl _
theorem search_lenA {b : List Nat} {P sz : Nat} {rooms t : List Nat} (v : VT b.length P t) (ab : Bool) : (flat ab (search b P sz rooms t).1).length ≤ 504 := by
  cases ab with
  | false => exact search_len v
  | true => rw [flat_len]; exact search_len v
/-- the row and the tree behind the first i events -/
def eaten (ab : Bool) (b : List Nat) (pg sz : Nat) (rs t : List Nat) (i : Nat) : List (Nat × Nat) × List Nat := ((evsOf b pg sz rs t).take i).foldl (eat ab) ([], t)
theorem eaten_len {b : List Nat} {pg sz : Nat} {rs t : List Nat} (v : VT b.length pg t) (ab : Bool) (i : Nat) : (eaten ab b pg sz rs t i).1.length ≤ 504 := by
  have h := eat_len ab ((evsOf b pg sz rs t).drop i) (eaten ab b pg sz rs t i)
  unfold eaten at h ⊢
  rw [← List.foldl_append, List.take_append_drop, eat_evs v ab] at h
  exact Nat.le_trans h (search_lenA v ab)
theorem eaten_succ {b : List Nat} {pg sz : Nat} {rs t : List Nat} {ab : Bool} {i : Nat} {e : Ev × List Nat} (h : (evsOf b pg sz rs t)[i]? = some e) : eaten ab b pg sz rs t (i + 1) = eat ab (eaten ab b pg sz rs t i) e := by
  unfold eaten
  rw [List.take_succ, h, List.foldl_append]
  rfl
theorem eaten_all {b : List Nat} {pg sz : Nat} {rs t : List Nat} (v : VT b.length pg t) (ab : Bool) : eaten ab b pg sz rs t (evsOf b pg sz rs t).length = (flat ab (search b pg sz rs t).1, (search b pg sz rs t).2) := by
  unfold eaten
  rw [List.take_length, eat_evs v ab]
end M

section
variable {P : Program} {w : World} {K : PySem.W.Frag} {mg : Str → Option Value} {base : Heap} {CS CT pgs : Addr}
theorem KeepR.updL {r p : Addr} {H H' : Hp} {xs : List V} {o : HO} (k : KeepR r H H') (hp : H p = some (.lst xs)) (hr : r ≠ p) : KeepR r H (upd H' p o) := fun b u h q => by
  have ne : b ≠ p := fun e => by
    subst e
    rw [hp] at h
    cases h
    rcases q with q | q
    · cases q
    · exact hr q.symm
  rw [upd_ne ne]
  exact k b u h q
/-- row.extend(a new row) -/
theorem q_extend {σ : L2.St} {H : Hp} {D : Ends} {te ta : TE} {l : Addr} {xs : List V} {ws : List (Nat × Nat)} (hl : H l = some (.lst xs)) (ha : Ev ta σ H (.ref l)) (h : Gv te σ H (fun v H1 => ∃ p, v = .ref p ∧ RowAt H1 p ws)) (hz : xs.length + ws.length ≤ 2000)
    (k : ∀ H1 zs, Ex H H1 → PairsL zs H1 ws → D.nx σ (upd H1 l (.lst (xs ++ zs)))) : tDrop (tBM K "list" rExtend ta (tCons te tNil)) D σ H := ha H (Ex.refl H) _ fun H1 e1 =>
  ⟨Or.inl ⟨rfl, xs, sq_of (e1 l _ hl)⟩, h H1 e1 _ fun v H2 e2 ⟨p, hv, zs, hp, hR⟩ => by
    subst hv
    refine ⟨l, p, xs, zs, rfl, rfl, e2 l _ (e1 l _ hl), hp, sz_of (by rw [hR.len]; omega), k H2 zs (e1.trans e2) hR⟩⟩
theorem gv_lowK {σ : L2.St} {H : Hp} {te ti tj tk : TE} {a : Addr} {c pg n x : Nat} {t : List Nat} {ab : Bool} (h : Ev te σ H (.ref a)) (ht : TreeAt K CT c pg t H a) (hi : Ev ti σ H (.int (n : Int))) (hj : Ev tj σ H (.int (x : Int))) (hk : Ev tk σ H (.bl ab)) (h1 : 1 ≤ n) (h2 : n < 2 * pg) (h3 : x ≤ c) :
    Gv (tCallN 3 1 (sp_lowering K CS CT) (fun vs zs => vs ++ zs) E0 (tCons te (tCons ti (tCons tj tNil))) (tCons tk tNil)) σ H (fun v H1 => ∃ p, v = .ref p ∧ RowAt H1 p (if ab then (M.low t n x).reverse else M.low t n x)) := fun H1 e Q q =>
  (ea_cons h (ea_cons hi (ea_cons hj ea_nil))) H1 e _ fun H2 e2 => (ea_cons hk ea_nil) H2 (e.trans e2) _ fun H3 e3 => ⟨rfl, rfl, a, c, pg, n, x, t, ab, rfl, ht.ex ((e.trans e2).trans e3), h1, h2, h3, fun p H4 _ e4 hR => q _ H4 ((e2.trans e3).trans e4) ⟨p, rfl, hR⟩⟩
/-- a search's promise: the rooms are tracked -/
def sp_search_row (K : PySem.W.Frag) (CS CT : Addr) : Sp := fun vs H Q _ => ∃ (a s r : Addr) (m pg sz : Nat) (b rs t : List Nat) (ab : Bool), vs = [.ref a, .ref s, .ref r, .int (sz : Int), .bl ab] ∧ Sit K CS CT m pg b rs t H a s r ∧ (∃ o, H r = some o) ∧ 1 ≤ sz ∧ sz ≤ m ∧ RetRow (M.flat ab (M.search b pg sz rs t).1) H Q
theorem ok_search_row (D_check_asked : Dn P w K mg base 4 "check_asked" ["tree", "steps", "rooms", "size"] [] (sp_check_asked K CS CT)) (D_check_above : Dn P w K mg base 1 "check_above" ["value"] [] (sp_check_above K CS CT)) (G_events : Dgn P w K mg base 7 4000 "events" ["tree", "steps", "rooms", "size"] (sp_events K CS CT)) (DK_lowering : Dkw P w K mg base 6 "lowering" 3 ["above"] (fun vs zs => vs ++ zs) (sp_lowering K CS CT)) {f : Addr} {fd : FuncData} (F : FnP K "search_row" "search_row" d_search_row [] [("above", .bl false)] f fd) (T : Tx K mg CS CT pgs) : FnOk P w K mg base CX0 9 f fd ["tree", "steps", "rooms", "size", "above"] (sp_search_row K CS CT) := by
  refine F.ok sc_search_row (fun vs H Q E h => ?_) (fun cdv A outer s H vs Q E hr h => ?_)
  · obtain ⟨a, s, r, m, pg, sz, b, rs, t, ab, rfl, _⟩ := h
    rfl
  · obtain ⟨a, s, r, m, pg, sz, b, rs, t, ab, rfl, hS, hro, h1, h2, k⟩ := h
    have hV := hS.tree.1
    refine ⟨_, PSs.nox (pss_cons (ps_expr (pe_callD D_check_asked hr (by decide) (by rfl) (pa_cons (pv 0) (pa_cons (pv 1) (pa_cons (pv 2) (pa_cons (pv 3) pa_nil))))))
    (pss_cons (ps_expr (pe_callD D_check_above hr (by decide) (by rfl) (pa_cons (pv 4) pa_nil)))
    (pss_cons (ps_par (i := 5) (j := 6) rfl sc_search_row.nd rfl rfl (by decide) rfl rfl (pa_cons (pe_lst pa_nil) (pa_cons (pv 0) pa_nil)) (by rfl))
    (pss_cons (ps_forG rfl rfl rfl rfl (hr.mono (by decide)) (pgn_callD G_events hr (by decide) (by rfl) (pa_cons (pv 0) (pa_cons (pv 1) (pa_cons (pv 2) (pa_cons (pv 3) pa_nil))))) (pg_tup rfl (pgs_cons (pg_name (i := 7) sc_search_row.nd rfl (.inl rfl)) (pgs_cons (pg_name (i := 8) sc_search_row.nd rfl (.inl rfl)) pgs_nil))) (pss_cons (ps_if (pt_cmpR op_eq (pe_ix ix_tup (pv 7) pe_int (fun _ _ => rfl)) pe_str (nomark _)) (pss_one (ps_expr (pe_bm PySem.F.plainAttrs_list PySem.F.slot_list_extend PySem.F.type_list_extend mt_extend (pv 5) (pa_cons (pe_callKD DK_lowering hr (by decide) (by rfl) (pa_cons (pv 6) (pa_cons (pe_ix ix_tup (pv 7) pe_int (fun _ _ => rfl)) (pa_cons (pe_ix ix_tup (pv 7) pe_int (fun _ _ => rfl)) pa_nil))) (pk_cons (pv 4) pk_nil)) pa_nil)))) pss_nil)
    (pss_one (ps_set (i := 6) sc_search_row.nd rfl (.inl rfl) (pv 8)))))
    (pss_one (ps_ret (pv 5))))))), ?_⟩
    refine q_drop (ev_call (z := .non) (ea_cons (ev_var rfl) (ea_cons (ev_var rfl) (ea_cons (ev_var rfl) (ea_cons (ev_var rfl) ea_nil)))) fun H2 e2 Q q E => ⟨a, s, r, m, pg, sz, b, rs, t, rfl, hS.ex e2, h1, h2, q⟩) fun H1 e1 => ?_
    refine q_drop (ev_call (z := .non) (ea_cons (ev_var rfl) ea_nil) fun H2 e2 Q q E => ⟨ab, rfl, q⟩) fun H2 e2 => ?_
    have e12 := e1.trans e2
    refine ⟨by decide, fun p hp => ⟨_, rfl, _, _, rfl, ?_⟩⟩
    have hpn : H p = none := fresh_back e12 hp
    have hrp : r ≠ p := by obtain ⟨o, ho⟩ := hro; exact ne_of_none ho hpn
    have e0 : Ex H (upd H2 p (.lst [])) := e12.trans (Ex.new hp)
    refine ⟨_, rfl, _, rfl, _, rfl, _, rfl, evSpec K CT b.length pg (M.evsOf b pg sz rs t) r, ⟨a, s, r, m, pg, sz, b, rs, t, rfl, hS.ex e0, h1, h2, rfl⟩, KeepR.ofEx (Ex.refl _), ?_⟩
    refine ⟨fun i σ H' => ∃ nw x7 x8, σ = [some (.ref a), some (.ref s), some (.ref r), some (.int (sz : Int)), some (.bl ab), some (.ref p), some (.ref nw), x7, x8] ∧ Ex H H' ∧ RowAt H' p (M.eaten ab b pg sz rs t i).1 ∧ TreeAt K CT b.length pg (M.eaten ab b pg sz rs t i).2 H' nw,
      ⟨a, none, none, rfl, e0, ⟨_, upd_same, .nil⟩, hS.tree.ex e0⟩, fun i σ H' hW => ⟨fun x H3 ho => ?_, fun H3 hd => ?_⟩⟩
    · obtain ⟨nw, x7, x8, rfl, eH, hR, hT⟩ := hW
      obtain ⟨e3, ev, hev, p1, q1, tr, rfl, hp1, hq1, htr⟩ := ho
      have hsucc := M.eaten_succ (ab := ab) hev
      have hok := M.evs_ok hV ev (List.mem_of_getElem? hev)
      refine ⟨p1, _, rfl, st_of hp1, rfl, _, _, rfl, _, _, rfl, rfl, ?_⟩
      obtain ⟨evk, tt⟩ := ev
      have hR3 := hR.ex e3
      have hT3 := hT.ex e3
      have hlen := M.eaten_len (sz := sz) (rs := rs) hV ab i
      cases evk with
      | lower n v =>
        obtain ⟨n1, n2, hv⟩ := hok
        refine q_when (b := true) (et_is (et_test (ev_op (ev_op (ev_var rfl) ev_c (rv_ixT (st_of hq1) (atI_nat (j := 0) rfl))) ev_c (rv_eq rfl))) (by simp)) (fun _ H4 e4 => ?_) fun z => by cases z
        obtain ⟨xs, hxs, hPs⟩ := hR3.ex e4
        have hq4 := e4 _ _ hq1
        have hll := low_len hT.1 n1 n2 hv
        have hcl : (if ab = true then (M.low (M.eaten ab b pg sz rs t i).2 n v).reverse else M.low (M.eaten ab b pg sz rs t i).2 n v).length ≤ 504 := by
          cases ab with
          | true => simpa using hll
          | false => exact hll
        refine q_extend hxs (ev_var rfl) (gv_lowK (ab := ab) (n := n) (x := v) (ev_var rfl) (hT3.ex e4) (ev_op (ev_var rfl) ev_c (rv_ixT (st_of hq4) (atI_nat (j := 1) rfl))) (ev_op (ev_var rfl) ev_c (rv_ixT (st_of hq4) (atI_nat (j := 2) rfl))) (ev_var rfl) n1 n2 hv)
          (by rw [hPs.len]; omega) fun H5 zs e5 hz => ?_
        have hp5 := e5 _ _ hxs
        refine s_asg (ev_var rfl) fun H6 e6 => ?_
        have e46 := e4.trans e5
        refine ⟨((KeepR.ofEx e46).updL (hR3.choose_spec.1) hrp).trans (KeepR.ofEx e6), tr, _, _, rfl, (Ex.mut ((eH.trans e3).trans e46) hpn).trans e6, ?_, ?_⟩
        · rw [hsucc]
          exact RowAt.ex ⟨_, upd_same, ((hPs.ex e5).append hz).updL hp5⟩ e6
        · rw [hsucc]
          exact ((htr.ex e46).updL hp5).ex e6
      | node n =>
        refine q_when (b := false) (et_is (et_test (ev_op (ev_op (ev_var rfl) ev_c (rv_ixT (st_of hq1) (atI_nat (j := 0) rfl))) ev_c (rv_eq rfl))) (by decide +kernel)) (fun z => by cases z) fun _ H4 e4 => ?_
        refine s_asg (ev_var rfl) fun H5 e5 => ⟨KeepR.ofEx (e4.trans e5), tr, _, _, rfl, (eH.trans e3).trans (e4.trans e5), ?_, ?_⟩
        · rw [hsucc]; exact hR3.ex (e4.trans e5)
        · rw [hsucc]; exact htr.ex (e4.trans e5)
      | look n =>
        refine q_when (b := false) (et_is (et_test (ev_op (ev_op (ev_var rfl) ev_c (rv_ixT (st_of hq1) (atI_nat (j := 0) rfl))) ev_c (rv_eq rfl))) (by decide +kernel)) (fun z => by cases z) fun _ H4 e4 => ?_
        refine s_asg (ev_var rfl) fun H5 e5 => ⟨KeepR.ofEx (e4.trans e5), tr, _, _, rfl, (eH.trans e3).trans (e4.trans e5), ?_, ?_⟩
        · rw [hsucc]; exact hR3.ex (e4.trans e5)
        · rw [hsucc]; exact htr.ex (e4.trans e5)
      | found n =>
        refine q_when (b := false) (et_is (et_test (ev_op (ev_op (ev_var rfl) ev_c (rv_ixT (st_of hq1) (atI_nat (j := 0) rfl))) ev_c (rv_eq rfl))) (by decide +kernel)) (fun z => by cases z) fun _ H4 e4 => ?_
        refine s_asg (ev_var rfl) fun H5 e5 => ⟨KeepR.ofEx (e4.trans e5), tr, _, _, rfl, (eH.trans e3).trans (e4.trans e5), ?_, ?_⟩
        · rw [hsucc]; exact hR3.ex (e4.trans e5)
        · rw [hsucc]; exact htr.ex (e4.trans e5)
      | nothing =>
        refine q_when (b := false) (et_is (et_test (ev_op (ev_op (ev_var rfl) ev_c (rv_ixT (st_of hq1) (atI_nat (j := 0) rfl))) ev_c (rv_eq rfl))) (by decide +kernel)) (fun z => by cases z) fun _ H4 e4 => ?_
        refine s_asg (ev_var rfl) fun H5 e5 => ⟨KeepR.ofEx (e4.trans e5), tr, _, _, rfl, (eH.trans e3).trans (e4.trans e5), ?_, ?_⟩
        · rw [hsucc]; exact hR3.ex (e4.trans e5)
        · rw [hsucc]; exact htr.ex (e4.trans e5)
    · obtain ⟨nw, x7, x8, rfl, eH, hR, hT⟩ := hW
      obtain ⟨e3, hi⟩ := hd
      subst hi
      rw [M.eaten_all hV ab] at hR
      exact s_ret (ev_var rfl) fun H4 e4 => k p H4 hpn ((eH.trans e3).trans e4) (hR.ex (e3.trans e4))
def sp_behind (K : PySem.W.Frag) (CS CT : Addr) : Sp := fun vs H Q _ => ∃ (a s r : Addr) (m pg sz : Nat) (b rs t : List Nat), vs = [.ref a, .ref s, .ref r, .int (sz : Int)] ∧ Sit K CS CT m pg b rs t H a s r ∧ (∃ o, H r = some o) ∧ 1 ≤ sz ∧ sz ≤ m ∧ RetP (fun u H1 => ∃ c, u = .ref c ∧ TreeAt K CT b.length pg (M.search b pg sz rs t).2 H1 c) H Q
theorem ok_behind (D_check_asked : Dn P w K mg base 4 "check_asked" ["tree", "steps", "rooms", "size"] [] (sp_check_asked K CS CT)) (G_events : Dgn P w K mg base 7 4000 "events" ["tree", "steps", "rooms", "size"] (sp_events K CS CT)) {f : Addr} {fd : FuncData} (F : FnP K "behind" "behind" d_behind [] [] f fd) (T : Tx K mg CS CT pgs) : FnOk P w K mg base CX0 9 f fd ["tree", "steps", "rooms", "size"] (sp_behind K CS CT) := by
  refine F.ok sc_behind (fun vs H Q E h => ?_) (fun cdv A outer s H vs Q E hr h => ?_)
  · obtain ⟨a, s, r, m, pg, sz, b, rs, t, rfl, _⟩ := h
    rfl
  · obtain ⟨a, s, r, m, pg, sz, b, rs, t, rfl, hS, hro, h1, h2, k⟩ := h
    have hV := hS.tree.1
    refine ⟨_, PSs.nox (pss_cons (ps_expr (pe_callD D_check_asked hr (by decide) (by rfl) (pa_cons (pv 0) (pa_cons (pv 1) (pa_cons (pv 2) (pa_cons (pv 3) pa_nil))))))
    (pss_one (ps_ret (pe_ix ix_list (pe_lcG (te := (tVar 5)) (gt := gTup K 2 (gCons (gName 4) (gCons (gName 5) gNil))) (own := [("event", 4), ("now", 5)]) rfl sc_behind.nd (hr.mono (by decide)) (pgn_callD G_events hr (by decide) (by rfl) (pa_cons (pv 0) (pa_cons (pv 1) (pa_cons (pv 2) (pa_cons (pv 3) pa_nil))))) (blkOk_by (own := [("event", 4), ("now", 5)]) (N := ["tree", "steps", "rooms", "size", "event", "now"]) (sc := defScope d_behind) (by decide +kernel)) (by decide +kernel) (fun _ _ _ _ _ => (pg_tup rfl (pgs_cons (pg_name (i := 4) sc_behind.nd rfl (.inl rfl) (.inr rfl)) (pgs_cons (pg_name (i := 5) sc_behind.nd rfl (.inl rfl) (.inr rfl)) pgs_nil)))) (fun _ _ _ _ _ => (pv 5))) (pe_un un_neg pe_int) (fun _ _ => rfl))))), ?_⟩
    refine q_drop (ev_call (z := .non) (ea_cons (ev_var rfl) (ea_cons (ev_var rfl) (ea_cons (ev_var rfl) (ea_cons (ev_var rfl) ea_nil)))) fun H2 e2 Q q E => ⟨a, s, r, m, pg, sz, b, rs, t, rfl, hS.ex e2, h1, h2, q⟩) fun H1 e1 => ?_
    obtain ⟨L, hL⟩ : ∃ L, L = (M.evsOf b pg sz rs t).length := ⟨_, rfl⟩
    have hL0 : 0 < L := by
      rw [hL]
      exact List.length_pos_iff.mpr (M.evs_ne _ _ _ _ _)
    have hLb : L ≤ 3900 := by rw [hL]; exact evs_len (by have := hV.len; have := hV.P32; omega)
    -- [now for event, now in events(..)]
    have main : ∀ Q : VK, (∀ D H2 acc tr, Ex H H2 → H2 D = some (.lst (acc ++ [.ref tr])) → TreeAt K CT b.length pg (M.search b pg sz rs t).2 H2 tr → Q (.ref D) H2) → tLcG (tCallGn (sp_events K CS CT) (tCons (tVar 0) (tCons (tVar 1) (tCons (tVar 2) (tCons (tVar 3) tNil))))) (gTup K 2 (gCons (gName 4) (gCons (gName 5) gNil))) (tVar 5) [4, 5] [some (.ref a), some (.ref s), some (.ref r), some (.int (sz : Int)), none, none] H1 Q := by
      intro Q hQ
      refine ⟨_, rfl, _, rfl, _, rfl, _, rfl, evSpec K CT b.length pg (M.evsOf b pg sz rs t) r, ⟨a, s, r, m, pg, sz, b, rs, t, rfl, hS.ex e1, h1, h2, rfl⟩, fun D hD => ?_⟩
      have hDn : H D = none := fresh_back e1 hD
      have hrD : r ≠ D := by obtain ⟨o, ho⟩ := hro; exact ne_of_none ho hDn
      refine ⟨KeepR.ofEx (Ex.new hD), fun i acc H' => Ex H H' ∧ acc.length = i ∧ (0 < i → ∃ acc' tr e, acc = acc' ++ [.ref tr] ∧ (M.evsOf b pg sz rs t)[i - 1]? = some e ∧ TreeAt K CT b.length pg e.2 H' tr), ⟨e1.trans (Ex.new hD), rfl, fun z => absurd z (by decide)⟩, fun i acc H' hW hacc => ⟨fun x H3 ho => ?_, fun H3 hd => ?_⟩⟩
      · obtain ⟨eH, hl, _⟩ := hW
        obtain ⟨e3, ev, hev, p1, q1, tr, rfl, hp1, hq1, htr⟩ := ho
        have hi : i < L := by rw [hL]; exact (List.getElem?_eq_some_iff.mp hev).1
        refine ⟨p1, _, rfl, st_of hp1, rfl, _, _, rfl, _, _, rfl, rfl, rfl, .ref tr, rfl, e3 _ _ hacc, sz_lt (by omega), (KeepR.ofEx (Ex.refl _)).updL (e3 _ _ hacc) hrD, Ex.mut (eH.trans e3) hDn, by rw [List.length_append, hl]; rfl, fun _ => ⟨acc, tr, ev, rfl, by simpa using hev, htr.updL (e3 _ _ hacc)⟩⟩
      · obtain ⟨eH, hl, hlast⟩ := hW
        obtain ⟨e3, hi⟩ := hd
        rw [← hL] at hi
        obtain ⟨acc', tr, e, rfl, he, hT⟩ := hlast (by omega)
        refine hQ D H3 acc' tr (eH.trans e3) (e3 _ _ hacc) ?_
        have hel := M.evs_last (sz := sz) (rooms := rs) hV
        have h3 : ((M.evsOf b pg sz rs t).map (·.2)).getLastD t = e.2 := by
          rw [List.getLastD_eq_getLast?, List.getLast?_eq_getElem?, List.length_map, ← hL, ← hi, List.getElem?_map, he]
          rfl
        rw [← hel, h3]
        exact hT.ex e3
    refine main (fun x H2 => tUn (rU fun i => V.int (-i)) (tC (.int 1)) [some (.ref a), some (.ref s), some (.ref r), some (.int (sz : Int)), none, none] H2 fun y H3 => rIxL K x y H3 Q) fun D H2 acc tr e2 hD hT => ?_
    exact ⟨1, rfl, D, acc ++ [.ref tr], -1, .ref tr, rfl, rfl, sq_of hD, atI_last _ _, k _ H2 e2 ⟨tr, rfl, hT⟩⟩
end
end Rt
end
section
/-! The law's own defs, without draws. Printed by gen_rules.py from RtH.src. -/
namespace Rt
open PySem PySem.Spec PyProof.Rows L2 Evl GenW

/-! ### list(range(a, b, c)) -/
def tLstRg3 (ta : TA) : TE := fun σ H Q => ta σ H fun vs H1 => ∃ (i j c : Int) (n : Nat), vs = [.int i, .int j, .int c] ∧ RgC i j c n ∧ n ≤ 2 ^ 24 ∧ ∀ q, H1 q = none → Q (.ref q) (upd H1 q (.lst ((List.range n).map fun (k : Nat) => V.int (i + (k : Int) * c))))
theorem pe_listRg3 {X : Cx} {a b c : Expr} {ta : TA} {p pos p2 pos2 : Pos} (hc : X.calm = true) (hg : Gl X "list") (hm : X.mg "list" = none) (hg2 : Gl X "range") (hm2 : X.mg "range" = none) (ha : PA X [a, b, c] ta)
    (na : starEach [.Call (.Name "range" p2) [a, b, c] [] pos2] X.env = (false, eval (.Call (.Name "range" p2) [a, b, c] [] pos2) X.env) :: starEach [] X.env := by rfl)
    (hs : starEach [a, b, c] X.env = (false, eval a X.env) :: starEach [b, c] X.env := by rfl) (hpl : (backTo pos2 (starEach [b, c] X.env)).any (·.1) = false := by rfl) : PE X (.Call (.Name "list" p) [.Call (.Name "range" p2) [a, b, c] [] pos2] [] pos) (tLstRg3 ta) := by
  refine ⟨fun pins s σ H Q I h => ?_⟩
  refine Call_ (ld_blt I hg hm boot_list (PyProof.Rows.callWith_type1 (args_cons ?_ na) na))
  refine Call_ (ld_blt I hg2 hm2 boot_range (PyProof.Rows.callWith_type1 (thn (ha.run pos2 pins s σ H _ I h) fun us s1 ⟨vs, H1, I1, r1, q1⟩ => ?_) hs hpl))
  obtain ⟨i, j, k, n, e, ⟨c0, c1, c2, c3⟩, hn, q⟩ := q1
  subst e
  cases r1 with
  | cons r rr =>
    cases rr with
    | cons r' rr =>
      cases rr with
      | cons r'' rr =>
        cases rr
        obtain ⟨t, rfl⟩ := r
        obtain ⟨t', rfl⟩ := r'
        obtain ⟨t'', rfl⟩ := r''
        refine call_range_3 c0 ?_ (.inl (PyProof.noPylong_small c1))
        refine args_nil ?_
        have I2 : Inv X pins σ H1 { s1 with heap := s1.heap.push { cls := .type "range", data := .fields #[.int i t, .int j t', .int k t''] } } := I1.kept (t' := s1.toks) fun b o e => Heap.get?_push_of_some _ e
        refine call_list_range (I2.ok.hd hc) (IsRange.new ..) c2 c3 hn fun h' tk acc c' hk e' hi => ?_
        have el : acc.toList.length = n := by rw [Array.length_toList]; exact hi.1
        have rv : Vals ((List.range n).map fun (m : Nat) => V.int (i + (m : Int) * k)) acc.toList := by
          rw [← el]
          refine vals_of_get acc.toList (fun (m : Nat) => V.int (i + (m : Int) * k)) fun m u hu => ?_
          obtain ⟨tt, rfl⟩ := hi.2 m u (by simpa using hu)
          exact ⟨tt, rfl⟩
        refine ⟨.ref _, upd H1 _ (.lst ((List.range n).map fun (m : Nat) => V.int (i + (m : Int) * k))), I2.laid hk (Nat.le_refl _) (show ObjOk X.prog X.w _ _ _ (.lst ((List.range n).map fun (m : Nat) => V.int (i + (m : Int) * k))) from ⟨?_, acc.toList, c', rv, ?_⟩), rfl, q _ (I2.hok.fresh (Nat.le_refl _))⟩
        · rw [List.length_map, List.length_range, sizeLine_eq]
          omega
        · rw [Array.toArray_toList]
          exact e'

/-! ### the law's plan -/
def planK (m : Nat) (l : Addr) : List (Key × V) := [(.inr "most", .int (m : Int)), (.inr "bounds", .ref l)]
/-- {'most': m, 'bounds': b} -/
def PlanE (H : Hp) (d : Addr) (m : Nat) (b : List Nat) : Prop := M.VS m b ∧ ∃ l, H d = some (.dK (planK m l)) ∧ H l = some (.lst (vi b))
theorem PlanE.ex {H H' : Hp} {d : Addr} {m : Nat} {b : List Nat} (h : PlanE H d m b) (e : Ex H H') : PlanE H' d m b := by
  obtain ⟨v, l, h1, h2⟩ := h
  exact ⟨v, l, e _ _ h1, e _ _ h2⟩
theorem valV_most (m : Nat) (l : Addr) : valV (planK m l) (.inr ("most" : Str)) = some (.int (m : Int)) := valV_pos rfl
theorem valV_bounds (m : Nat) (l : Addr) : valV (planK m l) (.inr ("bounds" : Str)) = some (.ref l) := by
  have h : ¬ (Sum.inr ("most" : Str) : Key) = .inr "bounds" := fun e => by
    have : ("most" : Str) = "bounds" := Sum.inr.inj e
    exact absurd this (by decide +kernel)
  exact (valV_neg h).trans (valV_pos rfl)
section
variable {K : PySem.W.Frag} {σ : L2.St} {H H' : Hp} {ta tb te td : TE} {t : TA} {v : V} {vs xs ys : List V} {d : Addr} {m : Nat} {b : List Nat}
theorem ev_dget {kvs : List (Key × V)} {x : Str} (h : Ev td σ H (.ref d)) (hk : H d = some (.dK kvs)) (hv : valV kvs (.inr x) = some v) : Ev (tDGet td (tC (.str x))) σ H v := fun H1 e Q q =>
  h H1 e _ fun H2 e2 => ⟨d, v, rfl, by rw [← hv]; exact DGet.k (k := .inr x) ((e.trans e2) _ _ hk), q H2 e2⟩
theorem ev_most (h : Ev td σ H (.ref d)) (hp : PlanE H d m b) : Ev (tDGet td (tC (.str "most"))) σ H (.int (m : Int)) := by
  obtain ⟨v, l, h1, h2⟩ := hp
  exact ev_dget h h1 (valV_most m l)
/-- list(list) -/
theorem el_listS {p : Addr} (ha : Ev ta σ H (.ref p)) (h : SqL K H p xs ∨ SqT K H p xs) : EvL (tCB (rListS K) (tCons ta tNil)) σ H xs := fun H1 e Q q =>
  ha H1 e _ fun H2 e2 => ⟨p, xs, rfl, h.imp (ex_l (e.trans e2)) (ex_t (e.trans e2)), fun l hl => q l _ (fresh_back e2 hl) (e2.trans (Ex.new hl)) upd_same⟩
/-- a + b of lists that were just made -/
theorem el_catNN (ha : EvL ta σ H xs) (hb : EvL tb σ H ys) (hz : xs.length + ys.length ≤ 100000) : EvL (tOp rCat ta tb) σ H (xs ++ ys) := fun H1 e Q q =>
  ha H1 e _ fun p H2 hp e2 h2 => hb H2 (e.trans e2) _ fun p2 H3 hp2 e3 h3 => ⟨p, p2, xs, ys, rfl, rfl, e3 _ _ h2, h3, sz_of hz, fun r hr => q r _ (fresh_back (e2.trans e3) hr) ((e2.trans e3).trans (Ex.new hr)) upd_same⟩
/-- a list that stands, and one that was just made -/
theorem el_catVN {p : Addr} (ha : Ev ta σ H (.ref p)) (hp : H p = some (.lst xs)) (hb : EvL tb σ H ys) (hz : xs.length + ys.length ≤ 100000) : EvL (tOp rCat ta tb) σ H (xs ++ ys) := fun H1 e Q q =>
  ha H1 e _ fun H2 e2 => hb H2 (e.trans e2) _ fun p2 H3 hp2 e3 h3 => ⟨p, p2, xs, ys, rfl, rfl, ((e.trans e2).trans e3) _ _ hp, h3, sz_of hz, fun r hr => q r _ (fresh_back (e2.trans e3) hr) ((e2.trans e3).trans (Ex.new hr)) upd_same⟩
/-- [..] * k -/
theorem el_repN {k : Nat} (ha : EvL ta σ H xs) (hb : Ev tb σ H (.int (k : Int))) (hk : k ≤ 1000) (hx : xs.length ≤ 10) : EvL (tOp rRep ta tb) σ H (List.replicate k xs).flatten := fun H1 e Q q =>
  ha H1 e _ fun p H2 hp e2 h2 => hb H2 (e.trans e2) _ fun H3 e3 => ⟨p, (k : Int), xs, rfl, rfl, e3 _ _ h2, by omega, by omega, by
    have : xs.length * (k : Int).toNat ≤ 10 * 1000 := Nat.mul_le_mul hx (by omega)
    exact sz_of (by omega), fun r hr => q r _ (fresh_back (e2.trans e3) hr) ((e2.trans e3).trans (Ex.new hr)) upd_same⟩
end

section
variable {P : Program} {w : World} {K : PySem.W.Frag} {mg : Str → Option Value} {base : Heap} {CS CT pgs : Addr}
theorem ev_bounds {σ : L2.St} {H : Hp} {td : TE} {d : Addr} {m : Nat} {b : List Nat} (h : Ev td σ H (.ref d)) (hp : PlanE H d m b) : ∃ l, Ev (tDGet td (tC (.str "bounds"))) σ H (.ref l) ∧ H l = some (.lst (vi b)) := by
  obtain ⟨v, l, h1, h2⟩ := hp
  exact ⟨l, ev_dget h h1 (valV_bounds m l), h2⟩
def sp_law_class (K : PySem.W.Frag) (CS CT : Addr) : Sp := fun vs H Q _ => ∃ (d : Addr) (m x : Nat) (b : List Nat), vs = [.ref d, .int (x : Int)] ∧ PlanE H d m b ∧ RetV (.int (M.clsOf b x : Int)) H Q
theorem ok_law_class  {f : Addr} {fd : FuncData} (F : FnP K "_law_class" "_law_class" d_law_class [] [] f fd) (T : Tx K mg CS CT pgs) : FnOk P w K mg base CX0 1 f fd ["_law_plan", "_law_room"] (sp_law_class K CS CT) := by
  refine F.ok sc_law_class (fun vs H Q E h => ?_) (fun cdv A outer s H vs Q E hr h => ?_)
  · obtain ⟨d, m, x, b, rfl, _⟩ := h
    rfl
  · obtain ⟨d, m, x, b, rfl, hp, k⟩ := h
    have hl8 := hp.1.l8
    obtain ⟨l, hl, hlst⟩ := ev_bounds (σ := [some (.ref d), some (.int (x : Int)), none]) (td := tVar 0) (ev_var rfl) hp
    refine ⟨_, PSs.nox (pss_one (ps_ret (pe_callB call_len_seq (by rfl) T.b_len bt_len (pa_cons (pe_lc (te := (tVar 2)) (tt := (tTest (tOp (rI0 fun i j => .bl (decide (i ≤ j))) (tVar 2) (tVar 1)))) (own := [("_law_one", 2)]) rfl sc_law_class.nd (pi_list (pe_dget (room1 hr) (pv 0) pe_str (fun _ _ => rfl))) (blkOk_by (own := [("_law_one", 2)]) (N := ["_law_plan", "_law_room", "_law_one"]) (sc := defScope d_law_class) (by decide +kernel)) (fun _ _ _ _ _ => (pg_name (i := 2) sc_law_class.nd rfl (.inl rfl) (.inr rfl))) (fun _ _ _ _ _ => (pts_one (pt_cmpR op_le (pv 2) (pv 1) (nomark _)))) (fun _ _ _ _ _ => (pv 2))) pa_nil)))), ?_⟩
    refine s_ret (ev_is (ev_lenN (el_lcL (fun i => decide (b.getD i 0 ≤ x)) (fun i => .int ((b.getD i 0 : Nat) : Int)) hl (sq_of hlst) (by rw [vi_len]; omega) (fun _ => rfl)
      (fun i y H2 e2 hi => ?_) fun i y H2 e2 hi _ => ?_)) ?_) k
    · obtain ⟨h1, rfl⟩ := vi_some hi
      exact et_is (et_test (ev_op (ev_var rfl) (ev_var rfl) rv_I0)) (by simp)
    · obtain ⟨h1, rfl⟩ := vi_some hi
      exact ev_var rfl
    · rw [vi_len, filt_len b fun y => decide (y ≤ x)]
      rfl
theorem ev_law_class {σ : L2.St} {H : Hp} {td tx : TE} {d : Addr} {m x : Nat} {b : List Nat} (h : Ev td σ H (.ref d)) (hp : PlanE H d m b) (hx : Ev tx σ H (.int (x : Int))) : Ev (tCall (sp_law_class K CS CT) [] E0 (tCons td (tCons tx tNil))) σ H (.int (M.clsOf b x : Int)) :=
  ev_call (ea_cons h (ea_cons hx ea_nil)) fun H1 e1 Q q E => ⟨d, m, x, b, rfl, hp.ex e1, q⟩
/-- what the places give -/
theorem given_fits (b : List Nat) (sz : Nat) : given b.length (fun i => decide (sz ≤ b.getD i 0)) (fun i => V.int ((i : Int) + 1)) = vi (((b.zipIdx 0).filter fun p => decide (sz ≤ p.1)).map fun p => p.2 + 1) := by
  have e : b.zipIdx 0 = (List.range b.length).map fun i => (b.getD i 0, i) := by
    refine List.ext_getElem (by simp) fun i h1 h2 => ?_
    have h3 : i < b.length := by simpa using h1
    rw [List.getElem_zipIdx, List.getElem_map, List.getElem_range, getD_at h3]
    simp
  rw [e, List.filter_map, List.map_map]
  unfold given vi
  rw [List.map_map]
  refine List.map_congr_left fun i _ => ?_
  simp
def sp_law_need (K : PySem.W.Frag) (CS CT : Addr) : Sp := fun vs H Q _ => ∃ (d : Addr) (m x : Nat) (b : List Nat), vs = [.ref d, .int (x : Int)] ∧ PlanE H d m b ∧ RetV (optV (M.needOf b x)) H Q
theorem ok_law_need  {f : Addr} {fd : FuncData} (F : FnP K "_law_need" "_law_need" d_law_need [] [] f fd) (T : Tx K mg CS CT pgs) : FnOk P w K mg base CX0 1 f fd ["_law_plan", "_law_size"] (sp_law_need K CS CT) := by
  refine F.ok sc_law_need (fun vs H Q E h => ?_) (fun cdv A outer s H vs Q E hr h => ?_)
  · obtain ⟨d, m, x, b, rfl, _⟩ := h
    rfl
  · obtain ⟨d, m, x, b, rfl, hp, k⟩ := h
    have hl8 := hp.1.l8
    obtain ⟨l, hl, hlst⟩ := ev_bounds (σ := [some (.ref d), some (.int (x : Int)), none, none, none]) (td := tVar 0) (ev_var rfl) hp
    refine ⟨_, PSs.nox (pss_cons (ps_setLc (i := 2) (te := (tOp (rI0 fun i j => .int (i + j)) (tVar 3) (tC (.int 1)))) (tt := (tTest (tOp (rI0 fun i j => .bl (decide (j ≤ i))) (tVar 4) (tVar 1)))) (g := gTup K 2 (gCons (gName 3) (gCons (gName 4) gNil))) (own := [("_law_at", 3), ("_law_one", 4)]) rfl sc_law_need.nd rfl rfl (sw_true rfl rfl rfl (by decide +kernel)) (pi_enum (by rfl) T.b_enumerate (pa_cons (pe_dget (room1 hr) (pv 0) pe_str (fun _ _ => rfl)) pa_nil)) (blkOk_by (own := [("_law_at", 3), ("_law_one", 4)]) (N := ["_law_plan", "_law_size", "_law_fits", "_law_at", "_law_one"]) (sc := defScope d_law_need) (by decide +kernel)) (fun _ _ _ _ _ => (pg_tup rfl (pgs_cons (pg_name (i := 3) sc_law_need.nd rfl (.inl rfl) (.inr rfl)) (pgs_cons (pg_name (i := 4) sc_law_need.nd rfl (.inl rfl) (.inr rfl)) pgs_nil)))) (fun _ _ _ _ _ => (pts_one (pt_cmpR op_ge (pv 4) (pv 1) (nomark _)))) (fun _ _ _ _ _ => (pe_op op_add (pv 3) pe_int)))
    (pss_one (ps_ret (pe_ifExp (pt_cmpR (op_neD (room64 hr)) (pv 2) (pe_lst pa_nil) (nomark _)) (pe_ix ix_list (pv 2) pe_int (fun _ _ => rfl)) pe_non)))), ?_⟩
    have el : EvL (tLc (iEnum K (tCons (tDGet (tVar 0) (tC (.str "bounds"))) tNil)) (gTup K 2 (gCons (gName 3) (gCons (gName 4) gNil))) (tTest (tOp (rI0 fun i j => .bl (decide (j ≤ i))) (tVar 4) (tVar 1))) (tOp (rI0 fun i j => .int (i + j)) (tVar 3) (tC (.int 1))) [3, 4]) [some (.ref d), some (.int (x : Int)), none, none, none] H _ :=
      el_lcE (fun i => decide (x ≤ b.getD i 0)) (fun i => .int ((i : Int) + 1)) hl (sq_of hlst) (by rw [vi_len]; omega) (fun _ _ => rfl) (fun i y H2 e2 hi => by
        obtain ⟨h1, rfl⟩ := vi_some hi
        exact et_is (et_test (ev_op (ev_var rfl) (ev_var rfl) rv_I0)) (by simp)) fun i y H2 e2 hi _ => by
        exact ev_op (ev_var rfl) ev_c rv_I0
    rw [vi_len, given_fits] at el
    have hf := M.fits_head hp.1.up x 0
    generalize hF : (((b.zipIdx 0).filter fun p => decide (x ≤ p.1)).map fun p => p.2 + 1) = F at el hf
    refine q_asgL el fun q H1 hq e1 h1 => ?_
    have hneed : M.needOf b x = F.head? := by
      rw [hf]
      unfold M.needOf
      simp
    rw [hneed] at k
    cases F with
    | nil =>
      refine s_ret (ev_if (b := false) (et_is (et_test (ev_opL (xs := []) (x := .ref q) (ev_var rfl) (el_lst ea_nil (by simp)) fun p2 H2 h2 e2 => rv_val fun H3 e3 Q' q' => ⟨.list [], .list [], .lst (sq_of ((e2.trans e3) _ _ h1)) .nil, .lst (sq_of (e3 _ _ h2)) .nil, by decide, by decide, q'⟩)) (by decide)) (fun z => by cases z) fun _ => ev_c) fun H2 e2 => k H2 (e1.trans e2)
    | cons z F =>
      have hlF : PyData.depthAll (dInts (z :: F)) ≤ 1 := dInts_depth _
      have hsh : SeqAt.shaped (.list (dInts (z :: F))) = true := by
        unfold SeqAt.shaped
        have : (PyData.list (dInts (z :: F))).canLay0 = true := by simp [PyData.canLay0, dInts_lay]
        rw [this]
        have : (PyData.list (dInts (z :: F))).depth ≤ 64 := by simp only [PyData.depth]; omega
        simpa using this
      refine s_ret (ev_if (b := true) (et_is (et_test (ev_opL (xs := []) (x := .ref q) (ev_var rfl) (el_lst ea_nil (by simp)) fun p2 H2 h2 e2 => rv_val (z := .bl true) fun H3 e3 Q' q' => ⟨.list (dInts (z :: F)), .list [], .lst (sq_of ((e2.trans e3) _ _ h1)) (dp_ints _), .lst (sq_of (e3 _ _ h2)) .nil, hsh, by decide, q'⟩)) rfl)
        (fun _ => ev_op (ev_var rfl) ev_c (rv_ixL (sq_of h1) (atI_nat (j := 0) rfl))) (fun z => by cases z)) fun H2 e2 => k H2 (e1.trans e2)
def sp_law_made_steps (K : PySem.W.Frag) (CS CT : Addr) : Sp := fun vs H Q _ => ∃ (d : Addr) (m : Nat) (b : List Nat), vs = [.ref d] ∧ PlanE H d m b ∧ RetP (fun u H1 => ∃ a, u = .ref a ∧ StepsAt K CS m b H1 a) H Q
theorem ok_law_made_steps (D_Steps_init : Dk P w K mg base 3 "Steps" CS ["self", "most", "bounds"] (sp_Steps_init K CS CT)) {f : Addr} {fd : FuncData} (F : FnP K "_law_made_steps" "_law_made_steps" d_law_made_steps [] [] f fd) (T : Tx K mg CS CT pgs) : FnOk P w K mg base CX0 5 f fd ["_law_plan"] (sp_law_made_steps K CS CT) := by
  refine F.ok sc_law_made_steps (fun vs H Q E h => ?_) (fun cdv A outer s H vs Q E hr h => ?_)
  · obtain ⟨d, m, b, rfl, _⟩ := h
    rfl
  · obtain ⟨d, m, b, rfl, hp, k⟩ := h
    obtain ⟨l, hl, hlst⟩ := ev_bounds (σ := [some (.ref d)]) (td := tVar 0) (ev_var rfl) hp
    refine ⟨_, PSs.nox (pss_one (ps_ret (pe_makeD D_Steps_init hr (by decide) (by rfl) (pa_cons (pe_dget (room1 hr) (pv 0) pe_str (fun _ _ => rfl)) (pa_cons (pe_callTy call_list_of (by rfl) T.b_list bt_list (pa_cons (pe_dget (room1 hr) (pv 0) pe_str (fun _ _ => rfl)) pa_nil)) pa_nil))))), ?_⟩
    exact s_retG (gv_make2L (ev_most (ev_var rfl) hp) (el_listS hl (.inl (sq_of hlst))) fun H1 p e1 hp' x dx hx hd ne Q q => ⟨H1, x, dx, p, m, b, rfl, (Ex.new hd).trans (Ex.new (by rw [upd_ne (Ne.symm ne)]; exact hx)), hx, upd_same, hp', hp.1, fun H' e' ht => q H' e' ⟨x, rfl, ht⟩⟩) k
def sp_law_tree (K : PySem.W.Frag) (CS CT : Addr) : Sp := fun vs H Q _ => ∃ (d r : Addr) (m pg : Nat) (b t : List Nat), vs = [.ref d, .ref r] ∧ PlanE H d m b ∧ H r = some (.lst (vi t)) ∧ M.VT b.length pg t ∧ RetP (fun u H1 => ∃ a, u = .ref a ∧ TreeAt K CT b.length pg t H1 a) H Q
theorem ok_law_tree (D_Tree_init : Dk P w K mg base 3 "Tree" CT ["self", "classes", "told"] (sp_Tree_init K CS CT)) {f : Addr} {fd : FuncData} (F : FnP K "_law_tree" "_law_tree" d_law_tree [] [] f fd) (T : Tx K mg CS CT pgs) : FnOk P w K mg base CX0 5 f fd ["_law_plan", "_law_row"] (sp_law_tree K CS CT) := by
  refine F.ok sc_law_tree (fun vs H Q E h => ?_) (fun cdv A outer s H vs Q E hr h => ?_)
  · obtain ⟨d, r, m, pg, b, t, rfl, _⟩ := h
    rfl
  · obtain ⟨d, r, m, pg, b, t, rfl, hp, hr', v, k⟩ := h
    obtain ⟨l, hl, hlst⟩ := ev_bounds (σ := [some (.ref d), some (.ref r)]) (td := tVar 0) (ev_var rfl) hp
    refine ⟨_, PSs.nox (pss_one (ps_ret (pe_makeD D_Tree_init hr (by decide) (by rfl) (pa_cons (pe_callB call_len_seq (by rfl) T.b_len bt_len (pa_cons (pe_dget (room1 hr) (pv 0) pe_str (fun _ _ => rfl)) pa_nil)) (pa_cons (pe_callTy call_list_of (by rfl) T.b_list bt_list (pa_cons (pv 1) pa_nil)) pa_nil))))), ?_⟩
    exact s_retG (mk_Tree (ev_is (ev_len hl (sq_of hlst)) (by rw [vi_len])) (el_listS (ev_var rfl) (.inl (sq_of hr'))) v) k
def sp_law_greater (K : PySem.W.Frag) (CS CT : Addr) : Sp := fun vs H Q _ => ∃ (r : Addr) (n : Nat) (t : List Nat), vs = [.ref r, .int (n : Int)] ∧ H r = some (.lst (vi t)) ∧ 1 ≤ n ∧ 2 * n + 1 ≤ t.length ∧ RetV (.int (M.gr t n : Int)) H Q
theorem ok_law_greater  {f : Addr} {fd : FuncData} (F : FnP K "_law_greater" "_law_greater" d_law_greater [] [] f fd) (T : Tx K mg CS CT pgs) : FnOk P w K mg base CX0 1 f fd ["_law_row", "_law_node"] (sp_law_greater K CS CT) := by
  refine F.ok sc_law_greater (fun vs H Q E h => ?_) (fun cdv A outer s H vs Q E hr h => ?_)
  · obtain ⟨r, n, t, rfl, _⟩ := h
    rfl
  · obtain ⟨r, n, t, rfl, hr', h1, h2, k⟩ := h
    refine ⟨_, PSs.nox (pss_one (ps_ret (pe_callB (call_max2 (by rfl)) (by rfl) T.b_max bt_max (pa_cons (pe_callTy call_int1 (by rfl) T.b_int bt_int (pa_cons (pe_ix ix_list (pv 0) (pe_op op_sub (pe_op op_mul pe_int (pv 1)) pe_int) (fun _ _ => rfl)) pa_nil)) (pa_cons (pe_callTy call_int1 (by rfl) T.b_int bt_int (pa_cons (pe_ix ix_list (pv 0) (pe_op op_mul pe_int (pv 1)) (fun _ _ => rfl)) pa_nil)) pa_nil))))), ?_⟩
    refine s_ret (ev_is (ev_max2 (ev_int1 (ev_op (ev_var rfl) (ev_op (ev_op ev_c (ev_var rfl) (rv_I (.inl ⟨by decide, by decide⟩))) ev_c rv_I0) (rv_ixL (sq_of hr') (vi_tg (n := 2 * n) (by omega) (by omega) (by omega)))))
      (ev_int1 (ev_op (ev_var rfl) (ev_op ev_c (ev_var rfl) (rv_I (.inl ⟨by decide, by decide⟩))) (rv_ixL (sq_of hr') (vi_tg (n := 2 * n + 1) (by omega) (by omega) (by omega)))))) ?_) k
    unfold M.gr
    congr 1
    split <;> omega
theorem ev_law_greater {σ : L2.St} {H : Hp} {tr tn : TE} {r : Addr} {n : Nat} {t : List Nat} (h : Ev tr σ H (.ref r)) (hr : H r = some (.lst (vi t))) (hn : Ev tn σ H (.int (n : Int))) (h1 : 1 ≤ n) (h2 : 2 * n + 1 ≤ t.length) : Ev (tCall (sp_law_greater K CS CT) [] E0 (tCons tr (tCons tn tNil))) σ H (.int (M.gr t n : Int)) :=
  ev_call (ea_cons h (ea_cons hn ea_nil)) fun H1 e1 Q q E => ⟨r, n, t, rfl, e1 _ _ hr, h1, h2, q⟩
theorem vi_setI (t : List Nat) (j v : Nat) : (vi t).set j (.int (v : Int)) = vi (t.set j v) := by
  unfold vi
  rw [List.map_set]
/-- a list of the same length, none above c -/
def RetRw (L c : Nat) (H : Hp) (Q : VK) : Prop := ∀ p H2 t, H p = none → Ex H H2 → H2 p = some (.lst (vi t)) → t.length = L → M.AllLe c t → Q (.ref p) H2
def sp_law_mended (K : PySem.W.Frag) (CS CT : Addr) : Sp := fun vs H Q _ => ∃ (r : Addr) (c : Nat) (t : List Nat), vs = [.ref r] ∧ H r = some (.lst (vi t)) ∧ t.length ≤ 63 ∧ M.AllLe c t ∧ RetRw t.length c H Q
theorem ok_law_mended (D_law_greater : Dn P w K mg base 1 "_law_greater" ["_law_row", "_law_node"] [] (sp_law_greater K CS CT)) {f : Addr} {fd : FuncData} (F : FnP K "_law_mended" "_law_mended" d_law_mended [] [] f fd) (T : Tx K mg CS CT pgs) : FnOk P w K mg base CX0 2 f fd ["_law_row"] (sp_law_mended K CS CT) := by
  refine F.ok sc_law_mended (fun vs H Q E h => ?_) (fun cdv A outer s H vs Q E hr h => ?_)
  · obtain ⟨r, c, t, rfl, _⟩ := h
    rfl
  · obtain ⟨r, c, t, rfl, hr', hl, hc, k⟩ := h
    refine ⟨_, PSs.nox (pss_cons (ps_set (i := 1) sc_law_mended.nd rfl (.inl rfl) (pe_callTy call_list_of (by rfl) T.b_list bt_list (pa_cons (pv 0) pa_nil)))
    (pss_cons (ps_for PassesOwn.never rfl (pi_list (pe_listRg3 (by rfl) (by rfl) T.b_list (by rfl) T.b_range (pa_cons (pe_op op_sub (pe_op op_fdiv (pe_op op_add (pe_callB call_len_seq (by rfl) T.b_len bt_len (pa_cons (pv 0) pa_nil)) pe_int) pe_int) pe_int) (pa_cons pe_int (pa_cons (pe_un un_neg pe_int) pa_nil))))) (pg_name (i := 2) sc_law_mended.nd rfl (.inl rfl)) (pss_one (ps_asg (pe_callD D_law_greater hr (by decide) (by rfl) (pa_cons (pv 1) (pa_cons (pv 2) pa_nil))) (pg_sub (pv 1) (pe_op op_sub (pv 2) pe_int) set_list))))
    (pss_one (ps_ret (pv 1))))), ?_⟩
    refine q_asgL (el_listS (ev_var rfl) (.inl (sq_of hr'))) fun p H1 hp e1 h1 => ?_
    have hn : ((((vi t).length : Int) + 1) / 2 - 1 - 0).toNat = (t.length + 1) / 2 - 1 := by rw [vi_len]; omega
    have lst : EvL (tLstRg3 (tCons (tOp (rI0 fun i j => .int (i - j)) (tOp (rI CDiv fun i j => .int (i / j)) (tOp (rI0 fun i j => .int (i + j)) (tCB (rLenS K) (tCons (tVar 0) tNil)) (tC (.int 1))) (tC (.int 2))) (tC (.int 1))) (tCons (tC (.int 0)) (tCons (tUn (rU fun i => .int (-i)) (tC (.int 1))) tNil)))) [some (.ref r), some (.ref p), none] H1
        ((List.range ((t.length + 1) / 2 - 1)).map fun (j : Nat) => V.int (((((vi t).length : Int) + 1) / 2 - 1) + (j : Int) * (-1))) := fun H2 e2 Q q =>
      (ea_cons (ev_op (ev_op (ev_op (ev_len (ev_var rfl) (sq_of (e1 _ _ hr'))) ev_c rv_I0) ev_c (rv_I ⟨by decide, by decide⟩)) ev_c rv_I0) (ea_cons ev_c (ea_cons (ev_un ev_c ru_neg) ea_nil))) H2 e2 _ fun H3 e3 =>
        ⟨_, _, _, _, rfl, RgC.neg (by rw [vi_len]; omega) (by rw [vi_len]; omega) (by decide) (by decide), by rw [vi_len]; omega, fun s hs => q s _ (fresh_back e3 hs) (e3.trans (Ex.new hs)) (by rw [hn]; exact upd_same)⟩
    refine q_forNLn lst (fun s i σ' H' => ∃ y t', σ' = [some (.ref r), some (.ref p), y] ∧ Ex H H' ∧ s ≠ p ∧ H' s = some (.lst ((List.range ((t.length + 1) / 2 - 1)).map fun (j : Nat) => V.int (((((vi t).length : Int) + 1) / 2 - 1) + (j : Int) * (-1)))) ∧ H' p = some (.lst (vi t')) ∧ t'.length = t.length ∧ M.AllLe c t')
      (fun s H2 hs e2 h2 => ⟨none, t, rfl, e1.trans e2, (ne_of_none h1 hs).symm, h2, e2 _ _ h1, rfl, hc⟩) (fun s i σ' H' _ hP => by obtain ⟨_, _, _, _, _, h, _⟩ := hP; exact sq_of h) (fun s i x σ' H' hi hP => ?_) fun s σ' H' hP => ?_
    · obtain ⟨y, t', rfl, eH, hsp, hs, hp', hl', hc'⟩ := hP
      have hi' : i < (t.length + 1) / 2 - 1 := by
        have := (List.getElem?_eq_some_iff.mp hi).1
        simpa using this
      have hx : x = .int ((((t.length + 1) / 2 - 1 - i : Nat)) : Int) := by
        rw [List.getElem?_map, List.getElem?_range hi'] at hi
        rw [← Option.some.inj hi]
        have e9 := vi_len t
        refine congrArg V.int ?_
        show (((vi t).length : Int) + 1) / 2 - 1 + (i : Int) * (-1) = _
        omega
      subst hx
      refine s_setL (j := (t.length + 1) / 2 - 1 - i - 1) hp' (ev_law_greater (ev_var rfl) hp' (ev_var rfl) (by omega) (by omega)) (ev_var rfl) (ev_is (ev_op (ev_var rfl) ev_c rv_I0) (by congr 1; omega)) (by rw [vi_len]; omega) fun H2 e2 => ?_
      refine ⟨_, M.st t' ((t.length + 1) / 2 - 1 - i) (M.gr t' ((t.length + 1) / 2 - 1 - i)), rfl, Ex.mut (eH.trans e2) hp, hsp, ?_, ?_, ?_, ?_⟩
      · rw [upd_ne hsp]; exact e2 _ _ hs
      · rw [upd_same, vi_setI]
        rfl
      · rw [M.len_st]; exact hl'
      · exact hc'.st (hc'.gr _)
    · obtain ⟨y, t', rfl, eH, hsp, hs, hp', hl', hc'⟩ := hP
      exact s_ret (ev_var rfl) fun H2 e2 => k p H2 t' hp (eH.trans e2) (e2 _ _ hp') hl' hc'
def sp_law_exact (K : PySem.W.Frag) (CS CT : Addr) : Sp := fun vs H Q _ => ∃ (d r : Addr) (m pg : Nat) (b rs : List Nat), vs = [.ref d, .ref r] ∧ PlanE H d m b ∧ H r = some (.lst (vi rs)) ∧ rs.length = pg ∧ 2 ≤ pg ∧ pg ≤ 32 ∧ RetRw (2 * pg - 1) b.length H Q
theorem ok_law_exact (D_law_class : Dn P w K mg base 1 "_law_class" ["_law_plan", "_law_room"] [] (sp_law_class K CS CT)) (D_law_mended : Dn P w K mg base 2 "_law_mended" ["_law_row"] [] (sp_law_mended K CS CT)) {f : Addr} {fd : FuncData} (F : FnP K "_law_exact" "_law_exact" d_law_exact [] [] f fd) (T : Tx K mg CS CT pgs) : FnOk P w K mg base CX0 3 f fd ["_law_plan", "_law_rooms_here"] (sp_law_exact K CS CT) := by
  refine F.ok sc_law_exact (fun vs H Q E h => ?_) (fun cdv A outer s H vs Q E hr h => ?_)
  · obtain ⟨d, r, m, pg, b, rs, rfl, _⟩ := h
    rfl
  · obtain ⟨d, r, m, pg, b, rs, rfl, hp, hr', hl, h2, h32, k⟩ := h
    refine ⟨_, PSs.nox (pss_cons (ps_set (i := 2) sc_law_exact.nd rfl (.inl rfl) (pe_op op_cat (pe_op op_rep (pe_lst (pa_cons pe_int pa_nil)) (pe_op op_sub (pe_callB call_len_seq (by rfl) T.b_len bt_len (pa_cons (pv 1) pa_nil)) pe_int)) (pe_lc (te := (tCall (sp_law_class K CS CT) [] E0 (tCons (tVar 0) (tCons (tVar 3) tNil)))) (tt := tYes) (own := [("_law_room", 3)]) rfl sc_law_exact.nd (pi_list (pv 1)) (blkOk_by (own := [("_law_room", 3)]) (N := ["_law_plan", "_law_rooms_here", "_law_out", "_law_room"]) (sc := defScope d_law_exact) (by decide +kernel)) (fun _ _ _ _ _ => (pg_name (i := 3) sc_law_exact.nd rfl (.inl rfl) (.inr rfl))) (fun _ _ _ _ _ => pts_nil) (fun _ _ _ _ _ => (pe_callD D_law_class hr (by decide) (by rfl) (pa_cons (pv 0) (pa_cons (pv 3) pa_nil)))))))
    (pss_one (ps_ret (pe_callD D_law_mended hr (by decide) (by rfl) (pa_cons (pv 2) pa_nil))))), ?_⟩
    have e0 : (List.replicate (pg - 1) [V.int 0]).flatten ++ given rs.length (fun _ => true) (fun i => .int (M.clsOf b (rs.getD i 0) : Int)) = vi (List.replicate (pg - 1) 0 ++ rs.map (M.clsOf b)) := by
      rw [vi_append, given_all fun _ _ => rfl]
      congr 1
      · induction (pg - 1) with
        | zero => rfl
        | succ n ih => rw [List.replicate_succ, List.flatten_cons, ih]; rfl
      · refine List.ext_getElem (by simp [vi_len]) fun i h1 h2 => ?_
        have h3 : i < rs.length := by simpa using h1
        simp only [List.getElem_map, List.getElem_range, vi]
        rw [getD_at h3]
    refine q_asgL (el_is (ys := vi (List.replicate (pg - 1) 0 ++ rs.map (M.clsOf b))) (el_catNN (el_repN (k := pg - 1) (el_lst (ea_cons (x := .int 0) ev_c ea_nil) (by simp)) (ev_is (ev_op (ev_len (ev_var rfl) (sq_of hr')) ev_c rv_I0) (by rw [vi_len, hl, show ((pg : Int) - 1) = ((pg - 1 : Nat) : Int) by omega])) (by omega) (by simp))
      (el_lcL (fun _ => true) (fun i => .int (M.clsOf b (rs.getD i 0) : Int)) (ev_var rfl) (sq_of hr') (by rw [vi_len]; omega) (fun _ => rfl) (fun _ _ _ _ _ => ev_yes) fun i x H1 e1 hi _ => ?_) ?_) (by rw [vi_len]; exact e0)) fun p H1 hp1 e1 h1 => ?_
    · obtain ⟨h3, rfl⟩ := vi_some hi
      exact ev_law_class (ev_var rfl) (hp.ex e1) (ev_var rfl)
    · have a1 := given_len (vi rs).length (fun _ => true) (fun i => V.int (M.clsOf b (rs.getD i 0) : Int))
      rw [vi_len] at a1
      have a2 : (List.replicate (pg - 1) [V.int 0]).flatten.length = pg - 1 := by simp
      rw [a2]
      rw [vi_len]
      omega
    · have hlen : (List.replicate (pg - 1) 0 ++ rs.map (M.clsOf b)).length = 2 * pg - 1 := by
        rw [List.length_append, List.length_replicate, List.length_map, hl]
        omega
      have hle : M.AllLe b.length (List.replicate (pg - 1) 0 ++ rs.map (M.clsOf b)) := fun x hx => by
        rcases List.mem_append.mp hx with h | h
        · rw [List.eq_of_mem_replicate h]; exact Nat.zero_le _
        · obtain ⟨y, _, rfl⟩ := List.mem_map.mp h
          exact M.clsOf_le b y
      refine s_retG (R := fun v H2 => ∃ p t, v = .ref p ∧ H1 p = none ∧ H2 p = some (.lst (vi t)) ∧ t.length = 2 * pg - 1 ∧ M.AllLe b.length t) (gv_call (ea_cons (ev_var rfl) ea_nil) fun H2 e2 Q q E => ⟨p, b.length, _, rfl, e2 _ _ h1, by rw [hlen]; omega, hle, fun s H3 t hs e3 h3 hl3 hc3 => q _ H3 e3 ⟨s, t, rfl, fresh_back e2 hs, h3, by rw [hl3, hlen], hc3⟩⟩) fun v H2 e2 hv => ?_
      obtain ⟨s, t, rfl, hs, h3, hl3, hc3⟩ := hv
      exact k s H2 t (fresh_back e1 hs) (e1.trans e2) h3 hl3 hc3
end
end Rt
end
section
/-! The law's lowering, put, down, falls, play. Printed by gen_rules.py from RtI.src. -/
namespace Rt
open PySem PySem.Spec PyProof.Rows L2 Evl GenW
section
variable {K : PySem.W.Frag} {σ : L2.St} {H H' : Hp} {t1 t2 t3 te : TE} {v x y z : V} {xs ys : List V} {D : Ends} {tz : TS} {i j l : Nat}
theorem q_parLU (h1 : EvL t1 σ H xs) (h2 : EvU t2 σ H ys) (k : ∀ p q u H1, H p = none → H q = none → p ≠ q → Ex H H1 → H1 p = some (.lst xs) → H1 q = some (.lst [.ref u]) → H1 u = some (.tup ys) → tz D ((σ.set i (some (.ref p))).set j (some (.ref q))) H1) :
    tSeq (tPar i j (tCons t1 (tCons (tLst (tCons t2 tNil)) tNil))) tz D σ H :=
  h1 H (Ex.refl H) _ fun p H1 hp e1 hx => h2 H1 e1 _ fun u H2 hu e2 hy => ⟨by show 1 ≤ sizeLine; decide, fun q hq => by
    have hq1 : H1 q = none := fresh_back e2 hq
    exact ⟨_, _, rfl, k p q u _ hp (fresh_back e1 hq1) (ne_of_none hx hq1) ((e1.trans e2).trans (Ex.new hq)) ((Ex.new hq) _ _ (e2 _ _ hx)) upd_same ((Ex.new hq) _ _ hy)⟩⟩
/-- a, b, c = [], [], 1 -/
theorem q_par3LL {n : Int} (k : ∀ p q H1, H p = none → H q = none → p ≠ q → Ex H H1 → H1 p = some (.lst []) → H1 q = some (.lst []) → tz D (((σ.set i (some (.ref p))).set j (some (.ref q))).set l (some (.int n))) H1) :
    tSeq (tPar3 i j l (tCons (tLst tNil) (tCons (tLst tNil) (tCons (tC (.int n)) tNil)))) tz D σ H :=
  ⟨by show 0 ≤ sizeLine; decide, fun p hp => ⟨by show 0 ≤ sizeLine; decide, fun q hq => by
    have hqp : p ≠ q := ne_of_none (upd_same (H := H) (o := .lst [])) hq
    have hq0 : H q = none := fresh_back (Ex.new hp) hq
    exact ⟨_, _, _, rfl, k p q _ hp hq0 hqp ((Ex.new hp).trans (Ex.new hq)) ((Ex.new hq) _ _ upd_same) upd_same⟩⟩⟩
/-- a, b, c = v, w, a new list -/
theorem q_par3VVL (h1 : Ev t1 σ H x) (h2 : Ev t2 σ H y) (h3 : EvL t3 σ H xs) (k : ∀ p H1, H p = none → Ex H H1 → H1 p = some (.lst xs) → tz D (((σ.set i (some x)).set j (some y)).set l (some (.ref p))) H1) :
    tSeq (tPar3 i j l (tCons t1 (tCons t2 (tCons t3 tNil)))) tz D σ H :=
  h1 H (Ex.refl H) _ fun H1 e1 => h2 H1 e1 _ fun H2 e2 => h3 H2 (e1.trans e2) _ fun p H3 hp e3 hx => ⟨_, _, _, rfl, k p H3 (fresh_back (e1.trans e2) hp) ((e1.trans e2).trans e3) hx⟩
end
theorem PairsL.upd2 {xs ys : List V} {H : Hp} {p : Addr} {o : HO} {ws : List (Nat × Nat)} (h : PairsL xs H ws) (hp : H p = some (.lst ys)) : PairsL xs (upd H p o) ws := h.updL hp
theorem RowAt.updN {H : Hp} {p r : Addr} {ys : List V} {o : HO} {ws : List (Nat × Nat)} (h : RowAt H r ws) (hp : H p = some (.lst ys)) (ne : r ≠ p) : RowAt (upd H p o) r ws := by
  obtain ⟨xs, h1, h2⟩ := h
  exact ⟨xs, by rw [upd_ne ne]; exact h1, h2.updL hp⟩

section
variable {P : Program} {w : World} {K : PySem.W.Frag} {mg : Str → Option Value} {base : Heap} {CS CT pgs : Addr}
def sp_law_lowered (K : PySem.W.Frag) (CS CT : Addr) : Sp := fun vs H Q _ => ∃ (r : Addr) (c pg n x : Nat) (t : List Nat), vs = [.ref r, .int (n : Int), .int (x : Int)] ∧ H r = some (.lst (vi t)) ∧ M.VT c pg t ∧ 1 ≤ n ∧ n < 2 * pg ∧ x ≤ c ∧ RetRow (M.low t n x) H Q
theorem ok_law_lowered (D_law_greater : Dn P w K mg base 1 "_law_greater" ["_law_row", "_law_node"] [] (sp_law_greater K CS CT)) {f : Addr} {fd : FuncData} (F : FnP K "_law_lowered" "_law_lowered" d_law_lowered [] [] f fd) (T : Tx K mg CS CT pgs) : FnOk P w K mg base CX0 2 f fd ["_law_row", "_law_node", "_law_told_here"] (sp_law_lowered K CS CT) := by
  refine F.ok sc_law_lowered (fun vs H Q E h => ?_) (fun cdv A outer s H vs Q E hr h => ?_)
  · obtain ⟨r, c, pg, n, x, t, rfl, _⟩ := h
    rfl
  · obtain ⟨r, c, pg, n, x, t, rfl, hr', hV, n1, n2, hx, k⟩ := h
    have hlen := hV.len
    have h32 := hV.P32
    refine ⟨_, PSs.nox (pss_cons (ps_if (pt_cmpR op_ge (pv 2) (pe_ix ix_list (pv 0) (pe_op op_sub (pv 1) pe_int) (fun _ _ => rfl)) (nomark _)) (pss_one (ps_ret (pe_lst pa_nil))) pss_nil)
    (pss_cons (ps_par (i := 3) (j := 4) rfl sc_law_lowered.nd rfl rfl (by decide) rfl rfl (pa_cons (pe_callTy call_list_of (by rfl) T.b_list bt_list (pa_cons (pv 0) pa_nil)) (pa_cons (pe_lst (pa_cons (pe_tup (pa_cons (pv 1) (pa_cons (pv 2) pa_nil))) pa_nil)) pa_nil)) (by rfl))
    (pss_cons (ps_asg (pv 2) (pg_sub (pv 3) (pe_op op_sub (pv 1) pe_int) set_list))
    (pss_cons (ps_for PassesOwn.never rfl (pi_range1 (by rfl) T.b_range (pa_cons pe_int pa_nil)) (pg_name (i := 5) sc_law_lowered.nd rfl (.inl rfl)) (pss_cons (ps_set (i := 1) sc_law_lowered.nd rfl (.inl rfl) (pe_op op_fdiv (pv 1) pe_int))
    (pss_one (ps_if (PW.pt (pw_and (pt_cmpR op_gt (pv 1) pe_int (nomark _)) (pw_and1 (pt_cmpR op_gt (pe_ix ix_list (pv 3) (pe_op op_sub (pv 1) pe_int) (fun _ _ => rfl)) (pe_callD D_law_greater hr (by decide) (by rfl) (pa_cons (pv 3) (pa_cons (pv 1) pa_nil))) (nomark _))))) (pss_cons (ps_asg (pe_callD D_law_greater hr (by decide) (by rfl) (pa_cons (pv 3) (pa_cons (pv 1) pa_nil))) (pg_sub (pv 3) (pe_op op_sub (pv 1) pe_int) set_list))
    (pss_one (ps_expr (pe_bm PySem.F.plainAttrs_list PySem.F.slot_list_append PySem.F.type_list_append mt_append (pv 4) (pa_cons (pe_tup (pa_cons (pv 1) (pa_cons (pe_ix ix_list (pv 3) (pe_op op_sub (pv 1) pe_int) (fun _ _ => rfl)) pa_nil))) pa_nil))))) pss_nil))))
    (pss_one (ps_ret (pv 4))))))), ?_⟩
    refine q_when (b := decide (M.tg t n ≤ x)) (et_is (et_test (ev_op (ev_var rfl) (ev_op (ev_var rfl) (ev_op (ev_var rfl) ev_c rv_I0) (rv_ixL (sq_of hr') (vi_tg n1 (by omega) rfl))) rv_I0)) (by simp)) (fun z H1 e1 => ?_) fun z H1 e1 => ?_
    · have hl : M.low t n x = [] := by unfold M.low; rw [if_pos (of_decide_eq_true z)]
      rw [hl] at k
      exact s_retL (el_lst ea_nil (by simp)) fun p H6 hp e6 h6 => k p H6 (fresh_back e1 hp) (e1.trans e6) ⟨_, h6, .nil⟩
    · have hlow : M.low t n x = (n, x) :: M.ups (M.st t n x) (n / 2) := by unfold M.low; rw [if_neg (of_decide_eq_false z)]
      refine q_parLU (el_listS (ev_var rfl) (.inl (sq_of (e1 _ _ hr')))) (eu_tup (ea_cons (x := .int (n : Int)) (ev_var rfl) (ea_cons (x := .int (x : Int)) (ev_var rfl) ea_nil)) (by simp)) fun p q u H2 hp hq npq e2 h2 h2q h2u => ?_
      have e12 := e1.trans e2
      have hpn : H p = none := fresh_back e1 hp
      have hqn : H q = none := fresh_back e1 hq
      refine q_setL (j := n - 1) h2 (v := .int (x : Int)) (ev_var rfl) (ev_var rfl) (ev_is (ev_op (ev_var rfl) ev_c rv_I0) (congrArg V.int (by omega))) (by rw [vi_len]; omega) fun H3 e3 => ?_
      have hq3 : (upd H3 p (.lst ((vi t).set (n - 1) (.int (x : Int))))) q = some (.lst [.ref u]) := by rw [upd_ne npq.symm]; exact e3 _ _ h2q
      have hu3 : PairsL [.ref u] (upd H3 p (.lst ((vi t).set (n - 1) (.int (x : Int))))) [(n, x)] := (PairsL.one (e3 _ _ h2u)).updL (e3 _ _ h2)
      refine q_forR1 (n := 6) (ea_cons ev_c ea_nil) (by omega) (fun i σ' H' => ∃ (m : Nat) (t' : List Nat) (done : List (Nat × Nat)) (y : Option V), σ' = [some (.ref r), some (.int (m : Int)), some (.int (x : Int)), some (.ref p), some (.ref q), y] ∧ Ex H H' ∧ m * 2 ^ i ≤ 63 ∧ m < 2 * pg ∧ H' p = some (.lst (vi t')) ∧ M.VT c pg t' ∧ RowAt H' q done ∧ done.length ≤ i + 1 ∧ done ++ M.ups t' (m / 2) = M.low t n x)
        (fun H4 e4 => ⟨n, M.st t n x, [(n, x)], none, rfl, (Ex.mut (e12.trans e3) hpn).trans e4, by simp; omega, n2, e4 _ _ (by rw [upd_same, vi_setI]; rfl), hV.st hx, RowAt.ex ⟨_, hq3, hu3⟩ e4, by simp, hlow.symm⟩) (fun i σ' H' hi hP => ?_) fun σ' H' hP => ?_
      · obtain ⟨m, t', done, y, rfl, eH, hm6, hmp, hp', hV', hR, hdl, hd⟩ := hP
        have hl' := hV'.len
        refine q_asg (v := .int ((m / 2 : Nat) : Int)) (ev_is (ev_op (ev_var rfl) ev_c (rv_I ⟨by decide, by decide⟩)) (by simp)) fun H4 e4 => ?_
        have hm7 : m / 2 * 2 ^ (i + 1) ≤ 63 := by
          have : m / 2 * 2 ^ (i + 1) = (m / 2 * 2) * 2 ^ i := by rw [Nat.pow_succ, Nat.mul_assoc, Nat.mul_comm 2]
          rw [this]
          exact Nat.le_trans (Nat.mul_le_mul_right _ (by omega)) hm6
        have eH4 := eH.trans e4
        have hp4 := e4 _ _ hp'
        have test : EvT (tAnd (tTest (tOp (rI0 fun i j => .bl (decide (j < i))) (tVar 1) (tC (.int 0)))) (tTest (tOp (rI0 fun i j => .bl (decide (j < i))) (tOp (rIxL K) (tVar 3) (tOp (rI0 fun i j => .int (i - j)) (tVar 1) (tC (.int 1)))) (tCall (sp_law_greater K CS CT) [] E0 (tCons (tVar 3) (tCons (tVar 1) tNil)))))) [some (.ref r), some (.int ((m / 2 : Nat) : Int)), some (.int (x : Int)), some (.ref p), some (.ref q), some (.int (i : Int))] H4 (decide (0 < m / 2) && decide (M.gr t' (m / 2) < M.tg t' (m / 2))) :=
          et_and (et_is (et_test (ev_op (ev_var rfl) ev_c rv_I0)) (by simp; omega)) fun ha => by
            have ha' : 0 < m / 2 := of_decide_eq_true ha
            exact et_is (et_test (ev_op (ev_op (ev_var rfl) (ev_op (ev_var rfl) ev_c rv_I0) (rv_ixL (sq_of hp4) (vi_tg (n := m / 2) ha' (by omega) rfl))) (ev_law_greater (ev_var rfl) hp4 (ev_var rfl) ha' (by omega)) rv_I0)) (by simp)
        refine s_when test (fun z H5 e5 => ?_) fun z H5 e5 => ?_
        · obtain ⟨z1, z2⟩ := Bool.and_eq_true_iff.mp z
          have g1 : 0 < m / 2 := of_decide_eq_true z1
          have g2 : M.gr t' (m / 2) < M.tg t' (m / 2) := of_decide_eq_true z2
          have hp5 := e5 _ _ hp4
          refine q_setL (j := m / 2 - 1) hp5 (ev_law_greater (ev_var rfl) hp5 (ev_var rfl) g1 (by omega)) (ev_var rfl) (ev_is (ev_op (ev_var rfl) ev_c rv_I0) (congrArg V.int (by omega))) (by rw [vi_len]; omega) fun H6 e6 => ?_
          have eH6 := Ex.mut (o := .lst ((vi t').set (m / 2 - 1) (.int (M.gr t' (m / 2) : Int)))) ((eH4.trans e5).trans e6) hpn
          have hp6 : (upd H6 p (.lst ((vi t').set (m / 2 - 1) (.int (M.gr t' (m / 2) : Int))))) p = some (.lst (vi (M.st t' (m / 2) (M.gr t' (m / 2))))) := by rw [upd_same, vi_setI]; rfl
          have hR6 : RowAt (upd H6 p (.lst ((vi t').set (m / 2 - 1) (.int (M.gr t' (m / 2) : Int))))) q done := (hR.ex ((e4.trans e5).trans e6)).updN (e6 _ _ hp5) npq.symm
          obtain ⟨xs, hq6, hP6⟩ := hR6
          refine s_appU hq6 (ev_var rfl) (eu_tup (ea_cons (x := .int ((m / 2 : Nat) : Int)) (ev_var rfl) (ea_cons (ev_op (ev_var rfl) (ev_op (ev_var rfl) ev_c rv_I0) (rv_ixL (sq_of hp6) (vi_tg (n := m / 2) g1 (by rw [M.len_st]; omega) rfl))) ea_nil)) (by simp)) (by rw [hP6.len]; omega) fun u2 H7 hu2 e7 h7 => ?_
          rw [M.tg_same g1 (by omega)] at h7
          have hq7 := e7 _ _ hq6
          refine ⟨m / 2, M.st t' (m / 2) (M.gr t' (m / 2)), done ++ [(m / 2, M.gr t' (m / 2))], _, rfl, Ex.mut (eH6.trans e7) hqn, hm7, by omega, by rw [upd_ne npq]; exact e7 _ _ hp6, hV'.st (hV'.le.gr _), ⟨_, upd_same, ((hP6.ex e7).append (.one h7)).updL hq7⟩, by simp; omega, ?_⟩
          rw [← hd, M.ups_yes g1 g2, List.append_assoc]
          rfl
        · have eH5 := eH4.trans e5
          refine ⟨m / 2, t', done, _, rfl, eH5, hm7, by omega, e5 _ _ hp4, hV', hR.ex (e4.trans e5), by omega, ?_⟩
          rw [← hd]
          by_cases g1 : 0 < m / 2
          · have g2 : ¬ M.gr t' (m / 2) < M.tg t' (m / 2) := fun h => by simp [g1, h] at z
            rw [M.ups_no g1 g2]
          · have e0 : m / 2 = 0 := by omega
            rw [e0, M.ups_zero]
      · obtain ⟨m, t', done, y, rfl, eH, hm6, hmp, hp', hV', hR, hdl, hd⟩ := hP
        have hm0 : m = 0 := by
          have : m * 64 ≤ 63 := hm6
          omega
        subst hm0
        rw [show 0 / 2 = 0 from rfl, M.ups_zero, List.append_nil] at hd
        subst hd
        exact s_ret (ev_var rfl) fun H4 e4 => k q H4 hqn (eH.trans e4) (hR.ex e4)
def sp_law_put (K : PySem.W.Frag) (CS CT : Addr) : Sp := fun vs H Q _ => ∃ (r s : Addr) (c : Nat) (t : List Nat) (ws : List (Nat × Nat)), vs = [.ref r, .ref s] ∧ H r = some (.lst (vi t)) ∧ RowAt H s ws ∧ M.OkW t.length c ws ∧ RetL (vi (M.wr t ws)) H Q
theorem ok_law_put  {f : Addr} {fd : FuncData} (F : FnP K "_law_put" "_law_put" d_law_put [] [] f fd) (T : Tx K mg CS CT pgs) : FnOk P w K mg base CX0 1 f fd ["_law_row", "_law_some"] (sp_law_put K CS CT) := by
  refine F.ok sc_law_put (fun vs H Q E h => ?_) (fun cdv A outer s H vs Q E hr h => ?_)
  · obtain ⟨r, s, c, t, ws, rfl, _⟩ := h
    rfl
  · obtain ⟨r, s', c, t, ws, rfl, hr', ⟨xs, hs, hx⟩, hok, k⟩ := h
    refine ⟨_, PSs.nox (pss_cons (ps_set (i := 2) sc_law_put.nd rfl (.inl rfl) (pe_callTy call_list_of (by rfl) T.b_list bt_list (pa_cons (pv 0) pa_nil)))
    (pss_cons (ps_for PassesOwn.never rfl (pi_list (pv 1)) (pg_tup rfl (pgs_cons (pg_name (i := 3) sc_law_put.nd rfl (.inl rfl)) (pgs_cons (pg_name (i := 4) sc_law_put.nd rfl (.inl rfl)) pgs_nil))) (pss_one (ps_asg (pv 4) (pg_sub (pv 2) (pe_op op_sub (pv 3) pe_int) set_list))))
    (pss_one (ps_ret (pv 2))))), ?_⟩
    refine q_asgL (el_listS (ev_var rfl) (.inl (sq_of hr'))) fun p H1 hp e1 h1 => ?_
    have nsp : s' ≠ p := ne_of_none hs hp
    refine q_forL (xs := xs) (ev_var rfl) (sq_of (e1 _ _ hs)) (fun i σ' H' => ∃ y z, σ' = [some (.ref r), some (.ref s'), some (.ref p), y, z] ∧ Ex H H' ∧ H' p = some (.lst (vi (M.wr t (ws.take i))))) (fun H2 e2 => ⟨none, none, rfl, e1.trans e2, e2 _ _ h1⟩) (fun i σ' H' _ hP => by obtain ⟨_, _, _, e, _⟩ := hP; exact sq_of (e _ _ hs)) (fun i x σ' H' hi hP => ?_) fun σ' H' hP => ?_
    · obtain ⟨y, z, rfl, eH, hp'⟩ := hP
      obtain ⟨q, wq, rfl, hw, hq⟩ := hx.get hi
      obtain ⟨g1, g2, g3⟩ := hok _ (List.mem_of_getElem? hw)
      refine ⟨q, _, rfl, st_of (eH _ _ hq), rfl, _, _, rfl, _, _, rfl, rfl, ?_⟩
      refine s_setL (j := wq.1 - 1) hp' (v := .int (wq.2 : Int)) (ev_var rfl) (ev_var rfl) (ev_is (ev_op (ev_var rfl) ev_c rv_I0) (congrArg V.int (by omega))) (by rw [vi_len, M.len_wr]; omega) fun H2 e2 => ?_
      exact ⟨_, _, rfl, Ex.mut (eH.trans e2) hp, by rw [upd_same, vi_setI, wr_take hw]; rfl⟩
    · obtain ⟨y, z, rfl, eH, hp'⟩ := hP
      rw [hx.len, List.take_length] at hp'
      exact s_ret (ev_var rfl) fun H2 e2 => k p H2 hp (eH.trans e2) (e2 _ _ hp')
def sp_law_falls (K : PySem.W.Frag) (CS CT : Addr) : Sp := fun vs H Q _ => ∃ (r s : Addr) (c : Nat) (t : List Nat) (ws : List (Nat × Nat)), vs = [.ref r, .ref s] ∧ H r = some (.lst (vi t)) ∧ RowAt H s ws ∧ M.OkW t.length c ws ∧ M.falls t ws ∧ RetV (.bl true) H Q
theorem falls_at : ∀ {ws : List (Nat × Nat)} {t : List Nat} {i : Nat} {q : Nat × Nat}, M.falls t ws → ws[i]? = some q → q.2 < M.tg (M.wr t (ws.take i)) q.1
  | [], _, _, _, _, h => by simp at h
  | p :: ws, t, 0, q, hf, h => by
    have : p = q := Option.some.inj h
    subst this
    exact hf.1
  | p :: ws, t, i + 1, q, hf, h => falls_at (ws := ws) hf.2 h
theorem ok_law_falls  {f : Addr} {fd : FuncData} (F : FnP K "_law_falls" "_law_falls" d_law_falls [] [] f fd) (T : Tx K mg CS CT pgs) : FnOk P w K mg base CX0 1 f fd ["_law_row", "_law_some"] (sp_law_falls K CS CT) := by
  refine F.ok sc_law_falls (fun vs H Q E h => ?_) (fun cdv A outer s H vs Q E hr h => ?_)
  · obtain ⟨r, s, c, t, ws, rfl, _⟩ := h
    rfl
  · obtain ⟨r, s', c, t, ws, rfl, hr', ⟨xs, hs, hx⟩, hok, hf, k⟩ := h
    refine ⟨_, PSs.nox (pss_cons (ps_set (i := 2) sc_law_falls.nd rfl (.inl rfl) (pe_callTy call_list_of (by rfl) T.b_list bt_list (pa_cons (pv 0) pa_nil)))
    (pss_cons (ps_for PassesOwn.never rfl (pi_list (pv 1)) (pg_tup rfl (pgs_cons (pg_name (i := 3) sc_law_falls.nd rfl (.inl rfl)) (pgs_cons (pg_name (i := 4) sc_law_falls.nd rfl (.inl rfl)) pgs_nil))) (pss_cons (ps_if (pt_cmpR op_ge (pv 4) (pe_ix ix_list (pv 2) (pe_op op_sub (pv 3) pe_int) (fun _ _ => rfl)) (nomark _)) (pss_one (ps_ret pe_bl)) pss_nil)
    (pss_one (ps_asg (pv 4) (pg_sub (pv 2) (pe_op op_sub (pv 3) pe_int) set_list)))))
    (pss_one (ps_ret pe_bl)))), ?_⟩
    refine q_asgL (el_listS (ev_var rfl) (.inl (sq_of hr'))) fun p H1 hp e1 h1 => ?_
    refine q_forL (xs := xs) (ev_var rfl) (sq_of (e1 _ _ hs)) (fun i σ' H' => ∃ y z, σ' = [some (.ref r), some (.ref s'), some (.ref p), y, z] ∧ Ex H H' ∧ H' p = some (.lst (vi (M.wr t (ws.take i))))) (fun H2 e2 => ⟨none, none, rfl, e1.trans e2, e2 _ _ h1⟩) (fun i σ' H' _ hP => by obtain ⟨_, _, _, e, _⟩ := hP; exact sq_of (e _ _ hs)) (fun i x σ' H' hi hP => ?_) fun σ' H' hP => ?_
    · obtain ⟨y, z, rfl, eH, hp'⟩ := hP
      obtain ⟨q, wq, rfl, hw, hq⟩ := hx.get hi
      obtain ⟨g1, g2, g3⟩ := hok _ (List.mem_of_getElem? hw)
      have hfa := falls_at hf hw
      refine ⟨q, _, rfl, st_of (eH _ _ hq), rfl, _, _, rfl, _, _, rfl, rfl, ?_⟩
      refine q_when (b := false) (et_is (et_test (ev_op (ev_var rfl) (ev_op (ev_var rfl) (ev_op (ev_var rfl) ev_c rv_I0) (rv_ixL (sq_of hp') (vi_tg (n := wq.1) g1 (by rw [M.len_wr]; omega) rfl))) rv_I0)) (by simp; omega)) (fun z => by cases z) fun _ H2 e2 => ?_
      refine s_setL (j := wq.1 - 1) (e2 _ _ hp') (v := .int (wq.2 : Int)) (ev_var rfl) (ev_var rfl) (ev_is (ev_op (ev_var rfl) ev_c rv_I0) (congrArg V.int (by omega))) (by rw [vi_len, M.len_wr]; omega) fun H3 e3 => ?_
      exact ⟨_, _, rfl, Ex.mut ((eH.trans e2).trans e3) hp, by rw [upd_same, vi_setI, wr_take hw]; rfl⟩
    · obtain ⟨y, z, rfl, eH, hp'⟩ := hP
      exact s_ret ev_c fun H2 e2 => k H2 (eH.trans e2)
def sp_law_down (K : PySem.W.Frag) (CS CT : Addr) : Sp := fun vs H Q _ => ∃ (r : Addr) (pg nd n : Nat) (t : List Nat), vs = [.ref r, .int (pg : Int), .int (nd : Int), .int (n : Int)] ∧ H r = some (.lst (vi t)) ∧ 1 ≤ n ∧ 2 * n + 1 ≤ t.length ∧
  RetL (if nd ≤ M.tg t (2 * n) then [.int ((2 * n : Nat) : Int), .non] else if nd ≤ M.tg t (2 * n + 1) then [.int ((2 * n + 1 : Nat) : Int), .non] else [.int (n : Int), .int (M.gr t n : Int)]) H Q
theorem ok_law_down (D_law_greater : Dn P w K mg base 1 "_law_greater" ["_law_row", "_law_node"] [] (sp_law_greater K CS CT)) {f : Addr} {fd : FuncData} (F : FnP K "_law_down" "_law_down" d_law_down [] [] f fd) (T : Tx K mg CS CT pgs) : FnOk P w K mg base CX0 2 f fd ["_law_row", "_law_pages_here", "_law_need_here", "_law_node"] (sp_law_down K CS CT) := by
  refine F.ok sc_law_down (fun vs H Q E h => ?_) (fun cdv A outer s H vs Q E hr h => ?_)
  · obtain ⟨r, pg, nd, n, t, rfl, _⟩ := h
    rfl
  · obtain ⟨r, pg, nd, n, t, rfl, hr', h1, h2, k⟩ := h
    refine ⟨_, PSs.nox (pss_cons (ps_if (pt_cmpR op_ge (pe_ix ix_list (pv 0) (pe_op op_sub (pe_op op_mul pe_int (pv 3)) pe_int) (fun _ _ => rfl)) (pv 2) (nomark _)) (pss_one (ps_ret (pe_lst (pa_cons (pe_op op_mul pe_int (pv 3)) (pa_cons pe_non pa_nil))))) pss_nil)
    (pss_cons (ps_if (pt_cmpR op_ge (pe_ix ix_list (pv 0) (pe_op op_mul pe_int (pv 3)) (fun _ _ => rfl)) (pv 2) (nomark _)) (pss_one (ps_ret (pe_lst (pa_cons (pe_op op_add (pe_op op_mul pe_int (pv 3)) pe_int) (pa_cons pe_non pa_nil))))) pss_nil)
    (pss_one (ps_ret (pe_lst (pa_cons (pv 3) (pa_cons (pe_callD D_law_greater hr (by decide) (by rfl) (pa_cons (pv 0) (pa_cons (pv 3) pa_nil))) pa_nil))))))), ?_⟩
    refine q_when (b := decide (nd ≤ M.tg t (2 * n))) (et_is (et_test (ev_op (ev_op (ev_var rfl) (ev_op (ev_op ev_c (ev_var rfl) (rv_I (.inl ⟨by decide, by decide⟩))) ev_c rv_I0) (rv_ixL (sq_of hr') (vi_tg (n := 2 * n) (by omega) (by omega) (by omega)))) (ev_var rfl) rv_I0)) (by simp)) (fun z H1 e1 => ?_) fun z H1 e1 => ?_
    · rw [if_pos (of_decide_eq_true z)] at k
      exact s_retL (el_lst (ea_cons (ev_is (ev_op ev_c (ev_var rfl) (rv_I (.inl ⟨by decide, by decide⟩))) (by simp)) (ea_cons ev_c ea_nil)) (by simp)) fun p H2 hp e2 h2 => k p H2 (fresh_back e1 hp) (e1.trans e2) h2
    · rw [if_neg (of_decide_eq_false z)] at k
      refine q_when (b := decide (nd ≤ M.tg t (2 * n + 1))) (et_is (et_test (ev_op (ev_op (ev_var rfl) (ev_op ev_c (ev_var rfl) (rv_I (.inl ⟨by decide, by decide⟩))) (rv_ixL (sq_of (e1 _ _ hr')) (vi_tg (n := 2 * n + 1) (by omega) (by omega) (by omega)))) (ev_var rfl) rv_I0)) (by simp)) (fun z H2 e2 => ?_) fun z H2 e2 => ?_
      · rw [if_pos (of_decide_eq_true z)] at k
        exact s_retL (el_lst (ea_cons (ev_is (ev_op (ev_op ev_c (ev_var rfl) (rv_I (.inl ⟨by decide, by decide⟩))) ev_c rv_I0) (by simp)) (ea_cons ev_c ea_nil)) (by simp)) fun p H3 hp e3 h3 => k p H3 (fresh_back (e1.trans e2) hp) ((e1.trans e2).trans e3) h3
      · rw [if_neg (of_decide_eq_false z)] at k
        exact s_retL (el_lst (ea_cons (x := .int (n : Int)) (ev_var rfl) (ea_cons (ev_law_greater (ev_var rfl) ((e1.trans e2) _ _ hr') (ev_var rfl) h1 h2) ea_nil)) (by simp)) fun p H3 hp e3 h3 => k p H3 (fresh_back (e1.trans e2) hp) ((e1.trans e2).trans e3) h3
end
end Rt
end
section
/-! The law's play. Printed by gen_rules.py from RtJ.src. -/
namespace Rt
open PySem PySem.Spec PyProof.Rows L2 Evl GenW

/-- a list of rows of writes; the rows are none of ex -/
def RowsAt (H : Hp) (p : Addr) (ex : List Addr) (Rs : List (List (Nat × Nat))) : Prop :=
  ∃ rs : List (Addr × List V × List (Nat × Nat)), H p = some (.lst (rs.map fun r => V.ref r.1)) ∧ Rs = rs.map (·.2.2) ∧ ∀ r ∈ rs, H r.1 = some (.lst r.2.1) ∧ PairsL r.2.1 H r.2.2 ∧ r.1 ∉ ex
theorem RowsAt.ex {H H' : Hp} {p : Addr} {ex : List Addr} {Rs : List (List (Nat × Nat))} (h : RowsAt H p ex Rs) (e : Ex H H') : RowsAt H' p ex Rs := by
  obtain ⟨rs, h1, h2, h3⟩ := h
  exact ⟨rs, e _ _ h1, h2, fun r hr => ⟨e _ _ (h3 r hr).1, (h3 r hr).2.1.ex e, (h3 r hr).2.2⟩⟩
theorem RowsAt.updN {H : Hp} {p q : Addr} {ex : List Addr} {Rs : List (List (Nat × Nat))} {ys : List V} {o : HO} (h : RowsAt H p ex Rs) (hq : H q = some (.lst ys)) (hm : q ∈ ex) (ne : p ≠ q) : RowsAt (upd H q o) p ex Rs := by
  obtain ⟨rs, h1, h2, h3⟩ := h
  refine ⟨rs, by rw [upd_ne ne]; exact h1, h2, fun r hr => ?_⟩
  obtain ⟨g1, g2, g3⟩ := h3 r hr
  exact ⟨by rw [upd_ne (fun e => g3 (by rw [e]; exact hm))]; exact g1, g2.updL hq, g3⟩
/-- one more row -/
theorem RowsAt.push {H : Hp} {p q : Addr} {ex : List Addr} {Rs : List (List (Nat × Nat))} {xs zs : List V} {ws : List (Nat × Nat)} (h : RowsAt H p ex Rs) (hp : H p = some (.lst xs)) (hm : p ∈ ex) (hq : H q = some (.lst zs)) (hz : PairsL zs H ws) (hn : q ∉ ex) :
    RowsAt (upd H p (.lst (xs ++ [.ref q]))) p ex (Rs ++ [ws]) := by
  obtain ⟨rs, h1, h2, h3⟩ := h
  rw [hp] at h1
  have ex0 : xs = rs.map fun r => V.ref r.1 := by injection h1 with h1; injection h1
  refine ⟨rs ++ [(q, zs, ws)], by rw [upd_same, ex0, List.map_append]; rfl, by rw [h2, List.map_append]; rfl, fun r hr => ?_⟩
  rcases List.mem_append.mp hr with hr | hr
  · obtain ⟨g1, g2, g3⟩ := h3 r hr
    exact ⟨by rw [upd_ne (fun e => g3 (by rw [e]; exact hm))]; exact g1, g2.updL hp, g3⟩
  · rw [List.mem_singleton] at hr
    subst hr
    exact ⟨by rw [upd_ne (fun e : q = p => hn (by rw [e]; exact hm))]; exact hq, hz.updL hp, hn⟩
section
variable {K : PySem.W.Frag} {σ : L2.St} {H H' : Hp} {ta t1 t2 t3 te : TE} {v x y z : V} {xs ys : List V} {D : Ends} {tz : TS} {i j l : Nat} {R : V → Hp → Prop}
theorem s_appG {l : Addr} (hl : H l = some (.lst xs)) (ha : Ev ta σ H (.ref l)) (h : Gv te σ H R) (hz : xs.length < 100000) (k : ∀ v H1, Ex H H1 → R v H1 → D.nx σ (upd H1 l (.lst (xs ++ [v])))) :
    tDrop (tBM K "list" rAppend ta (tCons te tNil)) D σ H := ha H (Ex.refl H) _ fun H1 e1 =>
  ⟨Or.inl ⟨rfl, xs, sq_of (e1 l _ hl)⟩, h H1 e1 _ fun v H2 e2 r => ⟨l, xs, v, rfl, rfl, e2 l _ (e1 l _ hl), sz_lt hz, k v H2 (e1.trans e2) r⟩⟩
theorem q_appG {l : Addr} (hl : H l = some (.lst xs)) (ha : Ev ta σ H (.ref l)) (h : Gv te σ H R) (hz : xs.length < 100000) (k : ∀ v H1, Ex H H1 → R v H1 → tz D σ (upd H1 l (.lst (xs ++ [v])))) :
    tSeq (tDrop (tBM K "list" rAppend ta (tCons te tNil))) tz D σ H := s_appG (D := { D with nx := tz D }) hl ha h hz k
theorem s_parL1 {n : Int} (h : EvL t1 σ H xs) (k : ∀ p H1, H p = none → Ex H H1 → H1 p = some (.lst xs) → D.nx ((σ.set i (some (.ref p))).set j (some (.int n))) H1) : tPar i j (tCons t1 (tCons (tC (.int n)) tNil)) D σ H :=
  h H (Ex.refl H) _ fun p H1 hp e h1 => ⟨_, _, rfl, k p H1 hp e h1⟩
/-- a, b = a new pair -/
theorem q_unl2 {x y : V} (h : EvL te σ H [x, y]) (k : ∀ H1, Ex H H1 → tz D ((σ.set i (some x)).set j (some y)) H1) : tSeq (tAsg te (gUnl K 2 (gCons (gName i) (gCons (gName j) gNil)))) tz D σ H :=
  h H (Ex.refl H) _ fun p H1 hp e h1 => ⟨p, _, rfl, sq_of h1, rfl, _, _, rfl, _, _, rfl, rfl, k H1 e⟩
theorem s_unl2 {x y : V} (h : EvL te σ H [x, y]) (k : ∀ H1, Ex H H1 → D.nx ((σ.set i (some x)).set j (some y)) H1) : tAsg te (gUnl K 2 (gCons (gName i) (gCons (gName j) gNil))) D σ H :=
  h H (Ex.refl H) _ fun p H1 hp e h1 => ⟨p, _, rfl, sq_of h1, rfl, _, _, rfl, _, _, rfl, rfl, k H1 e⟩
theorem key_ne {a b : Str} (h : ¬ a = b) : ¬ (Sum.inr a : Key) = .inr b := fun e => h (Sum.inr.inj e)
theorem merge3 {a b c : Str} {x y z : V} (h1 : ¬ a = b) (h2 : ¬ a = c) (h3 : ¬ b = c) : mergeK [] [((Sum.inr a : Key), x), (.inr b, y), (.inr c, z)] = [(.inr a, x), (.inr b, y), (.inr c, z)] := by
  simp [mergeK, putK, h1, h2, h3, key_ne]
theorem merge2 {a b : Str} {x y : V} (h1 : ¬ a = b) : mergeK [] [((Sum.inr a : Key), x), (.inr b, y)] = [(.inr a, x), (.inr b, y)] := by
  simp [mergeK, putK, h1, key_ne]
/-- return {a: .., b: y, c: z} -/
theorem s_retD3 {a b c : Str} (n1 : ¬ a = b) (n2 : ¬ a = c) (n3 : ¬ b = c) (h1 : Gv t1 σ H fun _ _ => True) (h2 : Ev t2 σ H y) (h3 : Ev t3 σ H z) (k : ∀ p H1 x, H p = none → Ex H H1 → H1 p = some (.dK [(.inr a, x), (.inr b, y), (.inr c, z)]) → D.rt (.ref p) H1) :
    tRet (tDisp [(tC (.str a), t1), (tC (.str b), t2), (tC (.str c), t3)]) D σ H := fun p hp => by
  have e0 : Ex H (upd H p (.dK [])) := Ex.new hp
  refine h1 _ e0 _ fun x H1 e1 _ => h2 H1 (e0.trans e1) _ fun H2 e2 => h3 H2 ((e0.trans e1).trans e2) _ fun H3 e3 => ?_
  have e4 := ((e0.trans e1).trans e2).trans e3
  refine ⟨((e1.trans e2).trans e3) _ _ upd_same, [(.inr a, x), (.inr b, y), (.inr c, z)], rfl, by simp, k p _ x hp (Ex.mut e4 hp) ?_⟩
  rw [upd_same, merge3 n1 n2 n3]
end

section
variable {P : Program} {w : World} {K : PySem.W.Frag} {mg : Str → Option Value} {base : Heap} {CS CT pgs : Addr}
/-- {'events': .., 'rows': the rows, 'told': ..} -/
def PlayAt (H : Hp) (v : V) (Rs : List (List (Nat × Nat))) : Prop := ∃ d x z p ex, v = .ref d ∧ H d = some (.dK [(.inr "events", x), (.inr "rows", .ref p), (.inr "told", z)]) ∧ RowsAt H p ex Rs
theorem ev_law_need {σ : L2.St} {H : Hp} {td tx : TE} {d : Addr} {m x : Nat} {b : List Nat} (h : Ev td σ H (.ref d)) (hp : PlanE H d m b) (hx : Ev tx σ H (.int (x : Int))) : Ev (tCall (sp_law_need K CS CT) [] E0 (tCons td (tCons tx tNil))) σ H (optV (M.needOf b x)) :=
  ev_call (ea_cons h (ea_cons hx ea_nil)) fun H1 e1 Q q E => ⟨d, m, x, b, rfl, hp.ex e1, q⟩
/-- rows.append(lowered(now, node, low)); events.append(('lower', node, low)); now, node = put(now, rows[-1]), 1 -/
theorem playlow {D : Ends} {H : Hp} {c pg n v : Nat} {t : List Nat} {nw p7 p8 : Addr} {evl : List V} {Rd : List (List (Nat × Nat))} {a0 a1 a2 a3 a4 a5 a10 a12 : Option V} (hnw : H nw = some (.lst (vi t))) (hV : M.VT c pg t) (n1 : 1 ≤ n) (n2 : n < 2 * pg) (hv : v ≤ c)
    (h7 : H p7 = some (.lst evl)) (hl7 : evl.length < 90000) (h8 : RowsAt H p8 [p7, p8] Rd) (hl8 : Rd.length < 90000) (n78 : p7 ≠ p8) (nw7 : nw ≠ p7) (nw8 : nw ≠ p8) {HB : Hp} (eB : Ex HB H) (b7 : HB p7 = none) (b8 : HB p8 = none)
    (k : ∀ H1 nw', Ex HB H1 → nw' ≠ p7 → nw' ≠ p8 → H1 nw' = some (.lst (vi (M.wr t (M.low t n v)))) → (∃ ev, H1 p7 = some (.lst (evl ++ [ev]))) → RowsAt H1 p8 [p7, p8] (Rd ++ [M.low t n v]) →
      D.nx [a0, a1, a2, a3, a4, a5, some (.ref nw'), some (.ref p7), some (.ref p8), some (.int ((1 : Nat) : Int)), a10, some (.int (v : Int)), a12] H1) :
    tSeq (tDrop (tBM K "list" rAppend (tVar 8) (tCons (tCall (sp_law_lowered K CS CT) [] E0 (tCons (tVar 6) (tCons (tVar 9) (tCons (tVar 11) tNil)))) tNil)))
      (tSeq (tDrop (tBM K "list" rAppend (tVar 7) (tCons (tTup (tCons (tC (.str "lower")) (tCons (tVar 9) (tCons (tVar 11) tNil)))) tNil)))
        (tPar 6 9 (tCons (tCall (sp_law_put K CS CT) [] E0 (tCons (tVar 6) (tCons (tOp (rIxL K) (tVar 8) (tUn (rU fun i => .int (-i)) (tC (.int 1)))) tNil))) (tCons (tC (.int 1)) tNil))))
      D [a0, a1, a2, a3, a4, a5, some (.ref nw), some (.ref p7), some (.ref p8), some (.int (n : Int)), a10, some (.int (v : Int)), a12] H := by
  obtain ⟨rs, g1, g2, g3⟩ := id h8
  have hrl : (rs.map fun r => V.ref r.1).length < 90000 := by rw [List.length_map]; rw [g2, List.length_map] at hl8; exact hl8
  refine q_appG (R := fun u H1 => ∃ q, u = .ref q ∧ H q = none ∧ RowAt H1 q (M.low t n v)) g1 (ev_var rfl) (gv_call (ea_cons (ev_var rfl) (ea_cons (ev_var rfl) (ea_cons (ev_var rfl) ea_nil))) fun H1 e1 Q q E => ⟨nw, c, pg, n, v, t, rfl, e1 _ _ hnw, hV, n1, n2, hv, fun p H2 hp e2 hR => q _ H2 e2 ⟨p, rfl, fresh_back e1 hp, hR⟩⟩) (by omega) fun u H1 e1 hu => ?_
  obtain ⟨q, rfl, hq, zs, hz1, hz2⟩ := hu
  have hq7 : q ≠ p7 := (ne_of_none h7 hq).symm
  have hq8 : q ≠ p8 := (ne_of_none g1 hq).symm
  have hn : q ∉ [p7, p8] := by simp [hq7, hq8]
  have h8' : RowsAt (upd H1 p8 (.lst ((rs.map fun r => V.ref r.1) ++ [.ref q]))) p8 [p7, p8] (Rd ++ [M.low t n v]) := (h8.ex e1).push (e1 _ _ g1) (by simp) hz1 hz2 hn
  have hqa : RowAt (upd H1 p8 (.lst ((rs.map fun r => V.ref r.1) ++ [.ref q]))) q (M.low t n v) := ⟨zs, by rw [upd_ne hq8]; exact hz1, hz2.updL (e1 _ _ g1)⟩
  have h7' : (upd H1 p8 (.lst ((rs.map fun r => V.ref r.1) ++ [.ref q]))) p7 = some (.lst evl) := by rw [upd_ne n78]; exact e1 _ _ h7
  have hnw' : (upd H1 p8 (.lst ((rs.map fun r => V.ref r.1) ++ [.ref q]))) nw = some (.lst (vi t)) := by rw [upd_ne nw8]; exact e1 _ _ hnw
  have h8s : (upd H1 p8 (.lst ((rs.map fun r => V.ref r.1) ++ [.ref q]))) p8 = some (.lst ((rs.map fun r => V.ref r.1) ++ [.ref q])) := upd_same
  have eB' : Ex HB (upd H1 p8 (.lst ((rs.map fun r => V.ref r.1) ++ [.ref q]))) := Ex.mut (eB.trans e1) b8
  generalize upd H1 p8 (.lst ((rs.map fun r => V.ref r.1) ++ [.ref q])) = H2 at h8' hqa h7' hnw' h8s eB' ⊢
  refine q_appU h7' (ev_var rfl) (eu_tup (ea_cons (x := .str "lower") ev_c (ea_cons (x := .int (n : Int)) (ev_var rfl) (ea_cons (x := .int (v : Int)) (ev_var rfl) ea_nil))) (by simp)) (by omega) fun u3 H3 hu3 e3 _ => ?_
  have eB3 : Ex HB (upd H3 p7 (.lst (evl ++ [.ref u3]))) := Ex.mut (eB'.trans e3) b7
  have h83 : RowsAt (upd H3 p7 (.lst (evl ++ [.ref u3]))) p8 [p7, p8] (Rd ++ [M.low t n v]) := (h8'.ex e3).updN (e3 _ _ h7') (by simp) n78.symm
  have hqa3 : RowAt (upd H3 p7 (.lst (evl ++ [.ref u3]))) q (M.low t n v) := (hqa.ex e3).updN (e3 _ _ h7') hq7
  have hnw3 : (upd H3 p7 (.lst (evl ++ [.ref u3]))) nw = some (.lst (vi t)) := by rw [upd_ne nw7]; exact e3 _ _ hnw'
  have h8s3 : (upd H3 p7 (.lst (evl ++ [.ref u3]))) p8 = some (.lst ((rs.map fun r => V.ref r.1) ++ [.ref q])) := by rw [upd_ne n78.symm]; exact e3 _ _ h8s
  have h7s3 : (upd H3 p7 (.lst (evl ++ [.ref u3]))) p7 = some (.lst (evl ++ [.ref u3])) := upd_same
  generalize upd H3 p7 (.lst (evl ++ [.ref u3])) = H4 at eB3 h83 hqa3 hnw3 h8s3 h7s3 ⊢
  refine s_parL1 (xs := vi (M.wr t (M.low t n v))) (el_call (ea_cons (x := .ref nw) (ev_var rfl) (ea_cons (x := .ref q) (ev_op (ev_var rfl) (ev_un ev_c ru_neg) (rv_ixL (sq_of h8s3) (atI_last _ _))) ea_nil)) fun H5 e5 Q q' E => ⟨nw, q, c, t, _, rfl, e5 _ _ hnw3, hqa3.ex e5, hV.low n1 n2 hv, q'⟩) fun nw' H5 hw e5 h5 => ?_
  exact k H5 nw' (eB3.trans e5) (ne_of_none h7s3 hw).symm (ne_of_none h8s3 hw).symm h5 ⟨_, e5 _ _ h7s3⟩ (h83.ex e5)
def sp_law_play (K : PySem.W.Frag) (CS CT : Addr) : Sp := fun vs H Q _ => ∃ (d r rm : Addr) (m pg sz : Nat) (b rs t : List Nat), vs = [.ref d, .ref r, .ref rm, .int (sz : Int)] ∧ PlanE H d m b ∧ H r = some (.lst (vi t)) ∧ H rm = some (.lst (vi rs)) ∧ rs.length = pg ∧ M.VT b.length pg t ∧ RetP (fun u H1 => PlayAt H1 u (M.search b pg sz rs t).1) H Q
theorem ok_law_play (D_law_need : Dn P w K mg base 1 "_law_need" ["_law_plan", "_law_size"] [] (sp_law_need K CS CT)) (D_law_down : Dn P w K mg base 2 "_law_down" ["_law_row", "_law_pages_here", "_law_need_here", "_law_node"] [] (sp_law_down K CS CT)) (D_law_class : Dn P w K mg base 1 "_law_class" ["_law_plan", "_law_room"] [] (sp_law_class K CS CT)) (D_law_lowered : Dn P w K mg base 2 "_law_lowered" ["_law_row", "_law_node", "_law_told_here"] [] (sp_law_lowered K CS CT)) (D_law_put : Dn P w K mg base 1 "_law_put" ["_law_row", "_law_some"] [] (sp_law_put K CS CT)) {f : Addr} {fd : FuncData} (F : FnP K "_law_play" "_law_play" d_law_play [] [] f fd) (T : Tx K mg CS CT pgs) : FnOk P w K mg base CX0 3 f fd ["_law_plan", "_law_row", "_law_rooms_here", "_law_size"] (sp_law_play K CS CT) := by
  refine F.ok sc_law_play (fun vs H Q E h => ?_) (fun cdv A outer s H vs Q E hr h => ?_)
  · obtain ⟨d, r, rm, m, pg, sz, b, rs, t, rfl, _⟩ := h
    rfl
  · obtain ⟨d, r, rm, m, pg, sz, b, rs, t, rfl, hp, hr', hrm, hrl, hV, k⟩ := h
    have hlen := hV.len
    have h32 := hV.P32
    have hP2 := hV.P2
    refine ⟨_, PSs.nox (pss_cons (ps_par3 (i := 4) (j := 5) (l := 6) rfl sc_law_play.nd rfl rfl rfl (by decide) (by decide) (by decide) rfl rfl rfl (pa_cons (pe_callD D_law_need hr (by decide) (by rfl) (pa_cons (pv 0) (pa_cons (pv 3) pa_nil))) (pa_cons (pe_callB call_len_seq (by rfl) T.b_len bt_len (pa_cons (pv 2) pa_nil)) (pa_cons (pe_callTy call_list_of (by rfl) T.b_list bt_list (pa_cons (pv 1) pa_nil)) pa_nil))) (by rfl))
    (pss_cons (ps_par3 (i := 7) (j := 8) (l := 9) rfl sc_law_play.nd rfl rfl rfl (by decide) (by decide) (by decide) rfl rfl rfl (pa_cons (pe_lst pa_nil) (pa_cons (pe_lst pa_nil) (pa_cons pe_int pa_nil))) (by rfl))
    (pss_cons (ps_for PassesOwn.never rfl (pi_range1 (by rfl) T.b_range (pa_cons (pe_op op_add (pe_op op_mul pe_int (pe_callB call_len_seq (by rfl) T.b_len bt_len (pa_cons (pv 1) pa_nil))) pe_int) pa_nil)) (pg_name (i := 10) sc_law_play.nd rfl (.inl rfl)) (pss_cons (ps_if (PW.pt (pw_or (pt_cmp (pc_isN (pv 4))) (pw_or1 (PW.pt (pw_and (pt_cmpR op_eq (pv 9) pe_int (nomark _)) (pw_and1 (pt_cmpR op_lt (pe_ix ix_list (pv 6) pe_int (fun _ _ => rfl)) (pv 4) (nomark _)))))))) (pss_one (ps_ret (pe_disp (pps_cons pe_str (pe_op op_cat (pv 7) (pe_lst (pa_cons (pe_tup (pa_cons pe_str pa_nil)) pa_nil))) (pps_cons pe_str (pv 8) (pps_cons pe_str (pv 6) pps_nil))) rfl rfl (by simp) (by decide)))) pss_nil)
    (pss_cons (ps_expr (pe_bm PySem.F.plainAttrs_list PySem.F.slot_list_append PySem.F.type_list_append mt_append (pv 7) (pa_cons (pe_tup (pa_cons pe_str (pa_cons (pv 9) pa_nil))) pa_nil)))
    (pss_cons (ps_if (pt_cmpR op_lt (pv 9) (pv 5) (nomark _)) (pss_one (ps_asg (pe_callD D_law_down hr (by decide) (by rfl) (pa_cons (pv 6) (pa_cons (pv 5) (pa_cons (pv 4) (pa_cons (pv 9) pa_nil))))) (pg_unl rfl (pgs_cons (pg_name (i := 9) sc_law_play.nd rfl (.inl rfl)) (pgs_cons (pg_name (i := 11) sc_law_play.nd rfl (.inl rfl)) pgs_nil))))) (pss_cons (ps_set (i := 12) sc_law_play.nd rfl (.inl rfl) (pe_op op_sub (pv 9) (pv 5)))
    (pss_cons (ps_expr (pe_bm PySem.F.plainAttrs_list PySem.F.slot_list_append PySem.F.type_list_append mt_append (pv 7) (pa_cons (pe_tup (pa_cons pe_str (pa_cons (pv 12) pa_nil))) pa_nil)))
    (pss_cons (ps_if (pt_cmpR op_ge (pe_ix ix_list (pv 2) (pv 12) (fun _ _ => rfl)) (pv 3) (nomark _)) (pss_one (ps_ret (pe_disp (pps_cons pe_str (pe_op op_cat (pv 7) (pe_lst (pa_cons (pe_tup (pa_cons pe_str (pa_cons (pv 12) pa_nil))) pa_nil))) (pps_cons pe_str (pv 8) (pps_cons pe_str (pv 6) pps_nil))) rfl rfl (by simp) (by decide)))) pss_nil)
    (pss_one (ps_set (i := 11) sc_law_play.nd rfl (.inl rfl) (pe_callD D_law_class hr (by decide) (by rfl) (pa_cons (pv 0) (pa_cons (pe_ix ix_list (pv 2) (pv 12) (fun _ _ => rfl)) pa_nil)))))))))
    (pss_one (ps_if (pt_cmp (pc_notN (pv 11))) (pss_cons (ps_expr (pe_bm PySem.F.plainAttrs_list PySem.F.slot_list_append PySem.F.type_list_append mt_append (pv 8) (pa_cons (pe_callD D_law_lowered hr (by decide) (by rfl) (pa_cons (pv 6) (pa_cons (pv 9) (pa_cons (pv 11) pa_nil)))) pa_nil)))
    (pss_cons (ps_expr (pe_bm PySem.F.plainAttrs_list PySem.F.slot_list_append PySem.F.type_list_append mt_append (pv 7) (pa_cons (pe_tup (pa_cons pe_str (pa_cons (pv 9) (pa_cons (pv 11) pa_nil)))) pa_nil)))
    (pss_one (ps_par (i := 6) (j := 9) rfl sc_law_play.nd rfl rfl (by decide) rfl rfl (pa_cons (pe_callD D_law_put hr (by decide) (by rfl) (pa_cons (pv 6) (pa_cons (pe_ix ix_list (pv 8) (pe_un un_neg pe_int) (fun _ _ => rfl)) pa_nil))) (pa_cons pe_int pa_nil)) (by rfl))))) pss_nil))))))
    (pss_one (ps_ret pe_non))))), ?_⟩
    refine q_par3VVL (ev_law_need (ev_var rfl) hp (ev_var rfl)) (ev_is (ev_len (ev_var rfl) (sq_of hrm)) (by rw [vi_len, hrl])) (el_listS (ev_var rfl) (.inl (sq_of hr'))) fun nw H1 hnw e1 h1 => ?_
    refine q_par3LL fun p7 p8 H2 hp7 hp8 n78 e2 h7 h8 => ?_
    have e12 := e1.trans e2
    have b7 : H p7 = none := fresh_back e1 hp7
    have b8 : H p8 = none := fresh_back e1 hp8
    have nw7 : nw ≠ p7 := ne_of_none h1 hp7
    have nw8 : nw ≠ p8 := ne_of_none h1 hp8
    -- a return: {'events': events + [..], 'rows': rows, 'told': now}
    have fin : ∀ {σ : L2.St} {H' : Hp} {nw' : Addr} {evl : List V} {te : TE}, σ[7]? = some (some (.ref p7)) → σ[8]? = some (some (.ref p8)) → σ[6]? = some (some (.ref nw')) → Ex H H' → H' p7 = some (.lst evl) → evl.length ≤ 90000 → RowsAt H' p8 [p7, p8] (M.search b pg sz rs t).1 → (∃ ys, EvU te σ H' ys) →
        ∀ nx ct bk, tRet (tDisp [(tC (.str "events"), tOp rCat (tVar 7) (tLst (tCons te tNil))), (tC (.str "rows"), tVar 8), (tC (.str "told"), tVar 6)]) { nx := nx, rt := Q, ct := ct, bk := bk } σ H' := by
      intro σ H' nw' evl te s7 s8 s6 eH h7' hl7 hR hu nx ct bk
      obtain ⟨ys, hu⟩ := hu
      refine s_retD3 (by decide +kernel) (by decide +kernel) (by decide +kernel) (fun H3 e3 Q' q' => ⟨.ref p7, s7, ?_⟩) (ev_var s8) (ev_var s6) fun p H3 x hpn e3 hd => k _ H3 (eH.trans e3) ⟨p, x, _, p8, _, rfl, hd, hR.ex e3⟩
      refine hu H3 e3 _ fun u H4 hu4 e4 _ => ⟨by show 1 ≤ sizeLine; decide, fun l hl => ⟨p7, l, evl, [.ref u], rfl, rfl, (Ex.new hl) _ _ (e4 _ _ (e3 _ _ h7')), upd_same, sz_of (by simp; omega), fun q hq => q' _ _ ((e4.trans (Ex.new hl)).trans (Ex.new hq)) trivial⟩⟩
    have hN : EvA (tCons (tOp (rI0 fun i j => .int (i + j)) (tOp (rI CMul fun i j => .int (i * j)) (tC (.int 20)) (tCB (rLenS K) (tCons (tVar 1) tNil))) (tC (.int 20))) tNil) [some (.ref d), some (.ref r), some (.ref rm), some (.int (sz : Int)), some (optV (M.needOf b sz)), some (.int (pg : Int)), some (.ref nw), some (.ref p7), some (.ref p8), some (.int 1), none, none, none] H2 [.int ((20 * t.length + 20 : Nat) : Int)] :=
      ea_cons (ev_is (ev_op (ev_op ev_c (ev_len (ev_var rfl) (sq_of (e12 _ _ hr'))) (rv_I (.inl ⟨by decide, by decide⟩))) ev_c rv_I0) (by rw [vi_len]; simp)) ea_nil
    cases hn : M.needOf b sz with
    | none =>
      rw [hn] at hN
      have hs : (M.search b pg sz rs t).1 = [] := by unfold M.search; rw [hn]
      refine q_forR1 hN (by omega) (fun i σ' H' => i = 0 ∧ σ' = [some (.ref d), some (.ref r), some (.ref rm), some (.int (sz : Int)), some .non, some (.int (pg : Int)), some (.ref nw), some (.ref p7), some (.ref p8), some (.int 1), none, none, none] ∧ Ex H2 H') (fun H3 e3 => ⟨rfl, rfl, e3⟩) (fun i σ' H' _ hP => ?_) fun σ' H' hP => ?_
      · obtain ⟨rfl, rfl, e3⟩ := hP
        refine q_when (b := true) (et_or (a := true) (b := false) (et_isN (v := .non) (ev_var rfl)) fun z => by cases z) (fun _ H4 e4 => ?_) fun z => by cases z
        refine fin rfl rfl rfl ((e12.trans e3).trans e4) ((e3.trans e4) _ _ h7) (by simp) ?_ ⟨_, eu_tup (ea_cons (x := .str "nothing") ev_c ea_nil) (by simp)⟩ _ _ _
        rw [hs]
        exact ⟨[], (e3.trans e4) _ _ h8, rfl, fun r hr => by cases hr⟩
      · obtain ⟨hz, _⟩ := hP
        omega
    | some nd =>
      rw [hn] at hN
      obtain ⟨R0, T0, hplay, hsr⟩ := M.cnt0 (rooms := rs) hV hn
      have hs1 : (M.search b pg sz rs t).1 = R0 := by rw [hsr]
      rw [hs1] at fin
      refine q_forR1 hN (by omega) (fun i σ' H' => ∃ (nw' : Addr) (t' : List Nat) (n : Nat) (evl : List V) (Rd : List (List (Nat × Nat))) (y10 y11 y12 : Option V), σ' = [some (.ref d), some (.ref r), some (.ref rm), some (.int (sz : Int)), some (.int (nd : Int)), some (.int (pg : Int)), some (.ref nw'), some (.ref p7), some (.ref p8), some (.int (n : Int)), y10, y11, y12] ∧
          Ex H H' ∧ H' nw' = some (.lst (vi t')) ∧ nw' ≠ p7 ∧ nw' ≠ p8 ∧ H' p7 = some (.lst evl) ∧ evl.length ≤ 3 * i ∧ RowsAt H' p8 [p7, p8] Rd ∧ Rd.length ≤ i ∧ M.VT b.length pg t' ∧ 1 ≤ n ∧ n < 2 * pg ∧ ∃ R T, M.play nd pg sz rs (M.clsOf b) (20 * t.length + 20 - i) t' n = some (R, T) ∧ Rd ++ R = R0)
        (fun H3 e3 => ⟨nw, t, 1, [], [], none, none, none, rfl, e12.trans e3, (e2.trans e3) _ _ h1, nw7, nw8, e3 _ _ h7, Nat.zero_le _, ⟨[], e3 _ _ h8, rfl, fun r hr => by cases hr⟩, Nat.zero_le _, hV, Nat.le_refl _, by omega, R0, T0, hplay, rfl⟩) (fun i σ' H' hi hP => ?_) fun σ' H' hP => ?_
      · obtain ⟨nw', t', n, evl, Rd, y10, y11, y12, rfl, eH, hnw', w7, w8, h7', hl7, h8', hl8, hV', n1, n2, R, T', hpl, hR⟩ := hP
        have hlen' := hV'.len
        have hi' : i < 20 * t.length + 20 := by omega
        obtain ⟨ff, hff⟩ : ∃ ff, 20 * t.length + 20 - i = ff + 1 := ⟨20 * t.length + 20 - i - 1, by omega⟩
        have hff2 : 20 * t.length + 20 - (i + 1) = ff := by omega
        rw [hff] at hpl
        unfold M.play at hpl
        have test : EvT (tOr (tB (tIsN (tVar 4))) (tAnd (tTest (tOp rEq (tVar 9) (tC (.int 1)))) (tTest (tOp (rI0 fun i j => .bl (decide (i < j))) (tOp (rIxL K) (tVar 6) (tC (.int 0))) (tVar 4))))) [some (.ref d), some (.ref r), some (.ref rm), some (.int (sz : Int)), some (.int (nd : Int)), some (.int (pg : Int)), some (.ref nw'), some (.ref p7), some (.ref p8), some (.int (n : Int)), some (.int (i : Int)), y11, y12] H' (decide (n = 1) && decide (M.tg t' 1 < nd)) :=
          et_is (et_or (a := false) (et_isN (v := .int (nd : Int)) (ev_var rfl)) fun _ => et_and (et_is (et_test (ev_op (ev_var rfl) ev_c (rv_eq rfl))) (by simp; omega)) fun _ => et_is (et_test (ev_op (ev_op (ev_var rfl) ev_c (rv_ixL (sq_of hnw') (vi_tg (n := 1) (by omega) (by omega) (by rfl)))) (ev_var rfl) rv_I0)) (by simp)) (Bool.false_or _)
        by_cases c1 : n = 1 ∧ M.tg t' 1 < nd
        · rw [if_pos c1] at hpl
          have hR0 : R = [] := by cases hpl; rfl
          rw [hR0, List.append_nil] at hR
          subst hR
          refine q_when test (fun _ H3 e3 => ?_) fun z => by simp [c1.1, c1.2] at z
          exact fin rfl rfl rfl (eH.trans e3) (e3 _ _ h7') (by omega) (h8'.ex e3) ⟨_, eu_tup (ea_cons (x := .str "nothing") ev_c ea_nil) (by simp)⟩ _ _ _
        · rw [if_neg c1] at hpl
          refine q_when test (fun z => absurd (by simpa using z) c1) fun _ H3 e3 => ?_
          refine q_appU (e3 _ _ h7') (ev_var rfl) (eu_tup (ea_cons (x := .str "node") ev_c (ea_cons (x := .int (n : Int)) (ev_var rfl) ea_nil)) (by simp)) (by omega) fun u H4 hu e4 _ => ?_
          have e34 := e3.trans e4
          have x4 : Ex H (upd H4 p7 (.lst (evl ++ [.ref u]))) := Ex.mut (eH.trans e34) b7
          have x7 : (upd H4 p7 (.lst (evl ++ [.ref u]))) p7 = some (.lst (evl ++ [.ref u])) := upd_same
          have xn : (upd H4 p7 (.lst (evl ++ [.ref u]))) nw' = some (.lst (vi t')) := by rw [upd_ne w7]; exact e34 _ _ hnw'
          have x8 : RowsAt (upd H4 p7 (.lst (evl ++ [.ref u]))) p8 [p7, p8] Rd := (h8'.ex e34).updN (e34 _ _ h7') (by simp) n78.symm
          generalize upd H4 p7 (.lst (evl ++ [.ref u])) = H5 at x4 x7 xn x8 ⊢
          by_cases c2 : n < pg
          · rw [if_pos c2] at hpl
            have dn : ∀ {H : Hp}, H nw' = some (.lst (vi t')) → EvL (tCall (sp_law_down K CS CT) [] E0 (tCons (tVar 6) (tCons (tVar 5) (tCons (tVar 4) (tCons (tVar 9) tNil))))) [some (.ref d), some (.ref r), some (.ref rm), some (.int (sz : Int)), some (.int (nd : Int)), some (.int (pg : Int)), some (.ref nw'), some (.ref p7), some (.ref p8), some (.int (n : Int)), some (.int (i : Int)), y11, y12] H
                (if nd ≤ M.tg t' (2 * n) then [.int ((2 * n : Nat) : Int), .non] else if nd ≤ M.tg t' (2 * n + 1) then [.int ((2 * n + 1 : Nat) : Int), .non] else [.int (n : Int), .int (M.gr t' n : Int)]) := fun h =>
              el_call (ea_cons (x := .ref nw') (ev_var rfl) (ea_cons (x := .int (pg : Int)) (ev_var rfl) (ea_cons (x := .int (nd : Int)) (ev_var rfl) (ea_cons (x := .int (n : Int)) (ev_var rfl) ea_nil)))) fun H1 e1 Q q E => ⟨nw', pg, nd, n, t', rfl, e1 _ _ h, n1, by omega, q⟩
            refine q_if (b := true) (et_is (et_test (ev_op (ev_var rfl) (ev_var rfl) rv_I0)) (by simp; omega)) (fun _ H6 e6 => ?_) fun z => by cases z
            by_cases c3 : nd ≤ M.tg t' (2 * n)
            · rw [if_pos c3] at hpl
              refine s_unl2 (el_is (dn (e6 _ _ xn)) (by rw [if_pos c3])) fun H7 e7 => ?_
              refine s_when (b := false) (et_is (et_notN (v := .non) (ev_var rfl)) (by simp)) (fun z => by cases z) fun _ H8 e8 => ?_
              have e58 := (e6.trans e7).trans e8
              exact ⟨nw', t', 2 * n, _, Rd, _, _, _, rfl, x4.trans e58, e58 _ _ xn, w7, w8, e58 _ _ x7, by simp; omega, x8.ex e58, by omega, hV', by omega, by omega, R, T', by rw [hff2]; exact hpl, hR⟩
            · rw [if_neg c3] at hpl
              by_cases c4 : nd ≤ M.tg t' (2 * n + 1)
              · rw [if_pos c4] at hpl
                refine s_unl2 (el_is (dn (e6 _ _ xn)) (by rw [if_neg c3, if_pos c4])) fun H7 e7 => ?_
                refine s_when (b := false) (et_is (et_notN (v := .non) (ev_var rfl)) (by simp)) (fun z => by cases z) fun _ H8 e8 => ?_
                have e58 := (e6.trans e7).trans e8
                exact ⟨nw', t', 2 * n + 1, _, Rd, _, _, _, rfl, x4.trans e58, e58 _ _ xn, w7, w8, e58 _ _ x7, by simp; omega, x8.ex e58, by omega, hV', by omega, by omega, R, T', by rw [hff2]; exact hpl, hR⟩
              · rw [if_neg c4] at hpl
                refine s_unl2 (el_is (dn (e6 _ _ xn)) (by rw [if_neg c3, if_neg c4])) fun H7 e7 => ?_
                refine s_when (b := true) (et_is (et_notN (v := .int (M.gr t' n : Int)) (ev_var rfl)) (by simp)) (fun _ H8 e8 => ?_) fun z => by cases z
                have e58 := (e6.trans e7).trans e8
                cases e : M.play nd pg sz rs (M.clsOf b) ff (M.wr t' (M.low t' n (M.gr t' n))) 1 with
                | none => rw [e] at hpl; cases hpl
                | some RT =>
                  rw [e] at hpl
                  have hRT : R = M.low t' n (M.gr t' n) :: RT.1 := by cases hpl; rfl
                  refine playlow (HB := H) (e58 _ _ xn) hV' n1 n2 (hV'.le.gr n) (e58 _ _ x7) (by simp; omega) (x8.ex e58) (by omega) n78 w7 w8 (x4.trans e58) b7 b8 fun H9 nw2 eB9 v7 v8 hn9 h79 h89 => ?_
                  obtain ⟨ev, h79⟩ := h79
                  exact ⟨nw2, _, 1, _, _, _, _, _, rfl, eB9, hn9, v7, v8, h79, by simp; omega, h89, by simp; omega, hV'.wr (hV'.low n1 n2 (hV'.le.gr n)), Nat.le_refl _, by omega, RT.1, RT.2, by rw [hff2]; exact e, by rw [← hR, hRT, List.append_assoc]; rfl⟩
          · rw [if_neg c2] at hpl
            refine q_if (b := false) (et_is (et_test (ev_op (ev_var rfl) (ev_var rfl) rv_I0)) (by simp; omega)) (fun z => by cases z) fun _ H6 e6 => ?_
            have en : (n : Int) - (pg : Int) = ((n - pg : Nat) : Int) := by omega
            have hix : n - pg < rs.length := by omega
            refine q_asg (v := .int ((n - pg : Nat) : Int)) (ev_is (ev_op (ev_var rfl) (ev_var rfl) rv_I0) (by rw [en])) fun H7 e7 => ?_
            have e57 := e6.trans e7
            refine q_appU (e57 _ _ x7) (ev_var rfl) (eu_tup (ea_cons (x := .str "look") ev_c (ea_cons (x := .int ((n - pg : Nat) : Int)) (ev_var rfl) ea_nil)) (by simp)) (by simp; omega) fun u2 H8 hu2 e8 _ => ?_
            have e58 := e57.trans e8
            have z4 : Ex H (upd H8 p7 (.lst (evl ++ [.ref u] ++ [.ref u2]))) := Ex.mut (x4.trans e58) b7
            have z7 : (upd H8 p7 (.lst (evl ++ [.ref u] ++ [.ref u2]))) p7 = some (.lst (evl ++ [.ref u] ++ [.ref u2])) := upd_same
            have zn : (upd H8 p7 (.lst (evl ++ [.ref u] ++ [.ref u2]))) nw' = some (.lst (vi t')) := by rw [upd_ne w7]; exact e58 _ _ xn
            have z8 : RowsAt (upd H8 p7 (.lst (evl ++ [.ref u] ++ [.ref u2]))) p8 [p7, p8] Rd := (x8.ex e58).updN (e58 _ _ x7) (by simp) n78.symm
            have zl : (evl ++ [V.ref u] ++ [V.ref u2]).length ≤ 3 * i + 2 := by simp; omega
            generalize upd H8 p7 (.lst (evl ++ [.ref u] ++ [.ref u2])) = H9 at z4 z7 zn z8 ⊢
            generalize evl ++ [V.ref u] ++ [V.ref u2] = evl2 at zl z7
            have hroom : ∀ {H' : Hp} {a11 : Option V}, Ex H H' → Ev (tOp (rIxL K) (tVar 2) (tVar 12)) [some (.ref d), some (.ref r), some (.ref rm), some (.int (sz : Int)), some (.int (nd : Int)), some (.int (pg : Int)), some (.ref nw'), some (.ref p7), some (.ref p8), some (.int (n : Int)), some (.int (i : Int)), a11, some (.int ((n - pg : Nat) : Int))] H' (.int ((rs.getD (n - pg) 0 : Nat) : Int)) := fun e => ev_op (ev_var rfl) (ev_var rfl) (rv_ixL (sq_of (e _ _ hrm)) (vi_at hix))
            by_cases c3 : sz ≤ rs.getD (n - pg) 0
            · rw [if_pos c3] at hpl
              have hR0 : R = [] := by cases hpl; rfl
              rw [hR0, List.append_nil] at hR
              subst hR
              refine q_when (b := true) (et_is (et_test (ev_op (hroom z4) (ev_var rfl) rv_I0)) (decide_eq_true (Int.ofNat_le.mpr c3))) (fun _ H10 e10 => ?_) fun z => by cases z
              exact fin rfl rfl rfl (z4.trans e10) (e10 _ _ z7) (by omega) (z8.ex e10) ⟨_, eu_tup (ea_cons (x := .str "found") ev_c (ea_cons (x := .int ((n - pg : Nat) : Int)) (ev_var rfl) ea_nil)) (by simp)⟩ _ _ _
            · rw [if_neg c3] at hpl
              refine q_when (b := false) (et_is (et_test (ev_op (hroom z4) (ev_var rfl) rv_I0)) (decide_eq_false fun h => c3 (Int.ofNat_le.mp h))) (fun z => by cases z) fun _ H10 e10 => ?_
              refine s_asg (ev_law_class (x := rs.getD (n - pg) 0) (ev_var rfl) (hp.ex (z4.trans e10)) (hroom (z4.trans e10))) fun H11 e11 => ?_
              refine s_when (b := true) (et_is (et_notN (v := .int (M.clsOf b (rs.getD (n - pg) 0) : Int)) (ev_var rfl)) (by simp)) (fun _ H12 e12' => ?_) fun z => by cases z
              have e9 := (e10.trans e11).trans e12'
              have hcl := M.clsOf_le b (rs.getD (n - pg) 0)
              cases e : M.play nd pg sz rs (M.clsOf b) ff (M.wr t' (M.low t' n (M.clsOf b (rs.getD (n - pg) 0)))) 1 with
              | none => rw [e] at hpl; cases hpl
              | some RT =>
                rw [e] at hpl
                have hRT : R = M.low t' n (M.clsOf b (rs.getD (n - pg) 0)) :: RT.1 := by cases hpl; rfl
                refine playlow (HB := H) (e9 _ _ zn) hV' n1 n2 hcl (e9 _ _ z7) (by omega) (z8.ex e9) (by omega) n78 w7 w8 (z4.trans e9) b7 b8 fun H13 nw2 eB9 v7 v8 hn9 h79 h89 => ?_
                obtain ⟨ev, h79⟩ := h79
                exact ⟨nw2, _, 1, _, _, _, _, _, rfl, eB9, hn9, v7, v8, h79, by simp; omega, h89, by simp; omega, hV'.wr (hV'.low n1 n2 hcl), Nat.le_refl _, by omega, RT.1, RT.2, by rw [hff2]; exact e, by rw [← hR, hRT, List.append_assoc]; rfl⟩
      · obtain ⟨nw', t', n, evl, Rd, y10, y11, y12, rfl, eH, hnw', w7, w8, h7', hl7, h8', hl8, hV', n1, n2, R, T', hpl, hR⟩ := hP
        have : (((20 * t.length + 20 : Nat) : Int)).toNat = 20 * t.length + 20 := by omega
        rw [this, Nat.sub_self] at hpl
        cases hpl
end
end Rt
end
section
/-! The law's draws. Printed by gen_rules.py from RtK.src. -/
namespace Rt
open PySem PySem.Spec PyProof.Rows L2 Evl GenW

/-- all but the object at p is kept -/
def ExP (p : Addr) (H H' : Hp) : Prop := ∀ b o, b ≠ p → H b = some o → H' b = some o
theorem ExP.refl (p : Addr) (H : Hp) : ExP p H H := fun _ _ _ h => h
theorem ExP.of {p : Addr} {H H' : Hp} (e : Ex H H') : ExP p H H' := fun b o _ h => e b o h
theorem ExP.trans {p : Addr} {H H1 H2 : Hp} (a : ExP p H H1) (b : ExP p H1 H2) : ExP p H H2 := fun x o n h => b x o n (a x o n h)
theorem ExP.upd {p : Addr} {H H' : Hp} {o : HO} (e : ExP p H H') : ExP p H (L2.upd H' p o) := fun b u n h => by rw [upd_ne n]; exact e b u n h
theorem ExP.mut {p q : Addr} {H H' : Hp} {o : HO} (e : ExP p H H') (hq : H q = none) : ExP p H (L2.upd H' q o) := fun b u n h => by rw [upd_ne (ne_of_none h hq)]; exact e b u n h
theorem ExP.new {p q : Addr} {H H' : Hp} {o : HO} (e : ExP p H H') (hq : H' q = none) : ExP p H (L2.upd H' q o) := e.trans (.of (Ex.new hq))
/-- the pool -/
def PoolAt (H : Hp) (p : Addr) : Prop := ∃ a b : Int, H p = some (.lst [.int a, .int b]) ∧ 0 ≤ a ∧ 0 ≤ b ∧ b < 2147483647
theorem PoolAt.ex {H H' : Hp} {p : Addr} (h : PoolAt H p) (e : Ex H H') : PoolAt H' p := by
  obtain ⟨a, b, h1, h2⟩ := h
  exact ⟨a, b, e _ _ h1, h2⟩
theorem PoolAt.updN {H : Hp} {p q : Addr} {o : HO} (h : PoolAt H p) (ne : p ≠ q) : PoolAt (L2.upd H q o) p := by
  obtain ⟨a, b, h1, h2⟩ := h
  exact ⟨a, b, by rw [upd_ne ne]; exact h1, h2⟩
theorem PoolAt.ne {H : Hp} {p q : Addr} (h : PoolAt H p) (hq : H q = none) : q ≠ p := by
  obtain ⟨a, b, h1, _⟩ := h
  exact (ne_of_none h1 hq).symm
/-- fresh ahead is fresh before -/
theorem ExP.back {p q : Addr} {H H' : Hp} (e : ExP p H H') (hP : PoolAt H' p) (h : H' q = none) : H q = none := by
  have ne := hP.ne h
  cases h1 : H q with
  | none => rfl
  | some o => rw [e q o ne h1] at h; cases h
/-- a value with the property R, the pool drawn from -/
def Gp (p : Addr) (te : TE) (σ : L2.St) (H : Hp) (R : V → Hp → Prop) : Prop := ∀ Q : VK, (∀ v H1, ExP p H H1 → PoolAt H1 p → R v H1 → Q v H1) → te σ H Q
def RetPool (p : Addr) (R : V → Hp → Prop) (H : Hp) (Q : VK) : Prop := ∀ v H1, ExP p H H1 → PoolAt H1 p → R v H1 → Q v H1
def Below (m : Nat) (v : V) (_ : Hp) : Prop := ∃ d : Nat, v = .int (d : Int) ∧ d < m
section
variable {K : PySem.W.Frag} {CS CT p : Addr} {σ : L2.St} {H H' : Hp} {te tm ta tb : TE} {v : V} {R R' : V → Hp → Prop} {D : Ends} {tz : TS} {i j : Nat} {m : Nat}
theorem Gp.of (hP : PoolAt H p) (h : Gv te σ H R) : Gp p te σ H R := fun Q q => h H (Ex.refl H) Q fun v H1 e r => q v H1 (.of e) (hP.ex e) r
theorem Gp.ofL {xs : List V} (hP : PoolAt H p) (h : EvL te σ H xs) : Gp p te σ H (fun v H1 => ∃ q, v = .ref q ∧ H q = none ∧ H1 q = some (.lst xs)) := fun Q q => h H (Ex.refl H) Q fun l H1 hl e r => q _ H1 (.of e) (hP.ex e) ⟨l, rfl, hl, r⟩
theorem Gp.imp (h : Gp p te σ H R) (hr : ∀ v H1, ExP p H H1 → PoolAt H1 p → R v H1 → R' v H1) : Gp p te σ H R' := fun Q q => h Q fun v H1 e hP r => q v H1 e hP (hr v H1 e hP r)
theorem s_asgP (h : Gp p te σ H R) (k : ∀ v H1, ExP p H H1 → PoolAt H1 p → R v H1 → D.nx (σ.set i (some v)) H1) : tAsg te (gName i) D σ H := h _ k
theorem q_asgP (h : Gp p te σ H R) (k : ∀ v H1, ExP p H H1 → PoolAt H1 p → R v H1 → tz D (σ.set i (some v)) H1) : tSeq (tAsg te (gName i)) tz D σ H := h _ k
theorem s_retP (h : Gp p te σ H R) (k : RetPool p R H D.rt) : tRet te D σ H := h _ k
def rDrawn (m : Nat) : Prop := 1 ≤ m ∧ m ≤ 100000
end
section
variable {P : Program} {w : World} {K : PySem.W.Frag} {mg : Str → Option Value} {base : Heap} {CS CT pgs : Addr}
def sp_law_draw (K : PySem.W.Frag) (CS CT : Addr) : Sp := fun vs H Q _ => ∃ (p : Addr) (m : Nat), vs = [.ref p, .int (m : Int)] ∧ PoolAt H p ∧ 1 ≤ m ∧ m ≤ 100000 ∧ RetPool p (Below m) H Q
theorem ok_law_draw  {f : Addr} {fd : FuncData} (F : FnP K "_law_draw" "_law_draw" d_law_draw [] [] f fd) (T : Tx K mg CS CT pgs) : FnOk P w K mg base CX0 1 f fd ["_law_pool", "_law_many"] (sp_law_draw K CS CT) := by
  refine F.ok sc_law_draw (fun vs H Q E h => ?_) (fun cdv A outer s H vs Q E hr h => ?_)
  · obtain ⟨p, m, rfl, _⟩ := h
    rfl
  · obtain ⟨p, m, rfl, ⟨a, b, hp, ha, hb, hb2⟩, m1, m2, k⟩ := h
    refine ⟨_, PSs.nox (pss_cons (ps_if (pt_cmpR op_gt (pe_ix ix_list (pv 0) pe_int (fun _ _ => rfl)) pe_int (nomark _)) (pss_cons (ps_set (i := 2) sc_law_draw.nd rfl (.inl rfl) (pe_op op_mod (pe_callTy call_int1 (by rfl) T.b_int bt_int (pa_cons (pe_ix ix_list (pv 0) pe_int (fun _ _ => rfl)) pa_nil)) (pv 1)))
    (pss_cons (ps_asg (pe_op op_fdiv (pe_ix ix_list (pv 0) pe_int (fun _ _ => rfl)) (pv 1)) (pg_sub (pv 0) pe_int set_list))
    (pss_one (ps_ret (pv 2))))) pss_nil)
    (pss_cons (ps_asg (pe_op op_mod (pe_callTy call_int1 (by rfl) T.b_int bt_int (pa_cons (pe_op op_add (pe_op op_mul (pe_ix ix_list (pv 0) pe_int (fun _ _ => rfl)) pe_int) pe_int) pa_nil)) pe_int) (pg_sub (pv 0) pe_int set_list))
    (pss_one (ps_ret (pe_op op_mod (pe_op op_fdiv (pe_op op_mod (pe_callTy call_int1 (by rfl) T.b_int bt_int (pa_cons (pe_op op_mul (pe_ix ix_list (pv 0) pe_int (fun _ _ => rfl)) (pe_ix ix_list (pv 0) pe_int (fun _ _ => rfl))) pa_nil)) pe_int) pe_int) (pv 1)))))), ?_⟩
    have g0 : ∀ {H' : Hp} {x y : Int}, H' p = some (.lst [.int x, .int y]) → RV (rIxL K) (.ref p) (.int 0) H' (.int x) := fun h => rv_ixL (sq_of h) (atI_nat (j := 0) rfl)
    have g1 : ∀ {H' : Hp} {x y : Int}, H' p = some (.lst [.int x, .int y]) → RV (rIxL K) (.ref p) (.int 1) H' (.int y) := fun h => rv_ixL (sq_of h) (atI_nat (j := 1) rfl)
    refine q_when (b := decide (0 < a)) (et_test (ev_op (ev_op (ev_var rfl) ev_c (g0 hp)) ev_c rv_I0)) (fun z H1 e1 => ?_) fun z H1 e1 => ?_
    · refine q_asg (v := .int (a % (m : Int))) (ev_op (ev_int1 (ev_op (ev_var rfl) ev_c (g0 (e1 _ _ hp)))) (ev_var rfl) (rv_I (by show (0 : Int) < (m : Int); omega))) fun H2 e2 => ?_
      have hp2 := e2 _ _ (e1 _ _ hp)
      refine q_setL (j := 0) hp2 (v := .int (a / (m : Int))) (ev_op (ev_op (ev_var rfl) ev_c (g0 hp2)) (ev_var rfl) (rv_I (by show (0 : Int) < (m : Int) ∧ (m : Int) < 1073741824; omega))) (ev_var rfl) ev_c (by simp) fun H3 e3 => ?_
      refine s_ret (ev_var rfl) fun H4 e4 => k _ H4 ((ExP.of ((e1.trans e2).trans e3)).upd.trans (.of e4)) (PoolAt.ex ⟨a / (m : Int), b, upd_same, Int.ediv_nonneg ha (by omega), hb, hb2⟩ e4) ⟨(a % (m : Int)).toNat, ?_, ?_⟩
      · congr 1
        have := Int.emod_nonneg a (show (m : Int) ≠ 0 by omega)
        omega
      · have h1 := Int.emod_nonneg a (show (m : Int) ≠ 0 by omega)
        have h2 := Int.emod_lt_of_pos a (show (0 : Int) < (m : Int) by omega)
        omega
    · have hx1 := Int.emod_nonneg (b * 39373 + 7) (show (2147483647 : Int) ≠ 0 by decide)
      have hx2 := Int.emod_lt_of_pos (b * 39373 + 7) (show (0 : Int) < 2147483647 by decide)
      refine q_setL (j := 1) (e1 _ _ hp) (v := .int ((b * 39373 + 7) % 2147483647)) (ev_op (ev_int1 (ev_op (ev_op (ev_op (ev_var rfl) ev_c (g1 (e1 _ _ hp))) ev_c (rv_I (.inr ⟨by decide, by decide⟩))) ev_c rv_I0)) ev_c (rv_I (by show (0 : Int) < 2147483647; decide))) (ev_var rfl) ev_c (by simp) fun H2 e2 => ?_
      generalize (b * 39373 + 7) % 2147483647 = y at hx1 hx2
      have hy1 := Int.emod_nonneg (y * y) (show (2147483629 : Int) ≠ 0 by decide)
      have hp2 : (upd H2 p (.lst ([V.int a, .int b].set 1 (.int y)))) p = some (.lst [.int a, .int y]) := upd_same
      have eP : ExP p H (upd H2 p (.lst ([V.int a, .int b].set 1 (.int y)))) := (ExP.of (e1.trans e2)).upd
      generalize upd H2 p (.lst ([V.int a, .int b].set 1 (.int y))) = H3 at hp2 eP ⊢
      refine s_ret (ev_op (ev_op (ev_op (ev_int1 (ev_op (ev_op (ev_var rfl) ev_c (g1 hp2)) (ev_op (ev_var rfl) ev_c (g1 hp2)) (rv_I (.inl ⟨by omega, by omega⟩)))) ev_c (rv_I (by show (0 : Int) < 2147483629; decide))) ev_c (rv_I ⟨by decide, by decide⟩)) (ev_var rfl) (rv_I (by show (0 : Int) < (m : Int); omega))) fun H4 e4 =>
        k _ H4 (eP.trans (.of e4)) (PoolAt.ex ⟨a, y, hp2, ha, hx1, hx2⟩ e4) ⟨(y * y % 2147483629 / 32 % (m : Int)).toNat, ?_, ?_⟩
      · congr 1
        have := Int.emod_nonneg (y * y % 2147483629 / 32) (show (m : Int) ≠ 0 by omega)
        omega
      · have h1 := Int.emod_nonneg (y * y % 2147483629 / 32) (show (m : Int) ≠ 0 by omega)
        have h2 := Int.emod_lt_of_pos (y * y % 2147483629 / 32) (show (0 : Int) < (m : Int) by omega)
        omega
theorem gp_draw {p : Addr} {σ : L2.St} {H : Hp} {tp tm : TE} {m : Nat} {x : Int} (hP : PoolAt H p) (hp : Ev tp σ H (.ref p)) (hm : Ev tm σ H (.int x)) (e : x = (m : Int)) (m1 : 1 ≤ m) (m2 : m ≤ 100000) : Gp p (tCall (sp_law_draw K CS CT) [] E0 (tCons tp (tCons tm tNil))) σ H (Below m) := fun Q q => by
  subst e
  exact (ea_cons hp (ea_cons hm ea_nil)) H (Ex.refl H) _ fun H1 e1 => ⟨p, m, rfl, hP.ex e1, m1, m2, fun v H2 e2 hP2 r => q v H2 ((ExP.of e1).trans e2) hP2 r⟩
/-- 1 + draw -/
theorem gp_1draw {p : Addr} {σ : L2.St} {H : Hp} {te : TE} {m : Nat} (h : Gp p te σ H (Below m)) : Gp p (tOp (rI0 fun i j => .int (i + j)) (tC (.int 1)) te) σ H (fun v _ => ∃ d : Nat, v = .int (d : Int) ∧ 1 ≤ d ∧ d ≤ m) := fun Q q =>
  h _ fun v H1 e hP ⟨d, hv, hd⟩ => ⟨1, (d : Int), rfl, hv, q _ H1 e hP ⟨1 + d, by simp, by omega, by omega⟩⟩
/-- list[draw] -/
theorem gp_pick {p : Addr} {σ : L2.St} {H : Hp} {te ta : TE} {xs : List V} (hP : PoolAt H p) (ha : EvL ta σ H xs) (h : ∀ H1, ExP p H H1 → PoolAt H1 p → Gp p te σ H1 (Below xs.length)) : Gp p (tOp (rIxL K) ta te) σ H (fun v _ => v ∈ xs) := fun Q q =>
  ha H (Ex.refl H) _ fun l H1 hl e1 h1 => h H1 (.of e1) (hP.ex e1) _ fun v H2 e2 hP2 ⟨d, hv, hd⟩ => by
    have hl2 := e2 l _ (hP.ne hl) h1
    exact ⟨l, xs, (d : Int), xs[d], rfl, hv, sq_of hl2, atI_nat (List.getElem?_eq_getElem hd), q _ H2 ((ExP.of e1).trans e2) hP2 (List.getElem_mem hd)⟩
def sp_law_opened (K : PySem.W.Frag) (CS CT : Addr) : Sp := fun vs H Q _ => ∃ (a : Addr) (k : Nat) (ns : List Int), vs = [.ref a, .int (k : Int)] ∧ SqL K H a (ns.map V.int) ∧ k ≤ 1000 ∧ ∀ p H2, H p = none → Ex H H2 → PoolAt H2 p → Q (.ref p) H2
theorem ok_law_opened  {f : Addr} {fd : FuncData} (F : FnP K "_law_opened" "_law_opened" d_law_opened [] [] f fd) (T : Tx K mg CS CT pgs) : FnOk P w K mg base CX0 1 f fd ["_law_script", "_law_k"] (sp_law_opened K CS CT) := by
  refine F.ok sc_law_opened (fun vs H Q E h => ?_) (fun cdv A outer s H vs Q E hr h => ?_)
  · obtain ⟨a, k, ns, rfl, _⟩ := h
    rfl
  · obtain ⟨a, k, ns, rfl, hS, hk, q⟩ := h
    refine ⟨_, PSs.nox (pss_cons (ps_set (i := 2) sc_law_opened.nd rfl (.inl rfl) (pe_ifExp (pt_cmpR op_lt (pv 1) (pe_callB call_len_seq (by rfl) T.b_len bt_len (pa_cons (pv 0) pa_nil)) (nomark _)) (pe_ix ix_list (pv 0) (pv 1) (fun _ _ => rfl)) pe_int))
    (pss_cons (ps_set (i := 3) sc_law_opened.nd rfl (.inl rfl) (pe_callB (call_max2 (by rfl)) (by rfl) T.b_max bt_max (pa_cons (pe_callTy call_int1 (by rfl) T.b_int bt_int (pa_cons (pv 2) pa_nil)) (pa_cons (pe_callTy call_int1 (by rfl) T.b_int bt_int (pa_cons (pe_op op_sub (pe_un un_neg pe_int) (pv 2)) pa_nil)) pa_nil))))
    (pss_one (ps_ret (pe_lst (pa_cons (pe_op op_mul (pv 3) (pe_callTy call_int1 (by rfl) T.b_int bt_int (pa_cons (pe_cmpR op_ge (pv 3) (pe_op op_pow pe_int pe_int) (nomark _)) pa_nil))) (pa_cons (pe_op op_mod (pe_callTy call_int1 (by rfl) T.b_int bt_int (pa_cons (pe_op op_mul (pe_op op_add (pe_op op_add (pe_op op_mod (pv 3) pe_int) (pe_op op_mul pe_int (pv 1))) pe_int) pe_int) pa_nil)) pe_int) pa_nil))))))), ?_⟩
    have cell : ∃ c : Int, Ev (tIf (tTest (tOp (rI0 fun i j => .bl (decide (i < j))) (tVar 1) (tCB (rLenS K) (tCons (tVar 0) tNil)))) (tOp (rIxL K) (tVar 0) (tVar 1)) (tC (.int 5))) [some (.ref a), some (.int (k : Int)), none, none] H (.int c) := by
      by_cases c1 : k < ns.length
      · refine ⟨ns[k], ev_if (b := true) (et_is (et_test (ev_op (ev_var rfl) (ev_len (ev_var rfl) hS) rv_I0)) (by simp; omega)) (fun _ => ev_op (ev_var rfl) (ev_var rfl) (rv_ixL hS (atI_nat ?_))) fun z => by cases z⟩
        rw [List.getElem?_map, List.getElem?_eq_getElem c1]
        rfl
      · exact ⟨5, ev_if (b := false) (et_is (et_test (ev_op (ev_var rfl) (ev_len (ev_var rfl) hS) rv_I0)) (by simp; omega)) (fun z => by cases z) fun _ => ev_c⟩
    obtain ⟨c, hc⟩ := cell
    refine q_asg hc fun H1 e1 => ?_
    refine q_asg (ev_max2 (ev_int1 (ev_var rfl)) (ev_int1 (ev_op (ev_un ev_c ru_neg) (ev_var rfl) rv_I0))) fun H2 e2 => ?_
    have hg : (0 : Int) ≤ (if -1 - c > c then -1 - c else c) := by split <;> omega
    generalize (if -1 - c > c then -1 - c else c) = g at hg
    have hm1 := Int.emod_nonneg g (show (2147483629 : Int) ≠ 0 by decide)
    have hm2 := Int.emod_lt_of_pos g (show (0 : Int) < 2147483629 by decide)
    have hz : (0 : Int) ≤ (if decide ((10 : Int) ^ (18 : Int).toNat ≤ g) = true then 1 else 0) ∧ (if decide ((10 : Int) ^ (18 : Int).toNat ≤ g) = true then (1 : Int) else 0) ≤ 1 := by split <;> omega
    have e9 := e1.trans e2
    refine s_retL (el_lst (ea_cons (x := .int (g * (if decide ((10 : Int) ^ (18 : Int).toNat ≤ g) = true then 1 else 0))) (ev_op (ev_var rfl) (ev_intB (ev_op (ev_var rfl) (ev_op ev_c ev_c (rv_I ⟨by decide, by decide, by decide⟩)) rv_I0)) (rv_I (.inr ⟨by omega, by omega⟩)))
      (ea_cons (x := .int (((g % 2147483629 + 7919 * (k : Int) + 17) * 48271) % 2147483647)) (ev_op (ev_int1 (ev_op (ev_op (ev_op (ev_op (ev_var rfl) ev_c (rv_I (by show (0 : Int) < 2147483629; decide))) (ev_op ev_c (ev_var rfl) (rv_I (.inl ⟨by decide, by decide⟩))) rv_I0) ev_c rv_I0) ev_c (rv_I (.inr ⟨by decide, by decide⟩)))) ev_c (rv_I (by show (0 : Int) < 2147483647; decide))) ea_nil)) (by simp)) fun p H3 hp e3 h3 => q p H3 (fresh_back e9 hp) (e9.trans e3) ⟨_, _, h3, ?_, Int.emod_nonneg _ (by decide), Int.emod_lt_of_pos _ (by decide)⟩
    exact Int.mul_nonneg hg hz.1
end
end Rt
end
section
/-! The law's scenes. Printed by gen_rules.py from RtL.src. -/
namespace Rt
open PySem PySem.Spec PyProof.Rows L2 Evl GenW

/-- the plan, apart from the pool -/
def PlanAt (p : Addr) (H : Hp) (d : Addr) (m : Nat) (b : List Nat) : Prop := M.VS m b ∧ ∃ l, d ≠ p ∧ l ≠ p ∧ H d = some (.dK (planK m l)) ∧ H l = some (.lst (vi b))
theorem PlanAt.e {p d : Addr} {H : Hp} {m : Nat} {b : List Nat} (h : PlanAt p H d m b) : PlanE H d m b := by
  obtain ⟨v, l, _, _, h3, h4⟩ := h
  exact ⟨v, l, h3, h4⟩
theorem PlanAt.ex {p d : Addr} {H H' : Hp} {m : Nat} {b : List Nat} (h : PlanAt p H d m b) (e : ExP p H H') : PlanAt p H' d m b := by
  obtain ⟨v, l, h1, h2, h3, h4⟩ := h
  exact ⟨v, l, h1, h2, e _ _ h1 h3, e _ _ h2 h4⟩
theorem PlanAt.updN {p d q : Addr} {H : Hp} {m : Nat} {b : List Nat} {o : HO} {H0 : Hp} (h : PlanAt p H d m b) (h0 : PlanAt p H0 d m b) (hl : ∀ l, H d = some (.dK (planK m l)) → l ≠ q) (hd : d ≠ q) : PlanAt p (L2.upd H q o) d m b := by
  obtain ⟨v, l, h1, h2, h3, h4⟩ := h
  exact ⟨v, l, h1, h2, by rw [upd_ne hd]; exact h3, by rw [upd_ne (hl l h3)]; exact h4⟩
section
variable {K : PySem.W.Frag} {CS CT p : Addr} {σ : L2.St} {H H' : Hp} {te tm ta tb t1 t2 : TE} {tt : TT} {v x y : V} {R R' : V → Hp → Prop} {D : Ends} {tz tu tw : TS} {i j : Nat} {m : Nat} {xs ys : List V}
/-- a test with draws -/
def GpT (p : Addr) (tt : TT) (σ : L2.St) (H : Hp) : Prop := ∀ Q : Bool → Hp → Prop, (∀ b H1, ExP p H H1 → PoolAt H1 p → Q b H1) → tt σ H Q
theorem gt_eq0 (h : Gp p te σ H (Below m)) : GpT p (tTest (tOp rEq te (tC (.int 0)))) σ H := fun Q q => h _ fun v H1 e hP ⟨d, hv, hd⟩ => by
  subst hv
  exact ⟨rfl, _, rfl, q _ H1 e hP⟩
theorem q_ifP (h : GpT p tt σ H) (h1 : ∀ H1, ExP p H H1 → PoolAt H1 p → tu { D with nx := tz D } σ H1) (h2 : ∀ H1, ExP p H H1 → PoolAt H1 p → tz D σ H1) : tSeq (tIfS tt tu tNext) tz D σ H := h _ fun b H1 e hP => by
  cases b with
  | true =>
    show tu { D with nx := tz D } σ H1
    exact h1 H1 e hP
  | false =>
    show tz D σ H1
    exact h2 H1 e hP
theorem gp_if (h : GpT p tt σ H) (h1 : ∀ H1, ExP p H H1 → PoolAt H1 p → Gp p ta σ H1 R) (h2 : ∀ H1, ExP p H H1 → PoolAt H1 p → Gp p tb σ H1 R) : Gp p (tIf tt ta tb) σ H R := fun Q q => h _ fun b H1 e hP => by
  cases b with
  | true =>
    show ta σ H1 Q
    exact h1 H1 e hP Q fun v H2 e2 hP2 r => q v H2 (e.trans e2) hP2 r
  | false =>
    show tb σ H1 Q
    exact h2 H1 e hP Q fun v H2 e2 hP2 r => q v H2 (e.trans e2) hP2 r
/-- l.append(a drawn thing) -/
theorem s_appP {l : Addr} (hl : H l = some (.lst xs)) (hi : σ[i]? = some (some (.ref l))) (h : Gp p te σ H R) (nl : l ≠ p) (hz : xs.length < 100000) (k : ∀ v H1, ExP p H H1 → PoolAt H1 p → R v H1 → D.nx σ (upd H1 l (.lst (xs ++ [v])))) :
    tDrop (tBM K "list" rAppend (tVar i) (tCons te tNil)) D σ H :=
  ⟨.ref l, hi, Or.inl ⟨rfl, xs, sq_of hl⟩, h _ fun v H1 e hP r => ⟨l, xs, v, rfl, rfl, e l _ nl hl, sz_lt hz, k v H1 e hP r⟩⟩
theorem q_parLN (h1 : EvL t1 σ H xs) (k : ∀ a q H1, H a = none → H q = none → a ≠ q → Ex H H1 → H1 a = some (.lst xs) → H1 q = some (.lst []) → tz D ((σ.set i (some (.ref a))).set j (some (.ref q))) H1) :
    tSeq (tPar i j (tCons t1 (tCons (tLst tNil) tNil))) tz D σ H :=
  h1 H (Ex.refl H) _ fun a H1 ha e1 hx => ⟨by show 0 ≤ sizeLine; decide, fun q hq =>
    ⟨_, _, rfl, k a q _ ha (fresh_back e1 hq) (ne_of_none hx hq) (e1.trans (Ex.new hq)) ((Ex.new hq) _ _ hx) upd_same⟩⟩
/-- a, b = a drawn thing, [..] -/
theorem q_parPL (h1 : Gp p t1 σ H R) (h2 : ∀ H1, ExP p H H1 → PoolAt H1 p → EvL t2 σ H1 xs) (k : ∀ v q H1, ExP p H H1 → PoolAt H1 p → H q = none → H1 q = some (.lst xs) → (∃ H2, ExP p H H2 ∧ R v H2) → tz D ((σ.set i (some v)).set j (some (.ref q))) H1) :
    tSeq (tPar i j (tCons t1 (tCons t2 tNil))) tz D σ H :=
  h1 _ fun v H1 e1 hP r => h2 H1 e1 hP H1 (Ex.refl _) _ fun q H2 hq e2 h2 => ⟨_, _, rfl, k v q H2 (e1.trans (.of e2)) (hP.ex e2) (e1.back hP hq) h2 ⟨H1, e1, r⟩⟩
theorem el_listRg {a b : Int} (h1 : Ev ta σ H (.int a)) (h2 : Ev tb σ H (.int b)) (ok : RgOk a b) : EvL (tLstRg (tRg2 ta tb)) σ H (rgV a b) := fun H1 e Q q =>
  h1 H1 e _ fun H2 e2 => h2 H2 (e.trans e2) _ fun H3 e3 => ⟨a, b, rfl, rfl, ok, fun l hl => q l _ (fresh_back (e2.trans e3) hl) ((e2.trans e3).trans (Ex.new hl)) upd_same⟩
/-- for i in range(a drawn int) -/
theorem q_forR1P {Rn : Nat → Prop} (h : Gp p te σ H (fun v _ => ∃ n : Nat, v = .int (n : Int) ∧ n ≤ 100000 ∧ Rn n))
    (k : ∀ n H1, ExP p H H1 → PoolAt H1 p → Rn n → ∃ Pv : Nat → L2.St → Hp → Prop, Pv 0 σ H1 ∧ (∀ (i : Nat) σ' H', i < n → Pv i σ' H' → tu { D with nx := Pv (i + 1), ct := Pv (i + 1), bk := tz D } (σ'.set j (some (.int (i : Int)))) H') ∧ ∀ σ' H', Pv n σ' H' → tz D σ' H') :
    tSeq (tFor (iRng1 (tCons te tNil)) (gName j) tu) tz D σ H := h _ fun v H1 e hP ⟨n, hv, hn, hR⟩ => by
  obtain ⟨Pv, p0, ps, pd⟩ := k n H1 e hP hR
  refine ⟨(n : Int), by rw [hv], by omega, by omega, for_range (lo := 0) (n := ((n : Int)).toNat) Pv p0 (fun i σ' H' hi hp => ?_) (fun σ' H' hp => pd σ' H' (by simpa using hp))⟩
  have e0 : (0 : Int) + (i : Int) = (i : Int) := Int.zero_add _
  show tu { D with nx := Pv (i + 1), ct := Pv (i + 1), bk := tz D } (σ'.set j (some (.int ((0 : Int) + (i : Int))))) H'
  rw [e0]
  exact ps i σ' H' (by omega) hp
theorem s_forR1P {Rn : Nat → Prop} (h : Gp p te σ H (fun v _ => ∃ n : Nat, v = .int (n : Int) ∧ n ≤ 100000 ∧ Rn n))
    (k : ∀ n H1, ExP p H H1 → PoolAt H1 p → Rn n → ∃ Pv : Nat → L2.St → Hp → Prop, Pv 0 σ H1 ∧ (∀ (i : Nat) σ' H', i < n → Pv i σ' H' → tu { D with nx := Pv (i + 1), ct := Pv (i + 1), bk := D.nx } (σ'.set j (some (.int (i : Int)))) H') ∧ ∀ σ' H', Pv n σ' H' → D.nx σ' H') :
    tFor (iRng1 (tCons te tNil)) (gName j) tu D σ H := q_forR1P (tz := fun D' => D.nx) h k
def rMin2 : List V → Hp → VK → Prop := fun xs H Q => ∃ i j, xs = [.int i, .int j] ∧ Q (.int (if j < i then j else i)) H
theorem ev_min2 {a b : Int} (ha : Ev ta σ H (.int a)) (hb : Ev tb σ H (.int b)) : Ev (tCB rMin2 (tCons ta (tCons tb tNil))) σ H (.int (if b < a then b else a)) := fun H1 e Q q =>
  ha H1 e _ fun H2 e2 => hb H2 (e.trans e2) _ fun H3 e3 => ⟨a, b, rfl, q H3 (e2.trans e3)⟩
theorem gv_sorted {ns : List Int} (h : EvL te σ H (ns.map V.int)) (hl : ns.length < 64) : Gv (tCB (rSorted K) (tCons te tNil)) σ H (fun v H1 => ∃ (l : Addr) (ns' : List Int), v = .ref l ∧ H l = none ∧ ns'.Perm ns ∧ ns'.Pairwise (· ≤ ·) ∧ H1 l = some (.lst (ns'.map V.int))) := fun H1 e Q q =>
  h H1 e _ fun a H2 _ e2 h2 => ⟨a, ns, rfl, sq_of h2, hl, fun ns' l h1 h3 h4 => q _ _ (e2.trans (Ex.new h4)) ⟨l, ns', rfl, fresh_back (e.trans e2) h4, h1, h3, upd_same⟩⟩
/-- return {a: x, b: a new thing} -/
theorem s_retD2 {a b : Str} (n1 : ¬ a = b) (h1 : Ev t1 σ H x) (h2 : Gv t2 σ H R) (k : ∀ q H1 H2 y, H q = none → Ex H H1 → R y H1 → H1 q = some (.dK []) → H2 = upd H1 q (.dK [(.inr a, x), (.inr b, y)]) → D.rt (.ref q) H2) :
    tRet (tDisp [(tC (.str a), t1), (tC (.str b), t2)]) D σ H := fun q hq => by
  have e0 : Ex H (upd H q (.dK [])) := Ex.new hq
  refine h1 _ e0 _ fun H1 e1 => h2 H1 (e0.trans e1) _ fun y H2 e2 r => ?_
  refine ⟨(e1.trans e2) _ _ upd_same, [(.inr a, x), (.inr b, y)], rfl, by simp, k q H2 _ y hq ((e0.trans e1).trans e2) r ((e1.trans e2) _ _ upd_same) (by rw [merge2 n1])⟩
end
/-! ### picked and sorted -/
theorem sorted_vs {B : List Nat} {ns' : List Int} (hp : ns'.Perm (B.map fun (n : Nat) => (n : Int))) (hs : ns'.Pairwise (· ≤ ·)) (hnd : B.Nodup) : ∃ b : List Nat, ns'.map V.int = vi b ∧ b.Perm B ∧ b.Pairwise (· < ·) := by
  have hnn : ∀ x ∈ ns', ((x.toNat : Nat) : Int) = x := fun x hx => by
    obtain ⟨n, _, rfl⟩ := List.mem_map.mp (hp.mem_iff.mp hx)
    simp
  have hperm : (ns'.map Int.toNat).Perm B := by
    have := hp.map Int.toNat
    rw [List.map_map] at this
    have e : List.map (Int.toNat ∘ fun (n : Nat) => (n : Int)) B = B := by
      conv => rhs; rw [← List.map_id B]
      exact List.map_congr_left fun n _ => by simp
    rwa [e] at this
  refine ⟨ns'.map Int.toNat, ?_, hperm, ?_⟩
  · unfold vi
    rw [List.map_map]
    exact List.map_congr_left fun x hx => congrArg V.int (hnn x hx).symm
  · have h1 : (ns'.map Int.toNat).Pairwise (· ≤ ·) := by
      rw [List.pairwise_map]
      exact hs.imp fun h => Int.toNat_le_toNat h
    have h2 : (ns'.map Int.toNat).Pairwise (· ≠ ·) := hperm.nodup_iff.mpr hnd
    exact (List.pairwise_and_iff.mpr ⟨h1, h2⟩).imp fun h => Nat.lt_of_le_of_ne h.1 h.2
theorem vi_erase : (xs : List Nat) → (d : Nat) → (vi xs).eraseIdx d = vi (xs.eraseIdx d)
  | [], _ => rfl
  | _ :: _, 0 => rfl
  | x :: xs, d + 1 => congrArg (V.int (x : Int) :: ·) (vi_erase xs d)
theorem erase_perm : {xs : List Nat} → {d : Nat} → (h : d < xs.length) → (xs[d] :: xs.eraseIdx d).Perm xs
  | _ :: _, 0, _ => List.Perm.refl _
  | x :: xs, d + 1, h => by
    have h' : d < xs.length := by simpa using h
    exact (List.Perm.swap x (xs[d]'h') (xs.eraseIdx d)).trans ((erase_perm (d := d) (xs := xs) h').cons x)
theorem yes_if {σ : L2.St} {H : Hp} {A B : Hp → Prop} (h : A H) : tYes σ H fun b H3 => if b = true then A H3 else B H3 := by
  show if true = true then A H else B H
  rw [if_pos rfl]
  exact h
section
variable {P : Program} {w : World} {K : PySem.W.Frag} {mg : Str → Option Value} {base : Heap} {CS CT pgs : Addr}
def sp_law_bounds (K : PySem.W.Frag) (CS CT : Addr) : Sp := fun vs H Q _ => ∃ (p : Addr) (top : Nat), vs = [.ref p, .int (top : Int)] ∧ PoolAt H p ∧ 1 ≤ top ∧ top ≤ 1000 ∧ RetPool p (fun v H1 => ∃ d m b, v = .ref d ∧ PlanAt p H1 d m b) H Q
theorem ok_law_bounds (D_law_draw : Dn P w K mg base 1 "_law_draw" ["_law_pool", "_law_many"] [] (sp_law_draw K CS CT)) {f : Addr} {fd : FuncData} (F : FnP K "_law_bounds" "_law_bounds" d_law_bounds [] [] f fd) (T : Tx K mg CS CT pgs) : FnOk P w K mg base CX0 2 f fd ["_law_pool", "_law_top"] (sp_law_bounds K CS CT) := by
  refine F.ok sc_law_bounds (fun vs H Q E h => ?_) (fun cdv A outer s H vs Q E hr h => ?_)
  · obtain ⟨p, top, rfl, _⟩ := h
    rfl
  · obtain ⟨p, top, rfl, hP, t1, t2, k⟩ := h
    refine ⟨_, PSs.nox (pss_cons (ps_set (i := 2) sc_law_bounds.nd rfl (.inl rfl) (pe_op op_add pe_int (pe_callD D_law_draw hr (by decide) (by rfl) (pa_cons (pv 0) (pa_cons (pv 1) pa_nil)))))
    (pss_cons (ps_par (i := 3) (j := 4) rfl sc_law_bounds.nd rfl rfl (by decide) rfl rfl (pa_cons (pe_listRg (by rfl) (by rfl) T.b_list (prg_2 (by rfl) T.b_range pe_int (pe_op op_add (pv 2) pe_int))) (pa_cons (pe_lst pa_nil) pa_nil)) (by rfl))
    (pss_cons (ps_for PassesOwn.never rfl (pi_range1 (by rfl) T.b_range (pa_cons (pe_op op_add pe_int (pe_callD D_law_draw hr (by decide) (by rfl) (pa_cons (pv 0) (pa_cons (pe_callB (call_min2 (by rfl)) (by rfl) T.b_min bt_min (pa_cons pe_int (pa_cons (pv 2) pa_nil))) pa_nil)))) pa_nil)) (pg_name (i := 5) sc_law_bounds.nd rfl (.inl rfl)) (pss_one (ps_expr (pe_bm PySem.F.plainAttrs_list PySem.F.slot_list_append PySem.F.type_list_append mt_append (pv 4) (pa_cons (pe_bm PySem.F.plainAttrs_list PySem.F.slot_list_pop PySem.F.type_list_pop mt_popAt (pv 3) (pa_cons (pe_callD D_law_draw hr (by decide) (by rfl) (pa_cons (pv 0) (pa_cons (pe_callB call_len_seq (by rfl) T.b_len bt_len (pa_cons (pv 3) pa_nil)) pa_nil))) pa_nil)) pa_nil)))))
    (pss_one (ps_ret (pe_disp (pps_cons pe_str (pv 2) (pps_cons pe_str (pe_callB cr_sorted (by rfl) T.b_sorted bt_sorted (pa_cons (pe_lc (te := (tCB (fun xs H Q => (∃ i, xs = [.int i] ∧ Q (.int i) H) ∨ ∃ k, xs = [.bl k] ∧ Q (.int (if k then 1 else 0)) H) (tCons (tVar 6) tNil))) (tt := tYes) (own := [("_law_one", 6)]) rfl sc_law_bounds.nd (pi_list (pv 4)) (blkOk_by (own := [("_law_one", 6)]) (N := ["_law_pool", "_law_top", "_law_most", "_law_menu", "_law_bounds_here", "_law_step", "_law_one"]) (sc := defScope d_law_bounds) (by decide +kernel)) (fun _ _ _ _ _ => (pg_name (i := 6) sc_law_bounds.nd rfl (.inl rfl) (.inr rfl))) (fun _ _ _ _ _ => pts_nil) (fun _ _ _ _ _ => (pe_callTy call_int1 (by rfl) T.b_int bt_int (pa_cons (pv 6) pa_nil)))) pa_nil)) pps_nil)) rfl rfl (by simp) (by decide))))))), ?_⟩
    refine q_asgP (gp_1draw (gp_draw hP (ev_var rfl) (ev_var rfl) rfl t1 (by omega))) fun v H1 x1 hP1 hv => ?_
    obtain ⟨m, rfl, m1, m2⟩ := hv
    have erg : rgV 1 ((m : Int) + 1) = vi (List.range' 1 m) := by
      unfold rgV vi
      rw [show ((m : Int) + 1 - 1).toNat = m by omega, List.range'_eq_map_range, List.map_map]
      refine List.map_congr_left fun i _ => ?_
      simp
    refine q_parLN (el_is (el_listRg (a := 1) (b := (m : Int) + 1) ev_c (ev_op (ev_var rfl) ev_c rv_I0) (RgOk.of_le (by omega) (by omega) (by omega) (by omega))) erg) fun mn q H2 hmn hq nmq e2 h2m h2q => ?_
    have hP2 := hP1.ex e2
    have fm : H mn = none := x1.back hP1 hmn
    have fq : H q = none := x1.back hP1 hq
    have nmp : mn ≠ p := hP1.ne hmn
    have nqp : q ≠ p := hP1.ne hq
    have x2 := x1.trans (.of e2)
    have hmin : (if (m : Int) < 8 then (m : Int) else 8) = ((min 8 m : Nat) : Int) := by
      split <;> omega
    refine q_forR1P (Rn := fun n => 1 ≤ n ∧ n ≤ min 8 m) ((gp_1draw (gp_draw hP2 (ev_var rfl) (ev_min2 ev_c (ev_var rfl)) hmin (by omega) (by omega))).imp fun v _ _ _ ⟨d, hv, d1, d2⟩ => ⟨d, hv, by omega, d1, d2⟩) fun n H3 x3 hP3 ⟨n1, n2⟩ => ?_
    refine ⟨fun i σ' H' => ∃ (B Mn : List Nat) (y5 : Option V), σ' = [some (.ref p), some (.int (top : Int)), some (.int (m : Int)), some (.ref mn), some (.ref q), y5, none] ∧ ExP p H H' ∧ PoolAt H' p ∧ H' mn = some (.lst (vi Mn)) ∧ H' q = some (.lst (vi B)) ∧ B.length = i ∧ (B ++ Mn).Perm (List.range' 1 m),
      ⟨[], List.range' 1 m, none, rfl, x2.trans x3, hP3, x3 _ _ nmp h2m, x3 _ _ nqp h2q, rfl, List.Perm.refl _⟩, fun i σ' H' hi hW => ?_, fun σ' H' hW => ?_⟩
    · obtain ⟨B, Mn, y5, rfl, xH, hPH, hm', hq', hBl, hperm⟩ := hW
      have hML : Mn.length + i = m := by
        have := hperm.length_eq
        rw [List.length_append, List.length_range', hBl] at this
        omega
      refine ⟨.ref q, rfl, Or.inl ⟨rfl, _, sq_of hq'⟩, .ref mn, rfl, Or.inl ⟨rfl, _, sq_of hm'⟩, gp_draw (m := Mn.length) hPH (ev_var rfl) (ev_is (ev_len (ev_var rfl) (sq_of hm')) (by rw [vi_len])) rfl (by omega) (by omega) _ fun v H4 x4 hP4 ⟨d, hv, hd⟩ => ?_⟩
      subst hv
      have hm4 := x4 _ _ nmp hm'
      have hq4 := x4 _ _ nqp hq'
      refine ⟨mn, vi Mn, (d : Int), d, .int ((Mn.getD d 0 : Nat) : Int), rfl, rfl, hm4, by omega, by omega, PySem.StrLaws.seqIndex_nonneg (by omega) (by rw [vi_len]; omega), vi_get hd, q, vi B, _, rfl, rfl, by rw [upd_ne nmq.symm]; exact hq4, sz_lt (by rw [vi_len]; omega), ?_⟩
      refine ⟨B ++ [Mn.getD d 0], Mn.eraseIdx d, _, rfl, ((xH.trans x4).mut fm).mut fq, (hP4.updN nmp.symm).updN nqp.symm, ?_, ?_, by simp [hBl], ?_⟩
      · rw [upd_ne nmq, upd_same]
        rw [vi_erase]
      · rw [upd_same, vi_append]
        rfl
      · refine List.Perm.trans ?_ hperm
        rw [List.append_assoc]
        refine List.Perm.append_left B ?_
        rw [getD_at hd]
        exact erase_perm hd
    · obtain ⟨B, Mn, y5, rfl, xH, hPH, hm', hq', hBl, hperm⟩ := hW
      have hnd : (B ++ Mn).Nodup := hperm.nodup_iff.mpr (List.nodup_range' (s := 1) (n := m))
      have hBn : B.Nodup := (List.nodup_append.mp hnd).1
      have hBr : ∀ x ∈ B, 1 ≤ x ∧ x ≤ m := fun x hx => by
        have := hperm.mem_iff.mp (List.mem_append_left Mn hx)
        rw [List.mem_range'_1] at this
        omega
      have el : EvL (tLc (iList K (tVar 4)) (gName 6) tYes (tCB (fun xs H Q => (∃ i, xs = [.int i] ∧ Q (.int i) H) ∨ ∃ k, xs = [.bl k] ∧ Q (.int (if k then 1 else 0)) H) (tCons (tVar 6) tNil)) [6]) [some (.ref p), some (.int (top : Int)), some (.int (m : Int)), some (.ref mn), some (.ref q), y5, none] H' _ :=
        el_lcL (fun _ => true) (fun i => .int ((B.getD i 0 : Nat) : Int)) (ev_var rfl) (sq_of hq') (by rw [vi_len]; omega) (fun _ => rfl) (fun _ _ _ _ _ => ev_yes) fun i x H2 e2 hi _ => by
          obtain ⟨h1, rfl⟩ := vi_some hi
          exact ev_int1 (ev_var rfl)
      have eg : given (vi B).length (fun _ => true) (fun i => V.int ((B.getD i 0 : Nat) : Int)) = (B.map fun (n : Nat) => (n : Int)).map V.int := by
        rw [given_all fun _ _ => rfl, List.map_map, vi_len]
        refine List.ext_getElem (by simp) fun i h1 h2 => ?_
        simp only [List.getElem_map, List.getElem_range, Function.comp]
        rw [getD_at (by simpa using h2)]
      rw [eg] at el
      refine s_retD2 (by decide +kernel) (ev_var rfl) (gv_sorted el (by rw [List.length_map]; omega)) fun d H4 H5 y hd e4 hy hdk h5 => ?_
      obtain ⟨l, ns', rfl, hl0, hpm, hsort, hl⟩ := hy
      obtain ⟨b, hb1, hb2, hb3⟩ := sorted_vs hpm hsort hBn
      rw [hb1] at hl
      have nld : l ≠ d := ne_of hl hdk (by simp)
      subst h5
      refine k _ _ ((xH.trans (.of e4)).mut (xH.back hPH hd)) ((hPH.ex e4).updN (hPH.ne hd).symm) ⟨d, m, b, rfl, ⟨by omega, by omega, by rw [hb2.length_eq]; omega, by rw [hb2.length_eq]; omega, fun x hx => hBr x (hb2.mem_iff.mp hx), hb3⟩, l, hPH.ne hd, hPH.ne hl0, upd_same, by rw [upd_ne nld]; exact hl⟩
def sp_law_pages (K : PySem.W.Frag) (CS CT : Addr) : Sp := fun vs H Q _ => ∃ p : Addr, vs = [.ref p, .int 5] ∧ PoolAt H p ∧ RetPool p (fun v _ => ∃ pg : Nat, v = .int (pg : Int) ∧ (pg = 2 ∨ pg = 4 ∨ pg = 8 ∨ pg = 16 ∨ pg = 32)) H Q
theorem ok_law_pages (D_law_draw : Dn P w K mg base 1 "_law_draw" ["_law_pool", "_law_many"] [] (sp_law_draw K CS CT)) {f : Addr} {fd : FuncData} (F : FnP K "_law_pages" "_law_pages" d_law_pages [] [] f fd) (T : Tx K mg CS CT pgs) : FnOk P w K mg base CX0 2 f fd ["_law_pool", "_law_many"] (sp_law_pages K CS CT) := by
  refine F.ok sc_law_pages (fun vs H Q E h => ?_) (fun cdv A outer s H vs Q E hr h => ?_)
  · obtain ⟨p, rfl, _⟩ := h
    rfl
  · obtain ⟨p, rfl, hP, k⟩ := h
    refine ⟨_, PSs.nox (pss_one (ps_ret (pe_ix ix_list (pe_lst (pa_cons pe_int (pa_cons pe_int (pa_cons pe_int (pa_cons pe_int (pa_cons pe_int pa_nil)))))) (pe_callD D_law_draw hr (by decide) (by rfl) (pa_cons (pv 0) (pa_cons (pv 1) pa_nil))) (fun _ _ => rfl)))), ?_⟩
    refine s_retP ((gp_pick (xs := [.int 2, .int 4, .int 8, .int 16, .int 32]) hP (el_lst (ea_cons ev_c (ea_cons ev_c (ea_cons ev_c (ea_cons ev_c (ea_cons ev_c ea_nil))))) (by simp)) fun H1 x1 hP1 => gp_draw (m := 5) hP1 (ev_var rfl) (ev_var rfl) rfl (by omega) (by omega)).imp fun v H1 _ _ hv => ?_) k
    simp only [List.mem_cons, List.not_mem_nil, or_false] at hv
    rcases hv with h | h | h | h | h
    · exact ⟨2, h, .inl rfl⟩
    · exact ⟨4, h, .inr (.inl rfl)⟩
    · exact ⟨8, h, .inr (.inr (.inl rfl))⟩
    · exact ⟨16, h, .inr (.inr (.inr (.inl rfl)))⟩
    · exact ⟨32, h, .inr (.inr (.inr (.inr rfl)))⟩
def sp_law_rooms (K : PySem.W.Frag) (CS CT : Addr) : Sp := fun vs H Q _ => ∃ (p d : Addr) (m pg : Nat) (b : List Nat), vs = [.ref p, .ref d, .int (pg : Int)] ∧ PoolAt H p ∧ PlanAt p H d m b ∧ pg ≤ 32 ∧ RetPool p (fun v H1 => ∃ r rs, v = .ref r ∧ H r = none ∧ H1 r = some (.lst (vi rs)) ∧ rs.length = pg ∧ ∀ x ∈ rs, x ≤ m) H Q
theorem ok_law_rooms (D_law_draw : Dn P w K mg base 1 "_law_draw" ["_law_pool", "_law_many"] [] (sp_law_draw K CS CT)) {f : Addr} {fd : FuncData} (F : FnP K "_law_rooms" "_law_rooms" d_law_rooms [] [] f fd) (T : Tx K mg CS CT pgs) : FnOk P w K mg base CX0 2 f fd ["_law_pool", "_law_plan", "_law_pages_here"] (sp_law_rooms K CS CT) := by
  refine F.ok sc_law_rooms (fun vs H Q E h => ?_) (fun cdv A outer s H vs Q E hr h => ?_)
  · obtain ⟨p, d, m, pg, b, rfl, _⟩ := h
    rfl
  · obtain ⟨p, d, m, pg, b, rfl, hP, hd, h32, k⟩ := h
    have hm := hd.1.m2
    refine ⟨_, PSs.nox (pss_one (ps_ret (pe_lc (te := (tCall (sp_law_draw K CS CT) [] E0 (tCons (tVar 0) (tCons (tOp (rI0 fun i j => .int (i + j)) (tDGet (tVar 1) (tC (.str "most"))) (tC (.int 1))) tNil)))) (tt := tYes) (own := [("_law_page", 3)]) rfl sc_law_rooms.nd (pi_range1 (by rfl) T.b_range (pa_cons (pv 2) pa_nil)) (blkOk_by (own := [("_law_page", 3)]) (N := ["_law_pool", "_law_plan", "_law_pages_here", "_law_page"]) (sc := defScope d_law_rooms) (by decide +kernel)) (fun _ _ _ _ _ => (pg_name (i := 3) sc_law_rooms.nd rfl (.inl rfl) (.inr rfl))) (fun _ _ _ _ _ => pts_nil) (fun _ _ _ _ _ => (pe_callD D_law_draw hr (by decide) (by rfl) (pa_cons (pv 0) (pa_cons (pe_op op_add (pe_dget (room1 hr) (pv 1) pe_str (fun _ _ => rfl)) pe_int) pa_nil))))))), ?_⟩
    have main : Gp p (tLc (iRng1 (tCons (tVar 2) tNil)) (gName 3) tYes (tCall (sp_law_draw K CS CT) [] E0 (tCons (tVar 0) (tCons (tOp (rI0 fun i j => .int (i + j)) (tDGet (tVar 1) (tC (.str "most"))) (tC (.int 1))) tNil))) [3]) [some (.ref p), some (.ref d), some (.int (pg : Int)), none] H
        (fun v H1 => ∃ r rs, v = .ref r ∧ H r = none ∧ H1 r = some (.lst (vi rs)) ∧ rs.length = pg ∧ ∀ x ∈ rs, x ≤ m) := fun Q q =>
      ⟨.int (pg : Int), rfl, (pg : Int), rfl, by omega, by omega, fun Dl hD =>
        lc_range (lo := 0) (n := ((pg : Int)).toNat) (fun i H' => ∃ rs : List Nat, ExP p H H' ∧ PoolAt H' p ∧ H' Dl = some (.lst (vi rs)) ∧ rs.length = i ∧ ∀ x ∈ rs, x ≤ m) ⟨[], (ExP.of (Ex.new hD)), hP.ex (Ex.new hD), upd_same, rfl, fun x h => by cases h⟩
          (fun i H' hi hp => by
            obtain ⟨rs, xH, hPH, hl, hlen, hle⟩ := hp
            refine ⟨rfl, yes_if ?_⟩
            refine gp_draw (m := m + 1) hPH (ev_var rfl) (ev_op (ev_most (ev_var rfl) (hd.ex xH).e) ev_c rv_I0) (by omega) (by omega) (by omega) _ fun v H1 x1 hP1 ⟨y, hv, hy⟩ => ?_
            subst hv
            have nDp : Dl ≠ p := hP.ne hD
            refine ⟨vi rs, x1 _ _ nDp hl, sz_lt (by rw [vi_len]; omega), rs ++ [y], (xH.trans x1).mut hD, hP1.updN nDp.symm, by rw [upd_same, vi_append]; rfl, by simp [hlen], fun x hx => ?_⟩
            rcases List.mem_append.mp hx with h | h
            · exact hle x h
            · rw [List.mem_singleton] at h
              omega)
          fun H' hp => by
            obtain ⟨rs, xH, hPH, hl, hlen, hle⟩ := hp
            exact q _ H' xH hPH ⟨Dl, rs, rfl, hD, hl, by omega, hle⟩⟩
    exact s_retP main k
end
end Rt
end
section
/-! The law's told rows and scenes. Printed by gen_rules.py from RtM.src. -/
namespace Rt
open PySem PySem.Spec PyProof.Rows L2 Evl GenW

def Upto (c : Nat) (v : V) (_ : Hp) : Prop := ∃ d : Nat, v = .int (d : Int) ∧ d ≤ c
section
variable {K : PySem.W.Frag} {CS CT p : Addr} {σ : L2.St} {H H' : Hp} {te tm ta tb : TE} {t : TA} {tt : TT} {v x y : V} {R R' : V → Hp → Prop} {D : Ends} {tz tu tw : TS} {i j : Nat} {m : Nat} {xs ys vs : List V} {sp : List V → Hp → VK → XK → Prop} {E : XK}
theorem gp_call (ha : EvA t σ H vs) (hs : ∀ H1, Ex H H1 → ∀ Q : VK, (∀ v H2, ExP p H1 H2 → PoolAt H2 p → R v H2 → Q v H2) → sp vs H1 Q E) : Gp p (tCall sp [] E t) σ H R := fun Q q =>
  ha H (Ex.refl H) _ fun H1 e1 => by
    show sp (vs ++ []) H1 Q E
    rw [List.append_nil]
    exact hs H1 e1 Q fun v H2 e2 hP r => q v H2 ((ExP.of e1).trans e2) hP r
/-- l[a drawn place] = a drawn thing -/
theorem s_setLP {l : Addr} {m : Nat} (hl : H l = some (.lst xs)) (nl : l ≠ p) (h : Gp p te σ H R) (ho : σ[i]? = some (some (.ref l))) (hm : m = xs.length) (hi : ∀ H1, ExP p H H1 → PoolAt H1 p → Gp p tb σ H1 (Below m))
    (k : ∀ v (j : Nat) H1 H2, ExP p H H1 → R v H1 → ExP p H H2 → PoolAt H2 p → j < xs.length → D.nx σ (upd H2 l (.lst (xs.set j v)))) : tAsg te (gSub (tVar i) tb rSetL) D σ H := h _ fun v H1 e1 hP1 r => ⟨_, ho, hi H1 e1 hP1 _ fun u H2 e2 hP2 ⟨j, hu, hj⟩ => by
      subst hu hm
      exact ⟨l, xs, (j : Int), j, rfl, rfl, (e1.trans e2) l _ nl hl, ixN_nat hj, k v j H1 H2 e1 r (e1.trans e2) hP2 hj⟩⟩
end
section
variable {P : Program} {w : World} {K : PySem.W.Frag} {mg : Str → Option Value} {base : Heap} {CS CT pgs : Addr}
def sp_law_told (K : PySem.W.Frag) (CS CT : Addr) : Sp := fun vs H Q _ => ∃ (p : Addr) (c pg : Nat), vs = [.ref p, .int (c : Int), .int (pg : Int)] ∧ PoolAt H p ∧ 1 ≤ c ∧ c ≤ 8 ∧ 1 ≤ pg ∧ pg ≤ 32 ∧ RetPool p (fun v H1 => ∃ r t, v = .ref r ∧ H r = none ∧ H1 r = some (.lst (vi t)) ∧ t.length = 2 * pg - 1 ∧ ∀ x ∈ t, x ≤ c) H Q
theorem ok_law_told (D_law_draw : Dn P w K mg base 1 "_law_draw" ["_law_pool", "_law_many"] [] (sp_law_draw K CS CT)) {f : Addr} {fd : FuncData} (F : FnP K "_law_told" "_law_told" d_law_told [] [] f fd) (T : Tx K mg CS CT pgs) : FnOk P w K mg base CX0 2 f fd ["_law_pool", "_law_classes", "_law_pages_here"] (sp_law_told K CS CT) := by
  refine F.ok sc_law_told (fun vs H Q E h => ?_) (fun cdv A outer s H vs Q E hr h => ?_)
  · obtain ⟨p, c, pg, rfl, _⟩ := h
    rfl
  · obtain ⟨p, c, pg, rfl, hP, c1, c8, p1, p32, k⟩ := h
    refine ⟨_, PSs.nox (pss_cons (ps_par (i := 3) (j := 4) rfl sc_law_told.nd rfl rfl (by decide) rfl rfl (pa_cons (pe_callD D_law_draw hr (by decide) (by rfl) (pa_cons (pv 0) (pa_cons pe_int pa_nil))) (pa_cons (pe_lst pa_nil) pa_nil)) (by rfl))
    (pss_cons (ps_for PassesOwn.never rfl (pi_range2 (by rfl) T.b_range (pa_cons pe_int (pa_cons (pe_op op_mul pe_int (pv 2)) pa_nil))) (pg_name (i := 5) sc_law_told.nd rfl (.inl rfl)) (pss_one (ps_if (PW.pt (pw_and (pt_cmpR op_eq (pv 3) pe_int (nomark _)) (pw_and1 (pt_cmpR op_gt (pv 5) pe_int (nomark _))))) (pss_one (ps_expr (pe_bm PySem.F.plainAttrs_list PySem.F.slot_list_append PySem.F.type_list_append mt_append (pv 4) (pa_cons (pe_callD D_law_draw hr (by decide) (by rfl) (pa_cons (pv 0) (pa_cons (pe_op op_add (pe_ix ix_list (pv 4) (pe_op op_sub (pe_op op_fdiv (pv 5) pe_int) pe_int) (fun _ _ => rfl)) pe_int) pa_nil))) pa_nil)))) (pss_one (ps_if (pt_cmpR op_eq (pv 3) pe_int (nomark _)) (pss_one (ps_expr (pe_bm PySem.F.plainAttrs_list PySem.F.slot_list_append PySem.F.type_list_append mt_append (pv 4) (pa_cons (pe_ifExp (pt_cmpR op_eq (pe_callD D_law_draw hr (by decide) (by rfl) (pa_cons (pv 0) (pa_cons pe_int pa_nil))) pe_int (nomark _)) (pe_callD D_law_draw hr (by decide) (by rfl) (pa_cons (pv 0) (pa_cons (pe_op op_add (pv 1) pe_int) pa_nil))) (pv 1)) pa_nil)))) (pss_one (ps_expr (pe_bm PySem.F.plainAttrs_list PySem.F.slot_list_append PySem.F.type_list_append mt_append (pv 4) (pa_cons (pe_callD D_law_draw hr (by decide) (by rfl) (pa_cons (pv 0) (pa_cons (pe_op op_add (pv 1) pe_int) pa_nil))) pa_nil)))))))))
    (pss_one (ps_ret (pv 4))))), ?_⟩
    refine q_parPL (gp_draw (m := 4) hP (ev_var rfl) ev_c rfl (by omega) (by omega)) (fun H1 x1 hP1 => el_lst (vs := []) ea_nil (by simp)) fun v q H1 x1 hP1 hq h1 hv => ?_
    obtain ⟨H9, _, kd, hv, _⟩ := hv
    subst hv
    have nqp : q ≠ p := hP.ne hq
    refine q_forR2 (lo := 1) (n := ((2 * pg : Nat) : Int)) (ea_cons ev_c (ea_cons (ev_is (ev_op ev_c (ev_var rfl) (rv_I (.inl ⟨by decide, by decide⟩))) (congrArg V.int (by omega))) ea_nil)) (by omega)
      (fun i σ' H' => ∃ (ts : List Nat) (y5 : Option V), σ' = [some (.ref p), some (.int (c : Int)), some (.int (pg : Int)), some (.int (kd : Int)), some (.ref q), y5] ∧ ExP p H H' ∧ PoolAt H' p ∧ H' q = some (.lst (vi ts)) ∧ ts.length = i ∧ ∀ x ∈ ts, x ≤ c)
      (fun H2 e2 => ⟨[], none, rfl, x1.trans (.of e2), hP1.ex e2, e2 _ _ h1, rfl, fun x h => by cases h⟩) (fun i σ' H' hi hW => ?_) fun σ' H' hW => ?_
    · obtain ⟨ts, y5, rfl, xH, hPH, hq', hl, hle⟩ := hW
      have fin : ∀ {te : TE} {H2 : Hp}, ExP p H' H2 → PoolAt H2 p → Gp p te [some (.ref p), some (.int (c : Int)), some (.int (pg : Int)), some (.int (kd : Int)), some (.ref q), some (.int (1 + (i : Int)))] H2 (Upto c) → ∀ {rt : VK} {bk : L2.St → Hp → Prop},
          tDrop (tBM K "list" rAppend (tVar 4) (tCons te tNil)) { nx := fun σ' H' => ∃ (ts : List Nat) (y5 : Option V), σ' = [some (.ref p), some (.int (c : Int)), some (.int (pg : Int)), some (.int (kd : Int)), some (.ref q), y5] ∧ ExP p H H' ∧ PoolAt H' p ∧ H' q = some (.lst (vi ts)) ∧ ts.length = i + 1 ∧ ∀ x ∈ ts, x ≤ c, rt := rt, ct := fun σ' H' => ∃ (ts : List Nat) (y5 : Option V), σ' = [some (.ref p), some (.int (c : Int)), some (.int (pg : Int)), some (.int (kd : Int)), some (.ref q), y5] ∧ ExP p H H' ∧ PoolAt H' p ∧ H' q = some (.lst (vi ts)) ∧ ts.length = i + 1 ∧ ∀ x ∈ ts, x ≤ c, bk := bk } [some (.ref p), some (.int (c : Int)), some (.int (pg : Int)), some (.int (kd : Int)), some (.ref q), some (.int (1 + (i : Int)))] H2 := by
        intro te H2 x2 hP2 hg rt bk
        refine s_appP (i := 4) (x2 _ _ nqp hq') rfl hg nqp (by rw [vi_len]; omega) fun v H3 x3 hP3 ⟨d, hv, hd⟩ => ?_
        subst hv
        refine ⟨ts ++ [d], _, rfl, ((xH.trans x2).trans x3).mut hq, hP3.updN nqp.symm, by rw [upd_same, vi_append]; rfl, by simp [hl], fun x hx => ?_⟩
        rcases List.mem_append.mp hx with h | h
        · exact hle x h
        · rw [List.mem_singleton] at h
          omega
      have full : ∀ {H2 : Hp}, PoolAt H2 p → Gp p (tCall (sp_law_draw K CS CT) [] E0 (tCons (tVar 0) (tCons (tOp (rI0 fun i j => .int (i + j)) (tVar 1) (tC (.int 1))) tNil))) [some (.ref p), some (.int (c : Int)), some (.int (pg : Int)), some (.int (kd : Int)), some (.ref q), some (.int (1 + (i : Int)))] H2 (Upto c) := fun hP2 =>
        (gp_draw (m := c + 1) hP2 (ev_var rfl) (ev_op (ev_var rfl) ev_c rv_I0) (by omega) (by omega) (by omega)).imp fun v _ _ _ ⟨d, hv, hd⟩ => ⟨d, hv, by omega⟩
      refine s_if (b := decide (kd = 0) && decide (0 < i)) (et_and (et_is (et_test (ev_op (ev_var rfl) ev_c (rv_eq rfl))) (by simp)) fun _ => et_is (et_test (ev_op (ev_var rfl) ev_c rv_I0)) (by simp; omega)) (fun z H2 e2 => ?_) fun z H2 e2 => ?_
      · have z2 : 0 < i := by simpa using (Bool.and_eq_true_iff.mp z).2
        have hPH2 := hPH.ex e2
        have hq2 := e2 _ _ hq'
        refine fin (.of e2) hPH2 ((gp_draw (m := M.tg ts ((i + 1) / 2) + 1) hPH2 (ev_var rfl) (ev_op (ev_op (ev_var rfl) (ev_op (ev_op (ev_var rfl) ev_c (rv_I ⟨by decide, by decide⟩)) ev_c rv_I0) (rv_ixL (sq_of hq2) (vi_tg (n := (i + 1) / 2) (by omega) (by omega) (by omega)))) ev_c rv_I0) (by omega) (by omega) ?_).imp fun v _ _ _ ⟨d, hv, hd⟩ => ⟨d, hv, ?_⟩)
        · have := (show M.AllLe c ts from hle).tg ((i + 1) / 2)
          omega
        · have := (show M.AllLe c ts from hle).tg ((i + 1) / 2)
          omega
      · refine s_if (b := decide (kd = 1)) (et_is (et_test (ev_op (ev_var rfl) ev_c (rv_eq rfl))) (by simp; omega)) (fun z3 H3 e3 => ?_) fun z3 H3 e3 => ?_
        · refine fin (.of (e2.trans e3)) (hPH.ex (e2.trans e3)) (gp_if (gt_eq0 (gp_draw (m := 4) (hPH.ex (e2.trans e3)) (ev_var rfl) ev_c rfl (by omega) (by omega))) (fun H4 x4 hP4 => full hP4) fun H4 x4 hP4 => Gp.of hP4 (Gv.of (ev_var rfl) fun _ _ => ⟨c, rfl, Nat.le_refl _⟩))
        · exact fin (.of (e2.trans e3)) (hPH.ex (e2.trans e3)) (full (hPH.ex (e2.trans e3)))
    · obtain ⟨ts, y5, rfl, xH, hPH, hq', hl, hle⟩ := hW
      exact s_ret (ev_var rfl) fun H2 e2 => k _ H2 (xH.trans (.of e2)) (hPH.ex e2) ⟨q, ts, rfl, hq, e2 _ _ hq', by omega, hle⟩
/-- a scene -/
def SceneAt (p : Addr) (H : Hp) (d r rm : Addr) (m pg : Nat) (b t rs : List Nat) : Prop :=
  PlanAt p H d m b ∧ H r = some (.lst (vi t)) ∧ r ≠ p ∧ H rm = some (.lst (vi rs)) ∧ rm ≠ p ∧ M.VT b.length pg t ∧ rs.length = pg ∧ ∀ x ∈ rs, x ≤ m
theorem SceneAt.ex {p d r rm : Addr} {H H' : Hp} {m pg : Nat} {b t rs : List Nat} (h : SceneAt p H d r rm m pg b t rs) (e : ExP p H H') : SceneAt p H' d r rm m pg b t rs := by
  obtain ⟨h1, h2, h3, h4, h5, h6⟩ := h
  exact ⟨h1.ex e, e _ _ h3 h2, h3, e _ _ h5 h4, h5, h6⟩
theorem gp_bounds {σ : L2.St} {H : Hp} {p : Addr} {tp tm : TE} {top : Nat} {x : Int} (hP : PoolAt H p) (hp : Ev tp σ H (.ref p)) (hm : Ev tm σ H (.int x)) (e : x = (top : Int)) (m1 : 1 ≤ top) (m2 : top ≤ 1000) :
    Gp p (tCall (sp_law_bounds K CS CT) [] E0 (tCons tp (tCons tm tNil))) σ H (fun v H1 => ∃ d m b, v = .ref d ∧ PlanAt p H1 d m b) := by
  subst e
  exact gp_call (ea_cons hp (ea_cons hm ea_nil)) fun H1 e1 Q q => ⟨p, top, rfl, hP.ex e1, m1, m2, q⟩
theorem gp_pages {σ : L2.St} {H : Hp} {p : Addr} {tp tm : TE} (hP : PoolAt H p) (hp : Ev tp σ H (.ref p)) (hm : Ev tm σ H (.int 5)) :
    Gp p (tCall (sp_law_pages K CS CT) [] E0 (tCons tp (tCons tm tNil))) σ H (fun v _ => ∃ pg : Nat, v = .int (pg : Int) ∧ (pg = 2 ∨ pg = 4 ∨ pg = 8 ∨ pg = 16 ∨ pg = 32)) :=
  gp_call (ea_cons hp (ea_cons hm ea_nil)) fun H1 e1 Q q => ⟨p, rfl, hP.ex e1, q⟩
theorem gp_rooms {σ : L2.St} {H : Hp} {p d : Addr} {tp td tm : TE} {m pg : Nat} {b : List Nat} (hP : PoolAt H p) (hp : Ev tp σ H (.ref p)) (hd : Ev td σ H (.ref d)) (hpl : PlanAt p H d m b) (hm : Ev tm σ H (.int (pg : Int))) (h32 : pg ≤ 32) :
    Gp p (tCall (sp_law_rooms K CS CT) [] E0 (tCons tp (tCons td (tCons tm tNil)))) σ H (fun v H1 => ∃ r rs, v = .ref r ∧ H r = none ∧ H1 r = some (.lst (vi rs)) ∧ rs.length = pg ∧ ∀ x ∈ rs, x ≤ m) :=
  gp_call (ea_cons hp (ea_cons hd (ea_cons hm ea_nil))) fun H1 e1 Q q => ⟨p, d, m, pg, b, rfl, hP.ex e1, hpl.ex (.of e1), h32, fun v H2 x2 hP2 ⟨r, rs, hv, hr, h⟩ => q v H2 x2 hP2 ⟨r, rs, hv, fresh_back e1 hr, h⟩⟩
def sp_law_scene (K : PySem.W.Frag) (CS CT : Addr) : Sp := fun vs H Q _ => ∃ (p : Addr) (top : Nat), vs = [.ref p, .int (top : Int), .int 5] ∧ PoolAt H p ∧ 1 ≤ top ∧ top ≤ 1000 ∧ RetPool p (fun v H1 => ∃ a d r rm m pg b t rs, v = .ref a ∧ H1 a = some (.lst [.ref d, .ref r, .ref rm]) ∧ SceneAt p H1 d r rm m pg b t rs) H Q
theorem ok_law_scene (D_law_bounds : Dn P w K mg base 2 "_law_bounds" ["_law_pool", "_law_top"] [] (sp_law_bounds K CS CT)) (D_law_pages : Dn P w K mg base 2 "_law_pages" ["_law_pool", "_law_many"] [] (sp_law_pages K CS CT)) (D_law_rooms : Dn P w K mg base 2 "_law_rooms" ["_law_pool", "_law_plan", "_law_pages_here"] [] (sp_law_rooms K CS CT)) (D_law_told : Dn P w K mg base 2 "_law_told" ["_law_pool", "_law_classes", "_law_pages_here"] [] (sp_law_told K CS CT)) (D_law_draw : Dn P w K mg base 1 "_law_draw" ["_law_pool", "_law_many"] [] (sp_law_draw K CS CT)) (D_law_exact : Dn P w K mg base 3 "_law_exact" ["_law_plan", "_law_rooms_here"] [] (sp_law_exact K CS CT)) {f : Addr} {fd : FuncData} (F : FnP K "_law_scene" "_law_scene" d_law_scene [] [] f fd) (T : Tx K mg CS CT pgs) : FnOk P w K mg base CX0 4 f fd ["_law_pool", "_law_top", "_law_many"] (sp_law_scene K CS CT) := by
  refine F.ok sc_law_scene (fun vs H Q E h => ?_) (fun cdv A outer s H vs Q E hr h => ?_)
  · obtain ⟨p, top, rfl, _⟩ := h
    rfl
  · obtain ⟨p, top, rfl, hP, t1, t2, k⟩ := h
    refine ⟨_, PSs.nox (pss_cons (ps_set (i := 3) sc_law_scene.nd rfl (.inl rfl) (pe_callD D_law_bounds hr (by decide) (by rfl) (pa_cons (pv 0) (pa_cons (pv 1) pa_nil))))
    (pss_cons (ps_set (i := 4) sc_law_scene.nd rfl (.inl rfl) (pe_callD D_law_pages hr (by decide) (by rfl) (pa_cons (pv 0) (pa_cons (pv 2) pa_nil))))
    (pss_cons (ps_set (i := 5) sc_law_scene.nd rfl (.inl rfl) (pe_callD D_law_rooms hr (by decide) (by rfl) (pa_cons (pv 0) (pa_cons (pv 3) (pa_cons (pv 4) pa_nil)))))
    (pss_cons (ps_set (i := 6) sc_law_scene.nd rfl (.inl rfl) (pe_callD D_law_told hr (by decide) (by rfl) (pa_cons (pv 0) (pa_cons (pe_callB call_len_seq (by rfl) T.b_len bt_len (pa_cons (pe_dget (room1 hr) (pv 3) pe_str (fun _ _ => rfl)) pa_nil)) (pa_cons (pv 4) pa_nil)))))
    (pss_cons (ps_if (pt_cmpR op_eq (pe_callD D_law_draw hr (by decide) (by rfl) (pa_cons (pv 0) (pa_cons pe_int pa_nil))) pe_int (nomark _)) (pss_cons (ps_set (i := 6) sc_law_scene.nd rfl (.inl rfl) (pe_callD D_law_exact hr (by decide) (by rfl) (pa_cons (pv 3) (pa_cons (pv 5) pa_nil))))
    (pss_one (ps_for PassesOwn.never rfl (pi_range1 (by rfl) T.b_range (pa_cons (pe_callD D_law_draw hr (by decide) (by rfl) (pa_cons (pv 0) (pa_cons pe_int pa_nil))) pa_nil)) (pg_name (i := 7) sc_law_scene.nd rfl (.inl rfl)) (pss_one (ps_asg (pe_callD D_law_draw hr (by decide) (by rfl) (pa_cons (pv 0) (pa_cons (pe_op op_add (pe_callB call_len_seq (by rfl) T.b_len bt_len (pa_cons (pe_dget (room1 hr) (pv 3) pe_str (fun _ _ => rfl)) pa_nil)) pe_int) pa_nil))) (pg_sub (pv 6) (pe_callD D_law_draw hr (by decide) (by rfl) (pa_cons (pv 0) (pa_cons (pe_callB call_len_seq (by rfl) T.b_len bt_len (pa_cons (pv 6) pa_nil)) pa_nil))) set_list)))))) pss_nil)
    (pss_one (ps_ret (pe_lst (pa_cons (pv 3) (pa_cons (pv 6) (pa_cons (pv 5) pa_nil))))))))))), ?_⟩
    refine q_asgP (gp_bounds hP (ev_var rfl) (ev_var rfl) rfl t1 t2) fun v H1 x1 hP1 hv => ?_
    obtain ⟨d, m, b, rfl, hd⟩ := hv
    refine q_asgP (gp_pages hP1 (ev_var rfl) (ev_var rfl)) fun v H2 x2 hP2 hv => ?_
    obtain ⟨pg, rfl, hpg⟩ := hv
    have h32 : pg ≤ 32 := by omega
    refine q_asgP (gp_rooms hP2 (ev_var rfl) (ev_var rfl) (hd.ex x2) (ev_var rfl) h32) fun v H3 x3 hP3 hv => ?_
    obtain ⟨rm, rs, rfl, hrm0, hrm, hrl, hrs⟩ := hv
    have nrm : rm ≠ p := hP2.ne hrm0
    have hd3 := (hd.ex x2).ex x3
    have hl8 := hd3.1.l8
    obtain ⟨l, hl, hlst⟩ := ev_bounds (σ := [some (.ref p), some (.int (top : Int)), some (.int 5), some (.ref d), some (.int (pg : Int)), some (.ref rm), none, none]) (td := tVar 3) (ev_var rfl) hd3.e
    refine q_asgP (R := fun v H4 => ∃ r t, v = .ref r ∧ H3 r = none ∧ H4 r = some (.lst (vi t)) ∧ t.length = 2 * pg - 1 ∧ M.AllLe b.length t) (gp_call (ea_cons (ev_var rfl) (ea_cons (ev_is (ev_len hl (sq_of hlst)) (by rw [vi_len])) (ea_cons (ev_var rfl) ea_nil))) fun H4 e4 Q q => ⟨p, b.length, pg, rfl, hP3.ex e4, hd3.1.l1, hl8, by omega, h32, fun v H5 x5 hP5 ⟨r, t, hv, hr, h⟩ => q v H5 x5 hP5 ⟨r, t, hv, fresh_back e4 hr, h⟩⟩) fun v H4 x4 hP4 hv => ?_
    obtain ⟨r, t, rfl, hr0, hr4, htl, hle⟩ := hv
    have x13 := (x1.trans x2).trans x3
    -- the return
    have fin : ∀ {H5 : Hp} {r : Addr} {t : List Nat} {y7 : Option V} {nx ct bk : L2.St → Hp → Prop}, ExP p H3 H5 → PoolAt H5 p → H3 r = none → H5 r = some (.lst (vi t)) → t.length = 2 * pg - 1 → M.AllLe b.length t →
        tRet (tLst (tCons (tVar 3) (tCons (tVar 6) (tCons (tVar 5) tNil)))) { nx := nx, rt := Q, ct := ct, bk := bk } [some (.ref p), some (.int (top : Int)), some (.int 5), some (.ref d), some (.int (pg : Int)), some (.ref rm), some (.ref r), y7] H5 := by
      intro H5 r t y7 nx ct bk x5 hP5 hr0 hr5 htl hle
      refine s_retL (el_lst (ea_cons (x := .ref d) (ev_var rfl) (ea_cons (x := .ref r) (ev_var rfl) (ea_cons (x := .ref rm) (ev_var rfl) ea_nil))) (by simp)) fun a H6 ha e6 h6 => ?_
      exact k _ H6 ((x13.trans x5).trans (.of e6)) (hP5.ex e6) ⟨a, d, r, rm, m, pg, b, t, rs, rfl, h6, hd3.ex (x5.trans (.of e6)), e6 _ _ hr5, hP3.ne hr0, (x5.trans (.of e6)) _ _ nrm hrm, nrm, ⟨by omega, by omega, hd3.1.l1, hl8, hle⟩, hrl, hrs⟩
    refine q_ifP (gt_eq0 (gp_draw (m := 3) hP4 (ev_var rfl) ev_c rfl (by omega) (by omega))) (fun H5 x5 hP5 => ?_) fun H5 x5 hP5 => ?_
    · have x45 := x4.trans x5
      refine q_asgP (R := fun v H6 => ∃ r t, v = .ref r ∧ H3 r = none ∧ H6 r = some (.lst (vi t)) ∧ t.length = 2 * pg - 1 ∧ M.AllLe b.length t) (Gp.of hP5 (gv_call (ea_cons (ev_var rfl) (ea_cons (ev_var rfl) ea_nil)) fun H6 e6 Q q E => ⟨d, rm, m, pg, b, rs, rfl, (hd3.ex (x45.trans (.of e6))).e, (x45.trans (.of e6)) _ _ nrm hrm, hrl, by omega, h32, fun s H7 t hs e7 h7 hl7 hc7 => q _ H7 e7 ⟨s, t, rfl, (x45.trans (.of e6)).back (hP5.ex e6) hs, h7, hl7, hc7⟩⟩)) fun v H6 x6 hP6 hv => ?_
      obtain ⟨r2, t2', rfl, hr20, hr6, htl6, hle6⟩ := hv
      have x46 := x45.trans x6
      have nr2 : r2 ≠ p := hP3.ne hr20
      refine s_forR1P (Rn := fun _ => True) ((gp_draw (m := 4) hP6 (ev_var rfl) ev_c rfl (by omega) (by omega)).imp fun v _ _ _ ⟨n, hv, hn⟩ => ⟨n, hv, by omega, trivial⟩) fun n H7 x7 hP7 _ => ?_
      refine ⟨fun i σ' H' => ∃ (t' : List Nat) (y7 : Option V), σ' = [some (.ref p), some (.int (top : Int)), some (.int 5), some (.ref d), some (.int (pg : Int)), some (.ref rm), some (.ref r2), y7] ∧ ExP p H3 H' ∧ PoolAt H' p ∧ H' r2 = some (.lst (vi t')) ∧ t'.length = 2 * pg - 1 ∧ M.AllLe b.length t',
        ⟨t2', _, rfl, x46.trans x7, hP7, x7 _ _ nr2 hr6, htl6, hle6⟩, fun i σ' H' hi hW => ?_, fun σ' H' hW => ?_⟩
      · obtain ⟨t', y7, rfl, xH, hPH, hr', htl', hle'⟩ := hW
        have hdH := hd3.ex xH
        obtain ⟨l, hl, hlst⟩ := ev_bounds (σ := [some (.ref p), some (.int (top : Int)), some (.int 5), some (.ref d), some (.int (pg : Int)), some (.ref rm), some (.ref r2), some (.int (i : Int))]) (td := tVar 3) (ev_var rfl) hdH.e
        refine s_setLP (m := (vi t').length) hr' nr2 (gp_draw (m := b.length + 1) hPH (ev_var rfl) (ev_op (ev_len hl (sq_of hlst)) ev_c rv_I0) (by rw [vi_len]; omega) (by omega) (by omega)) rfl rfl (fun H8 x8 hP8 => gp_draw hP8 (ev_var rfl) (ev_len (ev_var rfl) (sq_of (x8 _ _ nr2 hr'))) rfl (by rw [vi_len]; omega) (by rw [vi_len]; omega)) fun v j H8 H9 x8 ⟨z, hv, hz⟩ x9 hP9 hj => ?_
        subst hv
        refine ⟨t'.set j z, _, rfl, (xH.trans x9).mut hr20, hP9.updN nr2.symm, by rw [upd_same, vi_setI], by rw [List.length_set]; exact htl', ?_⟩
        intro x hx
        rcases List.mem_or_eq_of_mem_set hx with h | h
        · exact hle' x h
        · omega
      · obtain ⟨t', y7, rfl, xH, hPH, hr', htl', hle'⟩ := hW
        exact fin xH hPH hr20 hr' htl' hle'
    · exact fin (x4.trans x5) hP5 hr0 (x5 _ _ (hP3.ne hr0) hr4) htl hle
end
end Rt
end
section
/-! The law's upright trees. Printed by gen_rules.py from RtN.src. -/
namespace Rt
open PySem PySem.Spec PyProof.Rows L2 Evl GenW

/-! ### what a drawn pool keeps -/
theorem ne_pool {H : Hp} {p a : Addr} {o : HO} (hP : PoolAt H p) (h : H a = some o) (ho : ∀ xs, o ≠ .lst xs) : a ≠ p := fun e => by
  obtain ⟨x, y, h1, _⟩ := hP
  subst e
  rw [h] at h1
  exact ho _ (Option.some.inj h1)
theorem ex_tP {K : PySem.W.Frag} {H H' : Hp} {p a : Addr} {xs : List V} (e : ExP p H H') (hP : PoolAt H p) (h : SqT K H a xs) : SqT K H' a xs := by
  rcases h with (h | ⟨o, h⟩) | h
  · exact .inl (.inl (e _ _ (ne_pool hP h fun _ z => by cases z) h))
  · exact .inl (.inr ⟨o, e _ _ (ne_pool hP h fun _ z => by cases z) h⟩)
  · exact .inr h
theorem TreeAt.exP {K : PySem.W.Frag} {CT p : Addr} {c P : Nat} {t : List Nat} {H H' : Hp} {a : Addr} (h : TreeAt K CT c P t H a) (e : ExP p H H') (hP : PoolAt H p) : TreeAt K CT c P t H' a := by
  obtain ⟨v, dx, tl, lv, h1, h2, h3⟩ := h
  exact ⟨v, dx, tl, lv, e _ _ (ne_pool hP h1 fun _ z => by cases z) h1, ex_tP e hP h2, ex_tP e hP h3⟩
theorem StepsAt.exP {K : PySem.W.Frag} {CS p : Addr} {m : Nat} {b : List Nat} {H H' : Hp} {a : Addr} (h : StepsAt K CS m b H a) (e : ExP p H H') (hP : PoolAt H p) : StepsAt K CS m b H' a := by
  obtain ⟨v, dx, r, h1, h2⟩ := h
  exact ⟨v, dx, r, e _ _ (ne_pool hP h1 fun _ z => by cases z) h1, ex_tP e hP h2⟩
/-! ### upright -/
namespace M
theorem UprS.take {P : Nat} : ∀ {ws : List (Nat × Nat)} {t : List Nat} (i : Nat), UprS P t ws → Upr P (wr t (ws.take i))
  | ws, t, 0, h => by
    rw [List.take_zero]
    exact h.head
  | [], t, i + 1, h => h
  | p :: ws, t, i + 1, h => by
    rw [List.take_succ_cons, wr_cons]
    exact UprS.take i h.2
theorem tg_push {t : List Nat} {x n : Nat} (h1 : 1 ≤ n) (h : n ≤ t.length) : tg (t ++ [x]) n = tg t n := by
  unfold tg
  rw [List.getD_eq_getElem?_getD, List.getD_eq_getElem?_getD, List.getElem?_append_left (by omega)]
theorem tg_last {t : List Nat} {x n : Nat} (h : n = t.length + 1) : tg (t ++ [x]) n = x := by
  unfold tg
  rw [List.getD_eq_getElem?_getD, List.getElem?_append_right (by omega), show n - 1 - t.length = 0 by omega]
  rfl
/-- upright as far as it goes -/
def UprL (t : List Nat) : Prop := ∀ n, 2 ≤ n → n ≤ t.length → tg t n ≤ tg t (n / 2)
theorem UprL.push {t : List Nat} {x : Nat} (h : UprL t) (ht : 1 ≤ t.length) (hx : x ≤ tg t ((t.length + 1) / 2)) : UprL (t ++ [x]) := fun n h1 h2 => by
  rw [List.length_append, List.length_singleton] at h2
  by_cases c : n ≤ t.length
  · rw [tg_push (by omega) c, tg_push (by omega) (by omega)]
    exact h n h1 c
  · have e : n = t.length + 1 := by omega
    rw [tg_last e, tg_push (by omega) (by omega), e]
    exact hx
end M
section
variable {K : PySem.W.Frag} {CS CT p : Addr} {σ : L2.St} {H H' : Hp} {te tm ta tb t1 t2 t3 : TE} {t : TA} {tt : TT} {v x y : V} {R R' R1 R2 R3 : V → Hp → Prop} {D : Ends} {tz tu tw : TS} {i j l : Nat} {m : Nat} {xs ys vs : List V}
/-- a, b, c = a drawn thing, a new thing, a new thing -/
theorem q_par3PGG (h1 : Gp p t1 σ H R1) (h2 : ∀ v H1, ExP p H H1 → PoolAt H1 p → R1 v H1 → Gv t2 σ H1 R2) (h3 : ∀ v H1, ExP p H H1 → PoolAt H1 p → R1 v H1 → Gv t3 σ H1 R3)
    (k : ∀ v u w H1 H2 H3, ExP p H H1 → PoolAt H1 p → R1 v H1 → Ex H1 H2 → R2 u H2 → Ex H2 H3 → R3 w H3 → tz D (((σ.set i (some v)).set j (some u)).set l (some w)) H3) :
    tSeq (tPar3 i j l (tCons t1 (tCons t2 (tCons t3 tNil)))) tz D σ H :=
  h1 _ fun v H1 e1 hP r1 => h2 v H1 e1 hP r1 H1 (Ex.refl _) _ fun u H2 e2 r2 => h3 v H1 e1 hP r1 H2 e2 _ fun w H3 e3 r3 => ⟨_, _, _, rfl, k v u w H1 H2 H3 e1 hP r1 e2 r2 e3 r3⟩
theorem gp_boundsP (hp : σ[i]? = some (some (.ref p))) (hm : Gp p tm σ H (fun v _ => ∃ n : Nat, v = .int (n : Int) ∧ 1 ≤ n ∧ n ≤ 1000)) :
    Gp p (tCall (sp_law_bounds K CS CT) [] E0 (tCons (tVar i) (tCons tm tNil))) σ H (fun v H1 => ∃ d m b, v = .ref d ∧ PlanAt p H1 d m b) := fun Q q =>
  ⟨_, hp, hm _ fun v H1 e1 hP1 ⟨n, hv, n1, n2⟩ => by
    subst hv
    exact ⟨p, n, rfl, hP1, n1, n2, fun v H2 e2 hP2 r => q v H2 (e1.trans e2) hP2 r⟩⟩
/-- v - d * (e == 0) -/
theorem gp_less {n : Nat} (ha : ∀ H1, ExP p H H1 → PoolAt H1 p → Ev ta σ H1 (.int (n : Int))) (hP : PoolAt H p) (hb : ∀ H1, ExP p H H1 → PoolAt H1 p → Gp p tb σ H1 (Below (n + 1))) (hc : ∀ H1, ExP p H H1 → PoolAt H1 p → Gp p te σ H1 (Below m)) (hn : n ≤ 1000) :
    Gp p (tOp (rI0 fun i j => .int (i - j)) ta (tOp (rI CMul fun i j => .int (i * j)) tb (tCB (fun xs H Q => (∃ i, xs = [.int i] ∧ Q (.int i) H) ∨ ∃ k, xs = [.bl k] ∧ Q (.int (if k then 1 else 0)) H) (tCons (tOp rEq te (tC (.int 0))) tNil)))) σ H (Upto n) := fun Q q =>
  ha H (ExP.refl p H) hP H (Ex.refl H) _ fun H1 e1 => hb H1 (.of e1) (hP.ex e1) _ fun v H2 e2 hP2 ⟨d, hv, hd⟩ => hc H2 ((ExP.of e1).trans e2) hP2 _ fun u H3 e3 hP3 ⟨z, hu, hz⟩ => by
    subst hv hu
    refine ⟨rfl, .inr ⟨_, rfl, _, _, rfl, rfl, .inr ⟨?_, ?_⟩, _, _, rfl, rfl, q _ H3 (((ExP.of e1).trans e2).trans e3) hP3 ?_⟩⟩
    · split <;> omega
    · split <;> omega
    · by_cases c : z = 0
      · refine ⟨n - d, congrArg V.int ?_, by omega⟩
        subst c
        simp
        omega
      · refine ⟨n, congrArg V.int ?_, Nat.le_refl _⟩
        have : decide ((V.int (z : Int)) = .int 0) = false := decide_eq_false fun h => c (by injection h with h; omega)
        rw [this]
        simp
end
section
variable {P : Program} {w : World} {K : PySem.W.Frag} {mg : Str → Option Value} {base : Heap} {CS CT pgs : Addr}
theorem gv_law_tree {σ : L2.St} {H : Hp} {td tr : TE} {d r : Addr} {m pg : Nat} {b t : List Nat} (hd : Ev td σ H (.ref d)) (hp : PlanE H d m b) (hr : Ev tr σ H (.ref r)) (hl : H r = some (.lst (vi t))) (hV : M.VT b.length pg t) : Gv (tCall (sp_law_tree K CS CT) [] E0 (tCons td (tCons tr tNil))) σ H (fun u H1 => ∃ a, u = .ref a ∧ TreeAt K CT b.length pg t H1 a) :=
  gv_call (ea_cons hd (ea_cons hr ea_nil)) fun H1 e1 Q q E => ⟨d, r, m, pg, b, t, rfl, hp.ex e1, e1 _ _ hl, hV, q⟩
theorem gv_law_made {σ : L2.St} {H : Hp} {td : TE} {d : Addr} {m : Nat} {b : List Nat} (hd : Ev td σ H (.ref d)) (hp : PlanE H d m b) : Gv (tCall (sp_law_made_steps K CS CT) [] E0 (tCons td tNil)) σ H (fun u H1 => ∃ a, u = .ref a ∧ StepsAt K CS m b H1 a) :=
  gv_call (ea_cons hd ea_nil) fun H1 e1 Q q E => ⟨d, m, b, rfl, hp.ex e1, q⟩
theorem gv_search {σ : L2.St} {H : Hp} {t1 t2 t3 t4 : TE} {a s r : Addr} {m pg sz : Nat} {b rs t : List Nat} (h1 : Ev t1 σ H (.ref a)) (h2 : Ev t2 σ H (.ref s)) (h3 : Ev t3 σ H (.ref r)) (h4 : Ev t4 σ H (.int (sz : Int))) (hS : Sit K CS CT m pg b rs t H a s r) (ho : ∃ o, H r = some o) (m1 : 1 ≤ sz) (m2 : sz ≤ m) :
    Gv (tCall (sp_search_row K CS CT) [.bl false] E0 (tCons t1 (tCons t2 (tCons t3 (tCons t4 tNil))))) σ H (fun u H1 => ∃ q, u = .ref q ∧ H q = none ∧ RowAt H1 q (M.flat false (M.search b pg sz rs t).1)) := fun H1 e Q q =>
  (ea_cons h1 (ea_cons h2 (ea_cons h3 (ea_cons h4 ea_nil)))) H1 e _ fun H2 e2 => ⟨a, s, r, m, pg, sz, b, rs, t, false, rfl, hS.ex (e.trans e2), ho.elim fun o ho => ⟨o, (e.trans e2) _ _ ho⟩, m1, m2, fun u H3 hu e3 hR => q _ H3 (e2.trans e3) ⟨u, rfl, fresh_back (e.trans e2) hu, hR⟩⟩
def sp_law_upright_right (K : PySem.W.Frag) (CS CT : Addr) : Sp := fun vs H Q _ => ∃ p : Addr, vs = [.ref p] ∧ PoolAt H p ∧ RetPool p (fun v _ => v = .bl true) H Q
theorem ok_law_upright_right (D_law_bounds : Dn P w K mg base 2 "_law_bounds" ["_law_pool", "_law_top"] [] (sp_law_bounds K CS CT)) (D_law_draw : Dn P w K mg base 1 "_law_draw" ["_law_pool", "_law_many"] [] (sp_law_draw K CS CT)) (D_law_pages : Dn P w K mg base 2 "_law_pages" ["_law_pool", "_law_many"] [] (sp_law_pages K CS CT)) (D_law_rooms : Dn P w K mg base 2 "_law_rooms" ["_law_pool", "_law_plan", "_law_pages_here"] [] (sp_law_rooms K CS CT)) (D_law_tree : Dn P w K mg base 5 "_law_tree" ["_law_plan", "_law_row"] [] (sp_law_tree K CS CT)) (D_law_made_steps : Dn P w K mg base 5 "_law_made_steps" ["_law_plan"] [] (sp_law_made_steps K CS CT)) (G_stages : Dgn P w K mg base 6 4000 "stages" ["tree", "row"] (sp_stages K CS CT)) (D_search_row : Dn P w K mg base 9 "search_row" ["tree", "steps", "rooms", "size", "above"] [.bl false] (sp_search_row K CS CT)) (D_Tree_is_upright : Dp P w K mg base 1 CT "is_upright" ["self"] (sp_Tree_is_upright K CS CT)) (D_Tree_missed : Dm P w K mg base 5 CT "missed" ["self"] (sp_Tree_missed K CS CT)) {f : Addr} {fd : FuncData} (F : FnP K "_law_upright_right" "_law_upright_right" d_law_upright_right [] [] f fd) (T : Tx K mg CS CT pgs) : FnOk P w K mg base CX0 10 f fd ["_law_pool"] (sp_law_upright_right K CS CT) := by
  refine F.ok sc_law_upright_right (fun vs H Q E h => ?_) (fun cdv A outer s H vs Q E hr h => ?_)
  · obtain ⟨p, rfl, _⟩ := h
    rfl
  · obtain ⟨p, rfl, hP, k⟩ := h
    refine ⟨_, PSs.nox (pss_cons (ps_set (i := 1) sc_law_upright_right.nd rfl (.inl rfl) (pe_callD D_law_bounds hr (by decide) (by rfl) (pa_cons (pv 0) (pa_cons (pe_ix ix_list (pe_lst (pa_cons pe_int (pa_cons pe_int pa_nil))) (pe_callD D_law_draw hr (by decide) (by rfl) (pa_cons (pv 0) (pa_cons pe_int pa_nil))) (fun _ _ => rfl)) pa_nil))))
    (pss_cons (ps_par (i := 2) (j := 3) rfl sc_law_upright_right.nd rfl rfl (by decide) rfl rfl (pa_cons (pe_callD D_law_pages hr (by decide) (by rfl) (pa_cons (pv 0) (pa_cons pe_int pa_nil))) (pa_cons (pe_lst (pa_cons (pe_callB call_len_seq (by rfl) T.b_len bt_len (pa_cons (pe_dget (room1 hr) (pv 1) pe_str (fun _ _ => rfl)) pa_nil)) pa_nil)) pa_nil)) (by rfl))
    (pss_cons (ps_for PassesOwn.never rfl (pi_range2 (by rfl) T.b_range (pa_cons pe_int (pa_cons (pe_op op_mul pe_int (pv 2)) pa_nil))) (pg_name (i := 4) sc_law_upright_right.nd rfl (.inl rfl)) (pss_one (ps_expr (pe_bm PySem.F.plainAttrs_list PySem.F.slot_list_append PySem.F.type_list_append mt_append (pv 3) (pa_cons (pe_op op_sub (pe_ix ix_list (pv 3) (pe_op op_sub (pe_op op_fdiv (pv 4) pe_int) pe_int) (fun _ _ => rfl)) (pe_op op_mul (pe_callD D_law_draw hr (by decide) (by rfl) (pa_cons (pv 0) (pa_cons (pe_op op_add (pe_ix ix_list (pv 3) (pe_op op_sub (pe_op op_fdiv (pv 4) pe_int) pe_int) (fun _ _ => rfl)) pe_int) pa_nil))) (pe_callTy call_int1 (by rfl) T.b_int bt_int (pa_cons (pe_cmpR op_eq (pe_callD D_law_draw hr (by decide) (by rfl) (pa_cons (pv 0) (pa_cons pe_int pa_nil))) pe_int (nomark _)) pa_nil)))) pa_nil)))))
    (pss_cons (ps_par3 (i := 5) (j := 6) (l := 7) rfl sc_law_upright_right.nd rfl rfl rfl (by decide) (by decide) (by decide) rfl rfl rfl (pa_cons (pe_callD D_law_rooms hr (by decide) (by rfl) (pa_cons (pv 0) (pa_cons (pv 1) (pa_cons (pv 2) pa_nil)))) (pa_cons (pe_callD D_law_tree hr (by decide) (by rfl) (pa_cons (pv 1) (pa_cons (pv 3) pa_nil))) (pa_cons (pe_callD D_law_made_steps hr (by decide) (by rfl) (pa_cons (pv 1) pa_nil)) pa_nil))) (by rfl))
    (pss_cons (ps_for PassesOwn.never rfl (pi_range1 (by rfl) T.b_range (pa_cons pe_int pa_nil)) (pg_name (i := 8) sc_law_upright_right.nd rfl (.inl rfl)) (pss_cons (ps_set (i := 9) sc_law_upright_right.nd rfl (.inl rfl) (pe_op op_add pe_int (pe_callD D_law_draw hr (by decide) (by rfl) (pa_cons (pv 0) (pa_cons (pe_dget (room1 hr) (pv 1) pe_str (fun _ _ => rfl)) pa_nil)))))
    (pss_one (ps_forG rfl rfl rfl rfl (hr.mono (by decide)) (pgn_callD G_stages hr (by decide) (by rfl) (pa_cons (pv 6) (pa_cons (pe_callD D_search_row hr (by decide) (by rfl) (pa_cons (pv 6) (pa_cons (pv 7) (pa_cons (pv 5) (pa_cons (pv 9) pa_nil))))) pa_nil))) (pg_name (i := 10) sc_law_upright_right.nd rfl (.inl rfl)) (pss_one (ps_if (PW.pt (pw_or (pt_cmpR op_notBl (pe_propD D_Tree_is_upright hr (by decide) (pv 10)) pe_bl (nomark _)) (pw_or1 (pt_cmpR (op_neD (room64 hr)) (pe_meth0D D_Tree_missed hr (by decide) (pv 10)) (pe_lst pa_nil) (nomark _))))) (pss_one (ps_ret pe_bl)) pss_nil))))))
    (pss_one (ps_ret pe_bl))))))), ?_⟩
    refine q_asgP (gp_boundsP rfl ((gp_pick (xs := [.int 6, .int 30]) hP (el_lst (ea_cons ev_c (ea_cons ev_c ea_nil)) (by simp)) fun H1 x1 hP1 => gp_draw (m := 2) hP1 (ev_var rfl) ev_c rfl (by omega) (by omega)).imp fun v H1 _ _ hv => ?_)) fun v H1 x1 hP1 hv => ?_
    · simp only [List.mem_cons, List.not_mem_nil, or_false] at hv
      rcases hv with h | h
      · exact ⟨6, h, by omega, by omega⟩
      · exact ⟨30, h, by omega, by omega⟩
    obtain ⟨d, m, b, rfl, hd⟩ := hv
    have hl8 := hd.1.l8
    have hm2 := hd.1.m2
    have hm1 := hd.1.m1
    refine q_parPL (xs := [.int (b.length : Int)]) (gp_pages hP1 (ev_var rfl) ev_c) (fun H2 x2 hP2 => ?_) fun v r H2 x2 hP2 hr0 hr hv => ?_
    · obtain ⟨l, hl, hlst⟩ := ev_bounds (σ := [some (.ref p), some (.ref d), none, none, none, none, none, none, none, none, none]) (td := tVar 1) (ev_var rfl) (hd.ex x2).e
      exact el_lst (ea_cons (ev_is (ev_len hl (sq_of hlst)) (by rw [vi_len])) ea_nil) (by simp)
    obtain ⟨H9, _, pg, hv, hpg⟩ := hv
    subst hv
    have h32 : pg ≤ 32 := by omega
    have x12 := x1.trans x2
    have nrp : r ≠ p := hP1.ne hr0
    have hd2 := hd.ex x2
    refine q_forR2 (lo := 2) (n := ((2 * pg : Nat) : Int)) (ea_cons ev_c (ea_cons (ev_is (ev_op ev_c (ev_var rfl) (rv_I (.inl ⟨by decide, by decide⟩))) (congrArg V.int (by omega))) ea_nil)) (by omega)
      (fun i σ' H' => ∃ (ts : List Nat) (y4 : Option V), σ' = [some (.ref p), some (.ref d), some (.int (pg : Int)), some (.ref r), y4, none, none, none, none, none, none] ∧ ExP p H1 H' ∧ PoolAt H' p ∧ H' r = some (.lst (vi ts)) ∧ ts.length = i + 1 ∧ M.AllLe b.length ts ∧ M.UprL ts)
      (fun H3 e3 => ⟨[b.length], none, rfl, x2.trans (.of e3), hP2.ex e3, e3 _ _ hr, rfl, fun x h => by rw [List.mem_singleton] at h; omega, fun n h1 h2 => by simp at h2; omega⟩) (fun i σ' H' hi hW => ?_) fun σ' H' hW => ?_
    · obtain ⟨ts, y4, rfl, xH, hPH, hr', hl, hle, hup⟩ := hW
      have htg := hle.tg ((i + 2) / 2)
      have cell : ∀ H3, ExP p H' H3 → PoolAt H3 p → Ev (tOp (rIxL K) (tVar 3) (tOp (rI0 fun i j => .int (i - j)) (tOp (rI CDiv fun i j => .int (i / j)) (tVar 4) (tC (.int 2))) (tC (.int 1)))) [some (.ref p), some (.ref d), some (.int (pg : Int)), some (.ref r), some (.int (2 + (i : Int))), none, none, none, none, none, none] H3 (.int (M.tg ts ((i + 2) / 2) : Int)) := fun H3 x3 hP3 =>
        ev_op (ev_var rfl) (ev_op (ev_op (ev_var rfl) ev_c (rv_I ⟨by decide, by decide⟩)) ev_c rv_I0) (rv_ixL (sq_of (x3 _ _ nrp hr')) (vi_tg (n := (i + 2) / 2) (by omega) (by omega) (by omega)))
      refine s_appP (i := 3) hr' rfl (gp_less (n := M.tg ts ((i + 2) / 2)) (m := 3) cell hPH (fun H3 x3 hP3 => gp_draw (m := M.tg ts ((i + 2) / 2) + 1) hP3 (ev_var rfl) (ev_op (cell H3 x3 hP3) ev_c rv_I0) (by omega) (by omega) (by omega)) (fun H3 x3 hP3 => gp_draw (m := 3) hP3 (ev_var rfl) ev_c rfl (by omega) (by omega)) (by omega)) nrp (by rw [vi_len]; omega) fun v H3 x3 hP3 ⟨z, hv, hz⟩ => ?_
      subst hv
      refine ⟨ts ++ [z], _, rfl, (xH.trans x3).mut hr0, hP3.updN nrp.symm, by rw [upd_same, vi_append]; rfl, by simp [hl], fun x hx => ?_, hup.push (by omega) (by rw [hl]; exact hz)⟩
      rcases List.mem_append.mp hx with h | h
      · exact hle x h
      · rw [List.mem_singleton] at h
        omega
    · obtain ⟨ts, y4, rfl, xH, hPH, hr', hl, hle, hup⟩ := hW
      have htl : ts.length + 1 = 2 * pg := by omega
      have hV : M.VT b.length pg ts := ⟨by omega, htl, hd.1.l1, hl8, hle⟩
      have hUp : M.Upr pg ts := fun n n1 n2 => hup n n1 (by omega)
      have hdH := hd.ex xH
      refine q_par3PGG (gp_rooms hPH (ev_var rfl) (ev_var rfl) hdH (ev_var rfl) h32) (fun v H3 x3 hP3 _ => gv_law_tree (ev_var rfl) (hdH.ex x3).e (ev_var rfl) (x3 _ _ nrp hr') hV) (fun v H3 x3 hP3 _ => gv_law_made (ev_var rfl) (hdH.ex x3).e) fun v u w H3 H4 H5 x3 hP3 hv e4 hu e5 hw => ?_
      obtain ⟨rm, rs, rfl, hrm0, hrm, hrl, hrs⟩ := hv
      obtain ⟨a, rfl, hT⟩ := hu
      obtain ⟨s0, rfl, hS⟩ := hw
      have e45 := e4.trans e5
      have hP5 := hP3.ex e45
      have nrm : rm ≠ p := hPH.ne hrm0
      have hT5 := hT.ex e5
      have hrm5 := e45 _ _ hrm
      have hd5 := (hdH.ex x3).ex (.of e45)
      have x5 : ExP p H H5 := x1.trans (xH.trans (x3.trans (.of e45)))
      refine q_forR1 (n := 3) (ea_cons ev_c ea_nil) (by omega)
        (fun i σ' H' => ∃ y8 y9 y10 : Option V, σ' = [some (.ref p), some (.ref d), some (.int (pg : Int)), some (.ref r), y4, some (.ref rm), some (.ref a), some (.ref s0), y8, y9, y10] ∧ ExP p H5 H' ∧ PoolAt H' p)
        (fun H6 e6 => ⟨none, none, none, rfl, .of e6, hP5.ex e6⟩) (fun i σ' H' hi hW => ?_) fun σ' H' hW => ?_
      · obtain ⟨y8, y9, y10, rfl, xG, hPG⟩ := hW
        have hdG := hd5.ex xG
        refine q_asgP (gp_1draw (gp_draw hPG (ev_var rfl) (ev_most (ev_var rfl) hdG.e) rfl hm1 (by omega))) fun v H6 x6 hP6 hv => ?_
        obtain ⟨sz, rfl, z1, z2⟩ := hv
        have x56 := xG.trans x6
        have hSit : Sit K CS CT m pg b rs ts H6 a s0 rm := ⟨hT5.exP x56 hP5, hS.exP x56 hP5, .inl (sq_of (x56 _ _ nrm hrm5)), hrl, hrs⟩
        have hsp := M.search_spec (sz := sz) (rooms := rs) hV
        have hlen := M.search_len (sz := sz) (rooms := rs) hV
        refine ⟨_, rfl, gv_search (ev_var rfl) (ev_var rfl) (ev_var rfl) (ev_var rfl) hSit ⟨_, x56 _ _ nrm hrm5⟩ z1 z2 H6 (Ex.refl _) _ fun v H7 e7 ⟨q, hv, hq0, hq⟩ => ?_⟩
        subst hv
        refine ⟨stSpec K CT b.length pg ts (M.flat false (M.search b pg sz rs ts).1), ⟨a, q, b.length, pg, ts, _, rfl, hSit.tree.ex e7, hq, hsp.2.2.1, by omega, rfl⟩, Ex.refl _, ?_⟩
        refine ⟨fun j σ' H' => ∃ y10 : Option V, σ' = [some (.ref p), some (.ref d), some (.int (pg : Int)), some (.ref r), y4, some (.ref rm), some (.ref a), some (.ref s0), some (.int (i : Int)), some (.int (sz : Int)), y10] ∧ Ex H7 H', ⟨_, rfl, Ex.refl _⟩, fun j σ' H' hW => ⟨fun x H8 ho => ?_, fun H8 hdn => ?_⟩⟩
        · obtain ⟨y10', rfl, eW⟩ := hW
          obtain ⟨e8, hj, tb, rfl, hTb⟩ := ho
          have hUb : M.Upr pg (M.wr ts ((M.flat false (M.search b pg sz rs ts).1).take j)) := (hsp.2.2.2.2.2 hUp).take j
          obtain ⟨_, dx, tl, lv, hab, _, _⟩ := id hTb
          show tIfS _ _ tNext _ _ H8
          refine s_when (b := false) (et_or (a := false) (b := false) (et_is (et_test (ev_op (ev_prop (z := .bl true) (ev_var rfl) hab fun H9 e9 Q q E => ⟨tb, b.length, pg, _, rfl, hTb.ex e9, hUb, q⟩) ev_c (rv_val (z := .bl false) fun H9 e9 Q q => ⟨true, true, rfl, rfl, q⟩))) rfl)
            fun _ => et_is (et_test (ev_opLL (xs := []) (ys := []) (el_meth (ev_var rfl) hab (tree_no (by decide +kernel) (by decide +kernel) (by decide +kernel) (by decide +kernel)) ea_nil fun H9 e9 Q q E => ⟨tb, b.length, pg, _, rfl, hTb.ex e9, hUb, q⟩) (el_lst ea_nil (by simp)) fun p2 q2 H9 h2 h3 e9 => rv_val (z := .bl false) fun H10 e10 Q q => ⟨.list [], .list [], .lst (sq_of (e10 _ _ h2)) .nil, .lst (sq_of (e10 _ _ h3)) .nil, by decide, by decide, q⟩)) rfl)
            (fun z => by cases z) fun _ H9 e9 => ?_
          exact ⟨e9, _, rfl, eW.trans (e8.trans e9)⟩
        · obtain ⟨y10', rfl, eW⟩ := hW
          obtain ⟨e8, _⟩ := hdn
          exact ⟨_, _, _, rfl, (x56.trans (.of e7)).trans (.of (eW.trans e8)), hP6.ex (e7.trans (eW.trans e8))⟩
      · obtain ⟨y8, y9, y10, rfl, xG, hPG⟩ := hW
        exact s_ret ev_c fun H6 e6 => k _ H6 ((x5.trans xG).trans (.of e6)) (hPG.ex e6) rfl
end
end Rt
end
section
/-! The law's rows: sums, texts, comparisons. -/
namespace Rt
open PySem PySem.Spec PyProof.Rows L2 Evl GenW

namespace M
theorem play_len {nd P sz : Nat} {rooms : List Nat} {cls : Nat → Nat} : ∀ (f : Nat) (t : List Nat) (n : Nat) (R : List (List (Nat × Nat))) (T : List Nat), play nd P sz rooms cls f t n = some (R, T) → R.length ≤ f := by
  intro f
  induction f with
  | zero => intro t n R T h; cases h
  | succ f ih =>
    intro t n R T h
    have lower : ∀ v, ((play nd P sz rooms cls f (wr t (low t n v)) 1).map fun r => (low t n v :: r.1, r.2)) = some (R, T) → R.length ≤ f + 1 := by
      intro v h
      cases e : play nd P sz rooms cls f (wr t (low t n v)) 1 with
      | none => rw [e] at h; cases h
      | some RT =>
        rw [e] at h
        have := ih _ _ RT.1 RT.2 e
        cases h
        simp
        omega
    unfold play at h
    by_cases c1 : n = 1 ∧ tg t 1 < nd
    · rw [if_pos c1] at h
      cases h
      exact Nat.zero_le _
    · rw [if_neg c1] at h
      by_cases c2 : n < P
      · rw [if_pos c2] at h
        by_cases c3 : nd ≤ tg t (2 * n)
        · rw [if_pos c3] at h
          have := ih _ _ _ _ h
          omega
        · rw [if_neg c3] at h
          by_cases c4 : nd ≤ tg t (2 * n + 1)
          · rw [if_pos c4] at h
            have := ih _ _ _ _ h
            omega
          · rw [if_neg c4] at h
            exact lower _ h
      · rw [if_neg c2] at h
        by_cases c3 : sz ≤ rooms.getD (n - P) 0
        · rw [if_pos c3] at h
          cases h
          exact Nat.zero_le _
        · rw [if_neg c3] at h
          exact lower _ h
theorem search_rows {b : List Nat} {P sz : Nat} {rooms t : List Nat} : (search b P sz rooms t).1.length ≤ 20 * t.length + 20 := by
  unfold search
  split
  · exact Nat.zero_le _
  · next nd _ =>
    cases e : play nd P sz rooms (clsOf b) (20 * t.length + 20) t 1 with
    | none => exact Nat.zero_le _
    | some RT => exact play_len _ _ _ RT.1 RT.2 e
end M

/-! ### texts and data of rows -/
def prI (ws : List (Nat × Nat)) : List (Int × Int) := ws.map fun p => ((p.1 : Int), (p.2 : Int))
def OkR (ws : List (Nat × Nat)) : Prop := ws.length ≤ 1000 ∧ ∀ p ∈ ws, p.1 ≤ 100 ∧ p.2 ≤ 100
theorem OkR.small {ws : List (Nat × Nat)} (h : OkR ws) : SmallP (prI ws) := ⟨by have := h.1; simp [prI]; omega, fun p hp => by
  obtain ⟨q, hq, rfl⟩ := List.mem_map.mp hp
  obtain ⟨h1, h2⟩ := h.2 q hq
  have e1 : ((q.1 : Int)).natAbs = q.1 := Int.natAbs_natCast _
  have e2 : ((q.2 : Int)).natAbs = q.2 := Int.natAbs_natCast _
  show ((q.1 : Int)).natAbs < 10 ^ 9 ∧ ((q.2 : Int)).natAbs < 10 ^ 9
  rw [e1, e2]
  omega⟩
def dRow (ws : List (Nat × Nat)) : PyData := prData (prI ws)
theorem pr_lay (ps : List (Int × Int)) : (prData ps).canLay0 = true := by
  show PyData.canLayAll0 _ = true
  induction ps with
  | nil => simp [PyData.canLayAll0]
  | cons p ps ih => simpa [PyData.canLayAll0, PyData.canLay0] using ih
theorem dRow_shaped (ws : List (Nat × Nat)) : SeqAt.shaped (dRow ws) = true := by
  have h := pr_depth (prI ws)
  have : (dRow ws).depth ≤ 64 := by unfold dRow; omega
  have e : (dRow ws).canLay0 = true := pr_lay _
  unfold SeqAt.shaped
  rw [e]
  simpa using this
theorem dp_pairs {K : PySem.W.Frag} {H : Hp} : ∀ qs : List (Addr × Nat × Nat), (∀ q ∈ qs, H q.1 = some (.tup [.int (q.2.1 : Int), .int (q.2.2 : Int)])) → DpAll K H (qs.map fun q => V.ref q.1) ((prI (qs.map (·.2))).map fun p => .tuple [.int p.1, .int p.2])
  | [], _ => .nil
  | q :: qs, h => .cons (.tup (st_of (h q List.mem_cons_self)) (.cons (.int _) (.cons (.int _) .nil))) (dp_pairs qs fun y hy => h y (List.mem_cons_of_mem _ hy))
theorem dp_row {K : PySem.W.Frag} {H : Hp} {a : Addr} {ws : List (Nat × Nat)} (h : RowAt H a ws) : L2.Dp K H (.ref a) (dRow ws) := by
  obtain ⟨xs, ha, qs, rfl, rfl, hq⟩ := h
  exact .lst (sq_of ha) (dp_pairs qs hq)
theorem PairsL.flatten {H : Hp} : ∀ {rs : List (Addr × List V × List (Nat × Nat))}, (∀ r ∈ rs, PairsL r.2.1 H r.2.2) → PairsL (rs.map (·.2.1)).flatten H (rs.map (·.2.2)).flatten
  | [], _ => .nil
  | r :: rs, h => (h r List.mem_cons_self).append (PairsL.flatten fun y hy => h y (List.mem_cons_of_mem _ hy))
theorem RowsAt.weak {H : Hp} {p : Addr} {ex : List Addr} {Rs : List (List (Nat × Nat))} (h : RowsAt H p ex Rs) : RowsAt H p [] Rs := by
  obtain ⟨rs, h1, h2, h3⟩ := h
  exact ⟨rs, h1, h2, fun r hr => ⟨(h3 r hr).1, (h3 r hr).2.1, by simp⟩⟩
section
variable {K : PySem.W.Frag} {CS CT p : Addr} {σ : L2.St} {H H' : Hp} {te tm ta tb t1 t2 t3 t4 : TE} {t : TA} {tt : TT} {v x y : V} {R R' R1 R2 R3 : V → Hp → Prop} {D : Ends} {tz tu tw : TS} {i j l : Nat} {m : Nat} {xs ys vs : List V} {ws : List (Nat × Nat)}
theorem ev_reprR (h : Gv te σ H (fun v H1 => ∃ q, v = .ref q ∧ RowAt H1 q ws)) (ok : OkR ws) : Ev (tCB (rReprP K) (tCons te tNil)) σ H (.str (prText (prI ws))) := fun H1 e Q q =>
  h H1 e _ fun v H2 e2 ⟨a, hv, xs, ha, qs, hx, hw, hq⟩ => by
    subst hv hx hw
    have e0 : (qs.map fun q => (q.1, (q.2.1 : Int), (q.2.2 : Int))).map (·.2) = prI (qs.map (·.2)) := by
      unfold prI
      rw [List.map_map, List.map_map]
      rfl
    refine ⟨a, qs.map fun q => (q.1, (q.2.1 : Int), (q.2.2 : Int)), rfl, ?_, fun y hy => ?_, ?_, ?_⟩
    · rw [List.map_map]
      exact ha
    · obtain ⟨z, hz, rfl⟩ := List.mem_map.mp hy
      exact hq z hz
    · rw [e0]
      exact ok.small
    · rw [e0]
      exact q H2 e2
theorem et_neRow {b0 : Addr} (h : Gv te σ H (fun v H1 => ∃ q, v = .ref q ∧ RowAt H1 q ws)) (hb : Ev tb σ H (.ref b0)) (hR : RowAt H b0 ws) : EvT (tTest (tOp (rNeD K) te tb)) σ H false := fun H1 e Q q =>
  h H1 e _ fun v H2 e2 ⟨a, hv, ha⟩ => by
    subst hv
    refine hb H2 (e.trans e2) _ fun H3 e3 => ⟨dRow ws, dRow ws, dp_row (ha.ex e3), dp_row (hR.ex ((e.trans e2).trans e3)), dRow_shaped ws, dRow_shaped ws, ?_⟩
    rw [SeqAt.eqv_refl _ (show (dRow ws).canLay0 = true from pr_lay _)]
    exact ⟨false, rfl, q H3 (e2.trans e3)⟩
theorem et_neTree {b0 : Addr} {c pg : Nat} {tr : List Nat} (h : Gv te σ H (fun v H1 => ∃ a, v = .ref a ∧ TreeAt K CT c pg tr H1 a)) (hb : Ev tb σ H (.ref b0)) (hT : TreeAt K CT c pg tr H b0) : EvT (tTest (tOp (rNeO CT (sp_Tree_eq K CS CT) E0) te tb)) σ H false := fun H1 e Q q =>
  h H1 e _ fun v H2 e2 ⟨a, hv, ha⟩ => by
    subst hv
    refine hb H2 (e.trans e2) _ fun H3 e3 => ?_
    have h1 := ha.ex e3
    have h2 := hT.ex ((e.trans e2).trans e3)
    obtain ⟨_, dx, _, _, g1, _, _⟩ := id h1
    obtain ⟨_, dy, _, _, g2, _, _⟩ := id h2
    exact ⟨a, b0, dx, dy, _, _, rfl, rfl, g1, g2, a, b0, c, pg, tr, rfl, h1, h2, fun H4 e4 => ⟨true, rfl, false, rfl, q H4 ((e2.trans e3).trans e4)⟩⟩
/-- sum(rows, []) -/
theorem gv_sumR {Rs : List (List (Nat × Nat))} (h : Gv te σ H (fun v H1 => ∃ a, v = .ref a ∧ RowsAt H1 a [] Rs)) (hz : Rs.flatten.length ≤ 1000) :
    Gv (tCB (rSumL K) (tCons te (tCons (tLst tNil) tNil))) σ H (fun v H1 => ∃ q, v = .ref q ∧ H q = none ∧ RowAt H1 q Rs.flatten) := fun H1 e Q q =>
  h H1 e _ fun v H2 e2 ⟨a, hv, rs, ha, hRs, hr⟩ => by
    subst hv hRs
    refine ⟨by show 0 ≤ sizeLine; decide, fun b0 hb0 => ?_⟩
    have e3 : Ex H2 (upd H2 b0 (.lst [])) := Ex.new hb0
    have hb1 : H b0 = none := fresh_back (e.trans e2) hb0
    have hP : PairsL (rs.map (·.2.1)).flatten (upd H2 b0 (.lst [])) (rs.map (·.2.2)).flatten := PairsL.flatten fun r hr' => (hr r hr').2.1.ex e3
    have e4 : (rs.map fun r => (r.1, r.2.1)).map (·.2) = rs.map (·.2.1) := by rw [List.map_map]; rfl
    refine ⟨a, b0, rs.map fun r => (r.1, r.2.1), rfl, ?_, fun y hy => ?_, upd_same, ?_, fun hnil => ?_, fun p hp => ?_⟩
    · rw [List.map_map]
      exact sq_of (e3 _ _ ha)
    · obtain ⟨z, hz', rfl⟩ := List.mem_map.mp hy
      exact e3 _ _ (hr z hz').1
    · rw [e4]
      exact sz_of (by rw [hP.len]; omega)
    · have : rs = [] := List.map_eq_nil_iff.mp hnil
      subst this
      exact q _ _ (e2.trans e3) ⟨b0, rfl, hb1, [], upd_same, .nil⟩
    · rw [e4]
      exact q _ _ ((e2.trans e3).trans (Ex.new hp)) ⟨p, rfl, fresh_back ((e.trans e2).trans e3) hp, _, upd_same, hP.ex (Ex.new hp)⟩
/-- [one[::-1] for one in rows] -/
theorem gv_revRows {y0 y1 y2 y3 y4 y5 y6 y7 y8 y9 y10 y12 y13 y14 y15 y16 : Option V} {a : Addr} {ex : List Addr} {Rs : List (List (Nat × Nat))} (hR : RowsAt H a ex Rs) (hz : Rs.length ≤ 2000) :
    Gv (tLc (iList K (tVar 11)) (gName 16) tYes (tRevL K (tVar 16)) [16]) [y0, y1, y2, y3, y4, y5, y6, y7, y8, y9, y10, some (.ref a), y12, y13, y14, y15, y16] H (fun v H1 => ∃ q, v = .ref q ∧ RowsAt H1 q [] (Rs.map List.reverse)) := fun H1 e Q q => by
  obtain ⟨rs, ha, hRs, hr⟩ := hR.ex e
  subst hRs
  refine ⟨.ref a, rfl, a, rfl, ⟨_, sq_of ha⟩, fun Dl hD => lc_list (xs := rs.map fun r => V.ref r.1) (fun i H' => Ex H1 H' ∧ RowsAt H' Dl [Dl] (((rs.map (·.2.2)).take i).map List.reverse)) ⟨Ex.new hD, [], upd_same, by simp, fun r hr => by cases hr⟩ (fun i H' _ hp => sq_of (hp.1 _ _ ha)) (fun i x H' hi hp => ?_) fun H' hp => ?_⟩
  · obtain ⟨eH, hR'⟩ := hp
    have hi' : i < rs.length := by
      have := (List.getElem?_eq_some_iff.mp hi).1
      simpa using this
    have hx : x = .ref rs[i].1 := by
      rw [List.getElem?_map, List.getElem?_eq_getElem hi'] at hi
      exact (Option.some.inj hi).symm
    subst hx
    obtain ⟨g1, g2, _⟩ := hr rs[i] (List.getElem_mem hi')
    refine ⟨rfl, yes_if ⟨.ref rs[i].1, rfl, rs[i].1, _, rfl, sq_of (eH _ _ g1), fun s hs => ?_⟩⟩
    obtain ⟨rs', ha', hRs', _⟩ := id hR'
    have hl' : rs'.length ≤ 2000 := by
      have := congrArg List.length hRs'
      rw [List.length_map, List.length_map, List.length_take] at this
      omega
    have hsD : s ≠ Dl := (ne_of_none ha' hs).symm
    refine ⟨_, (Ex.new hs) _ _ ha', sz_lt (by rw [List.length_map]; omega), ((eH.trans (Ex.new hs))).mut hD, ?_⟩
    have := (hR'.ex (Ex.new (o := .lst (rs[i].2.1).reverse) hs)).push ((Ex.new hs) _ _ ha') (by simp) upd_same ((g2.ex (eH.trans (Ex.new hs))).reverse) (by simpa using hsD)
    rw [List.take_succ, List.map_append, List.getElem?_map, List.getElem?_eq_getElem hi']
    exact this
  · obtain ⟨eH, hR'⟩ := hp
    rw [List.length_map, show rs.length = (rs.map (·.2.2)).length by rw [List.length_map], List.take_length] at hR'
    exact q _ H' eH ⟨Dl, rfl, hR'.weak⟩
/-- tuple(list) -/
theorem gv_tupN {r : Addr} (h : Ev te σ H (.ref r)) (hl : H r = some (.lst xs)) : Gv (tCB (rTupOf K) (tCons te tNil)) σ H (fun v H1 => ∃ q, v = .ref q ∧ H1 q = some (.tup xs)) := fun H1 e Q q =>
  h H1 e _ fun H2 e2 => ⟨r, xs, rfl, .inl ⟨sq_of ((e.trans e2) _ _ hl), fun l hn => q _ _ (e2.trans (Ex.new hn)) ⟨l, rfl, upd_same⟩⟩⟩
/-- search_row(.., above=ab) -/
theorem gv_searchK {a s : Addr} {m pg sz : Nat} {b rs tr : List Nat} {ab : Bool} (h1 : Ev t1 σ H (.ref a)) (h2 : Ev t2 σ H (.ref s)) (h3 : Gv t3 σ H (fun v H1 => ∃ r, v = .ref r ∧ RoomsAt K rs H1 r ∧ ∃ o, H1 r = some o)) (h4 : Ev t4 σ H (.int (sz : Int)))
    (hT : TreeAt K CT b.length pg tr H a) (hS : StepsAt K CS m b H s) (hrl : rs.length = pg) (hrs : ∀ x ∈ rs, x ≤ m) (m1 : 1 ≤ sz) (m2 : sz ≤ m) :
    Gv (tCallN 4 1 (sp_search_row K CS CT) (fun vs zs => vs ++ zs) E0 (tCons t1 (tCons t2 (tCons t3 (tCons t4 tNil)))) (tCons (tC (.bl ab)) tNil)) σ H (fun v H1 => ∃ q, v = .ref q ∧ RowAt H1 q (M.flat ab (M.search b pg sz rs tr).1)) := fun H1 e Q q =>
  h1 H1 e _ fun H2 e2 => h2 H2 (e.trans e2) _ fun H3 e3 => h3 H3 ((e.trans e2).trans e3) _ fun v H4 e4 ⟨r, hv, hr, o, ho⟩ => by
    subst hv
    have e14 := ((e.trans e2).trans e3).trans e4
    exact h4 H4 e14 _ fun H5 e5 => ⟨rfl, rfl, a, s, r, m, pg, sz, b, rs, tr, ab, rfl, ⟨hT.ex (e14.trans e5), hS.ex (e14.trans e5), hr.ex e5, hrl, hrs⟩, ⟨o, e5 _ _ ho⟩, m1, m2, fun s H6 _ e6 hR => q _ H6 ((((e2.trans e3).trans e4).trans e5).trans e6) ⟨s, rfl, hR⟩⟩
theorem gv_behind {a s r : Addr} {m pg sz : Nat} {b rs tr : List Nat} (h1 : Ev t1 σ H (.ref a)) (h2 : Ev t2 σ H (.ref s)) (h3 : Ev t3 σ H (.ref r)) (h4 : Ev t4 σ H (.int (sz : Int))) (hS : Sit K CS CT m pg b rs tr H a s r) (ho : ∃ o, H r = some o) (m1 : 1 ≤ sz) (m2 : sz ≤ m) :
    Gv (tCall (sp_behind K CS CT) [] E0 (tCons t1 (tCons t2 (tCons t3 (tCons t4 tNil))))) σ H (fun v H1 => ∃ c, v = .ref c ∧ TreeAt K CT b.length pg (M.search b pg sz rs tr).2 H1 c) :=
  gv_call (ea_cons h1 (ea_cons h2 (ea_cons h3 (ea_cons h4 ea_nil)))) fun H1 e1 Q q E => ⟨a, s, r, m, pg, sz, b, rs, tr, rfl, hS.ex e1, ho.elim fun o ho => ⟨o, e1 _ _ ho⟩, m1, m2, q⟩
/-- play(..)['rows'] -/
theorem gv_playRows {d r rm : Addr} {m pg sz : Nat} {b rs tr : List Nat} (h1 : Ev t1 σ H (.ref d)) (h2 : Ev t2 σ H (.ref r)) (h3 : Ev t3 σ H (.ref rm)) (h4 : Ev t4 σ H (.int (sz : Int))) (hp : PlanE H d m b) (hr : H r = some (.lst (vi tr))) (hm : H rm = some (.lst (vi rs))) (hl : rs.length = pg) (hV : M.VT b.length pg tr) :
    Gv (tDGet (tCall (sp_law_play K CS CT) [] E0 (tCons t1 (tCons t2 (tCons t3 (tCons t4 tNil))))) (tC (.str "rows"))) σ H (fun v H1 => ∃ a, v = .ref a ∧ RowsAt H1 a [] (M.search b pg sz rs tr).1) := fun H1 e Q q =>
  gv_call (R := fun u H3 => PlayAt H3 u (M.search b pg sz rs tr).1) (ea_cons h1 (ea_cons h2 (ea_cons h3 (ea_cons h4 ea_nil)))) (fun H2 e2 Q q E => ⟨d, r, rm, m, pg, sz, b, rs, tr, rfl, hp.ex e2, e2 _ _ hr, e2 _ _ hm, hl, hV, q⟩) H1 e _ fun u H3 e3 ⟨dd, x, z, a, ex, hu, hd, hR⟩ => by
    subst hu
    have hv : valV ([(.inr "events", x), (.inr "rows", .ref a), (.inr "told", z)] : List (Key × V)) (.inr ("rows" : Str)) = some (.ref a) := (valV_neg (key_ne (a := ("events" : Str)) (b := ("rows" : Str)) (by decide +kernel))).trans (valV_pos rfl)
    exact ⟨dd, .ref a, rfl, by rw [← hv]; exact DGet.k (k := .inr "rows") hd, q _ H3 e3 ⟨a, rfl, hR.weak⟩⟩
/-- a, b = two new things -/
theorem q_parGG (h1 : Gv t1 σ H R1) (h2 : ∀ v H1, Ex H H1 → R1 v H1 → Gv t2 σ H1 R2) (k : ∀ v u H1 H2, Ex H H1 → R1 v H1 → Ex H1 H2 → R2 u H2 → tz D ((σ.set i (some v)).set j (some u)) H2) : tSeq (tPar i j (tCons t1 (tCons t2 tNil))) tz D σ H :=
  h1 H (Ex.refl H) _ fun v H1 e1 r1 => h2 v H1 e1 r1 H1 (Ex.refl _) _ fun u H2 e2 r2 => ⟨_, _, rfl, k v u H1 H2 e1 r1 e2 r2⟩
/-- a, b, c = a drawn list -/
theorem q_unlP3 {T : V → V → V → Hp → Prop} (h : Gp p te σ H (fun v H1 => ∃ a x y z, v = .ref a ∧ H1 a = some (.lst [x, y, z]) ∧ T x y z H1)) (k : ∀ x y z H1, ExP p H H1 → PoolAt H1 p → T x y z H1 → tz D (((σ.set i (some x)).set j (some y)).set l (some z)) H1) :
    tSeq (tAsg te (gUnl K 3 (gCons (gName i) (gCons (gName j) (gCons (gName l) gNil))))) tz D σ H := h _ fun v H1 e hP ⟨a, x, y, z, hv, ha, hT⟩ => by
  subst hv
  exact ⟨a, _, rfl, sq_of ha, rfl, _, _, rfl, _, _, rfl, _, _, rfl, rfl, k x y z H1 e hP hT⟩
/-- if not a drawn True: .. -/
theorem q_ifNotP (h : Gp p te σ H (fun v _ => v = .bl true)) (k : ∀ H1, ExP p H H1 → PoolAt H1 p → tz D σ H1) : tSeq (tIfS (tNot (tB te)) tu tNext) tz D σ H := h _ fun v H1 e hP hv => by
  subst hv
  refine ⟨true, rfl, ?_⟩
  show tz D σ H1
  exact k H1 e hP
theorem ex_lP {a : Addr} (e : ExP p H H') (hp : H p = none) (h : SqL K H a xs) : SqL K H' a xs := by
  rcases h with (h | ⟨o, h⟩) | h
  · exact .inl (.inl (e _ _ (ne_of_none h hp) h))
  · exact .inl (.inr ⟨o, e _ _ (ne_of_none h hp) h⟩)
  · exact .inr h
/-- scene(pool, a drawn top, 5) -/
theorem gp_sceneP (hp : σ[i]? = some (some (.ref p))) (hm : Gp p tm σ H (fun v _ => ∃ n : Nat, v = .int (n : Int) ∧ 1 ≤ n ∧ n ≤ 1000)) :
    Gp p (tCall (sp_law_scene K CS CT) [] E0 (tCons (tVar i) (tCons tm (tCons (tC (.int 5)) tNil)))) σ H (fun v H1 => ∃ a x y z, v = .ref a ∧ H1 a = some (.lst [x, y, z]) ∧ ∃ d r rm m pg b t rs, x = .ref d ∧ y = .ref r ∧ z = .ref rm ∧ SceneAt p H1 d r rm m pg b t rs) := fun Q q =>
  ⟨_, hp, hm _ fun v H1 e1 hP1 ⟨n, hv, n1, n2⟩ => by
    subst hv
    exact ⟨p, n, rfl, hP1, n1, n2, fun v H2 e2 hP2 ⟨a, d, r, rm, m, pg, b, t, rs, hv, ha, hS⟩ => q v H2 (e1.trans e2) hP2 ⟨a, _, _, _, hv, ha, d, r, rm, m, pg, b, t, rs, rfl, rfl, rfl, hS⟩⟩⟩
end
end Rt
end
section
/-! The law. Printed by gen_rules.py from RtO.src. -/
namespace Rt
open PySem PySem.Spec PyProof.Rows L2 Evl GenW

/-- the law's def, run where the claim's caller stands (its guards are known) -/
def LawRuns (P : Program) (w : World) (K : PySem.W.Frag) (mg : Str → Option Value) (base : Heap) (f : Addr) (fd : FuncData) (ps : List Str) (sp : Sp) : Prop :=
  ∀ (s : Shared) (H : Hp) (args : Args) (us : List Value) (vs : List V) (Q : VK) (E : XK), Env0 P w K mg base callerA [] s H → BindsTo s fd args (ps.zip us) → Vals vs us → sp vs H Q E →
    codeAny (model P w) callerA (.call (.ref f) args) (CR CX0 [] P w H s Q E) s
theorem LawRuns.of {P : Program} {w : World} {K : PySem.W.Frag} {mg : Str → Option Value} {base : Heap} {x qual : Str} {params : Arguments} {body : List Stmt} {scope : Scope} {dvs : List V} {kws : List (Str × V)} {f : Addr} {fd : FuncData} {N ps : List Str} {k : Nat} {sp : Sp}
    (F : FunD K x qual params body scope dvs kws f fd) (S : FnScope N ps scope) (hr : Room (k + 1) callerA) (len : ∀ vs H Q E, sp vs H Q E → vs.length = ps.length)
    (hbody : ∀ (cdv : Value) (s : Shared) (H : Hp) (vs : List V) (Q : VK) (E : XK), Room k (callerA.deeper (envOfC qual scope s.heap.objs.size f cdv)) → (callerA.deeper (envOfC qual scope s.heap.objs.size f cdv)).guards = some [] → sp vs H Q E →
      ∃ t, PSs (cxOf CX0 P w K mg base N qual scope f cdv callerA [] s H E) body t ∧ t { nx := fun _ H' => Q .non H', rt := Q } (L2.start N vs) H) : LawRuns P w K mg base f fd ps sp := by
  obtain ⟨oc, od, dV, kV, doc, pm, an, cdv, ct, osl, rfl, lk, hcd, _, _⟩ := F.ex
  intro s H args us vs Q E e0 hb rv hsp
  have old : ∀ {b : Addr} {o : Obj}, base.get? b = some o → s.heap.get? b = some o := fun {b o} e => (e0.bs b o e).1
  refine codeAny_call_function hr.depth ((e0.mod.kin.keeps fun b o e => old e) _ _ lk) rfl S.co S.gen rfl (PySem.W.codeRec_of (e0.mod.kin.keeps fun b o e => old e) hcd) (hb _ _ _ _ ?_)
  refine wpAny_newFunctionEnv_cells S.kind (fun y hy => ?_) fun env he s1 nw => ?_
  · rcases S.par y.1 (List.of_mem_zip hy).1 with q | q
    · exact .inl q
    · exact .inr ⟨q, PySem.W.cellsFrom_some _ _ _ (.inl q)⟩
  · cases he
    refine ⟨(e0.mod.nolimit.keeps fun b o e => old e).keeps nw.toInCall.keep, codeAny_func ?_⟩
    obtain ⟨t, ht, hq⟩ := hbody cdv s H vs Q E (hr.deeper _) rfl hsp
    have J0 : Inv (cxOf CX0 P w K mg base N qual scope f cdv callerA [] s H E) [] (L2.start N vs) H s1 := inv_start S hr.hd e0 (len _ _ _ _ hsp) rv nw
    refine wpAny_mono (ht.run [] s1 (L2.start N vs) H _ J0 hq) (fun fl s' hs => ?_) fun _ _ h => h
    have done : ∀ {σ' : L2.St} {H' : Hp} {v : V} {u : Value}, Inv (cxOf CX0 P w K mg base N qual scope f cdv callerA [] s H E) [] σ' H' s' → RelV v u → Q v H' → CE [] P w H s Q u s' :=
      fun J r q => ⟨_, _, J.os, J.bare, J.base, J.hok, r, q⟩
    match fl, hs with
    | .ret _, ⟨_, _, _, J, r, q⟩ => exact done J r q
    | .next, ⟨_, _, J, q⟩ => exact done (v := V.non) (u := Value.none) J rfl q
    | .brk, ⟨_, _, _, q⟩ => exact q.elim
    | .cont, ⟨_, _, _, q⟩ => exact q.elim

section
variable {P : Program} {w : World} {K : PySem.W.Frag} {mg : Str → Option Value} {base : Heap} {CS CT pgs : Addr}
def sp_law (K : PySem.W.Frag) (CS CT : Addr) : Sp := fun vs H Q _ => ∃ (a : Addr) (ns : List Int), vs = [.ref a] ∧ SqL K H a (ns.map V.int) ∧ ∀ H2, Q (.bl true) H2
theorem ok_law (D_law_opened : Dn P w K mg base 1 "_law_opened" ["_law_script", "_law_k"] [] (sp_law_opened K CS CT)) (D_law_upright_right : Dn P w K mg base 10 "_law_upright_right" ["_law_pool"] [] (sp_law_upright_right K CS CT)) (D_law_scene : Dn P w K mg base 4 "_law_scene" ["_law_pool", "_law_top", "_law_many"] [] (sp_law_scene K CS CT)) (D_law_draw : Dn P w K mg base 1 "_law_draw" ["_law_pool", "_law_many"] [] (sp_law_draw K CS CT)) (D_law_tree : Dn P w K mg base 5 "_law_tree" ["_law_plan", "_law_row"] [] (sp_law_tree K CS CT)) (D_law_made_steps : Dn P w K mg base 5 "_law_made_steps" ["_law_plan"] [] (sp_law_made_steps K CS CT)) (D_law_play : Dn P w K mg base 3 "_law_play" ["_law_plan", "_law_row", "_law_rooms_here", "_law_size"] [] (sp_law_play K CS CT)) (D_search_row : Dn P w K mg base 9 "search_row" ["tree", "steps", "rooms", "size", "above"] [.bl false] (sp_search_row K CS CT)) (DK_search_row : Dkw P w K mg base 9 "search_row" 4 ["above"] (fun vs zs => vs ++ zs) (sp_search_row K CS CT)) (D_behind : Dn P w K mg base 9 "behind" ["tree", "steps", "rooms", "size"] [] (sp_behind K CS CT)) (D_Tree_eq : Dq P w K mg base 1 CT ["self", "other"] (sp_Tree_eq K CS CT)) (D_written : Dn P w K mg base 6 "written" ["tree", "row"] [] (sp_written K CS CT)) (D_law_falls : Dn P w K mg base 1 "_law_falls" ["_law_row", "_law_some"] [] (sp_law_falls K CS CT)) {f : Addr} {fd : FuncData} (F : FnP K "law" "law" d_law [] [] f fd) (T : Tx K mg CS CT pgs) (hlv : Room 11 callerA) : LawRuns P w K mg base f fd ["_law_script"] (sp_law K CS CT) := by
  refine LawRuns.of F sc_law hlv (fun vs H Q E h => ?_) (fun cdv s H vs Q E hr hgd h => ?_)
  · obtain ⟨a, ns, rfl, _⟩ := h
    rfl
  · obtain ⟨a, ns, rfl, hS, k⟩ := h
    refine ⟨_, PSs.nox (pss_cons (ps_for PassesOwn.never rfl (pi_range1 (by rfl) T.b_range (pa_cons (pe_callB (call_max2 (by rfl)) (by rfl) T.b_max bt_max (pa_cons pe_int (pa_cons (pe_callB (call_min2 (by rfl)) (by rfl) T.b_min bt_min (pa_cons (pe_callB call_len_seq (by rfl) T.b_len bt_len (pa_cons (pv 0) pa_nil)) (pa_cons pe_int pa_nil))) pa_nil))) pa_nil)) (pg_name (i := 1) sc_law.nd rfl (.inl rfl)) (pss_cons (ps_set (i := 2) sc_law.nd rfl (.inl rfl) (pe_callD D_law_opened hr (by decide) (by rfl) (pa_cons (pv 0) (pa_cons (pv 1) pa_nil))))
    (pss_cons (ps_if (pt_not (pt_val (pe_callD D_law_upright_right hr (by decide) (by rfl) (pa_cons (pv 2) pa_nil)))) (pss_one (ps_ret pe_bl)) pss_nil)
    (pss_one (ps_for PassesOwn.never rfl (pi_range1 (by rfl) T.b_range (pa_cons pe_int pa_nil)) (pg_name (i := 3) sc_law.nd rfl (.inl rfl)) (pss_cons (ps_asg (pe_callD D_law_scene hr (by decide) (by rfl) (pa_cons (pv 2) (pa_cons (pe_ix ix_list (pe_lst (pa_cons pe_int (pa_cons pe_int (pa_cons pe_int pa_nil)))) (pe_callD D_law_draw hr (by decide) (by rfl) (pa_cons (pv 2) (pa_cons pe_int pa_nil))) (fun _ _ => rfl)) (pa_cons pe_int pa_nil)))) (pg_unl rfl (pgs_cons (pg_name (i := 4) sc_law.nd rfl (.inl rfl)) (pgs_cons (pg_name (i := 5) sc_law.nd rfl (.inl rfl)) (pgs_cons (pg_name (i := 6) sc_law.nd rfl (.inl rfl)) pgs_nil)))))
    (pss_cons (ps_par (i := 7) (j := 8) rfl sc_law.nd rfl rfl (by decide) rfl rfl (pa_cons (pe_callD D_law_tree hr (by decide) (by rfl) (pa_cons (pv 4) (pa_cons (pv 5) pa_nil))) (pa_cons (pe_callD D_law_made_steps hr (by decide) (by rfl) (pa_cons (pv 4) pa_nil)) pa_nil)) (by rfl))
    (pss_one (ps_for PassesOwn.never rfl (pi_range1 (by rfl) T.b_range (pa_cons pe_int pa_nil)) (pg_name (i := 9) sc_law.nd rfl (.inl rfl)) (pss_cons (ps_set (i := 10) sc_law.nd rfl (.inl rfl) (pe_op op_add pe_int (pe_callD D_law_draw hr (by decide) (by rfl) (pa_cons (pv 2) (pa_cons (pe_dget (room1 hr) (pv 4) pe_str (fun _ _ => rfl)) pa_nil)))))
    (pss_cons (ps_set (i := 11) sc_law.nd rfl (.inl rfl) (pe_dget (room1 hr) (pe_callD D_law_play hr (by decide) (by rfl) (pa_cons (pv 4) (pa_cons (pv 5) (pa_cons (pv 6) (pa_cons (pv 10) pa_nil))))) pe_str (fun _ _ => rfl)))
    (pss_cons (ps_par (i := 12) (j := 13) rfl sc_law.nd rfl rfl (by decide) rfl rfl (pa_cons (pe_callB (cr_sumL (by rfl)) (by rfl) T.b_sum bt_sum (pa_cons (pv 11) (pa_cons (pe_lst pa_nil) pa_nil))) (pa_cons (pe_callB (cr_sumL (by rfl)) (by rfl) T.b_sum bt_sum (pa_cons (pe_lc (te := (tRevL K (tVar 16))) (tt := tYes) (own := [("_law_one", 16)]) rfl sc_law.nd (pi_list (pv 11)) (blkOk_by (own := [("_law_one", 16)]) (N := ["_law_script", "_law_k", "_law_pool", "_law_step", "_law_plan", "_law_row", "_law_rooms_here", "_law_tree_here", "_law_steps", "_law_turn", "_law_size", "_law_rows", "_law_below", "_law_down_here", "_law_told_here", "_law_later", "_law_one"]) (sc := defScope d_law) (by decide +kernel)) (fun _ _ _ _ _ => (pg_name (i := 16) sc_law.nd rfl (.inl rfl) (.inr rfl))) (fun _ _ _ _ _ => pts_nil) (fun _ _ _ _ _ => (pe_revL (pv 16)))) (pa_cons (pe_lst pa_nil) pa_nil))) pa_nil)) (by rfl))
    (pss_cons (ps_set (i := 14) sc_law.nd rfl (.inl rfl) (pe_callD D_search_row hr (by decide) (by rfl) (pa_cons (pv 7) (pa_cons (pv 8) (pa_cons (pv 6) (pa_cons (pv 10) pa_nil))))))
    (pss_cons (ps_if (PW.pt (pw_or (pt_cmpR op_ne (pe_callB (cr_reprP hgd (room5 hr)) (by rfl) T.b_repr bt_repr (pa_cons (pv 14) pa_nil)) (pe_callB (cr_reprP hgd (room5 hr)) (by rfl) T.b_repr bt_repr (pa_cons (pv 12) pa_nil)) (nomark _)) (pw_or1 (pt_cmpR (op_neD (room64 hr)) (pe_callKD DK_search_row hr (by decide) (by rfl) (pa_cons (pv 7) (pa_cons (pv 8) (pa_cons (pv 6) (pa_cons (pv 10) pa_nil)))) (pk_cons pe_bl pk_nil)) (pv 12) (nomark _))))) (pss_one (ps_ret pe_bl)) pss_nil)
    (pss_cons (ps_if (pt_cmpR op_ne (pe_callB (cr_reprP hgd (room5 hr)) (by rfl) T.b_repr bt_repr (pa_cons (pe_callKD DK_search_row hr (by decide) (by rfl) (pa_cons (pv 7) (pa_cons (pv 8) (pa_cons (pe_callTy call_tuple_of (by rfl) T.b_tuple bt_tuple (pa_cons (pv 6) pa_nil)) (pa_cons (pv 10) pa_nil)))) (pk_cons pe_bl pk_nil)) pa_nil)) (pe_callB (cr_reprP hgd (room5 hr)) (by rfl) T.b_repr bt_repr (pa_cons (pv 13) pa_nil)) (nomark _)) (pss_one (ps_ret pe_bl)) pss_nil)
    (pss_cons (ps_set (i := 15) sc_law.nd rfl (.inl rfl) (pe_callD D_behind hr (by decide) (by rfl) (pa_cons (pv 7) (pa_cons (pv 8) (pa_cons (pv 6) (pa_cons (pv 10) pa_nil))))))
    (pss_cons (ps_if (PW.pt (pw_or (pt_cmpR (op_neOD D_Tree_eq hr (by decide)) (pe_callD D_written hr (by decide) (by rfl) (pa_cons (pv 7) (pa_cons (pv 14) pa_nil))) (pv 15) (nomark _)) (pw_or (pt_cmpR (op_neOD D_Tree_eq hr (by decide)) (pe_callD D_written hr (by decide) (by rfl) (pa_cons (pv 7) (pa_cons (pv 13) pa_nil))) (pv 15) (nomark _)) (pw_or1 (pt_not (pt_val (pe_callD D_law_falls hr (by decide) (by rfl) (pa_cons (pv 5) (pa_cons (pv 14) pa_nil))))))))) (pss_one (ps_ret pe_bl)) pss_nil)
    (pss_cons (ps_expr (pe_bm PySem.F.plainAttrs_list PySem.F.slot_list_append PySem.F.type_list_append mt_append (pv 14) (pa_cons pe_non pa_nil)))
    (pss_one (ps_if (pt_cmpR (op_neD (room64 hr)) (pe_callD D_search_row hr (by decide) (by rfl) (pa_cons (pv 7) (pa_cons (pv 8) (pa_cons (pv 6) (pa_cons (pv 10) pa_nil))))) (pv 12) (nomark _)) (pss_one (ps_ret pe_bl)) pss_nil))))))))))))))))))))
    (pss_one (ps_ret pe_bl))), ?_⟩
    have hN : ∃ N : Nat, N ≤ 1000 ∧ Ev (tCB (fun xs H Q => ∃ i j, xs = [.int i, .int j] ∧ Q (.int (if j > i then j else i)) H) (tCons (tC (.int 1)) (tCons (tCB rMin2 (tCons (tCB (rLenS K) (tCons (tVar 0) tNil)) (tCons (tC (.int 5)) tNil))) tNil))) [some (.ref a), none, none, none, none, none, none, none, none, none, none, none, none, none, none, none, none] H (.int (N : Int)) :=
      ⟨(if (if (5 : Int) < ((ns.map V.int).length : Int) then (5 : Int) else ((ns.map V.int).length : Int)) > 1 then (if (5 : Int) < ((ns.map V.int).length : Int) then (5 : Int) else ((ns.map V.int).length : Int)) else 1).toNat, by split <;> split <;> omega, ev_is (ev_max2 ev_c (ev_min2 (ev_len (ev_var rfl) hS) ev_c)) (congrArg V.int (by split <;> split <;> omega))⟩
    obtain ⟨N, hN1, hN⟩ := hN
    refine q_forR1 (n := (N : Int)) (ea_cons hN ea_nil) (by omega) (fun i σ' H' => ∃ y1 y2 y3 y4 y5 y6 y7 y8 y9 y10 y11 y12 y13 y14 y15 : Option V, σ' = [some (.ref a), y1, y2, y3, y4, y5, y6, y7, y8, y9, y10, y11, y12, y13, y14, y15, none] ∧ SqL K H' a (ns.map V.int))
      (fun H1 e1 => ⟨_, _, _, _, _, _, _, _, _, _, _, _, _, _, _, rfl, ex_l e1 hS⟩) (fun kk σ' HA hkk hW => ?_) fun σ' H' hW => s_ret ev_c fun H1 e1 => k H1
    obtain ⟨y1, y2, y3, y4, y5, y6, y7, y8, y9, y10, y11, y12, y13, y14, y15, rfl, hSA⟩ := hW
    -- the pool
    refine q_asgG (R := fun v H1 => ∃ p, v = .ref p ∧ HA p = none ∧ PoolAt H1 p) (gv_call (ea_cons (ev_var rfl) (ea_cons (x := .int (kk : Int)) (ev_var rfl) ea_nil)) fun H1 e1 Q q E => ⟨a, kk, ns, rfl, ex_l e1 hSA, by omega, fun p H2 hp e2 hP => q _ H2 e2 ⟨p, rfl, fresh_back e1 hp, hP⟩⟩) fun v HB eAB hv => ?_
    obtain ⟨p, rfl, hpA, hPB⟩ := hv
    refine q_ifNotP (p := p) (gp_call (ea_cons (ev_var rfl) ea_nil) fun H1 e1 Q q => ⟨p, rfl, hPB.ex e1, q⟩) fun HC xBC hPC => ?_
    have xAC : ExP p HA HC := (ExP.of eAB).trans xBC
    refine s_forR1 (n := 3) (ea_cons ev_c ea_nil) (by omega) (fun i σ' H' => ∃ y3 y4 y5 y6 y7 y8 y9 y10 y11 y12 y13 y14 y15 : Option V, σ' = [some (.ref a), some (.int (kk : Int)), some (.ref p), y3, y4, y5, y6, y7, y8, y9, y10, y11, y12, y13, y14, y15, none] ∧ ExP p HA H' ∧ PoolAt H' p)
      (fun H1 e1 => ⟨_, _, _, _, _, _, _, _, _, _, _, _, _, rfl, xAC.trans (.of e1), hPC.ex e1⟩) (fun st σ' HD hst hW => ?_) fun σ' H' hW => ?_
    · obtain ⟨y3', y4', y5', y6', y7', y8', y9', y10', y11', y12', y13', y14', y15', rfl, xAD, hPD⟩ := hW
      -- the scene
      refine q_unlP3 (i := 4) (j := 5) (l := 6) (gp_sceneP rfl ((gp_pick (xs := [.int 6, .int 30, .int 1000]) hPD (el_lst (ea_cons ev_c (ea_cons ev_c (ea_cons ev_c ea_nil))) (by simp)) fun H1 x1 hP1 => gp_draw (m := 3) hP1 (ev_var rfl) ev_c rfl (by omega) (by omega)).imp fun v H1 _ _ hv => ?_)) fun x y z HE xDE hPE hx => ?_
      · simp only [List.mem_cons, List.not_mem_nil, or_false] at hv
        rcases hv with h | h | h
        · exact ⟨6, h, by omega, by omega⟩
        · exact ⟨30, h, by omega, by omega⟩
        · exact ⟨1000, h, by omega, by omega⟩
      obtain ⟨d, r, rm, m, pg, b, t, rs, rfl, rfl, rfl, hSc⟩ := hx
      have hV : M.VT b.length pg t := hSc.2.2.2.2.2.1
      have hrl : rs.length = pg := hSc.2.2.2.2.2.2.1
      have hrs : ∀ x ∈ rs, x ≤ m := hSc.2.2.2.2.2.2.2
      have hm1 := hSc.1.1.m1
      have hm2 := hSc.1.1.m2
      have htl : t.length ≤ 63 := by have := hV.len; have := hV.P32; omega
      refine q_parGG (gv_law_tree (ev_var rfl) hSc.1.e (ev_var rfl) hSc.2.1 hV) (fun v H1 e1 _ => gv_law_made (ev_var rfl) (hSc.1.ex (.of e1)).e) fun v u H1 HF e1 hv e2 hu => ?_
      obtain ⟨ta, rfl, hTa⟩ := hv
      obtain ⟨s0, rfl, hS0⟩ := hu
      have hTF := hTa.ex e2
      have hScF := hSc.ex (.of (e1.trans e2))
      have hPF := hPE.ex (e1.trans e2)
      have xAF : ExP p HA HF := (xAD.trans xDE).trans (.of (e1.trans e2))
      refine s_forR1 (n := 2) (ea_cons ev_c ea_nil) (by omega) (fun i σ' H' => ∃ y9 y10 y11 y12 y13 y14 y15 : Option V, σ' = [some (.ref a), some (.int (kk : Int)), some (.ref p), some (.int (st : Int)), some (.ref d), some (.ref r), some (.ref rm), some (.ref ta), some (.ref s0), y9, y10, y11, y12, y13, y14, y15, none] ∧ ExP p HF H' ∧ PoolAt H' p)
        (fun H1 e1 => ⟨_, _, _, _, _, _, _, rfl, .of e1, hPF.ex e1⟩) (fun tn σ' HG htn hW => ?_) fun σ' H' hW => ?_
      · obtain ⟨z9, z10, z11, z12, z13, z14, z15, rfl, xFG, hPG⟩ := hW
        refine q_asgP (gp_1draw (gp_draw hPG (ev_var rfl) (ev_most (ev_var rfl) (hScF.ex xFG).1.e) rfl hm1 (by omega))) fun v H0 x0 hP0 hv => ?_
        obtain ⟨sz, rfl, sz1, sz2⟩ := hv
        have xF0 := xFG.trans x0
        obtain ⟨hPl, hr0, nrp, hrm0, nrm, _⟩ := hScF.ex xF0
        have hT0 := hTF.exP xF0 hPF
        have hS0' := hS0.exP xF0 hPF
        obtain ⟨sp1, sp2, sp3, sp4, sp5, _⟩ := M.search_spec (sz := sz) (rooms := rs) hV
        have sl1 := M.search_len (sz := sz) (rooms := rs) hV
        have sl2 := M.flat_len (M.search b pg sz rs t).1
        have slr := M.search_rows (b := b) (P := pg) (sz := sz) (rooms := rs) (t := t)
        have okr : ∀ {ws : List (Nat × Nat)}, M.OkW t.length b.length ws → ws.length ≤ 504 → OkR ws := fun h1 h2 => ⟨by omega, fun q hq => by
          have := h1 q hq
          have := hV.c8
          omega⟩
        have ok1 := okr sp3 sl1
        have ok2 := okr sp4 (by omega)
        have sit : ∀ {H'}, Ex H0 H' → Sit K CS CT m pg b rs t H' ta s0 rm := fun e => ⟨hT0.ex e, hS0'.ex e, .inl (sq_of (e _ _ hrm0)), hrl, hrs⟩
        -- the rows of the play
        refine q_asgG (gv_playRows (ev_var rfl) (ev_var rfl) (ev_var rfl) (ev_var rfl) hPl.e hr0 hrm0 hrl hV) fun v H1 e01 hv => ?_
        obtain ⟨a11, rfl, hR11⟩ := hv
        refine q_parGG (R2 := fun v H9 => ∃ q, v = .ref q ∧ RowAt H9 q ((M.search b pg sz rs t).1.map List.reverse).flatten) (gv_sumR (K := K) (Rs := (M.search b pg sz rs t).1) (Gv.of (ev_var rfl) fun H2 e2 => ⟨a11, rfl, hR11.ex e2⟩) (by rw [← M.flat_false]; omega))
          (fun v H2 e2 _ => gv_sumR (K := K) (Rs := (M.search b pg sz rs t).1.map List.reverse) (gv_revRows (K := K) (hR11.ex e2) (by omega)) (by rw [← M.flat_true]; omega) |>.imp fun v H9 e9 ⟨q, hv, _, hq⟩ => ⟨q, hv, hq⟩) fun v u H2 H3 e12 hv e23 hu => ?_
        obtain ⟨a12, rfl, hn12, hR12⟩ := hv
        obtain ⟨a13, rfl, hR13⟩ := hu
        rw [← M.flat_false] at hR12
        rw [← M.flat_true] at hR13
        have e03 := (e01.trans e12).trans e23
        have hR12' := hR12.ex e23
        -- the row told
        refine q_asgG (gv_search (ev_var rfl) (ev_var rfl) (ev_var rfl) (ev_var rfl) (sit e03) ⟨_, e03 _ _ hrm0⟩ sz1 sz2) fun v H4 e34 hv => ?_
        obtain ⟨a14, rfl, hn14, hR14⟩ := hv
        have e04 := e03.trans e34
        have hR12_4 := hR12'.ex e34
        have hR13_4 := hR13.ex e34
        refine q_when (b := false) (et_or (a := false) (b := false) (et_is (et_test (ev_op (ev_reprR (Gv.of (ev_var rfl) fun H5 e5 => ⟨a14, rfl, hR14.ex e5⟩) ok1) (ev_reprR (Gv.of (ev_var rfl) fun H5 e5 => ⟨a12, rfl, hR12_4.ex e5⟩) ok1) (rv_ne rfl))) (by simp))
          fun _ => et_neRow (gv_searchK (ab := false) (ev_var rfl) (ev_var rfl) (Gv.of (ev_var rfl) fun H5 e5 => ⟨rm, rfl, (sit (e04.trans e5)).rooms, _, (e04.trans e5) _ _ hrm0⟩) (ev_var rfl) (sit e04).tree (sit e04).steps hrl hrs sz1 sz2) (ev_var rfl) hR12_4) (fun z => by cases z) fun _ H5 e45 => ?_
        have e05 := e04.trans e45
        refine q_when (b := false) (et_is (et_test (ev_op (ev_reprR (gv_searchK (ab := true) (ev_var rfl) (ev_var rfl) ((gv_tupN (ev_var rfl) (e05 _ _ hrm0)).imp fun v H6 e6 ⟨q, hv, hq⟩ => ⟨q, hv, .inr (st_of hq), _, hq⟩) (ev_var rfl) (sit e05).tree (sit e05).steps hrl hrs sz1 sz2) ok2) (ev_reprR (Gv.of (ev_var rfl) fun H6 e6 => ⟨a13, rfl, (hR13_4.ex e45).ex e6⟩) ok2) (rv_ne rfl))) (by simp)) (fun z => by cases z) fun _ H6 e56 => ?_
        have e06 := e05.trans e56
        -- the tree behind
        refine q_asgG (gv_behind (ev_var rfl) (ev_var rfl) (ev_var rfl) (ev_var rfl) (sit e06) ⟨_, e06 _ _ hrm0⟩ sz1 sz2) fun v H7 e67 hv => ?_
        obtain ⟨a15, rfl, hT15⟩ := hv
        have e07 := e06.trans e67
        have e47 := (e45.trans e56).trans e67
        have hR14_7 := hR14.ex e47
        have w1 : Gv (tCall (sp_written K CS CT) [] E0 (tCons (tVar 7) (tCons (tVar 14) tNil))) [some (.ref a), some (.int (kk : Int)), some (.ref p), some (.int (st : Int)), some (.ref d), some (.ref r), some (.ref rm), some (.ref ta), some (.ref s0), some (.int (tn : Int)), some (.int (sz : Int)), some (.ref a11), some (.ref a12), some (.ref a13), some (.ref a14), some (.ref a15), none] H7 (fun u H1 => ∃ c, u = .ref c ∧ TreeAt K CT b.length pg (M.search b pg sz rs t).2 H1 c) := by
          rw [sp1]
          exact gv_written (ev_var rfl) (Gv.of (ev_var rfl) fun H8 e8 => ⟨a14, rfl, hR14_7.ex e8⟩) (sit e07).tree sp3 (by omega)
        have w2 : Gv (tCall (sp_written K CS CT) [] E0 (tCons (tVar 7) (tCons (tVar 13) tNil))) [some (.ref a), some (.int (kk : Int)), some (.ref p), some (.int (st : Int)), some (.ref d), some (.ref r), some (.ref rm), some (.ref ta), some (.ref s0), some (.int (tn : Int)), some (.int (sz : Int)), some (.ref a11), some (.ref a12), some (.ref a13), some (.ref a14), some (.ref a15), none] H7 (fun u H1 => ∃ c, u = .ref c ∧ TreeAt K CT b.length pg (M.search b pg sz rs t).2 H1 c) := by
          rw [sp2]
          exact gv_written (ev_var rfl) (Gv.of (ev_var rfl) fun H8 e8 => ⟨a13, rfl, (hR13_4.ex e47).ex e8⟩) (sit e07).tree sp4 (by omega)
        refine q_when (b := false) (et_or (a := false) (b := false) (et_neTree w1 (ev_var rfl) hT15) fun _ => et_or (a := false) (b := false) (et_neTree w2 (ev_var rfl) hT15) fun _ => et_not (a := true) (et_B (ev_call (ea_cons (ev_var rfl) (ea_cons (ev_var rfl) ea_nil)) fun H8 e8 Q q E => ⟨r, a14, b.length, t, _, rfl, (e07.trans e8) _ _ hr0, hR14_7.ex e8, sp3, sp5, q⟩)))
          (fun z => by cases z) fun _ H8 e78 => ?_
        have e08 := e07.trans e78
        have e48 := e47.trans e78
        -- told.append(None)
        obtain ⟨xs14, hx14, hP14⟩ := hR14.ex e48
        have n12 : a12 ≠ a14 := by
          obtain ⟨xs, h1, _⟩ := hR12'
          exact ne_of_none h1 hn14
        have nrm14 : rm ≠ a14 := ne_of_none (e03 _ _ hrm0) hn14
        have hn14F : HF a14 = none := xF0.back hP0 (fresh_back e03 hn14)
        have np14 : a14 ≠ p := hPF.ne hn14F
        refine q_appG (R := fun _ _ => True) hx14 (ev_var rfl) (Gv.of (v := .non) ev_c fun _ _ => trivial) (by rw [hP14.len]; omega) fun v H9 e89 _ => ?_
        have hx14' := e89 _ _ hx14
        have e09 := e08.trans e89
        have x09 : ExP p HF (upd H9 a14 (.lst (xs14 ++ [v]))) := (xF0.trans (.of e09)).mut hn14F
        have hPn : PoolAt (upd H9 a14 (.lst (xs14 ++ [v]))) p := (hP0.ex e09).updN np14.symm
        have sitn : Sit K CS CT m pg b rs t (upd H9 a14 (.lst (xs14 ++ [v]))) ta s0 rm := ⟨(sit e09).tree.updL hx14', (sit e09).steps.updL hx14', .inl (sq_of (by rw [upd_ne nrm14]; exact e09 _ _ hrm0)), hrl, hrs⟩
        have hrmn : (upd H9 a14 (.lst (xs14 ++ [v]))) rm = some (.lst (vi rs)) := by rw [upd_ne nrm14]; exact e09 _ _ hrm0
        have hR12n : RowAt (upd H9 a14 (.lst (xs14 ++ [v]))) a12 (M.flat false (M.search b pg sz rs t).1) := (hR12_4.ex (e48.trans e89)).updN hx14' n12
        refine s_when (b := false) (et_neRow ((gv_search (ev_var rfl) (ev_var rfl) (ev_var rfl) (ev_var rfl) sitn ⟨_, hrmn⟩ sz1 sz2).imp fun u H10 e10 ⟨q, hu, _, hq⟩ => ⟨q, hu, hq⟩) (ev_var rfl) hR12n) (fun z => by cases z) fun _ H10 e10 => ?_
        exact ⟨_, _, _, _, _, _, _, rfl, x09.trans (.of e10), hPn.ex e10⟩
      · obtain ⟨z9, z10, z11, z12, z13, z14, z15, rfl, xFG, hPG⟩ := hW
        exact ⟨_, _, _, _, _, _, _, _, _, _, _, _, _, rfl, xAF.trans xFG, hPG⟩
    · obtain ⟨y3', y4', y5', y6', y7', y8', y9', y10', y11', y12', y13', y14', y15', rfl, xAD, hPD⟩ := hW
      exact ⟨_, _, _, _, _, _, _, _, _, _, _, _, _, _, _, rfl, ex_lP xAD hpA hSA⟩
end
end Rt
end
section
/-! The law's end where the caller's guards are known: HandS.Ends.law_call and HandS.HeadEnd.walk_ofE turned to a promise kept at callerA alone. -/
namespace Rt
open PySem PySem.Spec PyProof.Rows L2

/-- what may be tracked ahead of the law: the script, frozen -/
def ScriptHp (a : Addr) (o : Obj) (xs : List V) (H : Hp) : Prop := ∀ b u, H b = some u → b = a ∧ u = .frz o (.lst xs)
theorem ScriptHp.not_dict {a b : Addr} {o : Obj} {xs : List V} {H : Hp} {hp : Heap} {its : Array Value} {n : Nat} (h : ScriptHp a o xs H) (ha : hp.get? a = some o) (ho : o.data = .seq its n) {ob : Obj} {es : Array DictEntry} {ep : Nat} (e : hp.get? b = some ob) (d : ob.data = .dict es ep) : H b = none := by
  cases q : H b with
  | none => rfl
  | some u =>
    obtain ⟨rfl, _⟩ := h b u q
    rw [ha] at e
    cases e
    rw [ho] at d
    cases d
theorem law_callG {P : Program} {w : World} {K : PySem.W.Frag} {mg mb : Str → Option Value} {fa a : Addr} {fd : FuncData} {x : Str} {sp : Sp} {s₁ : Shared} {vs : List Value} {ns : List Int}
    (KX : K.In s₁.heap) (hns : s₁.heap.Ns mainGlobals mg) (hb : s₁.heap.Ns builtinsNs mb) (hbb : ∀ x : Str, x ≠ "__name__" → mb x = bootBuiltins x) (hlim : s₁.heap.NoLimit) (hg : s₁.gens = #[])
    (ha : s₁.heap.get? a = some { cls := .type "list", data := .seq vs.toArray }) (hi : IntsAre vs ns) (hl : ns.length ≤ sizeLine)
    (F : ∀ base : Heap, K.In base → base.Ns mainGlobals mg → LawRuns P w K mg base fa fd [x] sp) (hbind : ∀ (s : Shared) (u : Value), BindsTo s fd ⟨[u], []⟩ [(x, u)])
    (hsp : ∀ H : Hp, SqL K H a (ns.map V.int) → sp [.ref a] H (fun v _ => v = .bl true) fun _ _ _ => False) :
    codeAny (model P w) callerA (.call (.ref fa) ⟨[.ref a], []⟩) (fun r s' => r = .ok (.ret (.bool true)) ∧ OldK s₁.heap s'.heap ∧ s'.os = s₁.os ∧ AllBare s'.gens) s₁ := by
  have rv := vals_ints hi
  have lenV := hi.length
  have main : ∀ H : Hp, ScriptHp a { cls := .type "list", data := .seq vs.toArray } (ns.map V.int) H → SqL K H a (ns.map V.int) → (H a ≠ none → K.lookup a = none) →
      codeAny (model P w) callerA (.call (.ref fa) ⟨[.ref a], []⟩) (fun r s' => r = .ok (.ret (.bool true)) ∧ OldK s₁.heap s'.heap ∧ s'.os = s₁.os ∧ AllBare s'.gens) s₁ := by
    intro H hS hq hK
    have hok : HOk P w H s₁.heap := fun b u e => by
      obtain ⟨rfl, rfl⟩ := hS b u e
      exact ⟨ha, by rw [List.length_map]; exact hl, vs, _, rv, ha⟩
    have ns : ∀ {b : Addr} {m : Str → Option Value}, s₁.heap.Ns b m → (hidT s₁.heap H).Ns b m := fun {b m} ⟨o, es, ep, e, d, r⟩ => ⟨o, es, ep, hidT_get e (hS.not_dict ha rfl e d), d, r⟩
    have kin : K.In (hidT s₁.heap H) := fun b o e => hidT_get (KX b o e) (by
      cases q : H b with
      | none => rfl
      | some u =>
        obtain ⟨rfl, _⟩ := hS b u q
        rw [hK (by rw [q]; simp)] at e
        cases e)
    obtain ⟨mc, c1, c2⟩ := hlim
    have env : Env0 P w K mg (hidT s₁.heap H) callerA [] s₁ H :=
      ⟨rfl, ⟨kin, ns hns, ⟨mb, ns hb, hbb⟩, ⟨mc, ns c1, c2⟩⟩, fun b o e => of_hidT e, Nat.le_of_eq (hidT_size _ _), trivial, fun b hb => absurd (show b ∈ ([] : List Addr) from hb) (by simp), hok, .of_eq hg⟩
    refine codeAny_mono (F _ kin (ns hns) s₁ H ⟨[.ref a], []⟩ [.ref a] [.ref a] _ _ env (hbind s₁ (.ref a)) (.cons rfl .nil) (hsp H hq)) fun r s' h => ?_
    match r, h with
    | .error e, h => exact (show False from h).elim
    | .ok .next, h => exact (show False from h).elim
    | .ok .brk, h => exact (show False from h).elim
    | .ok .cont, h => exact (show False from h).elim
    | .ok (.ret u), h =>
      obtain ⟨v, H', os, bare, un, hok', r', q⟩ := h
      obtain rfl : v = .bl true := q
      obtain rfl : u = Value.bool true := r'
      refine ⟨rfl, OldK.of_keep fun b o e => ?_, os, bare⟩
      cases q : H b with
      | none => exact un.keep b o e q (by intro z; exact absurd (show b ∈ ([] : List Addr) from z) (by simp)) (by simp)
      | some y =>
        obtain ⟨rfl, rfl⟩ := hS b y q
        obtain ⟨g, _⟩ := hok' _ _ (un.frzs _ _ _ q)
        rw [ha] at e
        cases e
        exact g
  cases hk : K.lookup a with
  | some o =>
    have e := KX a o hk
    rw [ha] at e
    cases e
    exact main (fun _ => none) (fun b u z => by cases z) (.inr ⟨_, vs.toArray, _, hk, rfl, rfl, rfl, by rw [List.size_toArray, lenV]; exact hl, by simpa using rv⟩) fun z => absurd rfl z
  | none =>
    refine main (fun b => if b = a then some (.frz { cls := .type "list", data := .seq vs.toArray } (.lst (ns.map V.int))) else none) (fun b u z => ?_) (.inl (.inr ⟨_, if_pos rfl⟩)) fun _ => hk
    by_cases e : b = a
    · have z' := (if_pos e).symm.trans z
      cases z'
      exact ⟨e, rfl⟩
    · have z' := (if_neg e).symm.trans z
      cases z'
/-- the goal of a head by facts, from a promise kept at callerA -/
theorem walk_ofG {l : PySem.W.OpenLaw} {n : Nat} {q : Program} {loose : List Str} {XP : (Str → Option Value) → Heap → Prop} {YP : World → Heap → Prop} {d : DefRec} {x : Str}
    (hn : l.most = some n) (hn2 : n ≤ sizeLine) (hdf : d.params.defaults = [])
    (F : ∀ (w : World) (mg : Str → Option Value) (fa : Addr) (h : Heap), YP w h → h.Ns mainGlobals mg → mg d.name = some (.ref fa) →
      ∃ (K : PySem.W.Frag) (fd : FuncData) (sp : Sp), K.In h ∧ (∀ (s : Shared) (u : Value), BindsTo s fd ⟨[u], []⟩ [(x, u)]) ∧
        (∀ (H : Hp) (a : Addr) (ns : List Int), SqL K H a (ns.map V.int) → sp [.ref a] H (fun v _ => v = .bl true) fun _ _ _ => False) ∧
        ∀ base : Heap, K.In base → base.Ns mainGlobals mg → LawRuns l.prog w K mg base fa fd [x] sp) :
    PySem.W.WalkO q loose XP YP l.row.toRowW d [] (fun f vs => PySem.call f vs) := by
  refine Att.attach_call hn hdf fun w s₀ s₁ mg mb fa o pm cd doc a vs ns G Y ho hd hcd hmg hobj hints hlen hg => ?_
  obtain ⟨K, fd, sp, KX, hb, hsp, hF⟩ := F w mg fa _ Y G.T.g hmg
  exact law_callG KX G.T.g G.T.b G.T.builtins G.T.nolimit hg hobj hints (Nat.le_trans hlen hn2) hF hb fun H hS => hsp H a ns hS
end Rt
end
section
/-! The head's facts, the run of the top. Printed by gen_head.py from RtHead.src. -/
namespace Rt
open PySem PySem.Spec PyProof.Rows L2
def dd_is_count : He.DefD := ⟨("is_count", none), "is_count", "is_count", defArgs d_is_count, defBody d_is_count, defScope d_is_count, [], []⟩
def dd_are_bounds : He.DefD := ⟨("are_bounds", none), "are_bounds", "are_bounds", defArgs d_are_bounds, defBody d_are_bounds, defScope d_are_bounds, [], []⟩
def dd_Steps_init : He.DefD := ⟨("Steps", some "__init__"), "__init__", "Steps.__init__", defArgs d_Steps_init, defBody d_Steps_init, defScope d_Steps_init, [], []⟩
def dd_Steps_len : He.DefD := ⟨("Steps", some "__len__"), "__len__", "Steps.__len__", defArgs d_Steps_len, defBody d_Steps_len, defScope d_Steps_len, [], []⟩
def dd_Steps_class_of : He.DefD := ⟨("Steps", some "class_of"), "class_of", "Steps.class_of", defArgs d_Steps_class_of, defBody d_Steps_class_of, defScope d_Steps_class_of, [], []⟩
def dd_Steps_need : He.DefD := ⟨("Steps", some "need"), "need", "Steps.need", defArgs d_Steps_need, defBody d_Steps_need, defScope d_Steps_need, [], []⟩
def dd_check_steps : He.DefD := ⟨("check_steps", none), "check_steps", "check_steps", defArgs d_check_steps, defBody d_check_steps, defScope d_check_steps, [], []⟩
def dd_check_size : He.DefD := ⟨("check_size", none), "check_size", "check_size", defArgs d_check_size, defBody d_check_size, defScope d_check_size, [], []⟩
def dd_are_told : He.DefD := ⟨("are_told", none), "are_told", "are_told", defArgs d_are_told, defBody d_are_told, defScope d_are_told, [], []⟩
def dd_Tree_init : He.DefD := ⟨("Tree", some "__init__"), "__init__", "Tree.__init__", defArgs d_Tree_init, defBody d_Tree_init, defScope d_Tree_init, [], []⟩
def dd_Tree_is_upright : He.DefD := ⟨("Tree", some "is_upright"), "is_upright", "Tree.is_upright", defArgs d_Tree_is_upright, defBody d_Tree_is_upright, defScope d_Tree_is_upright, [], []⟩
def dd_Tree_eq : He.DefD := ⟨("Tree", some "__eq__"), "__eq__", "Tree.__eq__", defArgs d_Tree_eq, defBody d_Tree_eq, defScope d_Tree_eq, [], []⟩
def dd_Tree_len : He.DefD := ⟨("Tree", some "__len__"), "__len__", "Tree.__len__", defArgs d_Tree_len, defBody d_Tree_len, defScope d_Tree_len, [], []⟩
def dd_Tree_getitem : He.DefD := ⟨("Tree", some "__getitem__"), "__getitem__", "Tree.__getitem__", defArgs d_Tree_getitem, defBody d_Tree_getitem, defScope d_Tree_getitem, [], []⟩
def dd_Tree_leaf : He.DefD := ⟨("Tree", some "leaf"), "leaf", "Tree.leaf", defArgs d_Tree_leaf, defBody d_Tree_leaf, defScope d_Tree_leaf, [], []⟩
def dd_Tree_way : He.DefD := ⟨("Tree", some "way"), "way", "Tree.way", defArgs d_Tree_way, defBody d_Tree_way, defScope d_Tree_way, [], []⟩
def dd_Tree_greater : He.DefD := ⟨("Tree", some "greater"), "greater", "Tree.greater", defArgs d_Tree_greater, defBody d_Tree_greater, defScope d_Tree_greater, [], []⟩
def dd_Tree_least_on_way : He.DefD := ⟨("Tree", some "least_on_way"), "least_on_way", "Tree.least_on_way", defArgs d_Tree_least_on_way, defBody d_Tree_least_on_way, defScope d_Tree_least_on_way, [], []⟩
def dd_Tree_missed : He.DefD := ⟨("Tree", some "missed"), "missed", "Tree.missed", defArgs d_Tree_missed, defBody d_Tree_missed, defScope d_Tree_missed, [], []⟩
def dd_Tree_with_told : He.DefD := ⟨("Tree", some "with_told"), "with_told", "Tree.with_told", defArgs d_Tree_with_told, defBody d_Tree_with_told, defScope d_Tree_with_told, [], []⟩
def dd_are_rooms : He.DefD := ⟨("are_rooms", none), "are_rooms", "are_rooms", defArgs d_are_rooms, defBody d_are_rooms, defScope d_are_rooms, [], []⟩
def dd_check_tree : He.DefD := ⟨("check_tree", none), "check_tree", "check_tree", defArgs d_check_tree, defBody d_check_tree, defScope d_check_tree, [], []⟩
def dd_check_parts : He.DefD := ⟨("check_parts", none), "check_parts", "check_parts", defArgs d_check_parts, defBody d_check_parts, defScope d_check_parts, [], []⟩
def dd_check_above : He.DefD := ⟨("check_above", none), "check_above", "check_above", defArgs d_check_above, defBody d_check_above, defScope d_check_above, [], []⟩
def dd_check_class : He.DefD := ⟨("check_class", none), "check_class", "check_class", defArgs d_check_class, defBody d_check_class, defScope d_check_class, [], []⟩
def dd_lowering : He.DefD := ⟨("lowering", none), "lowering", "lowering", defArgs d_lowering, defBody d_lowering, defScope d_lowering, [], [("above", .bl false)]⟩
def dd_is_row : He.DefD := ⟨("is_row", none), "is_row", "is_row", defArgs d_is_row, defBody d_is_row, defScope d_is_row, [], []⟩
def dd_check_row : He.DefD := ⟨("check_row", none), "check_row", "check_row", defArgs d_check_row, defBody d_check_row, defScope d_check_row, [], []⟩
def dd_written : He.DefD := ⟨("written", none), "written", "written", defArgs d_written, defBody d_written, defScope d_written, [], []⟩
def dd_stages : He.DefD := ⟨("stages", none), "stages", "stages", defArgs d_stages, defBody d_stages, defScope d_stages, [], []⟩
def dd_check_asked : He.DefD := ⟨("check_asked", none), "check_asked", "check_asked", defArgs d_check_asked, defBody d_check_asked, defScope d_check_asked, [], []⟩
def dd_next_node : He.DefD := ⟨("next_node", none), "next_node", "next_node", defArgs d_next_node, defBody d_next_node, defScope d_next_node, [], []⟩
def dd_events : He.DefD := ⟨("events", none), "events", "events", defArgs d_events, defBody d_events, defScope d_events, [], []⟩
def dd_behind : He.DefD := ⟨("behind", none), "behind", "behind", defArgs d_behind, defBody d_behind, defScope d_behind, [], []⟩
def dd_search_row : He.DefD := ⟨("search_row", none), "search_row", "search_row", defArgs d_search_row, defBody d_search_row, defScope d_search_row, [], [("above", .bl false)]⟩
def dd_law_opened : He.DefD := ⟨("_law_opened", none), "_law_opened", "_law_opened", defArgs d_law_opened, defBody d_law_opened, defScope d_law_opened, [], []⟩
def dd_law_draw : He.DefD := ⟨("_law_draw", none), "_law_draw", "_law_draw", defArgs d_law_draw, defBody d_law_draw, defScope d_law_draw, [], []⟩
def dd_law_bounds : He.DefD := ⟨("_law_bounds", none), "_law_bounds", "_law_bounds", defArgs d_law_bounds, defBody d_law_bounds, defScope d_law_bounds, [], []⟩
def dd_law_class : He.DefD := ⟨("_law_class", none), "_law_class", "_law_class", defArgs d_law_class, defBody d_law_class, defScope d_law_class, [], []⟩
def dd_law_need : He.DefD := ⟨("_law_need", none), "_law_need", "_law_need", defArgs d_law_need, defBody d_law_need, defScope d_law_need, [], []⟩
def dd_law_made_steps : He.DefD := ⟨("_law_made_steps", none), "_law_made_steps", "_law_made_steps", defArgs d_law_made_steps, defBody d_law_made_steps, defScope d_law_made_steps, [], []⟩
def dd_law_told : He.DefD := ⟨("_law_told", none), "_law_told", "_law_told", defArgs d_law_told, defBody d_law_told, defScope d_law_told, [], []⟩
def dd_law_pages : He.DefD := ⟨("_law_pages", none), "_law_pages", "_law_pages", defArgs d_law_pages, defBody d_law_pages, defScope d_law_pages, [], []⟩
def dd_law_rooms : He.DefD := ⟨("_law_rooms", none), "_law_rooms", "_law_rooms", defArgs d_law_rooms, defBody d_law_rooms, defScope d_law_rooms, [], []⟩
def dd_law_greater : He.DefD := ⟨("_law_greater", none), "_law_greater", "_law_greater", defArgs d_law_greater, defBody d_law_greater, defScope d_law_greater, [], []⟩
def dd_law_mended : He.DefD := ⟨("_law_mended", none), "_law_mended", "_law_mended", defArgs d_law_mended, defBody d_law_mended, defScope d_law_mended, [], []⟩
def dd_law_exact : He.DefD := ⟨("_law_exact", none), "_law_exact", "_law_exact", defArgs d_law_exact, defBody d_law_exact, defScope d_law_exact, [], []⟩
def dd_law_lowered : He.DefD := ⟨("_law_lowered", none), "_law_lowered", "_law_lowered", defArgs d_law_lowered, defBody d_law_lowered, defScope d_law_lowered, [], []⟩
def dd_law_put : He.DefD := ⟨("_law_put", none), "_law_put", "_law_put", defArgs d_law_put, defBody d_law_put, defScope d_law_put, [], []⟩
def dd_law_down : He.DefD := ⟨("_law_down", none), "_law_down", "_law_down", defArgs d_law_down, defBody d_law_down, defScope d_law_down, [], []⟩
def dd_law_play : He.DefD := ⟨("_law_play", none), "_law_play", "_law_play", defArgs d_law_play, defBody d_law_play, defScope d_law_play, [], []⟩
def dd_law_scene : He.DefD := ⟨("_law_scene", none), "_law_scene", "_law_scene", defArgs d_law_scene, defBody d_law_scene, defScope d_law_scene, [], []⟩
def dd_law_tree : He.DefD := ⟨("_law_tree", none), "_law_tree", "_law_tree", defArgs d_law_tree, defBody d_law_tree, defScope d_law_tree, [], []⟩
def dd_law_falls : He.DefD := ⟨("_law_falls", none), "_law_falls", "_law_falls", defArgs d_law_falls, defBody d_law_falls, defScope d_law_falls, [], []⟩
def dd_law_upright_right : He.DefD := ⟨("_law_upright_right", none), "_law_upright_right", "_law_upright_right", defArgs d_law_upright_right, defBody d_law_upright_right, defScope d_law_upright_right, [], []⟩
def dd_law : He.DefD := ⟨("law", none), "law", "law", defArgs d_law, defBody d_law, defScope d_law, [], []⟩
def fns0 : List He.DefD := [dd_is_count, dd_are_bounds, dd_Steps_init, dd_Steps_len, dd_Steps_class_of, dd_Steps_need, dd_check_steps, dd_check_size, dd_are_told, dd_Tree_init, dd_Tree_eq, dd_Tree_len, dd_Tree_getitem, dd_Tree_leaf, dd_Tree_way, dd_Tree_greater, dd_Tree_least_on_way, dd_Tree_missed, dd_Tree_with_told, dd_are_rooms, dd_check_tree, dd_check_parts, dd_check_above, dd_check_class, dd_lowering, dd_is_row, dd_check_row, dd_written, dd_stages, dd_check_asked]
def fns1 : List He.DefD := [dd_next_node, dd_events, dd_behind, dd_search_row, dd_law_opened, dd_law_draw, dd_law_bounds, dd_law_class, dd_law_need, dd_law_made_steps, dd_law_told, dd_law_pages, dd_law_rooms, dd_law_greater, dd_law_mended, dd_law_exact, dd_law_lowered, dd_law_put, dd_law_down, dd_law_play, dd_law_scene, dd_law_tree, dd_law_falls, dd_law_upright_right, dd_law]
def fns : List He.DefD := fns0 ++ fns1
def fas0 : List He.Fa := [.glo "is_count", .glo "are_bounds", .glo "check_steps", .glo "check_size", .glo "are_told", .glo "are_rooms", .glo "check_tree", .glo "check_parts", .glo "check_above", .glo "check_class", .glo "lowering", .glo "is_row", .glo "check_row", .glo "written", .glo "stages", .glo "check_asked", .glo "next_node", .glo "events", .glo "behind", .glo "search_row", .glo "_law_opened", .glo "_law_draw", .glo "_law_bounds", .glo "_law_class", .glo "_law_need", .glo "_law_made_steps", .glo "_law_told", .glo "_law_pages", .glo "_law_rooms", .glo "_law_greater"]
def fas1 : List He.Fa := [.glo "_law_mended", .glo "_law_exact", .glo "_law_lowered", .glo "_law_put", .glo "_law_down", .glo "_law_play", .glo "_law_scene", .glo "_law_tree", .glo "_law_falls", .glo "_law_upright_right", .glo "law", .glo "Tree", .glo "Steps", .glo "PAGES", .free "len", .free "isinstance", .free "int", .free "bool", .free "list", .free "tuple", .free "all", .free "zip", .free "max", .free "min", .free "range", .free "sorted", .free "sum", .free "repr", .free "enumerate", .int "MOST_ROOM" 1000]
def fas2 : List He.Fa := [.int "MOST_BOUNDS" 8, .cls "Steps", .cls "Tree", .noat "Steps" "most", .noat "Steps" "rows", .noat "Tree" "classes", .noat "Tree" "told_row", .noat "Tree" "pages", .noat "Tree" "leaves", .meth "Steps" "__len__", .meth "Steps" "class_of", .meth "Steps" "need", .meth "Tree" "__eq__", .meth "Tree" "__len__", .meth "Tree" "__getitem__", .meth "Tree" "leaf", .meth "Tree" "way", .meth "Tree" "greater", .meth "Tree" "least_on_way", .meth "Tree" "missed", .meth "Tree" "with_told", .mkr "Steps", .mkr "Tree"]
def fas : List He.Fa := fas0 ++ fas1 ++ fas2
def namesA : List PySem.Str := ["_wall", "RoomError", "BadSteps", "BadTree", "BadRooms", "BadPage", "BadNode", "BadClass", "BadSize", "BadArgument", "MOST_ROOM", "MOST_BOUNDS", "is_count", "are_bounds", "Steps", "with_both", "check_steps", "check_size", "PAGES", "are_told", "Tree", "are_rooms", "check_tree", "check_parts", "check_above", "check_class", "lowering", "is_row", "check_row", "written"]
def namesB : List PySem.Str := ["stages", "check_asked", "next_node", "events", "behind", "search_row", "_law_opened", "_law_draw", "_law_bounds", "_law_class", "_law_need", "_law_made_steps", "_law_told", "_law_pages", "_law_rooms", "_law_greater", "_law_mended", "_law_exact", "_law_lowered", "_law_put", "_law_down", "_law_play", "_law_scene", "_law_tree", "_law_falls", "_law_upright_right"]
def names : List PySem.Str := namesA ++ namesB
/-! ### a property and its getter, further facts -/
def pUp (K : PySem.W.Frag) : Addr := He.ma K (He.ga K "Tree") "is_upright"
def gUp (K : PySem.W.Frag) : Addr := match PySem.W.recIn K (pUp K) "property" with
  | some (.ref g :: _) => g
  | _ => 0
def recUp (K : PySem.W.Frag) : Bool := match PySem.W.recIn K (pUp K) "property" with
  | some (.ref _ :: _) => true
  | _ => false
def fnWA (K : PySem.W.Frag) (f : Addr) : He.FnW := match K.lookup f with
  | some ⟨_, _, .func fd, _⟩ => some (fd.name, fd.qualname, fd.params, fd.body, fd.scope, fd.globals, fd.closure, fd.builtins)
  | _ => none
def okA (K : PySem.W.Frag) (f : Addr) (q : Str) : Bool := PySem.W.keepIn K (.ref f) && (match K.lookup f with
  | some ⟨_, _, .func fd, _⟩ => PySem.W.codeIn K fd.code q && He.dflB K fd.defaults []
  | _ => false)
def exL (K : PySem.W.Frag) : List Bool :=
  [He.tupB K "PAGES" [.int 2, .int 4, .int 8, .int 16, .int 32],
   He.eqO (PySem.W.findIn K (.ref (He.ga K "Tree")) "__ne__") (some (some (.builtin "object.__ne__"))),
   decide (PySem.W.mroIn K (He.ga K "Tree") (.type "object") = some true),
   decide (PySem.W.mroIn K (He.ga K "Steps") (.type "object") = some true),
   He.eqO (PySem.W.findIn K (.ref (He.ga K "Tree")) "__class__") (some (some (.builtin "object.__class__"))),
   He.eqO (PySem.W.findIn K (.ref (He.ga K "Steps")) "__class__") (some (some (.builtin "object.__class__"))),
   He.eqO (PySem.W.specialIn K (.builtin "object.__class__") "__get__") (some (some (.builtin "getset_descriptor.__get__"))),
   decide (PySem.W.takesIn K (.builtin "object.__class__") = some true),
   PySem.W.fnIn K (He.ma K (He.ga K "Tree") "__getitem__"),
   He.eqO (PySem.W.findIn K (.ref (He.ga K "Tree")) "is_upright") (some (some (.ref (pUp K)))),
   He.eqO (PySem.W.specialIn K (.ref (pUp K)) "__get__") (some (some (.builtin "property.__get__"))),
   decide (PySem.W.takesIn K (.ref (pUp K)) = some true),
   recUp K,
   okA K (gUp K) "Tree.is_upright"]
abbrev AlR : Type := He.AlD × (Bool × He.FnW)
def obsR (K : PySem.W.Frag) : AlR := (He.obsD fas fns K, ((exL K).all id, fnWA K (gUp K)))
def valR : AlR := (He.valD fns, (true, dd_Tree_is_upright.val))
def SaysR (K : PySem.W.Frag) : Prop := obsR K = valR
/-- what the walk leans on: the module's dict, the two classes, their dicts, methods and the getter, the functions, their codes -/
def rfs (g : Addr → Option Obj) (a : Addr) : List Addr := match g a with
  | some o => He.refsD o
  | none => []
def rfsF (g : Addr → Option Obj) (a : Addr) : List Addr := match g a with
  | some ⟨_, _, .func fd, _⟩ => He.refV fd.code
  | _ => []
def asC (g : Addr → Option Obj) (C : Addr) : List Addr := C :: rfs g C
def asM (g : Addr → Option Obj) (C : Addr) : List Addr := (asC g C).flatMap (rfs g)
def asN (g : Addr → Option Obj) (C : Addr) : List Addr := (asM g C).flatMap (rfs g)
def asA (g : Addr → Option Obj) (T S : Addr) : List Addr := mainGlobals :: (asC g T ++ asC g S ++ (asM g T ++ asM g S) ++ (asN g T ++ asN g S) ++ ((asN g T).flatMap (rfsF g)) ++ rfs g mainGlobals ++ (rfs g mainGlobals).flatMap (rfs g))
def asR (g : Addr → Option Obj) : List Addr := asA g (He.ga (He.frG g [mainGlobals]) "Tree") (He.ga (He.frG g [mainGlobals]) "Steps")
def obsRG (g : Addr → Option Obj) : AlR := obsR (He.frG g (asR g))
def hookR : PySem.W.Hook where
  α := AlR
  obs := fun s => obsRG s.heap.get?
  val := fun _ => valR
  says := fun _ h => ∃ K : PySem.W.Frag, K.In h ∧ SaysR K
  of := fun _ _ e => ⟨_, He.frG_in, e⟩
  keeps := fun _ _ _ ⟨K, hK, c⟩ k => ⟨K, PySem.W.Frag.In.keeps hK k, c⟩
abbrev RR : PySem.W.OpenRow := PySem.W.OpenLaw.row PySem.Challenge.rw_roomtold_k18_whole_rows_of_searches
abbrev qv : Program := PySem.W.view RR.prog [62]
def obR (s : PySem.W.SharedT) : AlR := obsRG (HandSHeadRun.getT s)
theorem obR_eq (s : PySem.W.SharedT) : obR s = hookR.obs s.abs := by
  have e : HandSHeadRun.getT s = s.abs.heap.get? := funext fun a => HandSHeadRun.getT_eq s a
  show obsRG (HandSHeadRun.getT s) = obsRG s.abs.heap.get?
  rw [e]
theorem top_run (w : World) : HandSHeadRun.RunEq RR qv hookR obR 8000 names w := by
  intro os
  kernel_rfl
end Rt
end
section
/-! The join. Printed by gen_head.py from RtFin.src. -/
namespace Rt
open PySem PySem.Spec PyProof.Rows L2
theorem ba {a b : Bool} (h : (a && b) = true) : a = true ∧ b = true := Bool.and_eq_true_iff.mp h
/-- the getter's function object -/
theorem funA {K : PySem.W.Frag} {d : He.DefD} {f : Addr} (e : fnWA K f = d.val) (c : okA K f d.qual = true) : ∃ fd, FunD K d.name d.qual d.params d.body d.scope [] [] f fd := by
  obtain ⟨kp, c2⟩ := ba c
  unfold fnWA at e
  cases q : K.lookup f with
  | none =>
    rw [q] at c2
    cases c2
  | some o =>
    rcases o with ⟨oc, od, dt, osl⟩
    rw [q] at c2 e
    cases dt with
    | func fd =>
      obtain ⟨n1, n2, n3, n4, n5, n6, n7, n8, n9, n10, n11, n12, n13, n14, n15⟩ := fd
      obtain ⟨k1, k2⟩ := ba (show (PySem.W.codeIn K n13 d.qual && He.dflB K n8 []) = true from c2)
      have e2 : (some (n1, n2, n3, n4, n5, n6, n7, n15) : He.FnW) = some (d.name, d.qual, d.params, .stmts d.body, d.scope, mainGlobals, [], builtinsNs) := e
      simp only [Option.some.injEq, Prod.mk.injEq] at e2
      obtain ⟨h1, h2, h3, h4, h5, h6, h7, h8⟩ := e2
      subst h1 h2 h3 h4 h5 h6 h7 h8
      exact ⟨_, ⟨oc, od, n8, n9, n10, n11, n12, n13, n14, osl, rfl, q, k1, He.dflB_ok k2, .inl rfl⟩, kp⟩
    | _ => cases c2
section
variable {K : PySem.W.Frag}
theorem SaysR.d (c : SaysR K) : He.SaysD fas fns K := congrArg Prod.fst c
theorem SaysR.ex (c : SaysR K) : (exL K).all id = true := congrArg (fun z => z.2.1) c
theorem SaysR.fn (c : SaysR K) : fnWA K (gUp K) = dd_Tree_is_upright.val := congrArg (fun z => z.2.2) c
theorem at_ (e : (exL K).all id = true) (i : Nat) {b : Bool} (h : (exL K)[i]? = some b := by rfl) : b = true := List.all_eq_true.mp e b (List.mem_of_getElem? h)
theorem ne_ok (e : (exL K).all id = true) : PySem.W.findIn K (.ref (He.ga K "Tree")) "__ne__" = some (some (.builtin "object.__ne__")) := He.eqO_ok (at_ e 1)
theorem mroT_ok (e : (exL K).all id = true) : PySem.W.mroIn K (He.ga K "Tree") (.type "object") = some true := of_decide_eq_true (at_ e 2)
theorem mroS_ok (e : (exL K).all id = true) : PySem.W.mroIn K (He.ga K "Steps") (.type "object") = some true := of_decide_eq_true (at_ e 3)
theorem fn_getitem (e : (exL K).all id = true) : PySem.W.fnIn K (He.ma K (He.ga K "Tree") "__getitem__") = true := at_ e 8
theorem prop_ok (e : (exL K).all id = true) : PropOf K (He.ga K "Tree") "is_upright" (pUp K) (gUp K) := by
  refine ⟨He.eqO_ok (at_ e 9), He.eqO_ok (at_ e 10), of_decide_eq_true (at_ e 11), ?_⟩
  have h : recUp K = true := at_ e 12
  unfold recUp at h
  unfold gUp
  split at h
  · next g rest hg => exact ⟨rest, by rw [hg]⟩
  · cases h
theorem ty_ok {C : Addr} (cl : Cls K C) (h1 : PySem.W.findIn K (.ref C) "__class__" = some (some (.builtin "object.__class__"))) (h2 : PySem.W.mroIn K C (.type "object") = some true) (e : (exL K).all id = true) (H : Hp) (a dx : Addr) (fs : List (Str × V)) (h : H a = some (.ins C dx fs)) : TyX K H (.ref a) (.ref C) :=
  .base (.ins h cl h1 (He.eqO_ok (at_ e 6)) (of_decide_eq_true (at_ e 7)) h2)
theorem kit_ok (C : Addr) : PySem.W.kitOne K (.ref C) (.ref C) = some true := by
  unfold PySem.W.kitOne
  rw [if_pos (by simp)]
theorem g_int {h : Heap} {mg : Str → Option Value} (X : K.In h) (G : h.Ns mainGlobals mg) {x : Str} {i : Int} (c : (He.Fa.int x i).ok K = true) : ∃ u, mg x = some u ∧ RelV (.int i) u := by
  obtain ⟨t, e⟩ := He.int_ok X G c
  exact ⟨_, e, t, rfl⟩
end
section
variable {P : Program} {w : World} {K : PySem.W.Frag} {h base : Heap} {mg : Str → Option Value}
theorem tx_ok (X : K.In h) (G : h.Ns mainGlobals mg) (c : He.SaysD fas fns K) (e : (exL K).all id = true) : Tx K mg (He.ga K "Steps") (He.ga K "Tree") (He.ga K "PAGES") :=
  ⟨He.cls_ok (c.fact 61 (f := .cls "Steps") rfl),
    He.cls_ok (c.fact 62 (f := .cls "Tree") rfl),
    He.noat_ok (c.fact 63 (f := .noat "Steps" "most") rfl),
    He.noat_ok (c.fact 64 (f := .noat "Steps" "rows") rfl),
    He.noat_ok (c.fact 65 (f := .noat "Tree" "classes") rfl),
    He.noat_ok (c.fact 66 (f := .noat "Tree" "told_row") rfl),
    He.noat_ok (c.fact 67 (f := .noat "Tree" "pages") rfl),
    He.noat_ok (c.fact 68 (f := .noat "Tree" "leaves") rfl),
    He.free_ok X G (c.fact 44 (f := .free "len") rfl),
    He.free_ok X G (c.fact 45 (f := .free "isinstance") rfl),
    He.free_ok X G (c.fact 46 (f := .free "int") rfl),
    He.free_ok X G (c.fact 47 (f := .free "bool") rfl),
    He.free_ok X G (c.fact 48 (f := .free "list") rfl),
    He.free_ok X G (c.fact 49 (f := .free "tuple") rfl),
    He.free_ok X G (c.fact 50 (f := .free "all") rfl),
    He.free_ok X G (c.fact 51 (f := .free "zip") rfl),
    He.free_ok X G (c.fact 52 (f := .free "max") rfl),
    He.free_ok X G (c.fact 53 (f := .free "min") rfl),
    He.free_ok X G (c.fact 54 (f := .free "range") rfl),
    He.free_ok X G (c.fact 55 (f := .free "sorted") rfl),
    He.free_ok X G (c.fact 56 (f := .free "sum") rfl),
    He.free_ok X G (c.fact 57 (f := .free "repr") rfl),
    He.free_ok X G (c.fact 58 (f := .free "enumerate") rfl),
    g_int X G (c.fact 59 (f := .int "MOST_ROOM" 1000) rfl),
    g_int X G (c.fact 60 (f := .int "MOST_BOUNDS" 8) rfl),
    ⟨_, He.glo_ok X G (c.fact 43 (f := .glo "PAGES") rfl), rfl⟩,
    ⟨_, He.glo_ok X G (c.fact 41 (f := .glo "Tree") rfl), rfl⟩,
    ⟨_, He.glo_ok X G (c.fact 42 (f := .glo "Steps") rfl), rfl⟩,
    fun H => He.tupB_ok (at_ e 0) H,
    ty_ok (He.cls_ok (c.fact 61 (f := .cls "Steps") rfl)) (He.eqO_ok (at_ e 5)) (mroS_ok e) e, ty_ok (He.cls_ok (c.fact 62 (f := .cls "Tree") rfl)) (He.eqO_ok (at_ e 4)) (mroT_ok e) e, kit_ok _, kit_ok _⟩
theorem law_fd (c : He.SaysD fas fns K) : ∃ fd, FnP K "law" "law" d_law [] [] (He.ga K "law") fd := c.def_ 54 (d := dd_law) rfl
theorem law_glo (c : He.SaysD fas fns K) : (He.Fa.glo "law").ok K = true := (c.fact 40 (f := .glo "law") rfl)
theorem law_ok (X : K.In h) (G : h.Ns mainGlobals mg) (c0 : SaysR K) {fd : FuncData} (F_law : FnP K "law" "law" d_law [] [] (He.ga K "law") fd) : LawRuns P w K mg base (He.ga K "law") fd ["_law_script"] (sp_law K (He.ga K "Steps") (He.ga K "Tree")) := by
  have c := c0.d
  have e := c0.ex
  have T := tx_ok X G c e
  obtain ⟨fd_Tree_is_upright, F_Tree_is_upright⟩ : ∃ fd, FnP K "is_upright" "Tree.is_upright" d_Tree_is_upright [] [] (gUp K) fd := funA (d := dd_Tree_is_upright) c0.fn (at_ e 13)
  obtain ⟨fd_is_count, F_is_count⟩ : ∃ fd, FnP K "is_count" "is_count" d_is_count [] [] (He.fAd K ("is_count", none)) fd := c.def_ 0 (d := dd_is_count) rfl
  obtain ⟨fd_are_bounds, F_are_bounds⟩ : ∃ fd, FnP K "are_bounds" "are_bounds" d_are_bounds [] [] (He.fAd K ("are_bounds", none)) fd := c.def_ 1 (d := dd_are_bounds) rfl
  obtain ⟨fd_Steps_init, F_Steps_init⟩ : ∃ fd, FnP K "__init__" "Steps.__init__" d_Steps_init [] [] (He.fAd K ("Steps", some "__init__")) fd := c.def_ 2 (d := dd_Steps_init) rfl
  obtain ⟨fd_Steps_len, F_Steps_len⟩ : ∃ fd, FnP K "__len__" "Steps.__len__" d_Steps_len [] [] (He.fAd K ("Steps", some "__len__")) fd := c.def_ 3 (d := dd_Steps_len) rfl
  obtain ⟨fd_Steps_class_of, F_Steps_class_of⟩ : ∃ fd, FnP K "class_of" "Steps.class_of" d_Steps_class_of [] [] (He.fAd K ("Steps", some "class_of")) fd := c.def_ 4 (d := dd_Steps_class_of) rfl
  obtain ⟨fd_Steps_need, F_Steps_need⟩ : ∃ fd, FnP K "need" "Steps.need" d_Steps_need [] [] (He.fAd K ("Steps", some "need")) fd := c.def_ 5 (d := dd_Steps_need) rfl
  obtain ⟨fd_check_steps, F_check_steps⟩ : ∃ fd, FnP K "check_steps" "check_steps" d_check_steps [] [] (He.fAd K ("check_steps", none)) fd := c.def_ 6 (d := dd_check_steps) rfl
  obtain ⟨fd_check_size, F_check_size⟩ : ∃ fd, FnP K "check_size" "check_size" d_check_size [] [] (He.fAd K ("check_size", none)) fd := c.def_ 7 (d := dd_check_size) rfl
  obtain ⟨fd_are_told, F_are_told⟩ : ∃ fd, FnP K "are_told" "are_told" d_are_told [] [] (He.fAd K ("are_told", none)) fd := c.def_ 8 (d := dd_are_told) rfl
  obtain ⟨fd_Tree_init, F_Tree_init⟩ : ∃ fd, FnP K "__init__" "Tree.__init__" d_Tree_init [] [] (He.fAd K ("Tree", some "__init__")) fd := c.def_ 9 (d := dd_Tree_init) rfl
  obtain ⟨fd_Tree_eq, F_Tree_eq⟩ : ∃ fd, FnP K "__eq__" "Tree.__eq__" d_Tree_eq [] [] (He.fAd K ("Tree", some "__eq__")) fd := c.def_ 10 (d := dd_Tree_eq) rfl
  obtain ⟨fd_Tree_len, F_Tree_len⟩ : ∃ fd, FnP K "__len__" "Tree.__len__" d_Tree_len [] [] (He.fAd K ("Tree", some "__len__")) fd := c.def_ 11 (d := dd_Tree_len) rfl
  obtain ⟨fd_Tree_getitem, F_Tree_getitem⟩ : ∃ fd, FnP K "__getitem__" "Tree.__getitem__" d_Tree_getitem [] [] (He.fAd K ("Tree", some "__getitem__")) fd := c.def_ 12 (d := dd_Tree_getitem) rfl
  obtain ⟨fd_Tree_leaf, F_Tree_leaf⟩ : ∃ fd, FnP K "leaf" "Tree.leaf" d_Tree_leaf [] [] (He.fAd K ("Tree", some "leaf")) fd := c.def_ 13 (d := dd_Tree_leaf) rfl
  obtain ⟨fd_Tree_way, F_Tree_way⟩ : ∃ fd, FnP K "way" "Tree.way" d_Tree_way [] [] (He.fAd K ("Tree", some "way")) fd := c.def_ 14 (d := dd_Tree_way) rfl
  obtain ⟨fd_Tree_greater, F_Tree_greater⟩ : ∃ fd, FnP K "greater" "Tree.greater" d_Tree_greater [] [] (He.fAd K ("Tree", some "greater")) fd := c.def_ 15 (d := dd_Tree_greater) rfl
  obtain ⟨fd_Tree_least_on_way, F_Tree_least_on_way⟩ : ∃ fd, FnP K "least_on_way" "Tree.least_on_way" d_Tree_least_on_way [] [] (He.fAd K ("Tree", some "least_on_way")) fd := c.def_ 16 (d := dd_Tree_least_on_way) rfl
  obtain ⟨fd_Tree_missed, F_Tree_missed⟩ : ∃ fd, FnP K "missed" "Tree.missed" d_Tree_missed [] [] (He.fAd K ("Tree", some "missed")) fd := c.def_ 17 (d := dd_Tree_missed) rfl
  obtain ⟨fd_Tree_with_told, F_Tree_with_told⟩ : ∃ fd, FnP K "with_told" "Tree.with_told" d_Tree_with_told [] [] (He.fAd K ("Tree", some "with_told")) fd := c.def_ 18 (d := dd_Tree_with_told) rfl
  obtain ⟨fd_are_rooms, F_are_rooms⟩ : ∃ fd, FnP K "are_rooms" "are_rooms" d_are_rooms [] [] (He.fAd K ("are_rooms", none)) fd := c.def_ 19 (d := dd_are_rooms) rfl
  obtain ⟨fd_check_tree, F_check_tree⟩ : ∃ fd, FnP K "check_tree" "check_tree" d_check_tree [] [] (He.fAd K ("check_tree", none)) fd := c.def_ 20 (d := dd_check_tree) rfl
  obtain ⟨fd_check_parts, F_check_parts⟩ : ∃ fd, FnP K "check_parts" "check_parts" d_check_parts [] [] (He.fAd K ("check_parts", none)) fd := c.def_ 21 (d := dd_check_parts) rfl
  obtain ⟨fd_check_above, F_check_above⟩ : ∃ fd, FnP K "check_above" "check_above" d_check_above [] [] (He.fAd K ("check_above", none)) fd := c.def_ 22 (d := dd_check_above) rfl
  obtain ⟨fd_check_class, F_check_class⟩ : ∃ fd, FnP K "check_class" "check_class" d_check_class [] [] (He.fAd K ("check_class", none)) fd := c.def_ 23 (d := dd_check_class) rfl
  obtain ⟨fd_lowering, F_lowering⟩ : ∃ fd, FnP K "lowering" "lowering" d_lowering [] [("above", .bl false)] (He.fAd K ("lowering", none)) fd := c.def_ 24 (d := dd_lowering) rfl
  obtain ⟨fd_is_row, F_is_row⟩ : ∃ fd, FnP K "is_row" "is_row" d_is_row [] [] (He.fAd K ("is_row", none)) fd := c.def_ 25 (d := dd_is_row) rfl
  obtain ⟨fd_check_row, F_check_row⟩ : ∃ fd, FnP K "check_row" "check_row" d_check_row [] [] (He.fAd K ("check_row", none)) fd := c.def_ 26 (d := dd_check_row) rfl
  obtain ⟨fd_written, F_written⟩ : ∃ fd, FnP K "written" "written" d_written [] [] (He.fAd K ("written", none)) fd := c.def_ 27 (d := dd_written) rfl
  obtain ⟨fd_stages, F_stages⟩ : ∃ fd, FnP K "stages" "stages" d_stages [] [] (He.fAd K ("stages", none)) fd := c.def_ 28 (d := dd_stages) rfl
  obtain ⟨fd_check_asked, F_check_asked⟩ : ∃ fd, FnP K "check_asked" "check_asked" d_check_asked [] [] (He.fAd K ("check_asked", none)) fd := c.def_ 29 (d := dd_check_asked) rfl
  obtain ⟨fd_next_node, F_next_node⟩ : ∃ fd, FnP K "next_node" "next_node" d_next_node [] [] (He.fAd K ("next_node", none)) fd := c.def_ 30 (d := dd_next_node) rfl
  obtain ⟨fd_events, F_events⟩ : ∃ fd, FnP K "events" "events" d_events [] [] (He.fAd K ("events", none)) fd := c.def_ 31 (d := dd_events) rfl
  obtain ⟨fd_behind, F_behind⟩ : ∃ fd, FnP K "behind" "behind" d_behind [] [] (He.fAd K ("behind", none)) fd := c.def_ 32 (d := dd_behind) rfl
  obtain ⟨fd_search_row, F_search_row⟩ : ∃ fd, FnP K "search_row" "search_row" d_search_row [] [("above", .bl false)] (He.fAd K ("search_row", none)) fd := c.def_ 33 (d := dd_search_row) rfl
  obtain ⟨fd_law_opened, F_law_opened⟩ : ∃ fd, FnP K "_law_opened" "_law_opened" d_law_opened [] [] (He.fAd K ("_law_opened", none)) fd := c.def_ 34 (d := dd_law_opened) rfl
  obtain ⟨fd_law_draw, F_law_draw⟩ : ∃ fd, FnP K "_law_draw" "_law_draw" d_law_draw [] [] (He.fAd K ("_law_draw", none)) fd := c.def_ 35 (d := dd_law_draw) rfl
  obtain ⟨fd_law_bounds, F_law_bounds⟩ : ∃ fd, FnP K "_law_bounds" "_law_bounds" d_law_bounds [] [] (He.fAd K ("_law_bounds", none)) fd := c.def_ 36 (d := dd_law_bounds) rfl
  obtain ⟨fd_law_class, F_law_class⟩ : ∃ fd, FnP K "_law_class" "_law_class" d_law_class [] [] (He.fAd K ("_law_class", none)) fd := c.def_ 37 (d := dd_law_class) rfl
  obtain ⟨fd_law_need, F_law_need⟩ : ∃ fd, FnP K "_law_need" "_law_need" d_law_need [] [] (He.fAd K ("_law_need", none)) fd := c.def_ 38 (d := dd_law_need) rfl
  obtain ⟨fd_law_made_steps, F_law_made_steps⟩ : ∃ fd, FnP K "_law_made_steps" "_law_made_steps" d_law_made_steps [] [] (He.fAd K ("_law_made_steps", none)) fd := c.def_ 39 (d := dd_law_made_steps) rfl
  obtain ⟨fd_law_told, F_law_told⟩ : ∃ fd, FnP K "_law_told" "_law_told" d_law_told [] [] (He.fAd K ("_law_told", none)) fd := c.def_ 40 (d := dd_law_told) rfl
  obtain ⟨fd_law_pages, F_law_pages⟩ : ∃ fd, FnP K "_law_pages" "_law_pages" d_law_pages [] [] (He.fAd K ("_law_pages", none)) fd := c.def_ 41 (d := dd_law_pages) rfl
  obtain ⟨fd_law_rooms, F_law_rooms⟩ : ∃ fd, FnP K "_law_rooms" "_law_rooms" d_law_rooms [] [] (He.fAd K ("_law_rooms", none)) fd := c.def_ 42 (d := dd_law_rooms) rfl
  obtain ⟨fd_law_greater, F_law_greater⟩ : ∃ fd, FnP K "_law_greater" "_law_greater" d_law_greater [] [] (He.fAd K ("_law_greater", none)) fd := c.def_ 43 (d := dd_law_greater) rfl
  obtain ⟨fd_law_mended, F_law_mended⟩ : ∃ fd, FnP K "_law_mended" "_law_mended" d_law_mended [] [] (He.fAd K ("_law_mended", none)) fd := c.def_ 44 (d := dd_law_mended) rfl
  obtain ⟨fd_law_exact, F_law_exact⟩ : ∃ fd, FnP K "_law_exact" "_law_exact" d_law_exact [] [] (He.fAd K ("_law_exact", none)) fd := c.def_ 45 (d := dd_law_exact) rfl
  obtain ⟨fd_law_lowered, F_law_lowered⟩ : ∃ fd, FnP K "_law_lowered" "_law_lowered" d_law_lowered [] [] (He.fAd K ("_law_lowered", none)) fd := c.def_ 46 (d := dd_law_lowered) rfl
  obtain ⟨fd_law_put, F_law_put⟩ : ∃ fd, FnP K "_law_put" "_law_put" d_law_put [] [] (He.fAd K ("_law_put", none)) fd := c.def_ 47 (d := dd_law_put) rfl
  obtain ⟨fd_law_down, F_law_down⟩ : ∃ fd, FnP K "_law_down" "_law_down" d_law_down [] [] (He.fAd K ("_law_down", none)) fd := c.def_ 48 (d := dd_law_down) rfl
  obtain ⟨fd_law_play, F_law_play⟩ : ∃ fd, FnP K "_law_play" "_law_play" d_law_play [] [] (He.fAd K ("_law_play", none)) fd := c.def_ 49 (d := dd_law_play) rfl
  obtain ⟨fd_law_scene, F_law_scene⟩ : ∃ fd, FnP K "_law_scene" "_law_scene" d_law_scene [] [] (He.fAd K ("_law_scene", none)) fd := c.def_ 50 (d := dd_law_scene) rfl
  obtain ⟨fd_law_tree, F_law_tree⟩ : ∃ fd, FnP K "_law_tree" "_law_tree" d_law_tree [] [] (He.fAd K ("_law_tree", none)) fd := c.def_ 51 (d := dd_law_tree) rfl
  obtain ⟨fd_law_falls, F_law_falls⟩ : ∃ fd, FnP K "_law_falls" "_law_falls" d_law_falls [] [] (He.fAd K ("_law_falls", none)) fd := c.def_ 52 (d := dd_law_falls) rfl
  obtain ⟨fd_law_upright_right, F_law_upright_right⟩ : ∃ fd, FnP K "_law_upright_right" "_law_upright_right" d_law_upright_right [] [] (He.fAd K ("_law_upright_right", none)) fd := c.def_ 53 (d := dd_law_upright_right) rfl
  have D_is_count : Dn P w K mg base 1 "is_count" ["value", "least", "most"] [] (sp_is_count K (He.ga K "Steps") (He.ga K "Tree")) := ⟨⟨_, _, [], ok_is_count (base := base) (P := P) (w := w)  F_is_count T, He.glo_ok X G (c.fact 0 (f := .glo "is_count") rfl), F_is_count.kp, .nil, (F_is_count.bindsN fun _ _ _ _ _ _ us hl => match us, hl with | [_, _, _], _ => rfl)⟩⟩
  have D_are_bounds : Dn P w K mg base 2 "are_bounds" ["value", "most"] [] (sp_are_bounds K (He.ga K "Steps") (He.ga K "Tree")) := ⟨⟨_, _, [], ok_are_bounds (base := base) (P := P) (w := w) D_is_count F_are_bounds T, He.glo_ok X G (c.fact 1 (f := .glo "are_bounds") rfl), F_are_bounds.kp, .nil, (F_are_bounds.bindsN fun _ _ _ _ _ _ us hl => match us, hl with | [_, _], _ => rfl)⟩⟩
  have D_Steps_init : Dk P w K mg base 3 "Steps" (He.ga K "Steps") ["self", "most", "bounds"] (sp_Steps_init K (He.ga K "Steps") (He.ga K "Tree")) := ⟨⟨_, _, ok_Steps_init (base := base) (P := P) (w := w) D_is_count D_are_bounds F_Steps_init T, He.mkr_ok (c.fact 81 (f := .mkr "Steps") rfl), (F_Steps_init.bindsN fun _ _ _ _ _ _ us hl => match us, hl with | [_, _, _], _ => rfl)⟩, He.glo_ok X G (c.fact 42 (f := .glo "Steps") rfl)⟩
  have D_Steps_len : Dm P w K mg base 1 (He.ga K "Steps") "__len__" ["self"] (sp_Steps_len K (He.ga K "Steps") (He.ga K "Tree")) := ⟨⟨_, _, ok_Steps_len (base := base) (P := P) (w := w)  F_Steps_len T, He.meth_ok (c.fact 69 (f := .meth "Steps" "__len__") rfl), (F_Steps_len.bindsN fun _ _ _ _ _ _ us hl => match us, hl with | [_], _ => rfl)⟩, He.cls_ok (c.fact 61 (f := .cls "Steps") rfl)⟩
  have D_Steps_class_of : Dm P w K mg base 2 (He.ga K "Steps") "class_of" ["self", "room"] (sp_Steps_class_of K (He.ga K "Steps") (He.ga K "Tree")) := ⟨⟨_, _, ok_Steps_class_of (base := base) (P := P) (w := w) D_is_count F_Steps_class_of T, He.meth_ok (c.fact 70 (f := .meth "Steps" "class_of") rfl), (F_Steps_class_of.bindsN fun _ _ _ _ _ _ us hl => match us, hl with | [_, _], _ => rfl)⟩, He.cls_ok (c.fact 61 (f := .cls "Steps") rfl)⟩
  have D_check_size : Dn P w K mg base 2 "check_size" ["steps", "size"] [] (sp_check_size K (He.ga K "Steps") (He.ga K "Tree")) := ⟨⟨_, _, [], ok_check_size (base := base) (P := P) (w := w) D_is_count F_check_size T, He.glo_ok X G (c.fact 3 (f := .glo "check_size") rfl), F_check_size.kp, .nil, (F_check_size.bindsN fun _ _ _ _ _ _ us hl => match us, hl with | [_, _], _ => rfl)⟩⟩
  have D_Steps_need : Dm P w K mg base 3 (He.ga K "Steps") "need" ["self", "size"] (sp_Steps_need K (He.ga K "Steps") (He.ga K "Tree")) := ⟨⟨_, _, ok_Steps_need (base := base) (P := P) (w := w) D_check_size F_Steps_need T, He.meth_ok (c.fact 71 (f := .meth "Steps" "need") rfl), (F_Steps_need.bindsN fun _ _ _ _ _ _ us hl => match us, hl with | [_, _], _ => rfl)⟩, He.cls_ok (c.fact 61 (f := .cls "Steps") rfl)⟩
  have D_check_steps : Dn P w K mg base 1 "check_steps" ["value"] [] (sp_check_steps K (He.ga K "Steps") (He.ga K "Tree")) := ⟨⟨_, _, [], ok_check_steps (base := base) (P := P) (w := w)  F_check_steps T, He.glo_ok X G (c.fact 2 (f := .glo "check_steps") rfl), F_check_steps.kp, .nil, (F_check_steps.bindsN fun _ _ _ _ _ _ us hl => match us, hl with | [_], _ => rfl)⟩⟩
  have D_are_told : Dn P w K mg base 2 "are_told" ["value", "classes"] [] (sp_are_told K (He.ga K "Steps") (He.ga K "Tree")) := ⟨⟨_, _, [], ok_are_told (base := base) (P := P) (w := w) D_is_count F_are_told T, He.glo_ok X G (c.fact 4 (f := .glo "are_told") rfl), F_are_told.kp, .nil, (F_are_told.bindsN fun _ _ _ _ _ _ us hl => match us, hl with | [_, _], _ => rfl)⟩⟩
  have D_Tree_init : Dk P w K mg base 3 "Tree" (He.ga K "Tree") ["self", "classes", "told"] (sp_Tree_init K (He.ga K "Steps") (He.ga K "Tree")) := ⟨⟨_, _, ok_Tree_init (base := base) (P := P) (w := w) D_is_count D_are_told F_Tree_init T, He.mkr_ok (c.fact 82 (f := .mkr "Tree") rfl), (F_Tree_init.bindsN fun _ _ _ _ _ _ us hl => match us, hl with | [_, _, _], _ => rfl)⟩, He.glo_ok X G (c.fact 41 (f := .glo "Tree") rfl)⟩
  have D_Tree_is_upright : Dp P w K mg base 1 (He.ga K "Tree") "is_upright" ["self"] (sp_Tree_is_upright K (He.ga K "Steps") (He.ga K "Tree")) := ⟨⟨_, _, _, ok_Tree_is_upright (base := base) (P := P) (w := w)  F_Tree_is_upright T, prop_ok e, (F_Tree_is_upright.bindsN fun _ _ _ _ _ _ us hl => match us, hl with | [_], _ => rfl)⟩, He.cls_ok (c.fact 62 (f := .cls "Tree") rfl)⟩
  have D_Tree_eq : Dq P w K mg base 1 (He.ga K "Tree") ["self", "other"] (sp_Tree_eq K (He.ga K "Steps") (He.ga K "Tree")) := ⟨⟨_, _, ok_Tree_eq (base := base) (P := P) (w := w)  F_Tree_eq T, He.meth_ok (c.fact 72 (f := .meth "Tree" "__eq__") rfl), (F_Tree_eq.bindsN fun _ _ _ _ _ _ us hl => match us, hl with | [_, _], _ => rfl)⟩, ne_ok e, mroT_ok e⟩
  have D_Tree_len : Dm P w K mg base 1 (He.ga K "Tree") "__len__" ["self"] (sp_Tree_len K (He.ga K "Steps") (He.ga K "Tree")) := ⟨⟨_, _, ok_Tree_len (base := base) (P := P) (w := w)  F_Tree_len T, He.meth_ok (c.fact 73 (f := .meth "Tree" "__len__") rfl), (F_Tree_len.bindsN fun _ _ _ _ _ _ us hl => match us, hl with | [_], _ => rfl)⟩, He.cls_ok (c.fact 62 (f := .cls "Tree") rfl)⟩
  have D_Tree_getitem : Dg P w K mg base 2 (He.ga K "Tree") ["self", "node"] (sp_Tree_getitem K (He.ga K "Steps") (He.ga K "Tree")) := ⟨⟨_, _, ok_Tree_getitem (base := base) (P := P) (w := w) D_is_count F_Tree_getitem T, He.meth_ok (c.fact 74 (f := .meth "Tree" "__getitem__") rfl), (F_Tree_getitem.bindsN fun _ _ _ _ _ _ us hl => match us, hl with | [_, _], _ => rfl), fn_getitem e⟩⟩
  have D_Tree_leaf : Dm P w K mg base 2 (He.ga K "Tree") "leaf" ["self", "page"] (sp_Tree_leaf K (He.ga K "Steps") (He.ga K "Tree")) := ⟨⟨_, _, ok_Tree_leaf (base := base) (P := P) (w := w) D_is_count F_Tree_leaf T, He.meth_ok (c.fact 75 (f := .meth "Tree" "leaf") rfl), (F_Tree_leaf.bindsN fun _ _ _ _ _ _ us hl => match us, hl with | [_, _], _ => rfl)⟩, He.cls_ok (c.fact 62 (f := .cls "Tree") rfl)⟩
  have D_Tree_way : Dm P w K mg base 3 (He.ga K "Tree") "way" ["self", "page"] (sp_Tree_way K (He.ga K "Steps") (He.ga K "Tree")) := ⟨⟨_, _, ok_Tree_way (base := base) (P := P) (w := w) D_Tree_leaf F_Tree_way T, He.meth_ok (c.fact 76 (f := .meth "Tree" "way") rfl), (F_Tree_way.bindsN fun _ _ _ _ _ _ us hl => match us, hl with | [_, _], _ => rfl)⟩, He.cls_ok (c.fact 62 (f := .cls "Tree") rfl)⟩
  have D_Tree_greater : Dm P w K mg base 2 (He.ga K "Tree") "greater" ["self", "node"] (sp_Tree_greater K (He.ga K "Steps") (He.ga K "Tree")) := ⟨⟨_, _, ok_Tree_greater (base := base) (P := P) (w := w) D_is_count F_Tree_greater T, He.meth_ok (c.fact 77 (f := .meth "Tree" "greater") rfl), (F_Tree_greater.bindsN fun _ _ _ _ _ _ us hl => match us, hl with | [_, _], _ => rfl)⟩, He.cls_ok (c.fact 62 (f := .cls "Tree") rfl)⟩
  have D_Tree_least_on_way : Dm P w K mg base 4 (He.ga K "Tree") "least_on_way" ["self", "page"] (sp_Tree_least_on_way K (He.ga K "Steps") (He.ga K "Tree")) := ⟨⟨_, _, ok_Tree_least_on_way (base := base) (P := P) (w := w) D_Tree_way F_Tree_least_on_way T, He.meth_ok (c.fact 78 (f := .meth "Tree" "least_on_way") rfl), (F_Tree_least_on_way.bindsN fun _ _ _ _ _ _ us hl => match us, hl with | [_, _], _ => rfl)⟩, He.cls_ok (c.fact 62 (f := .cls "Tree") rfl)⟩
  have D_Tree_missed : Dm P w K mg base 5 (He.ga K "Tree") "missed" ["self"] (sp_Tree_missed K (He.ga K "Steps") (He.ga K "Tree")) := ⟨⟨_, _, ok_Tree_missed (base := base) (P := P) (w := w) D_Tree_getitem D_Tree_leaf D_Tree_least_on_way F_Tree_missed T, He.meth_ok (c.fact 79 (f := .meth "Tree" "missed") rfl), (F_Tree_missed.bindsN fun _ _ _ _ _ _ us hl => match us, hl with | [_], _ => rfl)⟩, He.cls_ok (c.fact 62 (f := .cls "Tree") rfl)⟩
  have D_Tree_with_told : Dm P w K mg base 5 (He.ga K "Tree") "with_told" ["self", "node", "told"] (sp_Tree_with_told K (He.ga K "Steps") (He.ga K "Tree")) := ⟨⟨_, _, ok_Tree_with_told (base := base) (P := P) (w := w) D_is_count D_Tree_init F_Tree_with_told T, He.meth_ok (c.fact 80 (f := .meth "Tree" "with_told") rfl), (F_Tree_with_told.bindsN fun _ _ _ _ _ _ us hl => match us, hl with | [_, _, _], _ => rfl)⟩, He.cls_ok (c.fact 62 (f := .cls "Tree") rfl)⟩
  have D_are_rooms : Dn P w K mg base 2 "are_rooms" ["steps", "value"] [] (sp_are_rooms K (He.ga K "Steps") (He.ga K "Tree")) := ⟨⟨_, _, [], ok_are_rooms (base := base) (P := P) (w := w) D_is_count F_are_rooms T, He.glo_ok X G (c.fact 5 (f := .glo "are_rooms") rfl), F_are_rooms.kp, .nil, (F_are_rooms.bindsN fun _ _ _ _ _ _ us hl => match us, hl with | [_, _], _ => rfl)⟩⟩
  have D_check_tree : Dn P w K mg base 1 "check_tree" ["value"] [] (sp_check_tree K (He.ga K "Steps") (He.ga K "Tree")) := ⟨⟨_, _, [], ok_check_tree (base := base) (P := P) (w := w)  F_check_tree T, He.glo_ok X G (c.fact 6 (f := .glo "check_tree") rfl), F_check_tree.kp, .nil, (F_check_tree.bindsN fun _ _ _ _ _ _ us hl => match us, hl with | [_], _ => rfl)⟩⟩
  have D_check_parts : Dn P w K mg base 3 "check_parts" ["tree", "steps", "rooms"] [] (sp_check_parts K (He.ga K "Steps") (He.ga K "Tree")) := ⟨⟨_, _, [], ok_check_parts (base := base) (P := P) (w := w) D_check_tree D_check_steps D_Steps_len D_are_rooms D_Tree_len F_check_parts T, He.glo_ok X G (c.fact 7 (f := .glo "check_parts") rfl), F_check_parts.kp, .nil, (F_check_parts.bindsN fun _ _ _ _ _ _ us hl => match us, hl with | [_, _, _], _ => rfl)⟩⟩
  have D_check_above : Dn P w K mg base 1 "check_above" ["value"] [] (sp_check_above K (He.ga K "Steps") (He.ga K "Tree")) := ⟨⟨_, _, [], ok_check_above (base := base) (P := P) (w := w)  F_check_above T, He.glo_ok X G (c.fact 8 (f := .glo "check_above") rfl), F_check_above.kp, .nil, (F_check_above.bindsN fun _ _ _ _ _ _ us hl => match us, hl with | [_], _ => rfl)⟩⟩
  have D_check_class : Dn P w K mg base 2 "check_class" ["tree", "told"] [] (sp_check_class K (He.ga K "Steps") (He.ga K "Tree")) := ⟨⟨_, _, [], ok_check_class (base := base) (P := P) (w := w) D_is_count F_check_class T, He.glo_ok X G (c.fact 9 (f := .glo "check_class") rfl), F_check_class.kp, .nil, (F_check_class.bindsN fun _ _ _ _ _ _ us hl => match us, hl with | [_, _], _ => rfl)⟩⟩
  have ok_lowering' := ok_lowering (base := base) (P := P) (w := w) D_check_tree D_is_count D_Tree_len D_check_class D_check_above D_Tree_getitem D_Tree_with_told D_Tree_greater F_lowering T
  have D_lowering : Dn P w K mg base 6 "lowering" ["tree", "node", "told", "above"] [.bl false] (sp_lowering K (He.ga K "Steps") (He.ga K "Tree")) := by
    obtain ⟨ds, rv, b⟩ := F_lowering.binds0 (ps := ["tree", "node", "told", "above"]) 3 (by simp [He.DefD.kws, dd_lowering]) rfl fun _ _ _ _ _ _ us ks hl hk => match us, hl, ks, hk with | [_, _, _], _, [_], _ => ⟨_, _, _, _, _, _, rfl, rfl, rfl⟩
    exact ⟨⟨_, _, ds, ok_lowering', He.glo_ok X G (c.fact 10 (f := .glo "lowering") rfl), F_lowering.kp, rv, b⟩⟩
  have DK_lowering : Dkw P w K mg base 6 "lowering" 3 ["above"] (fun vs zs => vs ++ zs) (sp_lowering K (He.ga K "Steps") (He.ga K "Tree")) := by
    obtain ⟨_, b⟩ := F_lowering.kbinds0 (ps := ["tree", "node", "told", "above"]) 3 ["above"] [] (fun vs _ zs => vs ++ zs) (by simp [He.DefD.kws, dd_lowering]) (fun _ h => nomatch h) (fun r1 _ r3 => r1.append r3) fun _ _ _ _ _ _ us mv ws hl _ hw => match us, hl, mv, ws, hw with | [_, _, _], _, _, [_], _ => rfl
    exact ⟨⟨_, _, _, _, ok_lowering', He.glo_ok X G (c.fact 10 (f := .glo "lowering") rfl), F_lowering.kp, b⟩⟩
  have D_is_row : Dn P w K mg base 3 "is_row" ["tree", "value"] [] (sp_is_row K (He.ga K "Steps") (He.ga K "Tree")) := ⟨⟨_, _, [], ok_is_row (base := base) (P := P) (w := w) D_is_count D_Tree_len F_is_row T, He.glo_ok X G (c.fact 11 (f := .glo "is_row") rfl), F_is_row.kp, .nil, (F_is_row.bindsN fun _ _ _ _ _ _ us hl => match us, hl with | [_, _], _ => rfl)⟩⟩
  have D_check_row : Dn P w K mg base 4 "check_row" ["tree", "row"] [] (sp_check_row K (He.ga K "Steps") (He.ga K "Tree")) := ⟨⟨_, _, [], ok_check_row (base := base) (P := P) (w := w) D_check_tree D_is_row F_check_row T, He.glo_ok X G (c.fact 12 (f := .glo "check_row") rfl), F_check_row.kp, .nil, (F_check_row.bindsN fun _ _ _ _ _ _ us hl => match us, hl with | [_, _], _ => rfl)⟩⟩
  have D_written : Dn P w K mg base 6 "written" ["tree", "row"] [] (sp_written K (He.ga K "Steps") (He.ga K "Tree")) := ⟨⟨_, _, [], ok_written (base := base) (P := P) (w := w) D_check_row D_Tree_with_told F_written T, He.glo_ok X G (c.fact 13 (f := .glo "written") rfl), F_written.kp, .nil, (F_written.bindsN fun _ _ _ _ _ _ us hl => match us, hl with | [_, _], _ => rfl)⟩⟩
  have G_stages : Dgn P w K mg base 6 4000 "stages" ["tree", "row"] (sp_stages K (He.ga K "Steps") (He.ga K "Tree")) := ⟨⟨_, _, ok_stages (base := base) (P := P) (w := w) D_check_row D_Tree_with_told F_stages T, He.glo_ok X G (c.fact 14 (f := .glo "stages") rfl), F_stages.kp, (F_stages.bindsN fun _ _ _ _ _ _ us hl => match us, hl with | [_, _], _ => rfl)⟩⟩
  have D_check_asked : Dn P w K mg base 4 "check_asked" ["tree", "steps", "rooms", "size"] [] (sp_check_asked K (He.ga K "Steps") (He.ga K "Tree")) := ⟨⟨_, _, [], ok_check_asked (base := base) (P := P) (w := w) D_check_parts D_check_size F_check_asked T, He.glo_ok X G (c.fact 15 (f := .glo "check_asked") rfl), F_check_asked.kp, .nil, (F_check_asked.bindsN fun _ _ _ _ _ _ us hl => match us, hl with | [_, _, _, _], _ => rfl)⟩⟩
  have D_next_node : Dn P w K mg base 4 "next_node" ["tree", "node", "need"] [] (sp_next_node K (He.ga K "Steps") (He.ga K "Tree")) := ⟨⟨_, _, [], ok_next_node (base := base) (P := P) (w := w) D_Tree_getitem F_next_node T, He.glo_ok X G (c.fact 16 (f := .glo "next_node") rfl), F_next_node.kp, .nil, (F_next_node.bindsN fun _ _ _ _ _ _ us hl => match us, hl with | [_, _, _], _ => rfl)⟩⟩
  have G_events : Dgn P w K mg base 7 4000 "events" ["tree", "steps", "rooms", "size"] (sp_events K (He.ga K "Steps") (He.ga K "Tree")) := ⟨⟨_, _, ok_events (base := base) (P := P) (w := w) D_Steps_need D_Tree_getitem D_Tree_len D_Steps_class_of D_next_node D_Tree_greater D_written D_lowering F_events T, He.glo_ok X G (c.fact 17 (f := .glo "events") rfl), F_events.kp, (F_events.bindsN fun _ _ _ _ _ _ us hl => match us, hl with | [_, _, _, _], _ => rfl)⟩⟩
  have D_behind : Dn P w K mg base 9 "behind" ["tree", "steps", "rooms", "size"] [] (sp_behind K (He.ga K "Steps") (He.ga K "Tree")) := ⟨⟨_, _, [], ok_behind (base := base) (P := P) (w := w) D_check_asked G_events F_behind T, He.glo_ok X G (c.fact 18 (f := .glo "behind") rfl), F_behind.kp, .nil, (F_behind.bindsN fun _ _ _ _ _ _ us hl => match us, hl with | [_, _, _, _], _ => rfl)⟩⟩
  have ok_search_row' := ok_search_row (base := base) (P := P) (w := w) D_check_asked D_check_above G_events DK_lowering F_search_row T
  have D_search_row : Dn P w K mg base 9 "search_row" ["tree", "steps", "rooms", "size", "above"] [.bl false] (sp_search_row K (He.ga K "Steps") (He.ga K "Tree")) := by
    obtain ⟨ds, rv, b⟩ := F_search_row.binds0 (ps := ["tree", "steps", "rooms", "size", "above"]) 4 (by simp [He.DefD.kws, dd_search_row]) rfl fun _ _ _ _ _ _ us ks hl hk => match us, hl, ks, hk with | [_, _, _, _], _, [_], _ => ⟨_, _, _, _, _, _, rfl, rfl, rfl⟩
    exact ⟨⟨_, _, ds, ok_search_row', He.glo_ok X G (c.fact 19 (f := .glo "search_row") rfl), F_search_row.kp, rv, b⟩⟩
  have DK_search_row : Dkw P w K mg base 9 "search_row" 4 ["above"] (fun vs zs => vs ++ zs) (sp_search_row K (He.ga K "Steps") (He.ga K "Tree")) := by
    obtain ⟨_, b⟩ := F_search_row.kbinds0 (ps := ["tree", "steps", "rooms", "size", "above"]) 4 ["above"] [] (fun vs _ zs => vs ++ zs) (by simp [He.DefD.kws, dd_search_row]) (fun _ h => nomatch h) (fun r1 _ r3 => r1.append r3) fun _ _ _ _ _ _ us mv ws hl _ hw => match us, hl, mv, ws, hw with | [_, _, _, _], _, _, [_], _ => rfl
    exact ⟨⟨_, _, _, _, ok_search_row', He.glo_ok X G (c.fact 19 (f := .glo "search_row") rfl), F_search_row.kp, b⟩⟩
  have D_law_opened : Dn P w K mg base 1 "_law_opened" ["_law_script", "_law_k"] [] (sp_law_opened K (He.ga K "Steps") (He.ga K "Tree")) := ⟨⟨_, _, [], ok_law_opened (base := base) (P := P) (w := w)  F_law_opened T, He.glo_ok X G (c.fact 20 (f := .glo "_law_opened") rfl), F_law_opened.kp, .nil, (F_law_opened.bindsN fun _ _ _ _ _ _ us hl => match us, hl with | [_, _], _ => rfl)⟩⟩
  have D_law_draw : Dn P w K mg base 1 "_law_draw" ["_law_pool", "_law_many"] [] (sp_law_draw K (He.ga K "Steps") (He.ga K "Tree")) := ⟨⟨_, _, [], ok_law_draw (base := base) (P := P) (w := w)  F_law_draw T, He.glo_ok X G (c.fact 21 (f := .glo "_law_draw") rfl), F_law_draw.kp, .nil, (F_law_draw.bindsN fun _ _ _ _ _ _ us hl => match us, hl with | [_, _], _ => rfl)⟩⟩
  have D_law_bounds : Dn P w K mg base 2 "_law_bounds" ["_law_pool", "_law_top"] [] (sp_law_bounds K (He.ga K "Steps") (He.ga K "Tree")) := ⟨⟨_, _, [], ok_law_bounds (base := base) (P := P) (w := w) D_law_draw F_law_bounds T, He.glo_ok X G (c.fact 22 (f := .glo "_law_bounds") rfl), F_law_bounds.kp, .nil, (F_law_bounds.bindsN fun _ _ _ _ _ _ us hl => match us, hl with | [_, _], _ => rfl)⟩⟩
  have D_law_class : Dn P w K mg base 1 "_law_class" ["_law_plan", "_law_room"] [] (sp_law_class K (He.ga K "Steps") (He.ga K "Tree")) := ⟨⟨_, _, [], ok_law_class (base := base) (P := P) (w := w)  F_law_class T, He.glo_ok X G (c.fact 23 (f := .glo "_law_class") rfl), F_law_class.kp, .nil, (F_law_class.bindsN fun _ _ _ _ _ _ us hl => match us, hl with | [_, _], _ => rfl)⟩⟩
  have D_law_need : Dn P w K mg base 1 "_law_need" ["_law_plan", "_law_size"] [] (sp_law_need K (He.ga K "Steps") (He.ga K "Tree")) := ⟨⟨_, _, [], ok_law_need (base := base) (P := P) (w := w)  F_law_need T, He.glo_ok X G (c.fact 24 (f := .glo "_law_need") rfl), F_law_need.kp, .nil, (F_law_need.bindsN fun _ _ _ _ _ _ us hl => match us, hl with | [_, _], _ => rfl)⟩⟩
  have D_law_made_steps : Dn P w K mg base 5 "_law_made_steps" ["_law_plan"] [] (sp_law_made_steps K (He.ga K "Steps") (He.ga K "Tree")) := ⟨⟨_, _, [], ok_law_made_steps (base := base) (P := P) (w := w) D_Steps_init F_law_made_steps T, He.glo_ok X G (c.fact 25 (f := .glo "_law_made_steps") rfl), F_law_made_steps.kp, .nil, (F_law_made_steps.bindsN fun _ _ _ _ _ _ us hl => match us, hl with | [_], _ => rfl)⟩⟩
  have D_law_told : Dn P w K mg base 2 "_law_told" ["_law_pool", "_law_classes", "_law_pages_here"] [] (sp_law_told K (He.ga K "Steps") (He.ga K "Tree")) := ⟨⟨_, _, [], ok_law_told (base := base) (P := P) (w := w) D_law_draw F_law_told T, He.glo_ok X G (c.fact 26 (f := .glo "_law_told") rfl), F_law_told.kp, .nil, (F_law_told.bindsN fun _ _ _ _ _ _ us hl => match us, hl with | [_, _, _], _ => rfl)⟩⟩
  have D_law_pages : Dn P w K mg base 2 "_law_pages" ["_law_pool", "_law_many"] [] (sp_law_pages K (He.ga K "Steps") (He.ga K "Tree")) := ⟨⟨_, _, [], ok_law_pages (base := base) (P := P) (w := w) D_law_draw F_law_pages T, He.glo_ok X G (c.fact 27 (f := .glo "_law_pages") rfl), F_law_pages.kp, .nil, (F_law_pages.bindsN fun _ _ _ _ _ _ us hl => match us, hl with | [_, _], _ => rfl)⟩⟩
  have D_law_rooms : Dn P w K mg base 2 "_law_rooms" ["_law_pool", "_law_plan", "_law_pages_here"] [] (sp_law_rooms K (He.ga K "Steps") (He.ga K "Tree")) := ⟨⟨_, _, [], ok_law_rooms (base := base) (P := P) (w := w) D_law_draw F_law_rooms T, He.glo_ok X G (c.fact 28 (f := .glo "_law_rooms") rfl), F_law_rooms.kp, .nil, (F_law_rooms.bindsN fun _ _ _ _ _ _ us hl => match us, hl with | [_, _, _], _ => rfl)⟩⟩
  have D_law_greater : Dn P w K mg base 1 "_law_greater" ["_law_row", "_law_node"] [] (sp_law_greater K (He.ga K "Steps") (He.ga K "Tree")) := ⟨⟨_, _, [], ok_law_greater (base := base) (P := P) (w := w)  F_law_greater T, He.glo_ok X G (c.fact 29 (f := .glo "_law_greater") rfl), F_law_greater.kp, .nil, (F_law_greater.bindsN fun _ _ _ _ _ _ us hl => match us, hl with | [_, _], _ => rfl)⟩⟩
  have D_law_mended : Dn P w K mg base 2 "_law_mended" ["_law_row"] [] (sp_law_mended K (He.ga K "Steps") (He.ga K "Tree")) := ⟨⟨_, _, [], ok_law_mended (base := base) (P := P) (w := w) D_law_greater F_law_mended T, He.glo_ok X G (c.fact 30 (f := .glo "_law_mended") rfl), F_law_mended.kp, .nil, (F_law_mended.bindsN fun _ _ _ _ _ _ us hl => match us, hl with | [_], _ => rfl)⟩⟩
  have D_law_exact : Dn P w K mg base 3 "_law_exact" ["_law_plan", "_law_rooms_here"] [] (sp_law_exact K (He.ga K "Steps") (He.ga K "Tree")) := ⟨⟨_, _, [], ok_law_exact (base := base) (P := P) (w := w) D_law_class D_law_mended F_law_exact T, He.glo_ok X G (c.fact 31 (f := .glo "_law_exact") rfl), F_law_exact.kp, .nil, (F_law_exact.bindsN fun _ _ _ _ _ _ us hl => match us, hl with | [_, _], _ => rfl)⟩⟩
  have D_law_lowered : Dn P w K mg base 2 "_law_lowered" ["_law_row", "_law_node", "_law_told_here"] [] (sp_law_lowered K (He.ga K "Steps") (He.ga K "Tree")) := ⟨⟨_, _, [], ok_law_lowered (base := base) (P := P) (w := w) D_law_greater F_law_lowered T, He.glo_ok X G (c.fact 32 (f := .glo "_law_lowered") rfl), F_law_lowered.kp, .nil, (F_law_lowered.bindsN fun _ _ _ _ _ _ us hl => match us, hl with | [_, _, _], _ => rfl)⟩⟩
  have D_law_put : Dn P w K mg base 1 "_law_put" ["_law_row", "_law_some"] [] (sp_law_put K (He.ga K "Steps") (He.ga K "Tree")) := ⟨⟨_, _, [], ok_law_put (base := base) (P := P) (w := w)  F_law_put T, He.glo_ok X G (c.fact 33 (f := .glo "_law_put") rfl), F_law_put.kp, .nil, (F_law_put.bindsN fun _ _ _ _ _ _ us hl => match us, hl with | [_, _], _ => rfl)⟩⟩
  have D_law_down : Dn P w K mg base 2 "_law_down" ["_law_row", "_law_pages_here", "_law_need_here", "_law_node"] [] (sp_law_down K (He.ga K "Steps") (He.ga K "Tree")) := ⟨⟨_, _, [], ok_law_down (base := base) (P := P) (w := w) D_law_greater F_law_down T, He.glo_ok X G (c.fact 34 (f := .glo "_law_down") rfl), F_law_down.kp, .nil, (F_law_down.bindsN fun _ _ _ _ _ _ us hl => match us, hl with | [_, _, _, _], _ => rfl)⟩⟩
  have D_law_play : Dn P w K mg base 3 "_law_play" ["_law_plan", "_law_row", "_law_rooms_here", "_law_size"] [] (sp_law_play K (He.ga K "Steps") (He.ga K "Tree")) := ⟨⟨_, _, [], ok_law_play (base := base) (P := P) (w := w) D_law_need D_law_down D_law_class D_law_lowered D_law_put F_law_play T, He.glo_ok X G (c.fact 35 (f := .glo "_law_play") rfl), F_law_play.kp, .nil, (F_law_play.bindsN fun _ _ _ _ _ _ us hl => match us, hl with | [_, _, _, _], _ => rfl)⟩⟩
  have D_law_scene : Dn P w K mg base 4 "_law_scene" ["_law_pool", "_law_top", "_law_many"] [] (sp_law_scene K (He.ga K "Steps") (He.ga K "Tree")) := ⟨⟨_, _, [], ok_law_scene (base := base) (P := P) (w := w) D_law_bounds D_law_pages D_law_rooms D_law_told D_law_draw D_law_exact F_law_scene T, He.glo_ok X G (c.fact 36 (f := .glo "_law_scene") rfl), F_law_scene.kp, .nil, (F_law_scene.bindsN fun _ _ _ _ _ _ us hl => match us, hl with | [_, _, _], _ => rfl)⟩⟩
  have D_law_tree : Dn P w K mg base 5 "_law_tree" ["_law_plan", "_law_row"] [] (sp_law_tree K (He.ga K "Steps") (He.ga K "Tree")) := ⟨⟨_, _, [], ok_law_tree (base := base) (P := P) (w := w) D_Tree_init F_law_tree T, He.glo_ok X G (c.fact 37 (f := .glo "_law_tree") rfl), F_law_tree.kp, .nil, (F_law_tree.bindsN fun _ _ _ _ _ _ us hl => match us, hl with | [_, _], _ => rfl)⟩⟩
  have D_law_falls : Dn P w K mg base 1 "_law_falls" ["_law_row", "_law_some"] [] (sp_law_falls K (He.ga K "Steps") (He.ga K "Tree")) := ⟨⟨_, _, [], ok_law_falls (base := base) (P := P) (w := w)  F_law_falls T, He.glo_ok X G (c.fact 38 (f := .glo "_law_falls") rfl), F_law_falls.kp, .nil, (F_law_falls.bindsN fun _ _ _ _ _ _ us hl => match us, hl with | [_, _], _ => rfl)⟩⟩
  have D_law_upright_right : Dn P w K mg base 10 "_law_upright_right" ["_law_pool"] [] (sp_law_upright_right K (He.ga K "Steps") (He.ga K "Tree")) := ⟨⟨_, _, [], ok_law_upright_right (base := base) (P := P) (w := w) D_law_bounds D_law_draw D_law_pages D_law_rooms D_law_tree D_law_made_steps G_stages D_search_row D_Tree_is_upright D_Tree_missed F_law_upright_right T, He.glo_ok X G (c.fact 39 (f := .glo "_law_upright_right") rfl), F_law_upright_right.kp, .nil, (F_law_upright_right.bindsN fun _ _ _ _ _ _ us hl => match us, hl with | [_], _ => rfl)⟩⟩
  exact ok_law (base := base) (P := P) (w := w) D_law_opened D_law_upright_right D_law_scene D_law_draw D_law_tree D_law_made_steps D_law_play D_search_row DK_search_row D_behind D_Tree_eq D_written D_law_falls F_law T ⟨rfl, by decide, by decide⟩
end
end Rt
end
section
open PySem PySem.W PySem.Calls PySem.Spec PyProof.Rows
namespace Rt
abbrev LL : PySem.W.OpenLaw := PySem.Challenge.rw_roomtold_k18_whole_rows_of_searches
abbrev dLaw : DefRec := HandSHeadRun.topDef (OpenLaw.row LL).prog 62
theorem dLaw_name : dLaw.name = ("law" : PySem.Str) := by kernel_rfl
theorem law_walk : PySem.W.WalkO qv names (XL qv []) hookR.says (OpenLaw.row LL).toRowW dLaw [] (fun f vs => PySem.call f vs) := by
  refine Rt.walk_ofG (l := LL) (n := 63) (x := "_law_script") rfl (by decide) (by kernel_rfl) ?F
  intro w mg fa h Y G hmg0
  obtain ⟨K, KX, c⟩ := Y
  have hmg : mg ("law" : PySem.Str) = some (.ref fa) := by
    rw [← dLaw_name]
    exact hmg0
  obtain ⟨fd, F⟩ := Rt.law_fd c.d
  have e := hmg.symm.trans (He.glo_ok KX G (Rt.law_glo c.d))
  have e2 : fa = He.ga K "law" := by
    injection e with e
    injection e
  rw [e2]
  exact ⟨K, fd, Rt.sp_law K (He.ga K "Steps") (He.ga K "Tree"), KX, fun s v => (L2.FunD.bindsA (ps := ["_law_script"]) F fun _ _ _ _ _ _ us hl => match us, hl with | [_], _ => rfl) s [v] rfl, fun H a ns hS => ⟨a, ns, rfl, hS, fun _ => rfl⟩, fun base _ _ => Rt.law_ok KX G c F⟩
end Rt
end
section
/-! The claim. -/
namespace Rt
open PySem PySem.W PySem.Calls PySem.Spec PyProof.Rows
theorem row_opens : opening (OpenLaw.row LL).prog = plainProg (OpenLaw.row LL).prog.main.scope.names := by kernel_rfl
theorem row_fence : ∀ s, fenceModules? (OpenLaw.row LL).prog s = some s := fun s => by kernel_rfl
theorem row_def : defOf qv (OpenLaw.row LL).name = some (dLaw, []) := by kernel_rfl
theorem row_the : (OpenLaw.row LL).prog.theDef (OpenLaw.row LL).name = some (dLaw.params, dLaw.body, dLaw.scope) := by kernel_rfl
theorem row_kw : kwWritten? dLaw.params.kwonlyargs dLaw.params.kw_defaults = some [] := by kernel_rfl
theorem row_ok1 : chainsOk qv = true := by kernel_rfl
theorem row_ok2 : opensWell (OpenLaw.row LL).prog = true := by kernel_rfl
theorem row_ok3 : (frees (OpenLaw.row LL).toRowW && (OpenLaw.row LL).within.isEmpty) = true := by kernel_rfl
theorem row_ok : (chainsOk qv && opensWell (OpenLaw.row LL).prog && (frees (OpenLaw.row LL).toRowW && (OpenLaw.row LL).within.isEmpty)) = true := by rw [row_ok1, row_ok2, row_ok3]; rfl
theorem row_bare : (OpenLaw.row LL).prog.bare := ⟨rfl, rfl, rfl, rfl, rfl, by decide +kernel⟩
theorem row_promised : (OpenLaw.row LL).toRowW.promised := by w_witness2
end Rt
open PySem PySem.W PySem.Calls PySem.Spec PyProof.Rows
theorem PySem.Challenge.cw_roomtold_k18_whole_rows_of_searches_holds : PySem.Challenge.rw_roomtold_k18_whole_rows_of_searches.Holds := by
  w_on; o_law
  refine HandSHeadRun.head_any (r := OpenLaw.row PySem.Challenge.rw_roomtold_k18_whole_rows_of_searches) (q := Rt.qv) (H := Rt.hookR) (ob := Rt.obR) (M := 8000) (loose := Rt.names) (d := Rt.dLaw) (kwd := []) Rt.obR_eq
    Rt.row_opens Rt.row_fence Rt.top_run Rt.row_def Rt.row_the Rt.row_kw (by rfl) (by assumption) Rt.row_ok Rt.row_bare Rt.row_promised Rt.law_walk
end
