import PyProof.Rows.All
import Wide.All
import OpenK.AllK
import Wide.FinOn
import HandS.ForMost
import HandS.GenList
import HandS.ExcInit
import HandS.TryMany
import HandS.ForExc
import HandS.IsInst
import HandS.TupLe
import HandS.Deep
import HandS.Conv
import HandS.More
import HandS.Text
import HandS.ExcField
import HandS.ExcOwn
import PySem.Challenge.RW_leastknobs_k68_own_words_listed
import HandS.TupAny
import HandS.NoneIn
set_option Elab.async false
set_option linter.all false
set_option maxRecDepth 100000
set_option maxHeartbeats 4000000
/-! A frame rule for generators that sleep. -/
namespace GN
open PySem PyProof.Rows L2 GenW
open Sem (wp)

/-- a sleeping generator that can never be woken -/
def poison : GenState → GenState
  | .suspended _ l c p fs cl => .suspended (fun _ => .unsupported "") l c p fs cl
  | x => x
def asleep : GenState → Bool
  | .suspended .. => true
  | _ => false
theorem poison_bare (x : GenState) : (poison x).bare = x.bare := by cases x <;> rfl
theorem poison_seen (x : GenState) : (poison x).seen = x.seen := by cases x <;> rfl
theorem poison_awake {x : GenState} (h : asleep x = false) : poison x = x := by cases x <;> first | rfl | cases h

theorem no_runs {M : Model} {Γ : Ctx} {p : Pos} {t : Sem PySem.Fin} {fs : List Frame} {s s' : Shared} {e : End} (h : Runs M Γ p t fs s e s') : ∀ w, t ≠ .unsupported w := by
  induction h with
  | segRet _ _ ih _ => exact ih
  | segGen _ _ ih _ => exact ih
  | segSuspOut _ _ ih => exact ih
  | segSuspGen _ _ _ _ ih _ => exact ih
  | _ => intro w q; cases q

theorem split_ret {k h g l c p kp fs} : splitAtGen (.ret k h g l c p kp :: fs) = none ↔ splitAtGen fs = none := by
  show (splitAtGen fs).map _ = none ↔ _
  cases splitAtGen fs <;> simp
theorem split_append : ∀ {a b : List Frame}, splitAtGen a = none → splitAtGen b = none → splitAtGen (a ++ b) = none
  | [], _, _, h => h
  | .gen .. :: _, _, h, _ => by cases h
  | .ret .. :: r, b, h1, h2 => by
    rw [List.cons_append, split_ret]
    exact split_append (split_ret.mp h1) h2

/-- the sleepers' table G; a: as it runs with the sleepers poisoned; b: as it truly runs -/
structure Lk (G a b : Array GenState) : Prop where
  size : a.size = b.size
  big : G.size ≤ a.size
  slept : ∀ (i : Nat) (x : GenState), G[i]? = some x → asleep x = true → a[i]? = some (poison x) ∧ b[i]? = some x
  rest : ∀ (i : Nat), (∀ (x : GenState), G[i]? = some x → asleep x = false) → a[i]? = b[i]? ∧ ∀ k l c p fs cl, a[i]? = some (.suspended k l c p fs cl) → splitAtGen fs = none
theorem Lk.start (G : Array GenState) : Lk G (G.map poison) G where
  size := by simp
  big := by simp
  slept := fun i x e _ => by simp [e]
  rest := fun i h => by
    rw [Array.getElem?_map]
    cases e : G[i]? with
    | none => simp
    | some x =>
      have q := h x e
      refine ⟨by simp [poison_awake q], fun k l c p fs cl z => ?_⟩
      rw [Option.map_some, poison_awake q] at z
      cases z
      cases q
theorem asleep_poison (x : GenState) : asleep (poison x) = asleep x := by cases x <;> rfl
theorem Lk.out {G a b : Array GenState} (L : Lk G a b) {g : Nat} {x : GenState} (ha : a[g]? = some x) (hx : asleep x = false) : ∀ z, G[g]? = some z → asleep z = false := fun z hz => by
  cases q : asleep z with
  | false => rfl
  | true =>
    have h := (L.slept g z hz q).1
    rw [ha] at h
    have h2 := congrArg asleep (Option.some.inj h)
    rw [asleep_poison, hx, q] at h2
    exact h2.symm
theorem Lk.set {G a b : Array GenState} (L : Lk G a b) {g : Nat} {y : GenState} (hg : ∀ z, G[g]? = some z → asleep z = false) (hy : ∀ k l c p fs cl, y = .suspended k l c p fs cl → splitAtGen fs = none) :
    Lk G (a.setIfInBounds g y) (b.setIfInBounds g y) := by
  refine ⟨by simp [L.size], by simpa using L.big, fun i z hz q => ?_, fun i h => ?_⟩
  · have hne : g ≠ i := fun e => by subst e; rw [hg z hz] at q; cases q
    obtain ⟨h1, h2⟩ := L.slept i z hz q
    rw [Array.getElem?_setIfInBounds_ne hne, Array.getElem?_setIfInBounds_ne hne]
    exact ⟨h1, h2⟩
  · by_cases hi : g = i
    · subst hi
      by_cases hga : g < a.size
      · have hgb : g < b.size := L.size ▸ hga
        rw [Array.getElem?_setIfInBounds_self_of_lt hga, Array.getElem?_setIfInBounds_self_of_lt hgb]
        exact ⟨rfl, fun k l c p fs cl z => hy k l c p fs cl (Option.some.inj z)⟩
      · have hgb : ¬ g < b.size := L.size ▸ hga
        rw [Array.getElem?_eq_none (by simpa using hga), Array.getElem?_eq_none (by simpa using hgb)]
        exact ⟨rfl, fun k l c p fs cl z => nomatch z⟩
    · rw [Array.getElem?_setIfInBounds_ne hi, Array.getElem?_setIfInBounds_ne hi]
      exact L.rest i h
theorem Lk.push {G a b : Array GenState} (L : Lk G a b) {y : GenState} (hy : ∀ k l c p fs cl, y = .suspended k l c p fs cl → splitAtGen fs = none) : Lk G (a.push y) (b.push y) := by
  refine ⟨by simp [L.size], by have := L.big; simp; omega, fun i z hz q => ?_, fun i h => ?_⟩
  · obtain ⟨h1, h2⟩ := L.slept i z hz q
    have l1 := (Array.getElem?_eq_some_iff.mp h1).1
    have l2 := (Array.getElem?_eq_some_iff.mp h2).1
    rw [Array.getElem?_push, Array.getElem?_push, if_neg (by omega), if_neg (by omega)]
    exact ⟨h1, h2⟩
  · rw [Array.getElem?_push, Array.getElem?_push, L.size]
    by_cases e : i = b.size
    · rw [if_pos e, if_pos e]
      exact ⟨rfl, fun k l c p fs cl z => hy k l c p fs cl (Option.some.inj z)⟩
    · rw [if_neg e, if_neg e]
      exact L.rest i h
theorem Lk.get {G a b : Array GenState} (L : Lk G a b) {g : Nat} {x : GenState} (ha : a[g]? = some x) : (b[g]? = some x ∧ (∀ z, G[g]? = some z → asleep z = false)) ∨ ∃ z, b[g]? = some z ∧ x = poison z ∧ asleep z = true := by
  by_cases h : ∀ z, G[g]? = some z → asleep z = false
  · exact .inl ⟨(L.rest g h).1 ▸ ha, h⟩
  · obtain ⟨z, hz, q⟩ : ∃ z, G[g]? = some z ∧ asleep z = true := by
      refine Classical.byContradiction fun hn => h fun z hz => ?_
      cases q : asleep z with
      | false => rfl
      | true => exact (hn ⟨z, hz, q⟩).elim
    obtain ⟨h1, h2⟩ := L.slept g z hz q
    rw [ha] at h1
    exact .inr ⟨z, h2, Option.some.inj h1, q⟩
theorem Lk.awake {G a b : Array GenState} (L : Lk G a b) {g : Nat} {x : GenState} (ha : a[g]? = some x) (hx : asleep x = false) : b[g]? = some x ∧ (∀ z, G[g]? = some z → asleep z = false) := by
  rcases L.get ha with h | ⟨z, h1, h2, h3⟩
  · exact h
  · have h4 := congrArg asleep h2
    rw [asleep_poison, hx, h3] at h4
    cases h4
theorem Lk.seen {G a b : Array GenState} (L : Lk G a b) {g : Nat} {x : GenState} (ha : a[g]? = some x) : ∃ y, b[g]? = some y ∧ y.seen = x.seen := by
  rcases L.get ha with ⟨h, _⟩ | ⟨z, h1, h2, _⟩
  · exact ⟨x, h, rfl⟩
  · exact ⟨z, h1, by rw [h2, poison_seen]⟩
def Plain : End → Prop
  | .susp _ _ _ _ _ _ fs => splitAtGen fs = none
  | .ret _ => True
theorem Plain.gen {e : End} (h : Plain e) : ∀ k l c p fs cl, e.genState = .suspended k l c p fs cl → splitAtGen fs = none := by
  intro k l c p fs cl q
  cases e with
  | ret r => cases q
  | susp v g l0 k0 c0 p0 fs0 => cases q; exact h

theorem run_frame {M : Model} {G : Array GenState} {Γ : Ctx} {p : Pos} {t : Sem PySem.Fin} {fs : List Frame} {s s' : Shared} {e : End} (h : Runs M Γ p t fs s e s') : splitAtGen fs = none → ∀ b : Array GenState, Lk G s.gens b →
    Plain e ∧ ∃ b' : Array GenState, Lk G s'.gens b' ∧ Runs M Γ p t fs { s with gens := b } e { s' with gens := b' } := by
  induction h with
  | done => intro _ b L; exact ⟨trivial, b, L, .done⟩
  | raise => intro _ b L; exact ⟨trivial, b, L, .raise⟩
  | again hq _ ih => intro hf b L; obtain ⟨h1, b', h2, h3⟩ := ih hf b L; exact ⟨h1, b', h2, .again hq h3⟩
  | rule _ ih => intro hf b L; obtain ⟨h1, b', h2, h3⟩ := ih hf b L; exact ⟨h1, b', h2, .rule h3⟩
  | «at» _ ih => intro hf b L; obtain ⟨h1, b', h2, h3⟩ := ih hf b L; exact ⟨h1, b', h2, .at h3⟩
  | load ho _ ih => intro hf b L; obtain ⟨h1, b', h2, h3⟩ := ih hf b L; exact ⟨h1, b', h2, .load ho h3⟩
  | update ho _ ih => intro hf b L; obtain ⟨h1, b', h2, h3⟩ := ih hf b L; exact ⟨h1, b', h2, .update ho h3⟩
  | loadIfAlive _ ih => intro hf b L; obtain ⟨h1, b', h2, h3⟩ := ih hf b L; exact ⟨h1, b', h2, .loadIfAlive h3⟩
  | point _ ih => intro hf b L; obtain ⟨h1, b', h2, h3⟩ := ih hf b L; exact ⟨h1, b', h2, .point h3⟩
  | alloc _ ih => intro hf b L; obtain ⟨h1, b', h2, h3⟩ := ih hf b L; exact ⟨h1, b', h2, .alloc h3⟩
  | fresh _ ih => intro hf b L; obtain ⟨h1, b', h2, h3⟩ := ih hf b L; exact ⟨h1, b', h2, .fresh h3⟩
  | ask _ ih => intro hf b L; obtain ⟨h1, b', h2, h3⟩ := ih hf b L; exact ⟨h1, b', h2, .ask h3⟩
  | choose hn _ ih => intro hf b L; obtain ⟨h1, b', h2, h3⟩ := ih hf b L; exact ⟨h1, b', h2, .choose hn h3⟩
  | os _ ih => intro hf b L; obtain ⟨h1, b', h2, h3⟩ := ih hf b L; exact ⟨h1, b', h2, .os h3⟩
  | handled _ ih => intro hf b L; obtain ⟨h1, b', h2, h3⟩ := ih hf b L; exact ⟨h1, b', h2, .handled h3⟩
  | genState hg _ ih =>
    intro hf b L
    obtain ⟨y, hy, hs⟩ := L.seen hg
    obtain ⟨h1, b', h2, h3⟩ := ih hf b L
    rw [← hs] at h3
    exact ⟨h1, b', h2, .genState hy h3⟩
  | stack _ ih => intro hf b L; obtain ⟨h1, b', h2, h3⟩ := ih hf b L; exact ⟨h1, b', h2, .stack h3⟩
  | thread _ ih => intro hf b L; obtain ⟨h1, b', h2, h3⟩ := ih hf b L; exact ⟨h1, b', h2, .thread h3⟩
  | newGen _ ih =>
    intro hf b L
    obtain ⟨h1, b', h2, h3⟩ := ih hf _ (L.push (y := .fresh _) (fun _ _ _ _ _ _ q => nomatch q))
    refine ⟨h1, b', h2, .newGen ?_⟩
    rw [L.size] at h3
    exact h3
  | call _ _ ih1 ih2 =>
    intro hf b L
    obtain ⟨_, b1, h2, h3⟩ := ih1 rfl b L
    obtain ⟨h4, b2, h5, h6⟩ := ih2 hf b1 h2
    exact ⟨h4, b2, h5, .call h3 h6⟩
  | callSusp _ ih =>
    intro hf b L
    obtain ⟨h1, b', h2, h3⟩ := ih rfl b L
    exact ⟨split_append h1 (by rw [split_ret]; rfl), b', h2, .callSusp h3⟩
  | yield => intro hf b L; exact ⟨rfl, b, L, .yield⟩
  | resumeFresh hg _ hq _ ih1 ih2 =>
    intro hf b L
    obtain ⟨hy, hn⟩ := L.awake hg rfl
    obtain ⟨h1, b1, h2, h3⟩ := ih1 rfl _ (L.set (y := .running) hn (fun _ _ _ _ _ _ q => nomatch q))
    obtain ⟨h4, b2, h5, h6⟩ := ih2 hf _ (h2.set hn h1.gen)
    exact ⟨h4, b2, h5, .resumeFresh hy h3 hq h6⟩
  | resumeSuspended hg hr hq _ ih1 ih2 =>
    intro hf b L
    rcases L.get hg with ⟨hy, hn⟩ | ⟨z, _, h2, h3⟩
    · obtain ⟨h1, b1, h2, h3⟩ := ih1 ((L.rest _ hn).2 _ _ _ _ _ _ hg) _ (L.set (y := .running) hn (fun _ _ _ _ _ _ q => nomatch q))
      obtain ⟨h4, b2, h5, h6⟩ := ih2 hf _ (h2.set hn h1.gen)
      exact ⟨h4, b2, h5, .resumeSuspended hy h3 hq h6⟩
    · cases z with
      | suspended k l c p fs cl => cases h2; exact (no_runs hr _ rfl).elim
      | _ => cases h3
  | resumeJustStarted hg hv _ ih =>
    intro hf b L
    obtain ⟨hy, hn⟩ := L.awake hg rfl
    obtain ⟨h1, b', h2, h3⟩ := ih hf b L
    exact ⟨h1, b', h2, .resumeJustStarted hy hv h3⟩
  | resumeThrowFresh hg _ ih =>
    intro hf b L
    obtain ⟨hy, hn⟩ := L.awake hg rfl
    obtain ⟨h1, b', h2, h3⟩ := ih hf _ (L.set (y := .finished) hn (fun _ _ _ _ _ _ q => nomatch q))
    exact ⟨h1, b', h2, .resumeThrowFresh hy h3⟩
  | resumeRunning hg _ ih =>
    intro hf b L
    obtain ⟨hy, hn⟩ := L.awake hg rfl
    obtain ⟨h1, b', h2, h3⟩ := ih hf b L
    exact ⟨h1, b', h2, .resumeRunning hy h3⟩
  | resumeFinished hg _ ih =>
    intro hf b L
    obtain ⟨hy, hn⟩ := L.awake hg rfl
    obtain ⟨h1, b', h2, h3⟩ := ih hf b L
    exact ⟨h1, b', h2, .resumeFinished hy h3⟩
  | segRet _ _ ih1 ih2 =>
    intro hf b L
    obtain ⟨_, b1, h2, h3⟩ := ih1 rfl b L
    obtain ⟨h4, b2, h5, h6⟩ := ih2 (split_ret.mp hf) b1 h2
    exact ⟨h4, b2, h5, .segRet h3 h6⟩
  | segGen _ _ _ _ => intro hf; cases hf
  | segSuspOut hs _ ih =>
    intro hf b L
    obtain ⟨h1, b1, h2, h3⟩ := ih rfl b L
    exact ⟨split_append h1 hf, b1, h2, .segSuspOut hs h3⟩
  | segSuspGen hs _ _ _ _ _ => intro hf; rw [hf] at hs; cases hs

/-- what holds of the poisoned state that belongs to it -/
def Un1 (G : Array GenState) (Q : Shared → Prop) (s' : Shared) : Prop := ∃ a : Array GenState, Lk G a s'.gens ∧ Q { s' with gens := a }
theorem wp_frame {α : Type} {M : Model} {G : Array GenState} {Γ : PySem.Ctx} (t : Sem α) : ∀ (Q : α → Pos → Shared → Prop) (E : Value → Pos → Shared → Prop) (p : Pos) (s : Shared) (b : Array GenState), Lk G s.gens b → wp M Γ t Q E p s →
    wp M Γ t (fun a p' => Un1 G (Q a p')) (fun e p' => Un1 G (E e p')) p { s with gens := b } := by
  induction t with
  | pure a => intro Q E p s b L h; exact ⟨s.gens, L, h⟩
  | raise e => intro Q E p s b L h; exact ⟨s.gens, L, h⟩
  | unsupported _ => intro Q E p s b _ h; exact h
  | finish _ => intro Q E p s b _ h; exact h
  | rule _ k ih => intro Q E p s b L h; exact ih () Q E p s b L h
  | «at» p' k ih => intro Q E p s b L h; exact ih () Q E p' s b L h
  | load a _ k ih => intro Q E p s b L h; obtain ⟨o, ho, h⟩ := h; exact ⟨o, ho, ih o Q E p s b L h⟩
  | update a _ f k ih => intro Q E p s b L h; exact ⟨h.1, ih () Q E p { s with heap := s.heap.update a f } b L h.2⟩
  | loadIfAlive a k ih => intro Q E p s b L h; exact ih _ Q E p s b L h
  | point _ k ih => intro Q E p s b L h; exact ih () Q E p s b L h
  | register _ _ => intro Q E p s b _ h; exact h
  | alloc o k ih => intro Q E p s b L h; exact ih _ Q E p { s with heap := s.heap.push o } b L h
  | fresh k ih => intro Q E p s b L h; exact ih _ Q E p { s with toks := s.toks + 1 } b L h
  | ask k ih => intro Q E p s b L h; exact ih _ Q E p s b L h
  | choose src m k ih => intro Q E p s b L h; exact ⟨h.1, ih _ Q E p { s with drawn := s.drawn.bump src } b L h.2⟩
  | os q _ k ih => intro Q E p s b L h; exact ih _ Q E p { s with os := (Os.step s.os q).1 } b L h
  | call c hd _ _ k ih =>
    intro Q E p s b L h
    obtain ⟨r, s', hr, h⟩ := h
    obtain ⟨_, b', L', hr'⟩ := run_frame hr rfl b L
    exact ⟨r, { s' with gens := b' }, hr', ih r Q E p s' b' L' h⟩
  | handled own k ih => intro Q E p s b L h; exact ih _ Q E p s b L h
  | genState g k ih =>
    intro Q E p s b L h
    obtain ⟨st, hs, h⟩ := h
    obtain ⟨y, hy, e⟩ := L.seen hs
    refine ⟨y, hy, ?_⟩
    rw [e]
    exact ih _ Q E p s b L h
  | newGen c k ih =>
    intro Q E p s b L h
    have h' := ih _ Q E p { s with gens := s.gens.push (.fresh c) } _ (L.push (y := .fresh c) (fun _ _ _ _ _ _ q => nomatch q)) h
    rw [L.size] at h'
    exact h'
  | resume g r _ k ih =>
    intro Q E p s b L h
    obtain ⟨res, s', hw, h⟩ := h
    suffices hh : ∃ b', Lk G s'.gens b' ∧ Wakes M Γ p g r { s with gens := b } res { s' with gens := b' } by
      obtain ⟨b', L', hw'⟩ := hh
      exact ⟨res, { s' with gens := b' }, hw', ih res Q E p s' b' L' h⟩
    unfold Wakes at hw ⊢
    split at hw
    · exact hw.elim
    · rename_i c hg
      obtain ⟨hy, hn⟩ := L.awake hg rfl
      rw [hy]
      cases r with
      | throw x => exact ⟨_, by rw [hw.2]; exact L.set (y := .finished) hn (fun _ _ _ _ _ _ q => nomatch q), hw.1, by rw [hw.2]; rfl⟩
      | send v =>
        cases v with
        | none =>
          obtain ⟨e₁, s₁, hr, hq, h1, h2⟩ := hw
          obtain ⟨h4, b1, h5, h6⟩ := run_frame hr rfl _ (L.set (y := .running) hn (fun _ _ _ _ _ _ q => nomatch q))
          refine ⟨b1.setIfInBounds g e₁.genState, ?_, e₁, { s₁ with gens := b1 }, h6, hq, h1, ?_⟩
          · rw [h2]; exact h5.set hn h4.gen
          · rw [h2]; rfl
        | _ => exact ⟨b, by rw [hw.2]; exact L, hw.1, by rw [hw.2]⟩
    · rename_i k₀ l₀ c₀ p₀ fs cl hg
      obtain ⟨e₁, s₁, hr, hq, h1, h2⟩ := hw
      rcases L.get hg with ⟨hy, hn⟩ | ⟨z, _, z2, z3⟩
      · rw [hy]
        obtain ⟨h4, b1, h5, h6⟩ := run_frame hr ((L.rest _ hn).2 _ _ _ _ _ _ hg) _ (L.set (y := .running) hn (fun _ _ _ _ _ _ q => nomatch q))
        refine ⟨b1.setIfInBounds g e₁.genState, ?_, e₁, { s₁ with gens := b1 }, h6, hq, h1, ?_⟩
        · rw [h2]; exact h5.set hn h4.gen
        · rw [h2]; rfl
      · cases z with
        | suspended k l c p fs cl => cases z2; exact (no_runs hr _ rfl).elim
        | _ => cases z3
    · rename_i hg
      rw [(L.awake hg rfl).1]
      exact ⟨b, by rw [hw.2]; exact L, hw.1, by rw [hw.2]⟩
    · rename_i hg
      rw [(L.awake hg rfl).1]
      exact ⟨b, by rw [hw.2]; exact L, hw.1, by rw [hw.2]⟩
  | yield _ _ _ _ => intro Q E p s b _ h; exact h
  | stack k ih => intro Q E p s b L h; exact ih _ Q E p s b L h
  | fork _ _ => intro Q E p s b _ h; exact h
  | thread k ih => intro Q E p s b L h; exact ih _ Q E p s b L h
  | await _ _ _ _ _ => intro Q E p s b _ h; exact h

/-- who sleeps in a sleeps in b -/
def SleepOn (a b : Array GenState) : Prop := a.size ≤ b.size ∧ ∀ (i : Nat) (x : GenState), a[i]? = some x → asleep x = true → b[i]? = some x
theorem SleepOn.refl (a : Array GenState) : SleepOn a a := ⟨Nat.le_refl _, fun _ _ h _ => h⟩
theorem SleepOn.trans {a b c : Array GenState} (x : SleepOn a b) (y : SleepOn b c) : SleepOn a c := ⟨Nat.le_trans x.1 y.1, fun i z h q => y.2 i z (x.2 i z h q) q⟩
theorem allBare_map {G : Array GenState} (h : AllBare G) : AllBare (G.map poison) := fun y hy => by
  obtain ⟨x, hx, rfl⟩ := Array.mem_map.mp hy
  rw [poison_bare]
  exact h x hx
theorem Lk.bare {G a b : Array GenState} (L : Lk G a b) (h : AllBare a) : AllBare b := fun y hy => by
  obtain ⟨i, hi, e⟩ := Array.mem_iff_getElem.mp hy
  have eb : b[i]? = some y := by rw [Array.getElem?_eq_getElem hi, e]
  have hia : i < a.size := L.size ▸ hi
  have ea : a[i]? = some a[i] := Array.getElem?_eq_getElem hia
  have q := h a[i] (Array.getElem_mem hia)
  rcases L.get ea with ⟨h1, _⟩ | ⟨z, h1, h2, _⟩
  · rw [eb] at h1; rw [Option.some.inj h1]; exact q
  · rw [eb] at h1; rw [Option.some.inj h1, ← poison_bare, ← h2]; exact q
theorem Lk.on {G a b : Array GenState} (L : Lk G a b) : SleepOn G b := ⟨by rw [← L.size]; exact L.big, fun i x h q => (L.slept i x h q).2⟩

/-- THE FRAME RULE: it runs from the state whose sleepers are poisoned, so it runs and lets them sleep -/
theorem wpAny_frame {α : Type} {M : Model} {A : Around} {t : Sem α} {Q : α → Shared → Prop} {E : Value → Shared → Prop} {s : Shared} (h : wpAny M A t Q E { s with gens := s.gens.map poison }) :
    wpAny M A t (fun a => Un1 s.gens (Q a)) (fun e => Un1 s.gens (E e)) s := fun Γ p hΓ =>
  wp_frame t _ _ p { s with gens := s.gens.map poison } s.gens (Lk.start s.gens) (h Γ p hΓ)
end GN

set_option Elab.async false
set_option linter.all false
set_option maxRecDepth 100000
set_option maxHeartbeats 4000000
/-! One turn of a generator: a run up to its end or its next yield. -/
namespace GN
open PySem PyProof.Rows L2 GenW
open Sem (wp)

/-- t runs over the frames fs, to its end or its first yield, and leaves what Φ says -/
def Sg (M : Model) (A : Around) (Φ : End → Shared → Prop) (c : Code) (t : Sem PySem.Fin) (fs : List Frame) (s : Shared) : Prop :=
  ∀ (Γ : PySem.Ctx) (p : Pos), Γ.code = c → Γ.Woken A → ∃ e s', Runs M Γ p t fs s e s' ∧ Φ e s'
abbrev noE : Value → Shared → Prop := fun _ _ => False

section
variable {M : Model} {A : Around} {Φ : End → Shared → Prop} {c : Code} {fs : List Frame} {s : Shared}
theorem sg_wrapE {α : Type} {m : Sem α} {K : α → Sem PySem.Fin} {J : Value → Sem PySem.Fin} {gd : Bool → Bool} {lv : List Value → List Value}
    (h : wpAny M (A.over c fs) m (fun a s' => Sg M A Φ c (K a) fs s') (fun x s' => Sg M A Φ c (J x) fs s') s) : Sg M A Φ c (m.wrap K J gd lv) fs s := by
  rintro Γ p rfl hΓ
  exact runs_wrap_of_wp K J gd lv m (h (Γ.over fs) p (hΓ.over fs)) (fun a p' s' h' => h' Γ p' rfl hΓ) (fun x p' s' h' => h' Γ p' rfl hΓ)
theorem sg_wrap {α : Type} {m : Sem α} {K : α → Sem PySem.Fin} {J : Value → Sem PySem.Fin} {gd : Bool → Bool} {lv : List Value → List Value}
    (h : wpAny M (A.over c fs) m (fun a s' => Sg M A Φ c (K a) fs s') noE s) : Sg M A Φ c (m.wrap K J gd lv) fs s :=
  sg_wrapE (wpAny_mono h (fun _ _ x => x) fun _ _ x => x.elim)
theorem sg_bind {α : Type} {m : Sem α} {K : α → Sem PySem.Fin} (h : wpAny M (A.over c fs) m (fun a s' => Sg M A Φ c (K a) fs s') noE s) : Sg M A Φ c (m >>= K) fs s := by
  rw [Sem.bind_eq_wrap']; exact sg_wrap h
/-- a bind ahead, under a wrap -/
theorem sg_bindw {α β : Type} {m : Sem α} {f : α → Sem β} {K : β → Sem PySem.Fin} {J : Value → Sem PySem.Fin} {gd : Bool → Bool} {lv : List Value → List Value}
    (h : wpAny M (A.over c fs) m (fun a s' => Sg M A Φ c ((f a).wrap K J gd lv) fs s') noE s) : Sg M A Φ c ((m >>= f).wrap K J gd lv) fs s := by
  rw [Sem.bind_eq_wrap' m f, Sem.wrap_wrap]
  exact sg_wrap h
theorem sg_at {p' : Pos} {k : Unit → Sem PySem.Fin} (h : Sg M A Φ c (k ()) fs s) : Sg M A Φ c (.at p' k) fs s :=
  sg_wrap (m := standAt p') (K := k) (J := .raise) (gd := id) (lv := id) (wpAny_standAt h)
theorem sg_point {l : List Value} {k : Unit → Sem PySem.Fin} (h : Sg M A Φ c (k ()) fs s) : Sg M A Φ c (.point l k) fs s :=
  sg_wrap (m := point) (K := k) (J := .raise) (gd := id) (lv := fun _ => l) (wpAny_point h)
theorem sg_call {c' : Code} {h g l} {k : Result → Sem PySem.Fin} (hc : ∀ p, Sg M A Φ c' (M.den c') (.ret k h g l c p [] :: fs) s) : Sg M A Φ c (.call c' h g l k) fs s := by
  rintro Γ p rfl hΓ
  obtain ⟨e, s', hr, he⟩ := hc p (Γ.goto c') p rfl (hΓ.goto c')
  exact ⟨e, s', runs_call_seg hr, he⟩
theorem sg_leaf {k h g l c₁ p₁ kp} (r : Result) (hk : Sg M A Φ c₁ (k r) fs s) : Sg M A Φ c (leafOf r) (.ret k h g l c₁ p₁ kp :: fs) s := by
  rintro Γ p rfl hΓ
  obtain ⟨e, s', hr, he⟩ := hk (Γ.goto c₁) p₁ rfl (hΓ.goto c₁)
  exact ⟨e, s', Runs.pop r hr, he⟩
theorem sg_again {c' : Code} (hq : c'.quiet = true) (hc : Sg M A Φ c' (M.den c') fs s) : Sg M A Φ c (.pure (.again c')) fs s := by
  rintro Γ p rfl hΓ
  obtain ⟨e, s', hr, he⟩ := hc (Γ.goto c') p rfl (hΓ.goto c')
  exact ⟨e, s', Runs.head (c₁ := c') (fun _ _ x => .again hq x) hr, he⟩
theorem sg_end (r : Result) (h : Φ (.ret r) s) : Sg M A Φ c (leafOf r) [] s := fun Γ p _ _ => ⟨.ret r, s, Runs.leaf r, h⟩
theorem sg_yield {v : Value} {g : Bool} {l : List Value} {k : Resume → Sem PySem.Fin} (hfs : splitAtGen fs = none) (h : ∀ p, Φ (.susp v g l k c p fs) s) : Sg M A Φ c (.yield v g l k) fs s := by
  rintro Γ p rfl _
  exact ⟨_, s, Runs.yield' fs hfs, h p⟩
end

section
variable {M : Model} {A : Around} {Φ : End → Shared → Prop} {c : Code} {fs : List Frame} {s : Shared} {env : Env} {K : Flow → Sem PySem.Fin} {J : Value → Sem PySem.Fin} {gd : Bool → Bool} {lv : List Value → List Value}
/-- behind a statement, the rest of its block -/
def restK (env : Env) (rest : List Stmt) (K : Flow → Sem PySem.Fin) (J : Value → Sem PySem.Fin) (gd : Bool → Bool) (lv : List Value → List Value) : Flow → Sem PySem.Fin
  | .next => (execs rest env).wrap K J gd lv
  | f => K f
theorem sg_cons {st : Stmt} {rest : List Stmt} (h : Sg M A Φ c ((exec st env).wrap (restK env rest K J gd lv) J gd lv) fs s) : Sg M A Φ c ((execs (st :: rest) env).wrap K J gd lv) fs s := by
  rw [execs_cons_wrap]
  rw [Sem.wrap_congr _ _ _ (K' := restK env rest K J gd lv) (H' := J) (fun f => by cases f <;> rfl) fun _ => rfl]
  exact h
theorem sg_nil (h : Sg M A Φ c (K .next) fs s) : Sg M A Φ c ((execs [] env).wrap K J gd lv) fs s := h
theorem sg_If {test : Expr} {body orelse : List Stmt} {pos : Pos} (h : wpAny M (A.over c fs) (isTrue test env (eval test env)) (fun b s' => Sg M A Φ c ((execs (if b = true then body else orelse) env).wrap K J gd lv) fs s') noE s) :
    Sg M A Φ c ((exec (.If test body orelse pos) env).wrap K J gd lv) fs s := by
  rw [arm_exec_If]
  refine sg_at ?_
  show Sg M A Φ c ((isTrue test env (eval test env) >>= fun b => if b = true then execs body env else execs orelse env).wrap K J gd lv) fs s
  refine sg_bindw (wpAny_mono h (fun b s' hb => ?_) fun _ _ x => x)
  cases b <;> exact hb
theorem sg_Yield {e : Expr} {ypos pos : Pos} (hfs : splitAtGen fs = none) (hi : interactive env = false) (hco : env.scope.isCoroutine = false)
    (h : wpAny M (A.over c fs) (eval e env) (fun v s' => ∀ p k l, (∀ x, (∀ a, x ≠ Value.ref a) → k (.send x) = K .next) → Φ (.susp v (gd false) l k c p fs) s') noE s) :
    Sg M A Φ c ((exec (.Expr (.Yield (some e) ypos) pos) env).wrap K J gd lv) fs s := by
  rw [exec_Expr env _ pos hi rfl]
  show Sg M A Φ c (.at pos fun _ => ((eval e env >>= fun v => (standAt ypos >>= fun _ => yieldOut env v)) >>= fun x => dropValue (.Yield (some e) ypos) pos x).wrap K J gd lv) fs s
  have hy : ∀ v, yieldOut env v = yieldValue v := fun v => by simp only [yieldOut, hco, Bool.false_eq_true, if_false]
  simp only [hy]
  refine sg_at ?_
  rw [Sem.bind_eq_wrap', Sem.bind_eq_wrap', Sem.wrap_wrap, Sem.wrap_wrap]
  refine sg_wrap (wpAny_mono h (fun v s' h' => ?_) fun _ _ x => x)
  refine sg_at (sg_yield hfs fun p => h' p _ _ fun x hx => ?_)
  cases x <;> first | rfl | exact (hx _ rfl).elim
end

section
variable {prog : Program} {w : World} {A : Around} {Φ : End → Shared → Prop} {c : Code} {fs : List Frame} {s : Shared} {env : Env} {K : Flow → Sem PySem.Fin} {J : Value → Sem PySem.Fin} {gd : Bool → Bool} {lv : List Value → List Value}
/-- what stands behind a loop's own code -/
def backK (env : Env) (K : Flow → Sem PySem.Fin) (J : Value → Sem PySem.Fin) (gd : Bool → Bool) (lv : List Value → List Value) (r : Result) : Sem PySem.Fin :=
  ((match r with
    | .ok f => (.pure f : Sem Flow)
    | .error e => .raise e).onRaise (cameBack env)).wrap K J gd lv
theorem backK_ok {f : Flow} : backK env K J gd lv (.ok f) = K f := rfl
abbrev loopFs (env : Env) (K : Flow → Sem PySem.Fin) (J : Value → Sem PySem.Fin) (gd : Bool → Bool) (lv : List Value → List Value) (c : Code) (fs : List Frame) (p : Pos) : List Frame :=
  .ret (backK env K J gd lv) none (gd false) (lv []) c p [] :: fs
theorem sg_done {M : Model} {c' : Code} {f : Flow} {p : Pos} (h : Sg M A Φ c (K f) fs s) : Sg M A Φ c' (.pure (.done f)) (loopFs env K J gd lv c fs p) s :=
  sg_leaf (.ok f) (by rw [backK_ok]; exact h)
theorem sg_While {M : Model} {test : Expr} {body : List Stmt} {pos : Pos} (h : ∀ p, Sg M A Φ (.whileLoop test body [] env) (M.den (.whileLoop test body [] env)) (loopFs env K J gd lv c fs p) s) :
    Sg M A Φ c ((exec (.While test body [] pos) env).wrap K J gd lv) fs s := by
  rw [arm_exec_While]
  exact sg_at (sg_call h)
/-- behind a loop's body -/
def turnK (again : Code) : Flow → Sem PySem.Fin
  | .next => .pure (.again again)
  | .cont => .pure (.again again)
  | .brk => .pure (.done .next)
  | .ret v => .pure (.done (.ret v))
/-- what a loop does with an error of its own -/
def turnJ (env : Env) (e : Value) : Sem PySem.Fin := (do noteFrame e env; theTreesLotGoes e : Sem Unit).wrap (fun _ => .raise e) .raise id id
theorem onRaise_noted {env : Env} {m : Sem PySem.Fin} : m.onRaise (fun x => do noteFrame x env; theTreesLotGoes x) = m.wrap .pure (turnJ env) id id := by
  rw [Sem.onRaise_eq_wrap]
  exact Sem.wrap_congr _ _ _ (fun _ => rfl) fun e => Sem.bind_eq_wrap _ _
theorem sg_whileTurn {test : Expr} {body : List Stmt} (h : wpAny (model prog w) (A.over (.whileLoop test body [] env) fs) (isTrue test env (eval test env)) (fun b s' => if b = true then
        Sg (model prog w) A Φ (.whileLoop test body [] env) ((execs body env).wrap (turnK (.whileLoop test body [] env)) (turnJ env) id id) fs s'
      else Sg (model prog w) A Φ (.whileLoop test body [] env) (.pure (.done .next)) fs s') noE s) :
    Sg (model prog w) A Φ (.whileLoop test body [] env) ((model prog w).den (.whileLoop test body [] env)) fs s := by
  show Sg _ A Φ _ ((whileTurn test body [] env).onRaise (fun x => do noteFrame x env; theTreesLotGoes x)) fs s
  rw [onRaise_noted]
  unfold whileTurn
  refine sg_bindw (wpAny_mono h (fun b s' hb => ?_) fun _ _ x => x)
  cases b with
  | true =>
    rw [if_pos rfl] at hb
    show Sg _ A Φ _ (Sem.wrap _ _ _ _ (if true = true then _ else _)) fs s'
    rw [if_pos rfl, Sem.bind_eq_wrap', Sem.wrap_wrap]
    refine (congrArg (fun z => Sg (model prog w) A Φ (.whileLoop test body [] env) z fs s') ?_).mpr hb
    exact Sem.wrap_congr _ _ _ (fun f => by cases f <;> rfl) fun _ => rfl
  | false =>
    rw [if_neg Bool.false_ne_true] at hb
    exact hb
theorem sg_For {tg iter : Expr} {body : List Stmt} {pos : Pos} (hs : ∀ x, foldedSetIterable iter env x = pure x)
    (h : wpAny (model prog w) (A.over c fs) (eval iter env) (fun x s1 => wpAny (model prog w) (A.over c fs) (pyIter x) (fun it s2 =>
      ∀ p, Sg (model prog w) A Φ (.forLoop tg it body [] env) ((model prog w).den (.forLoop tg it body [] env)) (loopFs env K J gd lv c fs p) s2) noE s1) noE s) :
    Sg (model prog w) A Φ c ((exec (.For tg iter body [] pos) env).wrap K J gd lv) fs s := by
  rw [arm_exec_For]
  refine sg_at ?_
  show Sg _ A Φ c ((eval iter env >>= fun x0 => foldedSetIterable iter env x0 >>= fun x => standAt iter.pos >>= fun _ => holding [x] (pyIter x) >>= fun it => runOwn (.forLoop tg it body [] env) env).wrap K J gd lv) fs s
  refine sg_bindw (wpAny_mono h (fun x s1 h1 => ?_) fun _ _ x => x)
  refine sg_bindw (wpAny_of_eq (hs x) ?_)
  refine sg_bindw (wpAny_standAt ?_)
  refine sg_bindw (wpAny_holding (wpAny_mono h1 (fun it s2 h2 => ?_) fun _ _ x => x))
  exact sg_call h2
theorem sg_forTurn {tg : Expr} {it : Value} {body : List Stmt} (h : wpAny (model prog w) (A.over (.forLoop tg it body [] env) fs) (pyNext it) (fun r s1 => match r with
      | none => ∀ c', Sg (model prog w) A Φ c' (.pure (.done .next)) fs s1
      | some v => wpAny (model prog w) (A.over (.forLoop tg it body [] env) fs) (letOwnedTupleGo tg it v) (fun _ s2 => wpAny (model prog w) (A.over (.forLoop tg it body [] env) fs) (assign tg env v) (fun _ s3 =>
          Sg (model prog w) A Φ (.forLoop tg it body [] env) ((execs body env).wrap (turnK (.forLoop tg it body [] env)) (turnJ env) id id) fs s3) noE s2) noE s1) noE s) :
    Sg (model prog w) A Φ (.forLoop tg it body [] env) ((model prog w).den (.forLoop tg it body [] env)) fs s := by
  show Sg _ A Φ _ ((forTurn tg it body [] env).onRaise (fun x => do noteFrame x env; theTreesLotGoes x)) fs s
  rw [onRaise_noted]
  unfold forTurn
  refine sg_bindw (wpAny_standAt ?_)
  refine sg_bindw (wpAny_onRaise (wpAny_mono h (fun r s1 h1 => ?_) fun _ _ x => x.elim))
  cases r with
  | none => exact sg_again rfl (h1 _)
  | some v =>
    refine sg_bindw (wpAny_mono h1 (fun _ s2 h2 => ?_) fun _ _ x => x)
    refine sg_bindw (wpAny_mono h2 (fun _ s3 h3 => ?_) fun _ _ x => x)
    show Sg _ A Φ _ (Sem.wrap _ _ _ _ (execs body env >>= _)) fs s3
    rw [Sem.bind_eq_wrap', Sem.wrap_wrap]
    refine (congrArg (fun z => Sg (model prog w) A Φ (.forLoop tg it body [] env) z fs s3) ?_).mpr h3
    exact Sem.wrap_congr _ _ _ (fun f => by cases f <;> rfl) fun _ => rfl
theorem sg_func {body : List Stmt} (h : Sg (model prog w) A Φ (.func body env) ((execs body env).wrap (fun f => .pure (.done (.ret (match f with | .ret v => v | _ => .none))))
      (fun e => (leaving env e).wrap (fun _ => .raise e) .raise id id) id id) fs s) :
    Sg (model prog w) A Φ (.func body env) ((model prog w).den (.func body env)) fs s := by
  show Sg _ A Φ _ (.point [] fun _ => ((execs body env).onRaise (leaving env)) >>= _) fs s
  refine sg_point ?_
  rw [Sem.onRaise_eq_wrap, Sem.bind_eq_wrap', Sem.wrap_wrap]
  rw [Sem.wrap_congr (execs body env) _ _ (K' := fun f => .pure (.done (.ret (match f with | .ret v => v | _ => .none)))) (H' := fun e => (leaving env e).wrap (fun _ => .raise e) .raise id id) (fun f => by cases f <;> rfl)
    (fun e => by rw [Sem.bind_eq_wrap, Sem.wrap_wrap]; rfl)]
  exact h
end
end GN

set_option Elab.async false
set_option linter.all false
set_option maxRecDepth 100000
set_option maxHeartbeats 4000000
/-! A generator that sleeps, and how it is woken: its own objects stand frozen in the one abstract heap. -/
namespace GN
open PySem PyProof.Rows L2 GenW

/-! ### the heap below n -/
def low (n : Nat) (h : Heap) : Heap := ⟨h.objs.extract 0 n, h.life⟩
theorem ext_get {α : Type} (a : Array α) (n b : Nat) : (a.extract 0 n)[b]? = if b < n then a[b]? else none := by
  by_cases hb : b < n
  · rw [if_pos hb]
    by_cases h2 : b < a.size
    · have h3 : b < (a.extract 0 n).size := by simp; omega
      rw [Array.getElem?_eq_getElem h3, Array.getElem?_eq_getElem h2, Array.getElem_extract]
      simp
    · rw [Array.getElem?_eq_none (by simp; omega), Array.getElem?_eq_none (by omega)]
  · rw [if_neg hb, Array.getElem?_eq_none (by simp; omega)]
theorem low_get {n : Nat} {h : Heap} {b : Addr} : (low n h).get? b = if b < n then h.get? b else none := by
  show (match (h.objs.extract 0 n)[b]? with | some ⟨_, _, .freed, _⟩ => none | o => o) = _
  rw [ext_get h.objs n b]
  by_cases hb : b < n
  · rw [if_pos hb, if_pos hb]; rfl
  · rw [if_neg hb, if_neg hb]
theorem low_some {n : Nat} {h : Heap} {b : Addr} {o : Obj} (e : (low n h).get? b = some o) : b < n ∧ h.get? b = some o := by
  rw [low_get] at e
  by_cases hb : b < n
  · rw [if_pos hb] at e; exact ⟨hb, e⟩
  · rw [if_neg hb] at e; cases e
theorem low_of {n : Nat} {h : Heap} {b : Addr} {o : Obj} (hb : b < n) (e : h.get? b = some o) : (low n h).get? b = some o := by
  rw [low_get, if_pos hb]; exact e
theorem low_size {n : Nat} {h : Heap} (hn : n ≤ h.objs.size) : (low n h).objs.size = n := by
  show (h.objs.extract 0 n).size = n
  rw [Array.size_extract]; omega
theorem low_keep {n : Nat} {h : Heap} : ∀ b o, (low n h).get? b = some o → h.get? b = some o := fun _ _ e => (low_some e).2
theorem low_funs {n : Nat} {h base : Heap} : ∀ {l : List Env}, (∀ b ∈ frs l, b < n) → h.FunFrames base l → (low n h).FunFrames base l
  | [], _, _ => trivial
  | env :: r, hl, ⟨h1, ⟨L, o, hf, hn, ho, hd⟩, h2⟩ =>
    ⟨h1, ⟨L, o, hf, hn, low_of (hl L (by unfold frs; rw [List.filterMap_cons, hf]; exact List.mem_cons_self)) ho, hd⟩,
      low_funs (l := r) (fun b hb => hl b (by unfold frs; rw [List.filterMap_cons, hf]; exact List.mem_cons_of_mem _ hb)) h2⟩
abbrev lowS (n : Nat) (s : Shared) : Shared := { s with heap := low n s.heap }

/-! ### frozen things -/
def exO (b : Addr) (o : Obj) : HO := .ext fun h => h.get? b = some o
def thaw (dom : List Addr) (H : Hp) : Hp := fun b => if b ∈ dom then none else H b
def frze (dom : List Addr) (h : Heap) (H : Hp) : Hp := fun b => if b ∈ dom then (h.get? b).map (exO b) else H b
theorem thaw_in {dom : List Addr} {H : Hp} {b : Addr} (hb : b ∈ dom) : thaw dom H b = none := if_pos hb
theorem thaw_out {dom : List Addr} {H : Hp} {b : Addr} (hb : b ∉ dom) : thaw dom H b = H b := if_neg hb
theorem frze_in {dom : List Addr} {h : Heap} {H : Hp} {b : Addr} {o : Obj} (hb : b ∈ dom) (e : h.get? b = some o) : frze dom h H b = some (exO b o) := by
  unfold frze; rw [if_pos hb, e]; rfl
theorem frze_out {dom : List Addr} {h : Heap} {H : Hp} {b : Addr} (hb : b ∉ dom) : frze dom h H b = H b := if_neg hb
theorem exO_ok {P : Program} {w : World} {H : Hp} {h : Heap} {b : Addr} {o : Obj} (e : h.get? b = some o) : ObjOk P w H h b (exO b o) := ⟨e, ⟨o, e⟩, fun _ _ h1 k => k o h1⟩
theorem exO_get {P : Program} {w : World} {H : Hp} {h : Heap} {a b : Addr} {o : Obj} (x : ObjOk P w H h a (exO b o)) : h.get? b = some o := x.1
theorem exO_tup {b : Addr} {o : Obj} {xs : List V} : exO b o ≠ .tup xs := fun e => by cases e
theorem exO_own {b : Addr} {o : Obj} {x : Addr} : exO b o ≠ .own x := fun e => by cases e
section
variable {P : Program} {w : World} {H : Hp} {h : Heap} {dom : List Addr}
theorem thaw_ok (k : HOk P w H h) (hd : ∀ b ∈ dom, ∃ o, H b = some (exO b o)) : HOk P w (thaw dom H) h := fun b o e => by
  have hb : b ∉ dom := fun z => by rw [thaw_in z] at e; cases e
  rw [thaw_out hb] at e
  have nd : ∀ c u, H c = some u → (∀ q, u ≠ exO c q) → c ∉ dom := fun c u hc hu z => by
    obtain ⟨q, hq⟩ := hd c z
    rw [hc] at hq
    exact hu q (Option.some.inj hq)
  exact (k b o e).stay (fun _ _ _ z => z) (fun c z => by rw [thaw_out (nd c _ z fun q y => exO_own y.symm)]; exact z) fun c xs z => by rw [thaw_out (nd c _ z fun q y => exO_tup y.symm)]; exact z
theorem frze_ok (k : HOk P w H h) (hd : ∀ b ∈ dom, H b = none ∧ ∃ o, h.get? b = some o) : HOk P w (frze dom h H) h := fun b o e => by
  by_cases hb : b ∈ dom
  · obtain ⟨_, q, hq⟩ := hd b hb
    rw [frze_in hb hq] at e
    cases e
    exact exO_ok hq
  · rw [frze_out hb] at e
    have nd : ∀ c u, H c = some u → c ∉ dom := fun c u hc z => by rw [(hd c z).1] at hc; cases hc
    exact (k b o e).stay (fun _ _ _ z => z) (fun c z => by rw [frze_out (nd c _ z)]; exact z) fun c xs z => by rw [frze_out (nd c _ z)]; exact z
end

/-! ### one generator, for its whole life -/
structure Ins where
  P : Program
  w : World
  K : PySem.W.Frag
  mg : Str → Option Value
  base : Heap
  N : List Str
  env : Env
  /-- where it is woken -/
  A : Around
  outer : List Env
  /-- its number, its object -/
  g : Nat
  a : Addr
  go : Obj
/-- the context of its code; s0, H0: the last waking, without what is younger than its frame -/
def Ins.X (G : Ins) (E : XK) (s0 : Shared) (H0 : Hp) : Cx where
  prog := G.P
  w := G.w
  K := G.K
  mg := G.mg
  base := G.base
  A := G.A.deeper G.env
  N := G.N
  s_0 := s0
  H_0 := H0
  env := G.env
  outer := G.outer
  stack := G.env :: G.outer
  ex := []
  fn := fun _ => true
  calm := true
  pn := []
  xe := fun e s' => wpAny (model G.P G.w) (G.A.deeper G.env) (leaving G.env e) (fun _ s'' => CX G.P G.w G.outer H0 s0 E e s'') (fun _ _ => False) s'
/-- what never changes -/
structure Sta (G : Ins) : Prop where
  mod : Mod G.K G.mg G.base
  kind : G.env.scope.kind = .function
  co : G.env.scope.isCoroutine = false
  glob : G.env.globals = mainGlobals
  blt : G.env.builtins = builtinsNs
  inj : ∀ x y c, G.env.cells.lookup x = some c → G.env.cells.lookup y = some c → x = y
  has : ∀ x, (G.env.kindOf x = some .cell ∨ G.env.kindOf x = some .free) → ∃ c, G.env.cells.lookup x = some c
  cab : ∀ x c, G.env.cells.lookup x = some c → G.env.locals < c
  hd : G.A.handled = none
  frames : G.A.frames = some G.outer
  fr : G.env.frame = some G.env.locals
  bsz : G.base.objs.size ≤ G.env.locals
  frl : ∀ b ∈ frs G.outer, b < G.env.locals
/-- its frame's objects, and its iterators -/
def domOf (env : Env) (ip : List (Addr × Obj)) : List Addr := env.locals :: (env.cells.map (·.2) ++ ip.map (·.1))
theorem dom_loc {env : Env} {ip : List (Addr × Obj)} : env.locals ∈ domOf env ip := List.mem_cons_self
theorem dom_cell {env : Env} {ip : List (Addr × Obj)} {x : Str} {c : Addr} (e : env.cells.lookup x = some c) : c ∈ domOf env ip :=
  List.mem_cons_of_mem _ (List.mem_append_left _ (List.mem_map.mpr ⟨(x, c), PySem.mem_of_lookup e, rfl⟩))
theorem dom_pin {env : Env} {ip : List (Addr × Obj)} {p : Addr × Obj} (hp : p ∈ ip) : p.1 ∈ domOf env ip :=
  List.mem_cons_of_mem _ (List.mem_append_right _ (List.mem_map.mpr ⟨p, hp, rfl⟩))
/-- what its frame holds -/
structure Nap (env : Env) (N : List Str) (fs : List Addr) (ip : List (Addr × Obj)) (σ : L2.St) (h : Heap) : Prop where
  loc : ∃ m, h.Ns env.locals m ∧ ∀ (i : Nat) (x : Str) (v : V), N[i]? = some x → σ[i]? = some (some v) → Vis env.scope x → ∃ u, RelV v u ∧ Look env h m x u
  cell : ∀ x c, env.cells.lookup x = some c → ∃ v, h.IsCell c v
  pin : ∀ p ∈ ip, h.get? p.1 = some p.2 ∧ p.1 ≠ env.locals ∧ p.1 ∉ fs ∧ ∀ v, p.2.data ≠ .cell v
  len : σ.length = N.length
theorem Nap.keep {env : Env} {N : List Str} {fs : List Addr} {ip : List (Addr × Obj)} {σ : L2.St} {h h' : Heap} (n : Nap env N fs ip σ h) (k : ∀ b ∈ domOf env ip, ∀ o, h.get? b = some o → h'.get? b = some o) : Nap env N fs ip σ h' := by
  obtain ⟨⟨m, ⟨o, es, ep, ho, r⟩, hl⟩, n2, n3, n4⟩ := n
  refine ⟨⟨m, ⟨o, es, ep, k _ dom_loc o ho, r⟩, fun i x v e1 e2 e3 => ?_⟩, fun x c e => ?_, fun p hp => ?_, n4⟩
  · obtain ⟨u, ru, lk⟩ := hl i x v e1 e2 e3
    refine ⟨u, ru, ?_⟩
    rcases lk with z | ⟨z, c, ec, oc, hoc, hd⟩
    · exact .inl z
    · exact .inr ⟨z, c, ec, oc, k c (dom_cell ec) oc hoc, hd⟩
  · obtain ⟨v, oc, hoc, hd⟩ := n2 x c e
    exact ⟨v, oc, k c (dom_cell e) oc hoc, hd⟩
  · obtain ⟨h1, h2⟩ := n3 p hp
    exact ⟨k p.1 (dom_pin hp) p.2 h1, h2⟩
theorem Nap.of {X : Cx} {ip : List (Addr × Obj)} {σ : L2.St} {H : Hp} {s : Shared} (hpn : X.pn = []) (I : Inv X ip σ H s) : Nap X.env X.N X.fs ip σ s.heap :=
  ⟨I.loc, I.cell, fun p hp => by
    obtain ⟨h1, _, h3, h4, h5⟩ := I.pin p (List.mem_append_right _ hp)
    exact ⟨h1, h3, h4, h5⟩, I.len⟩
/-- the cells' addresses -/
def CellsOk (env : Env) : Prop := ∀ c ∈ env.cells.map (·.2), ∃ x, env.cells.lookup x = some c
/-- all frozen things are there -/
theorem Nap.there {env : Env} {N : List Str} {fs : List Addr} {ip : List (Addr × Obj)} {σ : L2.St} {h : Heap} (hc : CellsOk env) (n : Nap env N fs ip σ h) : ∀ b ∈ domOf env ip, ∃ o, h.get? b = some o := fun b hb => by
  rcases List.mem_cons.mp hb with z | z
  · obtain ⟨m, ⟨o, _, _, ho, _⟩, _⟩ := n.loc
    exact ⟨o, by rw [z]; exact ho⟩
  · rcases List.mem_append.mp z with z | z
    · obtain ⟨x, e⟩ := hc b z
      obtain ⟨_, o, ho, _⟩ := n.cell x b e
      exact ⟨o, ho⟩
    · obtain ⟨p, hp, e⟩ := List.mem_map.mp z
      exact ⟨p.2, by rw [← e]; exact (n.pin p hp).1⟩

/-! ### what the two sides owe each other -/
/-- they that slept and are younger than g sleep on -/
def SleepBut (g : Nat) (a b : Array GenState) : Prop := a.size ≤ b.size ∧ ∀ (i : Nat) (x : GenState), g < i → a[i]? = some x → asleep x = true → b[i]? = some x
theorem SleepBut.trans {g : Nat} {a b c : Array GenState} (x : SleepBut g a b) (y : SleepBut g b c) : SleepBut g a c := ⟨Nat.le_trans x.1 y.1, fun i z h q r => y.2 i z h (x.2 i z h q r) r⟩
theorem SleepBut.refl {g : Nat} {a : Array GenState} : SleepBut g a a := ⟨Nat.le_refl _, fun _ _ _ q _ => q⟩
theorem SleepOn.but {g : Nat} {a b : Array GenState} (x : SleepOn a b) : SleepBut g a b := ⟨x.1, fun i z _ q r => x.2 i z q r⟩
theorem SleepBut.set {g : Nat} {a : Array GenState} {x : GenState} : SleepBut g a (a.setIfInBounds g x) := ⟨by simp, fun i z h q _ => by rw [Array.getElem?_setIfInBounds_ne (Nat.ne_of_lt h)]; exact q⟩
/-- they that are older -/
def SleepLow (g : Nat) (a b : Array GenState) : Prop := a.size ≤ b.size ∧ ∀ (i : Nat) (x : GenState), i < g → a[i]? = some x → asleep x = true → b[i]? = some x
theorem SleepLow.trans {g : Nat} {a b c : Array GenState} (x : SleepLow g a b) (y : SleepLow g b c) : SleepLow g a c := ⟨Nat.le_trans x.1 y.1, fun i z h q r => y.2 i z h (x.2 i z h q r) r⟩
theorem SleepLow.refl {g : Nat} {a : Array GenState} : SleepLow g a a := ⟨Nat.le_refl _, fun _ _ _ q _ => q⟩
theorem SleepOn.lowg {g : Nat} {a b : Array GenState} (x : SleepOn a b) : SleepLow g a b := ⟨x.1, fun i z _ q r => x.2 i z q r⟩
/-- what a turn has done, for the one who woke it -/
structure Over (G : Ins) (own : Addr → Prop) (Hw : Hp) (sw : Shared) (H1 : Hp) (s1 : Shared) : Prop where
  os : s1.os = sw.os
  bare : AllBare s1.gens
  un : Un (frs G.outer) [] Hw H1 (low G.env.locals sw.heap) s1.heap
  ok : HOk G.P G.w H1 s1.heap
  same : ∀ b o, Hw b = some o → ¬ own b → H1 b = some o
  slp : SleepLow G.g sw.gens s1.gens
/-- what must hold when it is woken again; H1, gs: as it fell asleep -/
structure Wk (G : Ins) (own : Addr → Prop) (H1 : Hp) (gs : Array GenState) (H2 : Hp) (s2 : Shared) : Prop where
  bare : AllBare s2.gens
  bs : ∀ b o, G.base.get? b = some o → s2.heap.get? b = some o ∧ H2 b = none
  funs : s2.heap.FunFrames G.base G.outer
  frf : ∀ b ∈ frs G.outer, H2 b = none
  ok : HOk G.P G.w H2 s2.heap
  own : ∀ b, own b → H2 b = H1 b
  self : H2 G.a = some (exO G.a G.go)
  tups : ∀ b xs, H1 b = some (.tup xs) → H2 b = some (.tup xs)
  slp : SleepBut G.g gs s2.gens
  tab : G.g < s2.gens.size
theorem bare_run {gs : Array GenState} {g : Nat} (h : AllBare gs) : AllBare (gs.setIfInBounds g .running) := fun y hy => by
  obtain ⟨i, hi, e⟩ := Array.mem_iff_getElem.mp hy
  have hi' : i < gs.size := by simpa using hi
  by_cases z : g = i
  · subst z
    have q : (gs.setIfInBounds g .running)[g]? = some y := by rw [Array.getElem?_eq_getElem hi, e]
    rw [Array.getElem?_setIfInBounds_self_of_lt hi'] at q
    cases q; rfl
  · have q : (gs.setIfInBounds g .running)[i]? = some y := by rw [Array.getElem?_eq_getElem hi, e]
    rw [Array.getElem?_setIfInBounds_ne z] at q
    exact h y (Array.mem_of_getElem? q)
/-- WOKEN: the generator's own invariant, from what stood as it fell asleep -/
theorem inv_wake {G : Ins} {E : XK} {ip : List (Addr × Obj)} {σ : L2.St} {h1 : Heap} {H1 H2 : Hp} {gs : Array GenState} {s2 : Shared} {own : Addr → Prop} (S : Sta G) (n : Nap G.env G.N (frs G.outer) ip σ h1) (hc : CellsOk G.env)
    (hfz : ∀ b ∈ domOf G.env ip, own b ∧ ∀ o, h1.get? b = some o → H1 b = some (exO b o)) (W : Wk G own H1 gs H2 s2) :
    Inv (G.X E (lowS G.env.locals (s2.setGen G.g .running)) (thaw (domOf G.env ip) H2)) ip σ (thaw (domOf G.env ip) H2) (s2.setGen G.g .running) ∧ ∀ b ∈ domOf G.env ip, ∃ o, H2 b = some (exO b o) := by
  have hz2 : ∀ b ∈ domOf G.env ip, ∀ o, h1.get? b = some o → H2 b = some (exO b o) := fun b hb o e => by
    rw [W.own b (hfz b hb).1]; exact (hfz b hb).2 o e
  have hx : ∀ b ∈ domOf G.env ip, ∃ o, H2 b = some (exO b o) := fun b hb => by
    obtain ⟨o, e⟩ := n.there hc b hb
    exact ⟨o, hz2 b hb o e⟩
  have n2 : Nap G.env G.N (frs G.outer) ip σ s2.heap := n.keep fun b hb o e => exO_get (W.ok b _ (hz2 b hb o e))
  have hL : G.env.locals < s2.heap.objs.size := let ⟨m, hn, _⟩ := n2.loc; hn.lt
  have hsz : (low G.env.locals s2.heap).objs.size = G.env.locals := low_size (Nat.le_of_lt hL)
  refine ⟨⟨?_, rfl, bare_run W.bare, ?_, n2.loc, n2.cell, thaw_in dom_loc, fun x c e => thaw_in (dom_cell e), fun p hp => ?_, thaw_ok W.ok hx, n2.len⟩, hx⟩
  · refine ⟨S.mod, S.kind, S.glob, S.blt, Nat.le_of_eq hsz, S.inj, S.has, fun x c _ e => ?_, fun _ => S.hd, ?_, .inr ⟨rfl, S.fr⟩, (fun b hb => (nomatch hb)), fun b o e => ?_, ?_, (fun _ _ _ hb => (nomatch hb)), (fun b hb => (nomatch hb)), ?_, fun b hb => ?_⟩
    · show (low G.env.locals s2.heap).objs.size ≤ c
      rw [hsz]; exact Nat.le_of_lt (S.cab x c e)
    · show (G.A.deeper G.env).frames = some (G.env :: G.outer)
      show G.A.frames.map (G.env :: ·) = _
      rw [S.frames]; rfl
    · have hb : b < G.env.locals := Nat.lt_of_lt_of_le (Heap.lt_size e) S.bsz
      refine ⟨low_of hb (W.bs b o e).1, ?_⟩
      show thaw (domOf G.env ip) H2 b = none
      have hnd : b ∉ domOf G.env ip := fun z => by
        obtain ⟨q, hq⟩ := hx b z
        rw [(W.bs b o e).2] at hq; cases hq
      rw [thaw_out hnd]; exact (W.bs b o e).2
    · show G.base.objs.size ≤ (low G.env.locals s2.heap).objs.size
      rw [hsz]; exact S.bsz
    · exact low_funs S.frl W.funs
    · show thaw (domOf G.env ip) H2 b = none
      have hnd : b ∉ domOf G.env ip := fun z => by
        obtain ⟨q, hq⟩ := hx b z
        rw [W.frf b hb] at hq; cases hq
      rw [thaw_out hnd]; exact W.frf b hb
  · exact Un.kept low_keep
  · have hp' : p ∈ ip := hp
    obtain ⟨h1, h2, h3, h4⟩ := n2.pin p hp'
    exact ⟨h1, thaw_in (dom_pin hp'), h2, h3, h4⟩
end GN

set_option Elab.async false
set_option linter.all false
set_option maxRecDepth 100000
set_option maxHeartbeats 4000000
/-! Statements of a generator's body, turn by turn. -/
namespace GN
open PySem PyProof.Rows L2 GenW

/-- what the consumer wants: of the j-th thing that comes, of the end, of an error (in the first turn) -/
structure Wish where
  yl : Nat → V → Hp → Prop
  fin : Nat → Hp → Prop
  ex : XK
/-- an error that leaves: the generator's own object stands -/
def Wish.exAt (W : Wish) (G : Ins) : XK := fun cls d H => H G.a = some (exO G.a G.go) ∧ W.ex cls d H
def Turn (M : Model) (A : Around) (x : GenState) (s : Shared) (Φ : End → Shared → Prop) : Prop :=
  match x with
  | .fresh c => Sg M A Φ c (M.den c) [] s
  | .suspended k _ c _ fs _ => Sg M A Φ c (k (.send .none)) fs s
  | _ => False
abbrev Rec := Nat → (Addr → Prop) → Hp → Array GenState → GenState → Prop
/-- a turn's end -/
def Post (G : Ins) (W : Wish) (rec : Rec) (j : Nat) (own : Addr → Prop) (Hw : Hp) (sw : Shared) : End → Shared → Prop
  | .ret (.ok f), s1 => f = .ret .none ∧ ∃ H1, Over G own Hw sw H1 s1 ∧ W.fin j H1
  | .ret (.error e), s1 => ∃ dom, (∀ b ∈ dom, G.env.locals ≤ b ∧ ∃ o, Hw b = some (exO b o)) ∧ CX G.P G.w G.outer (thaw dom Hw) (lowS G.env.locals sw) (W.exAt G) e s1 ∧ SleepLow G.g sw.gens s1.gens
  | .susp v g l k c p fs, s1 => (End.susp v g l k c p fs).quiet = true ∧ ∃ x own' H1, RelV x v ∧ Over G own Hw sw H1 s1 ∧ (∀ b, own' b → own b ∨ Hw b = none) ∧ (∀ b, own' b → H1 b ≠ none) ∧
      W.yl j x H1 ∧ rec (j + 1) own' H1 s1.gens (End.susp v g l k c p fs).genState
/-- it sleeps, m things may still come -/
def Nxt (G : Ins) (W : Wish) : Nat → Rec
  | 0 => fun _ _ _ _ _ => True
  | m + 1 => fun j own H gs x => ∀ H2 s2, Wk G own H gs H2 s2 → Turn (model G.P G.w) G.A x (s2.setGen G.g .running) (Post G W (Nxt G W m) j own H2 (s2.setGen G.g .running))
def ownOf (dom : List Addr) (pv : Addr → Prop) (b : Addr) : Prop := b ∈ dom ∨ pv b

/-- amid a turn -/
structure RS (G : Ins) (W : Wish) (ip : List (Addr × Obj)) (snap : Array GenState) (Hw : Hp) (sw : Shared) (dom : List Addr) (σ : L2.St) (H : Hp) (s : Shared) : Prop where
  inv : Inv (G.X (W.exAt G) (lowS G.env.locals sw) (thaw dom Hw)) ip σ H s
  dm : ∀ b ∈ dom, G.env.locals ≤ b ∧ ∃ o, Hw b = some (exO b o)
  dl : ∀ b ∈ domOf G.env [], b ∈ dom
  ipn : ∀ p ∈ ip, G.env.locals ≤ p.1
  slp : SleepLow G.g sw.gens s.gens
  snp : SleepBut G.g snap s.gens
  lsz : G.env.locals ≤ sw.heap.objs.size
  gl : G.g < sw.gens.size
/-- what is wanted behind a statement -/
structure D2 where
  nx : Nat → (Addr → Prop) → Hp → L2.St → Hp → Prop
  rt : Nat → (Addr → Prop) → Hp → V → Hp → Prop
  bk : Nat → (Addr → Prop) → Hp → L2.St → Hp → Prop := fun _ _ _ _ _ => False
  ct : Nat → (Addr → Prop) → Hp → L2.St → Hp → Prop := fun _ _ _ _ _ => False
def D2.at (D : D2) (j : Nat) (pv : Addr → Prop) (Hr : Hp) : Ends := { nx := D.nx j pv Hr, rt := D.rt j pv Hr, bk := D.bk j pv Hr, ct := D.ct j pv Hr }
abbrev TG2 := D2 → Nat → (Addr → Prop) → Hp → L2.St → Hp → Prop
def Go2 (G : Ins) (W : Wish) (ip : List (Addr × Obj)) (snap : Array GenState) (D : D2) (m j : Nat) (pv : Addr → Prop) (Hw : Hp) (sw : Shared) (dom : List Addr) (f : Flow) (s : Shared) : Prop :=
  match f with
  | .next => ∃ σ H, RS G W ip snap Hw sw dom σ H s ∧ D.nx j pv (thaw dom Hw) σ H
  | .brk => ∃ σ H, RS G W ip snap Hw sw dom σ H s ∧ D.bk j pv (thaw dom Hw) σ H
  | .cont => ∃ σ H, RS G W ip snap Hw sw dom σ H s ∧ D.ct j pv (thaw dom Hw) σ H
  | .ret u => ∃ v σ H, RS G W ip snap Hw sw dom σ H s ∧ RelV v u ∧ D.rt j pv (thaw dom Hw) v H
structure Pos2 (G : Ins) (c : Code) (fs : List Frame) (gd : Bool → Bool) : Prop where
  over : G.A.over c fs = G.A.deeper G.env
  split : splitAtGen fs = none
  guard : fs.any Frame.guarded = false
  gd : gd false = false
def Cont (G : Ins) (W : Wish) (ip : List (Addr × Obj)) (snap : Array GenState) (D : D2) (c : Code) (fs : List Frame) (K : Flow → Sem PySem.Fin) : Prop :=
  ∀ m j pv Hw sw dom f s, Go2 G W ip snap D m j pv Hw sw dom f s → Sg (model G.P G.w) G.A (Post G W (Nxt G W m) j (ownOf dom pv) Hw sw) c (K f) fs s
structure GS2 (G : Ins) (W : Wish) (st : Stmt) (t : TG2) : Prop where
  run : ∀ (c : Code) (fs : List Frame) (gd : Bool → Bool) (K : Flow → Sem PySem.Fin) (J : Value → Sem PySem.Fin) (lv : List Value → List Value) (ip : List (Addr × Obj)) (snap : Array GenState) (D : D2), Pos2 G c fs gd → Cont G W ip snap D c fs K →
    ∀ m j pv Hw sw dom σ H s, RS G W ip snap Hw sw dom σ H s → t D j pv (thaw dom Hw) σ H →
      Sg (model G.P G.w) G.A (Post G W (Nxt G W m) j (ownOf dom pv) Hw sw) c ((exec st G.env).wrap K J gd lv) fs s
structure GSs2 (G : Ins) (W : Wish) (sts : List Stmt) (t : TG2) : Prop where
  run : ∀ (c : Code) (fs : List Frame) (gd : Bool → Bool) (K : Flow → Sem PySem.Fin) (J : Value → Sem PySem.Fin) (lv : List Value → List Value) (ip : List (Addr × Obj)) (snap : Array GenState) (D : D2), Pos2 G c fs gd → Cont G W ip snap D c fs K →
    ∀ m j pv Hw sw dom σ H s, RS G W ip snap Hw sw dom σ H s → t D j pv (thaw dom Hw) σ H →
      Sg (model G.P G.w) G.A (Post G W (Nxt G W m) j (ownOf dom pv) Hw sw) c ((execs sts G.env).wrap K J gd lv) fs s

/-! ### the invariant and the table of generators -/
theorem inv_gens {X : Cx} {ip : List (Addr × Obj)} {σ : L2.St} {H : Hp} {s : Shared} (I : Inv X ip σ H s) {g' : Array GenState} (h : AllBare g') : Inv X ip σ H { s with gens := g' } :=
  ⟨I.ok, I.os, h, I.base, I.loc, I.cell, I.free, I.freeC, I.pin, I.hok, I.len⟩
theorem inv_true {X : Cx} {ip : List (Addr × Obj)} {σ : L2.St} {H : Hp} {s : Shared} {Gs a : Array GenState} (L : Lk Gs a s.gens) (I : Inv X ip σ H { s with gens := a }) : Inv X ip σ H s :=
  inv_gens (s := { s with gens := a }) I (g' := s.gens) (L.bare I.bare)
/-- from the heap's view alone to the true state: what the layer shows of an expression, with the sleepers kept -/
theorem framed {X : Cx} {α : Type} {t : Sem α} {Q Q' : α → Shared → Prop} {s : Shared} {ip : List (Addr × Obj)} {σ : L2.St} {H : Hp} (I : Inv X ip σ H s) (h : ∀ s', Inv X.nox ip σ H s' → wpAny (model X.prog X.w) X.A t Q noE s')
    (hQ : ∀ a s' Gs, Lk s.gens Gs s'.gens → Q a { s' with gens := Gs } → Q' a s') : wpAny (model X.prog X.w) X.A t Q' noE s :=
  wpAny_mono (wpAny_frame (h _ (inv_gens (I.wish noE) (allBare_map I.bare)))) (fun a s' ⟨Gs, L, q⟩ => hQ a s' Gs L q) fun _ _ ⟨_, _, q⟩ => q

section
variable {G : Ins} {W : Wish} {st : Stmt} {rest : List Stmt} {ip : List (Addr × Obj)} {snap : Array GenState} {m j : Nat} {Hw H H1 : Hp} {sw s s1 : Shared} {dom : List Addr} {σ σ1 : L2.St}
theorem RS.to (R : RS G W ip snap Hw sw dom σ H s) (I : Inv (G.X (W.exAt G) (lowS G.env.locals sw) (thaw dom Hw)) ip σ1 H1 s1) (x : SleepOn s.gens s1.gens) : RS G W ip snap Hw sw dom σ1 H1 s1 :=
  ⟨I, R.dm, R.dl, R.ipn, R.slp.trans x.lowg, R.snp.trans x.but, R.lsz, R.gl⟩
def tP2 (t : TS) : TG2 := fun D j pv Hr σ H => t (D.at j pv Hr) σ H
theorem sp_go {D : D2} {f : Flow} {pv : Addr → Prop} {Gs : Array GenState} (R : RS G W ip snap Hw sw dom σ H s) (L : Lk s.gens Gs s1.gens)
    (h : SP (G.X (W.exAt G) (lowS G.env.locals sw) (thaw dom Hw)).nox ip (D.at j pv (thaw dom Hw)) f { s1 with gens := Gs }) : Go2 G W ip snap D m j pv Hw sw dom f s1 := by
  cases f with
  | next => obtain ⟨σ', H', I, q⟩ := h; exact ⟨σ', H', R.to (inv_true L I.unwish) L.on, q⟩
  | brk => obtain ⟨σ', H', I, q⟩ := h; exact ⟨σ', H', R.to (inv_true L I.unwish) L.on, q⟩
  | cont => obtain ⟨σ', H', I, q⟩ := h; exact ⟨σ', H', R.to (inv_true L I.unwish) L.on, q⟩
  | ret u => obtain ⟨v, σ', H', I, r, q⟩ := h; exact ⟨v, σ', H', R.to (inv_true L I.unwish) L.on, r, q⟩
/-- a statement that hands out nothing -/
theorem gs2_ps {t : TS} (h : ∀ s0 H0, PS (G.X (W.exAt G) s0 H0).nox st t) : GS2 G W st (tP2 t) := by
  refine ⟨fun c fs gd K J lv ip snap D p k m j pv Hw sw dom σ H s R ht => sg_wrap ?_⟩
  rw [p.over]
  exact framed R.inv (fun s' I => (h _ _).run ip s' σ H (D.at j pv (thaw dom Hw)) I ht) fun f s' Gs L q => k m j pv Hw sw dom f s' (sp_go R L q)
theorem gss2_pss {t : TS} (h : ∀ s0 H0, PSs (G.X (W.exAt G) s0 H0).nox rest t) : GSs2 G W rest (tP2 t) := by
  refine ⟨fun c fs gd K J lv ip snap D p k m j pv Hw sw dom σ H s R ht => sg_wrap ?_⟩
  rw [p.over]
  exact framed R.inv (fun s' I => (h _ _).run ip s' σ H (D.at j pv (thaw dom Hw)) I ht) fun f s' Gs L q => k m j pv Hw sw dom f s' (sp_go R L q)
def tN2 : TG2 := fun D j pv Hr σ H => D.nx j pv Hr σ H
theorem gss2_nil : GSs2 G W [] tN2 :=
  ⟨fun c fs gd K J lv ip snap D p k m j pv Hw sw dom σ H s R ht => sg_nil (k m j pv Hw sw dom .next s ⟨σ, H, R, ht⟩)⟩
def tC2 (t u : TG2) : TG2 := fun D => t { D with nx := u D }
theorem gss2_cons {t u : TG2} (a : GS2 G W st t) (b : GSs2 G W rest u) : GSs2 G W (st :: rest) (tC2 t u) := by
  refine ⟨fun c fs gd K J lv ip snap D p k m j pv Hw sw dom σ H s R ht => sg_cons ?_⟩
  refine a.run c fs gd _ J lv ip snap { D with nx := u D } p (fun m j pv Hw sw dom f s hg => ?_) m j pv Hw sw dom σ H s R ht
  cases f with
  | next =>
    obtain ⟨σ', H', R', q⟩ := hg
    exact b.run c fs gd K J lv ip snap D p k m j pv Hw sw dom σ' H' s R' q
  | brk => exact k m j pv Hw sw dom .brk s hg
  | cont => exact k m j pv Hw sw dom .cont s hg
  | ret u => exact k m j pv Hw sw dom (.ret u) s hg
theorem gss2_one {t : TG2} (a : GS2 G W st t) : GSs2 G W [st] (tC2 t tN2) := gss2_cons a gss2_nil
/-- a test, framed -/
theorem test2 {e : Expr} {tc : TT} {Q : Bool → Hp → Prop} {Q' : Bool → Shared → Prop} (h : PT (G.X (W.exAt G) (lowS G.env.locals sw) (thaw dom Hw)).nox e tc) (R : RS G W ip snap Hw sw dom σ H s) (ht : tc σ H Q) (hQ : ∀ b H1 s1, RS G W ip snap Hw sw dom σ H1 s1 → Q b H1 → Q' b s1) :
    wpAny (model G.P G.w) (G.A.deeper G.env) (isTrue e G.env (eval e G.env)) Q' noE s :=
  framed R.inv (fun s' I => h.run ip s' σ H Q I ht) fun b s1 Gs L ⟨H1, I, q⟩ => hQ b H1 s1 (R.to (inv_true L I.unwish) L.on) q
def tI2 (tc : TT) (t u : TG2) : TG2 := fun D j pv Hr σ H => tc σ H fun b H1 => if b = true then t D j pv Hr σ H1 else u D j pv Hr σ H1
theorem gs2_if {e : Expr} {a b : List Stmt} {pos : Pos} {tc : TT} {t u : TG2} (hc : ∀ s0 H0, PT (G.X (W.exAt G) s0 H0).nox e tc) (ha : GSs2 G W a t) (hb : GSs2 G W b u) : GS2 G W (.If e a b pos) (tI2 tc t u) := by
  refine ⟨fun c fs gd K J lv ip snap D p k m j pv Hw sw dom σ H s R ht => sg_If ?_⟩
  rw [p.over]
  refine test2 (hc _ _) R ht fun b H1 s1 R1 q => ?_
  cases b with
  | true => exact ha.run c fs gd K J lv ip snap D p k m j pv Hw sw dom σ H1 s1 R1 (by rw [if_pos rfl] at q; exact q)
  | false => exact hb.run c fs gd K J lv ip snap D p k m j pv Hw sw dom σ H1 s1 R1 (by rw [if_neg Bool.false_ne_true] at q; exact q)
/-- a loop's code over the frame that it came from -/
theorem Pos2.loop {c c' : Code} {fs : List Frame} {gd : Bool → Bool} {K : Flow → Sem PySem.Fin} {J : Value → Sem PySem.Fin} {lv : List Value → List Value} {p : Pos} (x : Pos2 G c fs gd) (hw : c'.weight = 0) (hu : c'.cUnits = 0) :
    Pos2 G c' (loopFs G.env K J gd lv c fs p) id where
  over := (over_loop hw hu).trans x.over
  split := split_ret.mpr x.split
  guard := by
    show (gd false || fs.any Frame.guarded) = false
    rw [x.gd, x.guard]; rfl
  gd := rfl
/-- I: what holds ahead of each test, by a measure -/
def tW2 (tc : TT) (tb : TG2) : TG2 := fun D j pv Hr σ H => ∃ I : Nat → Nat → (Addr → Prop) → Hp → L2.St → Hp → Prop, (∃ n, I n j pv Hr σ H) ∧ ∀ n j pv Hr σ H, I n j pv Hr σ H →
  tc σ H fun b H1 => if b = true then tb { D with nx := fun j pv Hr σ H => ∃ n', n' < n ∧ I n' j pv Hr σ H, ct := fun j pv Hr σ H => ∃ n', n' < n ∧ I n' j pv Hr σ H, bk := D.nx } j pv Hr σ H1 else D.nx j pv Hr σ H1
theorem gs2_while {e : Expr} {body : List Stmt} {pos : Pos} {tc : TT} {tb : TG2} (hc : ∀ s0 H0, PT (G.X (W.exAt G) s0 H0).nox e tc) (hb : GSs2 G W body tb) : GS2 G W (.While e body [] pos) (tW2 tc tb) := by
  refine ⟨fun c fs gd K J lv ip snap D p k m j pv Hw sw dom σ H s R ht => sg_While fun pp => ?_⟩
  obtain ⟨I, ⟨n0, i0⟩, turn⟩ := ht
  have p' := p.loop (c' := .whileLoop e body [] G.env) (K := K) (J := J) (lv := lv) (p := pp) rfl rfl
  have loop : ∀ (n m j : Nat) (pv : Addr → Prop) (Hw : Hp) (sw : Shared) (dom : List Addr) (σ : L2.St) (H : Hp) (s : Shared), RS G W ip snap Hw sw dom σ H s → I n j pv (thaw dom Hw) σ H →
      Sg (model G.P G.w) G.A (Post G W (Nxt G W m) j (ownOf dom pv) Hw sw) (.whileLoop e body [] G.env) ((model G.P G.w).den (.whileLoop e body [] G.env)) (loopFs G.env K J gd lv c fs pp) s := by
    intro n
    induction n using Nat.strongRecOn with
    | ind n ih =>
      intro m j pv Hw sw dom σ H s R hi
      refine sg_whileTurn ?_
      rw [p'.over]
      refine test2 (hc _ _) R (turn n j pv (thaw dom Hw) σ H hi) fun b H1 s1 R1 q => ?_
      cases b with
      | true =>
        rw [if_pos rfl] at q ⊢
        refine hb.run _ _ id _ _ id ip snap _ p' (fun m j pv Hw sw dom f s hg => ?_) m j pv Hw sw dom σ H1 s1 R1 q
        cases f with
        | next => obtain ⟨σ', H', R', n', hn, hi'⟩ := hg; exact sg_again rfl (ih n' hn m j pv Hw sw dom σ' H' s R' hi')
        | cont => obtain ⟨σ', H', R', n', hn, hi'⟩ := hg; exact sg_again rfl (ih n' hn m j pv Hw sw dom σ' H' s R' hi')
        | brk => exact sg_done (k m j pv Hw sw dom .next s hg)
        | ret v => exact sg_done (k m j pv Hw sw dom (.ret v) s hg)
      | false =>
        rw [if_neg Bool.false_ne_true] at q ⊢
        exact sg_done (k m j pv Hw sw dom .next s1 ⟨σ, H1, R1, q⟩)
  exact loop n0 m j pv Hw sw dom σ H s R i0

/-! ### yield -/
/-- pv': what is the generator's own from here on; it stands when it is woken, and so do tuples -/
def tY2 (W : Wish) (te : TE) : TG2 := fun D j pv Hr σ H => te σ H fun x H1 => ∃ pv' : Addr → Prop, (∀ b, pv' b → pv b ∨ Hr b = none) ∧ (∀ b, pv' b → H1 b ≠ none) ∧ (∀ b o, Hr b = some o → ¬ pv b → H1 b = some o) ∧
  W.yl j x H1 ∧ ∀ H2 : Hp, (∀ b, pv' b → H2 b = H1 b) → (∀ b xs, H1 b = some (.tup xs) → H2 b = some (.tup xs)) → D.nx (j + 1) pv' H2 σ H2
theorem yielded {D : D2} {c : Code} {fs : List Frame} {gd : Bool → Bool} {K : Flow → Sem PySem.Fin} {pv : Addr → Prop} {x : V} {v : Value} {l : List Value} {kk : Resume → Sem PySem.Fin} {p : Pos} (S : Sta G) (hc : CellsOk G.env) (P : Pos2 G c fs gd) (k : Cont G W ip snap D c fs K)
    (R : RS G W ip snap Hw sw dom σ H1 s1) (rv : RelV x v) (hk : kk (.send .none) = K .next) {pv' : Addr → Prop} (h1 : ∀ b, pv' b → pv b ∨ thaw dom Hw b = none) (h2 : ∀ b, pv' b → H1 b ≠ none) (h3 : ∀ b o, thaw dom Hw b = some o → ¬ pv b → H1 b = some o)
    (h4 : W.yl j x H1) (hW : ∀ (H H' : Hp), W.yl j x H → (∀ b o, H b = some o → H' b = some o) → W.yl j x H') (h5 : ∀ H2 : Hp, (∀ b, pv' b → H2 b = H1 b) → (∀ b xs, H1 b = some (.tup xs) → H2 b = some (.tup xs)) → D.nx (j + 1) pv' H2 σ H2) :
    Post G W (Nxt G W m) j (ownOf dom pv) Hw sw (.susp v (gd false) l kk c p fs) s1 := by
  have n1 : Nap G.env G.N (frs G.outer) ip σ s1.heap := Nap.of rfl R.inv
  have hnone : ∀ b ∈ domOf G.env ip, H1 b = none := fun b hb => by
    rcases List.mem_cons.mp hb with z | z
    · rw [z]; exact R.inv.free
    · rcases List.mem_append.mp z with z | z
      · obtain ⟨y, e⟩ := hc b z
        exact R.inv.freeC y b e
      · obtain ⟨q, hq, e⟩ := List.mem_map.mp z
        rw [← e]; exact (R.inv.pin q (List.mem_append_right _ hq)).2.1
  have hge : ∀ b ∈ domOf G.env ip, G.env.locals ≤ b := fun b hb => by
    rcases List.mem_cons.mp hb with z | z
    · rw [z]; exact Nat.le_refl _
    · rcases List.mem_append.mp z with z | z
      · obtain ⟨y, e⟩ := hc b z
        exact Nat.le_of_lt (S.cab y b e)
      · obtain ⟨q, hq, e⟩ := List.mem_map.mp z
        rw [← e]; exact R.ipn q hq
  have hth : ∀ b ∈ domOf G.env ip, ∃ o, s1.heap.get? b = some o := n1.there hc
  have out : ∀ {b : Addr} {o : HO}, H1 b = some o → b ∉ domOf G.env ip := fun {b o} e z => by rw [hnone b z] at e; cases e
  have thn' : ∀ {b : Addr} {o : HO}, Hw b = some o → (∀ q, o ≠ exO b q) → thaw dom Hw b = some o := fun {b o} e ne => by
    rw [thaw_out fun z => ?_]; exact e
    obtain ⟨q, hq⟩ := (R.dm b z).2
    rw [e] at hq
    exact ne q (Option.some.inj hq)
  have B := R.inv.base
  refine ⟨by show (!(gd false || fs.any Frame.guarded)) = true; rw [P.gd, P.guard]; rfl, x, ownOf (domOf G.env ip) pv', frze (domOf G.env ip) s1.heap H1, rv, ⟨R.inv.os, R.inv.bare, ⟨?_, ?_, ?_, B.there, ?_, ?_, ?_⟩, frze_ok R.inv.hok fun b hb => ⟨hnone b hb, hth b hb⟩, ?_, R.slp⟩, ?_, ?_, ?_, ?_⟩
  · intro b o e n hb hx
    exact B.keep b o e (show thaw dom Hw b = none by unfold thaw; split <;> first | rfl | exact n) hb hx
  · intro b o e n hb hx
    exact B.slot b o e (show thaw dom Hw b = none by unfold thaw; split <;> first | rfl | exact n) hb hx
  · intro b o e n hx
    have q := B.free b o e (show thaw dom Hw b = none by unfold thaw; split <;> first | rfl | exact n) hx
    rw [frze_out fun z => absurd (low_some e).1 (Nat.not_lt.mpr (hge b z))]
    exact q
  · intro b xs e
    have q := B.tups b xs (thn' e fun q z => exO_tup z.symm)
    rw [frze_out (out q)]; exact q
  · intro b o u e
    have q := B.frzs b o u (thn' e fun q z => by cases z)
    rw [frze_out (out q)]; exact q
  · intro b ps e
    obtain ⟨more, q⟩ := B.tbls b ps (thn' e fun q z => by cases z)
    exact ⟨more, by rw [frze_out (out q)]; exact q⟩
  · intro b o e hn
    have q := h3 b o (by rw [thaw_out fun z => hn (.inl z)]; exact e) fun z => hn (.inr z)
    rw [frze_out (out q)]; exact q
  · intro b hb
    have key : (∀ q, thaw dom Hw b = some q → pv b) → ownOf dom pv b ∨ Hw b = none := fun hq => by
      by_cases hd : b ∈ dom
      · exact .inl (.inl hd)
      · cases e : Hw b with
        | none => exact .inr rfl
        | some o => exact .inl (.inr (hq o (by rw [thaw_out hd]; exact e)))
    rcases hb with hb | hb
    · refine key fun q hq => ?_
      refine Classical.byContradiction fun np => ?_
      have := h3 b q hq np
      rw [hnone b hb] at this; cases this
    · refine key fun q hq => ?_
      rcases h1 b hb with z | z
      · exact z
      · rw [z] at hq; cases hq
  · intro b hb e
    by_cases hd : b ∈ domOf G.env ip
    · obtain ⟨o, ho⟩ := hth b hd
      rw [frze_in hd ho] at e; cases e
    · rw [frze_out hd] at e
      rcases hb with hb | hb
      · exact hd hb
      · exact h2 b hb e
  · exact hW H1 _ h4 fun b o e => by rw [frze_out (out e)]; exact e
  · cases m with
    | zero => trivial
    | succ m =>
      intro H2 s2 Wk2
      have hfz : ∀ b ∈ domOf G.env ip, ownOf (domOf G.env ip) pv' b ∧ ∀ o, s1.heap.get? b = some o → frze (domOf G.env ip) s1.heap H1 b = some (exO b o) := fun b hb => ⟨.inl hb, fun o e => frze_in hb e⟩
      obtain ⟨I2, hx2⟩ := inv_wake (E := W.exAt G) S n1 hc hfz Wk2
      show Sg (model G.P G.w) G.A _ c (kk (.send .none)) fs _
      rw [hk]
      refine k m (j + 1) pv' H2 (s2.setGen G.g .running) (domOf G.env ip) .next (s2.setGen G.g .running) ⟨σ, thaw (domOf G.env ip) H2, ⟨I2, fun b hb => ⟨hge b hb, hx2 b hb⟩, fun b hb => ?_, R.ipn, SleepLow.refl, (R.snp.trans Wk2.slp).trans SleepBut.set, Nat.le_of_lt I2.lt, by show G.g < (s2.gens.setIfInBounds G.g .running).size; rw [Array.size_setIfInBounds]; exact Wk2.tab⟩, ?_⟩
      · rcases List.mem_cons.mp hb with z | z
        · rw [z]; exact dom_loc
        · rcases List.mem_append.mp z with z | z
          · exact List.mem_cons_of_mem _ (List.mem_append_left _ z)
          · cases z
      · refine h5 _ (fun b hb => ?_) fun b xs e => ?_
        · have hd : b ∉ domOf G.env ip := fun z => h2 b hb (hnone b z)
          rw [thaw_out hd, Wk2.own b (.inr hb), frze_out hd]
        · have hd := out e
          rw [thaw_out hd]
          exact Wk2.tups b xs (by rw [frze_out hd]; exact e)
theorem gs2_yield {e : Expr} {yp pos : Pos} {te : TE} (S : Sta G) (hc : CellsOk G.env) (hW : ∀ j x (H H' : Hp), W.yl j x H → (∀ b o, H b = some o → H' b = some o) → W.yl j x H') (he : ∀ s0 H0, PE (G.X (W.exAt G) s0 H0).nox e te) :
    GS2 G W (.Expr (.Yield (some e) yp) pos) (tY2 W te) := by
  refine ⟨fun c fs gd K J lv ip snap D p k m j pv Hw sw dom σ H s R ht => sg_Yield p.split R.inv.quiet S.co ?_⟩
  rw [p.over]
  refine framed R.inv (fun s' I => (he _ _).run ip s' σ H _ I ht) fun v s1 Gs L ⟨x, H1, I, rv, pv', h1, h2, h3, h4, h5⟩ pp kk l hk => ?_
  exact yielded S hc p k (R.to (inv_true L I.unwish) L.on) rv (hk .none fun a q => by cases q) h1 h2 h3 h4 (hW j x) h5
end
end GN

set_option Elab.async false
set_option linter.all false
set_option maxRecDepth 100000
set_option maxHeartbeats 4000000
/-! for in a generator's body. -/
namespace GN
open PySem PyProof.Rows L2 GenW

theorem framedL {M : Model} {A : Around} {α : Type} {t : Sem α} {Q Q' : α → Shared → Prop} {s : Shared} {G0 Gs : Array GenState} (L : Lk G0 Gs s.gens) (h : wpAny M A t Q noE { s with gens := Gs })
    (hQ : ∀ a s' Gs', Lk G0 Gs' s'.gens → Q a { s' with gens := Gs' } → Q' a s') : wpAny M A t Q' noE s := fun Γ p hΓ =>
  Sem.wp_mono M Γ t (fun a _ s' ⟨Gs', L', q⟩ => hQ a s' Gs' L' q) (fun _ _ _ ⟨_, _, q⟩ => q) _ _ (wp_frame t _ _ p { s with gens := Gs } s.gens L (h Γ p hΓ))

theorem framedH {X : Cx} {α : Type} {t : Sem α} {Q Q' : α → Shared → Prop} {s : Shared} {ip : List (Addr × Obj)} {σ : L2.St} {H : Hp} (I : Inv X ip σ H s)
    (h : Inv X.nox ip σ H { s with gens := s.gens.map poison } → wpAny (model X.prog X.w) X.A t Q noE { s with gens := s.gens.map poison })
    (hQ : ∀ a s' Gs, Lk s.gens Gs s'.gens → Q a { s' with gens := Gs } → Q' a s') : wpAny (model X.prog X.w) X.A t Q' noE s :=
  framedL (Lk.start s.gens) (h (inv_gens (I.wish noE) (allBare_map I.bare))) hQ

section
variable {G : Ins} {W : Wish} {ip : List (Addr × Obj)} {Hw H H1 : Hp} {sw s s1 : Shared} {dom : List Addr} {σ σ1 : L2.St}
/-- the loop: I by the turn and a measure -/
def tL2 (J : It) (g : TG) (tb : TG2) : TG2 := fun D j pv Hr σ H => ∃ I : Nat → Nat → Nat → (Addr → Prop) → Hp → L2.St → Hp → Prop, (∃ n, I 0 n j pv Hr σ H) ∧ ∀ i n j pv Hr σ H, I i n j pv Hr σ H →
  (J.stop i H ∧ D.nx j pv Hr σ H) ∨ (J.go i H ∧ ∀ x H', J.yld i H x H' → g x σ H' fun σ2 H2 =>
    tb { D with nx := fun j pv Hr σ H => ∃ n', n' < n ∧ I (i + 1) n' j pv Hr σ H, ct := fun j pv Hr σ H => ∃ n', n' < n ∧ I (i + 1) n' j pv Hr σ H, bk := D.nx } j pv Hr σ2 H2)
def tF2 (wi : TI) (g : TG) (tb : TG2) : TG2 := fun D j pv Hr σ H => wi σ H fun J H1 => tL2 J g tb D j pv Hr σ H1
/-- how an iterator's records stand to the frame -/
def FpSt (G : Ins) (ip : List (Addr × Obj)) (b : Addr) : Prop := b ≠ G.env.locals ∧ b ∉ frs G.outer ∧ G.env.locals ≤ b ∧ (∀ x c, G.env.cells.lookup x = some c → c ≠ b) ∧ ∀ p ∈ ip, p.1 ≠ b
theorem FpSt.ok {E : XK} {H0 : Hp} {b : Addr} (f : FpSt G ip b) (hl : (lowS G.env.locals sw).heap.objs.size ≤ G.env.locals) (hn : H b = none) : FpOk ((G.X E (lowS G.env.locals sw) H0).nox) ip H b :=
  ⟨hn, f.1, f.2.1, .inr (Nat.le_trans hl f.2.2.1), f.2.2.2.1, fun p hp => f.2.2.2.2 p (by simpa [Ins.X] using hp)⟩
theorem FpSt.of {E : XK} {H0 : Hp} {b : Addr} (f : FpOk ((G.X E (lowS G.env.locals sw) H0).nox) ip H b) (hl : G.env.locals ≤ sw.heap.objs.size) : FpSt G ip b := by
  obtain ⟨_, f1, f2, f3, f4, f5⟩ := f
  refine ⟨f1, f2, ?_, f4, fun p hp => f5 p (List.mem_append_right _ hp)⟩
  rcases f3 with z | z
  · cases z
  · have q : (low G.env.locals sw.heap).objs.size = G.env.locals := low_size hl
    exact Nat.le_trans (Nat.le_of_eq q.symm) z
theorem gs2_for {tg iter : Expr} {body : List Stmt} {wi : TI} {g : TG} {tb : TG2} {pos : Pos} (hi : ∀ s0 H0, PI (G.X (W.exAt G) s0 H0).nox tg iter wi) (hg : ∀ s0 H0, PG (G.X (W.exAt G) s0 H0).nox tg g) (hb : GSs2 G W body tb)
    (hs : ∀ x, foldedSetIterable iter G.env x = pure x := by intro _; rfl) : GS2 G W (.For tg iter body [] pos) (tF2 wi g tb) := by
  refine ⟨fun c fs gd K J lv ip snap D p k m j pv Hw sw dom σ H s R ht => sg_For hs ?_⟩
  rw [p.over]
  refine framed R.inv (fun s' I => (hi _ _).run ip s' σ H _ I ht) fun v s1 Gs L q1 => ?_
  refine framedL L q1 fun itv s2 Gs2 M2 q2 pp => ?_
  obtain ⟨it, fp, tn, JJ, H2, rfl, I2, T, st2, f2, q2⟩ := q2
  have p' := p.loop (c' := .forLoop tg (.ref it) body [] G.env) (K := K) (J := J) (lv := lv) (p := pp) rfl rfl
  have R2 : RS G W ip snap Hw sw dom σ H2 s2 := R.to (inv_true M2 I2.unwish) M2.on
  obtain ⟨I, ⟨n0, i0⟩, turn⟩ := q2
  have fst : ∀ b ∈ fp, FpSt G ip b := fun b hb => FpSt.of (f2 b hb) R.lsz
  have loop : ∀ (n i m j : Nat) (pv : Addr → Prop) (Hw : Hp) (sw : Shared) (dom : List Addr) (σ : L2.St) (H : Hp) (s : Shared), RS G W ip snap Hw sw dom σ H s → tn i s.heap → (∀ b ∈ fp, H b = none) → I i n j pv (thaw dom Hw) σ H →
      Sg (model G.P G.w) G.A (Post G W (Nxt G W m) j (ownOf dom pv) Hw sw) (.forLoop tg (.ref it) body [] G.env) ((model G.P G.w).den (.forLoop tg (.ref it) body [] G.env)) (loopFs G.env K J gd lv c fs pp) s := by
    intro n
    induction n using Nat.strongRecOn with
    | ind n ih =>
      intro i m j pv Hw sw dom σ H s R st3 fr3 hi
      have hl := R.inv.ok.above
      refine sg_forTurn ?_
      rw [p'.over]
      rcases turn i n j pv (thaw dom Hw) σ H hi with ⟨stop, qn⟩ | ⟨go, step⟩
      · refine framedH R.inv (fun I' => T.done (G.X (W.exAt G) (lowS G.env.locals sw) (thaw dom Hw)).nox rfl rfl rfl rfl i ip _ σ H noE I' (fun b hb => (fst b hb).ok hl (fr3 b hb)) st3 stop) fun r s4 Gs4 M4 q4 => ?_
        obtain ⟨rfl, I4⟩ := q4
        intro c'
        exact sg_done (k m j pv Hw sw dom .next s4 ⟨σ, H, R.to (inv_true M4 I4.unwish) M4.on, qn⟩)
      · refine framedH R.inv (fun I' => T.item (G.X (W.exAt G) (lowS G.env.locals sw) (thaw dom Hw)).nox rfl rfl rfl rfl i ip _ σ H noE I' (fun b hb => (fst b hb).ok hl (fr3 b hb)) st3 go) fun r s4 Gs4 M4 q4 => ?_
        obtain ⟨u, rfl, q4⟩ := q4
        refine framedL M4 q4 fun _ s5 Gs5 M5 q5 => ?_
        obtain ⟨x, H5, I5, r5, y5, st5, fr5⟩ := q5
        have I5' := I5.pinned (fun b hb => (fst b hb).ok hl (fr5 b hb)) (T.obj _ _ st5)
        refine framedL M5 ((hg _ _).run _ { s5 with gens := Gs5 } σ H5 x u _ I5' r5 (step x H5 y5)) fun _ s6 Gs6 M6 q6 => ?_
        obtain ⟨σ6, H6, I6, q6⟩ := q6
        have R6 : RS G W (ip ++ pinsAt fp s5.heap) snap Hw sw dom σ6 H6 s6 := by
          have z := R.to (inv_true M6 I6.unpinned.unwish) M6.on
          refine ⟨inv_true M6 I6.unwish, z.dm, z.dl, fun p hp => ?_, z.slp, z.snp, z.lsz, z.gl⟩
          rcases List.mem_append.mp hp with hp | hp
          · exact R.ipn p hp
          · exact (fst p.1 (of_pinsAt hp).1).2.2.1
        refine hb.run _ _ id _ _ id _ snap _ p' (fun m j pv Hw sw dom f s hg => ?_) m j pv Hw sw dom σ6 H6 s6 R6 q6
        have unp : ∀ {Hw : Hp} {sw : Shared} {dom : List Addr} {σ : L2.St} {H : Hp} {s : Shared}, RS G W (ip ++ pinsAt fp s5.heap) snap Hw sw dom σ H s → RS G W ip snap Hw sw dom σ H s ∧ tn (i + 1) s.heap ∧ ∀ b ∈ fp, H b = none := fun {Hw sw dom σ H s} R7 => by
          refine ⟨⟨R7.inv.unpinned, R7.dm, R7.dl, fun p hp => R7.ipn p (List.mem_append_left _ hp), R7.slp, R7.snp, R7.lsz, R7.gl⟩, T.keep _ _ _ st5 fun b hb o e => (R7.inv.pin (b, o) (List.mem_append_right _ (List.mem_append_right _ (mem_pinsAt hb e)))).1, fun b hb => ?_⟩
          obtain ⟨o, e, d⟩ := T.obj _ _ st5 b hb
          exact (R7.inv.pin (b, o) (List.mem_append_right _ (List.mem_append_right _ (mem_pinsAt hb e)))).2.1
        cases f with
        | next =>
          obtain ⟨σ', H', R', n', hn, hi'⟩ := hg
          obtain ⟨u1, u2, u3⟩ := unp R'
          exact sg_again rfl (ih n' hn (i + 1) m j pv Hw sw dom σ' H' s u1 u2 u3 hi')
        | cont =>
          obtain ⟨σ', H', R', n', hn, hi'⟩ := hg
          obtain ⟨u1, u2, u3⟩ := unp R'
          exact sg_again rfl (ih n' hn (i + 1) m j pv Hw sw dom σ' H' s u1 u2 u3 hi')
        | brk =>
          obtain ⟨σ', H', R', q⟩ := hg
          exact sg_done (k m j pv Hw sw dom .next s ⟨σ', H', (unp R').1, q⟩)
        | ret v =>
          obtain ⟨v', σ', H', R', rv, q⟩ := hg
          exact sg_done (k m j pv Hw sw dom (.ret v) s ⟨v', σ', H', (unp R').1, rv, q⟩)
  exact loop n0 0 m j pv Hw sw dom σ H2 s2 R2 st2 (fun b hb => (f2 b hb).1) i0
end
end GN

set_option Elab.async false
set_option linter.all false
set_option maxRecDepth 100000
set_option maxHeartbeats 4000000
/-! A generator def's promise, from its body. -/
namespace GN
open PySem PyProof.Rows L2 GenW

/-- behind the body of the def -/
def bodyK (f : Flow) : Sem PySem.Fin := .pure (.done (.ret (match f with | .ret v => v | _ => .none)))
def bodyJ (env : Env) (e : Value) : Sem PySem.Fin := (leaving env e).wrap (fun _ => .raise e) .raise id id
/-- the body's end -/
def endD (W : Wish) : D2 where
  nx := fun j pv Hr _ H => (∀ b o, Hr b = some o → ¬ pv b → H b = some o) ∧ W.fin j H
  rt := fun j pv Hr v H => v = .non ∧ (∀ b o, Hr b = some o → ¬ pv b → H b = some o) ∧ W.fin j H
section
variable {G : Ins} {W : Wish} {st : Stmt} {rest : List Stmt} {snap : Array GenState} {Hw H H1 : Hp} {sw s s1 : Shared} {dom : List Addr} {σ σ1 : L2.St}
theorem RS.over {j : Nat} {pv : Addr → Prop} {ip : List (Addr × Obj)} (R : RS G W ip snap Hw sw dom σ H s) (h3 : ∀ b o, thaw dom Hw b = some o → ¬ pv b → H b = some o) : Over G (ownOf dom pv) Hw sw H s := by
  have B := R.inv.base
  have thn' : ∀ {b : Addr} {o : HO}, Hw b = some o → (∀ q, o ≠ exO b q) → thaw dom Hw b = some o := fun {b o} e ne => by
    rw [thaw_out fun z => ?_]; exact e
    obtain ⟨q, hq⟩ := (R.dm b z).2
    rw [e] at hq
    exact ne q (Option.some.inj hq)
  have tn : ∀ {b : Addr}, Hw b = none → thaw dom Hw b = none := fun {b} n => by unfold thaw; split <;> first | rfl | exact n
  exact ⟨R.inv.os, R.inv.bare, ⟨fun b o e n => B.keep b o e (tn n), fun b o e n => B.slot b o e (tn n), fun b o e n => B.free b o e (tn n), B.there, fun b xs e => B.tups b xs (thn' e fun q z => exO_tup z.symm),
    fun b o u e => B.frzs b o u (thn' e fun q z => by cases z), fun b ps e => B.tbls b ps (thn' e fun q z => by cases z)⟩, R.inv.hok, fun b o e hn => h3 b o (by rw [thaw_out fun z => hn (.inl z)]; exact e) fun z => hn (.inr z), R.slp⟩
theorem end_cont {c : Code} : Cont G W [] snap (endD W) c [] bodyK := by
  intro m j pv Hw sw dom f s hg
  have fin : ∀ {σ : L2.St} {H : Hp}, RS G W [] snap Hw sw dom σ H s → (∀ b o, thaw dom Hw b = some o → ¬ pv b → H b = some o) → W.fin j H → Sg (model G.P G.w) G.A (Post G W (Nxt G W m) j (ownOf dom pv) Hw sw) c (leafOf (.ok (.ret .none))) [] s := fun {σ H} R h3 q =>
    sg_end (.ok (.ret .none)) ⟨rfl, H, R.over (j := j) h3, q⟩
  cases f with
  | next => obtain ⟨σ, H, R, h3, q⟩ := hg; exact fin R h3 q
  | brk => obtain ⟨_, _, _, q⟩ := hg; exact q.elim
  | cont => obtain ⟨_, _, _, q⟩ := hg; exact q.elim
  | ret u =>
    obtain ⟨v, σ, H, R, rv, ev, h3, q⟩ := hg
    subst ev
    have eu : u = Value.none := rv
    subst eu
    exact fin R h3 q
theorem pos_func {body : List Stmt} : Pos2 G (.func body G.env) [] id := ⟨over_func, rfl, rfl, rfl⟩
/-- a body whose first statements may raise -/
structure GB2 (G : Ins) (W : Wish) (sts : List Stmt) (t : TG2) : Prop where
  run : ∀ (c : Code), G.A.over c [] = G.A.deeper G.env → ∀ m snap pv Hw sw dom σ H s, RS G W [] snap Hw sw dom σ H s → t (endD W) 0 pv (thaw dom Hw) σ H →
    Sg (model G.P G.w) G.A (Post G W (Nxt G W m) 0 (ownOf dom pv) Hw sw) c ((execs sts G.env).wrap bodyK (bodyJ G.env) id id) [] s
theorem gb2_of {t : TG2} (h : GSs2 G W rest t) : GB2 G W rest t :=
  ⟨fun c hc m snap pv Hw sw dom σ H s R ht => h.run c [] id bodyK (bodyJ G.env) id [] snap (endD W) ⟨hc, rfl, rfl, rfl⟩ end_cont m 0 pv Hw sw dom σ H s R ht⟩
theorem gb2_cons {t : TS} {u : TG2} (a : ∀ s0 H0, PS (G.X (W.exAt G) s0 H0) st t) (b : GB2 G W rest u) : GB2 G W (st :: rest) (tC2 (tP2 t) u) := by
  refine ⟨fun c hc m snap pv Hw sw dom σ H s R ht => sg_cons (sg_wrapE ?_)⟩
  rw [hc]
  have I' := inv_gens R.inv (allBare_map R.inv.bare)
  refine wpAny_mono (wpAny_frame ((a _ _).run [] _ σ H _ I' ht)) (fun f s1 hf => ?_) fun e s1 he => ?_
  · obtain ⟨Gs, L, q⟩ := hf
    have hg : Go2 G W [] snap { endD W with nx := u (endD W) } m 0 pv Hw sw dom f s1 := by
      cases f with
      | next => obtain ⟨σ', H', I, q⟩ := q; exact ⟨σ', H', R.to (inv_true L I) L.on, q⟩
      | brk => obtain ⟨σ', H', I, q⟩ := q; exact ⟨σ', H', R.to (inv_true L I) L.on, q⟩
      | cont => obtain ⟨σ', H', I, q⟩ := q; exact ⟨σ', H', R.to (inv_true L I) L.on, q⟩
      | ret v => obtain ⟨v', σ', H', I, r, q⟩ := q; exact ⟨v', σ', H', R.to (inv_true L I) L.on, r, q⟩
    cases f with
    | next => obtain ⟨σ', H', R', q⟩ := hg; exact b.run c hc m snap pv Hw sw dom σ' H' s1 R' q
    | brk => exact end_cont m 0 pv Hw sw dom .brk s1 hg
    | cont => exact end_cont m 0 pv Hw sw dom .cont s1 hg
    | ret v => exact end_cont m 0 pv Hw sw dom (.ret v) s1 hg
  · obtain ⟨Gs, L, q⟩ := he
    refine sg_wrapE ?_
    rw [hc]
    refine wpAny_mono (framedL (Q' := fun _ s'' => CX G.P G.w G.outer (thaw dom Hw) (lowS G.env.locals sw) (W.exAt G) e s'' ∧ SleepOn s.gens s''.gens) L q fun _ s2 Gs2 L2 q2 => ?_) (fun _ s2 q2 => ?_) fun _ _ x => x.elim
    · obtain ⟨a, B, H', cls, d, z1, z2, z3, z4, z5, z6, z7, z8⟩ := q2
      exact ⟨⟨a, B, H', cls, d, z1, z2, z3, z4, z5, z6, L2.bare z7, z8⟩, L2.on⟩
    · refine sg_end (.error e) ⟨dom, R.dm, q2.1, R.slp.trans q2.2.lowg⟩
end

/-! ### the call -/
abbrev SpG2 := List V → Hp → Wish → Prop
/-- the heap behind the call: the frame, its cells and the generator's own object stand frozen -/
def madeH (env : Env) (h : Heap) (a : Addr) (go : Obj) (H : Hp) : Hp := fun b => if b ∈ domOf env [] then (h.get? b).map (exO b) else if b = a then some (exO a go) else H b
/-- a generator that has not begun -/
structure Made (P : Program) (w : World) (K : PySem.W.Frag) (mg : Str → Option Value) (base : Heap) (k : Nat) (outer : List Env) (H : Hp) (W : Wish) (s : Shared) (u : Value) (s' : Shared) (N : List Str) (env : Env) (g : Nat) (a : Addr) (go : Obj) (c : Code) : Prop where
  val : u = .ref a
  env_eq : env.locals = s.heap.objs.size
  a_lt : env.locals < a
  a_in : a < s'.heap.objs.size
  fr : env.frame = some env.locals
  gen : ∀ h : Heap, h.get? a = some go → h.IsGen a g
  obj : s'.heap.get? a = some go
  tab : s'.gens[g]? = some (.fresh c)
  os : s'.os = s.os
  bare : AllBare s'.gens
  gnew : s.gens.size ≤ g ∧ s'.gens.size = g + 1
  keep : ∀ b o, s.heap.get? b = some o → s'.heap.get? b = some o
  dom_lt : ∀ b ∈ domOf env [], s.heap.objs.size ≤ b ∧ b ≠ a ∧ ∃ o, s'.heap.get? b = some o
  first : ∀ (A : Around) (m : Nat) (H2 : Hp) (s2 : Shared), Room k A → A.frames = some outer → (∀ b o, H b = some o → H2 b = some o) → Wk ⟨P, w, K, mg, base, N, env, A, outer, g, a, go⟩ (ownOf (domOf env []) fun _ => False) (madeH env s'.heap a go H) #[] H2 s2 →
    Turn (model P w) A (.fresh c) (s2.setGen g .running) (Post ⟨P, w, K, mg, base, N, env, A, outer, g, a, go⟩ W (Nxt ⟨P, w, K, mg, base, N, env, A, outer, g, a, go⟩ W m) 0 (ownOf (domOf env []) fun _ => False) H2 (s2.setGen g .running))
structure GFn2 (P : Program) (w : World) (K : PySem.W.Frag) (mg : Str → Option Value) (base : Heap) (k : Nat) (f : Addr) (fd : FuncData) (ps : List Str) (sp : SpG2) : Prop where
  len : ∀ vs H W, sp vs H W → vs.length = ps.length
  run : ∀ (A : Around) (outer : List Env) (s : Shared) (H : Hp) (args : Args) (us : List Value) (vs : List V) (W : Wish), Room k A → Env0 P w K mg base A outer s H → BindsTo s fd args (ps.zip us) → Vals vs us → sp vs H W →
    codeAny (model P w) A (.call (.ref f) args) (fun r s' => match r with | .ok (.ret u) => ∃ N env g a go c, Made P w K mg base k outer H W s u s' N env g a go c | _ => False) s
theorem gfn2_of {P : Program} {w : World} {K : PySem.W.Frag} {mg : Str → Option Value} {base : Heap} {k : Nat} {f : Addr} {name qual : Str} {params : Arguments} {body : List Stmt} {scope : Scope} {dV kV doc pm cdv ct oc : Value}
    {an od : Option Addr} {osl : Array (Option Value)} {N ps : List Str} {sp : SpG2} (lk : K.lookup f = some ⟨oc, od, .func (PySem.W.fnOf name qual params body scope dV kV doc pm an cdv ct), osl⟩) (hcd : PySem.W.codeIn K cdv qual = true) (S : GScope N ps scope)
    (hcells : ∀ L, CellsOk (envOfC qual scope L f cdv)) (len : ∀ vs H W, sp vs H W → vs.length = ps.length)
    (hbody : ∀ (G : Ins) (H : Hp) (vs : List V) (W : Wish), G.P = P → G.w = w → G.K = K → G.mg = mg → G.base = base → G.N = N → (∃ L, G.env = envOfC qual scope L f cdv) → Sta G → CellsOk G.env → Room k (G.A.deeper G.env) → sp vs H W →
      ∃ t, GB2 G W body t ∧ ∀ Hr : Hp, Hr G.a = some (exO G.a G.go) → (∀ b o, H b = some o → Hr b = some o) → t (endD W) 0 (fun _ => False) Hr (start N vs) Hr) :
    GFn2 P w K mg base (k + 1) f (PySem.W.fnOf name qual params body scope dV kV doc pm an cdv ct) ps sp := by
  refine ⟨len, fun A outer s H args us vs W hr e0 hb r hsp => ?_⟩
  have hl := len _ _ _ hsp
  have KX : K.In s.heap := e0.mod.kin.keeps fun b o e => (e0.bs b o e).1
  have lim : s.heap.NoLimit := e0.mod.nolimit.keeps fun b o e => (e0.bs b o e).1
  have hkind : ∀ y ∈ ps.zip us, scope.names.lookup y.1 = some .local ∨ (scope.names.lookup y.1 = some .cell ∧ ((cellsFrom (s.heap.objs.size + 1) scope.names []).lookup y.1).isSome = true) := fun ⟨n, v⟩ hy => by
    rcases S.par n (List.of_mem_zip hy).1 with q | q
    · exact .inl q
    · exact .inr ⟨q, PySem.W.cellsFrom_some _ _ _ (.inl q)⟩
  refine codeAny_call_generator hr.depth (KX _ _ lk) rfl S.co S.gen rfl (PySem.W.codeRec_of KX hcd) (hb _ _ _ _ ?_)
  refine wpAny_newFunctionEnv_cells S.kind hkind fun env he s1 x => ?_
  subst he
  refine ⟨lim.keeps x.toInCall.keep, ?_⟩
  obtain ⟨h1, tk, es1, hk1⟩ := x.done
  have I1 : Inv (gcxOf P w K mg base N qual scope f cdv A outer s H W.ex []) [] (start N vs) H s1 := inv_startG S hr.hd e0 hl r x
  have n1 : Nap (envOfC qual scope s.heap.objs.size f cdv) N (frs outer) [] (start N vs) s1.heap := Nap.of rfl I1
  have hcl := hcells s.heap.objs.size
  have gen1 : s1.gens = s.gens := by rw [es1]
  have os1 : s1.os = s.os := by rw [es1]
  have main : ∀ (go : Obj) (nm qn : Value) (tk2 : Nat), go.cls = .type "generator" → go.data = .fields #[.int s1.gens.size 0, nm, qn] → go.slots = #[] → (s1.heap.push go).get? s1.heap.objs.size = some go →
      ∃ N' env' g' a' go' c', Made P w K mg base (k + 1) outer H W s (.ref s1.heap.objs.size) { s1 with gens := s1.gens.push (.fresh (.func body (envOfC qual scope s.heap.objs.size f cdv))), toks := tk2, heap := s1.heap.push go } N' env' g' a' go' c' := by
    intro go nm qn tk2 hg1 hg2 hg3 hgo
    have hdl : ∀ b ∈ domOf (envOfC qual scope s.heap.objs.size f cdv) [], s.heap.objs.size ≤ b ∧ b < s1.heap.objs.size ∧ ∃ o, s1.heap.get? b = some o := fun b hb => by
      obtain ⟨o, ho⟩ := n1.there hcl b hb
      refine ⟨?_, Heap.lt_size ho, o, ho⟩
      rcases List.mem_cons.mp hb with z | z
      · rw [z]; exact Nat.le_refl _
      · rcases List.mem_append.mp z with z | z
        · obtain ⟨y, e⟩ := hcl b z
          exact I1.ok.cab y b rfl e
        · cases z
    have dom_lt : ∀ b ∈ domOf (envOfC qual scope s.heap.objs.size f cdv) [], s.heap.objs.size ≤ b ∧ b ≠ s1.heap.objs.size ∧ ∃ o, (s1.heap.push go).get? b = some o := fun b hb => by
      obtain ⟨q1, q2, o, q3⟩ := hdl b hb
      exact ⟨q1, Nat.ne_of_lt q2, o, Heap.get?_push_of_some _ q3⟩
    refine ⟨N, envOfC qual scope s.heap.objs.size f cdv, s1.gens.size, s1.heap.objs.size, go, .func body (envOfC qual scope s.heap.objs.size f cdv), rfl, rfl, I1.lt, ?_, rfl, fun h e => ⟨go, nm, qn, e, hg1, hg2, hg3⟩, hgo, Array.getElem?_push_size .., os1, ?_, ?_, fun b o e => Heap.get?_push_of_some _ (x.toInCall.keep b o e), dom_lt, ?_⟩
    · show _ < (s1.heap.push _).objs.size
      rw [Heap.size_push]; exact Nat.lt_succ_self _
    · exact AllBare.push (by rw [gen1]; exact e0.bare) rfl
    · exact ⟨by rw [gen1]; exact Nat.le_refl _, by show (s1.gens.push _).size = _; rw [Array.size_push]⟩
    intro A' m H2 s2 hr' hfr hsub Wk2
    have Sg0 : Sta ⟨P, w, K, mg, base, N, envOfC qual scope s.heap.objs.size f cdv, A', outer, s1.gens.size, s1.heap.objs.size, go⟩ := by
      refine ⟨e0.mod, S.kind, S.co, rfl, rfl, I1.ok.inj, I1.ok.has, fun y c e => ?_, hr'.hd, hfr, rfl, e0.bsz, fun b hb => ?_⟩
      · have h3 : s.heap.objs.size ≤ c := I1.ok.cab y c rfl e
        have h4 := I1.cne y c e
        exact Nat.lt_of_le_of_ne h3 fun z => h4 z.symm
      · obtain ⟨_, o, ho, _⟩ := e0.funs.mem hb
        exact Heap.lt_size ho
    obtain ⟨t, ht, hq⟩ := hbody ⟨P, w, K, mg, base, N, envOfC qual scope s.heap.objs.size f cdv, A', outer, s1.gens.size, s1.heap.objs.size, go⟩ H vs W rfl rfl rfl rfl rfl rfl ⟨_, rfl⟩ Sg0 hcl (hr'.deeper _) hsp
    have hfz : ∀ b ∈ domOf (envOfC qual scope s.heap.objs.size f cdv) [], ownOf (domOf (envOfC qual scope s.heap.objs.size f cdv) []) (fun _ => False) b ∧ ∀ o, (s1.heap.push go).get? b = some o →
        madeH (envOfC qual scope s.heap.objs.size f cdv) (s1.heap.push go) s1.heap.objs.size go H b = some (exO b o) := fun b hb => ⟨.inl hb, fun o e => by unfold madeH; rw [if_pos hb, e]; rfl⟩
    obtain ⟨I2, hx2⟩ := inv_wake (E := W.exAt ⟨P, w, K, mg, base, N, envOfC qual scope s.heap.objs.size f cdv, A', outer, s1.gens.size, s1.heap.objs.size, go⟩) Sg0 (n1.keep fun b _ o e => Heap.get?_push_of_some go e) hcl hfz Wk2
    show Sg (model P w) A' _ (.func body (envOfC qual scope s.heap.objs.size f cdv)) ((model P w).den (.func body (envOfC qual scope s.heap.objs.size f cdv))) [] _
    refine sg_func (ht.run _ over_func m #[] (fun _ => False) _ _ _ (start N vs) _ _ ⟨I2, fun b hb => ⟨(dom_lt b hb).1, hx2 b hb⟩, fun b hb => hb, fun p hp => (nomatch hp), SleepLow.refl, ⟨Nat.zero_le _, fun i x _ q => (nomatch q)⟩, Nat.le_of_lt I2.lt, by show s1.gens.size < (s2.gens.setIfInBounds s1.gens.size .running).size; rw [Array.size_setIfInBounds]; exact Wk2.tab⟩ ?_)
    have adom : s1.heap.objs.size ∉ domOf (envOfC qual scope s.heap.objs.size f cdv) [] := fun z => (dom_lt _ z).2.1 rfl
    refine hq _ ?_ fun b o e => ?_
    · show thaw _ H2 s1.heap.objs.size = _
      rw [thaw_out adom]; exact Wk2.self
    · rw [thaw_out fun z => ?_]; exact hsub b o e
      have h1 := e0.hok.lt e
      exact absurd h1 (Nat.not_lt.mpr (dom_lt b z).1)
  obtain ⟨N', env', g', a', go', c', M⟩ := main { cls := .type "generator", data := .fields #[.int s1.gens.size 0, .str name s1.toks, .str qual (s1.toks + 1)] } (.str name s1.toks) (.str qual (s1.toks + 1)) (s1.toks + 1 + 1) rfl rfl rfl (Heap.get?_push_size _ rfl)
  refine ⟨N', env', g', a', go', c', ?_⟩
  exact M
end GN

set_option Elab.async false
set_option linter.all false
set_option maxRecDepth 100000
set_option maxHeartbeats 4000000
/-! The consumer's side. -/
namespace GN
open PySem PyProof.Rows L2 GenW

theorem resume_turn {α : Type} {M : Model} {A : Around} {Φ : End → Shared → Prop} {s : Shared} {g : Nat} {x : GenState} {l : List Value} {k : GenResult → Sem α} {Q : α → Shared → Prop} {E : Value → Shared → Prop} (hg : s.gens[g]? = some x)
    (hT : Turn M A x (s.setGen g .running) Φ) (hq : ∀ e s1, Φ e s1 → e.quiet = true) (hk : ∀ e s1, Φ e s1 → wpAny M A (k e.result) Q E (s1.setGen g e.genState)) : wpAny M A (.resume g (.send .none) l k) Q E s := by
  intro Γ p hΓ
  rw [Sem.wp_resume]
  cases x with
  | fresh c =>
    obtain ⟨e, s1, hr, he⟩ := hT (Γ.wake c p) p rfl (hΓ.wake c p)
    refine ⟨_, _, ?_, hk e s1 he Γ p hΓ⟩
    unfold Wakes
    rw [hg]
    exact ⟨e, s1, hr, hq e s1 he, rfl, rfl⟩
  | suspended kk ll c pp fs cl =>
    obtain ⟨e, s1, hr, he⟩ := hT (Γ.wake c p) pp rfl (hΓ.wake c p)
    refine ⟨_, _, ?_, hk e s1 he Γ p hΓ⟩
    unfold Wakes
    rw [hg]
    exact ⟨e, s1, hr, hq e s1 he, rfl, rfl⟩
  | running => exact hT.elim
  | finished => exact hT.elim
def isIt : GenState → Bool
  | .fresh _ => true
  | .suspended .. => true
  | _ => false
/-- next(it) of a generator -/
theorem next_turn {P : Program} {w : World} {A : Around} {Φ : End → Shared → Prop} {s : Shared} {a : Addr} {g : Nat} {x : GenState} {Q : Option Value → Shared → Prop} {E : Value → Shared → Prop} (hh : A.handled = none) (hl : s.heap.NoLimit) (hroom : A.depth < recursionLimit) (hg : s.heap.IsGen a g)
    (hgs : s.gens[g]? = some x) (hT : Turn (model P w) A.in1 x (s.setGen g .running) Φ) (hq : ∀ e s1, Φ e s1 → e.quiet = true)
    (hY : ∀ v gd l k c p fs s1, Φ (.susp v gd l k c p fs) s1 → Q (some v) (s1.setGen g (End.susp v gd l k c p fs).genState))
    (hP : ∀ f s1, Φ (.ret (.ok f)) s1 → f = .ret .none ∧ ∀ h', (∀ b o, s1.heap.get? b = some o → h'.get? b = some o) → Q none { s1.setGen g .finished with heap := h' })
    (hE : ∀ e s1, Φ (.ret (.error e)) s1 → s1.heap.IsGen a g ∧ NotStop (model P w) e s1.heap ∧ E e (s1.setGen g .finished)) : wpAny (model P w) A (pyNext (.ref a)) Q E s := by
  unfold pyNext
  refine wpAny_bind (wpAny_attempt (wpAny_callSpecial?_slot (name := Str.ofString "__next__") hg.typeIs slot_gen_next (wpAny_call_entry slot_gen_next hg.typeIs entry_gen_next ?_ (args_gen_next _))))
  show wpAny (model P w) A.in1 (Builtin.Generator.genWake (.ref a) (.send .none)) _ _ s
  unfold Builtin.Generator.genWake
  refine wpAny_bind (wpAny_holding (wpAny_genNumber hg (wpAny_bind (wpAny_genState hgs ?_))))
  have wake : ∀ (Q' : PySem.Fin → Shared → Prop) (E' : Value → Shared → Prop) (k : GenResult → Sem PySem.Fin), (∀ e s1, Φ e s1 → wpAny (model P w) A.in1 (k e.result) Q' E' (s1.setGen g e.genState)) →
      wpAny (model P w) A.in1 (Sem.resume g (.send .none) [] k) Q' E' s := fun Q' E' k hk => resume_turn hgs hT hq hk
  cases x with
  | running => exact hT.elim
  | finished => exact hT.elim
  | _ =>
    refine wpAny_bind (wpAny_roomToWake hl hroom ?_)
    refine wake _ _ _ fun e s1 he => ?_
    cases e with
    | susp v gd l k c p fs => exact wpAny_pure ⟨v, rfl, wpAny_pure (hY v gd l k c p fs s1 he)⟩
    | ret r =>
      cases r with
      | ok f =>
        obtain ⟨rfl, hp⟩ := hP f s1 he
        show wpAny _ A.in1 (newExc (.type "StopIteration") [] >>= fun x => raiseNew x >>= fun _ => _) _ _ _
        refine wpAny_bind ?_
        simp only [newExc, newTuple]
        refine wpAny_bind (wpAny_newObj_type ?_ (by size_fits))
        refine wpAny_bind (m := firstArgMember _ _) (wpAny_of_eq (a := Value.none) (by first | rfl | (simp only [firstArgMember]; rfl)) ?_)
        refine wpAny_newObj_type ?_ (by size_fits)
        simp only [raiseNew]
        refine wpAny_bind (wpAny_bind (wpAny_handled ?_))
        rw [show A.in1.handled = none from hh]
        refine wpAny_throw ?_
        refine wpAny_bind (wpAny_isInstance (T := "StopIteration") (b := true) ⟨_, Heap.get?_push_size _ rfl, rfl⟩ isSubtype_stop ?_)
        exact wpAny_pure (hp _ fun b o hb => Heap.get?_push_of_some _ (Heap.get?_push_of_some _ hb))
      | error e =>
        obtain ⟨hg1, hns, hq1⟩ := hE e s1 he
        obtain ⟨o, nm, qn, ho, hc, hd, hsl⟩ := hg1
        show wpAny _ A.in1 (Builtin.Generator.genLeft (.ref a) e) _ _ _
        unfold Builtin.Generator.genLeft Builtin.Generator.madeByALambda
        refine wpAny_bind (wpAny_bind (wpAny_load (o := o) ho (wpAny_pure ?_)))
        refine wpAny_bind (hns _ _ _ _ rfl ?_)
        rw [Bool.and_false, if_neg Bool.false_ne_true]
        unfold Builtin.Generator.genEscaped
        first
          | refine wpAny_bind (hns _ _ _ _ rfl ?_)
          | refine wpAny_bind (wpAny_pure (wpAny_bind (hns _ _ _ _ rfl ?_)))
        rw [if_pos (show (!false) = true from rfl)]
        first
          | refine wpAny_throw ?_
          | refine wpAny_bind (wpAny_throw ?_)
        refine wpAny_bind (hns _ _ _ _ rfl ?_)
        rw [if_neg Bool.false_ne_true]
        exact wpAny_throw hq1
end GN

set_option Elab.async false
set_option linter.all false
set_option maxRecDepth 100000
set_option maxHeartbeats 4000000
/-! A generator in its consumer's hands. -/
namespace GN
open PySem PyProof.Rows L2 GenW

/-- all that the consumer's frame leans on is older than n -/
structure Old (X : Cx) (pins : List (Addr × Obj)) (n : Nat) : Prop where
  s0 : X.s_0.heap.objs.size ≤ n
  loc : X.env.locals < n
  cell : ∀ x c, X.env.cells.lookup x = some c → c < n
  pin : ∀ p ∈ X.pn ++ pins, p.1 < n
theorem Old.of {X : Cx} {pins : List (Addr × Obj)} {σ : L2.St} {H : Hp} {s : Shared} (I : Inv X pins σ H s) : Old X pins s.heap.objs.size :=
  ⟨I.sz, I.lt, fun x c e => let ⟨_, o, ho, _⟩ := I.cell x c e; Heap.lt_size ho, fun p hp => Heap.lt_size (I.pin p hp).1⟩
theorem Old.mono {X : Cx} {pins : List (Addr × Obj)} {m n : Nat} (h : Old X pins m) (q : m ≤ n) : Old X pins n :=
  ⟨Nat.le_trans h.s0 q, Nat.lt_of_lt_of_le h.loc q, fun x c e => Nat.lt_of_lt_of_le (h.cell x c e) q, fun p hp => Nat.lt_of_lt_of_le (h.pin p hp) q⟩
section
variable {X : Cx} {pins : List (Addr × Obj)} {σ : L2.St} {H H1 H2 : Hp} {s s1 s2 : Shared} {n : Nat}
/-- other things are tracked among the young -/
theorem inv_H (I : Inv X pins σ H s) (O : Old X pins n) (lt : ∀ b o, H b = some o → b < n) (eq : ∀ b : Addr, b < n → H1 b = H b) (ok : HOk X.prog X.w H1 s.heap) : Inv X pins σ H1 s := by
  have B := I.base
  have l0 : ∀ {b : Addr} {o : Obj}, X.s_0.heap.get? b = some o → b < n := fun e => Nat.lt_of_lt_of_le (Heap.lt_size e) O.s0
  refine ⟨I.ok, I.os, I.bare, ⟨B.keep, B.slot, fun b o e n' hx => ?_, B.there, fun b xs e => ?_, fun b o u e => ?_, fun b ps e => ?_⟩, I.loc, I.cell, ?_, fun x c e => ?_, fun p hp => ?_, ok, I.len⟩
  · rw [eq b (l0 e)]; exact B.free b o e n' hx
  · have q := B.tups b xs e; rw [eq b (lt b _ q)]; exact q
  · have q := B.frzs b o u e; rw [eq b (lt b _ q)]; exact q
  · obtain ⟨more, q⟩ := B.tbls b ps e
    exact ⟨more, by rw [eq b (lt b _ q)]; exact q⟩
  · rw [eq _ O.loc]; exact I.free
  · rw [eq _ (O.cell x c e)]; exact I.freeC x c e
  · obtain ⟨q1, q2, q3⟩ := I.pin p hp
    exact ⟨q1, by rw [eq _ (O.pin p hp)]; exact q2, q3⟩
theorem madeH_old {env : Env} {h : Heap} {a : Addr} {go : Obj} (hd : ∀ b ∈ domOf env [], n ≤ b) (ha : n ≤ a) {b : Addr} (hb : b < n) : madeH env h a go H b = H b := by
  unfold madeH
  rw [if_neg fun z => absurd hb (Nat.not_lt.mpr (hd b z)), if_neg fun z => absurd hb (Nat.not_lt.mpr (by rw [z]; exact ha))]
theorem madeH_dom {env : Env} {h : Heap} {a b : Addr} {go o : Obj} (hb : b ∈ domOf env []) (e : h.get? b = some o) : madeH env h a go H b = some (exO b o) := by
  unfold madeH; rw [if_pos hb, e]; rfl
theorem madeH_self {env : Env} {h : Heap} {a : Addr} {go : Obj} (hb : a ∉ domOf env []) : madeH env h a go H a = some (exO a go) := by
  unfold madeH; rw [if_neg hb, if_pos rfl]
section
variable {k g : Nat} {W : Wish} {u : Value} {N : List Str} {env : Env} {a : Addr} {go : Obj} {c : Code}
theorem made_sz (M : Made X.prog X.w X.K X.mg X.base k X.stack H W s u s1 N env g a go c) : s.heap.objs.size ≤ a := by rw [← M.env_eq]; exact Nat.le_of_lt M.a_lt
theorem inv_made (I : Inv X pins σ H s) (M : Made X.prog X.w X.K X.mg X.base k X.stack H W s u s1 N env g a go c) : Inv X pins σ (madeH env s1.heap a go H) s1 := by
  have J : Inv X pins σ H s1 := I.call' (ch := []) M.os (Un.kept M.keep) (I.hok.kept M.keep) M.bare fun b z => by simp at z
  have hd : ∀ b ∈ domOf env [], s.heap.objs.size ≤ b := fun b hb => (M.dom_lt b hb).1
  have old : ∀ {b : Addr}, b < s.heap.objs.size → madeH env s1.heap a go H b = H b := fun hb => madeH_old hd (made_sz M) hb
  refine inv_H J (Old.of I) (fun b o e => I.hok.lt e) (fun b hb => old hb) fun b o e => ?_
  by_cases h1 : b ∈ domOf env []
  · obtain ⟨_, _, q, hq⟩ := M.dom_lt b h1
    rw [madeH_dom h1 hq] at e
    cases e
    exact exO_ok hq
  · by_cases h2 : b = a
    · subst h2
      rw [madeH_self h1] at e
      cases e
      exact exO_ok M.obj
    · have e' : H b = some o := by
        unfold madeH at e
        rw [if_neg h1, if_neg h2] at e; exact e
      exact (J.hok b o e').stay (fun _ _ _ z => z) (fun d z => by rw [old (I.hok.lt z)]; exact z) fun d xs z => by rw [old (I.hok.lt z)]; exact z
end
/-- behind a generator's turn -/
theorem inv_over {G : Ins} {own : Addr → Prop} {sw : Shared} (hP : G.P = X.prog) (hw : G.w = X.w) (ho : G.outer = X.stack) (hex : X.ex = []) (I : Inv X pins σ H s) (O : Old X pins G.env.locals) (hsw : sw.heap = s.heap) (hos : sw.os = s.os) (V : Over G own H sw H1 s1) {g' : Array GenState} (hg : AllBare g') : Inv X pins σ H1 { s1 with gens := g' } := by
  have B := I.base
  have U := V.un
  rw [hsw, ho] at U
  have l0 : ∀ {b : Addr} {o : Obj}, X.s_0.heap.get? b = some o → b < G.env.locals := fun e => Nat.lt_of_lt_of_le (Heap.lt_size e) O.s0
  have nst : ∀ {b : Addr}, b ≠ X.env.locals → b ∉ X.fs → b ∉ frs X.stack := fun h1 h2 hm => (List.mem_cons.mp (I.stkSub _ hm)).elim h1 h2
  have nex : ∀ b : Addr, b ∉ X.ex := fun b hb => by rw [hex] at hb; cases hb
  have nl : ∀ {b : Addr} {o : Obj}, X.s_0.heap.get? b = some o → b ≠ X.env.locals := fun e => Nat.ne_of_lt (Nat.lt_of_lt_of_le (Heap.lt_size e) I.ok.above)
  have nn : ∀ b : Addr, b ∉ ([] : List Addr) := fun _ z => nomatch z
  refine ⟨I.ok, V.os.trans (hos.trans I.os), hg, ⟨fun b o e n hb hx => ?_, fun b o e n hb hx => ?_, fun b o e n hx => ?_, fun b o e hx => ?_, fun b xs e => ?_, fun b o u e => ?_, fun b ps e => ?_⟩, ?_, fun x c e => ?_, ?_, fun x c e => ?_, fun p hp => ?_, ?_, I.len⟩
  · exact U.keep b o (low_of (l0 e) (B.keep b o e n hb hx)) (B.free b o e n hx) (nst (nl e) hb) (nn b)
  · obtain ⟨sl, q⟩ := B.slot b o e n hb hx
    obtain ⟨sl2, q2⟩ := U.any (low_of (l0 e) q) (B.free b o e n hx) (nn b)
    exact ⟨sl2, q2⟩
  · obtain ⟨o', q⟩ := B.there b o e hx
    exact U.free b o' (low_of (l0 e) q) (B.free b o e n hx) (nn b)
  · obtain ⟨o', q⟩ := B.there b o e hx
    exact U.there b o' (low_of (l0 e) q) (nn b)
  · exact U.tups b xs (B.tups b xs e)
  · exact U.frzs b o u (B.frzs b o u e)
  · obtain ⟨m1, q⟩ := B.tbls b ps e
    obtain ⟨m2, q2⟩ := U.tbls b _ q
    exact ⟨m1 ++ m2, by rw [q2, Array.append_assoc]⟩
  · obtain ⟨m, ⟨o, es, ep, hm, r⟩, hl⟩ := I.loc
    obtain ⟨sl, q⟩ := U.any (low_of O.loc hm) I.free (nn _)
    refine ⟨m, ⟨_, es, ep, q, r⟩, fun i x v e1 e2 e3 => ?_⟩
    obtain ⟨u, ru, lk⟩ := hl i x v e1 e2 e3
    refine ⟨u, ru, ?_⟩
    rcases lk with z | ⟨z, c, ec, oc, hoc, hd⟩
    · exact .inl z
    · obtain ⟨sl2, q2⟩ := U.any (low_of (O.cell x c ec) hoc) (I.freeC x c ec) (nn _)
      exact .inr ⟨z, c, ec, _, q2, hd⟩
  · obtain ⟨v, oc, hoc, hd⟩ := I.cell x c e
    obtain ⟨sl2, q2⟩ := U.any (low_of (O.cell x c e) hoc) (I.freeC x c e) (nn _)
    exact ⟨v, _, q2, hd⟩
  · obtain ⟨m, ⟨o, es, ep, hm, r⟩, _⟩ := I.loc
    exact U.free _ o (low_of O.loc hm) I.free (nn _)
  · obtain ⟨v, oc, hoc, hd⟩ := I.cell x c e
    exact U.free c oc (low_of (O.cell x c e) hoc) (I.freeC x c e) (nn _)
  · obtain ⟨h1, h2, h3, h4, h5⟩ := I.pin p hp
    exact ⟨U.keep p.1 p.2 (low_of (O.pin p hp) h1) h2 (nst h3 h4) (nn _), U.free p.1 p.2 (low_of (O.pin p hp) h1) h2 (nn _), h3, h4, h5⟩
  · have k := V.ok
    rw [hP, hw] at k
    exact k
/-- what the consumer owes, from its own invariant -/
theorem wk_of {G : Ins} {own : Addr → Prop} {gs : Array GenState} (hP : G.P = X.prog) (hw : G.w = X.w) (hb : G.base = X.base) (ho : G.outer = X.stack) (I : Inv X pins σ H2 s2) (h1 : ∀ b, own b → H2 b = H1 b) (h2 : H2 G.a = some (exO G.a G.go))
    (h3 : ∀ b xs, H1 b = some (.tup xs) → H2 b = some (.tup xs)) (h4 : SleepBut G.g gs s2.gens) (h5 : G.g < s2.gens.size) : Wk G own H1 gs H2 s2 :=
  ⟨I.bare, by rw [hb]; exact I.bs, by rw [hb, ho]; exact I.stack, by rw [ho]; exact I.stkFree, by rw [hP, hw]; exact I.hok, h1, h2, h3, h4, h5⟩
end

/-! ### the call -/
/-- an expression whose value is a generator that has not begun -/
abbrev TGen2 := L2.St → Hp → (Hp → Wish → Prop) → Prop
structure PGen2 (X : Cx) (k : Nat) (e : Expr) (tg : TGen2) : Prop where
  run : ∀ (pins : List (Addr × Obj)) (s : Shared) (σ : L2.St) (H : Hp) (R : Hp → Wish → Prop), Inv X pins σ H s → tg σ H R → wpAny (model X.prog X.w) X.A (eval e X.env)
    (fun u s' => ∃ H1 sc W N env g a go c, s.gens.size ≤ sc.gens.size ∧ Inv X pins σ H1 sc ∧ Made X.prog X.w X.K X.mg X.base k X.stack H1 W sc u s' N env g a go c ∧ R H1 W) X.xe s
section
variable {X : Cx} {k : Nat} {f : Addr} {fd : FuncData} {ps : List Str} {sp : SpG2} {x : Str} {p pos' : Pos}
theorem run_gfn2 {pins : List (Addr × Obj)} {σ : L2.St} {H : Hp} {s : Shared} {us : List Value} {vs : List V} {W : Wish} {E1 : Value → Shared → Prop} (F : GFn2 X.prog X.w X.K X.mg X.base k f fd ps sp) (hr : Room k X.A) (hb : Binds X.K fd ps [])
    (I : Inv X pins σ H s) (r : Vals vs us) (h : sp vs H W) : wpAny (model X.prog X.w) X.A (call (.ref f) us) (fun u s' => ∃ N env g a go c, Made X.prog X.w X.K X.mg X.base k X.stack H W s u s' N env g a go c) E1 s := by
  have hl2 : us.length = ps.length := by rw [← r.length]; exact F.len _ _ _ h
  have hb' := hb s us I.kIn (by simpa using hl2)
  rw [List.append_nil] at hb'
  refine wpAny_call (codeAny_mono (F.run X.A X.stack s H ⟨us, []⟩ us vs W hr I.env0 hb' r h) fun r s' hq => ?_)
  cases r with
  | error e => exact False.elim hq
  | ok fl => cases fl <;> first | exact False.elim hq | exact hq
def tCallG2 (sp : SpG2) (t : TA) : TGen2 := fun σ H R => t σ H fun vs H1 => ∃ W, sp vs H1 W ∧ R H1 W
/-- f(e, ..) of a generator def -/
theorem pgen2_call {e : Expr} {es : List Expr} {t : TA} (F : GFn2 X.prog X.w X.K X.mg X.base k f fd ps sp) (hr : Room k X.A) (hg : Gl X x) (hm : X.mg x = some (.ref f)) (hk : PySem.W.keepIn X.K (.ref f) = true) (hb : Binds X.K fd ps [])
    (ha : PA X (e :: es) t) (hdb : (x == ("__debug__" : Str)) = false := by decide) (he : starEach (e :: es) X.env = (false, eval e X.env) :: starEach es X.env := by rfl) (hpl : (backTo pos' (starEach es X.env)).any (·.1) = false := by rfl) :
    PGen2 X k (.Call (.Name x p) (e :: es) [] pos') (tCallG2 sp t) := by
  refine ⟨fun pins s σ H R I h => ?_⟩
  refine wpAny_Call_Name_kw (ld_glob I hg hm ?_ hdb)
  refine PySem.W.callWith_K (h₀ := X.base) I.ok.mod.kin hk (wpAny_gsz (n := s.gens.size) (Nat.le_refl _) (wpAny_mono (ha.run pos' pins s σ H _ I h) (fun us s1 ⟨vs, H1, I1, r, W, q, hR⟩ hsz => ⟨I1.kIn, ?_⟩) fun _ _ x _ => x)) he hpl
  exact thn (run_gfn2 F hr hb I1 r q) fun u s' ⟨N, env, g, a, go, c, M⟩ => ⟨H1, s1, W, N, env, g, a, go, c, hsz, I1, M, hR⟩
end
end GN

set_option Elab.async false
set_option linter.all false
set_option maxRecDepth 100000
set_option maxHeartbeats 4000000
/-! for x in f(..) of a generator def, within a generator's body. -/
namespace GN
open PySem PyProof.Rows L2 GenW

theorem made_true {P : Program} {w : World} {K : PySem.W.Frag} {mg : Str → Option Value} {base : Heap} {k : Nat} {outer : List Env} {H : Hp} {W : Wish} {s s' : Shared} {u : Value} {N : List Str} {env : Env} {g : Nat} {a : Addr} {go : Obj} {c : Code} {G0 Gs : Array GenState}
    (L : Lk G0 Gs s'.gens) (M : Made P w K mg base k outer H W s u { s' with gens := Gs } N env g a go c) : Made P w K mg base k outer H W s u s' N env g a go c :=
  ⟨M.val, M.env_eq, M.a_lt, M.a_in, M.fr, M.gen, M.obj, (L.awake M.tab rfl).1, M.os, L.bare M.bare, ⟨M.gnew.1, by rw [← L.size]; exact M.gnew.2⟩, M.keep, M.dom_lt, M.first⟩
theorem post_quiet {G : Ins} {W : Wish} {rec : Rec} {j : Nat} {own : Addr → Prop} {Hw : Hp} {sw : Shared} : ∀ e s1, Post G W rec j own Hw sw e s1 → e.quiet = true := fun e s1 h => by
  cases e with
  | ret r => rfl
  | susp v g l k c p fs => exact h.1
/-- between two turns the generator's own things stand, and tuples do -/
structure Kpt (Kp : Addr → Prop) (H1 H2 : Hp) : Prop where
  own : ∀ b, Kp b → H2 b = H1 b
  tup : ∀ b xs, H1 b = some (.tup xs) → H2 b = some (.tup xs)
/-- a turn of the generator -/
structure Stp (H : Hp) (Kp : Addr → Prop) (H1 : Hp) (Kp' : Addr → Prop) : Prop where
  same : ∀ b o, H b = some o → ¬ Kp b → H1 b = some o
  tup : ∀ b xs, H b = some (.tup xs) → H1 b = some (.tup xs)
  new : ∀ b, Kp' b → Kp b ∨ H b = none
  there : ∀ b, Kp' b → H1 b ≠ none
def tFG (mk : TGen2) (g : TG) (tb : TG2) : TG2 := fun D j pv Hr σ H => mk σ H fun Hc Wi => (∀ c d h, ¬ Wi.ex c d h) ∧ ∃ I : Nat → Nat → Nat → (Addr → Prop) → Hp → L2.St → Hp → (Addr → Prop) → Prop,
  (∃ n, ∀ (H0 : Hp) (Kp : Addr → Prop), (∀ b o, Hc b = some o → H0 b = some o) → (∀ b, Kp b → Hc b = none ∧ H0 b ≠ none) → I 0 n j pv Hr σ H0 Kp) ∧
  ∀ i n j pv Hr σ H Kp, I i n j pv Hr σ H Kp →
    (∀ H1 Kp' x, Stp H Kp H1 Kp' → Wi.yl i x H1 → g x σ H1 fun σ2 H2 =>
      tb { D with nx := fun j pv Hr σ H' => Kpt Kp' H1 H' ∧ ∃ n', n' < n ∧ I (i + 1) n' j pv Hr σ H' Kp', ct := fun j pv Hr σ H' => Kpt Kp' H1 H' ∧ ∃ n', n' < n ∧ I (i + 1) n' j pv Hr σ H' Kp', bk := D.nx } j pv Hr σ2 H2) ∧
    (∀ H1, (∀ b o, H b = some o → ¬ Kp b → H1 b = some o) → (∀ b xs, H b = some (.tup xs) → H1 b = some (.tup xs)) → Wi.fin i H1 → D.nx j pv Hr σ H1)
section
variable {G : Ins} {W : Wish} {ip : List (Addr × Obj)} {snap : Array GenState} {Hw H H1 : Hp} {sw s s1 : Shared} {dom : List Addr} {σ σ1 : L2.St}
/-- it sleeps (or has not begun); m: how often it may still be woken behind the next time -/
structure Slp (Gi : Ins) (Wi : Wish) (m i : Nat) (own : Addr → Prop) (H : Hp) (s : Shared) : Prop where
  self : H Gi.a = some (exO Gi.a Gi.go)
  nself : ¬ own Gi.a
  turn : ∃ x, s.gens[Gi.g]? = some x ∧ Turn (model Gi.P Gi.w) Gi.A x (s.setGen Gi.g .running) (Post Gi Wi (Nxt Gi Wi m) i own H (s.setGen Gi.g .running))
theorem bare_set {gs : Array GenState} {g : Nat} {x : GenState} (h : AllBare gs) (hx : x.bare = true) : AllBare (gs.setIfInBounds g x) := fun y hy => by
  obtain ⟨i, hi, e⟩ := Array.mem_iff_getElem.mp hy
  have hi' : i < gs.size := by simpa using hi
  have q : (gs.setIfInBounds g x)[i]? = some y := by rw [Array.getElem?_eq_getElem hi, e]
  by_cases z : g = i
  · subst z
    rw [Array.getElem?_setIfInBounds_self_of_lt hi'] at q
    cases q; exact hx
  · rw [Array.getElem?_setIfInBounds_ne z] at q
    exact h y (Array.mem_of_getElem? q)
theorem gs2_forG {tg e : Expr} {body : List Stmt} {mk : TGen2} {g : TG} {tb : TG2} {pos : Pos} {k : Nat} (S : Sta G) (hr : Room (k + 1) (G.A.deeper G.env)) (hmk : ∀ s0 H0, PGen2 (G.X (W.exAt G) s0 H0).nox k e mk) (hg : ∀ s0 H0, PG (G.X (W.exAt G) s0 H0).nox tg g) (hb : GSs2 G W body tb)
    (hs : ∀ x, foldedSetIterable e G.env x = pure x := by intro _; rfl) : GS2 G W (.For tg e body [] pos) (tFG mk g tb) := by
  refine ⟨fun c fs gd K J lv ip snap D p kont m j pv Hw sw dom σ H s R ht => sg_For hs ?_⟩
  rw [p.over]
  refine framedH R.inv (fun I => (hmk _ _).run ip _ σ H _ I ht) fun u s1 Gs L q1 => ?_
  obtain ⟨Hc, sc, Wi, N, env, gi, a, go, ci, hsz, Ic, M, hex, I, ⟨n0, start⟩, turn⟩ := q1
  have hsz' : s.gens.size ≤ sc.gens.size := by simpa using hsz
  have Mt := made_true L M
  obtain ⟨Gi, hGi⟩ : ∃ Gi : Ins, Gi = ⟨G.P, G.w, G.K, G.mg, G.base, N, env, (G.A.deeper G.env).in1, G.env :: G.outer, gi, a, go⟩ := ⟨_, rfl⟩
  have hgi : G.g < gi ∧ snap.size ≤ gi := ⟨Nat.lt_of_lt_of_le R.gl (Nat.le_trans R.slp.1 (Nat.le_trans hsz' M.gnew.1)), Nat.le_trans R.snp.1 (Nat.le_trans hsz' M.gnew.1)⟩
  have Is1 : Inv (G.X (W.exAt G) (lowS G.env.locals sw) (thaw dom Hw)) ip σ (madeH env s1.heap a go Hc) s1 := inv_true L (inv_made (s1 := { s1 with gens := Gs }) Ic M).unwish
  have Rs1 : RS G W ip snap Hw sw dom σ (madeH env s1.heap a go Hc) s1 := R.to Is1 L.on
  have old : Old (G.X (W.exAt G) (lowS G.env.locals sw) (thaw dom Hw)) ip env.locals := by
    have z := Old.of Ic
    rw [← M.env_eq] at z
    exact ⟨z.s0, z.loc, z.cell, z.pin⟩
  have gobj : ∀ {h : Heap} {Hh : Hp}, HOk G.P G.w Hh h → Hh a = some (exO a go) → h.IsGen a gi := fun k e => M.gen _ (exO_get (k a _ e))
  have hval : u = .ref a := M.val
  subst hval
  have adom : a ∉ domOf env [] := fun z => (M.dom_lt a z).2.1 rfl
  refine wpAny_pyIter_gen (gobj Is1.hok (madeH_self adom)) fun pp => ?_
  have p' := p.loop (c' := .forLoop tg (.ref a) body [] G.env) (K := K) (J := J) (lv := lv) (p := pp) rfl rfl
  have loop : ∀ (n i mi m j : Nat) (pv : Addr → Prop) (Hw : Hp) (sw : Shared) (dom : List Addr) (σ : L2.St) (H : Hp) (s : Shared) (own : Addr → Prop), n ≤ mi → RS G W ip snap Hw sw dom σ H s → Slp Gi Wi mi i own H s → (∀ b, own b → H b ≠ none) → I i n j pv (thaw dom Hw) σ H (fun b => own b ∨ b = a) →
      Sg (model G.P G.w) G.A (Post G W (Nxt G W m) j (ownOf dom pv) Hw sw) (.forLoop tg (.ref a) body [] G.env) ((model G.P G.w).den (.forLoop tg (.ref a) body [] G.env)) (loopFs G.env K J gd lv c fs pp) s := by
    intro n
    induction n using Nat.strongRecOn with
    | ind n ih =>
      intro i mi m j pv Hw sw dom σ H s own hnm R sl hown hi
      refine sg_forTurn ?_
      rw [p'.over]
      obtain ⟨self, nself, x, hx, hT⟩ := sl
      have ogen : HOk G.P G.w H s.heap := R.inv.hok
      have old' : Old (G.X (W.exAt G) (lowS G.env.locals sw) (thaw dom Hw)) ip env.locals := ⟨Nat.le_trans R.inv.ok.above (Nat.le_of_lt old.loc), old.loc, old.cell, old.pin⟩
      have overI : ∀ {H1 : Hp} {s1 : Shared} {g' : Array GenState}, Over Gi own H (s.setGen Gi.g .running) H1 s1 → AllBare g' → Inv (G.X (W.exAt G) (lowS G.env.locals sw) (thaw dom Hw)) ip σ H1 { s1 with gens := g' } := fun {H1 s1 g'} V hg' => by
        subst hGi
        exact inv_over (G := ⟨G.P, G.w, G.K, G.mg, G.base, N, env, (G.A.deeper G.env).in1, G.env :: G.outer, gi, a, go⟩) (sw := s.setGen gi .running) rfl rfl rfl rfl R.inv old' rfl rfl V hg'
      have slpI : ∀ {s1 : Shared} {x' : GenState}, SleepLow gi (s.setGen gi .running).gens s1.gens → SleepLow G.g sw.gens (s1.gens.setIfInBounds gi x') ∧ SleepBut G.g snap (s1.gens.setIfInBounds gi x') ∧ s.gens.size ≤ s1.gens.size := fun {s1 x'} V => by
        have e0 : (s.setGen gi .running).gens.size = s.gens.size := by show (s.gens.setIfInBounds gi .running).size = _; simp
        have z : s.gens.size ≤ s1.gens.size := by rw [← e0]; exact V.1
        have key : ∀ (i : Nat) (y : GenState), i < gi → s.gens[i]? = some y → asleep y = true → (s1.gens.setIfInBounds gi x')[i]? = some y := fun i y hi hy ha => by
          rw [Array.getElem?_setIfInBounds_ne (Nat.ne_of_gt hi)]
          refine V.2 i y hi ?_ ha
          show (s.gens.setIfInBounds gi .running)[i]? = some y
          rw [Array.getElem?_setIfInBounds_ne (Nat.ne_of_gt hi)]; exact hy
        refine ⟨⟨by simpa using Nat.le_trans R.slp.1 z, fun i y h1 h2 h3 => key i y (Nat.lt_trans h1 hgi.1) (R.slp.2 i y h1 h2 h3) h3⟩, ⟨by simpa using Nat.le_trans R.snp.1 z, fun i y h1 h2 h3 => key i y ?_ (R.snp.2 i y h1 h2 h3) h3⟩, z⟩
        have := (Array.getElem?_eq_some_iff.mp h2).1
        omega
      have eg : Gi.g = gi := by rw [hGi]
      have eA : Gi.A = (G.A.deeper G.env).in1 := by rw [hGi]
      have ea : Gi.a = a := by rw [hGi]
      have ego : Gi.go = go := by rw [hGi]
      have eP : Gi.P = G.P := by rw [hGi]
      have ew : Gi.w = G.w := by rw [hGi]
      rw [ea, ego] at self
      rw [ea] at nself
      rw [eg] at hx
      rw [eP, ew, eA] at hT
      refine next_turn (Φ := Post Gi Wi (Nxt Gi Wi mi) i own H (s.setGen Gi.g .running)) hr.hd R.inv.nolimit (by have := hr.dp; omega) (gobj ogen self) hx (by rw [eg] at hT ⊢; exact hT) post_quiet (fun v gd' l kk c' p'' fs' s1 hY => ?_) (fun f s1 hP => ?_) fun e s1 hE => ?_
      · obtain ⟨hq, xv, own', H1, rv, V, v1, v2, v3, v4⟩ := hY
        have Vlow : SleepLow gi (s.setGen gi .running).gens s1.gens := by have z := V.slp; rw [eg] at z; exact z
        have hb1 : AllBare (s1.setGen gi (End.susp v gd' l kk c' p'' fs').genState).gens := bare_set V.bare (End.bare_of_quiet hq)
        have I1 := overI V hb1
        have e1 : (s1.setGen gi (End.susp v gd' l kk c' p'' fs').genState) = { s1 with gens := (s1.setGen gi (End.susp v gd' l kk c' p'' fs').genState).gens } := rfl
        have H1a : H1 a = some (exO a go) := V.same a _ self nself
        have stp : Stp H (fun b => own b ∨ b = a) H1 (fun b => own' b ∨ b = a) := ⟨fun b o e hn => V.same b o e fun z => hn (.inl z), V.un.tups, fun b hb => by
            rcases hb with hb | hb
            · rcases v1 b hb with z | z
              · exact .inl (.inl z)
              · exact .inr z
            · exact .inl (.inr hb), fun b hb => by
            rcases hb with hb | hb
            · exact v2 b hb
            · rw [hb, H1a]; exact fun z => by cases z⟩
        have nself' : ¬ own' a := fun z => by
          rcases v1 a z with q | q
          · exact nself q
          · rw [self] at q; cases q
        have step := (turn i n j pv (thaw dom Hw) σ H _ hi).1 H1 _ xv stp v3
        obtain ⟨hs1, hs2, hs3⟩ := slpI (x' := (End.susp v gd' l kk c' p'' fs').genState) Vlow
        have R1 : RS G W ip snap Hw sw dom σ H1 (s1.setGen gi (End.susp v gd' l kk c' p'' fs').genState) := ⟨I1, R.dm, R.dl, R.ipn, hs1, hs2, R.lsz, R.gl⟩
        have hgl : gi < s1.gens.size := Nat.lt_of_lt_of_le (Array.getElem?_eq_some_iff.mp hx).1 hs3
        obtain ⟨og, nm, qn, ho, hcl, hdd, hsl⟩ := gobj I1.hok H1a
        refine go_of ho hcl hdd (by decide) ?_
        refine framed I1 (fun s' I' => (hg _ _).run ip s' σ H1 xv v _ I' rv step) fun _ s3 Gs3 L3 q3 => ?_
        obtain ⟨σ3, H3, I3, q3⟩ := q3
        have R3 : RS G W ip (s1.setGen gi (End.susp v gd' l kk c' p'' fs').genState).gens Hw sw dom σ3 H3 s3 := by
          have z := R1.to (inv_true L3 I3.unwish) L3.on
          exact ⟨z.inv, z.dm, z.dl, z.ipn, z.slp, L3.on.but, z.lsz, z.gl⟩
        refine hb.run _ _ id _ _ id ip _ _ p' (fun m j pv Hw sw dom f s4 hg4 => ?_) m j pv Hw sw dom σ3 H3 s3 R3 q3
        have back : ∀ {σ4 : L2.St} {H4 : Hp}, RS G W ip (s1.setGen gi (End.susp v gd' l kk c' p'' fs').genState).gens Hw sw dom σ4 H4 s4 → RS G W ip snap Hw sw dom σ4 H4 s4 := fun R4 => ⟨R4.inv, R4.dm, R4.dl, R4.ipn, R4.slp, hs2.trans R4.snp, R4.lsz, R4.gl⟩
        have again : ∀ {σ4 : L2.St} {H4 : Hp}, RS G W ip (s1.setGen gi (End.susp v gd' l kk c' p'' fs').genState).gens Hw sw dom σ4 H4 s4 → Kpt (fun b => own' b ∨ b = a) H1 H4 → (∃ n', n' < n ∧ I (i + 1) n' j pv (thaw dom Hw) σ4 H4 fun b => own' b ∨ b = a) →
            Sg (model G.P G.w) G.A (Post G W (Nxt G W m) j (ownOf dom pv) Hw sw) (.forLoop tg (.ref a) body [] G.env) ((model G.P G.w).den (.forLoop tg (.ref a) body [] G.env)) (loopFs G.env K J gd lv c fs pp) s4 := fun {σ4 H4} R4 kp ⟨n', hn, hi'⟩ => by
          cases mi with
          | zero => exact absurd (Nat.lt_of_lt_of_le hn hnm) (Nat.not_lt_zero _)
          | succ mi =>
            have tab4 : s4.gens[gi]? = some (End.susp v gd' l kk c' p'' fs').genState := R4.snp.2 gi _ hgi.1 (by show (s1.gens.setIfInBounds gi _)[gi]? = _; rw [Array.getElem?_setIfInBounds_self_of_lt hgl]) rfl
            have hH4 : H4 a = some (exO a go) := by rw [kp.own a (.inr rfl)]; exact H1a
            refine ih n' hn (i + 1) mi m j pv Hw sw dom σ4 H4 s4 own' (by omega) (back R4) ⟨by rw [ea, ego]; exact hH4, by rw [ea]; exact nself', _, by rw [eg]; exact tab4, ?_⟩ (fun b hb => by rw [kp.own b (.inl hb)]; exact v2 b hb) hi'
            refine v4 H4 s4 ?_
            subst hGi
            refine wk_of (G := ⟨G.P, G.w, G.K, G.mg, G.base, N, env, (G.A.deeper G.env).in1, G.env :: G.outer, gi, a, go⟩) rfl rfl rfl rfl R4.inv (fun b hb => kp.own b (.inl hb)) hH4 kp.tup ⟨?_, fun i y h1 h2 h3 => ?_⟩ (Array.getElem?_eq_some_iff.mp tab4).1
            · have z : (s1.gens.setIfInBounds gi (End.susp v gd' l kk c' p'' fs').genState).size ≤ s4.gens.size := R4.snp.1
              rw [Array.size_setIfInBounds] at z
              exact z
            · refine R4.snp.2 i y (Nat.lt_trans hgi.1 h1) ?_ h3
              show (s1.gens.setIfInBounds gi _)[i]? = some y
              rw [Array.getElem?_setIfInBounds_ne (Nat.ne_of_lt h1)]; exact h2
        cases f with
        | next =>
          obtain ⟨σ4, H4, R4, kp, hn⟩ := hg4
          exact sg_again rfl (again R4 kp hn)
        | cont =>
          obtain ⟨σ4, H4, R4, kp, hn⟩ := hg4
          exact sg_again rfl (again R4 kp hn)
        | brk =>
          obtain ⟨σ4, H4, R4, q⟩ := hg4
          exact sg_done (kont m j pv Hw sw dom .next s4 ⟨σ4, H4, back R4, q⟩)
        | ret v' =>
          obtain ⟨x4, σ4, H4, R4, r4, q⟩ := hg4
          exact sg_done (kont m j pv Hw sw dom (.ret v') s4 ⟨x4, σ4, H4, back R4, r4, q⟩)
      · obtain ⟨rfl, H1, V, hf⟩ := hP
        have Vlow : SleepLow gi (s.setGen gi .running).gens s1.gens := by have z := V.slp; rw [eg] at z; exact z
        refine ⟨rfl, fun h' hk' c' => ?_⟩
        have I1 := overI V (bare_set V.bare (g := gi) (x := .finished) rfl)
        obtain ⟨hs1, hs2, _⟩ := slpI (x' := .finished) Vlow
        have I2 : Inv (G.X (W.exAt G) (lowS G.env.locals sw) (thaw dom Hw)) ip σ H1 { s1.setGen gi .finished with heap := h' } := I1.kept (t' := s1.toks) hk'
        exact sg_done (kont m j pv Hw sw dom .next _ ⟨σ, H1, ⟨I2, R.dm, R.dl, R.ipn, hs1, hs2, R.lsz, R.gl⟩, (turn i n j pv (thaw dom Hw) σ H _ hi).2 H1 (fun b o e hn => V.same b o e fun z => hn (.inl z)) V.un.tups hf⟩)
      · obtain ⟨_, _, hc, _⟩ := hE
        obtain ⟨_, _, _, _, _, _, _, _, _, _, _, _, hx⟩ := hc
        exact (hex _ _ _ hx.2).elim
  have nself0 : ¬ ownOf (domOf env []) (fun _ => False) a := fun z => z.elim adom id
  have hK : ∀ b : Addr, (ownOf (domOf env []) (fun _ => False) b ∨ b = a) → Hc b = none ∧ madeH env s1.heap a go Hc b ≠ none := fun b hb => by
    rcases hb with (hb | hb) | hb
    · obtain ⟨z1, _, o, z3⟩ := M.dom_lt b hb
      exact ⟨Ic.hok.fresh z1, by rw [madeH_dom (h := s1.heap) hb z3]; exact fun z => by cases z⟩
    · exact hb.elim
    · rw [hb]
      exact ⟨Ic.hok.fresh (made_sz M), by rw [madeH_self adom]; exact fun z => by cases z⟩
  have hsame : ∀ b o, Hc b = some o → madeH env s1.heap a go Hc b = some o := fun b o e => by
    rw [madeH_old (n := sc.heap.objs.size) (fun b hb => (M.dom_lt b hb).1) (made_sz M) (Ic.hok.lt e)]; exact e
  refine loop n0 0 n0 m j pv Hw sw dom σ _ s1 (ownOf (domOf env []) fun _ => False) (Nat.le_refl _) Rs1 ?_ (fun b hb => (hK b (.inl hb)).2) (start _ _ hsame hK)
  subst hGi
  refine ⟨madeH_self adom, nself0, _, Mt.tab, ?_⟩
  refine Mt.first _ n0 _ s1 (Room.in1 hr) (by show (G.A.deeper G.env).frames = _; show G.A.frames.map (G.env :: ·) = _; rw [S.frames]; rfl) hsame ?_
  exact wk_of (G := ⟨G.P, G.w, G.K, G.mg, G.base, N, env, (G.A.deeper G.env).in1, G.env :: G.outer, gi, a, go⟩) rfl rfl rfl rfl Is1 (fun b _ => rfl) (madeH_self adom) (fun b xs e => e) ⟨Nat.zero_le _, fun i x _ q => (nomatch q)⟩ (Array.getElem?_eq_some_iff.mp Mt.tab).1
end
end GN

set_option Elab.async false
set_option linter.all false
set_option maxRecDepth 100000
set_option maxHeartbeats 4000000
/-! list(f(..)) of a generator def. -/
namespace GN
open PySem PyProof.Rows L2 GenW

theorem un_over {fs : List Addr} {Hc H H1 : Hp} {h0 h h1 : Heap} {L : Nat} (hl : h0.objs.size ≤ L) (U : Un fs [] Hc H h0 h) (V : Un fs [] H H1 (low L h) h1) : Un fs [] Hc H1 h0 h1 := by
  have lt : ∀ {b : Addr} {o : Obj}, h0.get? b = some o → b < L := fun e => Nat.lt_of_lt_of_le (Heap.lt_size e) hl
  refine ⟨fun b o e n hb hx => V.keep b o (low_of (lt e) (U.keep b o e n hb hx)) (U.free b o e n hx) hb hx, fun b o e n hb hx => ?_, fun b o e n hx => ?_, fun b o e hx => ?_, fun b xs e => V.tups b xs (U.tups b xs e), fun b o u e => V.frzs b o u (U.frzs b o u e), fun b ps e => ?_⟩
  · obtain ⟨sl, q⟩ := U.slot b o e n hb hx
    obtain ⟨sl2, q2⟩ := V.slot b _ (low_of (lt e) q) (U.free b o e n hx) hb hx
    exact ⟨sl2, q2⟩
  · obtain ⟨o', q⟩ := U.there b o e hx
    exact V.free b o' (low_of (lt e) q) (U.free b o e n hx) hx
  · obtain ⟨o', q⟩ := U.there b o e hx
    exact V.there b o' (low_of (lt e) q) hx
  · obtain ⟨m1, q⟩ := U.tbls b ps e
    obtain ⟨m2, q2⟩ := V.tbls b _ q
    exact ⟨m1 ++ m2, by rw [q2, Array.append_assoc]⟩
/-- an error of a turn, told from the consumer's call on -/
theorem cx_over {P : Program} {w : World} {outer : List Env} {Hc H : Hp} {sc s sw s1 : Shared} {L : Nat} {E E' : XK} {e : Value} {dom : List Addr} (hl : sc.heap.objs.size ≤ L) (hfr : ∀ b ∈ frs outer, Hc b = none) (U : Un (frs outer) [] Hc H sc.heap s.heap) (hsw : sw.heap = s.heap) (ho1 : sw.os = sc.os)
    (hd : ∀ b ∈ dom, L ≤ b ∧ ∃ o, H b = some (exO b o)) (c : CX P w outer (thaw dom H) (lowS L sw) E e s1) (hE : ∀ cls d H', E cls d H' → E' cls d H') : CX P w outer Hc sc E' e s1 := by
  obtain ⟨a, B, H', cls, d, z1, z2, z3, z4, z5, z6, z7, z8⟩ := c
  have lt : ∀ {b : Addr} {o : Obj}, sc.heap.get? b = some o → b < L := fun e => Nat.lt_of_lt_of_le (Heap.lt_size e) hl
  have z4' : UB (frs outer) (thaw dom H) H' (low L s.heap) B s1.heap := by rw [← hsw]; exact z4
  have nn : ∀ b : Addr, b ∉ ([] : List Addr) := fun _ z => nomatch z
  have th : ∀ {b : Addr}, H b = none → thaw dom H b = none := fun {b} n => by unfold thaw; split <;> first | rfl | exact n
  have th2 : ∀ {b : Addr} {o : HO}, H b = some o → (∀ q, o ≠ exO b q) → thaw dom H b = some o := fun {b o} e ne => by
    rw [thaw_out fun z => ?_]; exact e
    obtain ⟨q, hq⟩ := (hd b z).2
    rw [e] at hq
    exact ne q (Option.some.inj hq)
  refine ⟨a, B, H', cls, d, z1, z2, z3, ⟨fun b o e n hb => ?_, fun b o e hb => ?_, fun b o e n => ?_, fun b o e hb => ?_, fun b xs e => ?_, fun b o u e => ?_, fun b ps e => ?_⟩, z5, z6.trans ho1, z7, hE _ _ _ z8⟩
  · exact z4'.keep b o (low_of (lt e) (U.keep b o e n hb (nn b))) (th (U.free b o e n (nn b))) hb
  · obtain ⟨sl, q⟩ := U.slot b o e (hfr b hb) hb (nn b)
    obtain ⟨sl2, q2⟩ := z4'.slot b _ (low_of (lt e) q) hb
    exact ⟨sl2, q2⟩
  · obtain ⟨o', q⟩ := U.there b o e (nn b)
    exact z4'.free b o' (low_of (lt e) q) (th (U.free b o e n (nn b)))
  · obtain ⟨o', q⟩ := U.there b o e (nn b)
    exact z4'.there b o' (low_of (lt e) q) hb
  · exact z4'.tups b xs (th2 (U.tups b xs e) fun q z => exO_tup z.symm)
  · exact z4'.frzs b o u (th2 (U.frzs b o u e) fun q z => by cases z)
  · obtain ⟨m1, q⟩ := U.tbls b ps e
    obtain ⟨m2, q2⟩ := z4'.tbls b _ (th2 q fun q z => by cases z)
    exact ⟨m1 ++ m2, by rw [q2, Array.append_assoc]⟩
section
variable {X : Cx} {pins : List (Addr × Obj)} {σ : L2.St} {k : Nat}
theorem drain2 {Hc : Hp} {sc : Shared} {Wi : Wish} {N : List Str} {env : Env} {gi : Nat} {a S : Addr} {go : Obj} {B : Around} {Q : VK} {R : Result → Shared → Prop} {E : XK}
    (hex : X.ex = []) (hh : B.handled = none) (hroom : B.depth < recursionLimit) (Ic : Inv X pins σ Hc sc) (henv : env.locals = sc.heap.objs.size) (gobj : ∀ h : Heap, h.get? a = some go → h.IsGen a gi) (hSc : Hc S = none) (hSo : S ≠ a) (hSs : sc.heap.objs.size ≤ S)
    (hx : PassesAt (L2.CX X.prog X.w) X σ E) (hns : NoStop X.K E) (hWE : ∀ cls d H', Wi.ex cls d H' → E cls d H')
    (hok : ∀ s', EP X pins σ Q (.ref S) s' → R (.ok (.ret .none)) s') (herr : ∀ e s', X.xe e s' → R (.error e) s')
    (I : Addr → Nat → Nat → List V → Hp → (Addr → Prop) → Prop) (turn : ∀ p i n ys H Kp, Hc p = none → ¬ Kp p → I p i n ys H Kp → ys.length < sizeLine ∧
      (∀ H1 Kp' x H2, Stp H Kp H1 Kp' → ¬ Kp' p → Wi.yl i x H1 → (∀ b, b ≠ p → H2 b = H1 b) → (∃ o, H2 p = some (exO p o)) → ∃ n', n' < n ∧ I p (i + 1) n' (ys ++ [x]) H2 Kp') ∧
      (∀ H1, (∀ b o, H b = some o → ¬ Kp b → H1 b = some o) → (∀ b xs, H b = some (.tup xs) → H1 b = some (.tup xs)) → Wi.fin i H1 → Q (.ref p) (upd H1 p (.lst ys)))) :
    ∀ (n i mi : Nat) (ys : List V) (H : Hp) (s : Shared) (own : Addr → Prop) (acc : Array Value) (c : Nat), n ≤ mi → Inv X pins σ H s → Un (frs X.stack) [] Hc H sc.heap s.heap → s.os = sc.os → H S = some (exO S (lstObj acc c)) → Vals ys acc.toList →
      Slp ⟨X.prog, X.w, X.K, X.mg, X.base, N, env, B.in1.in1, X.stack, gi, a, go⟩ Wi mi i own H s → (∀ b, own b → H b ≠ none) → ¬ own S → I S i n ys H (fun b => own b ∨ b = a) →
      codeAny (model X.prog X.w) B (.builtin "list.extend.loop" ⟨[.ref S, .ref a, .none], []⟩) R s := by
  obtain ⟨Gi, hGi⟩ : ∃ Gi : Ins, Gi = ⟨X.prog, X.w, X.K, X.mg, X.base, N, env, B.in1.in1, X.stack, gi, a, go⟩ := ⟨_, rfl⟩
  rw [← hGi]
  have old : Old X pins env.locals := by rw [henv]; exact Old.of Ic
  intro n
  induction n using Nat.strongRecOn with
  | ind n ih =>
    intro i mi ys H s own acc c hnm Is U hos hS rv sl hown hoS hi
    have hSK : ¬ (own S ∨ S = a) := fun z => z.elim hoS hSo
    obtain ⟨hlen, step, fin⟩ := turn S i n ys H _ hSc hSK hi
    have hsz : acc.size = ys.length := by
      have e1 := rv.length
      simpa using e1.symm
    obtain ⟨self, nself, x, hx0, hT⟩ := sl
    have eg : Gi.g = gi := by rw [hGi]
    have eA : Gi.A = B.in1.in1 := by rw [hGi]
    have ea : Gi.a = a := by rw [hGi]
    have ego : Gi.go = go := by rw [hGi]
    have eP : Gi.P = X.prog := by rw [hGi]
    have ew : Gi.w = X.w := by rw [hGi]
    rw [ea, ego] at self
    rw [ea] at nself
    rw [eg] at hx0
    rw [eP, ew, eA] at hT
    have overI : ∀ {H1 : Hp} {s1 : Shared} {g' : Array GenState}, Over Gi own H (s.setGen Gi.g .running) H1 s1 → AllBare g' → Inv X pins σ H1 { s1 with gens := g' } ∧ Un (frs X.stack) [] Hc H1 sc.heap s1.heap ∧ s1.os = sc.os := fun {H1 s1 g'} V hg' => by
      subst hGi
      exact ⟨inv_over (G := ⟨X.prog, X.w, X.K, X.mg, X.base, N, env, B.in1.in1, X.stack, gi, a, go⟩) (sw := s.setGen gi .running) rfl rfl rfl hex Is old rfl rfl V hg', un_over (Nat.le_of_eq henv.symm) U V.un, V.os.trans hos⟩
    refine codeAny_builtin F.entry_extend_loop ?_
    rw [Around.under_plainId F.plain_extend_loop _]
    show wpAny _ B.in1 (pyNext (.ref a) >>= _) _ _ s
    refine wpAny_bind (next_turn (Φ := Post Gi Wi (Nxt Gi Wi mi) i own H (s.setGen Gi.g .running)) hh Is.nolimit hroom (gobj _ (exO_get (Is.hok a _ self))) hx0 (by rw [eg] at hT ⊢; exact hT) post_quiet (fun v gd l kk c' p'' fs' s1 hY => ?_) (fun f s1 hP => ?_) fun e s1 hE => ?_)
    · obtain ⟨hq, xv, own', H1, rvx, V, v1, v2, v3, v4⟩ := hY
      obtain ⟨I1, U1, os1⟩ := overI V (bare_set V.bare (g := gi) (End.bare_of_quiet hq))
      have H1a : H1 a = some (exO a go) := V.same a _ self nself
      have H1S : H1 S = some (exO S (lstObj acc c)) := V.same S _ hS hoS
      have hS1 : s1.heap.get? S = some (lstObj acc c) := exO_get (I1.hok S _ H1S)
      have noS : ¬ own' S := fun z => by
        rcases v1 S z with q | q
        · exact hoS q
        · rw [hS] at q; cases q
      have noa : ¬ own' a := fun z => by
        rcases v1 a z with q | q
        · exact nself q
        · rw [self] at q; cases q
      have stp : Stp H (fun b => own b ∨ b = a) H1 (fun b => own' b ∨ b = a) := ⟨fun b o e hn => V.same b o e fun z => hn (.inl z), V.un.tups, fun b hb => by
          rcases hb with hb | hb
          · rcases v1 b hb with z | z
            · exact .inl (.inl z)
            · exact .inr z
          · exact .inl (.inr hb), fun b hb => by
          rcases hb with hb | hb
          · exact v2 b hb
          · rw [hb, H1a]; exact fun z => by cases z⟩
      have hasz : acc.size < sizeLine := by omega
      show wpAny _ B.in1 (updateSeq S (·.push v) >>= _) _ _ _
      refine wpAny_bind ?_
      refine wpAny_updateSeq (s := s1.setGen gi (End.susp v gd l kk c' p'' fs').genState) hS1 rfl (wpAny_pure ⟨plainId_quiet F.plain_extend_loop _, ?_⟩) (Nat.le_of_lt hasz) (by show (acc.push v).size ≤ sizeLine + 1; rw [Array.size_push]; omega)
      have hnew := Heap.get?_update_self (Obj.mapSeq (·.push v)) hS1 rfl
      have hk : ∀ b o, b ≠ S → s1.heap.get? b = some o → (s1.heap.update S (Obj.mapSeq (·.push v))).get? b = some o := fun b o hb e => (Heap.get?_update_other _ _ (Ne.symm hb)).trans e
      have mu : Mut (H1 S) := by rw [H1S]; trivial
      have I3 := I1.write (x := S) (e := S) (o := exO S (lstObj (acc.push v) _)) (t' := s1.toks) (h' := s1.heap.update S (Obj.mapSeq (·.push v))) mu (.inl rfl) hk ⟨_, hnew⟩ (exO_ok hnew)
      have U3 := U1.trans (Un.write (fs := frs X.stack) (ex := []) (x := S) (e := S) (o := exO S (lstObj (acc.push v) (if (acc.push v).size == acc.size then c else c + 1))) mu (.inl rfl) hk ⟨_, hnew⟩)
      obtain ⟨n', hn, hi'⟩ := step H1 _ xv (upd H1 S (exO S (lstObj (acc.push v) (if (acc.push v).size == acc.size then c else c + 1)))) stp (fun z => z.elim noS hSo) v3 (fun b hb => upd_ne hb) ⟨_, upd_same⟩
      cases mi with
      | zero => exact absurd (Nat.lt_of_lt_of_le hn hnm) (Nat.not_lt_zero _)
      | succ mi =>
        have hgl : gi < s1.gens.size := by
          have e0 : (s.setGen gi .running).gens.size = s.gens.size := by show (s.gens.setIfInBounds gi .running).size = _; simp
          have z := V.slp.1
          rw [eg, e0] at z
          exact Nat.lt_of_lt_of_le (Array.getElem?_eq_some_iff.mp hx0).1 z
        have tab : (s1.gens.setIfInBounds gi (End.susp v gd l kk c' p'' fs').genState)[gi]? = some (End.susp v gd l kk c' p'' fs').genState := Array.getElem?_setIfInBounds_self_of_lt hgl
        have h3a : upd H1 S (exO S (lstObj (acc.push v) (if (acc.push v).size == acc.size then c else c + 1))) a = some (exO a go) := by rw [upd_ne (Ne.symm hSo)]; exact H1a
        refine ih n' hn (i + 1) mi (ys ++ [xv]) _ { s1.setGen gi (End.susp v gd l kk c' p'' fs').genState with heap := s1.heap.update S (Obj.mapSeq (·.push v)) } own' (acc.push v) (if (acc.push v).size == acc.size then c else c + 1) (by omega) I3 U3 os1 upd_same ?_ ⟨by rw [ea, ego]; exact h3a, by rw [ea]; exact noa, _, by rw [eg]; exact tab, ?_⟩ (fun b hb => ?_) noS hi'
        · rw [Array.toList_push]
          exact rv.append (.cons rvx .nil)
        · refine v4 _ _ ?_
          subst hGi
          refine wk_of (G := ⟨X.prog, X.w, X.K, X.mg, X.base, N, env, B.in1.in1, X.stack, gi, a, go⟩) rfl rfl rfl rfl I3 (fun b hb => upd_ne fun z => noS (by rw [← z]; exact hb)) h3a (fun b xs e => ?_) SleepBut.set (Array.getElem?_eq_some_iff.mp tab).1
          rw [upd_ne fun z => by rw [z, H1S] at e; exact exO_tup (Option.some.inj e)]; exact e
        · rw [upd_ne fun z => noS (by rw [← z]; exact hb)]; exact v2 b hb
    · obtain ⟨rfl, H1, V, hf⟩ := hP
      refine ⟨rfl, fun h' hk' => wpAny_pure (hok _ ?_)⟩
      obtain ⟨I1, U1, os1⟩ := overI V (bare_set V.bare (g := gi) (x := .finished) rfl)
      have I2 : Inv X pins σ H1 { s1.setGen gi .finished with heap := h' } := I1.kept (t' := s1.toks) hk'
      have H1S : H1 S = some (exO S (lstObj acc c)) := V.same S _ hS hoS
      have hS1 : h'.get? S = some (lstObj acc c) := exO_get (I2.hok S _ H1S)
      have I3 := I2.write (x := S) (e := S) (o := .lst ys) (t' := s1.toks) (h' := h') (by rw [H1S]; trivial) (.inl rfl) (fun b u _ e => e) ⟨_, hS1⟩ ⟨Nat.le_of_lt hlen, acc.toList, c, rv, by rw [hS1]⟩
      exact ⟨.ref S, _, I3, rfl, fin H1 (fun b o e hn => V.same b o e fun z => hn (.inl z)) V.un.tups hf⟩
    · obtain ⟨dom, hd, hc, hsl⟩ := hE
      have hcx : CX X.prog X.w X.stack Hc sc E e s1 := by
        subst hGi
        exact cx_over (Nat.le_of_eq henv.symm) Ic.stkFree U rfl hos hd hc fun cls d H' q => hWE cls d H' q.2
      have kin : X.K.In s1.heap := by
        obtain ⟨_, B1, H', cls, d, _, fl, _, ub, _⟩ := id hcx
        refine Ic.ok.mod.kin.keeps fun b o eb => fl.1 b o (ub.keep b o (Ic.bs b o eb).1 (Ic.bs b o eb).2 fun hm => ?_)
        rcases List.mem_cons.mp (Ic.stkSub b hm) with z | z
        · have h1 := Heap.lt_size eb
          have h2 := Nat.le_trans Ic.ok.bsz Ic.ok.above
          rw [z] at h1
          exact absurd (Nat.lt_of_lt_of_le h1 h2) (Nat.lt_irrefl _)
        · exact Ic.ok.nofr eb z
      refine ⟨?_, notStop_of hns kin hcx, herr e _ (hx pins Hc sc e _ Ic ?_)⟩
      · obtain ⟨_, B1, H', cls, d, _, fl, okB, _, _, _, _, q⟩ := hc
        have z : H' a = some (exO a go) := by rw [← ea, ← ego]; exact q.1
        exact gobj _ (fl.1 a go (exO_get (okB a _ z)))
      · obtain ⟨a', B1, H', cls, d, z1, fl, z2, ub, z3, z4, z5, z6⟩ := hcx
        exact ⟨a', B1, H', cls, d, z1, fl, z2, ub, z3, z4, bare_set z5 rfl, z6⟩

/-- list(it) of a generator, up to its loop -/
theorem list_setup {P : Program} {w : World} {A : Around} {s : Shared} {a : Addr} {g : Nat} {Q : Value → Shared → Prop} {E : Value → Shared → Prop} (hg : s.heap.IsGen a g) (hne : s.heap.objs.size ≠ a)
    (h : ∀ (h4 : Heap) (R : Result → Shared → Prop), (∀ b o, s.heap.get? b = some o → h4.get? b = some o) → (∃ c, h4.get? s.heap.objs.size = some (lstObj #[] c)) → (∀ s', Q (.ref s.heap.objs.size) s' → R (.ok (.ret .none)) s') → (∀ e s', E e s' → R (.error e) s') →
      codeAny (model P w) A.in1 (.builtin "list.extend.loop" ⟨[.ref s.heap.objs.size, .ref a, .none], []⟩) R { s with heap := h4 }) : wpAny (model P w) A (call (.type "list") [.ref a]) Q E s := by
  refine callType_codes (Q₁ := fun obj s₁ => obj = .ref s.heap.objs.size ∧ s₁ = { s with heap := s.heap.push { cls := .type "list", data := .seq #[] } }) F.called_list (F.typeCall_list_1 _) F.entry_list_init (code_list_new _ ⟨rfl, rfl⟩) fun obj s₁ h₁ => ?_
  obtain ⟨rfl, rfl⟩ := h₁
  have g0 : (s.heap.push { cls := .type "list", data := .seq #[] }).get? s.heap.objs.size = some { cls := .type "list", data := .seq #[] } := Heap.get?_push_size _ rfl
  refine ⟨⟨_, g0, rfl⟩, F.args_list_init_2 _ _, ?_⟩
  show wpAny _ A.in1.in1 (Builtin.List.listItems (.ref s.heap.objs.size) >>= fun old => Builtin.List.listUpdate (.ref s.heap.objs.size) (fun _ => #[]) >>= fun _ => letGo old.toList.reverse >>= fun _ => Builtin.List.listExtendWith (.ref s.heap.objs.size) (.ref a) .none) _ _ _
  refine wpAny_bind ?_
  unfold Builtin.List.listItems
  refine wpAny_bind (wpAny_seqItems g0 rfl (wpAny_pure ?_))
  show wpAny _ A.in1.in1 (updateSeq s.heap.objs.size (fun _ => #[]) >>= fun _ => letGo (#[] : Array Value).toList.reverse >>= fun _ => _) _ _ _
  refine wpAny_bind (wpAny_updateSeq g0 rfl ?_)
  have g1 := Heap.get?_update_self (Obj.mapSeq (fun _ => (#[] : Array Value))) g0 rfl
  refine wpAny_bind (wpAny_letGo ?_)
  unfold Builtin.List.listExtendWith
  have step : ∀ (h : Heap) (f : Obj → Obj), (∀ b o, s.heap.get? b = some o → h.get? b = some o) → ∀ b o, s.heap.get? b = some o → (h.update s.heap.objs.size f).get? b = some o := fun h f q b o e =>
    (Heap.get?_update_other _ _ fun z => absurd (Heap.lt_size e) (by rw [z]; exact Nat.lt_irrefl _)).trans (q b o e)
  have k1 := step _ (Obj.mapSeq (fun _ => (#[] : Array Value))) fun b o e => Heap.get?_push_of_some { cls := .type "list", data := .seq #[] } e
  have ty : ∀ (h : Heap), (∀ b o, s.heap.get? b = some o → h.get? b = some o) → ({ s with heap := h } : Shared).TypeIs (.ref a) "generator" := fun h q => Heap.IsGen.typeIs (s := { s with heap := h }) (hg.keeps q)
  refine wpAny_bind (wpAny_typeOf (ty _ k1) ?_)
  have n1 : Builtin.List.listSameRef (.ref s.heap.objs.size) (.ref a) = false := by simp [Builtin.List.listSameRef, hne]
  have n2 : (Value.type "generator" == Value.type "list") = false := by decide
  have n3 : (Value.type "generator" == Value.type "tuple") = false := by decide
  simp only [n1, n2, n3, Bool.or_false, Bool.false_eq_true, if_false]
  refine wpAny_bind (wpAny_pyIter_gen (s := { s with heap := _ }) (hg.keeps k1) ?_)
  refine wpAny_bind (wpAny_holding ?_)
  unfold Builtin.List.listLengthHint
  refine wpAny_bind (wpAny_specialOf (ty _ k1) F.gen_no_len ?_)
  show wpAny _ A.in1.in1 (specialOf (Value.ref a) (Str.ofString "__length_hint__") >>= _) _ _ _
  refine wpAny_bind (wpAny_specialOf (ty _ k1) F.gen_no_hint (wpAny_pure ?_))
  show wpAny _ A.in1.in1 (rule "list.extend.makes-room" >>= fun _ => Builtin.List.listTouch (.ref s.heap.objs.size) >>= fun _ => again (.builtin "list.extend.loop" ⟨[.ref s.heap.objs.size, .ref a, .none], []⟩)) _ _ _
  refine wpAny_bind (wpAny_rule (wpAny_bind ?_))
  show wpAny _ A.in1.in1 (updateSeq s.heap.objs.size (·.push .none) >>= fun _ => updateSeq s.heap.objs.size (·.pop)) _ _ _
  refine wpAny_bind (wpAny_updateSeq g1 rfl ?_)
  have g2 := Heap.get?_update_self (Obj.mapSeq (·.push Value.none)) g1 rfl
  refine wpAny_updateSeq (hz := by seq_fits) g2 rfl ?_
  have g3 := Heap.get?_update_self (Obj.mapSeq (·.pop)) g2 rfl
  refine wpAny_pure ⟨plainId_quiet F.plain_extend_loop _, ?_⟩
  exact h _ _ (step _ (Obj.mapSeq (·.pop)) (step _ (Obj.mapSeq (·.push Value.none)) k1)) ⟨_, g3⟩ (fun s' q => ⟨rfl, q⟩) fun e s' q => q
theorem call_list2 {mk : TGen2} {u : Value} {Hc : Hp} {sc s1 : Shared} {Wi : Wish} {N : List Str} {env : Env} {gi : Nat} {a : Addr} {go : Obj} {ci : Code} {Q : VK} {E : XK} (hex : X.ex = []) (hr : Room (k + 3) X.A) (Ic : Inv X pins σ Hc sc)
    (M : Made X.prog X.w X.K X.mg X.base k X.stack Hc Wi sc u s1 N env gi a go ci) (hx : PassesAt (L2.CX X.prog X.w) X σ E) (hns : NoStop X.K E) (hWE : ∀ cls d H', Wi.ex cls d H' → E cls d H')
    (h : ∃ (n0 : Nat) (I : Addr → Nat → Nat → List V → Hp → (Addr → Prop) → Prop),
      (∀ (p : Addr) (H0 : Hp) (Kp : Addr → Prop), Hc p = none → ¬ Kp p → (∃ o, H0 p = some (exO p o)) → (∀ b o, Hc b = some o → H0 b = some o) → (∀ b, Kp b → Hc b = none ∧ H0 b ≠ none) → I p 0 n0 [] H0 Kp) ∧
      ∀ p i n ys H Kp, Hc p = none → ¬ Kp p → I p i n ys H Kp → ys.length < sizeLine ∧
        (∀ H1 Kp' x H2, Stp H Kp H1 Kp' → ¬ Kp' p → Wi.yl i x H1 → (∀ b, b ≠ p → H2 b = H1 b) → (∃ o, H2 p = some (exO p o)) → ∃ n', n' < n ∧ I p (i + 1) n' (ys ++ [x]) H2 Kp') ∧
        (∀ H1, (∀ b o, H b = some o → ¬ Kp b → H1 b = some o) → (∀ b xs, H b = some (.tup xs) → H1 b = some (.tup xs)) → Wi.fin i H1 → Q (.ref p) (upd H1 p (.lst ys)))) :
    wpAny (model X.prog X.w) X.A (call (.type "list") [u]) (EP X pins σ Q) X.xe s1 := by
  have hval := M.val
  subst hval
  obtain ⟨n0, I, start, turn⟩ := h
  have adom : a ∉ domOf env [] := fun z => (M.dom_lt a z).2.1 rfl
  have I1 := inv_made Ic M
  have hSs : sc.heap.objs.size ≤ s1.heap.objs.size := Nat.le_trans (made_sz M) (Nat.le_of_lt M.a_in)
  have hne : s1.heap.objs.size ≠ a := Nat.ne_of_gt M.a_in
  have gobj : ∀ h : Heap, h.get? a = some go → h.IsGen a gi := M.gen
  refine list_setup (g := gi) (gobj _ M.obj) hne fun h4 R k4 ⟨c, hc4⟩ hR1 hR2 => ?_
  have hS0 : madeH env s1.heap a go Hc s1.heap.objs.size = none := I1.hok.fresh (Nat.le_refl _)
  have I4 := I1.laid (a := s1.heap.objs.size) (o := exO s1.heap.objs.size (lstObj #[] c)) (t' := s1.toks) k4 (Nat.le_refl _) (exO_ok hc4)
  have U4 : Un (frs X.stack) [] Hc (upd (madeH env s1.heap a go Hc) s1.heap.objs.size (exO s1.heap.objs.size (lstObj #[] c))) sc.heap h4 := by
    have old : ∀ {b : Addr}, b < sc.heap.objs.size → upd (madeH env s1.heap a go Hc) s1.heap.objs.size (exO s1.heap.objs.size (lstObj #[] c)) b = Hc b := fun {b} hb => by
      rw [upd_ne (Nat.ne_of_lt (Nat.lt_of_lt_of_le hb hSs))]
      exact madeH_old (n := sc.heap.objs.size) (fun b hb => (M.dom_lt b hb).1) (made_sz M) hb
    have kk : ∀ b o, sc.heap.get? b = some o → h4.get? b = some o := fun b o e => k4 b o (M.keep b o e)
    exact ⟨fun b o e _ _ _ => kk b o e, fun b o e _ _ _ => ⟨o.slots, kk b o e⟩, fun b o e n _ => by rw [old (Heap.lt_size e)]; exact n, fun b o e _ => ⟨o, kk b o e⟩, fun b xs e => by rw [old (Ic.hok.lt e)]; exact e,
      fun b o u e => by rw [old (Ic.hok.lt e)]; exact e, fun b ps e => ⟨#[], by rw [old (Ic.hok.lt e), e]; simp⟩⟩
  have hcS : Hc s1.heap.objs.size = none := Ic.hok.fresh hSs
  have hself : upd (madeH env s1.heap a go Hc) s1.heap.objs.size (exO s1.heap.objs.size (lstObj #[] c)) a = some (exO a go) := by rw [upd_ne (Ne.symm hne)]; exact madeH_self adom
  have domS : ∀ b ∈ domOf env [], b ≠ s1.heap.objs.size := fun b hb => by
    obtain ⟨_, _, o, ho⟩ := M.dom_lt b hb
    exact Nat.ne_of_lt (Heap.lt_size ho)
  have nown : ∀ b, ownOf (domOf env []) (fun _ => False) b → b ∈ domOf env [] := fun b hb => hb.elim id fun z => z.elim
  have hK : ∀ b : Addr, (ownOf (domOf env []) (fun _ => False) b ∨ b = a) → Hc b = none ∧ upd (madeH env s1.heap a go Hc) s1.heap.objs.size (exO s1.heap.objs.size (lstObj #[] c)) b ≠ none := fun b hb => by
    rcases hb with hb | hb
    · have hb' := nown b hb
      obtain ⟨z1, _, o, z3⟩ := M.dom_lt b hb'
      exact ⟨Ic.hok.fresh z1, by rw [upd_ne (domS b hb'), madeH_dom (h := s1.heap) hb' z3]; exact fun z => by cases z⟩
    · rw [hb]
      exact ⟨Ic.hok.fresh (made_sz M), by rw [hself]; exact fun z => by cases z⟩
  have hsame : ∀ b o, Hc b = some o → upd (madeH env s1.heap a go Hc) s1.heap.objs.size (exO s1.heap.objs.size (lstObj #[] c)) b = some o := fun b o e => by
    rw [upd_ne (ne_of_none e hcS), madeH_old (n := sc.heap.objs.size) (fun b hb => (M.dom_lt b hb).1) (made_sz M) (Ic.hok.lt e)]; exact e
  have hKS : ¬ (ownOf (domOf env []) (fun _ => False) s1.heap.objs.size ∨ s1.heap.objs.size = a) := fun z => z.elim (fun q => domS _ (nown _ q) rfl) hne
  refine drain2 (N := N) (B := X.A.in1) hex hr.hd (by have := hr.dp; show X.A.depth < _; omega) Ic M.env_eq gobj hcS hne hSs hx hns hWE hR1 hR2 I turn n0 0 n0 [] _ { s1 with heap := h4 } (ownOf (domOf env []) fun _ => False) #[] c (Nat.le_refl _) I4 U4 M.os upd_same .nil
    ⟨hself, fun z => adom (nown _ z), _, M.tab, ?_⟩ (fun b hb => (hK b (.inl hb)).2) (fun z => domS _ (nown _ z) rfl) (start _ _ _ hcS hKS ⟨_, upd_same⟩ hsame hK)
  refine M.first _ n0 _ { s1 with heap := h4 } ⟨hr.hd, ?_, ?_⟩ I1.ok.frames hsame ?_
  · have := hr.dp
    show X.A.depth + 3 * k + 5 < _
    omega
  · have := hr.un
    show X.A.units + 1 + 1 + 1 + 16 * k + 200 < _
    omega
  · refine wk_of (G := ⟨X.prog, X.w, X.K, X.mg, X.base, N, env, X.A.in1.in1.in1, X.stack, gi, a, go⟩) rfl rfl rfl rfl I4 (fun b hb => upd_ne (domS b (nown b hb))) hself (fun b xs e => ?_) ⟨Nat.zero_le _, fun i x _ q => (nomatch q)⟩ (Array.getElem?_eq_some_iff.mp M.tab).1
    rw [upd_ne (ne_of_none e hS0)]; exact e
/-- list(g) as an expression -/
theorem pe_list2 {p pos : Pos} {e : Expr} {mk : TGen2} {E : L2.St → XK} {nm : Str} (hex : X.ex = []) (h : PGen2 X k e mk) (hx : ∀ σ, PassesAt (L2.CX X.prog X.w) X σ (E σ)) (hns : ∀ σ, NoStop X.K (E σ)) (hr : Room (k + 3) X.A) (hg : Gl X nm) (hmg : X.mg nm = none) (hv : bootBuiltins nm = some (.type "list"))
    (hnm : nm ≠ "__name__" := by decide) (hdb : (nm == ("__debug__" : Str)) = false := by decide) (he : starEach [e] X.env = (false, eval e X.env) :: starEach [] X.env := by rfl) :
    PE X (.Call (.Name nm p) [e] [] pos) (fun σ H Q => mk σ H fun Hc Wi => (∀ cls d H', Wi.ex cls d H' → E σ cls d H') ∧ ∃ (n0 : Nat) (I : Addr → Nat → Nat → List V → Hp → (Addr → Prop) → Prop),
      (∀ (p : Addr) (H0 : Hp) (Kp : Addr → Prop), Hc p = none → ¬ Kp p → (∃ o, H0 p = some (exO p o)) → (∀ b o, Hc b = some o → H0 b = some o) → (∀ b, Kp b → Hc b = none ∧ H0 b ≠ none) → I p 0 n0 [] H0 Kp) ∧
      ∀ p i n ys H Kp, Hc p = none → ¬ Kp p → I p i n ys H Kp → ys.length < sizeLine ∧
        (∀ H1 Kp' x H2, Stp H Kp H1 Kp' → ¬ Kp' p → Wi.yl i x H1 → (∀ b, b ≠ p → H2 b = H1 b) → (∃ o, H2 p = some (exO p o)) → ∃ n', n' < n ∧ I p (i + 1) n' (ys ++ [x]) H2 Kp') ∧
        (∀ H1, (∀ b o, H b = some o → ¬ Kp b → H1 b = some o) → (∀ b xs, H b = some (.tup xs) → H1 b = some (.tup xs)) → Wi.fin i H1 → Q (.ref p) (upd H1 p (.lst ys)))) := by
  refine ⟨fun pins s σ H Q I hq => ?_⟩
  refine wpAny_Call_Name_kw (ld_blt I hg hmg hv ?_ hnm hdb)
  refine PyProof.Rows.callWith_type1 ?_ he rfl
  rw [he]
  show wpAny _ _ (spliced ((false, eval e X.env) :: backTo pos (starEach [] X.env))) _ _ s
  refine Calls.spliced_cons (thn (h.run pins s σ H _ I hq) fun u s1 ⟨H1, sc, Wi, N, env, gi, a, go, ci, _, I1, M, hW, hI⟩ => ?_)
  exact Calls.spliced_nil (call_list2 (mk := mk) hex hr I1 M (hx σ) (hns σ) hW hI)
end
end GN

set_option Elab.async false
set_option linter.all false
set_option maxRecDepth 100000
namespace K8
open PySem PyProof.Rows L2 GenW GN
def top (i : Nat) : Stmt := PySem.Challenge.pw_leastknobs_k68_own_words_listed.main.body.getD i (.Pass ⟨0, 0, 0, 0⟩)
abbrev sBadI : Stmt := inClass (top 2) 0
abbrev sManyI : Stmt := inClass (top 3) 0
abbrev sDigit : Stmt := top 6
abbrev sLetter : Stmt := top 7
abbrev sInner : Stmt := top 8
abbrev sWords : Stmt := top 9
abbrev sIsName : Stmt := top 13
abbrev sNameList : Stmt := top 14
abbrev sChecked : Stmt := top 15
abbrev sWithin : Stmt := top 18
abbrev sLen : Stmt := top 19
abbrev sOwn : Stmt := top 21
abbrev sBox : Stmt := top 23
abbrev sDraw : Stmt := top 24
abbrev sName : Stmt := top 25
abbrev sNames : Stmt := top 26
abbrev sRows : Stmt := top 27
abbrev sOwnP : Stmt := top 28
abbrev sCut : Stmt := top 29
abbrev sIndex : Stmt := top 30
abbrev sDue : Stmt := top 31
abbrev sBound : Stmt := top 32
abbrev sListed : Stmt := top 33
abbrev sTold : Stmt := top 34
abbrev sLaw : Stmt := top 35

/-! ### signs -/
def sg (c : Nat) : Str := ⟨#[c]⟩
def dgB (c : Nat) : Bool := decide (48 ≤ c ∧ c ≤ 57)
def ltB (c : Nat) : Bool := decide (65 ≤ c ∧ c ≤ 90) || decide (97 ≤ c ∧ c ≤ 122)
def inB (c : Nat) : Bool := ltB c || dgB c || decide (c = 95)
theorem one_lt (a b : Nat) : decide ([a] < [b]) = decide (a < b) := by
  by_cases h : a < b
  · rw [decide_eq_true h]
    exact decide_eq_true (List.cons_lt_cons_iff.mpr (.inl h))
  · rw [decide_eq_false h]
    refine decide_eq_false fun z => ?_
    rcases List.cons_lt_cons_iff.mp z with z | ⟨_, z⟩
    · exact h z
    · cases z
theorem not_lt' (a b : Nat) : (!decide (a < b)) = decide (b ≤ a) := by
  by_cases h : a < b
  · rw [decide_eq_true h, decide_eq_false (by omega)]; rfl
  · rw [decide_eq_false h, decide_eq_true (by omega)]; rfl
theorem range_b (lo hi c : Nat) : (if (!decide ([c] < [lo])) = true then (!decide ([hi] < [c])) else false) = decide (lo ≤ c ∧ c ≤ hi) := by
  rw [one_lt, one_lt, not_lt', not_lt']
  by_cases h : lo ≤ c
  · by_cases h2 : c ≤ hi
    · simp [h, h2]
    · simp [h, h2]
  · simp [h]
def spDigit : Sp := fun vs H Q _ => ∃ c, vs = [.str (sg c)] ∧ Q (.bl (dgB c)) H
def spLetter : Sp := fun vs H Q _ => ∃ c, vs = [.str (sg c)] ∧ Q (.bl (ltB c)) H
def spInner : Sp := fun vs H Q _ => ∃ c, vs = [.str (sg c)] ∧ Q (.bl (inB c)) H
def noE' (s : Str) : Bool := !decide (s = "")
def wordsOf (x : Str) : List Str := (PySem.Txt.split x " ").filter noE'
/-- a new list -/
def NewL (H : Hp) (xs : List V) (Q : VK) : Prop := ∀ H' p, Same H H' → H p = none → H' p = some (.lst xs) → Q (.ref p) H'
def spWords : Sp := fun vs H Q _ => ∃ x : Str, vs = [.str x] ∧ x.length + 2 ≤ sizeLine ∧ NewL H ((wordsOf x).map V.str) Q
section
variable {P : Program} {w : World} {K : PySem.W.Frag} {mg : Str → Option Value} {base : Heap}
theorem scD : FnScope ["sign"] ["sign"] (defScope sDigit) := ⟨rfl, rfl, rfl, by decide +kernel, rfl, by decide +kernel, by decide +kernel⟩
def rLeS : R2 := fun x y H Q => ∃ i j : Str, x = .str i ∧ y = .str j ∧ Q (.bl (!decide (j.cps.toList < i.cps.toList))) H
theorem chain_ok {H : Hp} {Q : VK} {lo hi c : Nat} {σ : L2.St} {a b : Str} (ea : a = sg lo) (eb : b = sg hi) (e0 : σ[0]? = some (some (.str (sg c)))) (q : Q (.bl (decide (lo ≤ c ∧ c ≤ hi))) H) : tChain rLeS rLeS (tC (.str a)) (tVar 0) (tC (.str b)) σ H Q := by
  subst ea eb
  refine ⟨_, e0, _, _, rfl, rfl, _, rfl, ?_⟩
  have e := range_b lo hi c
  by_cases h : (!decide ([c] < [lo])) = true
  · rw [if_pos h] at e
    rw [if_pos (show (!decide ((sg c).cps.toList < (sg lo).cps.toList)) = true from h)]
    refine ⟨_, _, rfl, rfl, ?_⟩
    show Q (.bl (!decide ([hi] < [c]))) H
    rw [e]; exact q
  · rw [if_neg h] at e
    rw [if_neg (show ¬ (!decide ((sg c).cps.toList < (sg lo).cps.toList)) = true from h), e]
    exact q
theorem ok_digit {f : Addr} {fd : FuncData} (F : Fun K "is_digit" "is_digit" sDigit f fd) : FnOk P w K mg base CX0 1 f fd ["sign"] spDigit := by
  refine F.ok scD (fun vs H Q E h => ?_) (fun cdv A outer s H vs Q E hr h => ?_)
  · obtain ⟨c, rfl, _⟩ := h
    rfl
  · obtain ⟨c, rfl, q⟩ := h
    refine ⟨_, pss_one (ps_ret (pe_chain (r := rLeS) (r' := rLeS) op_le_str op_le_str pe_str (pv 0) pe_str)), ?_⟩
    exact chain_ok (lo := 48) (hi := 57) (by decide +kernel) (by decide +kernel) rfl q
theorem scLt : FnScope ["sign"] ["sign"] (defScope sLetter) := ⟨rfl, rfl, rfl, by decide +kernel, rfl, by decide +kernel, by decide +kernel⟩
end
end K8

set_option Elab.async false
set_option linter.all false
set_option maxRecDepth 100000
namespace K8
open PySem PyProof.Rows L2 GenW GN
theorem bt_len : bootBuiltins "len" = some (.builtin "len") := by decide +kernel
theorem bt_isi : bootBuiltins "isinstance" = some (.builtin "isinstance") := by decide +kernel
theorem bt_all : bootBuiltins "all" = some (.builtin "all") := by decide +kernel
theorem bt_max : bootBuiltins "max" = some (.builtin "max") := by decide +kernel
theorem bt_min : bootBuiltins "min" = some (.builtin "min") := by decide +kernel
theorem bt_abs : bootBuiltins "abs" = some (.builtin "abs") := by decide +kernel
theorem bt_int : bootBuiltins "int" = some (.type "int") := by decide +kernel
theorem bt_str : bootBuiltins "str" = some (.type "str") := by decide +kernel
theorem bt_list : bootBuiltins "list" = some (.type "list") := by decide +kernel
theorem bt_tuple : bootBuiltins "tuple" = some (.type "tuple") := by decide +kernel
/-- what the module's names are -/
structure Txt (mg : Str → Option Value) : Prop where
  len : mg "len" = none
  isi : mg "isinstance" = none
  all : mg "all" = none
  max : mg "max" = none
  min : mg "min" = none
  abs : mg "abs" = none
  int : mg "int" = none
  str : mg "str" = none
  list : mg "list" = none
  tuple : mg "tuple" = none
  range : mg "range" = none
/-- a def that is called by its name -/
structure Fn (K : PySem.W.Frag) (mg : Str → Option Value) (x : Str) (st : Stmt) (ps : List Str) (f : Addr) (fd : FuncData) : Prop where
  F : Fun K x x st f fd
  b : Binds K fd ps []
  g : mg x = some (.ref f)
theorem seqT {K : PySem.W.Frag} {H H' : Hp} {a : Addr} {xs : List V} (e : Same H H') (h : SqT K H a xs) : SqT K H' a xs := by
  rcases h with (h | ⟨o, h⟩) | h
  · exact .inl (.inl (e _ _ h))
  · exact .inl (.inr ⟨o, e _ _ h⟩)
  · exact .inr h
theorem same_new {H : Hp} {p : Addr} {o : HO} (h : H p = none) : Same H (upd H p o) := fun b u e => by
  rw [upd_ne (ne_of_none e h)]; exact e
theorem same_upd {H H1 : Hp} {p : Addr} {o : HO} (h : H p = none) (s : Same H H1) : Same H (upd H1 p o) := fun b u e => by
  rw [upd_ne (ne_of_none e h)]; exact s b u e
theorem take1 {α : Type} {l : List α} {i : Nat} {x : α} (h : l[i]? = some x) : l.take (i + 1) = l.take i ++ [x] := by
  rw [List.take_succ, h]; rfl
theorem filt1 {α : Type} {l : List α} {i : Nat} {x : α} (p : α → Bool) (h : l[i]? = some x) : (l.take (i + 1)).filter p = (l.take i).filter p ++ (if p x = true then [x] else []) := by
  rw [take1 h, List.filter_append]
  congr 1
  cases e : p x
  · rw [if_neg Bool.false_ne_true]; exact List.filter_cons_of_neg (by rw [e]; exact Bool.false_ne_true)
  · rw [if_pos rfl]; exact List.filter_cons_of_pos e
theorem map_at {α β : Type} {l : List α} {f : α → β} {i : Nat} {y : β} (h : (l.map f)[i]? = some y) : ∃ z, l[i]? = some z ∧ y = f z := by
  rw [List.getElem?_map] at h
  cases e : l[i]? with
  | none => rw [e] at h; cases h
  | some z => rw [e] at h; exact ⟨z, rfl, (Option.some.inj h).symm⟩
theorem upd_free {H : Hp} {p D : Addr} {o : HO} (h : upd H p o D = none) : H D = none := by
  by_cases z : D = p
  · rw [z, upd_same] at h; cases h
  · rw [upd_ne z] at h; exact h
/-! ### comprehensions: what holds of the list made so far -/
def CI (H1 : Hp) (D : Addr) (R : Nat → List V → Hp → Prop) (i : Nat) (H : Hp) : Prop := Same H1 H ∧ ∃ acc, H D = some (.lst acc) ∧ acc.length ≤ i ∧ R i acc H
section
variable {K : PySem.W.Frag} {a : Addr} {xs : List V} {g : TG} {tt : TT} {te : TE} {vs : List Nat} {σ : L2.St} {H1 : Hp} {D : Addr} {Qd : Hp → Prop}
theorem CI.put {R : Nat → List V → Hp → Prop} {H4 : Hp} {acc : List V} {y : V} {i : Nat} (hD : H1 D = none) (sm : Same H1 H4) (e : H4 D = some (.lst acc)) (hl : acc.length ≤ i) (hz : i < sizeLine) (r : R (i + 1) (acc ++ [y]) (upd H4 D (.lst (acc ++ [y])))) :
    ∃ acc, H4 D = some (.lst acc) ∧ acc.length < sizeLine ∧ CI H1 D R (i + 1) (upd H4 D (.lst (acc ++ [y]))) :=
  ⟨acc, e, by omega, same_upd hD sm, _, upd_same, by rw [List.length_append, List.length_singleton]; omega, r⟩
theorem CI.skip {R : Nat → List V → Hp → Prop} {H4 : Hp} {acc : List V} {i : Nat} (sm : Same H1 H4) (e : H4 D = some (.lst acc)) (hl : acc.length ≤ i) (r : R (i + 1) acc H4) : CI H1 D R (i + 1) H4 :=
  ⟨sm, acc, e, by omega, r⟩
theorem lcL (R : Nat → List V → Hp → Prop) (hD : H1 D = none) (ha : SqL K H1 a xs) (h0 : R 0 [] (upd H1 D (.lst [])))
    (hs : ∀ i x H acc, xs[i]? = some x → i < xs.length → Same H1 H → H D = some (.lst acc) → acc.length ≤ i → R i acc H → g x (wipe σ vs) H fun σ2 H2 => wipe σ2 vs = wipe σ vs ∧ tt σ2 H2 fun b H3 =>
      if b = true then te σ2 H3 fun y H4 => ∃ acc, H4 D = some (.lst acc) ∧ acc.length < sizeLine ∧ CI H1 D R (i + 1) (upd H4 D (.lst (acc ++ [y]))) else CI H1 D R (i + 1) H3)
    (hd : ∀ H acc, Same H1 H → H D = some (.lst acc) → acc.length ≤ xs.length → R xs.length acc H → Qd H) :
    ∃ W : Nat → Nat → Hp → Prop, (∃ m, W 0 m (upd H1 D (.lst []))) ∧ ∀ i m H, W i m H →
      ((Itl K a).stop i H ∧ Qd H) ∨ ((Itl K a).go i H ∧ ∃ Nx : Hp → Prop, (∀ H', Nx H' → ∃ m', m' < m ∧ W (i + 1) m' H') ∧ ∀ x H', (Itl K a).yld i H x H' → g x (wipe σ vs) H' fun σ2 H2 => wipe σ2 vs = wipe σ vs ∧ tt σ2 H2 fun b H3 =>
        if b = true then te σ2 H3 fun y H4 => ∃ acc, H4 D = some (.lst acc) ∧ acc.length < sizeLine ∧ Nx (upd H4 D (.lst (acc ++ [y]))) else Nx H3) :=
  lc_list (CI H1 D R) ⟨same_new hD, [], upd_same, Nat.le_refl _, h0⟩ (fun i H _ h => h.1.seq ha) (fun i x H hx ⟨sm, acc, hacc, hl, r⟩ => hs i x H acc hx (List.getElem?_eq_some_iff.mp hx).1 sm hacc hl r) (fun H ⟨sm, acc, hacc, hl, r⟩ => hd H acc sm hacc hl r)
theorem lcT (R : Nat → List V → Hp → Prop) (hD : H1 D = none) (ha : SqT K H1 a xs) (h0 : R 0 [] (upd H1 D (.lst [])))
    (hs : ∀ i x H acc, xs[i]? = some x → i < xs.length → Same H1 H → H D = some (.lst acc) → acc.length ≤ i → R i acc H → g x (wipe σ vs) H fun σ2 H2 => wipe σ2 vs = wipe σ vs ∧ tt σ2 H2 fun b H3 =>
      if b = true then te σ2 H3 fun y H4 => ∃ acc, H4 D = some (.lst acc) ∧ acc.length < sizeLine ∧ CI H1 D R (i + 1) (upd H4 D (.lst (acc ++ [y]))) else CI H1 D R (i + 1) H3)
    (hd : ∀ H acc, Same H1 H → H D = some (.lst acc) → acc.length ≤ xs.length → R xs.length acc H → Qd H) :
    ∃ W : Nat → Nat → Hp → Prop, (∃ m, W 0 m (upd H1 D (.lst []))) ∧ ∀ i m H, W i m H →
      ((Itt K a).stop i H ∧ Qd H) ∨ ((Itt K a).go i H ∧ ∃ Nx : Hp → Prop, (∀ H', Nx H' → ∃ m', m' < m ∧ W (i + 1) m' H') ∧ ∀ x H', (Itt K a).yld i H x H' → g x (wipe σ vs) H' fun σ2 H2 => wipe σ2 vs = wipe σ vs ∧ tt σ2 H2 fun b H3 =>
        if b = true then te σ2 H3 fun y H4 => ∃ acc, H4 D = some (.lst acc) ∧ acc.length < sizeLine ∧ Nx (upd H4 D (.lst (acc ++ [y]))) else Nx H3) :=
  lc_tup (CI H1 D R) ⟨same_new hD, [], upd_same, Nat.le_refl _, h0⟩ (fun i H _ h => seqT h.1 ha) (fun i x H hx ⟨sm, acc, hacc, hl, r⟩ => hs i x H acc hx (List.getElem?_eq_some_iff.mp hx).1 sm hacc hl r) (fun H ⟨sm, acc, hacc, hl, r⟩ => hd H acc sm hacc hl r)
theorem lcR {lo : Int} {n : Nat} (R : Nat → List V → Hp → Prop) (hD : H1 D = none) (h0 : R 0 [] (upd H1 D (.lst [])))
    (hs : ∀ i H acc, i < n → Same H1 H → H D = some (.lst acc) → acc.length ≤ i → R i acc H → g (.int (lo + i)) (wipe σ vs) H fun σ2 H2 => wipe σ2 vs = wipe σ vs ∧ tt σ2 H2 fun b H3 =>
      if b = true then te σ2 H3 fun y H4 => ∃ acc, H4 D = some (.lst acc) ∧ acc.length < sizeLine ∧ CI H1 D R (i + 1) (upd H4 D (.lst (acc ++ [y]))) else CI H1 D R (i + 1) H3)
    (hd : ∀ H acc, Same H1 H → H D = some (.lst acc) → acc.length ≤ n → R n acc H → Qd H) :
    ∃ W : Nat → Nat → Hp → Prop, (∃ m, W 0 m (upd H1 D (.lst []))) ∧ ∀ i m H, W i m H →
      ((Itr lo n).stop i H ∧ Qd H) ∨ ((Itr lo n).go i H ∧ ∃ Nx : Hp → Prop, (∀ H', Nx H' → ∃ m', m' < m ∧ W (i + 1) m' H') ∧ ∀ x H', (Itr lo n).yld i H x H' → g x (wipe σ vs) H' fun σ2 H2 => wipe σ2 vs = wipe σ vs ∧ tt σ2 H2 fun b H3 =>
        if b = true then te σ2 H3 fun y H4 => ∃ acc, H4 D = some (.lst acc) ∧ acc.length < sizeLine ∧ Nx (upd H4 D (.lst (acc ++ [y]))) else Nx H3) :=
  lc_range (CI H1 D R) ⟨same_new hD, [], upd_same, Nat.le_refl _, h0⟩ (fun i H hi ⟨sm, acc, hacc, hl, r⟩ => hs i H acc hi sm hacc hl r) (fun H ⟨sm, acc, hacc, hl, r⟩ => hd H acc sm hacc hl r)
/-- over a text's signs -/
theorem lcS {z : Str} (R : Nat → List V → Hp → Prop) (hD : H1 D = none) (h0 : R 0 [] (upd H1 D (.lst [])))
    (hs : ∀ i c H acc, z.cps[i]? = some c → i < z.cps.size → Same H1 H → H D = some (.lst acc) → acc.length ≤ i → R i acc H → g (.str ⟨#[c]⟩) (wipe σ vs) H fun σ2 H2 => wipe σ2 vs = wipe σ vs ∧ tt σ2 H2 fun b H3 =>
      if b = true then te σ2 H3 fun y H4 => ∃ acc, H4 D = some (.lst acc) ∧ acc.length < sizeLine ∧ CI H1 D R (i + 1) (upd H4 D (.lst (acc ++ [y]))) else CI H1 D R (i + 1) H3)
    (hd : ∀ H acc, Same H1 H → H D = some (.lst acc) → acc.length ≤ z.cps.size → R z.cps.size acc H → Qd H) :
    ∃ W : Nat → Nat → Hp → Prop, (∃ m, W 0 m (upd H1 D (.lst []))) ∧ ∀ i m H, W i m H →
      ((Its z).stop i H ∧ Qd H) ∨ ((Its z).go i H ∧ ∃ Nx : Hp → Prop, (∀ H', Nx H' → ∃ m', m' < m ∧ W (i + 1) m' H') ∧ ∀ x H', (Its z).yld i H x H' → g x (wipe σ vs) H' fun σ2 H2 => wipe σ2 vs = wipe σ vs ∧ tt σ2 H2 fun b H3 =>
        if b = true then te σ2 H3 fun y H4 => ∃ acc, H4 D = some (.lst acc) ∧ acc.length < sizeLine ∧ Nx (upd H4 D (.lst (acc ++ [y]))) else Nx H3) := by
  refine ⟨fun i m H => m = z.cps.size - i ∧ i ≤ z.cps.size ∧ CI H1 D R i H, ⟨z.cps.size, by simp, Nat.zero_le _, same_new hD, [], upd_same, Nat.le_refl _, h0⟩, ?_⟩
  rintro i m H ⟨rfl, hi, sm, acc, hacc, hl, r⟩
  by_cases hlt : i < z.cps.size
  · refine .inr ⟨hlt, CI H1 D R (i + 1), fun H' p' => ⟨z.cps.size - (i + 1), by omega, rfl, hlt, p'⟩, fun x H' y => ?_⟩
    obtain ⟨e, c, hc, y⟩ := y
    subst e y
    exact hs i c _ acc hc hlt sm hacc hl r
  · have e : i = z.cps.size := by omega
    subst e
    exact .inl ⟨Nat.le_refl _, hd H acc sm hacc hl r⟩
end
end K8

set_option Elab.async false
set_option linter.all false
set_option maxRecDepth 100000
namespace K8
open PySem PyProof.Rows L2 GenW GN
section
variable {P : Program} {w : World} {K : PySem.W.Frag} {mg : Str → Option Value} {base : Heap}
theorem ok_letter {f : Addr} {fd : FuncData} (F : Fun K "is_letter" "is_letter" sLetter f fd) : FnOk P w K mg base CX0 1 f fd ["sign"] spLetter := by
  refine F.ok scLt (fun vs H Q E h => ?_) (fun cdv A outer s H vs Q E hr h => ?_)
  · obtain ⟨c, rfl, _⟩ := h
    rfl
  · obtain ⟨c, rfl, q⟩ := h
    refine ⟨_, pss_one (ps_ret (pe_or (pe_chain (r := rLeS) (r' := rLeS) op_le_str op_le_str pe_str (pv 0) pe_str) (pe_one (pe_chain (r := rLeS) (r' := rLeS) op_le_str op_le_str pe_str (pv 0) pe_str)))), ?_⟩
    refine chain_ok (lo := 65) (hi := 90) (by decide +kernel) (by decide +kernel) rfl ⟨_, rfl, ite2 (fun h1 => ?_) fun h1 => chain_ok (lo := 97) (hi := 122) (by decide +kernel) (by decide +kernel) rfl ?_⟩
    · have e : ltB c = true := by unfold ltB; rw [h1]; rfl
      rw [e] at q; exact q
    · have e : ltB c = decide (97 ≤ c ∧ c ≤ 122) := by unfold ltB; rw [Bool.eq_false_iff.mpr h1]; rfl
      rw [e] at q; exact q
theorem scI : FnScope ["sign"] ["sign"] (defScope sInner) := ⟨rfl, rfl, rfl, by decide +kernel, rfl, by decide +kernel, by decide +kernel⟩
theorem ok_inner {f fL fD : Addr} {fd fdL fdD : FuncData} (F : Fun K "is_inner" "is_inner" sInner f fd) (FL : Fn K mg "is_letter" sLetter ["sign"] fL fdL) (FD : Fn K mg "is_digit" sDigit ["sign"] fD fdD) : FnOk P w K mg base CX0 2 f fd ["sign"] spInner := by
  have GL : FnOk P w K mg base CX0 1 fL fdL ["sign"] spLetter := ok_letter FL.F
  have GD : FnOk P w K mg base CX0 1 fD fdD ["sign"] spDigit := ok_digit FD.F
  refine F.ok scI (fun vs H Q E h => ?_) (fun cdv A outer s H vs Q E hr h => ?_)
  · obtain ⟨c, rfl, _⟩ := h
    rfl
  · obtain ⟨c, rfl, q⟩ := h
    refine ⟨_, pss_one (ps_ret (pe_or (pe_call GL hr rfl FL.g FL.F.kp FL.b .nil pass0 (pa_cons (pv 0) pa_nil)) (pe_or (pe_call GD hr rfl FD.g FD.F.kp FD.b .nil pass0 (pa_cons (pv 0) pa_nil)) (pe_one (pe_cmpR op_eq (pv 0) pe_str (nomark _)))))), ?_⟩
    refine ⟨_, rfl, c, rfl, _, rfl, ite2 (fun h1 => ?_) fun h1 => ⟨_, rfl, c, rfl, _, rfl, ite2 (fun h2 => ?_) fun h2 => ⟨_, rfl, rfl, ?_⟩⟩⟩
    · have e : inB c = true := by unfold inB; rw [h1]; rfl
      rw [e] at q; exact q
    · have e : inB c = true := by unfold inB; rw [h2, Bool.or_true]; rfl
      rw [e] at q; exact q
    · have e : inB c = decide (c = 95) := by unfold inB; rw [Bool.eq_false_iff.mpr h1, Bool.eq_false_iff.mpr h2]; rfl
      rw [e] at q
      have e2 : decide (V.str (sg c) = V.str ("_" : Str)) = decide (c = 95) := by
        by_cases z : c = 95
        · subst z; decide +kernel
        · rw [decide_eq_false z]
          refine decide_eq_false fun y => z ?_
          have y1 := V.str.inj y
          have y2 : (sg c).cps.toList = ("_" : Str).cps.toList := by rw [y1]
          have y3 : [c] = [95] := y2.trans (by decide +kernel)
          exact List.cons.inj y3 |>.1
      show Q (.bl (decide (V.str (sg c) = V.str ("_" : Str)))) H
      rw [e2]; exact q
theorem scW : FnScope ["line", "word"] ["line"] (defScope sWords) := ⟨rfl, rfl, rfl, by decide +kernel, rfl, by decide +kernel, by decide +kernel⟩
theorem dec_ne (x : Str) : (!decide (V.str x = V.str ("" : Str))) = noE' x := by
  unfold noE'
  congr 1
  by_cases h : x = ""
  · rw [decide_eq_true h, decide_eq_true (by rw [h])]
  · rw [decide_eq_false h, decide_eq_false fun z => h (V.str.inj z)]
theorem ok_words {f : Addr} {fd : FuncData} (F : Fun K "words_of" "words_of" sWords f fd) : FnOk P w K mg base CX0 1 f fd ["line"] spWords := by
  refine F.ok scW (fun vs H Q E h => ?_) (fun cdv A outer s H vs Q E hr h => ?_)
  · obtain ⟨c, rfl, _⟩ := h
    rfl
  · obtain ⟨x, rfl, hz, q⟩ := h
    refine ⟨_, pss_one (ps_ret (pe_lc (own := [("word", 1)]) (g := gName 1) (by rfl) scW.nd (pi_list (pe_bm PySem.F.plainAttrs_str PySem.F.slot_str_split PySem.F.type_str_split mt_split (pv 0) (pa_cons pe_str pa_nil))) (blkOk_by (own := [("word", 1)]) (N := ["line", "word"]) (sc := defScope sWords) (by decide +kernel))
      (fun _ _ _ _ _ => pg_name (i := 1) scW.nd rfl (Or.inl rfl)) (fun _ _ _ _ _ => pts_one (pt_cmpR op_ne (pv 1) pe_str (nomark _))) (fun _ _ _ _ _ => pv 1))), ?_⟩
    refine ⟨_, rfl, rfl, _, _, rfl, rfl, by decide +kernel, hz, fun p hp => ?_⟩
    have hl := PyProof.Rows.split_le x " "
    refine ⟨p, rfl, ⟨_, SqL.of upd_same⟩, fun D hD => ?_⟩
    refine lcL (xs := (PySem.Txt.split x " ").map V.str) (fun i acc _ => acc = (((PySem.Txt.split x " ").take i).filter noE').map V.str) hD (SqL.of upd_same) rfl ?_ ?_
    · intro i y H1 acc hi hlt sm hacc hle r
      rw [List.length_map] at hlt
      obtain ⟨z, hz1, rfl⟩ := map_at hi
      have et := filt1 noE' hz1
      refine ⟨rfl, _, rfl, rfl, _, rfl, ?_⟩
      rw [dec_ne z]
      refine ite2 (fun hb => ⟨_, rfl, CI.put hD sm hacc hle (by omega) ?_⟩) fun hb => CI.skip sm hacc hle ?_
      · rw [et, if_pos hb, List.map_append, r]; rfl
      · rw [et, if_neg hb, List.append_nil, r]
    · intro H1 acc sm hacc hle r
      rw [List.length_map, List.take_length] at r
      rw [r] at hacc
      exact q _ _ (Same.trans (same_new hp) sm) (upd_free hD) hacc
end
end K8

set_option Elab.async false
set_option linter.all false
set_option maxRecDepth 100000
namespace K8
open PySem PyProof.Rows L2 GenW GN
def kept : List Str := ["answer", "machine", "worths", "pack", "model", "knobs", "number", "turn", "sight", "bar", "bracket", "word", "done", "int", "d", "still"]
def isNm (z : Str) : Bool :=
  if z.length = 0 then false else if 16 < z.length then false else if (kept.any fun y => y == z) = true then false else
    if (match z.cps.toList with | c :: _ => ltB c | [] => false) = true then z.cps.toList.all inB else false
structure TxtN (K : PySem.W.Frag) (mg : Str → Option Value) : Prop where
  longest : ∃ t, mg "LONGEST" = some (.int 16 t)
  keptw : ∃ kt, mg "KEPT_WORDS" = some (.ref kt) ∧ ∀ H, SqT K H kt (kept.map V.str)
def spIsName : Sp := fun vs H Q _ => ∃ v, vs = [v] ∧ ((∃ z : Str, v = .str z ∧ z.length < sizeLine ∧ ∀ H', Same H H' → Q (.bl (isNm z)) H') ∨ ((v = .non ∨ ∃ i, v = .int i) ∧ Q (.bl false) H))
theorem inV_str (z : Str) (l : List Str) : inV (.str z) (l.map V.str) = l.any fun y => y == z := by
  unfold inV
  rw [List.any_map]
  rfl
theorem flat_strs (l : List Str) : (l.map V.str).all flatV = true := by
  rw [List.all_map, List.all_eq_true]; intro x _; rfl
theorem dec_int0 (n : Nat) : decide (V.int (n : Int) = V.int 0) = decide (n = 0) := by
  by_cases h : n = 0
  · rw [decide_eq_true h, h]; exact decide_eq_true rfl
  · rw [decide_eq_false h]
    refine decide_eq_false fun z => h ?_
    have := V.int.inj z
    omega
section
variable {P : Program} {w : World} {K : PySem.W.Frag} {mg : Str → Option Value} {base : Heap}
theorem scIs : FnScope ["value", "sign"] ["value"] (defScope sIsName) := ⟨rfl, rfl, rfl, by decide +kernel, rfl, by decide +kernel, by decide +kernel⟩
theorem ok_isName {f fL fI fD : Addr} {fd fdL fdI fdD : FuncData} (F : Fun K "is_name" "is_name" sIsName f fd) (T : Txt mg) (TN : TxtN K mg) (FL : Fn K mg "is_letter" sLetter ["sign"] fL fdL) (FI : Fn K mg "is_inner" sInner ["sign"] fI fdI) (FD : Fn K mg "is_digit" sDigit ["sign"] fD fdD) :
    FnOk P w K mg base CX0 3 f fd ["value"] spIsName := by
  have GL : FnOk P w K mg base CX0 1 fL fdL ["sign"] spLetter := ok_letter FL.F
  have GI : FnOk P w K mg base CX0 2 fI fdI ["sign"] spInner := ok_inner FI.F FL FD
  obtain ⟨tl, gl⟩ := TN.longest
  obtain ⟨kt, gk, hk⟩ := TN.keptw
  refine F.ok scIs (fun vs H Q E h => ?_) (fun cdv A outer s H vs Q E hr h => ?_)
  · obtain ⟨c, rfl, _⟩ := h
    rfl
  · obtain ⟨v, rfl, h⟩ := h
    have hr1 : Room 1 _ := hr.mono (by decide)
    refine ⟨_, pss_cons (ps_if (pt_not (pt_val (pe_callB call_isi (by rfl) T.isi bt_isi (pa_cons (pv 0) (pa_cons (pe_bltn rfl T.str bt_str (v := .ty "str") rfl) pa_nil))))) (pss_one (ps_ret pe_bl)) pss_nil)
      (pss_cons (ps_if (PW.pt (pw_or (pt_cmpR op_eq (pe_callB call_len_str (by rfl) T.len bt_len (pa_cons (pv 0) pa_nil)) pe_int (nomark _)) (pw_or (pt_cmpR op_gt (pe_callB call_len_str (by rfl) T.len bt_len (pa_cons (pv 0) pa_nil)) (pe_glob (v := .int 16) rfl gl ⟨_, rfl⟩) (nomark _))
        (pw_or1 (pt_cmpR op_in_seq (pv 0) (pe_glob (v := .ref kt) rfl gk rfl) (by with_unfolding_all rfl)))))) (pss_one (ps_ret pe_bl)) pss_nil)
      (pss_one (ps_ret (pe_and (pe_call GL hr1 rfl FL.g FL.F.kp FL.b .nil pass0 (pa_cons (pe_ix ix_str (pv 0) pe_int (fun _ _ => rfl)) pa_nil)) (pe_one (pe_callB (cr_all rfl) (by rfl) T.all bt_all
        (pa_cons (pe_lc (own := [("sign", 1)]) (g := gName 1) (by rfl) scIs.nd (pi_str (pv 0)) (blkOk_by (own := [("sign", 1)]) (N := ["value", "sign"]) (sc := defScope sIsName) (by decide +kernel))
          (fun _ _ _ _ _ => pg_name (i := 1) scIs.nd rfl (Or.inl rfl)) (fun _ _ _ _ _ => pts_nil) (fun _ _ _ _ _ => pe_call GI hr rfl FI.g FI.F.kp FI.b .nil pass0 (pa_cons (pv 1) pa_nil))) pa_nil))))))), ?_⟩
    rcases h with ⟨z, rfl, hz, q⟩ | ⟨hv, q⟩
    · refine ⟨_, rfl, _, _, _, _, true, rfl, .ty _, .base (.str z), kit_ty (by decide +kernel), _, rfl, iteF ?_⟩
      refine ⟨_, rfl, _, rfl, Nat.le_of_lt hz, rfl, _, rfl, ?_⟩
      show if decide (V.int (z.length : Int) = V.int 0) = true then _ else _
      rw [dec_int0]
      have q0 := q H (Same.refl H)
      refine ite2 (fun h0 => ?_) fun h0 => ?_
      · have h0' := of_decide_eq_true h0
        have e : isNm z = false := by unfold isNm; rw [if_pos h0']
        rw [e] at q0
        exact iteT q0
      · have h0' : ¬ z.length = 0 := fun y => h0 (decide_eq_true y)
        refine ⟨_, rfl, _, rfl, Nat.le_of_lt hz, _, _, rfl, rfl, _, rfl, ite2 (fun h1 => ?_) fun h1 => ?_⟩
        · have h1' : 16 < z.length := by have := of_decide_eq_true h1; omega
          have e : isNm z = false := by unfold isNm; rw [if_neg h0', if_pos h1']
          rw [e] at q0
          exact iteT q0
        · have h1' : ¬ 16 < z.length := fun y => h1 (decide_eq_true (by omega))
          refine ⟨_, rfl, kt, _, rfl, .inr (hk H), rfl, flat_strs kept, _, rfl, ?_⟩
          show if inV (.str z) (kept.map V.str) = true then _ else _
          rw [inV_str]
          refine ite2 (fun h2 => ?_) fun h2 => ?_
          · have e : isNm z = false := by unfold isNm; rw [if_neg h0', if_neg h1', if_pos h2]
            rw [e] at q0
            exact q0
          · have hlen : z.cps.toList.length = z.length := (Array.length_toList).trans rfl
            obtain ⟨c, r, er⟩ : ∃ c r, z.cps.toList = c :: r := by
              cases e : z.cps.toList with
              | nil => rw [e] at hlen; exact absurd hlen.symm h0'
              | cons c r => exact ⟨c, r, rfl⟩
            refine ⟨_, rfl, z, 0, c, rfl, rfl, Nat.le_of_lt hz, (by rw [er]; exact atI_nat (j := 0) rfl), c, rfl, _, rfl, ite2 (fun h3 => ?_) fun h3 => ?_⟩
            · refine ⟨_, rfl, z, rfl, fun D hD => ?_⟩
              refine lcS (fun i acc _ => acc = ((z.cps.toList.take i).map inB).map V.bl) hD rfl ?_ ?_
              · intro i y H1 acc hi hlt sm hacc hle r
                have hi' : z.cps.toList[i]? = some y := by rw [Array.getElem?_toList]; exact hi
                refine ⟨rfl, _, rfl, y, rfl, CI.put hD sm hacc hle (Nat.lt_trans hlt hz) ?_⟩
                rw [take1 hi', List.map_append, List.map_append, r]; rfl
              · intro H1 acc sm hacc hle r
                have e1 : z.cps.toList.take z.cps.size = z.cps.toList := List.take_of_length_le (Nat.le_of_eq Array.length_toList)
                rw [e1] at r
                rw [r] at hacc
                refine ⟨D, _, rfl, SqL.of hacc, ?_⟩
                have e : isNm z = (z.cps.toList.map inB).all id := by
                  unfold isNm
                  rw [if_neg h0', if_neg h1', if_neg h2, er]
                  rw [if_pos h3, List.all_map]
                  rfl
                have q1 := q H1 sm
                rw [e] at q1
                exact q1
            · have e : isNm z = false := by unfold isNm; rw [if_neg h0', if_neg h1', if_neg h2, er]; exact if_neg h3
              rw [e] at q0
              exact q0
    · rcases hv with rfl | ⟨i, rfl⟩
      · exact ⟨_, rfl, _, _, _, _, false, rfl, .ty _, .base .non, kit_ty (by decide +kernel), _, rfl, iteT q⟩
      · exact ⟨_, rfl, _, _, _, _, false, rfl, .ty _, .base (.int i), kit_ty (by decide +kernel), _, rfl, iteT q⟩
end
end K8

set_option Elab.async false
set_option linter.all false
set_option maxRecDepth 100000
namespace K8
open PySem PyProof.Rows L2 GenW GN
/-- an own error with its __init__ -/
structure ExcT (K : PySem.W.Frag) (mg : Str → Option Value) (x q : Str) (st : Stmt) (ps : List Str) (C fI : Addr) (fd : FuncData) : Prop where
  T : OexC K C
  iC : PySem.W.findIn K (.ref C) "__init__" = some (some (.ref fI))
  tI : PySem.W.typeIn K (.ref fI) = some (.type "function")
  F : Fun K "__init__" q st fI fd
  b : Binds K fd ps []
  g : mg x = some (.ref C)
def spBadI (C : Addr) : Sp := fun vs H Q _ => ∃ (a : Addr) (v : V), vs = [.ref a, v] ∧ H a = some (exo a C none) ∧ ∀ dx, H dx = none → dx ≠ a → Q .non (upd (upd H dx (exd dx [("why", v)])) a (exo a C (some dx)))
def spManyI (C : Addr) : Sp := fun vs H Q _ => ∃ (a : Addr) (v u : V), vs = [.ref a, v, u] ∧ H a = some (exo a C none) ∧ ∀ dx, H dx = none → dx ≠ a →
  Q .non (upd (upd (upd H dx (exd dx [("what", v)])) a (exo a C (some dx))) dx (exd dx [("most", u), ("what", v)]))
section
variable {P : Program} {w : World} {K : PySem.W.Frag} {mg : Str → Option Value} {base : Heap}
theorem scBI : FnScope ["self", "why"] ["self", "why"] (defScope sBadI) := ⟨rfl, rfl, rfl, by decide +kernel, rfl, by decide +kernel, by decide +kernel⟩
theorem ok_badI {f C : Addr} {fd : FuncData} {q : Str} (F : Fun K "__init__" q sBadI f fd) (T : OexC K C) (nW : PySem.W.findIn K (.ref C) "why" = some none) : FnOk P w K mg base CX0 1 f fd ["self", "why"] (spBadI C) := by
  refine F.ok scBI (fun vs H Q E h => ?_) (fun cdv A outer s H vs Q E hr h => ?_)
  · obtain ⟨a, v, rfl, _⟩ := h
    rfl
  · obtain ⟨a, v, rfl, ha, q⟩ := h
    refine ⟨_, pss_one (ps_ost (pv 0) (pv 1) rfl), ?_⟩
    exact ⟨_, rfl, _, rfl, a, C, rfl, T, nW, .inl ⟨ha, q⟩⟩
theorem scMI : FnScope ["self", "what", "most"] ["self", "what", "most"] (defScope sManyI) := ⟨rfl, rfl, rfl, by decide +kernel, rfl, by decide +kernel, by decide +kernel⟩
theorem ok_manyI {f C : Addr} {fd : FuncData} {q : Str} (F : Fun K "__init__" q sManyI f fd) (T : OexC K C) (nW : PySem.W.findIn K (.ref C) "what" = some none) (nM : PySem.W.findIn K (.ref C) "most" = some none) : FnOk P w K mg base CX0 1 f fd ["self", "what", "most"] (spManyI C) := by
  refine F.ok scMI (fun vs H Q E h => ?_) (fun cdv A outer s H vs Q E hr h => ?_)
  · obtain ⟨a, v, u, rfl, _⟩ := h
    rfl
  · obtain ⟨a, v, u, rfl, ha, q⟩ := h
    refine ⟨_, pss_cons (ps_ost (pv 0) (pv 1) rfl) (pss_one (ps_ost (pv 0) (pv 2) rfl)), ?_⟩
    exact ⟨_, rfl, _, rfl, a, C, rfl, T, nW, .inl ⟨ha, fun dx h1 h2 => ⟨_, rfl, _, rfl, a, C, rfl, T, nM, .inr ⟨dx, _, upd_same, by rw [upd_ne h2, upd_same], (by show 1 ≤ 900; decide), q dx h1 h2⟩⟩⟩⟩
/-- the ways out by errors -/
def BadE (C : Addr) (H : Hp) (E : XK) : Prop := ∀ H' d (y : Str), Same H H' → H d = none → 0 < y.length → y.length ≤ 1000 → H' d = some (.xd [("why", .str y)]) → E (.ref C) (some d) H'
def ManyE (C : Addr) (H : Hp) (E : XK) (y : Str) (n : Int) : Prop := ∀ H' d, Same H H' → H d = none → H' d = some (.xd [("most", .int n), ("what", .str y)]) → E (.ref C) (some d) H'
theorem BadE.on {C : Addr} {H H1 : Hp} {E : XK} (h : BadE C H E) (s : Same H H1) : BadE C H1 E := fun H' d y s' hd h1 h2 h3 => h H' d y (s.trans s') (s.free hd) h1 h2 h3
theorem ManyE.on {C : Addr} {H H1 : Hp} {E : XK} {y : Str} {n : Int} (h : ManyE C H E y n) (s : Same H H1) : ManyE C H1 E y n := fun H' d s' hd h3 => h H' d (s.trans s') (s.free hd) h3
theorem same_exc {H : Hp} {a d : Addr} {o : HO} {fs : List (Str × V)} (ha : H a = none) (hd : H d = none) (hda : d ≠ a) {H2 : Hp} (h2 : ∀ b, b ≠ a → b ≠ d → H2 b = H b) : Same H (upd (del H2 a) d (.xd fs)) := fun b u e => by
  have e1 : b ≠ d := ne_of_none e hd
  have e2 : b ≠ a := ne_of_none e ha
  rw [upd_ne e1, del_ne e2, h2 b e2 e1]; exact e
/-- raise BadName('..') -/
theorem raise_bad {C : Addr} {H : Hp} {E : XK} {σ : L2.St} {y : Str} (h : BadE C H E) (h1 : 0 < y.length) (h2 : y.length ≤ 1000) : tMkO C (spBadI C) [] (tCons (tC (.str y)) tNil) σ H E := by
  refine ⟨(by show 1 ≤ 1000; decide), fun a ha => ⟨a, .str y, rfl, upd_same, fun dx hx hxa => ?_⟩⟩
  have hd0 : H dx = none := upd_free hx
  refine ⟨rfl, dx, _, upd_same, by rw [upd_ne hxa, upd_same], hd0, ?_⟩
  refine h _ dx y (same_exc (o := .lst []) ha hd0 hxa fun b e1 e2 => ?_) hd0 h1 h2 upd_same
  rw [upd_ne e1, upd_ne e2, upd_ne e1]
theorem raise_many {C : Addr} {H : Hp} {E : XK} {σ : L2.St} {y : Str} {n : Int} {ta : TA} (h : ManyE C H E y n) (ht : ∀ Q, Q [.str y, .int n] H → ta σ H Q) : tMkO C (spManyI C) [] ta σ H E := by
  refine ht _ ⟨(by show 2 ≤ 1000; decide), fun a ha => ⟨a, .str y, .int n, rfl, upd_same, fun dx hx hxa => ?_⟩⟩
  have hd0 : H dx = none := upd_free hx
  refine ⟨rfl, dx, _, by rw [upd_ne hxa.symm, upd_same], upd_same, hd0, ?_⟩
  refine h _ dx (same_exc (o := .lst []) ha hd0 hxa fun b e1 e2 => ?_) hd0 upd_same
  rw [upd_ne e2, upd_ne e1, upd_ne e2, upd_ne e1]
def spNameList (C : Addr) : Sp := fun vs H Q E => ∃ v, vs = [v] ∧ ((∃ z : Str, v = .str z ∧ z.length + 2 ≤ sizeLine ∧ NewL H ((wordsOf z).map V.str) Q) ∨ (∃ a xs, v = .ref a ∧ (H a = some (.lst xs) ∨ H a = some (.tup xs)) ∧ NewL H xs Q) ∨ ((v = .non ∨ ∃ i, v = .int i) ∧ BadE C H E))
theorem scNL : FnScope ["value"] ["value"] (defScope sNameList) := ⟨rfl, rfl, rfl, by decide +kernel, rfl, by decide +kernel, by decide +kernel⟩
theorem ok_nameList {f fW C fI : Addr} {fd fdW fdI : FuncData} (F : Fun K "name_list" "name_list" sNameList f fd) (T : Txt mg) (FW : Fn K mg "words_of" sWords ["line"] fW fdW) (B : ExcT K mg "BadName" "BadName.__init__" sBadI ["self", "why"] C fI fdI) (nW : PySem.W.findIn K (.ref C) "why" = some none) :
    FnOk P w K mg base (L2.CX P w) 3 f fd ["value"] (spNameList C) := by
  have GW : FnOk P w K mg base CX0 1 fW fdW ["line"] spWords := ok_words FW.F
  have GB : FnOk P w K mg base CX0 1 fI fdI ["self", "why"] (spBadI C) := ok_badI B.F B.T nW
  refine F.okX scNL (fun vs H Q E h => ?_) (fun cdv A outer s H vs Q E hr h => ?_)
  · obtain ⟨a, rfl, _⟩ := h
    rfl
  · obtain ⟨v, rfl, h⟩ := h
    have hr1 : Room 1 _ := hr.mono (by decide)
    refine ⟨_, pss_cons (ps_if (pt_val (pe_callB call_isi (by rfl) T.isi bt_isi (pa_cons (pv 0) (pa_cons (pe_bltn rfl T.str bt_str (v := .ty "str") rfl) pa_nil)))) (pss_one (ps_ret (pe_call GW hr1 rfl FW.g FW.F.kp FW.b .nil pass0 (pa_cons (pv 0) pa_nil)))) pss_nil)
      (pss_cons (ps_if (pt_val (pe_callB call_isiT (by rfl) T.isi bt_isi (pa_cons (pv 0) (pa_cons (pe_tup (pa_cons (pe_bltn rfl T.list bt_list (v := .ty "list") rfl) (pa_cons (pe_bltn rfl T.tuple bt_tuple (v := .ty "tuple") rfl) pa_nil))) pa_nil)))) (pss_one (ps_ret (pe_callTy call_list_of (by rfl) T.list bt_list (pa_cons (pv 0) pa_nil)))) pss_nil)
      (pss_one (ps_raise rfl (takes_of rfl rfl rfl rfl) (pmk_oex B.T B.iC B.tI GB hr B.b .nil pass0 rfl B.g (pa_cons pe_str pa_nil))))), ?_⟩
    rcases h with ⟨z, rfl, hz, q⟩ | ⟨a, xs, rfl, ha, q⟩ | ⟨hv, q⟩
    · exact ⟨_, rfl, _, _, _, _, true, rfl, .ty _, .base (.str z), kit_ty (by decide +kernel), _, rfl, iteT ⟨_, rfl, z, rfl, hz, q⟩⟩
    · rcases ha with ha | ha
      · refine ⟨_, rfl, _, _, _, _, false, rfl, .ty _, .base (.lst ha), kit_ty (by decide +kernel), _, rfl, iteF ?_⟩
        refine ⟨_, rfl, (by show 2 ≤ sizeLine; decide), fun tp htp => ⟨_, tp, _, _, _, true, rfl, upd_same, .cons (.ty _) (.cons (.ty _) .nil), .base (.lst (same_new htp _ _ ha)), kitAny_cons (kit_ty (by decide +kernel)) (b := true) (fun z => Bool.noConfusion z) (fun _ => rfl), _, rfl, iteT ?_⟩⟩
        refine ⟨_, rfl, a, xs, rfl, .inl (SqL.of (same_new htp _ _ ha)), fun l hl => q _ l (same_upd (upd_free hl) (same_new htp)) (upd_free hl) upd_same⟩
      · refine ⟨_, rfl, _, _, _, _, false, rfl, .ty _, .base (.tup ha), kit_ty (by decide +kernel), _, rfl, iteF ?_⟩
        refine ⟨_, rfl, (by show 2 ≤ sizeLine; decide), fun tp htp => ⟨_, tp, _, _, _, true, rfl, upd_same, .cons (.ty _) (.cons (.ty _) .nil), .base (.tup (same_new htp _ _ ha)), kitAny_cons (b := false) (kit_ty (by decide +kernel)) (fun _ => kitAny_cons (b := true) (kit_ty (by decide +kernel)) (fun z => Bool.noConfusion z) (fun _ => rfl)) (fun z => Bool.noConfusion z), _, rfl, iteT ?_⟩⟩
        refine ⟨_, rfl, a, xs, rfl, .inr (SqT.of (same_new htp _ _ ha)), fun l hl => q _ l (same_upd (upd_free hl) (same_new htp)) (upd_free hl) upd_same⟩
    · rcases hv with rfl | ⟨i, rfl⟩
      · refine ⟨_, rfl, _, _, _, _, false, rfl, .ty _, .base .non, kit_ty (by decide +kernel), _, rfl, iteF ?_⟩
        refine ⟨_, rfl, (by show 2 ≤ sizeLine; decide), fun tp htp => ⟨_, tp, _, _, _, false, rfl, upd_same, .cons (.ty _) (.cons (.ty _) .nil), .base .non, kitAny_cons (b := false) (kit_ty (by decide +kernel)) (fun _ => kitAny_cons (b := false) (kit_ty (by decide +kernel)) (fun _ => kitAny_nil) (fun z => Bool.noConfusion z)) (fun z => Bool.noConfusion z), _, rfl, iteF ?_⟩⟩
        exact raise_bad (σ := []) (q.on (same_new htp)) (by decide +kernel) (by decide +kernel)
      · refine ⟨_, rfl, _, _, _, _, false, rfl, .ty _, .base (.int i), kit_ty (by decide +kernel), _, rfl, iteF ?_⟩
        refine ⟨_, rfl, (by show 2 ≤ sizeLine; decide), fun tp htp => ⟨_, tp, _, _, _, false, rfl, upd_same, .cons (.ty _) (.cons (.ty _) .nil), .base (.int i), kitAny_cons (b := false) (kit_ty (by decide +kernel)) (fun _ => kitAny_cons (b := false) (kit_ty (by decide +kernel)) (fun _ => kitAny_nil) (fun z => Bool.noConfusion z)) (fun z => Bool.noConfusion z), _, rfl, iteF ?_⟩⟩
        exact raise_bad (σ := []) (q.on (same_new htp)) (by decide +kernel) (by decide +kernel)
def spWithin (C : Addr) : Sp := fun vs H Q E => ∃ n : Int, vs = [.int n] ∧ if n > 12 then ManyE C H E "depth" 12 else Q .non H
theorem scWd : FnScope ["depth"] ["depth"] (defScope sWithin) := ⟨rfl, rfl, rfl, by decide +kernel, rfl, by decide +kernel, by decide +kernel⟩
theorem ok_within {f C fI : Addr} {fd fdI : FuncData} (F : Fun K "within_depth" "within_depth" sWithin f fd) (gd : ∃ t, mg "DEEPEST" = some (.int 12 t)) (B : ExcT K mg "TooMany" "TooMany.__init__" sManyI ["self", "what", "most"] C fI fdI) (nW : PySem.W.findIn K (.ref C) "what" = some none) (nM : PySem.W.findIn K (.ref C) "most" = some none) :
    FnOk P w K mg base (L2.CX P w) 3 f fd ["depth"] (spWithin C) := by
  have GB : FnOk P w K mg base CX0 1 fI fdI ["self", "what", "most"] (spManyI C) := ok_manyI B.F B.T nW nM
  obtain ⟨t, gd⟩ := gd
  refine F.okX scWd (fun vs H Q E h => ?_) (fun cdv A outer s H vs Q E hr h => ?_)
  · obtain ⟨a, rfl, _⟩ := h
    rfl
  · obtain ⟨n, rfl, h⟩ := h
    refine ⟨_, pss_one (ps_if (pt_cmpR op_gt (pv 0) (pe_glob (v := .int 12) rfl gd ⟨_, rfl⟩) (nomark _)) (pss_one (ps_raise rfl (takes_of rfl rfl rfl rfl) (pmk_oex B.T B.iC B.tI GB hr B.b .nil pass0 rfl B.g (pa_cons pe_str (pa_cons (pe_glob (v := .int 12) rfl gd ⟨_, rfl⟩) pa_nil))))) pss_nil), ?_⟩
    refine ⟨_, rfl, _, _, rfl, rfl, _, rfl, ite2 (fun h1 => ?_) fun h1 => ?_⟩
    · have h1' := of_decide_eq_true h1
      rw [if_pos h1'] at h
      exact raise_many (σ := []) (ta := tCons (tC (.str "depth")) (tCons (tC (.int 12)) tNil)) h fun Q q => q
    · have h1' : ¬ n > 12 := fun y => h1 (decide_eq_true y)
      rw [if_neg h1'] at h
      exact h
end
end K8

set_option Elab.async false
set_option linter.all false
set_option maxRecDepth 100000
namespace K8
open PySem PyProof.Rows L2 GenW GN
/-- a new tuple -/
def NewT (H : Hp) (xs : List V) (Q : VK) : Prop := ∀ H' p, Same H H' → H p = none → H' p = some (.tup xs) → Q (.ref p) H'
theorem NewT.on {H H1 : Hp} {xs : List V} {Q : VK} (h : NewT H xs Q) (s : Same H H1) : NewT H1 xs Q := fun H' p s' hp e => h H' p (s.trans s') (s.free hp) e
theorem NewL.on {H H1 : Hp} {xs : List V} {Q : VK} (h : NewL H xs Q) (s : Same H H1) : NewL H1 xs Q := fun H' p s' hp e => h H' p (s.trans s') (s.free hp) e
/-- what stands for the knobs: its row -/
def RowOf (v : V) (H : Hp) (xs : List V) : Prop :=
  (∃ z : Str, v = .str z ∧ z.length + 2 ≤ sizeLine ∧ xs = (wordsOf z).map V.str) ∨ ∃ a, v = .ref a ∧ (H a = some (.lst xs) ∨ H a = some (.tup xs))
theorem RowOf.on {v : V} {H H1 : Hp} {xs : List V} (h : RowOf v H xs) (s : Same H H1) : RowOf v H1 xs := by
  rcases h with h | ⟨a, e, h | h⟩
  · exact .inl h
  · exact .inr ⟨a, e, .inl (s _ _ h)⟩
  · exact .inr ⟨a, e, .inr (s _ _ h)⟩
def Item (x : V) : Prop := x = .non ∨ (∃ i, x = .int i) ∨ ∃ z : Str, x = .str z ∧ z.length < sizeLine
def Good (xs : List V) (ns : List Str) : Prop := xs = ns.map V.str ∧ ns.all isNm = true ∧ ns.Nodup
def spChecked (CB CM : Addr) : Sp := fun vs H Q E => ∃ v, vs = [v] ∧ (((v = .non ∨ ∃ i, v = .int i) ∧ BadE CB H E) ∨
  ∃ xs, RowOf v H xs ∧ (∀ x ∈ xs, Item x) ∧ xs.length ≤ 400 ∧ (∀ ns, Good xs ns → if ns.length > 6 then ManyE CM H E "knobs" 6 else NewT H xs Q) ∧ ((∀ ns, ¬ Good xs ns) → BadE CB H E))
theorem good_take {xs : List V} {ns : List Str} (h : Good xs ns) (i : Nat) : Good (xs.take i) (ns.take i) := by
  obtain ⟨h1, h2, h3⟩ := h
  subst h1
  refine ⟨(List.map_take ..).symm, ?_, h3.sublist (List.take_sublist i ns)⟩
  rw [List.all_eq_true] at h2 ⊢
  exact fun x hx => h2 x (List.mem_of_mem_take hx)
theorem good_at {xs : List V} {ns : List Str} {i : Nat} {x : V} (h : Good xs ns) (hx : xs[i]? = some x) : ∃ z, x = .str z ∧ ns[i]? = some z ∧ isNm z = true ∧ z ∉ ns.take i := by
  obtain ⟨h1, h2, h3⟩ := h
  subst h1
  obtain ⟨z, hz, rfl⟩ := map_at hx
  refine ⟨z, rfl, hz, List.all_eq_true.mp h2 z (List.mem_of_getElem? hz), fun hm => ?_⟩
  obtain ⟨j, hj⟩ := List.mem_iff_getElem?.mp hm
  rw [List.getElem?_take] at hj
  by_cases hlt : j < i
  · rw [if_pos hlt] at hj
    have := (List.getElem?_inj (List.getElem?_eq_some_iff.mp hj).1 h3).mp (hj.trans hz.symm)
    omega
  · rw [if_neg hlt] at hj; cases hj
theorem good_inj {xs : List V} {ns ms : List Str} (h : Good xs ns) (h' : Good xs ms) : ns = ms := by
  have := h.1.symm.trans h'.1
  exact List.map_inj_right (fun a b e => V.str.inj e) |>.mp this
theorem good_snoc {xs : List V} {ns : List Str} {z : Str} (h : Good xs ns) (h1 : isNm z = true) (h2 : z ∉ ns) : Good (xs ++ [.str z]) (ns ++ [z]) := by
  obtain ⟨e, a, n⟩ := h
  subst e
  refine ⟨by rw [List.map_append]; rfl, ?_, ?_⟩
  · rw [List.all_append, a]; simp [h1]
  · rw [List.nodup_append]
    refine ⟨n, List.nodup_cons.mpr ⟨by simp, List.nodup_nil⟩, fun x hx y hy => ?_⟩
    rw [List.mem_singleton] at hy
    subst hy
    exact fun q => h2 (q ▸ hx)
def kvOf (ns : List Str) : List (Key × V) := ns.map fun z => (Sum.inr z, V.bl true)
theorem kv_any (ns : List Str) (z : Str) : ((kvOf ns).any fun kv => decide (kv.1 = Sum.inr z)) = decide (z ∈ ns) := by
  induction ns with
  | nil => rfl
  | cons y r ih =>
    show (decide (Sum.inr y = (Sum.inr z : Key)) || ((kvOf r).any _)) = _
    rw [ih]
    by_cases e : y = z
    · subst e; simp
    · have e1 : decide (Sum.inr y = (Sum.inr z : Key)) = false := decide_eq_false fun q => e (Sum.inr.inj q)
      rw [e1, Bool.false_or]
      have e2 : z ≠ y := fun q => e q.symm
      simp [e2]
theorem kv_put {ns : List Str} {z : Str} (h : z ∉ ns) : putK (kvOf ns) (Sum.inr z) (.bl true) = kvOf (ns ++ [z]) := by
  unfold putK
  rw [kv_any, if_neg (by rw [decide_eq_false h]; exact Bool.false_ne_true)]
  unfold kvOf
  rw [List.map_append]
  rfl
theorem kv_some (ns : List Str) (z : Str) : (valV (kvOf ns) (Sum.inr z)).isSome = decide (z ∈ ns) := by rw [← valV_any, kv_any]
theorem nl_of {C : Addr} {v : V} {H : Hp} {xs : List V} {Q : VK} {E : XK} (h : RowOf v H xs) (q : NewL H xs Q) : spNameList C [v] H Q E := by
  rcases h with ⟨z, rfl, hz, rfl⟩ | ⟨a, rfl, ha⟩
  · exact ⟨_, rfl, .inl ⟨z, rfl, hz, q⟩⟩
  · exact ⟨_, rfl, .inr (.inl ⟨a, xs, rfl, ha, q⟩)⟩
section
variable {P : Program} {w : World} {K : PySem.W.Frag} {mg : Str → Option Value} {base : Heap}
theorem scCk : FnScope ["value", "row", "known", "name"] ["value"] (defScope sChecked) := ⟨rfl, rfl, rfl, by decide +kernel, rfl, by decide +kernel, by decide +kernel⟩
theorem ok_checked {f fW fN fL fI fD fS CB CM fBI fMI : Addr} {fd fdW fdN fdL fdI fdD fdS fdBI fdMI : FuncData} (F : Fun K "checked_knobs" "checked_knobs" sChecked f fd) (T : Txt mg) (TN : TxtN K mg)
    (FW : Fn K mg "words_of" sWords ["line"] fW fdW) (FN : Fn K mg "name_list" sNameList ["value"] fN fdN) (FS : Fn K mg "is_name" sIsName ["value"] fS fdS) (FL : Fn K mg "is_letter" sLetter ["sign"] fL fdL) (FI : Fn K mg "is_inner" sInner ["sign"] fI fdI) (FD : Fn K mg "is_digit" sDigit ["sign"] fD fdD)
    (B : ExcT K mg "BadName" "BadName.__init__" sBadI ["self", "why"] CB fBI fdBI) (nB : PySem.W.findIn K (.ref CB) "why" = some none)
    (M : ExcT K mg "TooMany" "TooMany.__init__" sManyI ["self", "what", "most"] CM fMI fdMI) (nW : PySem.W.findIn K (.ref CM) "what" = some none) (nM : PySem.W.findIn K (.ref CM) "most" = some none)
    {dm : Addr} (gm : mg "MOST" = some (.ref dm)) (km : KDct K w dm "knobs" (.int 6)) :
    FnOk P w K mg base (L2.CX P w) 4 f fd ["value"] (spChecked CB CM) := by
  have GN : FnOk P w K mg base (L2.CX P w) 3 fN fdN ["value"] (spNameList CB) := ok_nameList FN.F T FW B nB
  have GS : FnOk P w K mg base CX0 3 fS fdS ["value"] spIsName := ok_isName FS.F T TN FL FI FD
  have GB : FnOk P w K mg base CX0 1 fBI fdBI ["self", "why"] (spBadI CB) := ok_badI B.F B.T nB
  have GM : FnOk P w K mg base CX0 1 fMI fdMI ["self", "what", "most"] (spManyI CM) := ok_manyI M.F M.T nW nM
  refine F.okX scCk (fun vs H Q E h => ?_) (fun cdv A outer s H vs Q E hr h => ?_)
  · obtain ⟨a, rfl, _⟩ := h
    rfl
  · obtain ⟨v, rfl, h⟩ := h
    have hr2 : Room 2 _ := hr.mono (by decide)
    refine ⟨_, pss_cons (ps_set (i := 1) scCk.nd rfl (Or.inl rfl) (pe_callS GN hr rfl FN.g FN.F.kp FN.b (fun σ => passAt (takes_of (E := E) rfl rfl rfl rfl) σ) (pa_cons (pv 0) pa_nil)))
      (pss_cons (ps_set (i := 2) scCk.nd rfl (Or.inl rfl) pe_dnewK)
      (pss_cons (ps_for (passes_of rfl) rfl (pi_list (pv 1)) (pg_name (i := 3) scCk.nd rfl (Or.inl rfl))
        (pss_cons (ps_if (pt_not (pt_val (pe_call GS hr rfl FS.g FS.F.kp FS.b .nil pass0 (pa_cons (pv 3) pa_nil)))) (pss_one (ps_raise rfl (takes_of rfl rfl rfl rfl) (pmk_oex B.T B.iC B.tI GB hr2 B.b .nil pass0 rfl B.g (pa_cons pe_str pa_nil)))) pss_nil)
        (pss_cons (ps_if (pt_cmp (pc_din (hu_of hr) (pv 3) (pv 2)) (by with_unfolding_all rfl)) (pss_one (ps_raise rfl (takes_of rfl rfl rfl rfl) (pmk_oex B.T B.iC B.tI GB hr2 B.b .nil pass0 rfl B.g (pa_cons pe_str pa_nil)))) pss_nil)
        (pss_one (ps_dput (hu_of hr) (pv 2) (pv 3) pe_bl rfl)))))
      (pss_cons (ps_if (pt_cmpR op_gt (pe_callB call_len_seq (by rfl) T.len bt_len (pa_cons (pv 1) pa_nil)) (pe_ix ix_kdict (pe_glob (v := .ref dm) rfl gm rfl) pe_str (fun _ _ => rfl)) (nomark _))
          (pss_one (ps_raise rfl (takes_of rfl rfl rfl rfl) (pmk_oex M.T M.iC M.tI GM hr2 M.b .nil pass0 rfl M.g (pa_cons pe_str (pa_cons (pe_ix ix_kdict (pe_glob (v := .ref dm) rfl gm rfl) pe_str (fun _ _ => rfl)) pa_nil))))) pss_nil)
      (pss_one (ps_ret (pe_callTy call_tuple_of (by rfl) T.tuple bt_tuple (pa_cons (pv 1) pa_nil))))))), ?_⟩
    rcases h with ⟨hv, q⟩ | ⟨xs, hrow, hit, hlen, hgood, hbad⟩
    · exact ⟨_, rfl, v, rfl, .inr (.inr ⟨hv, q⟩)⟩
    · refine ⟨_, rfl, nl_of hrow fun H1 r s1 nr e1 => ?_⟩
      intro kd nkd
      have nrk : r ≠ kd := ne_of_none e1 nkd
      refine ⟨_, rfl, r, rfl, ⟨_, SqL.of (same_new nkd _ _ e1)⟩, for_list (K := K) (a := r) (xs := xs) (fun i σ H' => ∃ (u : Option V) (ns : List Str), σ = [some v, some (.ref r), some (.ref kd), u] ∧ Same H H' ∧ H' r = some (.lst xs) ∧ H' kd = some (.dK (kvOf ns)) ∧ Good (xs.take i) ns)
        ⟨none, [], rfl, same_upd (s1.free nkd) s1, by rw [upd_ne nrk]; exact e1, upd_same, rfl, rfl, List.nodup_nil⟩ (fun i σ H' _ ⟨_, _, _, _, e, _, _⟩ => SqL.of e) ?_ ?_⟩
      · rintro i x σ H' hx ⟨u, ns, rfl, sm, er, ek, hg⟩
        have hi : i < xs.length := (List.getElem?_eq_some_iff.mp hx).1
        have bad : (∀ z : Str, x = .str z → isNm z = true → z ∈ ns) → BadE CB H E := fun hz => hbad fun ms hm => by
          obtain ⟨z, ex, _, nz, mz⟩ := good_at hm hx
          have e2 := good_inj (good_take hm i) hg
          rw [e2] at mz
          exact mz (hz z ex nz)
        have nl : ns.length ≤ 400 := by
          have e2 := congrArg List.length hg.1
          rw [List.length_take, List.length_map] at e2
          omega
        have nok : ∀ (Qx : XK), Qx = (fun cls d H' => E cls d H') → BadE CB H E → BadE CB H' E := fun _ _ b => b.on sm
        rcases hit x (List.mem_of_getElem? hx) with hxx | ⟨n, hxx⟩ | ⟨z, hxx, hz⟩
        · refine ⟨_, rfl, x, rfl, .inr ⟨.inl hxx, _, rfl, iteT ?_⟩⟩
          exact raise_bad (σ := []) ((bad fun z e _ => by rw [hxx] at e; cases e).on sm) (by decide +kernel) (by decide +kernel)
        · refine ⟨_, rfl, x, rfl, .inr ⟨.inr ⟨n, hxx⟩, _, rfl, iteT ?_⟩⟩
          exact raise_bad (σ := []) ((bad fun z e _ => by rw [hxx] at e; cases e).on sm) (by decide +kernel) (by decide +kernel)
        · refine ⟨_, rfl, x, rfl, .inl ⟨z, hxx, hz, fun H2 s2 => ⟨_, rfl, ?_⟩⟩⟩
          subst hxx
          refine ite2 (fun hb => ?_) fun hb => ?_
          · have hn : isNm z = false := by
              cases e : isNm z
              · rfl
              · rw [e] at hb; cases hb
            exact raise_bad (σ := []) ((bad fun y e ny => by rw [← V.str.inj e, hn] at ny; cases ny).on (sm.trans s2)) (by decide +kernel) (by decide +kernel)
          · have hn : isNm z = true := by
              cases e : isNm z
              · rw [e] at hb; exact absurd rfl hb
              · rfl
            refine ⟨_, rfl, _, rfl, kd, _, rfl, DGet.k (k := Sum.inr z) (s2 _ _ ek), _, rfl, ?_⟩
            show if (valV (kvOf ns) (Sum.inr z)).isSome = true then _ else _
            rw [kv_some]
            refine ite2 (fun hm => ?_) fun hm => ?_
            · exact raise_bad (σ := []) ((bad fun y e _ => by rw [← V.str.inj e]; exact of_decide_eq_true hm).on (sm.trans s2)) (by decide +kernel) (by decide +kernel)
            · have hm' : z ∉ ns := fun y => hm (decide_eq_true y)
              refine ⟨_, rfl, _, rfl, kd, _, rfl, DPut.k (k := Sum.inr z) (s2 _ _ ek) ?_, ?_⟩
              · show (kvOf ns).length < sizeLine
                unfold kvOf
                rw [List.length_map]
                exact Nat.lt_of_le_of_lt nl (by decide)
              · have nkd0 : H kd = none := s1.free nkd
                refine ⟨_, ns ++ [z], rfl, same_upd nkd0 (sm.trans s2), by rw [upd_ne nrk]; exact s2 _ _ er, ?_, ?_⟩
                · rw [upd_same, kv_put hm']
                · rw [take1 hx]
                  exact good_snoc hg hn hm'
      · rintro σ H' ⟨u, ns, rfl, sm, er, ek, hg⟩
        rw [List.take_length] at hg
        have hl : xs.length = ns.length := by rw [hg.1, List.length_map]
        have hq := hgood ns hg
        refine ⟨_, rfl, r, _, rfl, .inl (SqL.of er), dm, "knobs", .int 6, rfl, rfl, km, _, _, rfl, rfl, _, rfl, ?_⟩
        refine ite2 (fun h1 => ?_) fun h1 => ?_
        · have h2 : ns.length > 6 := by have := of_decide_eq_true h1; omega
          rw [if_pos h2] at hq
          exact raise_many (σ := [some v, some (.ref r), some (.ref kd), u]) (hq.on sm) fun Q q => ⟨dm, "knobs", .int 6, rfl, rfl, km, q⟩
        · have h2 : ¬ ns.length > 6 := fun y => h1 (decide_eq_true (by omega))
          rw [if_neg h2] at hq
          exact ⟨_, rfl, r, _, rfl, .inl ⟨SqL.of er, fun t ht => hq _ t (same_upd (sm.free ht) sm) (sm.free ht) upd_same⟩⟩
end
end K8

set_option Elab.async false
set_option linter.all false
set_option maxRecDepth 100000
set_option maxHeartbeats 4000000
namespace K8
open PySem PyProof.Rows L2 GenW GN
/-! ### the generator of the own words of one length, in plain Lean -/
def lastI (w : List Int) : Int := w.getD (w.length - 1) 0
def bump (w : List Int) : List Int := w.set (w.length - 1) (lastI w + 1)
def fillW (size : Nat) : Nat → List Int → List Int
  | 0, w => w
  | n + 1, w => fillW size n (w ++ [w.getD (w.length - size) 0])
def stripW (m : Int) : Nat → List Int → List Int
  | 0, w => w
  | n + 1, w => if w.length = 0 then w else if lastI w = m - 1 then stripW m n w.dropLast else w
def nextW (m L : Nat) (w : List Int) : List Int := stripW m L (fillW (bump w).length (L - (bump w).length) (bump w))
def outsF (m L : Nat) : Nat → List Int → List (List Int)
  | 0, _ => []
  | n + 1, w => if w.length = 0 then [] else (if (bump w).length = L then [bump w] else []) ++ outsF m L n (nextW m L w)
def doneF (m L : Nat) : Nat → List Int → Bool
  | 0, w => decide (w.length = 0)
  | n + 1, w => decide (w.length = 0) || doneF m L n (nextW m L w)
def wordsL (m L : Nat) : List (List Int) := outsF m L 400 [-1]
def okL (m L : Nat) : Bool := doneF m L 400 [-1]
theorem atI_neg {α : Type} {xs : List α} {k : Nat} {v : α} (h1 : 1 ≤ k) (h2 : k ≤ xs.length) (h : xs[xs.length - k]? = some v) : atI xs (-(k : Int)) = some v := by
  unfold atI ixN
  rw [if_neg (by omega), if_pos (by omega)]
  show xs[(-(k : Int) + (xs.length : Int)).toNat]? = some v
  rw [show (-(k : Int) + (xs.length : Int)).toNat = xs.length - k by omega]; exact h
theorem get_at {w : List Int} {i : Nat} (h : i < w.length) : (w.map V.int)[i]? = some (V.int (w.getD i 0)) := by
  rw [List.getElem?_map, List.getElem?_eq_getElem h, List.getD_eq_getElem?_getD, List.getElem?_eq_getElem h]; rfl
theorem bump_len (w : List Int) : (bump w).length = w.length := List.length_set
theorem fill_len (size : Nat) : ∀ (n : Nat) (w : List Int), (fillW size n w).length = w.length + n
  | 0, w => rfl
  | n + 1, w => by
    show (fillW size n _).length = _
    rw [fill_len size n, List.length_append, List.length_singleton]; omega
theorem strip_len (m : Int) : ∀ (n : Nat) (w : List Int), (stripW m n w).length ≤ w.length
  | 0, w => Nat.le_refl _
  | n + 1, w => by
    unfold stripW
    split
    · exact Nat.le_refl _
    · split
      · refine Nat.le_trans (strip_len m n _) ?_
        rw [List.length_dropLast]; omega
      · exact Nat.le_refl _
theorem next_len {m L : Nat} {w : List Int} (h : w.length ≤ L) : (nextW m L w).length ≤ L := by
  refine Nat.le_trans (strip_len _ _ _) ?_
  rw [fill_len, bump_len]; omega
/-- a wish for these words -/
def ylW (outs : List (List Int)) : Nat → V → Hp → Prop := fun j x H => ∃ w t, outs[j]? = some w ∧ x = .ref t ∧ H t = some (.tup (w.map V.int))
def wishL (outs : List (List Int)) : Wish := { yl := ylW outs, fin := fun n _ => n = outs.length, ex := fun _ _ _ => False }
def spLen : SpG2 := fun vs H W => ∃ m L : Nat, vs = [.int m, .int L] ∧ 0 < m ∧ 1 ≤ L ∧ L ≤ 1000 ∧ okL m L = true ∧ W = wishL (wordsL m L)
def tTruK (K : PySem.W.Frag) (ta : TE) : TT := fun σ H Q => ta σ H fun x H' => ∃ k, TruV K x H' k ∧ Q k H'
theorem pt_truK {X : Cx} {K : PySem.W.Frag} {a : Expr} {ta : TE} (hK : X.K = K) (ha : PE X a ta) (he : ∀ whole, isTrue a X.env whole = (do let v ← whole; standAt a.pos; holding [v] (truthy v))) : PT X a (tTruK K ta) := by
  subst hK; exact pt_truth ha he
section
variable {X : Cx} {K : PySem.W.Frag} {o e : Expr} {es : List Expr} {to : TE} {t : TA} {name : Str} {apos cpos : Pos} {T id : String} {r : V → List V → Hp → VK → Prop}
def rLenK (K : PySem.W.Frag) : List V → Hp → VK → Prop := fun xs H Q => ∃ p ys, xs = [.ref p] ∧ (SqL K H p ys ∨ SqT K H p ys) ∧ Q (.int ys.length) H
theorem call_lenK (hK : X.K = K) : CallR X (.builtin "len") (rLenK K) := by subst hK; exact call_len_seq
def rTupK (K : PySem.W.Frag) : List V → Hp → VK → Prop := fun xs H Q => ∃ p ys, xs = [.ref p] ∧ ((SqL K H p ys ∧ ∀ l, H l = none → Q (.ref l) (upd H l (.tup ys))) ∨ (SqT K H p ys ∧ Q (.ref p) H))
theorem call_tupK (hK : X.K = K) : CallR X (.type "tuple") (rTupK K) := by subst hK; exact call_tuple_of
theorem pe_bm0K (hK : X.K = K) (pa : PlainAttrs T) (slot : Slot T name id) (hty : typeOf (.builtin id) = pure (.type "method_descriptor")) (hm : MtR X id r) (ho : PE X o to)
    (hbase : attributeBase o name X.env (eval o X.env) = eval o X.env := by rfl) (hline : (apos.endLine == cpos.line) = true := by rfl) : PE X (.Call (.Attribute o name apos) [] [] cpos) (tBM0 K T r to) := by
  subst hK; exact pe_bm0 pa slot hty hm ho hbase hline
theorem pe_bmK (hK : X.K = K) (pa : PlainAttrs T) (slot : Slot T name id) (hty : typeOf (.builtin id) = pure (.type "method_descriptor")) (hm : MtR X id r) (ho : PE X o to) (ha : PA X (e :: es) t)
    (hbase : attributeBase o name X.env (eval o X.env) = eval o X.env := by rfl)
    (hfew : ((backTo cpos (starEach (e :: es) X.env)).all (fun x => !x.1) && (backToKw cpos (keywordEach [] X.env)).all (fun x => x.1.isSome)
      && decide ((e :: es).length + ([] : List Keyword).length + (if ([] : List Keyword).isEmpty then 0 else 1) < 30)) = true := by rfl)
    (hline : (apos.endLine == cpos.line) = true := by rfl) (hs : starEach (e :: es) X.env = (false, eval e X.env) :: starEach es X.env := by rfl) (hplain : (backTo cpos (starEach es X.env)).any (·.1) = false := by rfl) :
    PE X (.Call (.Attribute o name apos) (e :: es) [] cpos) (tBM K T r to t) := by
  subst hK; exact pe_bm pa slot hty hm ho ha hbase hfew hline hs hplain
end
section
variable {P : Program} {w : World} {K : PySem.W.Frag} {mg : Str → Option Value} {base : Heap}
abbrev tFill (K : PySem.W.Frag) : TS := tWhile (tTest (tOp (rI0 fun i j => V.bl (decide (i < j))) (tCB (rLenK K) (tCons (tVar 2) tNil)) (tVar 1))) (tDrop (tBM K "list" rAppend (tVar 2) (tCons (tOp (rIxL K) (tVar 2) (tUn (rU fun i => V.int (-i)) (tVar 3))) tNil)))
abbrev tStrip (K : PySem.W.Frag) : TS := tWhile (tAnd (tTruK K (tVar 2)) (tTest (tOp rEq (tOp (rIxL K) (tVar 2) (tUn (rU fun i => V.int (-i)) (tC (V.int 1)))) (tOp (rI0 fun i j => V.int (i - j)) (tVar 0) (tC (V.int 1)))))) (tDrop (tBM0 K "list" rPop (tVar 2)))
theorem tru_ne {w : List Int} : (!(w.map V.int).isEmpty) = decide (w.length ≠ 0) := by cases w <;> rfl
theorem fill_loop {D : Ends} {m L size : Nat} {wl : Addr} {w : List Int} {σ : L2.St} {H : Hp} (hσ : σ = [some (.int m), some (.int L), some (.ref wl), some (.int size)]) (hw : H wl = some (.lst (w.map V.int))) (h1 : 1 ≤ size) (h2 : size ≤ w.length) (h3 : w.length ≤ L) (h4 : L ≤ 1000)
    (hn : ∀ H', H' wl = some (.lst ((fillW size (L - w.length) w).map V.int)) → (∀ b, b ≠ wl → H' b = H b) → D.nx σ H') : tFill K D σ H := by
  refine ⟨fun n σ' H' => σ' = σ ∧ ∃ w' : List Int, H' wl = some (.lst (w'.map V.int)) ∧ (∀ b, b ≠ wl → H' b = H b) ∧ w'.length + n = L ∧ size ≤ w'.length ∧ fillW size n w' = fillW size (L - w.length) w,
    ⟨L - w.length, rfl, w, hw, fun _ _ => rfl, by omega, h2, rfl⟩, ?_⟩
  rintro n σ' H' ⟨rfl, w', hw', hk, hl, hs, hf⟩
  subst hσ
  refine ⟨_, rfl, wl, _, rfl, .inl (SqL.of hw'), _, rfl, _, _, rfl, rfl, _, rfl, ?_⟩
  rw [List.length_map]
  refine ite2 (fun hlt => ?_) fun hge => ?_
  · have hlt' : w'.length < L := by have := of_decide_eq_true hlt; omega
    cases n with
    | zero => omega
    | succ n =>
    refine ⟨_, fun σ' H' h => ⟨n, Nat.lt_succ_self _, h⟩, _, rfl, .inl ⟨rfl, _, SqL.of hw'⟩, _, rfl, _, rfl, _, rfl, wl, _, _, _, rfl, rfl, SqL.of hw', atI_neg h1 (by rw [List.length_map]; exact hs) (by rw [List.length_map]; exact get_at (by omega)), wl, _, _, rfl, rfl, hw', ?_, ?_⟩
    · rw [List.length_map]
      exact Nat.lt_of_lt_of_le hlt' (Nat.le_trans h4 (by decide))
    · refine ⟨rfl, w' ++ [w'.getD (w'.length - size) 0], by rw [upd_same, List.map_append]; rfl, fun b hb => by rw [upd_ne hb]; exact hk b hb, by rw [List.length_append, List.length_singleton]; omega, by rw [List.length_append]; omega, hf⟩
  · have hge' : ¬ w'.length < L := fun z => hge (decide_eq_true (by omega))
    have : n = 0 := by omega
    subst this
    exact hn H' (by rw [hw', ← hf]; rfl) hk
theorem last_at {w : List Int} (h : w.length ≠ 0) : atI (w.map V.int) (-1) = some (V.int (lastI w)) :=
  atI_neg (k := 1) (Nat.le_refl 1) (by rw [List.length_map]; omega) (by rw [List.length_map]; exact get_at (by omega))
theorem strip_loop {D : Ends} {m L : Nat} {wl : Addr} {w : List Int} {u : Option V} {σ : L2.St} {H : Hp} (hσ : σ = [some (.int m), some (.int L), some (.ref wl), u]) (hw : H wl = some (.lst (w.map V.int))) (h3 : w.length ≤ L)
    (hn : ∀ H', H' wl = some (.lst ((stripW m L w).map V.int)) → (∀ b, b ≠ wl → H' b = H b) → D.nx σ H') : tStrip K D σ H := by
  refine ⟨fun n σ' H' => σ' = σ ∧ ∃ w' : List Int, H' wl = some (.lst (w'.map V.int)) ∧ (∀ b, b ≠ wl → H' b = H b) ∧ w'.length ≤ n ∧ stripW m n w' = stripW m L w,
    ⟨L, rfl, w, hw, fun _ _ => rfl, h3, rfl⟩, ?_⟩
  rintro n σ' H' ⟨rfl, w', hw', hk, hl, hf⟩
  subst hσ
  refine ⟨_, rfl, _, .inl ⟨_, SqL.of hw', rfl⟩, ?_⟩
  rw [tru_ne]
  refine ite2 (fun hne => ?_) fun he => ?_
  · have hne' := of_decide_eq_true hne
    refine ⟨_, rfl, 1, rfl, wl, _, _, _, rfl, rfl, SqL.of hw', last_at hne', _, rfl, _, _, rfl, rfl, rfl, _, rfl, ?_⟩
    cases n with
    | zero => omega
    | succ n =>
    have e : decide (V.int (lastI w') = V.int ((m : Int) - 1)) = decide (lastI w' = (m : Int) - 1) := by
      by_cases z : lastI w' = (m : Int) - 1
      · rw [decide_eq_true z, z]; exact decide_eq_true rfl
      · rw [decide_eq_false z]; exact decide_eq_false fun y => z (V.int.inj y)
    rw [e]
    have hun : stripW m (n + 1) w' = if lastI w' = m - 1 then stripW m n w'.dropLast else w' := by
      show (if w'.length = 0 then w' else _) = _
      rw [if_neg hne']
    refine ite2 (fun hq => ?_) fun hq => ?_
    · have hq' := of_decide_eq_true hq
      rw [hun, if_pos hq'] at hf
      refine ⟨_, fun σ' H' h => ⟨n, Nat.lt_succ_self _, h⟩, _, rfl, .inl ⟨rfl, _, SqL.of hw'⟩, wl, _, V.int (lastI w'), rfl, rfl, hw', by rw [List.length_map]; exact get_at (by omega), ?_⟩
      refine ⟨rfl, w'.dropLast, by rw [upd_same, List.map_dropLast], fun b hb => by rw [upd_ne hb]; exact hk b hb, by rw [List.length_dropLast]; omega, hf⟩
    · have hq' : ¬ lastI w' = (m : Int) - 1 := fun z => hq (decide_eq_true z)
      rw [hun, if_neg hq'] at hf
      exact hn H' (by rw [hw', hf]) hk
  · have he' : w'.length = 0 := Classical.byContradiction fun z => he (decide_eq_true z)
    have hun : stripW m n w' = w' := by
      cases n with
      | zero => rfl
      | succ n => show (if w'.length = 0 then w' else _) = _; rw [if_pos he']
    rw [hun] at hf
    refine iteF (hn H' (by rw [hw', hf]) hk)
def InvLen (m L : Nat) (wl : Addr) (n j : Nat) (pv : Addr → Prop) (H0 : Hp) (σ : L2.St) (H' : Hp) : Prop :=
  ∃ (u : Option V) (w : List Int), σ = [some (.int m), some (.int L), some (.ref wl), u] ∧ H' wl = some (.lst (w.map V.int)) ∧ w.length ≤ L ∧ doneF m L n w = true ∧ (wordsL m L).drop j = outsF m L n w ∧ j ≤ (wordsL m L).length ∧
      (∀ b o, H0 b = some o → ¬ pv b → H' b = some o) ∧ (pv wl ∨ H0 wl = none)
theorem rest_len {m L n : Nat} {wl : Addr} {w : List Int} (D : D2) (hD : ∀ j pv H0 σ H, InvLen m L wl n j pv H0 σ H → D.nx j pv H0 σ H) (hw0 : w.length ≠ 0) (hwL : w.length ≤ L) (hL2 : L ≤ 1000) (hdone' : doneF m L n (nextW m L w) = true) (j' : Nat) (pv' : Addr → Prop) (H0' H1 : Hp) (e1 : H1 wl = some (.lst ((bump w).map V.int))) (e2 : (wordsL m L).drop j' = outsF m L n (nextW m L w)) (e3 : j' ≤ (wordsL m L).length)
    (e4 : ∀ b o, H0' b = some o → ¬ pv' b → H1 b = some o) (e5 : pv' wl ∨ H0' wl = none) :
    tC2 (tP2 (tFill K)) (tC2 (tP2 (tStrip K)) tN2) D j' pv' H0' [some (.int m), some (.int L), some (.ref wl), some (.int (bump w).length)] H1 := by
  have hb : (bump w).length = w.length := bump_len w
  refine fill_loop (K := K) (m := m) rfl e1 (by omega) (Nat.le_refl _) (by omega) hL2 fun H2 f1 f2 => ?_
  refine strip_loop (K := K) rfl f1 (by rw [fill_len]; omega) fun H3 g1 g2 => ?_
  refine hD _ _ _ _ _ ⟨_, nextW m L w, rfl, g1, next_len hwL, hdone', e2, e3, fun b o q np => ?_, e5⟩
  have hbw : b ≠ wl := fun z => by
    rcases e5 with e5 | e5
    · exact np (z ▸ e5)
    · rw [z, e5] at q; cases q
  rw [g2 b hbw, f2 b hbw]
  exact e4 b o q np
theorem scLen : GScope ["many", "length", "word", "size"] ["many", "length"] (defScope sLen) := ⟨rfl, rfl, rfl, by decide +kernel, rfl, by decide +kernel, by decide +kernel⟩
theorem gen_len {f : Addr} {fd : FuncData} (F : Fun K "own_words_of_length" "own_words_of_length" sLen f fd) (T : Txt mg) : GFn2 P w K mg base 1 f fd ["many", "length"] spLen := by
  obtain ⟨oc, od, kV, doc, pm, an, cdv, ct, osl, rfl, lk, hcd⟩ := F.ex
  refine gfn2_of (N := ["many", "length", "word", "size"]) lk hcd scLen (fun L c hc => ?_) (fun vs H W h => ?_) ?_
  · exact absurd hc (by intro z; cases z)
  · obtain ⟨m, L, rfl, _⟩ := h
    rfl
  rintro ⟨P', w', K', mg', base', N', env', A', outer', g', a', go'⟩ H vs W hP hw hK hmg hbase hN ⟨L0, hE⟩ S hcells hr ⟨m, L, rfl, hm, hL1, hL2, hok, rfl⟩
  dsimp only at hP hw hK hmg hbase hN hE
  subst hP hw hK hmg hbase hN hE
  refine ⟨_, gb2_of (gss2_cons (gs2_if (fun _ _ => pt_cmpR op_eq (pv 0) pe_int (nomark _)) (gss2_pss fun _ _ => pss_one ps_retN) gss2_nil)
    (gss2_cons (gs2_ps fun _ _ => ps_set (i := 2) scLen.nd rfl (Or.inl rfl) (pe_lst (pa_cons (pe_un un_neg pe_int) pa_nil)))
    (gss2_one (gs2_while (fun _ _ => pt_truK (K := K') rfl (pv 2) (fun _ => rfl))
      (gss2_cons (gs2_ps fun _ _ => ps_asg (pe_op op_add (pe_ix (r := rIxL K') ix_list (pv 2) (pe_un un_neg pe_int) (fun _ _ => rfl)) pe_int) (pg_sub (pv 2) (pe_un un_neg pe_int) set_list (fun _ => rfl)))
      (gss2_cons (gs2_ps fun _ _ => ps_set (i := 3) scLen.nd rfl (Or.inl rfl) (pe_callB (call_lenK (K := K') rfl) (by rfl) T.len bt_len (pa_cons (pv 2) pa_nil)))
      (gss2_cons (gs2_if (fun _ _ => pt_cmpR op_eq (pv 3) (pv 1) (nomark _)) (gss2_one (gs2_yield S hcells ?hW (fun _ _ => pe_callTy (call_tupK (K := K') rfl) (by rfl) T.tuple bt_tuple (pa_cons (pv 2) pa_nil)))) gss2_nil)
      (gss2_cons (gs2_ps fun _ _ => ps_while PassesOwn.never (pt_cmpR op_lt (pe_callB (call_lenK (K := K') rfl) (by rfl) T.len bt_len (pa_cons (pv 2) pa_nil)) (pv 1) (nomark _))
        (pss_one (ps_expr (pe_bmK (K := K') rfl PySem.F.plainAttrs_list PySem.F.slot_list_append PySem.F.type_list_append mt_append (pv 2) (pa_cons (pe_ix (r := rIxL K') ix_list (pv 2) (pe_un un_neg (pv 3)) (fun _ _ => rfl)) pa_nil)))))
      (gss2_one (gs2_ps fun _ _ => ps_while PassesOwn.never (PW.pt (pw_and (pt_truK (K := K') rfl (pv 2) (fun _ => rfl)) (pw_and1 (pt_cmpR op_eq (pe_ix (r := rIxL K') ix_list (pv 2) (pe_un un_neg pe_int) (fun _ _ => rfl)) (pe_op op_sub (pv 0) pe_int) (nomark _)))))
        (pss_one (ps_expr (pe_bm0K (K := K') rfl PySem.F.plainAttrs_list PySem.F.slot_list_pop PySem.F.type_list_pop mt_pop (pv 2)))))))))))))), ?_⟩
  case hW =>
    rintro j x H1 H2 ⟨w1, t, e1, e2, e3⟩ k
    exact ⟨w1, t, e1, e2, k _ _ e3⟩
  intro Hr ha hsub
  refine ⟨_, rfl, rfl, _, rfl, ?_⟩
  rw [show decide (V.int (m : Int) = V.int 0) = decide (m = 0) from dec_int0 m, decide_eq_false (by omega)]
  refine iteF ⟨1, rfl, (by show 1 ≤ sizeLine; decide), fun wl hwl => ?_⟩
  refine ⟨InvLen m L wl, ⟨400, none, [-1], rfl, upd_same, hL1, hok, rfl, Nat.zero_le _, fun b o e _ => same_new hwl b o e, .inr hwl⟩, ?_⟩
  rintro n j pv H0 σ H' ⟨u, w, rfl, hw, hwL, hdone, hdrop, hj, hkeep, hfree⟩
  refine ⟨_, rfl, _, .inl ⟨_, SqL.of hw, rfl⟩, ?_⟩
  refine ite2 (fun hne => ?_) fun he => ?_
  · have hw0 : w.length ≠ 0 := by
      intro z
      rw [List.eq_nil_of_length_eq_zero z] at hne
      cases hne
    have hw1 : w.length - 1 < w.length := by omega
    have hneg : atI (w.map V.int) (-((1 : Nat) : Int)) = some (V.int (lastI w)) := atI_neg (Nat.le_refl 1) (by rw [List.length_map]; omega) (by rw [List.length_map]; exact get_at hw1)
    cases n with
    | zero =>
      have : decide (w.length = 0) = true := hdone
      exact absurd (of_decide_eq_true this) hw0
    | succ n =>
    refine ⟨_, rfl, 1, rfl, wl, _, _, _, rfl, rfl, SqL.of hw, hneg, _, _, rfl, rfl, _, rfl, 1, rfl, wl, _, _, w.length - 1, rfl, rfl, hw, ?_, ?_⟩
    · unfold ixN
      rw [List.length_map, if_neg (by omega), if_pos (by omega)]
      congr 1; omega
    have hset : (w.map V.int).set (w.length - 1) (V.int (lastI w + 1)) = (bump w).map V.int := List.map_set.symm
    rw [hset]
    have hb : (bump w).length = w.length := bump_len w
    refine ⟨_, rfl, wl, _, rfl, .inl (SqL.of upd_same), ?_⟩
    rw [List.length_map]
    have hdone' : doneF m L n (nextW m L w) = true := by
      have z : (decide (w.length = 0) || doneF m L n (nextW m L w)) = true := hdone
      rw [decide_eq_false hw0, Bool.false_or] at z; exact z
    have hdrop' : (wordsL m L).drop j = (if (bump w).length = L then [bump w] else []) ++ outsF m L n (nextW m L w) := by
      rw [hdrop]; show (if w.length = 0 then [] else _) = _; rw [if_neg hw0]
    refine ⟨_, rfl, _, rfl, rfl, _, rfl, ?_⟩
    rw [show decide (V.int ((bump w).length : Int) = V.int (L : Int)) = decide ((bump w).length = L) by
      by_cases z : (bump w).length = L
      · rw [decide_eq_true z, z]; exact decide_eq_true rfl
      · rw [decide_eq_false z]; exact decide_eq_false fun y => z (by have := V.int.inj y; omega)]
    have keep1 : ∀ b o, H0 b = some o → ¬ pv b → (upd H' wl (.lst ((bump w).map V.int))) b = some o := fun b o q np => by
      have hbw : b ≠ wl := fun z => by
        rcases hfree with e5 | e5
        · exact np (z ▸ e5)
        · rw [z, e5] at q; cases q
      rw [upd_ne hbw]; exact hkeep b o q np
    refine ite2 (fun hq => ?_) fun hq => ?_
    · have hq' := of_decide_eq_true hq
      rw [if_pos hq'] at hdrop'
      refine ⟨_, rfl, wl, _, rfl, .inl ⟨SqL.of upd_same, fun t ht => ?_⟩⟩
      have nwt : wl ≠ t := fun z => by rw [← z, upd_same] at ht; cases ht
      have hj0 : (wordsL m L)[j]? = some (bump w) := by
        have z := congrArg (fun l => l[0]?) hdrop'
        simpa using z
      have hj1 : j < (wordsL m L).length := (List.getElem?_eq_some_iff.mp hj0).1
      refine ⟨fun b => b = wl, fun b e => ?_, fun b e => ?_, fun b o q np => ?_, ⟨bump w, t, hj0, rfl, upd_same⟩, fun H2 k1 k2 => ?_⟩
      · subst e
        rcases hfree with z | z
        · exact .inl z
        · exact .inr z
      · subst e
        rw [upd_ne nwt, upd_same]; exact fun z => by cases z
      · exact same_new ht _ _ (keep1 b o q np)
      · refine rest_len _ ?hD hw0 hwL hL2 hdone' (j + 1) _ _ H2 ?_ ?_ hj1 (fun b o q _ => q) (.inl rfl)
        case hD => exact fun j pv H0 σ H h => ⟨n, Nat.lt_succ_self _, h⟩
        · rw [k1 wl rfl, upd_ne nwt, upd_same]
        · have z := congrArg List.tail hdrop'
          rw [List.tail_drop] at z
          exact z
    · have hq' : ¬ (bump w).length = L := fun z => hq (decide_eq_true z)
      rw [if_neg hq', List.nil_append] at hdrop'
      refine rest_len _ ?hD hw0 hwL hL2 hdone' j pv H0 _ upd_same hdrop' hj keep1 hfree
      case hD => exact fun j pv H0 σ H h => ⟨n, Nat.lt_succ_self _, h⟩
  · have hw0 : w.length = 0 := by
      cases w with
      | nil => rfl
      | cons a r => exact absurd rfl he
    refine ⟨hkeep, ?_⟩
    show j = (wordsL m L).length
    have z : outsF m L n w = [] := by
      cases n with
      | zero => rfl
      | succ n => show (if w.length = 0 then [] else _) = _; rw [if_pos hw0]
    rw [z] at hdrop
    have := congrArg List.length hdrop
    rw [List.length_drop, List.length_nil] at this
    omega
end
end K8

set_option Elab.async false
set_option linter.all false
set_option maxRecDepth 100000
set_option maxHeartbeats 4000000
namespace K8
open PySem PyProof.Rows L2 GenW GN
def okW (m L : Nat) : Bool := okL m L && (wordsL m L).all fun w => decide (w.length ≤ 1000) && w.all fun c => decide (0 ≤ c ∧ c < (m : Int))
def nm (ns : List Str) (w : List Int) : List Str := w.map fun c => ns.getD c.toNat ""
def ownW (ns : List Str) (D : Nat) : List (List Str) := (List.range D).flatMap fun i => (wordsL ns.length (i + 1)).map (nm ns)
def ylO (outs : List (List Str)) : Nat → V → Hp → Prop := fun j x H => ∃ ws t, outs[j]? = some ws ∧ x = .ref t ∧ H t = some (.tup (ws.map V.str))
def spOwn (CB CM : Addr) : SpG2 := fun vs H W => ∃ (v : V) (n : Int), vs = [v, .int n] ∧ (∀ j x (H H' : Hp), W.yl j x H → (∀ b o, H b = some o → H' b = some o) → W.yl j x H') ∧
  (((v = .non ∨ ∃ i, v = .int i) ∧ BadE CB H W.ex) ∨ ∃ xs, RowOf v H xs ∧ (∀ x ∈ xs, Item x) ∧ xs.length ≤ 400 ∧ ((∀ ns, ¬ Good xs ns) → BadE CB H W.ex) ∧
    (∀ ns, Good xs ns → if ns.length > 6 then ManyE CM H W.ex "knobs" 6 else if n > 12 then ManyE CM H W.ex "depth" 12 else
      ∃ D : Nat, n = (D : Int) ∧ 0 < ns.length ∧ (List.range D).all (fun i => okW ns.length (i + 1)) = true ∧ W.yl = ylO (ownW ns D) ∧ W.fin = fun k _ => k = (ownW ns D).length))
abbrev tWord (K : PySem.W.Frag) : TE := tCB (rTupK K) (tCons (tLc (iTup K (tVar 4)) (gName 5) tYes (tOp (rIxT K) (tVar 2) (tVar 5)) [5]) tNil)
theorem word_read {K : PySem.W.Frag} {v0 v1 v3 u : Option V} {tn tw : Addr} {ns : List Str} {w : List Int} {H : Hp} {Q : VK} (hn : SqT K H tn (ns.map V.str)) (hw : SqT K H tw (w.map V.int)) (hr : ∀ c ∈ w, 0 ≤ c ∧ c < (ns.length : Int)) (hz : w.length ≤ 1000)
    (q : NewT H ((nm ns w).map V.str) Q) : tWord K [v0, v1, some (.ref tn), v3, some (.ref tw), u] H Q := by
  refine ⟨_, rfl, tw, rfl, ⟨_, hw⟩, fun D hD => ?_⟩
  refine lcT (fun i acc _ => acc = (nm ns (w.take i)).map V.str) hD hw rfl ?_ ?_
  · intro i x H1 acc hx hlt sm hacc hle r
    obtain ⟨c, hc, rfl⟩ := map_at hx
    rw [List.length_map] at hlt
    obtain ⟨h0, h1⟩ := hr c (List.mem_of_getElem? hc)
    have e1 : atI (ns.map V.str) c = some (V.str (ns.getD c.toNat "")) := by
      obtain ⟨k, rfl⟩ : ∃ k : Nat, c = (k : Int) := ⟨c.toNat, by omega⟩
      have hcn : k < ns.length := by omega
      refine atI_nat ?_
      rw [List.getElem?_map, List.getElem?_eq_getElem hcn, List.getD_eq_getElem?_getD, Int.toNat_natCast, List.getElem?_eq_getElem hcn]
      rfl
    refine ⟨rfl, _, rfl, _, rfl, tn, _, _, _, rfl, rfl, seqT sm hn, e1, CI.put hD sm hacc hle (Nat.lt_of_lt_of_le hlt (Nat.le_trans hz (by decide))) ?_⟩
    rw [take1 hc, r]
    unfold nm
    rw [List.map_append, List.map_append]
    rfl
  · intro H1 acc sm hacc hle r
    rw [List.length_map, List.take_length] at r
    rw [r] at hacc
    exact ⟨D, _, rfl, .inl ⟨SqL.of hacc, fun l hl => q _ l (same_upd (sm.free hl) sm) (sm.free hl) upd_same⟩⟩
section
variable {P : Program} {w : World} {K : PySem.W.Frag} {mg : Str → Option Value} {base : Heap}
theorem scOwn : GScope ["knobs", "depth", "names", "length", "word", "place"] ["knobs", "depth"] (defScope sOwn) := ⟨rfl, rfl, rfl, by decide +kernel, rfl, by decide +kernel, by decide +kernel⟩
theorem gen_own {f fC fWd fLn CB CM : Addr} {fd fdC fdWd fdLn : FuncData} (F : Fun K "own_words" "own_words" sOwn f fd) (T : Txt mg)
    (FC : Fn K mg "checked_knobs" sChecked ["value"] fC fdC) (GC : FnOk P w K mg base (L2.CX P w) 4 fC fdC ["value"] (spChecked CB CM))
    (FW : Fn K mg "within_depth" sWithin ["depth"] fWd fdWd) (GW : FnOk P w K mg base (L2.CX P w) 3 fWd fdWd ["depth"] (spWithin CM))
    (FL : Fn K mg "own_words_of_length" sLen ["many", "length"] fLn fdLn) : GFn2 P w K mg base 5 f fd ["knobs", "depth"] (spOwn CB CM) := by
  have GL : GFn2 P w K mg base 1 fLn fdLn ["many", "length"] spLen := gen_len FL.F T
  obtain ⟨oc, od, kV, doc, pm, an, cdv, ct, osl, rfl, lk, hcd⟩ := F.ex
  refine gfn2_of (N := ["knobs", "depth", "names", "length", "word", "place"]) lk hcd scOwn (fun L c hc => ?_) (fun vs H W h => ?_) ?_
  · refine ⟨"names", ?_⟩
    have e : (envOfC "own_words" (defScope sOwn) L f cdv).cells = [(("names" : Str), L + 1)] := by rfl
    rw [e] at hc ⊢
    have hc' : c = L + 1 := by simpa using hc
    rw [hc']; rfl
  · obtain ⟨v, n, rfl, _⟩ := h
    rfl
  rintro ⟨P', w', K', mg', base', N', env', A', outer', g', a', go'⟩ H vs W hP hw hK hmg hbase hN ⟨L0, hE⟩ S hcells hr ⟨v, n, rfl, hW, hcase⟩
  dsimp only at hP hw hK hmg hbase hN hE
  subst hP hw hK hmg hbase hN hE
  have hr3 : Room 3 _ := hr.mono (by decide)
  have hr2 : Room 2 _ := hr.mono (by decide)
  have hr1 : Room 1 _ := hr.mono (by decide)
  refine ⟨_, gb2_cons (fun _ _ => ps_set (i := 2) scOwn.nd rfl (Or.inr rfl) (pe_callS GC hr rfl FC.g FC.F.kp FC.b (fun σ => passAt (takes_of (E := W.exAt _) rfl rfl rfl rfl) σ) (pa_cons (pv 0) pa_nil)))
    (gb2_cons (fun _ _ => ps_expr (pe_callS GW hr3 rfl FW.g FW.F.kp FW.b (fun σ => passAt (takes_of (E := W.exAt _) rfl rfl rfl rfl) σ) (pa_cons (pv 1) pa_nil)))
    (gb2_of (gss2_one (gs2_for (fun _ _ => pi_range2 rfl T.range (pa_cons pe_int (pa_cons (pe_op op_add (pv 1) pe_int) pa_nil))) (fun _ _ => pg_name (i := 3) scOwn.nd rfl (Or.inl rfl))
      (gss2_one (gs2_forG S hr2 (fun _ _ => pgen2_call GL hr1 rfl FL.g FL.F.kp FL.b (pa_cons (pe_callB (call_lenK (K := K') rfl) (by rfl) T.len bt_len (pa_cons (pv 2) pa_nil)) (pa_cons (pv 3) pa_nil))) (fun _ _ => pg_name (i := 4) scOwn.nd rfl (Or.inl rfl))
        (gss2_one (gs2_yield (te := tWord K') S hcells hW (fun _ _ => pe_callTy (call_tupK (K := K') rfl) (by rfl) T.tuple bt_tuple (pa_cons
          (pe_lc (wi := iTup K' (tVar 4)) (own := [("place", 5)]) (g := gName 5) (tt := tYes) (by rfl) scOwn.nd (pi_tup (pv 4)) (blkOk_by (own := [("place", 5)]) (N := ["knobs", "depth", "names", "length", "word", "place"]) (sc := defScope sOwn) (by decide +kernel))
            (fun _ _ _ _ _ => pg_name (i := 5) scOwn.nd rfl (Or.inl rfl)) (fun _ _ _ _ _ => pts_nil) (fun _ _ _ _ _ => pe_ix (r := rIxT K') ix_tup (pv 2) (pv 5) (fun _ _ => rfl))) pa_nil)))))))))), ?_⟩
  intro Hr ha hsub
  have sm : Same H Hr := hsub
  have badE : BadE CB H W.ex → BadE CB Hr (W.exAt ⟨P', w', K', mg', base', ["knobs", "depth", "names", "length", "word", "place"], envOfC "own_words" (defScope sOwn) L0 f cdv, A', outer', g', a', go'⟩) := fun h H' d y s' hd h1 h2 h3 => ⟨s' _ _ ha, h.on sm H' d y s' hd h1 h2 h3⟩
  have manyE : ∀ {y k} {H1 : Hp}, Same Hr H1 → ManyE CM H W.ex y k → ManyE CM H1 (W.exAt ⟨P', w', K', mg', base', ["knobs", "depth", "names", "length", "word", "place"], envOfC "own_words" (defScope sOwn) L0 f cdv, A', outer', g', a', go'⟩) y k := fun s1 h H' d s' hd h3 => ⟨s' _ _ (s1 _ _ ha), h.on (sm.trans s1) H' d s' hd h3⟩
  refine ⟨_, rfl, v, rfl, ?_⟩
  rcases hcase with ⟨hv, hb⟩ | ⟨xs, hrow, hit, hlen, hbad, hgood⟩
  · exact .inl ⟨hv, badE hb⟩
  refine .inr ⟨xs, hrow.on sm, hit, hlen, fun ns hns => ?_, fun h => badE (hbad h)⟩
  have hg := hgood ns hns
  by_cases h6 : ns.length > 6
  · rw [if_pos h6] at hg ⊢
    exact manyE (Same.refl _) hg
  rw [if_neg h6] at hg ⊢
  intro H1 tn s1 ntn htn
  refine ⟨_, rfl, n, rfl, ?_⟩
  by_cases h12 : n > 12
  · rw [if_pos h12] at hg ⊢
    exact manyE s1 hg
  rw [if_neg h12] at hg ⊢
  obtain ⟨D, rfl, hpos, hok, hyl, hfin⟩ := hg
  have hxs := hns.1
  subst hxs
  refine ⟨_, rfl, _, _, rfl, rfl, 1, (D : Int) + 1, rfl, ⟨by decide, by decide, by omega, by omega⟩, ?_⟩
  have hDn : ((D : Int) + 1 - 1).toNat = D := by omega
  rw [hDn]
  have pre : ∀ i, i < D → ((List.range (i + 1)).flatMap fun i => (wordsL ns.length (i + 1)).map (nm ns)) = ((List.range i).flatMap fun i => (wordsL ns.length (i + 1)).map (nm ns)) ++ (wordsL ns.length (i + 1)).map (nm ns) := fun i hi => by
    rw [List.range_succ, List.flatMap_append]; simp
  have preAll : ∀ i, i ≤ D → ∃ r, ownW ns D = ownW ns i ++ r := fun i hi => by
    obtain ⟨d, rfl⟩ := Nat.exists_eq_add_of_le hi
    unfold ownW
    rw [List.range_add, List.flatMap_append]
    exact ⟨_, rfl⟩
  refine ⟨fun i n' j pv H0 σ H' => n' = D - i ∧ i ≤ D ∧ j = (ownW ns i).length ∧ (∃ u3 u4 u5, σ = [some v, some (.int D), some (.ref tn), u3, u4, u5]) ∧ H' tn = some (.tup (ns.map V.str)) ∧ (∀ b o, H0 b = some o → ¬ pv b → H' b = some o),
    ⟨D, rfl, Nat.zero_le _, rfl, ⟨_, _, _, rfl⟩, htn, fun b o e _ => s1 b o e⟩, ?_⟩
  rintro i n' j pv H0 σ H' ⟨rfl, hi, rfl, ⟨u3, u4, u5, rfl⟩, hN', hkeep⟩
  by_cases hlt : i < D
  · refine .inr ⟨hlt, fun x H2 hy => ?_⟩
    obtain ⟨rfl, rfl⟩ := hy
    have hokI := List.all_eq_true.mp hok i (List.mem_range.mpr hlt)
    obtain ⟨hok1, hok2⟩ := Bool.and_eq_true_iff.mp hokI
    -- names: the words of this length
    refine ⟨_, rfl, tn, _, rfl, .inr (SqT.of hN'), _, rfl, wishL (wordsL ns.length (i + 1)), ⟨ns.length, i + 1, ?_, hpos, by omega, by omega, hok1, rfl⟩, fun _ _ _ z => z, ?_⟩
    · rw [List.length_map]
      show [V.int (ns.length : Int), V.int (1 + (i : Int))] = [V.int (ns.length : Int), V.int ((i + 1 : Nat) : Int)]
      rw [show (1 + (i : Int)) = ((i + 1 : Nat) : Int) by omega]
    obtain ⟨r0, hr0⟩ := preAll (i + 1) hlt
    have ei := pre i hlt
    refine ⟨fun q n'' j pv H0 σ H' Kp => n'' = (wordsL ns.length (i + 1)).length - q ∧ q ≤ (wordsL ns.length (i + 1)).length ∧ j = (ownW ns i).length + q ∧ (∃ u4 u5, σ = [some v, some (.int D), some (.ref tn), some (.int (1 + i)), u4, u5]) ∧ H' tn = some (.tup (ns.map V.str)) ∧
        (∀ b o, H0 b = some o → ¬ pv b → H' b = some o) ∧ (∀ b, Kp b → pv b ∨ H0 b = none), ⟨(wordsL ns.length (i + 1)).length, fun H3 Kp k1 k2 => ⟨rfl, Nat.zero_le _, rfl, ⟨_, _, rfl⟩, k1 _ _ hN', fun b o e np => k1 _ _ (hkeep b o e np), fun b hb => ?_⟩⟩, ?_⟩
    · refine Classical.byContradiction fun np => ?_
      have np1 : ¬ pv b := fun z => np (.inl z)
      have np2 : H0 b ≠ none := fun z => np (.inr z)
      cases e : H0 b with
      | none => exact np2 e
      | some o =>
        have := hkeep b o e np1
        rw [(k2 b hb).1] at this; cases this
    rintro q n'' j pv H0 σ H' Kp ⟨rfl, hq, rfl, ⟨u4, u5, rfl⟩, hN2, hkeep2, hkp⟩
    refine ⟨fun H3 Kp' x stp hx => ?_, fun H3 k1 k2 hf => ?_⟩
    · obtain ⟨wd, tw, hwd, rfl, htw⟩ := hx
      have hq' : q < (wordsL ns.length (i + 1)).length := (List.getElem?_eq_some_iff.mp hwd).1
      have hN3 : H3 tn = some (.tup (ns.map V.str)) := stp.tup _ _ hN2
      have hwr : ∀ c ∈ wd, 0 ≤ c ∧ c < (ns.length : Int) := fun c hc => of_decide_eq_true (List.all_eq_true.mp (Bool.and_eq_true_iff.mp (List.all_eq_true.mp hok2 wd (List.mem_of_getElem? hwd))).2 c hc)
      have hz : wd.length ≤ 1000 := of_decide_eq_true (Bool.and_eq_true_iff.mp (List.all_eq_true.mp hok2 wd (List.mem_of_getElem? hwd))).1
      refine word_read (SqT.of hN3) (SqT.of htw) hwr hz fun H4 t s4 nt e4 => ?_
      refine ⟨Kp', fun b hb => ?_, fun b hb => ?_, fun b o e np => ?_, ?_, fun H5 k5 k6 => ?_⟩
      · rcases stp.new b hb with z | z
        · exact hkp b z
        · refine Classical.byContradiction fun np => ?_
          have np1 : ¬ pv b := fun z => np (.inl z)
          have np2 : H0 b ≠ none := fun z => np (.inr z)
          cases e : H0 b with
          | none => exact np2 e
          | some o =>
            have := hkeep2 b o e np1
            rw [z] at this; cases this
      · cases e : H3 b with
        | none => exact absurd e (stp.there b hb)
        | some o => rw [s4 b o e]; exact fun z => by cases z
      · refine s4 b o (stp.same b o (hkeep2 b o e np) fun z => ?_)
        rcases hkp b z with y | y
        · exact np y
        · rw [y] at e; cases e
      · rw [hyl]
        refine ⟨nm ns wd, t, ?_, rfl, e4⟩
        rw [hr0, List.getElem?_append_left, show ownW ns (i + 1) = ownW ns i ++ (wordsL ns.length (i + 1)).map (nm ns) from ei, List.getElem?_append_right (Nat.le_add_right _ _), Nat.add_sub_cancel_left, List.getElem?_map, hwd]
        · rfl
        · rw [show ownW ns (i + 1) = ownW ns i ++ (wordsL ns.length (i + 1)).map (nm ns) from ei, List.length_append, List.length_map]; omega
      · have kk : Kpt Kp' H3 H5 := ⟨fun b hb => by
          rw [k5 b hb]
          cases e : H3 b with
          | none => exact absurd e (stp.there b hb)
          | some o => exact s4 b o e, fun b ys e => k6 b ys (s4 _ _ e)⟩
        refine ⟨kk, (wordsL ns.length (i + 1)).length - (q + 1), by omega, rfl, hq', by omega, ⟨_, _, rfl⟩, kk.tup _ _ hN3, fun b o e _ => e, fun b hb => .inl hb⟩
    · have hq2 : q = (wordsL ns.length (i + 1)).length := hf
      refine ⟨D - (i + 1), by omega, rfl, hlt, ?_, ⟨_, _, _, rfl⟩, k2 _ _ hN2, fun b o e np => k1 b o (hkeep2 b o e np) fun z => ?_⟩
      · rw [show ownW ns (i + 1) = ownW ns i ++ (wordsL ns.length (i + 1)).map (nm ns) from ei, List.length_append, List.length_map, hq2]
      · rcases hkp b z with y | y
        · exact np y
        · rw [y] at e; cases e
  · have he : i = D := by omega
    subst he
    refine .inl ⟨Nat.le_refl _, hkeep, ?_⟩
    rw [hfin]
end
end K8

set_option Elab.async false
set_option linter.all false
set_option maxRecDepth 100000
set_option maxHeartbeats 4000000
namespace K8
open PySem PyProof.Rows L2 GenW GN
/-! ### try .. except A as n .. except B as n: every error of the body is one of the two -/
abbrev TSuite := Addr → Value → Option Addr → TS
/-- behind a suite the name is gone -/
def goneD (i : Nat) (D : Ends) : Ends := { nx := fun σ H => D.nx (σ.set i none) H, rt := D.rt, bk := fun σ H => D.bk (σ.set i none) H, ct := fun σ H => D.ct (σ.set i none) H }
def wTwo (K : PySem.W.Frag) (i : Nat) (c1 c2 : Value) (t1 t2 : TSuite) (D : Ends) : WX := fun cls d σ H =>
  (PySem.W.exmOne K cls c1 = some true ∧ ∀ a, H a = none → t1 a cls d (goneD i D) (σ.set i (some (.ref a))) H) ∨
    (PySem.W.exmOne K cls c1 = some false ∧ PySem.W.exmOne K cls c2 = some true ∧ ∀ a, H a = none → t2 a cls d (goneD i D) (σ.set i (some (.ref a))) H)
/-- an error in hand: a, of the class cls, its dict d; sI: the state without it -/
structure InHand (X : Cx) (pins : List (Addr × Obj)) (σ : L2.St) (H : Hp) (B : Heap) (a : Addr) (cls : Value) (d : Option Addr) (sI s3 : Shared) : Prop where
  J : Inv X pins σ H sI
  nb : H a = none
  fl : HandSPX.FlyingZ B (X.env :: X.outer) a (Zc cls d) s3.heap
  land : ∀ h4, s3.heap.UpToSlots h4 → HandSPX.FlyingZ B (X.env :: X.outer) a (Zc cls d) h4 → Inv X pins σ H { s3 with heap := h4 }
section
variable {X : Cx} {i : Nat} {n : Str} {pins : List (Addr × Obj)} {σ : L2.St} {H : Hp} {B : Heap} {a : Addr} {cls : Value} {d : Option Addr} {sI s3 : Shared} {D : Ends}
theorem InHand.apart (Z : InHand X pins σ H B a cls d sI s3) (hf : X.env.frame = some X.env.locals) : ∀ {h4 : Heap}, HandSPX.FlyingZ B (X.env :: X.outer) a (Zc cls d) h4 → a ≠ X.env.locals ∧ a ∉ X.fs := fun {h4} f4 => by
  obtain ⟨oe, vs, he, hz, hd⟩ := f4.there
  have no : a ∉ frs (X.env :: X.outer) := fun hm => by
    obtain ⟨_, o', e', q⟩ := f4.2.2.1.mem hm
    rw [he] at e'; cases e'
    exact q _ hd
  refine ⟨fun z => no (List.mem_filterMap.mpr ⟨X.env, List.mem_cons_self, by rw [hf, z]⟩), fun hm => ?_⟩
  obtain ⟨e, q1, q2⟩ := List.mem_filterMap.mp hm
  exact no (List.mem_filterMap.mpr ⟨e, List.mem_cons_of_mem _ q1, q2⟩)
/-- one clause: its test, then its suite or the rest -/
theorem clause {x : Str} {c : Value} {np pos' : Pos} {b0 : Stmt} {suite : List Stmt} {rest : List ExceptHandler} {t : TSuite} {b : Bool} (Z : InHand X pins σ H B a cls d sI s3) (hf : X.env.frame = some X.env.locals) (hN : X.N.Nodup) (hi : X.N[i]? = some n) (hln : X.env.kindOf n = some .local) (hc : Names X x c)
    (hsu : ∀ (a : Addr) (oe : Obj) (cls : Value) (d : Option Addr) (pn : List (Addr × Obj)), Zc cls d oe → (∃ vs, oe.data = .fields vs) → PSs (X.suite a ((a, oe) :: pn)) (b0 :: suite) (t a cls d)) (hb : PySem.W.exmOne X.K cls c = some b)
    (yes : b = true → t a cls d (goneD i D) (σ.set i (some (.ref a))) H) (no : b = false → wpAny (model X.prog X.w) X.A (handleBy (.ref a) X.env rest) (SP X pins D) X.xe s3) :
    wpAny (model X.prog X.w) X.A (handleBy (.ref a) X.env (.ExceptHandler (some (.Name x np)) (some n) (b0 :: suite) pos' :: rest)) (SP X pins D) X.xe s3 := by
  have ok := Z.J.ok
  obtain ⟨oe3, vs3, he3, hz3, hd3⟩ := Z.fl.there
  have J3 : Inv X pins σ H s3 := Z.land s3.heap (.refl _) Z.fl
  obtain ⟨n1, n2⟩ := Z.apart hf Z.fl
  have S3 := J3.suite he3 hd3 Z.nb n1 n2
  have LT : PySem.W.Looks (model X.prog X.w) s3.heap (typeOf (.ref a)) cls := fun A Q E s k q => wpAny_typeOf_ref (k _ _ he3) (by rw [hz3.1]; exact q)
  refine wpAny_handleBy_cons (codeAny_handlers_test ?_) (by intro q; cases q)
  have name : ∀ {Q : Value → Shared → Prop} {E : Value → Shared → Prop}, Q c s3 → wpAny (model X.prog X.w) (X.A.mark (some (.ref a))) (eval (.Name x np) X.env) Q E s3 := fun {Q E} q => by
    obtain ⟨hg, hdb, hm | ⟨hm, hv, hn⟩⟩ := hc
    · exact ld_glob (X := X.suite a ((a, oe3) :: (X.pn ++ pins))) S3 hg hm q hdb
    · exact ld_blt (X := X.suite a ((a, oe3) :: (X.pn ++ pins))) S3 hg hm hv q hn hdb
  refine name ((PySem.W.exm_one (M := model X.prog X.w) J3.kIn LT hb).here ?_)
  cases b with
  | false => exact no rfl
  | true =>
    refine codeAny_handlers_suite_as (HandSPX.lands_againZ Z.fl fun h4 f4 u4 => ?_)
    have J4 := Z.land h4 u4 f4
    obtain ⟨oe4, vs4, he4, hz4, hd4⟩ := f4.there
    refine store_ok (X := X.suite a ((a, oe4) :: (X.pn ++ pins))) (v := .ref a) (J4.suite he4 hd4 Z.nb n1 n2) hN hi (.inl hln) rfl (fun s5 S5 => ?_) (.inr hln)
    refine wpAny_mono ((hsu a oe4 cls d (X.pn ++ pins) hz4 ⟨_, hd4⟩).run [] s5 _ H _ S5 (yes rfl)) (fun f s6 q6 => ?_) (fun _ _ z => False.elim z)
    cases f with
    | next => obtain ⟨σ6, H6, S6, q⟩ := q6; exact gone_ok (S6.unsuite ok) hN hi hln fun s7 J7 => ⟨_, _, J7, q⟩
    | brk => obtain ⟨σ6, H6, S6, q⟩ := q6; exact gone_ok (S6.unsuite ok) hN hi hln fun s7 J7 => ⟨_, _, J7, q⟩
    | cont => obtain ⟨σ6, H6, S6, q⟩ := q6; exact gone_ok (S6.unsuite ok) hN hi hln fun s7 J7 => ⟨_, _, J7, q⟩
    | ret u => obtain ⟨v6, σ6, H6, S6, r6, q⟩ := q6; exact gone_ok (S6.unsuite ok) hN hi hln fun s7 J7 => ⟨_, _, _, J7, r6, q⟩
theorem ps_try_two {body s1 s2 : List Stmt} {b1 b2 : Stmt} {x1 x2 : Str} {c1 c2 : Value} {np1 np2 p1 p2 pos : Pos} {tb : WX → TS} {t1 t2 : TSuite} (hs : X.stack = X.env :: X.outer) (hf : X.env.frame = some X.env.locals) (hN : X.N.Nodup) (hi : X.N[i]? = some n) (hln : X.env.kindOf n = some .local)
    (hc1 : Names X x1 c1) (hc2 : Names X x2 c2)
    (hb : ∀ (W : WX) (pn : List (Addr × Obj)) (xe : Value → Shared → Prop), Takes (X.tr pn xe) W → PassesOwn (model X.prog X.w) X.A X.env xe → PSs (X.tr pn xe) body (tb W))
    (hs1 : ∀ (a : Addr) (oe : Obj) (cls : Value) (d : Option Addr) (pn : List (Addr × Obj)), Zc cls d oe → (∃ vs, oe.data = .fields vs) → PSs (X.suite a ((a, oe) :: pn)) (b1 :: s1) (t1 a cls d))
    (hs2 : ∀ (a : Addr) (oe : Obj) (cls : Value) (d : Option Addr) (pn : List (Addr × Obj)), Zc cls d oe → (∃ vs, oe.data = .fields vs) → PSs (X.suite a ((a, oe) :: pn)) (b2 :: s2) (t2 a cls d)) :
    PS X (.Try body [.ExceptHandler (some (.Name x1 np1)) (some n) (b1 :: s1) p1, .ExceptHandler (some (.Name x2 np2)) (some n) (b2 :: s2) p2] [] [] pos) (fun D σ H => tb (wTwo X.K i c1 c2 t1 t2 D) D σ H) := by
  refine ⟨fun pins s σ H D I h => wpAny_Try_except ?_⟩
  have ok := I.ok
  have hfr : X.A.frames = some (X.env :: X.outer) := by rw [ok.frames, hs]
  refine wpAny_mono ((hb (wTwo X.K i c1 c2 t1 t2 D) (X.pn ++ pins) (fun e s₁ => wpAny (model X.prog X.w) X.A (noteFrame e X.env) (fun _ s₂ => wpAny (model X.prog X.w) X.A (setFlight e none) (fun _ s₃ =>
    wpAny (model X.prog X.w) X.A (handleBy e X.env _) (SP X pins D) X.xe s₃) X.xe s₂) X.xe s₁) (fun u s' xx => ?_) PassesOwn.looking).run [] s σ H D (I.toTry _) h) (fun f s1 q => ?_) (fun e s1 he => he)
  · obtain ⟨a, B, sI, pins', σ', H', cls, d, rfl, J', nb, up, sky, na, os, ag, w⟩ := xx
    have J : Inv X pins σ' H' sI := J'.ofTry ok
    refine Sky.land Zc.steady hfr hf (by rw [← hs]; exact sky) fun h3 f3 up3 => ?_
    have Z : InHand X pins σ' H' B a cls d sI { s' with heap := h3 } := ⟨J, na, f3, fun h4 u4 f4 => J.landed nb f4.1 ((up.trans up3).trans u4) os ag⟩
    rcases w with ⟨e1, w⟩ | ⟨e1, e2, w⟩
    · exact clause Z hf hN hi hln hc1 hs1 e1 (fun _ => w a na) (fun z => nomatch z)
    · exact clause Z hf hN hi hln hc1 hs1 e1 (fun z => nomatch z) fun _ => clause Z hf hN hi hln hc2 hs2 e2 (fun _ => w a na) (fun z => nomatch z)
  · cases f with
    | next => obtain ⟨σ', H', J', q⟩ := q; exact wpAny_execs_nil ⟨σ', H', J'.ofTry ok, q⟩
    | brk => obtain ⟨σ', H', J', q⟩ := q; exact ⟨σ', H', J'.ofTry ok, q⟩
    | cont => obtain ⟨σ', H', J', q⟩ := q; exact ⟨σ', H', J'.ofTry ok, q⟩
    | ret u => obtain ⟨v, σ', H', J', r, q⟩ := q; exact ⟨v, σ', H', J'.ofTry ok, r, q⟩
end
end K8

set_option Elab.async false
set_option linter.all false
set_option maxRecDepth 100000
set_option maxHeartbeats 4000000
namespace K8
open PySem PyProof.Rows L2 GenW GN
/-! ### the box of draws -/
def MX : Int := 2305843009213693951
structure Bx (bx gr : Addr) (H : Hp) : Prop where
  ne : bx ≠ gr
  at_ : ∃ (gs : List Int) (seed cur : Int), H bx = some (.lst [.ref gr, .int seed, .int cur]) ∧ H gr = some (.lst (gs.map V.int)) ∧ (∀ g ∈ gs, 0 ≤ g) ∧ 0 ≤ seed ∧ seed < 2305843009213693951 ∧ 0 ≤ cur
/-- all but the box stands -/
def SB (bx gr : Addr) (H H' : Hp) : Prop := ∀ b o, b ≠ bx → b ≠ gr → H b = some o → H' b = some o
theorem SB.refl {bx gr : Addr} (H : Hp) : SB bx gr H H := fun _ _ _ _ h => h
theorem SB.trans {bx gr : Addr} {H H1 H2 : Hp} (a : SB bx gr H H1) (b : SB bx gr H1 H2) : SB bx gr H H2 := fun c o h1 h2 h => b c o h1 h2 (a c o h1 h2 h)
theorem SB.of {bx gr : Addr} {H H1 : Hp} (a : Same H H1) : SB bx gr H H1 := fun c o _ _ h => a c o h
theorem Bx.on {bx gr : Addr} {H H1 : Hp} (h : Bx bx gr H) (s : Same H H1) : Bx bx gr H1 := by
  obtain ⟨ne, gs, sd, cu, h1, h2, h3⟩ := h
  exact ⟨ne, gs, sd, cu, s _ _ h1, s _ _ h2, h3⟩
theorem Bx.new {bx gr p : Addr} {H : Hp} (h : Bx bx gr H) (hp : H p = none) : p ≠ bx ∧ p ≠ gr := by
  obtain ⟨ne, gs, sd, cu, h1, h2, h3⟩ := h
  exact ⟨(ne_of_none h1 hp).symm, (ne_of_none h2 hp).symm⟩
theorem Bx.tup {bx gr p : Addr} {H : Hp} {xs : List V} (h : Bx bx gr H) (hp : H p = some (.tup xs)) : p ≠ bx ∧ p ≠ gr := by
  obtain ⟨ne, gs, sd, cu, h1, h2, h3⟩ := h
  exact ⟨ne_of hp h1 (by intro q; cases q), ne_of hp h2 (by intro q; cases q)⟩
/-- a statement, then the rest behind a word between them -/
def tCt (t u : TS) : TS := fun D σ H => ∃ M : L2.St → Hp → Prop, t { D with nx := M } σ H ∧ ∀ σ' H', M σ' H' → u D σ' H'
theorem pss_ct {X : Cx} {st : Stmt} {rest : List Stmt} {t u : TS} (h1 : PS X st t) (h2 : PSs X rest u) : PSs X (st :: rest) (tCt t u) :=
  ⟨fun pins s σ H D I ⟨M, hm, hu⟩ => wpAny_execs_cons (thn (h1.run pins s σ H { D with nx := M } I hm) fun f s1 q => match f, q with
    | .next, ⟨σ', H', I', q⟩ => h2.run pins s1 σ' H' D I' (hu σ' H' q)
    | .ret _, q => q
    | .brk, q => q
    | .cont, q => q)⟩
def spBox (K : PySem.W.Frag) : Sp := fun vs H Q _ => ∃ (a : Addr) (ns : List Int), vs = [.ref a] ∧ SqL K H a (ns.map V.int) ∧ ns.length ≤ 63 ∧ ∀ H' bx gr, Same H H' → H bx = none → H gr = none → Bx bx gr H' → Q (.ref bx) H'
def spDraw : Sp := fun vs H Q _ => ∃ (bx gr : Addr) (m : Nat), vs = [.ref bx, .int m] ∧ Bx bx gr H ∧ 0 < m ∧ m ≤ 1000 ∧ ∀ H' (d : Nat), SB bx gr H H' → Bx bx gr H' → d < m → Q (.int d) H'
section
variable {P : Program} {w : World} {K : PySem.W.Frag} {mg : Str → Option Value} {base : Heap}
theorem scDr : FnScope ["box", "many", "digit"] ["box", "many"] (defScope sDraw) := ⟨rfl, rfl, rfl, by decide +kernel, rfl, by decide +kernel, by decide +kernel⟩
theorem draw_fin {x : Int} {m : Nat} (hm : 0 < m) {Q : V → Prop} (q : ∀ d : Nat, d < m → Q (.int d)) : Q (.int (x % m)) := by
  have h0 : 0 ≤ x % m := Int.emod_nonneg x (by omega)
  have h1 : x % m < m := Int.emod_lt_of_pos x (by omega)
  have := q (x % m).toNat (by omega)
  rw [Int.toNat_of_nonneg h0] at this
  exact this
theorem ok_draw {f : Addr} {fd : FuncData} (F : Fun K "_law_draw" "_law_draw" sDraw f fd) (T : Txt mg) : FnOk P w K mg base CX0 1 f fd ["box", "many"] spDraw := by
  refine F.ok scDr (fun vs H Q E h => ?_) (fun cdv A outer s H vs Q E hr h => ?_)
  · obtain ⟨_, _, _, rfl, _⟩ := h
    rfl
  · obtain ⟨bx, gr, m, rfl, ⟨ne, gs, sd, cu, e1, e2, e3, e4, e5, e6⟩, hm, hm2, q⟩ := h
    refine ⟨_, pss_ct (ps_if (PW.pt (pw_and (pt_cmpR op_eq (pe_ix ix_list (pv 0) pe_int (fun _ _ => rfl)) pe_int (nomark _)) (pw_and1 (pt_cmpR op_gt (pe_callB call_len_seq (by rfl) T.len bt_len (pa_cons (pe_ix ix_list (pv 0) pe_int (fun _ _ => rfl)) pa_nil)) pe_int (nomark _)))))
        (pss_one (ps_asg (pe_bm PySem.F.plainAttrs_list PySem.F.slot_list_pop PySem.F.type_list_pop mt_popAt (pe_ix ix_list (pv 0) pe_int (fun _ _ => rfl)) (pa_cons pe_int pa_nil)) (pg_sub (pv 0) pe_int set_list (fun _ => rfl)))) pss_nil)
      (pss_cons (ps_if (pt_cmpR op_gt (pe_ix ix_list (pv 0) pe_int (fun _ _ => rfl)) pe_int (nomark _))
        (pss_cons (ps_set (i := 2) scDr.nd rfl (Or.inl rfl) (pe_op op_mod (pe_callTy call_int1 (by rfl) T.int bt_int (pa_cons (pe_ix ix_list (pv 0) pe_int (fun _ _ => rfl)) pa_nil)) (pv 1)))
        (pss_cons (ps_asg (pe_op op_fdiv (pe_ix ix_list (pv 0) pe_int (fun _ _ => rfl)) (pv 1)) (pg_sub (pv 0) pe_int set_list (fun _ => rfl)))
        (pss_one (ps_ret (pv 2))))) pss_nil)
      (pss_cons (ps_asg (pe_op op_mod (pe_callTy call_int1 (by rfl) T.int bt_int (pa_cons (pe_op op_add (pe_op op_mul (pe_ix ix_list (pv 0) pe_int (fun _ _ => rfl)) pe_int) pe_int) pa_nil)) pe_int) (pg_sub (pv 0) pe_int set_list (fun _ => rfl)))
      (pss_one (ps_ret (pe_op op_mod (pe_callTy call_int1 (by rfl) T.int bt_int (pa_cons (pe_op op_fdiv (pe_ix ix_list (pv 0) pe_int (fun _ _ => rfl)) pe_int) pa_nil)) (pv 1)))))), ?_⟩
    have e10 : atI ([.ref gr, .int sd, .int cu] : List V) 0 = some (.ref gr) := rfl
    refine ⟨fun σ' H' => σ' = [some (.ref bx), some (.int m), none] ∧ SB bx gr H H' ∧ ∃ (gs : List Int) (cur : Int), H' bx = some (.lst [.ref gr, .int sd, .int cur]) ∧ H' gr = some (.lst (gs.map V.int)) ∧ (∀ g ∈ gs, 0 ≤ g) ∧ 0 ≤ cur, ?_, ?_⟩
    · refine ⟨_, rfl, bx, _, 2, _, rfl, rfl, SqL.of e1, rfl, rfl, _, rfl, ite2 (fun h1 => ?_) fun _ => iteF ⟨rfl, SB.refl _, gs, cu, e1, e2, e3, e6⟩⟩
      refine ⟨_, rfl, bx, _, 0, _, rfl, rfl, SqL.of e1, rfl, gr, _, rfl, .inl (SqL.of e2), _, _, rfl, rfl, _, rfl, ite2 (fun h2 => ?_) fun _ => ⟨rfl, SB.refl _, gs, cu, e1, e2, e3, e6⟩⟩
      cases gs with
      | nil => cases h2
      | cons g r =>
        refine ⟨_, rfl, bx, _, 0, _, rfl, rfl, SqL.of e1, rfl, .inl ⟨rfl, _, SqL.of e2⟩, gr, _, 0, 0, V.int g, rfl, rfl, e2, by decide, by decide, ?_, rfl, ?_⟩
        · unfold seqIndex?
          simp
        · refine ⟨_, rfl, bx, _, 2, 2, rfl, rfl, by rw [upd_ne ne]; exact e1, rfl, rfl, fun b o n1 n2 e => by rw [upd_ne n1, upd_ne n2]; exact e, r, g, ?_, ?_, fun y hy => e3 y (List.mem_cons_of_mem _ hy), e3 g List.mem_cons_self⟩
          · rw [upd_same]; rfl
          · rw [upd_ne ne.symm, upd_same]; rfl
    · rintro σ' H' ⟨rfl, sb, gs, cur, e1, e2, e3, e6⟩
      refine ⟨_, rfl, bx, _, 2, _, rfl, rfl, SqL.of e1, rfl, _, _, rfl, rfl, _, rfl, ite2 (fun h1 => ?_) fun h1 => ?_⟩
      · refine ⟨_, rfl, bx, _, 2, _, rfl, rfl, SqL.of e1, rfl, .inl ⟨cur, rfl, _, rfl, _, _, rfl, rfl, by show (0 : Int) < m; omega, ?_⟩⟩
        refine ⟨_, rfl, bx, _, 2, _, rfl, rfl, SqL.of e1, rfl, _, rfl, _, _, rfl, rfl, ⟨by omega, by omega⟩, _, rfl, bx, _, 2, 2, rfl, rfl, e1, rfl, _, rfl, ?_⟩
        refine draw_fin hm (Q := fun v => Q v _) fun d hd => q _ d (sb.trans fun b o n1 n2 e => by rw [upd_ne n1]; exact e) ⟨ne, gs, sd, cur / m, ?_, ?_, e3, e4, e5, ?_⟩ hd
        · rw [upd_same]; rfl
        · rw [upd_ne ne.symm]; exact e2
        · exact Int.ediv_nonneg e6 (by omega)
      · refine ⟨_, rfl, bx, _, 1, _, rfl, rfl, SqL.of e1, rfl, _, _, rfl, rfl, .inl ⟨by omega, by omega⟩, _, _, rfl, rfl, .inl ⟨_, rfl, _, _, rfl, rfl, (by show (0 : Int) < 2305843009213693951; decide), _, rfl, bx, _, 1, 1, rfl, rfl, e1, rfl, ?_⟩⟩
        have n0 : 0 ≤ (sd * 1512401965023503517 + 1442695040888963407) % 2305843009213693951 := Int.emod_nonneg _ (by decide)
        have n1 : (sd * 1512401965023503517 + 1442695040888963407) % 2305843009213693951 < 2305843009213693951 := Int.emod_lt_of_pos _ (by decide)
        have e1' : (upd H' bx (.lst [.ref gr, .int ((sd * 1512401965023503517 + 1442695040888963407) % 2305843009213693951), .int cur])) bx = some (.lst [.ref gr, .int ((sd * 1512401965023503517 + 1442695040888963407) % 2305843009213693951), .int cur]) := upd_same
        refine ⟨_, rfl, bx, _, 1, _, rfl, rfl, SqL.of e1', rfl, _, _, rfl, rfl, ⟨by decide, by decide⟩, .inl ⟨_, rfl, _, rfl, _, _, rfl, rfl, by show (0 : Int) < m; omega, ?_⟩⟩
        refine draw_fin hm (Q := fun v => Q v _) fun d hd => q _ d (sb.trans fun b o n1 n2 e => by rw [upd_ne n1]; exact e) ⟨ne, gs, _, cur, e1', by rw [upd_ne ne.symm]; exact e2, e3, n0, n1, e6⟩ hd
theorem scBx : FnScope ["script", "great", "seed", "cell", "number"] ["script"] (defScope sBox) := ⟨rfl, rfl, rfl, by decide +kernel, rfl, by decide +kernel, by decide +kernel⟩
theorem ok_box {f : Addr} {fd : FuncData} (F : Fun K "_law_box" "_law_box" sBox f fd) (T : Txt mg) : FnOk P w K mg base CX0 1 f fd ["script"] (spBox K) := by
  refine F.ok scBx (fun vs H Q E h => ?_) (fun cdv A outer s H vs Q E hr h => ?_)
  · obtain ⟨_, _, rfl, _⟩ := h
    rfl
  · obtain ⟨a, ns, rfl, hS, hlen, q⟩ := h
    refine ⟨_, pss_cons (ps_set (i := 1) scBx.nd rfl (Or.inl rfl) (pe_lst pa_nil)) (pss_cons (ps_set (i := 2) scBx.nd rfl (Or.inl rfl) pe_int)
      (pss_cons (ps_for PassesOwn.never rfl (pi_list (pe_slice sl_list (pv 0) po_none (po_some pe_int))) (pg_name (i := 3) scBx.nd rfl (Or.inl rfl))
        (pss_cons (ps_set (i := 4) scBx.nd rfl (Or.inl rfl) (pe_callTy call_int1 (by rfl) T.int bt_int (pa_cons (pv 3) pa_nil)))
        (pss_ct (ps_if (pt_cmpR op_ge (pe_callB call_abs (by rfl) T.abs bt_abs (pa_cons (pv 4) pa_nil)) pe_int (nomark _))
          (pss_one (ps_expr (pe_bm PySem.F.plainAttrs_list PySem.F.slot_list_append PySem.F.type_list_append mt_append (pv 1) (pa_cons (pe_callB call_abs (by rfl) T.abs bt_abs (pa_cons (pv 4) pa_nil)) pa_nil)))) pss_nil)
        (pss_one (ps_set (i := 2) scBx.nd rfl (Or.inl rfl) (pe_op op_mod (pe_op op_add (pe_op op_add (pe_op op_mul (pv 2) pe_int) (pe_op op_mod (pe_callTy call_int1 (by rfl) T.int bt_int (pa_cons (pv 4) pa_nil)) pe_int)) pe_int) pe_int))))))
      (pss_one (ps_ret (pe_lst (pa_cons (pv 1) (pa_cons (pv 2) (pa_cons pe_int pa_nil)))))))), ?_⟩
    refine ⟨Nat.zero_le _, fun gr hgr => ⟨_, rfl, 63, rfl, a, ns.map V.int, rfl, (same_new hgr).seq hS, fun sc hsc => ?_⟩⟩
    have ecut : cutV (ns.map V.int) none (some 63) = ns.map V.int := by
      unfold cutV
      show ((ns.map V.int).drop 0).take (HT.sIx _ _ (some ((63 : Nat) : Int)) - 0) = _
      rw [HT.sIx_nat, List.drop_zero, List.length_map]
      exact List.take_of_length_le (by rw [List.length_map]; omega)
    rw [ecut]
    have ngs : gr ≠ sc := fun z => by rw [← z, upd_same] at hsc; cases hsc
    refine ⟨sc, rfl, ⟨_, SqL.of upd_same⟩, for_list (K := K) (a := sc) (xs := ns.map V.int) (fun i σ H' => ∃ (u v : Option V) (sd : Int) (gs : List Int), σ = [some (.ref a), some (.ref gr), some (.int sd), u, v] ∧ Same H H' ∧ H' sc = some (.lst (ns.map V.int)) ∧ H' gr = some (.lst (gs.map V.int)) ∧ (∀ g ∈ gs, 0 ≤ g) ∧ gs.length ≤ i ∧ 0 ≤ sd ∧ sd < 2305843009213693951)
      ⟨none, none, 5417, [], rfl, same_upd (upd_free hsc) (same_new hgr), upd_same, by rw [upd_ne ngs]; exact upd_same, by simp, Nat.zero_le _, by decide, by decide⟩ (fun i σ H' _ ⟨_, _, _, _, _, _, e, _⟩ => SqL.of e) ?_ ?_⟩
    · rintro i x σ H' hx ⟨u, v, sd, gs, rfl, sm, es, eg, pos, hl, s0, s1⟩
      obtain ⟨n, hn, rfl⟩ := map_at hx
      have hi : i < ns.length := (List.getElem?_eq_some_iff.mp hn).1
      refine ⟨_, rfl, .inl ⟨n, rfl, ?_⟩⟩
      refine ⟨fun σ' H2 => σ' = [some (.ref a), some (.ref gr), some (.int sd), some (.int n), some (.int n)] ∧ Same H H2 ∧ H2 sc = some (.lst (ns.map V.int)) ∧ ∃ gs : List Int, H2 gr = some (.lst (gs.map V.int)) ∧ (∀ g ∈ gs, 0 ≤ g) ∧ gs.length ≤ i + 1, ?_, ?_⟩
      · refine ⟨_, rfl, n, rfl, _, _, rfl, rfl, _, rfl, ite2 (fun h1 => ?_) fun _ => ⟨rfl, sm, es, gs, eg, pos, by omega⟩⟩
        refine ⟨_, rfl, .inl ⟨rfl, _, SqL.of eg⟩, _, rfl, n, rfl, gr, _, _, rfl, rfl, eg, by rw [List.length_map]; exact Nat.lt_of_le_of_lt (show gs.length ≤ 100 by omega) (by decide), rfl, same_upd hgr sm, by rw [upd_ne ngs.symm]; exact es, gs ++ [if n < 0 then -n else n], by rw [upd_same, List.map_append]; rfl, ?_, by rw [List.length_append, List.length_singleton]; omega⟩
        intro g hg
        rcases List.mem_append.mp hg with hg | hg
        · exact pos g hg
        · rw [List.mem_singleton] at hg
          subst hg
          split <;> omega
      · rintro σ' H2 ⟨rfl, sm2, es2, gs2, eg2, pos2, hl2⟩
        refine ⟨_, rfl, _, _, rfl, rfl, .inl ⟨by omega, by omega⟩, _, rfl, .inl ⟨n, rfl, _, _, rfl, rfl, (by show (0 : Int) < 1000003; decide), _, _, rfl, rfl, _, _, rfl, rfl, _, _, rfl, rfl, (by show (0 : Int) < 2305843009213693951; decide), ?_⟩⟩
        exact ⟨_, _, _, gs2, rfl, sm2, es2, eg2, pos2, hl2, Int.emod_nonneg _ (by decide), Int.emod_lt_of_pos _ (by decide)⟩
    · rintro σ H' ⟨u, v, sd, gs, rfl, sm, es, eg, pos, hl, s0, s1⟩
      refine ⟨_, rfl, _, rfl, (by show 3 ≤ sizeLine; decide), fun bx hbx => ?_⟩
      have ngb : gr ≠ bx := ne_of_none eg hbx
      exact q _ bx gr (same_upd (sm.free hbx) sm) (sm.free hbx) hgr ⟨ngb.symm, gs, sd, 0, upd_same, by rw [upd_ne ngb]; exact eg, pos, s0, s1, Int.le_refl _⟩
end
end K8

set_option Elab.async false
set_option linter.all false
set_option maxRecDepth 100000
set_option maxHeartbeats 4000000
namespace K8
open PySem PyProof.Rows L2 GenW GN
/-! ### names that are drawn -/
def nmS (z : Str) : Prop := ∃ c r, z.cps.toList = c :: r ∧ ltB c = true ∧ r.all inB = true ∧ r.length ≤ 15
theorem inB_lt {c : Nat} (h : ltB c = true) : inB c = true := by unfold inB; rw [h]; rfl
theorem len_of {z : Str} {c : Nat} {r : List Nat} (h : z.cps.toList = c :: r) : z.length = r.length + 1 := by
  have : z.cps.toList.length = z.length := Array.length_toList
  rw [h] at this; exact this.symm
theorem nmS_isNm {z : Str} (h : nmS z) (hk : z ∉ kept) : isNm z = true := by
  obtain ⟨c, r, e, h1, h2, h3⟩ := h
  have hl := len_of e
  unfold isNm
  rw [if_neg (by omega), if_neg (by omega), if_neg (fun y => ?_), e]
  · show (if ltB c = true then _ else _) = true
    rw [if_pos h1, List.all_cons, inB_lt h1, h2]; rfl
  · obtain ⟨x, hx, q⟩ := List.any_eq_true.mp y
    rw [eq_of_beq q] at hx
    exact hk hx
theorem isNm_nmS {z : Str} (h : isNm z = true) : nmS z ∧ z ∉ kept := by
  unfold isNm at h
  by_cases h0 : z.length = 0
  · rw [if_pos h0] at h; cases h
  rw [if_neg h0] at h
  by_cases h1 : 16 < z.length
  · rw [if_pos h1] at h; cases h
  rw [if_neg h1] at h
  by_cases h2 : (kept.any fun y => y == z) = true
  · rw [if_pos h2] at h; cases h
  rw [if_neg h2] at h
  refine ⟨?_, fun hm => h2 (List.any_eq_true.mpr ⟨z, hm, by simp⟩)⟩
  cases e : z.cps.toList with
  | nil =>
    have : z.cps.toList.length = z.length := Array.length_toList
    rw [e] at this; exact absurd this.symm h0
  | cons c r =>
    rw [e] at h
    by_cases h3 : ltB c = true
    · rw [if_pos h3, List.all_cons] at h
      have hl := len_of e
      exact ⟨c, r, e, h3, (Bool.and_eq_true_iff.mp h).2, by omega⟩
    · rw [if_neg h3] at h; cases h
theorem app_tl (x y : Str) : (x ++ y).cps.toList = x.cps.toList ++ y.cps.toList := TL.tl_append x y
theorem nmS_app {z y : Str} {m : Nat} (h : nmS z) (hm : z.length ≤ m) (hy : y.cps.toList.all inB = true) (hl : m + y.length ≤ 16) : nmS (z ++ y) := by
  obtain ⟨c, r, e, h1, h2, h3⟩ := h
  have l1 := len_of e
  have l2 : y.cps.toList.length = y.length := Array.length_toList
  refine ⟨c, r ++ y.cps.toList, by rw [app_tl, e]; rfl, h1, by rw [List.all_append, h2, hy]; rfl, by rw [List.length_append, l2]; omega⟩
theorem len_app (x y : Str) : (x ++ y).length = x.length + y.length := by
  have h1 : (x ++ y).cps.toList.length = (x ++ y).length := Array.length_toList
  have h2 : x.cps.toList.length = x.length := Array.length_toList
  have h3 : y.cps.toList.length = y.length := Array.length_toList
  rw [← h1, app_tl, List.length_append, h2, h3]
/-- name[:16 - len(str(k))] + str(k) -/
def numS (k : Nat) : Str := Str.ofString (toString ((k : Nat) : Int))
theorem numS_tl (k : Nat) : (numS k).cps.toList = TL.numL k := TL.tl_num k
def cand (z : Str) (k : Nat) : Str := cutS z none (some ((16 - (numS k).length : Nat) : Int)) ++ numS k
theorem numS_len {k : Nat} (h : k < 100) : 1 ≤ (numS k).length ∧ (numS k).length ≤ 2 := by
  have e : (numS k).length = (TL.numL k).length := by
    have h1 : (numS k).cps.toList.length = (numS k).length := Array.length_toList
    rw [← h1, numS_tl]
  rw [e]
  refine ⟨?_, TL.numL_len (by decide) h⟩
  cases e2 : TL.numL k with
  | nil => exact absurd e2 (TL.numL_ne k)
  | cons a b => simp
theorem cut_tl (z : Str) (m : Nat) : (cutS z none (some (m : Int))).cps.toList = z.cps.toList.take m := by
  unfold cutS
  show ((z.cps.toList.drop 0).take (HT.sIx z.length z.length (some (m : Int)) - 0)) = _
  rw [HT.sIx_nat, List.drop_zero, Nat.sub_zero]
  have h1 : z.cps.toList.length = z.length := Array.length_toList
  by_cases h : m ≤ z.length
  · rw [Nat.min_eq_left h]
  · rw [Nat.min_eq_right (by omega), List.take_of_length_le (by omega), List.take_of_length_le (by omega)]
theorem cand_nmS {z : Str} {k : Nat} (h : nmS z) (hk : k < 100) : nmS (cand z k) := by
  obtain ⟨c, r, e, h1, h2, h3⟩ := h
  obtain ⟨l1, l2⟩ := numS_len hk
  have hd : (numS k).cps.toList.all inB = true := by
    rw [numS_tl, List.all_eq_true]
    intro c hc
    have := TL.numL_digits k c hc
    unfold inB dgB
    rw [decide_eq_true this]; simp
  obtain ⟨m, hm⟩ : ∃ m, 16 - (numS k).length = m + 1 := ⟨16 - (numS k).length - 1, by omega⟩
  have hlen : (numS k).cps.toList.length = (numS k).length := Array.length_toList
  refine ⟨c, r.take m ++ (numS k).cps.toList, ?_, h1, ?_, ?_⟩
  · unfold cand
    rw [app_tl, cut_tl, e, hm]; rfl
  · rw [List.all_append, hd, Bool.and_true, List.all_eq_true]
    exact fun x hx => List.all_eq_true.mp h2 x (List.mem_of_mem_take hx)
  · rw [List.length_append, List.length_take, hlen]; omega
theorem cand_last {z : Str} {k : Nat} (hk : k < 10) : (cand z k).cps.toList.getLast? = some (48 + k) := by
  unfold cand
  rw [app_tl, numS_tl, TL.numL_lt hk]
  simp
theorem kept_last : ∀ y ∈ kept, ∀ k, k < 6 → y.cps.toList.getLast? ≠ some (48 + k) := by
  have h : (kept.all fun y => (List.range 6).all fun k => decide (y.cps.toList.getLast? ≠ some (48 + k))) = true := by decide +kernel
  intro y hy k hk
  exact of_decide_eq_true (List.all_eq_true.mp (List.all_eq_true.mp h y hy) k (List.mem_range.mpr hk))
theorem pigeon {α : Type} [DecidableEq α] : ∀ (l t : List α), l.Nodup → (∀ x ∈ l, x ∈ t) → l.length ≤ t.length
  | [], t, _, _ => Nat.zero_le _
  | x :: l, t, hn, hs => by
    obtain ⟨h1, h2⟩ := List.nodup_cons.mp hn
    have hx := hs x List.mem_cons_self
    have := pigeon l (t.erase x) h2 fun y hy => (List.mem_erase_of_ne (fun e => h1 (by rw [← e]; exact hy))).mpr (hs y (List.mem_cons_of_mem _ hy))
    rw [List.length_erase_of_mem hx] at this
    have hp : 0 < t.length := List.length_pos_of_mem hx
    rw [List.length_cons]; omega
theorem nodup_of_last : ∀ (f : Nat → Str) (n : Nat), (∀ k, k < n → (f k).cps.toList.getLast? = some (48 + k)) → ((List.range n).map f).Nodup := fun f n h => by
  show List.Pairwise (· ≠ ·) _
  rw [List.pairwise_map]
  refine List.Pairwise.imp_of_mem (fun {a b} ha hb hlt e => ?_) List.pairwise_lt_range
  have e' := congrArg (fun z : Str => z.cps.toList.getLast?) e
  simp only [h a (List.mem_range.mp ha), h b (List.mem_range.mp hb)] at e'
  have := Option.some.inj e'
  omega
/-- some candidate is free -/
theorem some_free {z : Str} {ts : List Str} (h5 : ts.length ≤ 5) : ∃ k, k < 6 ∧ cand z k ∉ kept ++ ts := by
  refine Classical.byContradiction fun hno => ?_
  have all : ∀ k, k < 6 → cand z k ∈ ts := fun k hk => by
    have hm : cand z k ∈ kept ++ ts := Classical.byContradiction fun q => hno ⟨k, hk, q⟩
    rcases List.mem_append.mp hm with q | q
    · exact absurd (cand_last (by omega)) (kept_last _ q k hk)
    · exact q
  have := pigeon ((List.range 6).map (cand z)) ts (nodup_of_last _ 6 fun k hk => cand_last (by omega)) fun x hx => by
    obtain ⟨k, hk, rfl⟩ := List.mem_map.mp hx
    exact all k (List.mem_range.mp hk)
  rw [List.length_map, List.length_range] at this
  omega
end K8

set_option Elab.async false
set_option linter.all false
set_option maxRecDepth 100000
set_option maxHeartbeats 4000000
namespace K8
open PySem PyProof.Rows L2 GenW GN
def kept1 : List Str := ["answer", "machine", "worths", "pack", "model", "knobs", "number", "turn", "sight", "bar", "bracket"]
def kept2 : List Str := ["word", "done", "int", "d", "still"]
theorem kept12 : kept = kept1 ++ kept2 := rfl
def letters : Str := "abcdefghijklmnopqrstuvwxyz"
theorem lett_at {d : Nat} (h : d < 26) : ∃ c, letters.cps.toList[d]? = some c ∧ ltB c = true := by
  have q : ((List.range 26).all fun d => match letters.cps.toList[d]? with | some c => ltB c | none => false) = true := by decide +kernel
  have := List.all_eq_true.mp q d (List.mem_range.mpr h)
  cases e : letters.cps.toList[d]? with
  | none => rw [e] at this; cases this
  | some c => rw [e] at this; exact ⟨c, rfl, this⟩
theorem sign_at {d : Nat} (h : d < 37) : ∃ c, (letters ++ ("0123456789_" : Str)).cps.toList[d]? = some c ∧ inB c = true := by
  have q : ((List.range 37).all fun d => match (letters ++ ("0123456789_" : Str)).cps.toList[d]? with | some c => inB c | none => false) = true := by decide +kernel
  have := List.all_eq_true.mp q d (List.mem_range.mpr h)
  cases e : (letters ++ ("0123456789_" : Str)).cps.toList[d]? with
  | none => rw [e] at this; cases this
  | some c => rw [e] at this; exact ⟨c, rfl, this⟩
theorem size_at {d : Nat} (h : d < 6) : ∃ s : Nat, s ≤ 5 ∧ ([.int 0, .int 0, .int 1, .int 2, .int 4, .int 5] : List V)[d]? = some (.int s) :=
  match d, h with
  | 0, _ => ⟨0, by decide, rfl⟩
  | 1, _ => ⟨0, by decide, rfl⟩
  | 2, _ => ⟨1, by decide, rfl⟩
  | 3, _ => ⟨2, by decide, rfl⟩
  | 4, _ => ⟨4, by decide, rfl⟩
  | 5, _ => ⟨5, by decide, rfl⟩
theorem sl16 {n : Nat} (h : n ≤ 16) : n ≤ sizeLine := Nat.le_trans h (by decide)
theorem nmS_len {z : Str} (h : nmS z) : 1 ≤ z.length ∧ z.length ≤ 16 := by
  obtain ⟨c, r, e, _, _, h3⟩ := h
  have := len_of e; omega
theorem inV_not (z : Str) (l : List Str) : (!inV (.str z) (l.map V.str)) = decide (z ∉ l) := by
  rw [inV_str]
  by_cases h : z ∈ l
  · rw [decide_eq_false (fun q => q h)]
    have : (l.any fun y => y == z) = true := List.any_eq_true.mpr ⟨z, h, by simp⟩
    rw [this]; rfl
  · rw [decide_eq_true h]
    have : (l.any fun y => y == z) = false := by
      rw [Bool.eq_false_iff]
      intro q
      obtain ⟨x, hx, e⟩ := List.any_eq_true.mp q
      exact h (eq_of_beq e ▸ hx)
    rw [this]; rfl
def spName : Sp := fun vs H Q _ => ∃ (bx gr tk ot : Addr) (ts : List Str), vs = [.ref bx, .ref tk, .ref ot] ∧ Bx bx gr H ∧ H tk = some (.lst (ts.map V.str)) ∧ H ot = some (.lst []) ∧ tk ≠ bx ∧ tk ≠ gr ∧ ot ≠ bx ∧ ot ≠ gr ∧ (∀ z ∈ ts, isNm z = true) ∧ ts.length ≤ 5 ∧
  ∀ H' (z : Str), SB bx gr H H' → Bx bx gr H' → isNm z = true → z ∉ ts → Q (.str z) H'
section
variable {P : Program} {w : World} {K : PySem.W.Frag} {mg : Str → Option Value} {base : Heap}
abbrev nName : List Str := ["box", "taken", "others", "letters", "kept", "name", "size", "k", "free", "item"]
theorem scNm : FnScope nName ["box", "taken", "others"] (defScope sName) := ⟨rfl, rfl, rfl, by decide +kernel, rfl, by decide +kernel, by decide +kernel⟩
theorem ok_name {f fD : Addr} {fd fdD : FuncData} (F : Fun K "_law_name" "_law_name" sName f fd) (T : Txt mg) (FD : Fn K mg "_law_draw" sDraw ["box", "many"] fD fdD) : FnOk P w K mg base CX0 2 f fd ["box", "taken", "others"] spName := by
  have GD : FnOk P w K mg base CX0 1 fD fdD ["box", "many"] spDraw := ok_draw FD.F T
  refine F.ok scNm (fun vs H Q E h => ?_) (fun cdv A outer s H vs Q E hr h => ?_)
  · obtain ⟨_, _, _, _, _, rfl, _⟩ := h
    rfl
  · obtain ⟨bx, gr, tk, ot, ts, rfl, hB, htk, hot, n1, n2, n3, n4, hts, hlen, q⟩ := h
    refine ⟨_, pss_cons (ps_set (i := 3) scNm.nd rfl (Or.inl rfl) pe_str)
      (pss_cons (ps_set (i := 4) scNm.nd rfl (Or.inr rfl) (pe_lst (pa_cons pe_str (pa_cons pe_str (pa_cons pe_str (pa_cons pe_str (pa_cons pe_str (pa_cons pe_str (pa_cons pe_str (pa_cons pe_str (pa_cons pe_str (pa_cons pe_str (pa_cons pe_str pa_nil)))))))))))))
      (pss_cons (ps_set (i := 4) scNm.nd rfl (Or.inr rfl) (pe_op op_cat (pe_op op_cat (pv 4) (pe_lst (pa_cons pe_str (pa_cons pe_str (pa_cons pe_str (pa_cons pe_str (pa_cons pe_str pa_nil))))))) (pe_callTy call_list_of (by rfl) T.list bt_list (pa_cons (pv 1) pa_nil))))
      (pss_cons (ps_set (i := 5) scNm.nd rfl (Or.inr rfl) (pe_ix ix_str (pv 3) (pe_call GD hr rfl FD.g FD.F.kp FD.b .nil pass0 (pa_cons (pv 0) (pa_cons pe_int pa_nil))) (fun _ _ => rfl)))
      (pss_cons (ps_set (i := 6) scNm.nd rfl (Or.inl rfl) (pe_ix ix_list (pe_lst (pa_cons pe_int (pa_cons pe_int (pa_cons pe_int (pa_cons pe_int (pa_cons pe_int (pa_cons pe_int pa_nil))))))) (pe_call GD hr rfl FD.g FD.F.kp FD.b .nil pass0 (pa_cons (pv 0) (pa_cons pe_int pa_nil))) (fun _ _ => rfl)))
      (pss_ct (ps_for PassesOwn.never rfl (pi_range1 rfl T.range (pa_cons (pe_callB (call_min2 rfl) (by rfl) T.min bt_min (pa_cons (pv 6) (pa_cons pe_int pa_nil))) pa_nil)) (pg_name (i := 7) scNm.nd rfl (Or.inl rfl))
        (pss_one (ps_set (i := 5) scNm.nd rfl (Or.inr rfl) (pe_op op_add_str (pv 5) (pe_ix ix_str (pe_op op_add_str (pv 3) pe_str) (pe_call GD hr rfl FD.g FD.F.kp FD.b .nil pass0 (pa_cons (pv 0) (pa_cons pe_int pa_nil))) (fun _ _ => rfl))))))
      (pss_ct (ps_if (pt_cmpR op_eq (pv 6) pe_int (nomark _)) (pss_one (ps_set (i := 5) scNm.nd rfl (Or.inr rfl) (pe_ix ix_list (pe_op op_cat (pe_lst (pa_cons (pe_op op_add_str (pv 5) pe_str) pa_nil))
          (pe_lc (own := [("item", 9)]) (g := gName 9) (by rfl) scNm.nd (pi_list (pv 1)) (blkOk_by (own := [("item", 9)]) (N := nName) (sc := defScope sName) (by decide +kernel)) (fun _ _ _ _ _ => pg_name (i := 9) scNm.nd rfl (Or.inl rfl))
            (fun _ _ _ _ _ => pts_one (pt_cmpR op_eq (pe_callB call_len_str (by rfl) T.len bt_len (pa_cons (pv 9) pa_nil)) pe_int (nomark _))) (fun _ _ _ _ _ => pv 9))) (pe_un un_neg pe_int) (fun _ _ => rfl)))) pss_nil)
      (pss_cons (ps_if (PW.pt (pw_and (pt_cmpR op_gt (pe_callB call_len_seq (by rfl) T.len bt_len (pa_cons (pv 2) pa_nil)) pe_int (nomark _)) (pw_and1 (pt_cmpR op_eq (pe_call GD hr rfl FD.g FD.F.kp FD.b .nil pass0 (pa_cons (pv 0) (pa_cons pe_int pa_nil))) pe_int (nomark _)))))
        (pss_one (ps_set (i := 5) scNm.nd rfl (Or.inr rfl) (pe_ix ix_list (pv 2) (pe_call GD hr rfl FD.g FD.F.kp FD.b .nil pass0 (pa_cons (pv 0) (pa_cons (pe_callB call_len_seq (by rfl) T.len bt_len (pa_cons (pv 2) pa_nil)) pa_nil))) (fun _ _ => rfl)))) pss_nil)
      (pss_cons (ps_setLc (i := 8) (own := [("item", 9)]) (g := gName 9) (by rfl) scNm.nd rfl rfl (sw_true rfl rfl rfl (by decide +kernel)) (pi_list (pe_op op_cat (pe_lst (pa_cons (pv 5) pa_nil))
          (pe_lc (own := [("k", 7)]) (g := gName 7) (tt := tYes) (by rfl) scNm.nd (pi_range1 rfl T.range (pa_cons (pe_op op_add (pe_callB call_len_seq (by rfl) T.len bt_len (pa_cons (pv 4) pa_nil)) pe_int) pa_nil)) (blkOk_by (own := [("k", 7)]) (N := nName) (sc := defScope sName) (by decide +kernel)) (fun _ _ _ _ _ => pg_name (i := 7) scNm.nd rfl (Or.inl rfl))
            (fun _ _ _ _ _ => pts_nil) (fun _ _ _ _ _ => pe_op op_add_str (pe_slice sl_str (pv 5) po_none (po_some (pe_op op_sub pe_int (pe_callB call_len_str (by rfl) T.len bt_len (pa_cons (pe_callTy call_str_int (by rfl) T.str bt_str (pa_cons (pv 7) pa_nil)) pa_nil))))) (pe_callTy call_str_int (by rfl) T.str bt_str (pa_cons (pv 7) pa_nil))))))
          (blkOk_by (own := [("item", 9)]) (N := nName) (sc := defScope sName) (by decide +kernel)) (fun _ _ _ _ _ => pg_name (i := 9) scNm.nd rfl (Or.inl rfl))
          (fun _ _ _ _ _ => pts_one (pt_cmpR (r := rIn K true) op_notIn_seq (pv 9) (pv 4) (by with_unfolding_all rfl))) (fun _ _ _ _ _ => pv 9))
      (pss_one (ps_ret (pe_ix ix_list (pv 8) pe_int (fun _ _ => rfl)))))))))))), ?_⟩
    refine ⟨(by show 11 ≤ sizeLine; decide), fun k1 hk1 => ?_⟩
    refine ⟨_, rfl, (by show 5 ≤ sizeLine; decide), fun k2 hk2 => ?_⟩
    have n12 : k1 ≠ k2 := fun z => by rw [← z, upd_same] at hk2; cases hk2
    refine ⟨k1, k2, kept1.map V.str, kept2.map V.str, rfl, rfl, by rw [upd_ne n12]; exact upd_same, upd_same, (by show 16 ≤ sizeLine; decide), fun k3 hk3 => ?_⟩
    have s2 : Same H (upd (upd H k1 (.lst (kept1.map V.str))) k2 (.lst (kept2.map V.str))) := same_upd (upd_free hk2) (same_new hk1)
    have s3 := same_upd (o := .lst (kept1.map V.str ++ kept2.map V.str)) (s2.free hk3) s2
    refine ⟨_, rfl, tk, _, rfl, .inl (SqL.of (s3 _ _ htk)), fun k4 hk4 => ?_⟩
    have n34 : k3 ≠ k4 := fun z => by rw [← z, upd_same] at hk4; cases hk4
    have s4 := same_upd (o := .lst (ts.map V.str)) (s3.free hk4) s3
    refine ⟨k3, k4, _, _, rfl, rfl, by rw [upd_ne n34]; exact upd_same, upd_same, ?_, fun k5 hk5 => ?_⟩
    · rw [List.length_append, List.length_map, List.length_map, List.length_map]
      exact Nat.le_trans (show kept1.length + kept2.length + ts.length ≤ 100 by show 11 + 5 + ts.length ≤ 100; omega) (by decide)
    have s5 := same_upd (o := .lst (kept1.map V.str ++ kept2.map V.str ++ ts.map V.str)) (s4.free hk5) s4
    obtain ⟨Hk, eHk⟩ : ∃ Hk, Hk = upd (upd (upd (upd (upd H k1 (.lst (kept1.map V.str))) k2 (.lst (kept2.map V.str))) k3 (.lst (kept1.map V.str ++ kept2.map V.str))) k4 (.lst (ts.map V.str))) k5 (.lst (kept1.map V.str ++ kept2.map V.str ++ ts.map V.str)) := ⟨_, rfl⟩
    have ek5 : Hk k5 = some (.lst ((kept ++ ts).map V.str)) := by rw [eHk, upd_same, kept12, List.map_append, List.map_append]
    have n5 : k5 ≠ bx ∧ k5 ≠ gr := hB.new (s4.free hk5)
    rw [← eHk] at s5
    have St0 : SB bx gr H Hk ∧ Bx bx gr Hk ∧ Hk k5 = some (.lst ((kept ++ ts).map V.str)) := ⟨SB.of s5, hB.on s5, ek5⟩
    show tSeq _ _ _ [some (.ref bx), some (.ref tk), some (.ref ot), some (.str letters), some (.ref k5), none, none, none, none, none] (upd (upd (upd (upd (upd H k1 (.lst (kept1.map V.str))) k2 (.lst (kept2.map V.str))) k3 (.lst (kept1.map V.str ++ kept2.map V.str))) k4 (.lst (ts.map V.str))) k5 (.lst (kept1.map V.str ++ kept2.map V.str ++ ts.map V.str)))
    rw [← eHk]
    have keep : ∀ {H1 H2 : Hp}, (SB bx gr H H1 ∧ Bx bx gr H1 ∧ H1 k5 = some (.lst ((kept ++ ts).map V.str))) → SB bx gr H1 H2 → Bx bx gr H2 → (SB bx gr H H2 ∧ Bx bx gr H2 ∧ H2 k5 = some (.lst ((kept ++ ts).map V.str))) := fun a b c => ⟨a.1.trans b, c, b _ _ n5.1 n5.2 a.2.2⟩
    -- name = letters[_law_draw(box, 26)]
    refine ⟨_, rfl, _, rfl, bx, gr, 26, rfl, St0.2.1, by decide, by decide, fun H1 d1 sb1 hB1 hd1 => ?_⟩
    obtain ⟨c1, hc1, lc1⟩ := lett_at hd1
    have St1 := keep St0 sb1 hB1
    refine ⟨letters, d1, c1, rfl, rfl, (by decide), atI_nat hc1, ?_⟩
    -- size = [0, 0, 1, 2, 4, 5][_law_draw(box, 6)]
    refine ⟨(by show 6 ≤ sizeLine; decide), fun k6 hk6 => ?_⟩
    have s6 := same_new (o := .lst [.int 0, .int 0, .int 1, .int 2, .int 4, .int 5]) hk6
    have n6 := hB1.new hk6
    refine ⟨_, rfl, bx, gr, 6, rfl, hB1.on s6, by decide, by decide, fun H2 d2 sb2 hB2 hd2 => ?_⟩
    obtain ⟨sz, hsz, hat⟩ := size_at hd2
    have St2 := keep St1 ((SB.of s6).trans sb2) hB2
    refine ⟨k6, _, d2, _, rfl, rfl, SqL.of (sb2 _ _ n6.1 n6.2 upd_same), atI_nat hat, ?_⟩
    have nm1 : nmS (sg c1) := ⟨c1, [], rfl, lc1, rfl, Nat.zero_le _⟩
    -- for k in range(min(size, 4))
    refine ⟨fun σ' H' => ∃ (u : Option V) (z : Str), σ' = [some (.ref bx), some (.ref tk), some (.ref ot), some (.str letters), some (.ref k5), some (.str z), some (.int sz), u, none, none] ∧ nmS z ∧ z.length ≤ 5 ∧ SB bx gr H H' ∧ Bx bx gr H' ∧ H' k5 = some (.lst ((kept ++ ts).map V.str)), ?_, ?_⟩
    · have hmin : (if (4 : Int) < (sz : Int) then (4 : Int) else (sz : Int)) ≤ 4 ∧ 0 ≤ (if (4 : Int) < (sz : Int) then (4 : Int) else (sz : Int)) := by split <;> omega
      refine ⟨_, rfl, (sz : Int), 4, rfl, _, rfl, by omega, by omega, for_range (fun i σ' H' => ∃ (u : Option V) (z : Str), σ' = [some (.ref bx), some (.ref tk), some (.ref ot), some (.str letters), some (.ref k5), some (.str z), some (.int sz), u, none, none] ∧ nmS z ∧ z.length ≤ 1 + i ∧ SB bx gr H H' ∧ Bx bx gr H' ∧ H' k5 = some (.lst ((kept ++ ts).map V.str)))
        ⟨none, sg c1, rfl, nm1, Nat.le_refl _, St2⟩ ?_ ?_⟩
      · rintro i σ' H' hi ⟨u, z, rfl, nz, lz, St⟩
        refine ⟨_, rfl, _, rfl, letters, _, rfl, rfl, (by decide +kernel), _, rfl, bx, gr, 37, rfl, St.2.1, by decide, by decide, fun H3 d3 sb3 hB3 hd3 => ?_⟩
        obtain ⟨c3, hc3, ic3⟩ := sign_at hd3
        refine ⟨_, d3, c3, rfl, rfl, (by decide +kernel), atI_nat hc3, z, sg c3, rfl, rfl, sl16 (by show z.length + 1 ≤ 16; omega), ?_⟩
        refine ⟨_, z ++ sg c3, rfl, nmS_app nz (Nat.le_refl _) (by show [c3].all inB = true; simp [ic3]) (by show z.length + 1 ≤ 16; omega), ?_, keep St sb3 hB3⟩
        rw [len_app]; show z.length + 1 ≤ _; omega
      · rintro σ' H' ⟨u, z, rfl, nz, lz, St⟩
        exact ⟨u, z, rfl, nz, by omega, St⟩
    rintro σ' H3 ⟨u3, z3, rfl, nz3, lz3, St3⟩
    -- if size == 5
    refine ⟨fun σ' H' => ∃ (z : Str), σ' = [some (.ref bx), some (.ref tk), some (.ref ot), some (.str letters), some (.ref k5), some (.str z), some (.int sz), u3, none, none] ∧ nmS z ∧ SB bx gr H H' ∧ Bx bx gr H' ∧ H' k5 = some (.lst ((kept ++ ts).map V.str)), ?_, ?_⟩
    · refine ⟨_, rfl, rfl, _, rfl, ite2 (fun _ => ?_) fun _ => ⟨z3, rfl, nz3, St3⟩⟩
      refine ⟨_, rfl, z3, "_ofthelong1", rfl, rfl, sl16 (by show z3.length + 11 ≤ 16; omega), (by show 1 ≤ sizeLine; decide), fun m1 hm1 => ?_⟩
      have htk3 : H3 tk = some (.lst (ts.map V.str)) := St3.1 _ _ n1 n2 htk
      have sm1 := same_new (o := .lst [.str (z3 ++ ("_ofthelong1" : Str))]) hm1
      refine ⟨_, rfl, tk, rfl, ⟨_, SqL.of (sm1 _ _ htk3)⟩, fun D hD => ?_⟩
      refine lcL (xs := ts.map V.str) (fun i acc _ => acc = ((ts.take i).filter fun y => decide (y.length = 16)).map V.str) hD (SqL.of (sm1 _ _ htk3)) rfl ?_ ?_
      · intro i x H4 acc hx hlt sm4 hacc hle r
        obtain ⟨y, hy, rfl⟩ := map_at hx
        rw [List.length_map] at hlt
        have ly := nmS_len (isNm_nmS (hts y (List.mem_of_getElem? hy))).1
        refine ⟨rfl, _, rfl, y, rfl, sl16 ly.2, rfl, _, rfl, ?_⟩
        have e1 : decide (V.int (y.length : Int) = V.int 16) = decide (y.length = 16) := by
          by_cases z : y.length = 16
          · rw [decide_eq_true z, z]; exact decide_eq_true rfl
          · rw [decide_eq_false z]; exact decide_eq_false fun q => z (by have := V.int.inj q; omega)
        rw [e1]
        have et := filt1 (fun y : Str => decide (y.length = 16)) hy
        refine ite2 (fun hb => ⟨_, rfl, CI.put hD sm4 hacc hle (Nat.lt_of_lt_of_le (show i < 100 by omega) (by decide)) ?_⟩) fun hb => CI.skip sm4 hacc hle ?_
        · rw [et, if_pos hb, List.map_append, r]; rfl
        · rw [et, if_neg hb, List.append_nil, r]
      · intro H4 acc sm4 hacc hle r
        rw [List.length_map, List.take_length] at r
        rw [List.length_map] at hle
        have nm1D : m1 ≠ D := fun z => by rw [← z, upd_same] at hD; cases hD
        refine ⟨m1, D, _, _, rfl, rfl, sm4 _ _ upd_same, hacc, Nat.le_trans (show 1 + acc.length ≤ 100 by omega) (by decide), fun m2 hm2 => ?_⟩
        have nmL : nmS (z3 ++ ("_ofthelong1" : Str)) := nmS_app nz3 lz3 (by decide +kernel) (by decide +kernel)
        obtain ⟨Ls, eLs⟩ : ∃ Ls, Ls = (z3 ++ ("_ofthelong1" : Str)) :: (ts.filter fun y => decide (y.length = 16)) := ⟨_, rfl⟩
        have eL : ([.str (z3 ++ ("_ofthelong1" : Str))] ++ acc : List V) = Ls.map V.str := by rw [eLs, r]; rfl
        have hLs : ∀ y ∈ Ls, nmS y := fun y hy => by
          rw [eLs] at hy
          rcases List.mem_cons.mp hy with e | hy
          · rw [e]; exact nmL
          · exact (isNm_nmS (hts y (List.mem_filter.mp hy).1)).1
        have hpos : 0 < Ls.length := by rw [eLs]; exact Nat.succ_pos _
        obtain ⟨yl, hyl⟩ : ∃ y, Ls[Ls.length - 1]? = some y := ⟨_, List.getElem?_eq_getElem (by omega)⟩
        refine ⟨1, rfl, m2, _, _, .str yl, rfl, rfl, SqL.of upd_same, ?_, yl, rfl, hLs yl (List.mem_of_getElem? hyl), ?_⟩
        · rw [eL]
          exact atI_neg (k := 1) (Nat.le_refl _) (by rw [List.length_map]; omega) (by rw [List.length_map, List.getElem?_map, hyl]; rfl)
        · have smA := same_upd (o := .lst ([.str (z3 ++ ("_ofthelong1" : Str))] ++ acc)) ((sm1.trans sm4).free hm2) (sm1.trans sm4)
          exact keep St3 (SB.of smA) (St3.2.1.on smA)
    rintro σ' H4 ⟨z4, rfl, nz4, St4⟩
    -- if len(others) > 0 and ..
    have hot4 : H4 ot = some (.lst []) := St4.1 _ _ n3 n4 hot
    refine ⟨_, rfl, ot, _, rfl, .inl (SqL.of hot4), _, _, rfl, rfl, _, rfl, ite2 (fun h => absurd h (by decide)) fun _ => iteF ?_⟩
    -- free
    refine ⟨_, rfl, (by show 1 ≤ sizeLine; decide), fun m1 hm1 => ?_⟩
    have sm1 := same_new (o := .lst [.str z4]) hm1
    refine ⟨_, rfl, k5, _, rfl, .inl (SqL.of (sm1 _ _ St4.2.2)), _, _, rfl, rfl, _, rfl, ?_, ?_, fun D hD => ?_⟩
    · show -(2 ^ 62) ≤ ((((kept ++ ts).map V.str).length : Int) + 1); omega
    · rw [List.length_map, List.length_append]
      show (((16 + ts.length : Nat) : Int) + 1) < 2 ^ 62; omega
    have hn : ((((kept ++ ts).map V.str).length : Int) + 1).toNat = 17 + ts.length := by
      rw [List.length_map, List.length_append]
      show (((16 + ts.length : Nat) : Int) + 1).toNat = _; omega
    rw [hn]
    refine lcR (fun i acc _ => acc = ((List.range i).map (cand z4)).map V.str) hD rfl ?_ ?_
    · intro i H5 acc hi sm5 hacc hle r
      rw [Int.zero_add]
      obtain ⟨l1, l2⟩ := numS_len (k := i) (by omega)
      have lz4 := nmS_len nz4
      have hlog : (i : Int).natAbs.log2 < 1920 := by
        show i.log2 < 1920
        exact Nat.lt_of_le_of_lt (Nat.log2_le_self i) (by omega)
      have hcl := nmS_len (cand_nmS (k := i) nz4 (by omega))
      have esub : (16 : Int) - ((numS i).length : Int) = ((16 - (numS i).length : Nat) : Int) := by omega
      refine ⟨rfl, _, rfl, _, rfl, (i : Int), rfl, hlog, numS i, rfl, sl16 (by omega), _, _, rfl, rfl, _, rfl, z4, rfl, sl16 lz4.2, _, rfl, (i : Int), rfl, hlog, _, _, rfl, rfl, ?_, CI.put hD sm5 hacc hle (Nat.lt_of_lt_of_le (show i < 100 by omega) (by decide)) ?_⟩
      · rw [esub]
        have := len_app (cutS z4 none (some ((16 - (numS i).length : Nat) : Int))) (numS i)
        have e2 : (cutS z4 none (some ((16 - (numS i).length : Nat) : Int))).length + (numS i).length ≤ 16 := by rw [← this]; exact hcl.2
        exact sl16 e2
      · rw [esub, List.range_succ, List.map_append, List.map_append, r]; rfl
    · intro H5 acc sm5 hacc hle r
      refine ⟨m1, D, _, _, rfl, rfl, sm5 _ _ upd_same, hacc, Nat.le_trans (show 1 + acc.length ≤ 100 by omega) (by decide), fun m2 hm2 => ?_⟩
      obtain ⟨cs, ecs⟩ : ∃ cs, cs = z4 :: (List.range (17 + ts.length)).map (cand z4) := ⟨_, rfl⟩
      have eC : ([.str z4] ++ acc : List V) = cs.map V.str := by rw [ecs, r]; rfl
      rw [eC]
      have smA := same_upd (o := .lst (cs.map V.str)) ((sm1.trans sm5).free hm2) (sm1.trans sm5)
      have ek5' := smA _ _ St4.2.2
      have lcs : cs.length ≤ 100 := by rw [ecs, List.length_cons, List.length_map, List.length_range]; omega
      refine ⟨m2, rfl, ⟨_, SqL.of upd_same⟩, fun D2 hD2 => ?_⟩
      refine lcL (xs := cs.map V.str) (fun i acc _ => acc = ((cs.take i).filter fun y => decide (y ∉ kept ++ ts)).map V.str) hD2 (SqL.of upd_same) rfl ?_ ?_
      · intro i x H6 acc hx hlt sm6 hacc hle r
        obtain ⟨y, hy, rfl⟩ := map_at hx
        rw [List.length_map] at hlt
        refine ⟨rfl, _, rfl, _, rfl, k5, _, rfl, .inl (SqL.of (sm6 _ _ ek5')), rfl, flat_strs _, _, rfl, ?_⟩
        show if (!inV (.str y) ((kept ++ ts).map V.str)) = true then _ else _
        rw [inV_not]
        have et := filt1 (fun y : Str => decide (y ∉ kept ++ ts)) hy
        refine ite2 (fun hb => ⟨_, rfl, CI.put hD2 sm6 hacc hle (Nat.lt_of_lt_of_le (show i < 101 by omega) (by decide)) ?_⟩) fun hb => CI.skip sm6 hacc hle ?_
        · rw [et, if_pos hb, List.map_append, r]; rfl
        · rw [et, if_neg hb, List.append_nil, r]
      · intro H6 acc sm6 hacc hle r
        rw [List.length_map, List.take_length] at r
        obtain ⟨k, hk6, hfree⟩ := some_free (z := z4) hlen
        have hmem : cand z4 k ∈ cs.filter fun y => decide (y ∉ kept ++ ts) := List.mem_filter.mpr ⟨by rw [ecs]; exact List.mem_cons_of_mem _ (List.mem_map.mpr ⟨k, List.mem_range.mpr (by omega), rfl⟩), decide_eq_true hfree⟩
        obtain ⟨y, ys, ey⟩ : ∃ y ys, (cs.filter fun y => decide (y ∉ kept ++ ts)) = y :: ys := by
          cases e : cs.filter fun y => decide (y ∉ kept ++ ts) with
          | nil => rw [e] at hmem; cases hmem
          | cons y ys => exact ⟨y, ys, rfl⟩
        have hy := List.mem_filter.mp (show y ∈ cs.filter fun y => decide (y ∉ kept ++ ts) by rw [ey]; exact List.mem_cons_self)
        have hyk : y ∉ kept ++ ts := of_decide_eq_true hy.2
        have hyn : nmS y := by
          have := hy.1
          rw [ecs] at this
          rcases List.mem_cons.mp this with e | hm
          · rw [e]; exact nz4
          · obtain ⟨j, hj, e⟩ := List.mem_map.mp hm
            rw [← e]
            exact cand_nmS nz4 (by have := List.mem_range.mp hj; omega)
        rw [ey] at r
        rw [r] at hacc
        have smB := smA.trans sm6
        refine ⟨_, rfl, D2, _, 0, .str y, rfl, rfl, SqL.of hacc, atI_nat (j := 0) rfl, ?_⟩
        exact q _ y (St4.1.trans (SB.of smB)) (St4.2.1.on smB) (nmS_isNm hyn fun hm => hyk (List.mem_append_left _ hm)) fun hm => hyk (List.mem_append_right _ hm)
end
end K8

set_option Elab.async false
set_option linter.all false
set_option maxRecDepth 100000
set_option maxHeartbeats 4000000
namespace K8
open PySem PyProof.Rows L2 GenW GN
def spNames : Sp := fun vs H Q _ => ∃ (bx gr ot : Addr) (m : Nat), vs = [.ref bx, .int m, .ref ot] ∧ Bx bx gr H ∧ H ot = some (.lst []) ∧ ot ≠ bx ∧ ot ≠ gr ∧ m ≤ 6 ∧
  ∀ H' p (ns : List Str), SB bx gr H H' → Bx bx gr H' → H p = none → H' p = some (.lst (ns.map V.str)) → ns.length = m → ns.all isNm = true → ns.Nodup → Q (.ref p) H'
/-! ### rows -/
def nextLv (size : Nat) (rows : List (List Int)) : List (List Int) := rows.flatMap fun r => List.map (fun a : Nat => r ++ [(a : Int)]) (List.range size)
def levelN (size : Nat) : Nat → List (List Int)
  | 0 => [[]]
  | n + 1 => nextLv size (levelN size n)
def rowsAll (size : Nat) : Nat → List (List Int)
  | 0 => [[]]
  | n + 1 => rowsAll size n ++ levelN size (n + 1)
/-- a list of tuples of ints -/
def TupL (H : Hp) (vs : List V) (rows : List (List Int)) : Prop := Paired (fun v r => ∃ t, v = V.ref t ∧ H t = some (.tup (r.map V.int))) vs rows
theorem TupL.on {H H' : Hp} {vs : List V} {rows : List (List Int)} (h : TupL H vs rows) (k : ∀ t xs, H t = some (.tup xs) → H' t = some (.tup xs)) : TupL H' vs rows := by
  unfold TupL at h ⊢
  induction h with
  | nil => exact .nil
  | cons h _ ih =>
    obtain ⟨t, e, h⟩ := h
    exact .cons ⟨t, e, k _ _ h⟩ ih
theorem TupL.append {H : Hp} {vs ws : List V} {rows rows2 : List (List Int)} (h : TupL H vs rows) (h2 : TupL H ws rows2) : TupL H (vs ++ ws) (rows ++ rows2) := by
  unfold TupL at h h2 ⊢
  induction h with
  | nil => exact h2
  | cons h _ ih => exact .cons h ih
theorem TupL.length {H : Hp} {vs : List V} {rows : List (List Int)} (h : TupL H vs rows) : vs.length = rows.length := Paired.length h
theorem TupL.get {H : Hp} {vs : List V} {rows : List (List Int)} (h : TupL H vs rows) {i : Nat} {v : V} (e : vs[i]? = some v) : ∃ t r, v = .ref t ∧ rows[i]? = some r ∧ H t = some (.tup (r.map V.int)) := by
  unfold TupL at h
  induction h generalizing i with
  | nil => cases e
  | @cons x r xs rs h _ ih =>
    obtain ⟨t, e1, h⟩ := h
    cases i with
    | zero =>
      have e' : x = v := Option.some.inj e
      subst e'
      exact ⟨t, r, e1, rfl, h⟩
    | succ i => exact ih (by simpa using e)
theorem TupL.take {H : Hp} {vs : List V} {rows : List (List Int)} (h : TupL H vs rows) : ∀ i, TupL H (vs.take i) (rows.take i) := by
  unfold TupL at h ⊢
  induction h with
  | nil => intro i; rw [List.take_nil, List.take_nil]; exact .nil
  | cons h _ ih =>
    intro i
    cases i with
    | zero => exact .nil
    | succ i => exact .cons h (ih i)
theorem tup_same {H H' : Hp} (s : Same H H') : ∀ t xs, H t = some (.tup xs) → H' t = some (.tup xs) := fun t xs e => s _ _ e
theorem tup_SB {bx gr : Addr} {H H' : Hp} (hB : Bx bx gr H) (s : SB bx gr H H') : ∀ t xs, H t = some (.tup xs) → H' t = some (.tup xs) := fun t xs e => s _ _ (hB.tup e).1 (hB.tup e).2 e
theorem rows_mono (size : Nat) {i d : Nat} (h : i ≤ d) : (rowsAll size i).length ≤ (rowsAll size d).length := by
  induction h with
  | refl => exact Nat.le_refl _
  | step _ ih =>
    refine Nat.le_trans ih ?_
    show _ ≤ (rowsAll size _ ++ _).length
    rw [List.length_append]; omega
theorem lv_le (size : Nat) : ∀ i, (levelN size i).length ≤ (rowsAll size i).length
  | 0 => Nat.le_refl _
  | n + 1 => by show _ ≤ (rowsAll size n ++ levelN size (n + 1)).length; rw [List.length_append]; omega
theorem next_take (size : Nat) (rows : List (List Int)) (j : Nat) : (nextLv size (rows.take j)).length ≤ (nextLv size rows).length := by
  have e : rows = rows.take j ++ rows.drop j := (List.take_append_drop j rows).symm
  have : nextLv size rows = nextLv size (rows.take j) ++ nextLv size (rows.drop j) := by
    unfold nextLv
    rw [← List.flatMap_append, List.take_append_drop]
  rw [this, List.length_append]; omega
theorem lv_len (size : Nat) : ∀ i, ∀ r ∈ levelN size i, r.length = i
  | 0, r, h => by
    have : r = [] := by simpa [levelN] using h
    rw [this]; rfl
  | n + 1, r, h => by
    obtain ⟨y, hy, hr⟩ := List.mem_flatMap.mp h
    obtain ⟨a, _, e⟩ := List.mem_map.mp hr
    rw [← e, List.length_append, lv_len size n y hy]; rfl
def spRows : Sp := fun vs H Q _ => ∃ size deep : Nat, vs = [.int size, .int deep] ∧ size ≤ 1000 ∧ deep ≤ 1000 ∧ (rowsAll size deep).length ≤ 5000 ∧ ∀ H' p ws, Same H H' → H p = none → H' p = some (.lst ws) → TupL H' ws (rowsAll size deep) → Q (.ref p) H'
section
variable {P : Program} {w : World} {K : PySem.W.Frag} {mg : Str → Option Value} {base : Heap}
theorem scNs : FnScope ["box", "many", "others", "found", "k"] ["box", "many", "others"] (defScope sNames) := ⟨rfl, rfl, rfl, by decide +kernel, rfl, by decide +kernel, by decide +kernel⟩
theorem ok_names {f fN fD : Addr} {fd fdN fdD : FuncData} (F : Fun K "_law_names" "_law_names" sNames f fd) (T : Txt mg) (FN : Fn K mg "_law_name" sName ["box", "taken", "others"] fN fdN) (FD : Fn K mg "_law_draw" sDraw ["box", "many"] fD fdD) : FnOk P w K mg base CX0 3 f fd ["box", "many", "others"] spNames := by
  have GN' : FnOk P w K mg base CX0 2 fN fdN ["box", "taken", "others"] spName := ok_name FN.F T FD
  refine F.ok scNs (fun vs H Q E h => ?_) (fun cdv A outer s H vs Q E hr h => ?_)
  · obtain ⟨_, _, _, _, rfl, _⟩ := h
    rfl
  · obtain ⟨bx, gr, ot, m, rfl, hB, hot, n1, n2, hm, q⟩ := h
    refine ⟨_, pss_cons (ps_set (i := 3) scNs.nd rfl (Or.inl rfl) (pe_lst pa_nil))
      (pss_cons (ps_for PassesOwn.never rfl (pi_range1 rfl T.range (pa_cons (pv 1) pa_nil)) (pg_name (i := 4) scNs.nd rfl (Or.inl rfl))
        (pss_one (ps_expr (pe_bm PySem.F.plainAttrs_list PySem.F.slot_list_append PySem.F.type_list_append mt_append (pv 3) (pa_cons (pe_call GN' hr rfl FN.g FN.F.kp FN.b .nil pass0 (pa_cons (pv 0) (pa_cons (pv 3) (pa_cons (pv 2) pa_nil)))) pa_nil)))))
      (pss_one (ps_ret (pv 3)))), ?_⟩
    refine ⟨Nat.zero_le _, fun fo hfo => ?_⟩
    have nfo := hB.new hfo
    refine ⟨_, rfl, (m : Int), rfl, by omega, by omega, for_range (n := m) (fun i σ' H' => ∃ (u : Option V) (ns : List Str), σ' = [some (.ref bx), some (.int m), some (.ref ot), some (.ref fo), u] ∧ SB bx gr H H' ∧ Bx bx gr H' ∧ H' fo = some (.lst (ns.map V.str)) ∧ ns.length = i ∧ ns.all isNm = true ∧ ns.Nodup)
      ⟨none, [], rfl, SB.of (same_new hfo), hB.on (same_new hfo), upd_same, rfl, rfl, List.nodup_nil⟩ ?_ ?_⟩
    · rintro i σ' H1 hi ⟨u, ns, rfl, sb, hB1, e1, hl, ha, hnd⟩
      refine ⟨_, rfl, .inl ⟨rfl, _, SqL.of e1⟩, _, rfl, _, rfl, _, rfl, bx, gr, fo, ot, ns, rfl, hB1, e1, sb _ _ n1 n2 hot, nfo.1, nfo.2, n1, n2, List.all_eq_true.mp ha, by omega, fun H2 z sb2 hB2 hz hnz => ?_⟩
      have e2 : H2 fo = some (.lst (ns.map V.str)) := sb2 _ _ nfo.1 nfo.2 e1
      refine ⟨fo, _, _, rfl, rfl, e2, by rw [List.length_map]; exact Nat.lt_of_le_of_lt (show ns.length ≤ 100 by omega) (by decide), _, ns ++ [z], rfl, ?_, ?_, ?_, ?_, ?_, ?_⟩
      · exact fun b o m1 m2 e => by rw [upd_ne (ne_of_none e hfo)]; exact sb2 b o m1 m2 (sb b o m1 m2 e)
      · obtain ⟨ne, gs, sd, cu, h1, h2, h3⟩ := hB2
        exact ⟨ne, gs, sd, cu, by rw [upd_ne nfo.1.symm]; exact h1, by rw [upd_ne nfo.2.symm]; exact h2, h3⟩
      · rw [upd_same, List.map_append]; rfl
      · rw [List.length_append, List.length_singleton, hl]
      · rw [List.all_append, ha]; simp [hz]
      · exact (good_snoc (xs := ns.map V.str) ⟨rfl, ha, hnd⟩ hz hnz).2.2
    · rintro σ' H1 ⟨u, ns, rfl, sb, hB1, e1, hl, ha, hnd⟩
      exact ⟨_, rfl, q _ fo ns sb hB1 hfo e1 hl ha hnd⟩
theorem scRw : FnScope ["size", "deep", "found", "level", "turn", "later", "row", "a"] ["size", "deep"] (defScope sRows) := ⟨rfl, rfl, rfl, by decide +kernel, rfl, by decide +kernel, by decide +kernel⟩
abbrev nRows : List Str := ["size", "deep", "found", "level", "turn", "later", "row", "a"]
theorem ok_rows {f : Addr} {fd : FuncData} (F : Fun K "_law_rows" "_law_rows" sRows f fd) (T : Txt mg) : FnOk P w K mg base CX0 1 f fd ["size", "deep"] spRows := by
  refine F.ok scRw (fun vs H Q E h => ?_) (fun cdv A outer s H vs Q E hr h => ?_)
  · obtain ⟨_, _, rfl, _⟩ := h
    rfl
  · obtain ⟨size, deep, rfl, hs, hd, hz, q⟩ := h
    refine ⟨_, pss_cons (ps_set (i := 2) scRw.nd rfl (Or.inl rfl) (pe_lst (pa_cons (pe_tup pa_nil) pa_nil)))
      (pss_cons (ps_set (i := 3) scRw.nd rfl (Or.inl rfl) (pe_lst (pa_cons (pe_tup pa_nil) pa_nil)))
      (pss_cons (ps_for PassesOwn.never rfl (pi_range1 rfl T.range (pa_cons (pv 1) pa_nil)) (pg_name (i := 4) scRw.nd rfl (Or.inl rfl))
        (pss_cons (ps_set (i := 5) scRw.nd rfl (Or.inl rfl) (pe_lst pa_nil))
        (pss_cons (ps_for PassesOwn.never rfl (pi_list (pv 3)) (pg_name (i := 6) scRw.nd rfl (Or.inr rfl))
          (pss_one (ps_set (i := 5) scRw.nd rfl (Or.inl rfl) (pe_op op_cat (pv 5) (pe_lc (own := [("a", 7)]) (g := gName 7) (tt := tYes) (by rfl) scRw.nd (pi_range1 rfl T.range (pa_cons (pv 0) pa_nil)) (blkOk_by (own := [("a", 7)]) (N := nRows) (sc := defScope sRows) (by decide +kernel))
            (fun _ _ _ _ _ => pg_name (i := 7) scRw.nd rfl (Or.inl rfl)) (fun _ _ _ _ _ => pts_nil) (fun _ _ _ _ _ => pe_op (r := rCatA K) op_catA (pv 6) (pe_tup (pa_cons (pv 7) pa_nil))))))))
        (pss_cons (ps_set (i := 3) scRw.nd rfl (Or.inl rfl) (pe_callTy call_list_of (by rfl) T.list bt_list (pa_cons (pv 5) pa_nil)))
        (pss_one (ps_set (i := 2) scRw.nd rfl (Or.inl rfl) (pe_op op_cat (pv 2) (pv 3))))))))
      (pss_one (ps_ret (pv 2))))), ?_⟩
    refine ⟨Nat.zero_le _, fun t1 ht1 => ⟨(by show 1 ≤ sizeLine; decide), fun f0 hf0 => ⟨Nat.zero_le _, fun t2 ht2 => ⟨(by show 1 ≤ sizeLine; decide), fun l0 hl0 => ?_⟩⟩⟩⟩
    have a1 := same_new (o := .tup []) ht1
    have a2 := same_upd (o := .lst [.ref t1]) (a1.free hf0) a1
    have a3 := same_upd (o := .tup []) (a2.free ht2) a2
    have a4 := same_upd (o := .lst [.ref t2]) (a3.free hl0) a3
    have n1 : t1 ≠ f0 := ne_of_none (by rw [upd_same]) hf0
    have n2 : f0 ≠ t2 := ne_of_none (by rw [upd_same]) ht2
    have n3 : t2 ≠ l0 := ne_of_none (by rw [upd_same]) hl0
    have n4 : f0 ≠ l0 := ne_of_none (by rw [upd_ne n2, upd_same]) hl0
    have n5 : t1 ≠ t2 := ne_of_none (by rw [upd_ne n1, upd_same]) ht2
    have n6 : t1 ≠ l0 := ne_of_none (by rw [upd_ne n5, upd_ne n1, upd_same]) hl0
    refine ⟨_, rfl, (deep : Int), rfl, by omega, by omega, for_range (n := deep) (fun i σ' H' => ∃ (u4 u5 u6 : Option V) (fo lo : Addr) (fv lv : List V), σ' = [some (.int size), some (.int deep), some (.ref fo), some (.ref lo), u4, u5, u6, none] ∧ Same H H' ∧ H fo = none ∧ H' fo = some (.lst fv) ∧ H' lo = some (.lst lv) ∧ TupL H' fv (rowsAll size i) ∧ TupL H' lv (levelN size i))
      ⟨none, none, none, f0, l0, _, _, rfl, a4, a1.free hf0, by rw [upd_ne n4, upd_ne n2]; exact upd_same, upd_same, .cons ⟨t1, rfl, by rw [upd_ne n6, upd_ne n5, upd_ne n1]; exact upd_same⟩ .nil, .cons ⟨t2, rfl, by rw [upd_ne n3]; exact upd_same⟩ .nil⟩ ?_ ?_⟩
    · rintro i σ' H1 hi ⟨u4, u5, u6, fo, lo, fv, lv, rfl, sm, nfo, ef, el, hF, hL⟩
      have b1 := Nat.le_trans (rows_mono size (show i + 1 ≤ deep from hi)) hz
      have b2 := Nat.le_trans (lv_le size (i + 1)) b1
      have b3 : fv.length + (levelN size (i + 1)).length ≤ 5000 := by
        have e : (rowsAll size i ++ levelN size (i + 1)).length ≤ 5000 := b1
        rw [List.length_append] at e
        rw [hF.length]; exact e
      refine ⟨Nat.zero_le _, fun w0 hw0 => ?_⟩
      have c1 := same_upd (o := .lst []) (sm.free hw0) sm
      have c1' := same_new (o := .lst []) hw0
      have nfw : fo ≠ w0 := ne_of_none ef hw0
      refine ⟨_, rfl, lo, rfl, ⟨_, SqL.of (c1' _ _ el)⟩, for_list (K := K) (a := lo) (xs := lv) (fun j σ' H' => ∃ (u6 : Option V) (wo : Addr) (wv : List V), σ' = [some (.int size), some (.int deep), some (.ref fo), some (.ref lo), some (.int (0 + i)), some (.ref wo), u6, none] ∧ Same H1 H' ∧ H' wo = some (.lst wv) ∧ TupL H' wv (nextLv size ((levelN size i).take j)))
        ⟨u6, w0, [], rfl, c1', upd_same, .nil⟩ (fun j σ' H' _ ⟨_, _, _, _, e, _, _⟩ => SqL.of (e _ _ el)) ?_ ?_⟩
      · rintro j x σ' H2 hx ⟨u6, wo, wv, rfl, sm2, ew, hW⟩
        obtain ⟨tr, r, rfl, hr1, htr⟩ := hL.get hx
        have htr2 := sm2 _ _ htr
        have hrl : r.length ≤ 2000 := by
          have := lv_len size i r (List.mem_of_getElem? hr1)
          omega
        refine ⟨_, rfl, _, rfl, (size : Int), rfl, by omega, by omega, fun D hD => ?_⟩
        refine lcR (n := size) (fun k acc H' => TupL H' acc ((List.range k).map fun a : Nat => r ++ [(a : Int)])) hD .nil ?_ ?_
        · intro k H3 acc hk sm3 hacc hle hT
          refine ⟨rfl, _, rfl, _, rfl, (by show 1 ≤ sizeLine; decide), fun t4 ht4 => ?_⟩
          have d1 := same_new (o := .tup [.int (0 + (k : Int))]) ht4
          refine ⟨tr, t4, _, _, rfl, rfl, SqT.of (d1 _ _ (sm3 _ _ htr2)), SqT.of upd_same, ?_, fun e => ?_, fun _ e => (by cases e), fun _ _ t5 ht5 => ?_⟩
          · rw [List.length_map]; exact Nat.le_trans (show r.length + 1 ≤ 2001 by omega) (by decide)
          · have hr0 : r = [] := List.map_eq_nil_iff.mp e
            refine CI.put hD (sm3.trans d1) (d1 _ _ hacc) hle (Nat.lt_of_lt_of_le (show k < 1001 by omega) (by decide)) ?_
            have nDt : t4 ≠ D := (ne_of_none hacc ht4).symm
            have hput : ∀ t xs, H3 t = some (.tup xs) → (upd (upd H3 t4 (.tup [.int (0 + (k : Int))])) D (.lst (acc ++ [.ref t4]))) t = some (.tup xs) := fun t xs e => by
              rw [upd_ne (ne_of e hacc (by intro z; cases z))]; exact d1 _ _ e
            rw [List.range_succ, List.map_append]
            refine (hT.on hput).append (.cons ⟨t4, rfl, ?_⟩ .nil)
            rw [upd_ne nDt, upd_same, hr0, Int.zero_add]; rfl
          · have d2 := same_upd (o := .tup (r.map V.int ++ [.int (0 + (k : Int))])) (d1.free ht5) d1
            refine CI.put hD (sm3.trans d2) (d2 _ _ hacc) hle (Nat.lt_of_lt_of_le (show k < 1001 by omega) (by decide)) ?_
            have nDt : t5 ≠ D := (ne_of_none (d1 _ _ hacc) ht5).symm
            have hput : ∀ t xs, H3 t = some (.tup xs) → (upd (upd (upd H3 t4 (.tup [.int (0 + (k : Int))])) t5 (.tup (r.map V.int ++ [.int (0 + (k : Int))]))) D (.lst (acc ++ [.ref t5]))) t = some (.tup xs) := fun t xs e => by
              rw [upd_ne (ne_of e hacc (by intro z; cases z))]; exact d2 _ _ e
            rw [List.range_succ, List.map_append]
            refine (hT.on hput).append (.cons ⟨t5, rfl, ?_⟩ .nil)
            rw [upd_ne nDt, upd_same, Int.zero_add, List.map_append]; rfl
        · intro H3 acc sm3 hacc hle hT
          have et : nextLv size ((levelN size i).take (j + 1)) = nextLv size ((levelN size i).take j) ++ (List.range size).map (fun a : Nat => r ++ [(a : Int)]) := by
            rw [take1 hr1]
            unfold nextLv
            rw [List.flatMap_append]; simp
          have hl3 : wv.length + acc.length ≤ 5000 := by
            have e1 := next_take size (levelN size i) (j + 1)
            have e2 : (nextLv size (levelN size i)).length ≤ 5000 := b2
            rw [et, List.length_append] at e1
            rw [hW.length, hT.length]; omega
          refine ⟨wo, D, wv, acc, rfl, rfl, sm3 _ _ ew, hacc, Nat.le_trans hl3 (by decide), fun p hp => ?_⟩
          have d3 := same_upd (o := .lst (wv ++ acc)) (sm3.free hp) sm3
          have d4 := same_new (o := .lst (wv ++ acc)) hp
          refine ⟨_, p, wv ++ acc, rfl, sm2.trans d3, upd_same, ?_⟩
          rw [et]
          exact (hW.on (tup_same d3)).append (hT.on (tup_same d4))
      · rintro σ' H2 ⟨u6, wo, wv, rfl, sm2, ew, hW⟩
        rw [hL.length, List.take_length] at hW
        refine ⟨_, rfl, wo, wv, rfl, .inl (SqL.of ew), fun l2 hl2 => ?_⟩
        have e1 := same_new (o := .lst wv) hl2
        have ef2 := sm2 _ _ ef
        refine ⟨_, rfl, _, rfl, fo, l2, fv, wv, rfl, rfl, e1 _ _ ef2, upd_same, Nat.le_trans (show fv.length + wv.length ≤ 5000 by rw [hW.length]; exact b3) (by decide), fun p hp => ?_⟩
        have e2 := same_upd (o := .lst (fv ++ wv)) (e1.free hp) e1
        have nlp : l2 ≠ p := ne_of_none (by rw [upd_same]) hp
        refine ⟨_, _, _, p, l2, fv ++ wv, wv, rfl, sm.trans (sm2.trans e2), ?_, upd_same, by rw [upd_ne nlp]; exact upd_same, (hF.on (tup_same (sm2.trans e2))).append (hW.on (tup_same e2)), hW.on (tup_same e2)⟩
        exact (sm.trans (sm2.trans e1)).free hp
    · rintro σ' H1 ⟨u4, u5, u6, fo, lo, fv, lv, rfl, sm, nfo, ef, el, hF, hL⟩
      exact ⟨_, rfl, q _ fo fv sm nfo ef hF⟩
end
end K8

set_option Elab.async false
set_option linter.all false
set_option maxRecDepth 100000
set_option maxHeartbeats 4000000
namespace K8
open PySem PyProof.Rows L2 GenW GN
def ownB (r : List Int) : Bool := decide (0 < r.length) && (List.range (r.length - 1)).all fun i => HT.lexLt r (r.drop (i + 1))
def spOwnP (K : PySem.W.Frag) : Sp := fun vs H Q _ => ∃ (t : Addr) (r : List Int), vs = [.ref t] ∧ SqT K H t (r.map V.int) ∧ r.length ≤ 1000 ∧ ∀ H', Same H H' → Q (.bl (ownB r)) H'
theorem cut_from (xs : List V) (k : Nat) (h : k ≤ xs.length) : cutV xs (some (k : Int)) none = xs.drop k := by
  unfold cutV
  show (xs.drop (HT.sIx xs.length 0 (some (k : Int)))).take (xs.length - HT.sIx xs.length 0 (some (k : Int))) = _
  rw [HT.sIx_nat, Nat.min_eq_left h]
  exact List.take_of_length_le (by rw [List.length_drop]; exact Nat.le_refl _)
theorem cut_to (xs : List V) (k : Nat) (h : k ≤ xs.length) : cutV xs none (some (k : Int)) = xs.take k := by
  unfold cutV
  show (xs.drop 0).take (HT.sIx xs.length xs.length (some (k : Int)) - 0) = _
  rw [HT.sIx_nat, Nat.min_eq_left h]; rfl
/-- t[k:], k at least 1 -/
theorem sl_from {K : PySem.W.Frag} {t : Addr} {r : List Int} {k : Nat} {H : Hp} {Q : VK} (ht : SqT K H t (r.map V.int)) (h1 : 1 ≤ k) (h2 : k ≤ r.length) (q : ∀ p, H p = none → Q (.ref p) (upd H p (.tup ((r.drop k).map V.int)))) : rSlA K (.ref t) (some (k : Int)) none H Q := by
  refine ⟨t, _, rfl, ht, fun z => ?_, fun _ p hp => ?_⟩
  · have := z.1
    rw [HT.sIx_nat, List.length_map, Nat.min_eq_left h2] at this
    omega
  · rw [cut_from _ _ (by rw [List.length_map]; exact h2), ← List.map_drop]; exact q p hp
/-- t[:k] -/
theorem sl_to {K : PySem.W.Frag} {t : Addr} {r : List Int} {k : Nat} {H : Hp} {Q : VK} (ht : SqT K H t (r.map V.int)) (h2 : k ≤ r.length) (q : ∀ H' p, Same H H' → SqT K H' p ((r.take k).map V.int) → (k < r.length → H' p = some (.tup ((r.take k).map V.int))) → Q (.ref p) H') : rSlA K (.ref t) none (some (k : Int)) H Q := by
  refine ⟨t, _, rfl, ht, fun z => ?_, fun _ p hp => ?_⟩
  · have := z.2
    rw [HT.sIx_nat, List.length_map, Nat.min_eq_left h2] at this
    rw [this] at q
    refine q H t (Same.refl H) (by rw [List.take_length]; exact ht) fun z => absurd z (Nat.lt_irrefl _)
  · rw [cut_to _ _ (by rw [List.length_map]; exact h2), ← List.map_take]
    exact q _ p (same_new hp) (SqT.of upd_same) fun _ => upd_same
section
variable {P : Program} {w : World} {K : PySem.W.Frag} {mg : Str → Option Value} {base : Heap}
theorem scOP : FnScope ["row", "k"] ["row"] (defScope sOwnP) := ⟨rfl, rfl, rfl, by decide +kernel, rfl, by decide +kernel, by decide +kernel⟩
theorem ok_ownP {f : Addr} {fd : FuncData} (F : Fun K "_law_own" "_law_own" sOwnP f fd) (T : Txt mg) : FnOk P w K mg base CX0 1 f fd ["row"] (spOwnP K) := by
  refine F.ok scOP (fun vs H Q E h => ?_) (fun cdv A outer s H vs Q E hr h => ?_)
  · obtain ⟨_, _, rfl, _⟩ := h
    rfl
  · obtain ⟨t, r, rfl, ht, hl, q⟩ := h
    refine ⟨_, pss_one (ps_ret (pe_and (pe_cmpR op_gt (pe_callB call_len_seq (by rfl) T.len bt_len (pa_cons (pv 0) pa_nil)) pe_int (nomark _)) (pe_one (pe_callB (cr_all rfl) (by rfl) T.all bt_all (pa_cons
      (pe_lc (own := [("k", 1)]) (g := gName 1) (tt := tYes) (by rfl) scOP.nd (pi_range2 rfl T.range (pa_cons pe_int (pa_cons (pe_callB call_len_seq (by rfl) T.len bt_len (pa_cons (pv 0) pa_nil)) pa_nil))) (blkOk_by (own := [("k", 1)]) (N := ["row", "k"]) (sc := defScope sOwnP) (by decide +kernel))
        (fun _ _ _ _ _ => pg_name (i := 1) scOP.nd rfl (Or.inl rfl)) (fun _ _ _ _ _ => pts_nil) (fun _ _ _ _ _ => pe_cmpR (r := rLtT K) (op_ltT hr.units0) (pv 0) (pe_slice (r := rSlA K) sl_tupA (pv 0) (po_some (pv 1)) po_none) (nomark _))) pa_nil))))), ?_⟩
    refine ⟨_, rfl, t, _, rfl, .inr ht, _, _, rfl, rfl, _, rfl, ?_⟩
    rw [List.length_map]
    refine ite2 (fun h1 => ?_) fun h1 => ?_
    · have h1' : 0 < r.length := by have := of_decide_eq_true h1; omega
      refine ⟨_, rfl, t, _, rfl, .inr ht, 1, (r.length : Int), by rw [List.length_map], by omega, fun D hD => ?_⟩
      have hn : ((r.length : Int) - 1).toNat = r.length - 1 := by omega
      rw [hn]
      refine lcR (fun i acc _ => acc = ((List.range i).map fun i => HT.lexLt r (r.drop (i + 1))).map V.bl) hD rfl ?_ ?_
      · intro i H1 acc hi sm hacc hle e
        have ei : (1 : Int) + (i : Int) = ((i + 1 : Nat) : Int) := by omega
        rw [ei]
        refine ⟨rfl, _, rfl, _, rfl, _, rfl, _, rfl, ?_⟩
        unfold tNoPart
        refine sl_from (k := i + 1) (seqT sm ht) (by omega) (by omega) fun p hp => ?_
        refine ⟨t, p, r, r.drop (i + 1), rfl, rfl, seqT (sm.trans (same_new hp)) ht, SqT.of upd_same, CI.put hD (sm.trans (same_new hp)) (same_new hp _ _ hacc) hle (Nat.lt_of_lt_of_le (show i < 1001 by omega) (by decide)) ?_⟩
        rw [List.range_succ, List.map_append, List.map_append, e]; rfl
      · intro H1 acc sm hacc hle e
        rw [e] at hacc
        refine ⟨D, _, rfl, SqL.of hacc, ?_⟩
        have eo : ownB r = ((List.range (r.length - 1)).map fun i => HT.lexLt r (r.drop (i + 1))).all id := by
          unfold ownB
          rw [decide_eq_true h1', Bool.true_and, List.all_map]; rfl
        have q1 := q H1 sm
        rw [eo] at q1; exact q1
    · have h1' : ¬ 0 < r.length := fun z => h1 (decide_eq_true (by omega))
      have eo : ownB r = false := by unfold ownB; rw [decide_eq_false h1']; rfl
      have q1 := q H (Same.refl H)
      rw [eo] at q1; exact q1
end
/-! ### the list of all own words -/
def dueB (size deep : Nat) : List (List Int) := (rowsAll size deep).filter ownB
def spDue : Sp := fun vs H Q _ => ∃ size deep : Nat, vs = [.int size, .int deep] ∧ size ≤ 1000 ∧ deep ≤ 900 ∧ (rowsAll size deep).length ≤ 5000 ∧ ∀ H' p ws, Same H H' → H p = none → H' p = some (.lst ws) → TupL H' ws (dueB size deep) → Q (.ref p) H'
theorem rows_len (size : Nat) : ∀ d, ∀ r ∈ rowsAll size d, r.length ≤ d
  | 0, r, h => by
    have : r = [] := by simpa [rowsAll] using h
    rw [this]; exact Nat.le_refl _
  | n + 1, r, h => by
    rcases List.mem_append.mp h with h | h
    · exact Nat.le_succ_of_le (rows_len size n r h)
    · rw [lv_len size (n + 1) r h]; exact Nat.le_refl _
section
variable {P : Program} {w : World} {K : PySem.W.Frag} {mg : Str → Option Value} {base : Heap}
theorem scDu : FnScope ["size", "deep", "row"] ["size", "deep"] (defScope sDue) := ⟨rfl, rfl, rfl, by decide +kernel, rfl, by decide +kernel, by decide +kernel⟩
theorem ok_due {f fR fO : Addr} {fd fdR fdO : FuncData} (F : Fun K "_law_due" "_law_due" sDue f fd) (T : Txt mg) (FR : Fn K mg "_law_rows" sRows ["size", "deep"] fR fdR) (FO : Fn K mg "_law_own" sOwnP ["row"] fO fdO) : FnOk P w K mg base CX0 2 f fd ["size", "deep"] spDue := by
  have GR : FnOk P w K mg base CX0 1 fR fdR ["size", "deep"] spRows := ok_rows FR.F T
  have GO : FnOk P w K mg base CX0 1 fO fdO ["row"] (spOwnP K) := ok_ownP FO.F T
  refine F.ok scDu (fun vs H Q E h => ?_) (fun cdv A outer s H vs Q E hr h => ?_)
  · obtain ⟨_, _, rfl, _⟩ := h
    rfl
  · obtain ⟨size, deep, rfl, h1, h2, h3, q⟩ := h
    refine ⟨_, pss_one (ps_ret (pe_lc (own := [("row", 2)]) (g := gName 2) (by rfl) scDu.nd (pi_list (pe_call GR hr rfl FR.g FR.F.kp FR.b .nil pass0 (pa_cons (pv 0) (pa_cons (pv 1) pa_nil)))) (blkOk_by (own := [("row", 2)]) (N := ["size", "deep", "row"]) (sc := defScope sDue) (by decide +kernel))
      (fun _ _ _ _ _ => pg_name (i := 2) scDu.nd rfl (Or.inl rfl)) (fun _ _ _ _ _ => pts_one (pt_val (pe_call GO hr rfl FO.g FO.F.kp FO.b .nil pass0 (pa_cons (pv 2) pa_nil)))) (fun _ _ _ _ _ => pv 2))), ?_⟩
    refine ⟨_, rfl, _, rfl, size, deep, rfl, h1, by omega, h3, fun H1 p ws sm np ep hT => ?_⟩
    refine ⟨p, rfl, ⟨_, SqL.of ep⟩, fun D hD => ?_⟩
    refine lcL (xs := ws) (fun i acc H' => TupL H' acc (((rowsAll size deep).take i).filter ownB)) hD (SqL.of ep) .nil ?_ ?_
    · intro i x H2 acc hx hlt sm2 hacc hle hA
      obtain ⟨t, r, rfl, hr1, htr⟩ := hT.get hx
      have hrl := rows_len size deep r (List.mem_of_getElem? hr1)
      have et := filt1 ownB hr1
      refine ⟨rfl, _, rfl, t, r, rfl, SqT.of (sm2 _ _ htr), by omega, fun H3 sm3 => ⟨_, rfl, ite2 (fun hb => ?_) fun hb => ?_⟩⟩
      · refine ⟨_, rfl, CI.put hD (sm2.trans sm3) (sm3 _ _ hacc) hle ?_ ?_⟩
        · have := hT.length
          exact Nat.lt_of_lt_of_le (show i < 5001 by omega) (by decide)
        · have hput : ∀ t' xs, H3 t' = some (.tup xs) → (upd H3 D (.lst (acc ++ [.ref t]))) t' = some (.tup xs) := fun t' xs e => by
            rw [upd_ne (ne_of e (sm3 _ _ hacc) (by intro z; cases z))]; exact e
          rw [et, if_pos hb]
          exact ((hA.on (tup_same sm3)).on hput).append (.cons ⟨t, rfl, hput _ _ (sm3 _ _ (sm2 _ _ htr))⟩ .nil)
      · refine CI.skip (sm2.trans sm3) (sm3 _ _ hacc) hle ?_
        rw [et, if_neg hb, List.append_nil]
        exact hA.on (tup_same sm3)
    · intro H2 acc sm2 hacc hle hA
      rw [hT.length, List.take_length] at hA
      exact q _ D acc (sm.trans sm2) (sm.free hD) hacc hA
end
end K8

set_option Elab.async false
set_option linter.all false
set_option maxRecDepth 100000
set_option maxHeartbeats 4000000
namespace K8
open PySem PyProof.Rows L2 GenW GN
/-! ### cutting a row -/
def maxN : List Nat → Nat
  | [] => 0
  | x :: l => max x (maxN l)
theorem maxN_le : ∀ {l : List Nat} {m : Nat}, (∀ y ∈ l, y ≤ m) → maxN l ≤ m
  | [], _, _ => Nat.zero_le _
  | x :: l, m, h => Nat.max_le.mpr ⟨h x List.mem_cons_self, maxN_le fun y hy => h y (List.mem_cons_of_mem _ hy)⟩
theorem le_maxN : ∀ {l : List Nat} {m : Nat}, m ∈ l → m ≤ maxN l
  | x :: l, m, h => by
    rcases List.mem_cons.mp h with e | h
    · rw [e]; exact Nat.le_max_left _ _
    · exact Nat.le_trans (le_maxN h) (Nat.le_max_right _ _)
def ksOf (r : List Int) : List Nat := ((List.range r.length).map (· + 1)).filter fun k => ownB (r.take k)
def bestK (r : List Int) : Nat := maxN (ksOf r)
def cutF : Nat → List Int → List (List Int)
  | 0, _ => []
  | n + 1, r => if 0 < r.length then r.take (bestK r) :: cutF n (r.drop (bestK r)) else cutF n r
def cutB (r : List Int) : List (List Int) := cutF r.length r
theorem sl_toT {K : PySem.W.Frag} {t : Addr} {r : List Int} {k : Nat} {H : Hp} {Q : VK} (ht : H t = some (.tup (r.map V.int))) (h2 : k ≤ r.length) (q : ∀ H' p, Same H H' → H' p = some (.tup ((r.take k).map V.int)) → Q (.ref p) H') : rSlA K (.ref t) none (some (k : Int)) H Q := by
  refine ⟨t, _, rfl, SqT.of ht, fun z => ?_, fun _ p hp => ?_⟩
  · have := z.2
    rw [HT.sIx_nat, List.length_map, Nat.min_eq_left h2] at this
    rw [this, List.take_length] at q
    exact q H t (Same.refl H) ht
  · rw [cut_to _ _ (by rw [List.length_map]; exact h2), ← List.map_take]
    exact q _ p (same_new hp) upd_same
def spCut : Sp := fun vs H Q _ => ∃ (t : Addr) (r : List Int), vs = [.ref t] ∧ H t = some (.tup (r.map V.int)) ∧ r.length ≤ 900 ∧ ∀ H' p ws, Same H H' → H p = none → H' p = some (.lst ws) → TupL H' ws (cutB r) → Q (.ref p) H'
section
variable {P : Program} {w : World} {K : PySem.W.Frag} {mg : Str → Option Value} {base : Heap}
abbrev nCut : List Str := ["row", "parts", "turn", "size", "k"]
theorem scCu : FnScope nCut ["row"] (defScope sCut) := ⟨rfl, rfl, rfl, by decide +kernel, rfl, by decide +kernel, by decide +kernel⟩
theorem ok_cut {f fO : Addr} {fd fdO : FuncData} (F : Fun K "_law_cut" "_law_cut" sCut f fd) (T : Txt mg) (FO : Fn K mg "_law_own" sOwnP ["row"] fO fdO) : FnOk P w K mg base CX0 2 f fd ["row"] spCut := by
  have GO : FnOk P w K mg base CX0 1 fO fdO ["row"] (spOwnP K) := ok_ownP FO.F T
  refine F.ok scCu (fun vs H Q E h => ?_) (fun cdv A outer s H vs Q E hr h => ?_)
  · obtain ⟨_, _, rfl, _⟩ := h
    rfl
  · obtain ⟨t, r, rfl, ht, hl, q⟩ := h
    refine ⟨_, pss_cons (ps_set (i := 1) scCu.nd rfl (Or.inl rfl) (pe_lst pa_nil))
      (pss_cons (ps_for PassesOwn.never rfl (pi_range1 rfl T.range (pa_cons (pe_callB call_len_seq (by rfl) T.len bt_len (pa_cons (pv 0) pa_nil)) pa_nil)) (pg_name (i := 2) scCu.nd rfl (Or.inl rfl))
        (pss_one (ps_if (pt_cmpR op_gt (pe_callB call_len_seq (by rfl) T.len bt_len (pa_cons (pv 0) pa_nil)) pe_int (nomark _))
          (pss_cons (ps_set (i := 3) scCu.nd rfl (Or.inl rfl) (pe_callB (cr_max rfl) (by rfl) T.max bt_max (pa_cons
            (pe_lc (own := [("k", 4)]) (g := gName 4) (by rfl) scCu.nd (pi_range2 rfl T.range (pa_cons pe_int (pa_cons (pe_op op_add (pe_callB call_len_seq (by rfl) T.len bt_len (pa_cons (pv 0) pa_nil)) pe_int) pa_nil))) (blkOk_by (own := [("k", 4)]) (N := nCut) (sc := defScope sCut) (by decide +kernel))
              (fun _ _ _ _ _ => pg_name (i := 4) scCu.nd rfl (Or.inl rfl)) (fun _ _ _ _ _ => pts_one (pt_val (pe_call GO hr rfl FO.g FO.F.kp FO.b .nil pass0 (pa_cons (pe_slice (r := rSlA K) sl_tupA (pv 0) po_none (po_some (pv 4))) pa_nil)))) (fun _ _ _ _ _ => pv 4)) pa_nil)))
          (pss_cons (ps_expr (pe_bm PySem.F.plainAttrs_list PySem.F.slot_list_append PySem.F.type_list_append mt_append (pv 1) (pa_cons (pe_slice (r := rSlA K) sl_tupA (pv 0) po_none (po_some (pv 3))) pa_nil)))
          (pss_one (ps_set (i := 0) scCu.nd rfl (Or.inr rfl) (pe_slice (r := rSlA K) sl_tupA (pv 0) (po_some (pv 3)) po_none))))) pss_nil)))
      (pss_one (ps_ret (pv 1)))), ?_⟩
    refine ⟨Nat.zero_le _, fun po hpo => ?_⟩
    have s0 := same_new (o := .lst []) hpo
    refine ⟨_, rfl, t, _, rfl, .inr (SqT.of (s0 _ _ ht)), _, rfl, by omega, by rw [List.length_map]; omega, ?_⟩
    have hn0 : (((r.map V.int).length : Nat) : Int).toNat = r.length := by rw [List.length_map]; omega
    rw [hn0]
    refine for_range (n := r.length) (fun i σ' H' => ∃ (t' : Addr) (r' : List Int) (u2 u3 : Option V) (ws : List V) (done : List (List Int)), σ' = [some (.ref t'), some (.ref po), u2, u3, none] ∧ Same H H' ∧ H' t' = some (.tup (r'.map V.int)) ∧ H' po = some (.lst ws) ∧ TupL H' ws done ∧ done ++ cutF (r.length - i) r' = cutB r ∧ r'.length ≤ r.length ∧ done.length ≤ i)
      ⟨t, r, none, none, [], [], rfl, s0, s0 _ _ ht, upd_same, .nil, rfl, Nat.le_refl _, Nat.zero_le _⟩ ?_ ?_
    · rintro i σ' H1 hi ⟨t', r', u2, u3, ws, done, rfl, sm, ht', ew, hW, hc, hl', hdn⟩
      have hn : r.length - i = (r.length - (i + 1)) + 1 := by omega
      refine ⟨_, rfl, t', _, rfl, .inr (SqT.of ht'), _, _, rfl, rfl, _, rfl, ?_⟩
      rw [List.length_map]
      refine ite2 (fun h1 => ?_) fun h1 => ?_
      · have h1' : 0 < r'.length := by have := of_decide_eq_true h1; omega
        rw [hn] at hc
        have hc' : done ++ (r'.take (bestK r') :: cutF (r.length - (i + 1)) (r'.drop (bestK r'))) = cutB r := by
          rw [← hc]; show _ = done ++ (if 0 < r'.length then _ else _); rw [if_pos h1']
        refine ⟨_, rfl, t', _, rfl, .inr (SqT.of ht'), _, _, rfl, rfl, 1, _, rfl, ?_, fun D hD => ?_⟩
        · rw [List.length_map]; omega
        have hn2 : (((r'.map V.int).length : Int) + 1 - 1).toNat = r'.length := by rw [List.length_map]; omega
        rw [hn2]
        refine lcR (fun j acc _ => acc = (((List.range j).map (· + 1)).filter fun k => ownB (r'.take k)).map fun k : Nat => V.int (k : Int)) hD rfl ?_ ?_
        · intro j H2 acc hj sm2 hacc hle e
          have ei : (1 : Int) + (j : Int) = ((j + 1 : Nat) : Int) := by omega
          rw [ei]
          refine ⟨rfl, _, rfl, _, rfl, _, rfl, ?_⟩
          have et : (((List.range (j + 1)).map (· + 1)).filter fun k => ownB (r'.take k)) = (((List.range j).map (· + 1)).filter fun k => ownB (r'.take k)) ++ (if ownB (r'.take (j + 1)) = true then [j + 1] else []) := by
            rw [List.range_succ, List.map_append, List.filter_append]
            congr 1
            cases eb : ownB (r'.take (j + 1))
            · rw [if_neg Bool.false_ne_true]; exact List.filter_cons_of_neg (by simp [eb])
            · rw [if_pos rfl]; exact List.filter_cons_of_pos (by simp [eb])
          refine sl_toT (k := j + 1) (sm2 _ _ ht') (by omega) fun H3 p sm3 hp => ⟨p, r'.take (j + 1), rfl, SqT.of hp, by rw [List.length_take]; omega, fun H4 sm4 => ⟨_, rfl, ite2 (fun hb => ?_) fun hb => ?_⟩⟩
          · refine ⟨_, rfl, CI.put hD ((sm2.trans sm3).trans sm4) (sm4 _ _ (sm3 _ _ hacc)) hle (Nat.lt_of_lt_of_le (show j < 1001 by omega) (by decide)) ?_⟩
            rw [et, if_pos hb, List.map_append, e]; rfl
          · refine CI.skip ((sm2.trans sm3).trans sm4) (sm4 _ _ (sm3 _ _ hacc)) hle ?_
            rw [et, if_neg hb, List.append_nil, e]
        · intro H2 acc sm2 hacc hle e
          have eks : acc = ((ksOf r').map fun k : Nat => (k : Int)).map V.int := by
            rw [List.map_map]; exact e
          rw [eks] at hacc
          have hone : 1 ∈ ksOf r' := by
            refine List.mem_filter.mpr ⟨List.mem_map.mpr ⟨0, List.mem_range.mpr h1', rfl⟩, ?_⟩
            cases er : r' with
            | nil => rw [er] at h1'; cases h1'
            | cons a l => rfl
          refine ⟨D, _, rfl, SqL.of hacc, ?_, fun m hm hmax => ?_⟩
          · rw [List.length_map]; exact List.length_pos_of_mem hone
          obtain ⟨k, hk, rfl⟩ := List.mem_map.mp hm
          have hb : bestK r' = k := by
            refine Nat.le_antisymm (maxN_le fun y hy => ?_) (le_maxN hk)
            have := hmax (y : Int) (List.mem_map.mpr ⟨y, hy, rfl⟩)
            omega
          have hk1 : 1 ≤ k ∧ k ≤ r'.length := by
            obtain ⟨hk1, _⟩ := List.mem_filter.mp hk
            obtain ⟨a, ha, e⟩ := List.mem_map.mp hk1
            have := List.mem_range.mp ha
            have e' : a + 1 = k := e
            omega
          rw [hb] at hc'
          refine ⟨_, rfl, .inl ⟨rfl, _, SqL.of (sm2 _ _ ew)⟩, _, rfl, _, rfl, _, rfl, ?_⟩
          refine sl_toT (sm2 _ _ ht') hk1.2 fun H3 p sm3 hp => ?_
          have ew3 := sm3 _ _ (sm2 _ _ ew)
          have hwl := hW.length
          refine ⟨po, ws, _, rfl, rfl, ew3, Nat.lt_of_le_of_lt (show ws.length ≤ 1000 by omega) (by decide), _, rfl, _, rfl, _, rfl, ?_⟩
          have npt : ∀ t0 xs, H3 t0 = some (.tup xs) → (upd H3 po (.lst (ws ++ [.ref p]))) t0 = some (.tup xs) := fun t0 xs e => by
            rw [upd_ne (ne_of e ew3 (by intro z; cases z))]; exact e
          unfold tNoPart
          refine sl_from (SqT.of (npt _ _ (sm3 _ _ (sm2 _ _ ht')))) hk1.1 hk1.2 fun p2 hp2 => ?_
          have s5 := same_new (o := .tup ((r'.drop k).map V.int)) hp2
          have npo : po ≠ p2 := ne_of_none (by rw [upd_same]) hp2
          refine ⟨p2, r'.drop k, _, _, ws ++ [.ref p], done ++ [r'.take k], rfl, fun b o e => ?_, upd_same, by rw [upd_ne npo, upd_same], ?_, ?_, ?_, ?_⟩
          · refine s5 _ _ ?_
            rw [upd_ne (ne_of_none e hpo)]
            exact sm3 _ _ (sm2 _ _ (sm _ _ e))
          · exact (((hW.on (tup_same (sm2.trans sm3))).on npt).append (.cons ⟨p, rfl, npt _ _ hp⟩ .nil)).on (tup_same s5)
          · rw [← hc', List.append_assoc]; rfl
          · rw [List.length_drop]; omega
          · rw [List.length_append, List.length_singleton]; omega
      · have h1' : ¬ 0 < r'.length := fun z => h1 (decide_eq_true (by omega))
        rw [hn] at hc
        refine ⟨t', r', _, u3, ws, done, rfl, sm, ht', ew, hW, ?_, hl', by omega⟩
        rw [← hc]; show _ = done ++ (if 0 < r'.length then _ else _); rw [if_neg h1']
    · rintro σ' H1 ⟨t', r', u2, u3, ws, done, rfl, sm, ht', ew, hW, hc, hl', hdn⟩
      rw [Nat.sub_self] at hc
      have hd : done = cutB r := by rw [← hc]; exact (List.append_nil _).symm
      rw [hd] at hW
      exact ⟨_, rfl, q _ po ws sm hpo ew hW⟩
end
end K8

set_option Elab.async false
set_option linter.all false
set_option maxRecDepth 100000
set_option maxHeartbeats 4000000
namespace K8
open PySem PyProof.Rows L2 GenW GN
/-! ### words of names, told by places -/
def inR (m : Nat) (w : List Int) : Prop := ∀ c ∈ w, 0 ≤ c ∧ c < (m : Int)
theorem nm_at {gs : List Str} {w : List Int} {i : Nat} {x : V} (h : ((nm gs w).map V.str)[i]? = some x) (hr : inR gs.length w) : ∃ k : Nat, k < gs.length ∧ w[i]? = some (k : Int) ∧ gs[k]? = some (gs.getD k "") ∧ x = .str (gs.getD k "") := by
  obtain ⟨z, hz, rfl⟩ := map_at h
  unfold nm at hz
  obtain ⟨c, hc, rfl⟩ := map_at hz
  obtain ⟨h0, h1⟩ := hr c (List.mem_of_getElem? hc)
  obtain ⟨k, rfl⟩ : ∃ k : Nat, c = (k : Int) := ⟨c.toNat, by omega⟩
  have hk : k < gs.length := by omega
  refine ⟨k, hk, hc, ?_, ?_⟩
  · rw [List.getD_eq_getElem?_getD, List.getElem?_eq_getElem hk]; rfl
  · rw [Int.toNat_natCast]
theorem eqV_str (a b : Str) : eqV (.str a) (.str b) = decide (a = b) := by
  show (a == b) = _
  by_cases h : a = b
  · rw [decide_eq_true h, h]; simp
  · rw [decide_eq_false h]; simpa using h
def spIndex : Sp := fun vs H Q _ => ∃ (t g : Addr) (gs : List Str) (w : List Int), vs = [.ref t, .ref g] ∧ H t = some (.tup ((nm gs w).map V.str)) ∧ H g = some (.lst (gs.map V.str)) ∧ inR gs.length w ∧ gs.Nodup ∧ w.length ≤ 1000 ∧ gs.length ≤ 1000 ∧ NewT H (w.map V.int) Q
section
variable {P : Program} {w : World} {K : PySem.W.Frag} {mg : Str → Option Value} {base : Heap}
theorem scIx : FnScope ["row", "grips", "name"] ["row", "grips"] (defScope sIndex) := ⟨rfl, rfl, rfl, by decide +kernel, rfl, by decide +kernel, by decide +kernel⟩
theorem ok_index {f : Addr} {fd : FuncData} (F : Fun K "_law_index" "_law_index" sIndex f fd) (T : Txt mg) : FnOk P w K mg base CX0 1 f fd ["row", "grips"] spIndex := by
  refine F.ok scIx (fun vs H Q E h => ?_) (fun cdv A outer s H vs Q E hr h => ?_)
  · obtain ⟨_, _, _, _, rfl, _⟩ := h
    rfl
  · obtain ⟨t, g, gs, w, rfl, ht, hg, hin, hnd, hw, hgl, q⟩ := h
    refine ⟨_, pss_cons (ps_if (PW.pt (pw_or (pt_not (pt_val (pe_callB call_isi (by rfl) T.isi bt_isi (pa_cons (pv 0) (pa_cons (pe_bltn rfl T.tuple bt_tuple (v := .ty "tuple") rfl) pa_nil))))) (pw_or1 (pt_not (pt_val (pe_callB (cr_all rfl) (by rfl) T.all bt_all (pa_cons
        (pe_lc (own := [("name", 2)]) (g := gName 2) (tt := tYes) (by rfl) scIx.nd (pi_tup (pv 0)) (blkOk_by (own := [("name", 2)]) (N := ["row", "grips", "name"]) (sc := defScope sIndex) (by decide +kernel)) (fun _ _ _ _ _ => pg_name (i := 2) scIx.nd rfl (Or.inl rfl)) (fun _ _ _ _ _ => pts_nil)
          (fun _ _ _ _ _ => pe_and (pe_callB (r := rIsi K) call_isi (by rfl) T.isi bt_isi (pa_cons (pv 2) (pa_cons (pe_bltn rfl T.str bt_str (v := .ty "str") rfl) pa_nil))) (pe_one (pe_cmpR (r := rIn K false) op_in_seq (pv 2) (pv 1) (by with_unfolding_all rfl))))) pa_nil))))))) (pss_one (ps_ret pe_non)) pss_nil)
      (pss_one (ps_ret (pe_callTy call_tuple_of (by rfl) T.tuple bt_tuple (pa_cons (pe_lc (own := [("name", 2)]) (g := gName 2) (tt := tYes) (by rfl) scIx.nd (pi_tup (pv 0)) (blkOk_by (own := [("name", 2)]) (N := ["row", "grips", "name"]) (sc := defScope sIndex) (by decide +kernel)) (fun _ _ _ _ _ => pg_name (i := 2) scIx.nd rfl (Or.inl rfl)) (fun _ _ _ _ _ => pts_nil)
          (fun _ _ _ _ _ => pe_bmK (K := K) rfl PySem.F.plainAttrs_list PySem.F.slot_list_index PySem.F.type_list_index (r := rIndex K) mt_index (pv 1) (pa_cons (pv 2) pa_nil))) pa_nil)))), ?_⟩
    refine ⟨_, rfl, _, _, _, _, true, rfl, .ty _, .base (.tup ht), kit_ty (by decide +kernel), _, rfl, iteF ?_⟩
    refine ⟨_, rfl, t, rfl, ⟨_, SqT.of ht⟩, fun D hD => ?_⟩
    have lnm : ((nm gs w).map V.str).length = w.length := by rw [List.length_map]; unfold nm; rw [List.length_map]
    refine lcT (fun i acc _ => acc = (List.replicate i true).map V.bl) hD (SqT.of ht) rfl ?_ ?_
    · intro i x H1 acc hx hlt sm hacc hle e
      rw [lnm] at hlt
      obtain ⟨k, hk, hwk, hgk, rfl⟩ := nm_at hx hin
      refine ⟨rfl, _, rfl, _, _, _, _, true, rfl, .ty _, .base (.str _), kit_ty (by decide +kernel), _, rfl, iteT ⟨_, rfl, _, rfl, g, _, rfl, .inl (SqL.of (sm _ _ hg)), rfl, flat_strs gs, ?_⟩⟩
      rw [inV_str]
      have hany : (gs.any fun y => y == gs.getD k "") = true := List.any_eq_true.mpr ⟨_, List.mem_of_getElem? hgk, by simp⟩
      rw [hany]
      refine CI.put hD sm hacc hle (Nat.lt_of_lt_of_le (show i < 1001 by omega) (by decide)) ?_
      rw [e, List.replicate_succ', List.map_append]; rfl
    · intro H1 acc sm hacc hle e
      rw [lnm] at e
      rw [e] at hacc
      refine ⟨D, _, rfl, SqL.of hacc, _, rfl, ?_⟩
      have hall : (List.replicate w.length true).all id = true := by simp
      rw [hall]
      refine iteF ?_
      refine ⟨_, rfl, t, rfl, ⟨_, SqT.of (sm _ _ ht)⟩, fun D2 hD2 => ?_⟩
      refine lcT (fun i acc _ => acc = (w.take i).map V.int) hD2 (SqT.of (sm _ _ ht)) rfl ?_ ?_
      · intro i x H2 acc hx hlt sm2 hacc hle e
        rw [lnm] at hlt
        obtain ⟨k, hk, hwk, hgk, rfl⟩ := nm_at hx hin
        have hg2 := sm2 _ _ (sm _ _ hg)
        refine ⟨rfl, _, rfl, .inl ⟨rfl, _, SqL.of hg2⟩, _, rfl, g, _, _, k, _, rfl, rfl, SqL.of hg2, rfl, flat_strs gs, by rw [List.getElem?_map, hgk]; rfl, by rw [eqV_str]; exact decide_eq_true rfl, fun m z' hm hz' => ?_, CI.put hD2 sm2 hacc hle (Nat.lt_of_lt_of_le (show i < 1001 by omega) (by decide)) ?_⟩
        · obtain ⟨y, hy, rfl⟩ := map_at hz'
          rw [eqV_str]
          refine decide_eq_false fun q => ?_
          rw [q] at hy
          have := (List.getElem?_inj (List.getElem?_eq_some_iff.mp hy).1 hnd).mp (hy.trans hgk.symm)
          omega
        · rw [take1 hwk, List.map_append, e]; rfl
      · intro H2 acc sm2 hacc hle e
        rw [lnm, List.take_length] at e
        rw [e] at hacc
        exact ⟨D2, _, rfl, .inl ⟨SqL.of hacc, fun l hl => q _ l (same_upd ((sm.trans sm2).free hl) (sm.trans sm2)) ((sm.trans sm2).free hl) upd_same⟩⟩
end
/-- a list of tuples of names -/
def StrL (H : Hp) (vs : List V) (rows : List (List Str)) : Prop := Paired (fun v r => ∃ t, v = V.ref t ∧ H t = some (.tup (r.map V.str))) vs rows
theorem StrL.on {H H' : Hp} {vs : List V} {rows : List (List Str)} (h : StrL H vs rows) (k : ∀ t xs, H t = some (.tup xs) → H' t = some (.tup xs)) : StrL H' vs rows := by
  unfold StrL at h ⊢
  induction h with
  | nil => exact .nil
  | cons h _ ih =>
    obtain ⟨t, e, h⟩ := h
    exact .cons ⟨t, e, k _ _ h⟩ ih
theorem StrL.get {H : Hp} {vs : List V} {rows : List (List Str)} (h : StrL H vs rows) {i : Nat} {v : V} (e : vs[i]? = some v) : ∃ t r, v = .ref t ∧ rows[i]? = some r ∧ H t = some (.tup (r.map V.str)) := by
  unfold StrL at h
  induction h generalizing i with
  | nil => cases e
  | @cons x r xs rs h _ ih =>
    obtain ⟨t, e1, h⟩ := h
    cases i with
    | zero =>
      have e' : x = v := Option.some.inj e
      subst e'
      exact ⟨t, r, e1, rfl, h⟩
    | succ i => exact ih (by simpa using e)
theorem StrL.length {H : Hp} {vs : List V} {rows : List (List Str)} (h : StrL H vs rows) : vs.length = rows.length := Paired.length h
theorem StrL.snoc {H : Hp} {vs : List V} {rows : List (List Str)} {t : Addr} {r : List Str} (h : StrL H vs rows) (e : H t = some (.tup (r.map V.str))) : StrL H (vs ++ [.ref t]) (rows ++ [r]) := by
  unfold StrL at h ⊢
  induction h with
  | nil => exact .cons ⟨t, rfl, e⟩ .nil
  | cons h _ ih => exact .cons h ih
theorem TupL.snoc {H : Hp} {vs : List V} {rows : List (List Int)} {t : Addr} {r : List Int} (h : TupL H vs rows) (e : H t = some (.tup (r.map V.int))) : TupL H (vs ++ [.ref t]) (rows ++ [r]) := h.append (.cons ⟨t, rfl, e⟩ .nil)
def spTold : Sp := fun vs H Q _ => ∃ (p g : Addr) (fv : List V) (gs : List Str) (W : List (List Int)), vs = [.ref p, .ref g] ∧ H p = some (.lst fv) ∧ StrL H fv (W.map (nm gs)) ∧ H g = some (.lst (gs.map V.str)) ∧ (∀ w ∈ W, inR gs.length w ∧ w.length ≤ 1000) ∧ gs.Nodup ∧ gs.length ≤ 1000 ∧ W.length ≤ 5000 ∧
  ∀ H' l ws, Same H H' → H l = none → H' l = some (.lst ws) → TupL H' ws W → Q (.ref l) H'
section
variable {P : Program} {w : World} {K : PySem.W.Frag} {mg : Str → Option Value} {base : Heap}
theorem scTo : FnScope ["found", "grips", "row", "name"] ["found", "grips"] (defScope sTold) := ⟨rfl, rfl, rfl, by decide +kernel, rfl, by decide +kernel, by decide +kernel⟩
theorem ok_told {f fX : Addr} {fd fdX : FuncData} (F : Fun K "_law_told" "_law_told" sTold f fd) (T : Txt mg) (FX : Fn K mg "_law_index" sIndex ["row", "grips"] fX fdX) : FnOk P w K mg base CX0 2 f fd ["found", "grips"] spTold := by
  have GX : FnOk P w K mg base CX0 1 fX fdX ["row", "grips"] spIndex := ok_index FX.F T
  refine F.ok scTo (fun vs H Q E h => ?_) (fun cdv A outer s H vs Q E hr h => ?_)
  · obtain ⟨_, _, _, _, _, rfl, _⟩ := h
    rfl
  · obtain ⟨p, g, fv, gs, W, rfl, hp, hS, hg, hW, hnd, hgl, hWl, q⟩ := h
    refine ⟨_, pss_cons (ps_for PassesOwn.never rfl (pi_list (pv 0)) (pg_name (i := 2) scTo.nd rfl (Or.inl rfl))
        (pss_one (ps_if (PW.pt (pw_or (pt_not (pt_val (pe_callB call_isi (by rfl) T.isi bt_isi (pa_cons (pv 2) (pa_cons (pe_bltn rfl T.tuple bt_tuple (v := .ty "tuple") rfl) pa_nil))))) (pw_or1 (pt_not (pt_val (pe_callB (cr_all rfl) (by rfl) T.all bt_all (pa_cons
          (pe_lc (own := [("name", 3)]) (g := gName 3) (tt := tYes) (by rfl) scTo.nd (pi_tup (pv 2)) (blkOk_by (own := [("name", 3)]) (N := ["found", "grips", "row", "name"]) (sc := defScope sTold) (by decide +kernel)) (fun _ _ _ _ _ => pg_name (i := 3) scTo.nd rfl (Or.inl rfl)) (fun _ _ _ _ _ => pts_nil)
            (fun _ _ _ _ _ => pe_callB (r := rIsi K) call_isi (by rfl) T.isi bt_isi (pa_cons (pv 3) (pa_cons (pe_bltn rfl T.str bt_str (v := .ty "str") rfl) pa_nil)))) pa_nil))))))) (pss_one (ps_ret pe_non)) pss_nil)))
      (pss_one (ps_ret (pe_lc (own := [("row", 2)]) (g := gName 2) (tt := tYes) (by rfl) scTo.nd (pi_list (pv 0)) (blkOk_by (own := [("row", 2)]) (N := ["found", "grips", "row", "name"]) (sc := defScope sTold) (by decide +kernel)) (fun _ _ _ _ _ => pg_name (i := 2) scTo.nd rfl (Or.inl rfl)) (fun _ _ _ _ _ => pts_nil)
            (fun _ _ _ _ _ => pe_call GX hr rfl FX.g FX.F.kp FX.b .nil pass0 (pa_cons (pv 2) (pa_cons (pv 1) pa_nil)))))), ?_⟩
    refine ⟨_, rfl, p, rfl, ⟨_, SqL.of hp⟩, for_list (K := K) (a := p) (xs := fv) (fun i σ' H' => ∃ u : Option V, σ' = [some (.ref p), some (.ref g), u, none] ∧ Same H H') ⟨none, rfl, Same.refl H⟩ (fun i σ' H' _ ⟨_, _, sm⟩ => SqL.of (sm _ _ hp)) ?_ ?_⟩
    · rintro i x σ' H1 hx ⟨u, rfl, sm⟩
      obtain ⟨t, r, rfl, hr1, htr⟩ := hS.get hx
      obtain ⟨w, hw, rfl⟩ := map_at hr1
      have hwl := (hW w (List.mem_of_getElem? hw)).2
      have ht1 := sm _ _ htr
      have lnm : ((nm gs w).map V.str).length = w.length := by rw [List.length_map]; unfold nm; rw [List.length_map]
      refine ⟨_, rfl, _, _, _, _, true, rfl, .ty _, .base (.tup ht1), kit_ty (by decide +kernel), _, rfl, iteF ?_⟩
      refine ⟨_, rfl, t, rfl, ⟨_, SqT.of ht1⟩, fun D hD => ?_⟩
      refine lcT (fun i acc _ => acc = (List.replicate i true).map V.bl) hD (SqT.of ht1) rfl ?_ ?_
      · intro j x H2 acc hx hlt sm2 hacc hle e
        rw [lnm] at hlt
        obtain ⟨z, _, rfl⟩ := map_at hx
        refine ⟨rfl, _, rfl, _, _, _, _, true, rfl, .ty _, .base (.str _), kit_ty (by decide +kernel), ?_⟩
        refine CI.put hD sm2 hacc hle (Nat.lt_of_lt_of_le (show j < 1001 by omega) (by decide)) ?_
        rw [e, List.replicate_succ', List.map_append]; rfl
      · intro H2 acc sm2 hacc hle e
        rw [lnm] at e
        rw [e] at hacc
        refine ⟨D, _, rfl, SqL.of hacc, _, rfl, ?_⟩
        have hall : (List.replicate w.length true).all id = true := by simp
        rw [hall]
        exact iteF ⟨_, rfl, sm.trans sm2⟩
    · rintro σ' H1 ⟨u, rfl, sm⟩
      have hp1 := sm _ _ hp
      have hS1 := hS.on (tup_same sm)
      refine ⟨_, rfl, p, rfl, ⟨_, SqL.of hp1⟩, fun D hD => ?_⟩
      refine lcL (xs := fv) (fun i acc H' => TupL H' acc (W.take i)) hD (SqL.of hp1) .nil ?_ ?_
      · intro i x H2 acc hx hlt sm2 hacc hle hA
        obtain ⟨t, r, rfl, hr1, htr⟩ := hS1.get hx
        obtain ⟨w, hw, rfl⟩ := map_at hr1
        obtain ⟨hwi, hwl⟩ := hW w (List.mem_of_getElem? hw)
        have hfl := hS1.length
        rw [List.length_map] at hfl
        refine ⟨rfl, _, rfl, _, rfl, t, g, gs, w, rfl, sm2 _ _ htr, sm2 _ _ (sm _ _ hg), hwi, hnd, hwl, hgl, fun H3 t3 s3 n3 e3 => CI.put hD (sm2.trans s3) (s3 _ _ hacc) hle (Nat.lt_of_lt_of_le (show i < 5001 by omega) (by decide)) ?_⟩
        have hput : ∀ t' xs, H3 t' = some (.tup xs) → (upd H3 D (.lst (acc ++ [.ref t3]))) t' = some (.tup xs) := fun t' xs e => by
          rw [upd_ne (ne_of e (s3 _ _ hacc) (by intro z; cases z))]; exact e
        rw [take1 hw]
        exact ((hA.on (tup_same s3)).on hput).snoc (hput _ _ e3)
      · intro H2 acc sm2 hacc hle hA
        have hfl := hS1.length
        rw [List.length_map] at hfl
        rw [hfl, List.take_length] at hA
        exact q _ D acc (sm.trans sm2) (sm.free hD) hacc hA
end
end K8

set_option Elab.async false
set_option linter.all false
set_option maxRecDepth 100000
set_option maxHeartbeats 4000000
namespace K8
open PySem PyProof.Rows L2 GenW GN
/-! ### the three ways to hand names over -/
theorem len_le_of_names {z : Str} (h : isNm z = true) : 1 ≤ z.length ∧ z.length ≤ 16 := nmS_len (isNm_nmS h).1
theorem no_blank {z : Str} (h : isNm z = true) : 32 ∉ z.cps.toList := by
  obtain ⟨⟨c, r, e, h1, h2, _⟩, _⟩ := isNm_nmS h
  rw [e]
  intro hm
  rcases List.mem_cons.mp hm with e | hm
  · rw [← e] at h1; exact absurd h1 (by decide)
  · have := List.all_eq_true.mp h2 32 hm
    exact absurd this (by decide)
theorem names_of_join {ns : List Str} (hn : ns ≠ []) (ha : ns.all isNm = true) : wordsOf (PySem.Txt.join " " ns) = ns := by
  unfold wordsOf
  have e : PySem.Txt.split (PySem.Txt.join " " ns) " " = ns := TL.split_join (s := 32) (S := []) (by decide +kernel) (by decide +kernel) hn fun p hp => no_blank (List.all_eq_true.mp ha p hp)
  rw [e]
  refine List.filter_eq_self.mpr fun z hz => ?_
  have := (len_le_of_names (List.all_eq_true.mp ha z hz)).1
  unfold noE'
  rw [Bool.not_eq_true', decide_eq_false_iff_not]
  intro q
  rw [q] at this
  exact absurd this (by decide)
theorem joinL_len : ∀ (ps : List (List Nat)), (TL.joinL [32] ps).length ≤ (ps.map (·.length)).sum + ps.length
  | [] => Nat.zero_le _
  | [p] => by show p.length ≤ _; simp
  | p :: q :: r => by
    have ih := joinL_len (q :: r)
    show (p ++ ([32] ++ TL.joinL [32] (q :: r))).length ≤ _
    rw [List.length_append, List.length_append, List.map_cons, List.sum_cons, List.length_cons]
    rw [List.length_cons] at *
    simp only [List.length_cons, List.length_nil] at *
    omega
theorem sum_len : ∀ {ns : List Str}, ns.all isNm = true → (ns.map (·.length)).sum ≤ 16 * ns.length
  | [], _ => Nat.zero_le _
  | z :: ns, h => by
    rw [List.all_cons] at h
    obtain ⟨h1, h2⟩ := Bool.and_eq_true_iff.mp h
    have ih := sum_len h2
    have := (len_le_of_names h1).2
    rw [List.map_cons, List.sum_cons, List.length_cons]; omega
theorem join_len {ns : List Str} (ha : ns.all isNm = true) (hl : ns.length ≤ 100) : (PySem.Txt.join " " ns).length + 2 ≤ sizeLine := by
  have e1 : (PySem.Txt.join " " ns).cps.toList = TL.joinL [32] (ns.map TL.tl) := by
    rw [TL.join_eq]
    have := TL.tl_join (" " : Str) ns
    rw [show TL.tl (" " : Str) = [32] by decide +kernel] at this
    exact this
  have e2 : (PySem.Txt.join " " ns).cps.toList.length = (PySem.Txt.join " " ns).length := Array.length_toList
  have e3 := joinL_len (ns.map TL.tl)
  have e4 : ((ns.map TL.tl).map (·.length)) = ns.map (·.length) := by
    rw [List.map_map]
    refine List.map_congr_left fun z _ => ?_
    exact (TL.len_tl z).symm
  rw [e4, List.length_map] at e3
  have := sum_len ha
  rw [e1] at e2
  exact Nat.le_trans (show (PySem.Txt.join " " ns).length + 2 ≤ 2000 by omega) (by decide)
def spListed : Sp := fun vs H Q _ => ∃ (bx gr g : Addr) (ns : List Str), vs = [.ref bx, .ref g] ∧ Bx bx gr H ∧ H g = some (.lst (ns.map V.str)) ∧ g ≠ bx ∧ g ≠ gr ∧ ns ≠ [] ∧ ns.all isNm = true ∧ ns.length ≤ 100 ∧ ∀ H' v, SB bx gr H H' → Bx bx gr H' → RowOf v H' (ns.map V.str) → Q v H'
section
variable {P : Program} {w : World} {K : PySem.W.Frag} {mg : Str → Option Value} {base : Heap}
theorem scLi : FnScope ["box", "items", "pick"] ["box", "items"] (defScope sListed) := ⟨rfl, rfl, rfl, by decide +kernel, rfl, by decide +kernel, by decide +kernel⟩
theorem ok_listed {f fD : Addr} {fd fdD : FuncData} (F : Fun K "_law_listed" "_law_listed" sListed f fd) (T : Txt mg) (FD : Fn K mg "_law_draw" sDraw ["box", "many"] fD fdD) : FnOk P w K mg base CX0 2 f fd ["box", "items"] spListed := by
  have GD : FnOk P w K mg base CX0 1 fD fdD ["box", "many"] spDraw := ok_draw FD.F T
  refine F.ok scLi (fun vs H Q E h => ?_) (fun cdv A outer s H vs Q E hr h => ?_)
  · obtain ⟨_, _, _, _, rfl, _⟩ := h
    rfl
  · obtain ⟨bx, gr, g, ns, rfl, hB, hg, n1, n2, hne, ha, hl, q⟩ := h
    refine ⟨_, pss_cons (ps_set (i := 2) scLi.nd rfl (Or.inl rfl) (pe_call GD hr rfl FD.g FD.F.kp FD.b .nil pass0 (pa_cons (pv 0) (pa_cons pe_int pa_nil))))
      (pss_cons (ps_if (pt_cmpR op_eq (pv 2) pe_int (nomark _)) (pss_one (ps_ret (pe_bm PySem.F.plainAttrs_str PySem.F.slot_str_join PySem.F.type_str_join mt_join pe_str (pa_cons (pv 1) pa_nil)))) pss_nil)
      (pss_cons (ps_if (pt_cmpR op_eq (pv 2) pe_int (nomark _)) (pss_one (ps_ret (pe_callTy call_tuple_of (by rfl) T.tuple bt_tuple (pa_cons (pv 1) pa_nil)))) pss_nil)
      (pss_one (ps_ret (pe_callTy call_list_of (by rfl) T.list bt_list (pa_cons (pv 1) pa_nil)))))), ?_⟩
    refine ⟨_, rfl, bx, gr, 3, rfl, hB, by decide, by decide, fun H1 d sb hB1 hd => ?_⟩
    have hg1 := sb _ _ n1 n2 hg
    refine ⟨_, rfl, rfl, _, rfl, ite2 (fun _ => ?_) fun _ => ?_⟩
    · refine ⟨rfl, _, rfl, _, g, ns, rfl, rfl, .inl (SqL.of hg1), ?_, q _ _ sb hB1 (.inl ⟨_, rfl, join_len ha hl, by rw [names_of_join hne ha]⟩)⟩
      have := sum_len ha
      show (ns.map (·.length)).sum + ns.length * 1 ≤ 16777216
      omega
    · refine ⟨_, rfl, rfl, _, rfl, ite2 (fun _ => ?_) fun _ => ?_⟩
      · exact ⟨_, rfl, g, _, rfl, .inl ⟨SqL.of hg1, fun l hl => q _ _ (sb.trans (SB.of (same_new hl))) (hB1.on (same_new hl)) (.inr ⟨l, rfl, .inr upd_same⟩)⟩⟩
      · exact ⟨_, rfl, g, _, rfl, .inl (SqL.of hg1), fun l hl => q _ _ (sb.trans (SB.of (same_new hl))) (hB1.on (same_new hl)) (.inr ⟨l, rfl, .inl upd_same⟩)⟩
end
/-! ### what own_words gives or says -/
/-- a list of the words, new -/
def NewS (H : Hp) (rows : List (List Str)) (Q : VK) : Prop := ∀ H' p fv, Same H H' → H p = none → H' p = some (.lst fv) → StrL H' fv rows → Q (.ref p) H'
/-- the handing over -/
structure Ask (CB CM : Addr) (v : V) (n : Int) (H : Hp) (Q : VK) (E : XK) : Prop where
  is : ((v = .non ∨ ∃ i, v = .int i) ∧ BadE CB H E) ∨ ∃ xs, RowOf v H xs ∧ (∀ x ∈ xs, Item x) ∧ xs.length ≤ 400 ∧ ((∀ ns, ¬ Good xs ns) → BadE CB H E) ∧
    (∀ ns, Good xs ns → if ns.length > 6 then ManyE CM H E "knobs" 6 else if n > 12 then ManyE CM H E "depth" 12 else
      ∃ D : Nat, n = (D : Int) ∧ 0 < ns.length ∧ (List.range D).all (fun i => okW ns.length (i + 1)) = true ∧ (ownW ns D).length ≤ 5000 ∧ NewS H (ownW ns D) Q)
/-- what list(own_words(..)) is read by -/
def wishO (outs : List (List Str)) (E : XK) : Wish := { yl := ylO outs, fin := fun k _ => k = outs.length, ex := E }
theorem ask_read {CB CM : Addr} {v : V} {n : Int} {H : Hp} {Q : VK} {E : XK} (h : Ask CB CM v n H Q E) : ∃ W, spOwn CB CM [v, .int n] H W ∧ (∀ cls d H', W.ex cls d H' → E cls d H') ∧ ∃ (n0 : Nat) (I : Addr → Nat → Nat → List V → Hp → (Addr → Prop) → Prop),
      (∀ (p : Addr) (H0 : Hp) (Kp : Addr → Prop), H p = none → ¬ Kp p → (∃ o, H0 p = some (exO p o)) → (∀ b o, H b = some o → H0 b = some o) → (∀ b, Kp b → H b = none ∧ H0 b ≠ none) → I p 0 n0 [] H0 Kp) ∧
      ∀ p i n ys H1 Kp, H p = none → ¬ Kp p → I p i n ys H1 Kp → ys.length < sizeLine ∧
        (∀ H2 Kp' x H3, Stp H1 Kp H2 Kp' → ¬ Kp' p → W.yl i x H2 → (∀ b, b ≠ p → H3 b = H2 b) → (∃ o, H3 p = some (exO p o)) → ∃ n', n' < n ∧ I p (i + 1) n' (ys ++ [x]) H3 Kp') ∧
        (∀ H2, (∀ b o, H1 b = some o → ¬ Kp b → H2 b = some o) → (∀ b xs, H1 b = some (.tup xs) → H2 b = some (.tup xs)) → W.fin i H2 → Q (.ref p) (upd H2 p (.lst ys))) := by
  obtain ⟨W, hsp, hex, hW⟩ : ∃ W : Wish, spOwn CB CM [v, .int n] H W ∧ W.ex = E ∧ (((∀ i x H, ¬ W.yl i x H) ∧ ∀ i H, ¬ W.fin i H) ∨ ∃ outs : List (List Str), outs.length ≤ 5000 ∧ W.yl = ylO outs ∧ (W.fin = fun k _ => k = outs.length) ∧ NewS H outs Q) := by
    obtain ⟨W0, hW0⟩ : ∃ W0 : Wish, W0 = { yl := fun _ _ _ => False, fin := fun _ _ => False, ex := E } := ⟨_, rfl⟩
    have no : (∀ i x H, ¬ W0.yl i x H) ∧ ∀ i H, ¬ W0.fin i H := by rw [hW0]; exact ⟨fun _ _ _ z => z, fun _ _ z => z⟩
    have ex0 : W0.ex = E := by rw [hW0]
    have st0 : ∀ j x (H H' : Hp), W0.yl j x H → (∀ b o, H b = some o → H' b = some o) → W0.yl j x H' := fun j x H H' z => absurd z (no.1 j x H)
    rcases h.is with h | ⟨xs, hrow, hit, hl, hbad, hgood⟩
    · exact ⟨W0, ⟨v, n, rfl, st0, .inl (by rw [ex0]; exact h)⟩, ex0, .inl no⟩
    · by_cases hg : ∃ ns, Good xs ns
      · obtain ⟨ns, hns⟩ := hg
        have hg := hgood ns hns
        by_cases h6 : ns.length > 6
        · rw [if_pos h6] at hg
          exact ⟨W0, ⟨v, n, rfl, st0, .inr ⟨xs, hrow, hit, hl, by rw [ex0]; exact hbad, fun ms hms => by rw [← good_inj hns hms, if_pos h6, ex0]; exact hg⟩⟩, ex0, .inl no⟩
        · rw [if_neg h6] at hg
          by_cases h12 : n > 12
          · rw [if_pos h12] at hg
            exact ⟨W0, ⟨v, n, rfl, st0, .inr ⟨xs, hrow, hit, hl, by rw [ex0]; exact hbad, fun ms hms => by rw [← good_inj hns hms, if_neg h6, if_pos h12, ex0]; exact hg⟩⟩, ex0, .inl no⟩
          · rw [if_neg h12] at hg
            obtain ⟨D, e, hpos, hok, hlen, hnew⟩ := hg
            refine ⟨wishO (ownW ns D) E, ⟨v, n, rfl, ?_, .inr ⟨xs, hrow, hit, hl, hbad, fun ms hms => by rw [← good_inj hns hms, if_neg h6, if_neg h12]; exact ⟨D, e, hpos, hok, rfl, rfl⟩⟩⟩, rfl, .inr ⟨ownW ns D, hlen, rfl, rfl, hnew⟩⟩
            rintro j x H1 H2 ⟨ws, t, e1, e2, e3⟩ k
            exact ⟨ws, t, e1, e2, k _ _ e3⟩
      · exact ⟨W0, ⟨v, n, rfl, st0, .inr ⟨xs, hrow, hit, hl, by rw [ex0]; exact hbad, fun ms hms => absurd ⟨ms, hms⟩ hg⟩⟩, ex0, .inl no⟩
  refine ⟨W, hsp, fun cls d H' z => by rw [← hex]; exact z, ?_⟩
  rcases hW with ⟨ny, nf⟩ | ⟨outs, hlen, hy, hf, hnew⟩
  · refine ⟨0, fun p i n ys H1 Kp => ys = [], fun _ _ _ _ _ _ _ _ => rfl, fun p i n ys H1 Kp _ _ e => ⟨by rw [e]; decide, fun H2 Kp' x H3 _ _ z => absurd z (ny _ _ _), fun H2 _ _ z => absurd z (nf _ _)⟩⟩
  · refine ⟨outs.length, fun p i n ys H1 Kp => n = outs.length - i ∧ i ≤ outs.length ∧ StrL H1 ys (outs.take i) ∧ (∀ b o, H b = some o → H1 b = some o) ∧ (∀ b, Kp b → H b = none) ∧ ∃ o, H1 p = some (exO p o),
      fun p H0 Kp _ _ ho hs hk => ⟨rfl, Nat.zero_le _, .nil, hs, fun b hb => (hk b hb).1, ho⟩, ?_⟩
    rintro p i n ys H1 Kp hp hKp ⟨rfl, hi, hS, hs, hk, o, ho⟩
    have lys : ys.length = i := by rw [hS.length, List.length_take]; omega
    refine ⟨Nat.lt_of_le_of_lt (show ys.length ≤ 5000 by omega) (by decide), fun H2 Kp' x H3 stp nKp' hx h3 ho3 => ?_, fun H2 k1 k2 hfin => ?_⟩
    · rw [hy] at hx
      obtain ⟨ws, t, e1, rfl, e3⟩ := hx
      have hi' := (List.getElem?_eq_some_iff.mp e1).1
      have hp2 := stp.same _ _ ho hKp
      have ntp : t ≠ p := ne_of e3 hp2 (fun z => by cases z)
      have k3 : ∀ t0 xs, H2 t0 = some (.tup xs) → H3 t0 = some (.tup xs) := fun t0 xs e => by rw [h3 t0 (ne_of e hp2 (fun z => by cases z))]; exact e
      refine ⟨outs.length - (i + 1), by omega, rfl, hi', ?_, fun b u e => ?_, fun b hb => ?_, ho3⟩
      · rw [take1 e1]
        exact (hS.on fun t0 xs e => k3 _ _ (stp.tup _ _ e)).snoc (k3 _ _ e3)
      · have hb1 := hs b u e
        have : ¬ Kp b := fun z => by rw [hk b z] at e; cases e
        rw [h3 b (ne_of_none e hp)]
        exact stp.same b u hb1 this
      · rcases stp.new b hb with z | z
        · exact hk b z
        · cases e : H b with
          | none => rfl
          | some u => rw [hs b u e] at z; cases z
    · rw [hf] at hfin
      have hi2 : i = outs.length := hfin
      rw [hi2, List.take_length] at hS
      have hp2 := k1 _ _ ho hKp
      have smH : Same H H2 := fun b u e => k1 b u (hs b u e) fun z => by rw [hk b z] at e; cases e
      refine hnew _ p ys (same_upd hp smH) hp upd_same ?_
      exact hS.on fun t0 xs e => by
        have e2 := k2 _ _ e
        rw [upd_ne (ne_of e2 hp2 (fun z => by cases z))]; exact e2
end K8

set_option Elab.async false
set_option linter.all false
set_option maxRecDepth 100000
set_option maxHeartbeats 4000000
namespace GN
open PySem PyProof.Rows L2 GenW
section
variable {X : Cx} {k : Nat} {f : Addr} {fd : FuncData} {ps ks : List Str} {sp : SpG2} {x : Str} {p pos' : Pos}
/-- two keywords, in the other order -/
def tCallGK (sp : SpG2) (tk : TA) : TGen2 := fun σ H R => tk σ H fun zs H1 => ∃ W, sp zs.reverse H1 W ∧ R H1 W
theorem vals_rev {vs : List V} {us : List Value} (h : Vals vs us) : Vals vs.reverse us.reverse := by
  induction h with
  | nil => exact .nil
  | cons a _ ih => rw [List.reverse_cons, List.reverse_cons]; exact ih.append (.cons a .nil)
theorem pgen2_callK {kws : List Keyword} {tk : TA} (F : GFn2 X.prog X.w X.K X.mg X.base k f fd ps sp) (hr : Room k X.A) (hg : Gl X x) (hm : X.mg x = some (.ref f)) (hk : PySem.W.keepIn X.K (.ref f) = true)
    (hb : ∀ (s : Shared) (ws : List Value), X.K.In s.heap → ws.length = ps.length → BindsTo s fd ⟨[], ks.zip ws⟩ (ps.zip ws.reverse))
    (hkw : PK X kws tk) (hall : (backToKw pos' (keywordEach kws X.env)).all (·.1.isSome) = true := by rfl) (hks : (backToKw pos' (keywordEach kws X.env)).filterMap (·.1) = ks := by rfl)
    (hdb : (x == ("__debug__" : Str)) = false := by decide)
    (hpl : ((backTo pos' (starEach [] X.env)).any (·.1) || (backToKw pos' (keywordEach kws X.env)).any (·.1.isNone)) = false := by rfl) :
    PGen2 X k (.Call (.Name x p) [] kws pos') (tCallGK sp tk) := by
  refine ⟨fun pins s σ H R I h => ?_⟩
  refine wpAny_Call_Name_kw (ld_glob I hg hm ?_ hdb)
  refine PySem.W.callWith_KW0 (h₀ := X.base) I.ok.mod.kin hk hall (wpAny_gsz (n := s.gens.size) (Nat.le_refl _) (wpAny_mono (hkw.run pos' pins s σ H _ I h) (fun ws s1 ⟨zs, H1, I1, r, W, q, hR⟩ hsz => ⟨I1.kIn, ?_⟩) fun _ _ x _ => x)) hpl
  rw [hks]
  have r2 := vals_rev r
  have hl : ws.reverse.length = ps.length := by rw [← r2.length]; exact F.len _ _ _ q
  rw [List.length_reverse] at hl
  refine wpAny_call (codeAny_mono (F.run X.A X.stack s1 H1 ⟨[], ks.zip ws⟩ ws.reverse zs.reverse W hr I1.env0 (hb s1 ws I1.kIn hl) r2 q) fun r s' hq => ?_)
  cases r with
  | error e => exact False.elim hq
  | ok fl =>
    cases fl <;> first | exact False.elim hq | (obtain ⟨N, env, g, a, go, c, M⟩ := hq; exact ⟨H1, s1, W, N, env, g, a, go, c, hsz, I1, M, hR⟩)
end
end GN
namespace K8
open PySem PyProof.Rows L2 GenW GN
/-- what becomes of an error -/
def EB (CB CM : Addr) (Q : VK) : XK := fun cls d H' =>
  (cls = .ref CB ∧ ∃ (dd : Addr) (y : Str), d = some dd ∧ H' dd = some (.xd [("why", .str y)]) ∧ 0 < y.length ∧ y.length ≤ 1000 ∧ NewT H' [.bl true, .int (-1)] Q) ∨
    (cls = .ref CM ∧ ∃ (dd : Addr) (y : Str) (k : Int), d = some dd ∧ H' dd = some (.xd [("most", .int k), ("what", .str y)]) ∧ NewT H' [.str y, .int k] Q)
def spBound (CB CM : Addr) : Sp := fun vs H Q _ => ∃ (v : V) (n : Int), vs = [v, .int n] ∧ Ask CB CM v n H Q (EB CB CM Q)
theorem Ask.imp {CB CM : Addr} {v : V} {n : Int} {H : Hp} {Q : VK} {E E' : XK} (h : Ask CB CM v n H Q E) (k : ∀ cls d H', Same H H' → E cls d H' → E' cls d H') : Ask CB CM v n H Q E' := by
  have hB : BadE CB H E → BadE CB H E' := fun a H' d y s hd h1 h2 h3 => k _ _ _ s (a H' d y s hd h1 h2 h3)
  have hM : ∀ {y m}, ManyE CM H E y m → ManyE CM H E' y m := fun a H' d s hd h3 => k _ _ _ s (a H' d s hd h3)
  refine ⟨?_⟩
  rcases h.is with ⟨a, b⟩ | ⟨xs, h1, h2, h3, h4, h5⟩
  · exact .inl ⟨a, hB b⟩
  · refine .inr ⟨xs, h1, h2, h3, fun z => hB (h4 z), fun ns hns => ?_⟩
    have := h5 ns hns
    by_cases h6 : ns.length > 6
    · rw [if_pos h6] at this ⊢; exact hM this
    · rw [if_neg h6] at this ⊢
      by_cases h12 : n > 12
      · rw [if_pos h12] at this ⊢; exact hM this
      · rw [if_neg h12] at this ⊢; exact this
/-- what the classes are -/
structure Classes (K : PySem.W.Frag) (mg : Str → Option Value) (CB CM : Addr) : Prop where
  gB : mg "BadName" = some (.ref CB)
  gM : mg "TooMany" = some (.ref CM)
  xB : XfC K CB
  xM : XfC K CM
  nB : PySem.W.findIn K (.ref CB) "why" = some none
  nW : PySem.W.findIn K (.ref CM) "what" = some none
  nM : PySem.W.findIn K (.ref CM) "most" = some none
  sB : PySem.W.subIn K (.ref CB) (.type "StopIteration") = some false
  sM : PySem.W.subIn K (.ref CM) (.type "StopIteration") = some false
  mm : PySem.W.exmOne K (.ref CM) (.ref CM) = some true
  bm : PySem.W.exmOne K (.ref CB) (.ref CM) = some false
  bb : PySem.W.exmOne K (.ref CB) (.ref CB) = some true
section
variable {P : Program} {w : World} {K : PySem.W.Frag} {mg : Str → Option Value} {base : Heap}
theorem scBo : FnScope ["items", "deep", "found", "e"] ["items", "deep"] (defScope sBound) := ⟨rfl, rfl, rfl, by decide +kernel, rfl, by decide +kernel, by decide +kernel⟩
theorem ok_bound {f fO CB CM : Addr} {fd fdO : FuncData} (F : Fun K "_law_bound_of" "_law_bound_of" sBound f fd) (T : Txt mg) (Cs : Classes K mg CB CM) (FO : Fn K mg "own_words" sOwn ["knobs", "depth"] fO fdO) (GO : GFn2 P w K mg base 5 fO fdO ["knobs", "depth"] (spOwn CB CM)) :
    FnOk P w K mg base CX0 9 f fd ["items", "deep"] (spBound CB CM) := by
  refine F.ok scBo (fun vs H Q E h => ?_) (fun cdv A outer s H vs Q E hr h => ?_)
  · obtain ⟨_, _, rfl, _⟩ := h
    rfl
  · obtain ⟨v, n, rfl, hask⟩ := h
    have hr5 : Room 5 _ := hr.mono (by decide)
    refine ⟨_, pss_cons (ps_try_two (i := 3) (c1 := .ref CM) (c2 := .ref CB) rfl rfl scBo.nd rfl rfl ⟨rfl, by decide, .inl Cs.gM⟩ ⟨rfl, by decide, .inl Cs.gB⟩
        (fun W pn xe tk _ => pss_one (ps_set (i := 2) scBo.nd rfl (Or.inl rfl) (pe_list2 (E := fun σ cls d H => (cls = .ref CB ∨ cls = .ref CM) ∧ W cls d σ H) rfl (pgen2_call GO hr5 rfl FO.g FO.F.kp FO.b (pa_cons (pv 0) (pa_cons (pv 1) pa_nil)))
          (fun σ => passAt (W := fun cls d σ H => (cls = .ref CB ∨ cls = .ref CM) ∧ W cls d σ H) (tk.imp fun c d σ H z => z.2) σ) (fun σ cls d H z => by
            rcases z.1 with e | e
            · rw [e]; exact Cs.sB
            · rw [e]; exact Cs.sM) hr rfl T.list bt_list)))
        (fun a oe cls d pn hz hf => pss_one (ps_ret (pe_tup (pa_cons (pe_xf Cs.xM Cs.nW hz hf (pv 3)) (pa_cons (pe_xf Cs.xM Cs.nM hz hf (pv 3)) pa_nil)))))
        (fun a oe cls d pn hz hf => pss_one (ps_ret (pe_tup (pa_cons (pe_and (pe_callB (r := rIsi K) call_isi (by rfl) T.isi bt_isi (pa_cons (pe_xf Cs.xB Cs.nB hz hf (pv 3)) (pa_cons (pe_bltn rfl T.str bt_str (v := .ty "str") rfl) pa_nil))) (pe_one (pe_cmpR op_gt (pe_callB call_len_str (by rfl) T.len bt_len (pa_cons (pe_xf Cs.xB Cs.nB hz hf (pv 3)) pa_nil)) pe_int (nomark _)))) (pa_cons (pe_un un_neg pe_int) pa_nil))))))
      (pss_one (ps_ret (pv 2))), ?_⟩
    refine ⟨_, rfl, _, rfl, ?_⟩
    refine ask_read (CB := CB) (CM := CM) (v := v) (n := n) (Q := fun u H' => gName 2 u (L2.start ["items", "deep", "found", "e"] [v, .int n]) H' (tRet (tVar 2) { nx := fun _ H' => Q .non H', rt := Q })) ?_
    refine Ask.imp (E := EB CB CM Q) ?_ ?_
    · refine ⟨?_⟩
      rcases hask.is with a | ⟨xs, h1, h2, h3, h4, h5⟩
      · exact .inl a
      · refine .inr ⟨xs, h1, h2, h3, h4, fun ns hns => ?_⟩
        have := h5 ns hns
        by_cases h6 : ns.length > 6
        · rw [if_pos h6] at this ⊢; exact this
        · rw [if_neg h6] at this ⊢
          by_cases h12 : n > 12
          · rw [if_pos h12] at this ⊢; exact this
          · rw [if_neg h12] at this ⊢
            obtain ⟨D, e1, e2, e3, e4, e5⟩ := this
            exact ⟨D, e1, e2, e3, e4, fun H' p fv s np ep hS => ⟨_, rfl, e5 H' p fv s np ep hS⟩⟩
    · rintro cls d H' sm (⟨rfl, dd, y, rfl, hdd, y0, y1, hq⟩ | ⟨rfl, dd, y, k, rfl, hdd, hq⟩)
      · refine ⟨.inl rfl, .inr ⟨Cs.bm, Cs.bb, fun a na => ?_⟩⟩
        have hly : y.length ≤ sizeLine := Nat.le_trans y1 (by decide)
        refine ⟨_, rfl, rfl, rfl, dd, _, .str y, rfl, hdd, rfl, _, _, _, _, true, rfl, .ty _, .base (.str y), kit_ty (by decide +kernel), _, rfl, iteT ?_⟩
        refine ⟨_, rfl, rfl, rfl, dd, _, .str y, rfl, hdd, rfl, y, rfl, hly, _, _, rfl, rfl, 1, rfl, (by show 2 ≤ sizeLine; decide), fun t ht => ?_⟩
        have e : decide ((0 : Int) < (y.length : Int)) = true := decide_eq_true (by omega)
        show Q (V.ref t) (upd H' t (.tup [.bl (decide ((0 : Int) < (y.length : Int))), .int (-1)]))
        rw [e]
        exact hq _ t (same_new ht) ht upd_same
      · refine ⟨.inr rfl, .inl ⟨Cs.mm, fun a na => ?_⟩⟩
        refine ⟨_, rfl, rfl, rfl, dd, _, .str y, rfl, hdd, rfl, _, rfl, rfl, rfl, dd, _, .int k, rfl, hdd, rfl, (by show 2 ≤ sizeLine; decide), fun t ht => ?_⟩
        exact hq _ t (same_new ht) ht upd_same
end
end K8

set_option Elab.async false
set_option linter.all false
set_option maxRecDepth 100000
set_option maxHeartbeats 4000000
namespace K8
open PySem PyProof.Rows L2 GenW GN
/-! ### the plain law -/
def allW (size deep : Nat) : List (List Int) := (List.range deep).flatMap fun i => wordsL size (i + 1)
def geB (a b : List Int) : Bool := Ob.lexAt (fun j => decide (a.getD j 0 = b.getD j 0)) (fun j => decide (b.getD j 0 ≤ a.getD j 0)) (decide (a.length ≥ b.length)) 0 (min a.length b.length)
def chainB (ps : List (List Int)) : Bool := (List.range (ps.length - 1)).all fun k => geB (ps.getD k []) (ps.getD (k + 1) [])
def maxD : Nat → Nat
  | 1 => 12
  | 2 => 8
  | 3 => 5
  | 4 => 3
  | 5 => 2
  | 6 => 2
  | _ => 0
def fact1 (size : Nat) : Bool := (List.range (maxD size + 1)).all fun d => decide (dueB size d = allW size d) && (decide ((rowsAll size d).length ≤ 5000) && decide ((allW size d).length ≤ 5000))
def fact2 (size : Nat) : Bool := (List.range (maxD size)).all fun i => okW size (i + 1)
def fact3 (size : Nat) : Bool := (rowsAll size (maxD size)).all fun r => (cutB r).all ownB && chainB (cutB r)
theorem f1 : ((List.range 6).all fun i => fact1 (i + 1)) = true := by decide +kernel
theorem f2 : ((List.range 6).all fun i => fact2 (i + 1)) = true := by decide +kernel
theorem f3 : ((List.range 6).all fun i => fact3 (i + 1)) = true := by decide +kernel
end K8

set_option Elab.async false
set_option linter.all false
set_option maxRecDepth 100000
set_option maxHeartbeats 4000000
namespace K8
open PySem PyProof.Rows L2 GenW GN
/-! ### t >= u of tuples of ints -/
def rGeT (K : PySem.W.Frag) : R2 := fun x y H Q => ∃ (a b : Addr) (ns ms : List Int), x = .ref a ∧ y = .ref b ∧ SqT K H a (ns.map V.int) ∧ SqT K H b (ms.map V.int) ∧ Q (.bl (geB ns ms)) H
theorem op_geT {X : Cx} (hu : X.A.units < cLine) : OpR X (compareOp .GtE) (rGeT X.K) := by
  intro pins s σ H x y v u Q I rx ry ⟨a, b, ns, ms, ex, ey, ha, hb, q⟩
  subst ex ey
  cases rx
  cases ry
  obtain ⟨xs, r1, p1, _⟩ := I.tuple ha
  obtain ⟨ys, r2, p2, _⟩ := I.tuple hb
  have i1 : IntsAre xs ns := Vals.ints r1
  have i2 : IntsAre ys ms := Vals.ints r2
  have e1 : xs.toArray.size = ns.length := by rw [List.size_toArray]; exact i1.length
  have e2 : ys.toArray.size = ms.length := by rw [List.size_toArray]; exact i2.length
  have at1 : ∀ j (h : j < xs.toArray.size), ∃ t, xs.toArray[j] = .int (ns.getD j 0) t := fun j h => PyProof.Rows.IntsAre.int_at i1 _ _ (by simp at h; simp [h])
  have at2 : ∀ j (h : j < ys.toArray.size), ∃ t, ys.toArray[j] = .int (ms.getD j 0) t := fun j h => PyProof.Rows.IntsAre.int_at i2 _ _ (by simp at h; simp [h])
  have R := Ob.RcOp.tuples_ge (A := X.A) (s := s) (e := fun j => decide (ns.getD j 0 = ms.getD j 0)) (r := fun j => decide (ms.getD j 0 ≤ ns.getD j 0)) p1 p2 hu (fun j h1 h2 => by
      obtain ⟨t, et⟩ := at1 j h1
      obtain ⟨t', et'⟩ := at2 j h2
      have z : decide (ns.getD j 0 = ms.getD j 0) = (ns.getD j 0 == ms.getD j 0) := by
        by_cases q : ns.getD j 0 = ms.getD j 0
        · rw [decide_eq_true q]; exact (beq_iff_eq.mpr q).symm
        · rw [decide_eq_false q]; exact (beq_eq_false_iff_ne.mpr q).symm
      show SeqAt.EqAt X.A.in1 s xs.toArray[j] ys.toArray[j] (decide (ns.getD j 0 = ms.getD j 0))
      rw [et, et', z]
      exact SeqAt.EqAt.int_int _ _ _ _) (fun j h1 h2 _ => by
      obtain ⟨t, et⟩ := at1 j h1
      obtain ⟨t', et'⟩ := at2 j h2
      rw [et, et']
      exact Ob.RcOp.ge_int _ _ _ _)
  rw [e1, e2] at R
  exact R X.prog X.w X.xe (EP X pins σ Q) ⟨.bl _, H, I, rfl, q⟩
/-! ### lists of tuples as data -/
def pI (rows : List (List Int)) : PyData := .list (rows.map fun r => .tuple (r.map PyData.int))
def pS (rows : List (List Str)) : PyData := .list (rows.map fun r => .tuple (r.map PyData.str))
theorem dpI {K : PySem.W.Frag} {H : Hp} : ∀ r : List Int, DpAll K H (r.map V.int) (r.map PyData.int)
  | [] => .nil
  | x :: r => .cons (.int x) (dpI r)
theorem dpS {K : PySem.W.Frag} {H : Hp} : ∀ r : List Str, DpAll K H (r.map V.str) (r.map PyData.str)
  | [] => .nil
  | x :: r => .cons (.str x) (dpS r)
theorem dp_rows {K : PySem.W.Frag} {H : Hp} {p : Addr} {vs : List V} {rows : List (List Int)} (e : H p = some (.lst vs)) (T : TupL H vs rows) : Dp K H (.ref p) (pI rows) := by
  refine .lst (SqL.of e) ?_
  clear e
  unfold TupL at T
  induction T with
  | nil => exact .nil
  | cons h _ ih =>
    obtain ⟨t, rfl, h⟩ := h
    exact .cons (.tup (SqT.of h) (dpI _)) ih
theorem dp_strs {K : PySem.W.Frag} {H : Hp} {p : Addr} {vs : List V} {rows : List (List Str)} (e : H p = some (.lst vs)) (T : StrL H vs rows) : Dp K H (.ref p) (pS rows) := by
  refine .lst (SqL.of e) ?_
  clear e
  unfold StrL at T
  induction T with
  | nil => exact .nil
  | cons h _ ih =>
    obtain ⟨t, rfl, h⟩ := h
    exact .cons (.tup (SqT.of h) (dpS _)) ih
theorem layI : ∀ r : List Int, PyData.canLayAll0 (r.map PyData.int) = true
  | [] => by simp [PyData.canLayAll0]
  | x :: r => by simp [PyData.canLayAll0, PyData.canLay0, layI r]
theorem depI : ∀ r : List Int, PyData.depthAll (r.map PyData.int) ≤ 1
  | [] => by simp [PyData.depthAll]
  | x :: r => by
    have := depI r
    simp only [List.map_cons, PyData.depthAll, PyData.depth]
    omega
theorem layT : ∀ rows : List (List Int), PyData.canLayAll0 (rows.map fun r => .tuple (r.map PyData.int)) = true
  | [] => by simp [PyData.canLayAll0]
  | r :: rows => by simp [PyData.canLayAll0, PyData.canLay0, layI r, layT rows]
theorem depT : ∀ rows : List (List Int), PyData.depthAll (rows.map fun r => .tuple (r.map PyData.int)) ≤ 3
  | [] => by simp [PyData.depthAll]
  | r :: rows => by
    have h1 := depI r
    have h2 := depT rows
    simp only [List.map_cons, PyData.depthAll, PyData.depth]
    omega
theorem shapedI (rows : List (List Int)) : SeqAt.shaped (pI rows) = true := by
  have h := depT rows
  refine Bool.and_eq_true_iff.mpr ⟨by simp only [pI, PyData.canLay0]; exact layT rows, decide_eq_true ?_⟩
  simp only [pI, PyData.depth]
  omega
theorem shapedR (r : List Int) : SeqAt.shaped (.tuple (r.map PyData.int)) = true := by
  have h := depI r
  refine Bool.and_eq_true_iff.mpr ⟨by simp only [PyData.canLay0]; exact layI r, decide_eq_true ?_⟩
  simp only [PyData.depth]
  omega
theorem eqvI (rows : List (List Int)) : PyData.eqv (pI rows) (pI rows) = true := SeqAt.eqv_refl _ (by simp only [pI, PyData.canLay0]; exact layT rows)
theorem eqvR (r : List Int) : PyData.eqv (.tuple (r.map PyData.int)) (.tuple (r.map PyData.int)) = true := SeqAt.eqv_refl _ (by simp only [PyData.canLay0]; exact layI r)
end K8

set_option Elab.async false
set_option linter.all false
set_option maxRecDepth 100000
set_option maxHeartbeats 8000000
namespace K8
open PySem PyProof.Rows L2 GenW GN
/-! ### pieces of the law -/
def tPairs : List (Nat × Nat) → TA
  | [] => tNil
  | p :: ps => tCons (tLst (tCons (tC (.int (p.1 : Int))) (tCons (tC (.int (p.2 : Int))) tNil))) (tPairs ps)
theorem pa_pc {X : Cx} {k1 k2 : Nat} {p1 p2 pos : Pos} {es : List Expr} (m n : Nat) {ps : List (Nat × Nat)} (hr : PA X es (tPairs ps)) : PA X (.List [.Constant (.int (m : Int)) k1 p1, .Constant (.int (n : Int)) k2 p2] pos :: es) (tPairs ((m, n) :: ps)) :=
  pa_cons (t := tPairs ps) (pe_lst (t := tCons (tC (.int (m : Int))) (tCons (tC (.int (n : Int))) tNil)) (pa_cons pe_int (pa_cons pe_int pa_nil))) hr
theorem pa_p0 {X : Cx} : PA X [] (tPairs []) := pa_nil
def Lst2 (bx gr : Addr) (H : Hp) (vs : List V) (ps : List (Nat × Nat)) : Prop := Paired (fun v (p : Nat × Nat) => ∃ a, v = V.ref a ∧ a ≠ bx ∧ a ≠ gr ∧ H a = some (.lst [.int (p.1 : Int), .int (p.2 : Int)])) vs ps
theorem Lst2.get {bx gr : Addr} {H : Hp} {vs : List V} {ps : List (Nat × Nat)} (h : Lst2 bx gr H vs ps) {i : Nat} (hi : i < ps.length) : ∃ a p, vs[i]? = some (.ref a) ∧ ps[i]? = some p ∧ a ≠ bx ∧ a ≠ gr ∧ H a = some (.lst [.int (p.1 : Int), .int (p.2 : Int)]) := by
  unfold Lst2 at h
  induction h generalizing i with
  | nil => cases hi
  | @cons x r xs rs h _ ih =>
    obtain ⟨a, e1, h1, h2, h3⟩ := h
    cases i with
    | zero => exact ⟨a, r, by rw [e1]; rfl, rfl, h1, h2, h3⟩
    | succ i => exact ih (Nat.lt_of_succ_lt_succ hi)
theorem pairs_read {bx gr : Addr} : ∀ (ps : List (Nat × Nat)) {σ : L2.St} {H : Hp} {Q : List V → Hp → Prop}, Bx bx gr H → (∀ H' vs, Same H H' → vs.length = ps.length → Lst2 bx gr H' vs ps → Q vs H') → tPairs ps σ H Q
  | [], σ, H, Q, _, q => q H [] (Same.refl H) rfl .nil
  | p :: ps, σ, H, Q, hB, q => by
    refine ⟨(by show 2 ≤ sizeLine; decide), fun l hl => ?_⟩
    have s1 := same_new (o := .lst [.int (p.1 : Int), .int (p.2 : Int)]) hl
    obtain ⟨n1, n2⟩ := hB.new hl
    exact pairs_read ps (hB.on s1) fun H' vs s' hv L => q H' (.ref l :: vs) (s1.trans s') (by rw [List.length_cons, hv]; rfl) (.cons ⟨l, rfl, n1, n2, s' _ _ upd_same⟩ L)
def thePairs : List (Nat × Nat) := [(2, 8), (2, 7), (3, 5), (3, 4), (1, 12), (4, 3), (5, 2), (6, 2), (2, 4)]
theorem pairs_ok : ∀ p ∈ thePairs, 1 ≤ p.1 ∧ p.1 ≤ 6 ∧ p.2 ≤ maxD p.1 := by decide
theorem maxD_le {size : Nat} (h1 : 1 ≤ size) (h2 : size ≤ 6) : maxD size ≤ 12 := by
  match size, h1, h2 with
  | 1, _, _ => decide
  | 2, _, _ => decide
  | 3, _, _ => decide
  | 4, _, _ => decide
  | 5, _, _ => decide
  | 6, _, _ => decide
theorem minus_at {d : Nat} (h : d < 5) : ∃ s : Nat, s ≤ 12 ∧ ([.int 0, .int 1, .int 0, .int 2, .int 12] : List V)[d]? = some (.int s) :=
  match d, h with
  | 0, _ => ⟨0, by decide, rfl⟩
  | 1, _ => ⟨1, by decide, rfl⟩
  | 2, _ => ⟨0, by decide, rfl⟩
  | 3, _ => ⟨2, by decide, rfl⟩
  | 4, _ => ⟨12, by decide, rfl⟩
/-- what holds of a size and a depth -/
structure Plain (size deep : Nat) : Prop where
  s1 : 1 ≤ size
  s6 : size ≤ 6
  d12 : deep ≤ 12
  due : dueB size deep = allW size deep
  rl : (rowsAll size deep).length ≤ 5000
  wl : (allW size deep).length ≤ 5000
  ok : (List.range deep).all (fun i => okW size (i + 1)) = true
  cut : ∀ r, inR size r → r.length ≤ deep → (∀ p ∈ cutB r, p ∈ allW size deep) ∧ chainB (cutB r) = true
theorem lv_mem (size : Nat) : ∀ (n : Nat) (r : List Int), r.length = n → inR size r → r ∈ levelN size n
  | 0, r, h, _ => by rw [List.eq_nil_of_length_eq_zero h]; exact List.mem_singleton.mpr rfl
  | n + 1, r, h, hr => by
    have hne : r ≠ [] := fun z => by rw [z] at h; cases h
    have e := List.dropLast_concat_getLast hne
    have hl : r.dropLast.length = n := by rw [List.length_dropLast]; omega
    have h1 := lv_mem size n r.dropLast hl fun c hc => hr c (List.dropLast_subset r hc)
    obtain ⟨c0, c1⟩ := hr (r.getLast hne) (List.getLast_mem hne)
    refine List.mem_flatMap.mpr ⟨r.dropLast, h1, List.mem_map.mpr ⟨(r.getLast hne).toNat, List.mem_range.mpr (by omega), ?_⟩⟩
    rw [Int.toNat_of_nonneg c0]; exact e
theorem lv_sub (size : Nat) {i d : Nat} (h : i ≤ d) : ∀ r ∈ levelN size i, r ∈ rowsAll size d := by
  induction h with
  | refl =>
    intro r hr
    cases i with
    | zero => exact hr
    | succ i => exact List.mem_append_right _ hr
  | step _ ih => exact fun r hr => List.mem_append_left _ (ih r hr)
theorem row_mem {size deep : Nat} {r : List Int} (h : inR size r) (hl : r.length ≤ deep) : r ∈ rowsAll size deep := lv_sub size hl r (lv_mem size _ r rfl h)
theorem cut_parts : ∀ (n : Nat) (r : List Int), ∀ p ∈ cutF n r, (∀ c ∈ p, c ∈ r) ∧ p.length ≤ r.length
  | 0, r, p, h => by cases h
  | n + 1, r, p, h => by
    unfold cutF at h
    by_cases h0 : 0 < r.length
    · rw [if_pos h0] at h
      rcases List.mem_cons.mp h with e | h
      · rw [e]; exact ⟨fun c hc => List.mem_of_mem_take hc, by rw [List.length_take]; omega⟩
      · obtain ⟨a, b⟩ := cut_parts n _ p h
        exact ⟨fun c hc => List.mem_of_mem_drop (a c hc), by rw [List.length_drop] at b; omega⟩
    · rw [if_neg h0] at h
      exact cut_parts n r p h
theorem plain_of {size deep : Nat} (h1 : 1 ≤ size) (h6 : size ≤ 6) (hd : deep ≤ maxD size) : Plain size deep := by
  obtain ⟨i, rfl⟩ : ∃ i, size = i + 1 := ⟨size - 1, by omega⟩
  have hi := List.mem_range.mpr (show i < 6 by omega)
  have g1 := List.all_eq_true.mp f1 i hi
  have g2 := List.all_eq_true.mp f2 i hi
  have g3 := List.all_eq_true.mp f3 i hi
  have k1 := List.all_eq_true.mp g1 deep (List.mem_range.mpr (by omega))
  obtain ⟨k1, k2⟩ := Bool.and_eq_true_iff.mp k1
  obtain ⟨k2, k3⟩ := Bool.and_eq_true_iff.mp k2
  have due := of_decide_eq_true k1
  refine ⟨h1, h6, Nat.le_trans hd (maxD_le h1 h6), due, of_decide_eq_true k2, of_decide_eq_true k3, List.all_eq_true.mpr fun j hj => List.all_eq_true.mp g2 j (List.mem_range.mpr (Nat.lt_of_lt_of_le (List.mem_range.mp hj) hd)), fun r hr hl => ?_⟩
  have hm := row_mem (deep := maxD (i + 1)) hr (Nat.le_trans hl hd)
  obtain ⟨k4, k5⟩ := Bool.and_eq_true_iff.mp (List.all_eq_true.mp g3 r hm)
  refine ⟨fun p hp => ?_, k5⟩
  rw [← due]
  obtain ⟨a, b⟩ := cut_parts _ r p hp
  exact List.mem_filter.mpr ⟨row_mem (fun c hc => hr c (a c hc)) (Nat.le_trans b hl), List.all_eq_true.mp k4 p hp⟩
theorem ownW_all (gs : List Str) (deep : Nat) : ownW gs deep = (allW gs.length deep).map (nm gs) := by
  unfold ownW allW
  rw [List.map_flatMap]
theorem okW_in {m L : Nat} (h : okW m L = true) : ∀ w ∈ wordsL m L, inR m w ∧ w.length ≤ 1000 := fun w hw => by
  have := List.all_eq_true.mp (Bool.and_eq_true_iff.mp h).2 w hw
  obtain ⟨a, b⟩ := Bool.and_eq_true_iff.mp this
  exact ⟨fun c hc => of_decide_eq_true (List.all_eq_true.mp b c hc), of_decide_eq_true a⟩
theorem Plain.words {size deep : Nat} (h : Plain size deep) : ∀ w ∈ allW size deep, inR size w ∧ w.length ≤ 1000 := fun w hw => by
  obtain ⟨i, hi, hw⟩ := List.mem_flatMap.mp hw
  exact okW_in (List.all_eq_true.mp h.ok i hi) w hw
/-- list(own_words(..)) of good names and a depth in bounds -/
def NewOut (H : Hp) (rows : List (List Str)) : VK := fun u H' => ∃ p fv, u = V.ref p ∧ Same H H' ∧ H p = none ∧ H' p = some (.lst fv) ∧ StrL H' fv rows
theorem good_ask {CB CM : Addr} {v : V} {gs : List Str} {deep : Nat} {H : Hp} {E : XK} (hp : Plain gs.length deep) (hv : RowOf v H (gs.map V.str)) (ha : gs.all isNm = true) (hn : gs.Nodup) : Ask CB CM v (deep : Int) H (NewOut H (ownW gs deep)) E := by
  have hg : Good (gs.map V.str) gs := ⟨rfl, ha, hn⟩
  refine ⟨.inr ⟨_, hv, fun x hx => ?_, by rw [List.length_map]; have := hp.s6; omega, fun h => absurd hg (h gs), fun ms hms => ?_⟩⟩
  · obtain ⟨z, hz, rfl⟩ := List.mem_map.mp hx
    exact .inr (.inr ⟨z, rfl, Nat.lt_of_le_of_lt (len_le_of_names (List.all_eq_true.mp ha z hz)).2 (by decide)⟩)
  · rw [good_inj hms hg, if_neg (by have := hp.s6; omega), if_neg (by have := hp.d12; omega)]
    exact ⟨deep, rfl, hp.s1, hp.ok, by rw [ownW_all, List.length_map]; exact hp.wl, fun H' p fv s np ep hS => ⟨p, fv, rfl, s, np, ep, hS⟩⟩
/-- a handing over that is refused for its names -/
def BadV (bx gr : Addr) (v : V) (H : Hp) : Prop := (v = .non ∨ ∃ i, v = .int i) ∨ ((∃ z : Str, v = .str z ∧ z.length + 2 ≤ sizeLine ∧ (∀ y ∈ wordsOf z, y.length < sizeLine) ∧ (wordsOf z).length ≤ 400 ∧ ∀ ns, ¬ Good ((wordsOf z).map V.str) ns) ∨
  ∃ a xs, v = .ref a ∧ a ≠ bx ∧ a ≠ gr ∧ H a = some (.lst xs) ∧ (∀ x ∈ xs, Item x) ∧ xs.length ≤ 400 ∧ ∀ ns, ¬ Good xs ns)
theorem BadV.sb {bx gr : Addr} {v : V} {H H' : Hp} (h : BadV bx gr v H) (s : SB bx gr H H') : BadV bx gr v H' := by
  rcases h with h | h | ⟨a, xs, e, n1, n2, h1, h2⟩
  · exact .inl h
  · exact .inr (.inl h)
  · exact .inr (.inr ⟨a, xs, e, n1, n2, s _ _ n1 n2 h1, h2⟩)
theorem bad_ask {bx gr CB CM : Addr} {v : V} {n : Int} {H : Hp} {Q : VK} {E : XK} (h : BadV bx gr v H) (hE : BadE CB H E) : Ask CB CM v n H Q E := by
  rcases h with h | ⟨z, e, h1, h2, h3, h4⟩ | ⟨a, xs, e, n1, n2, h1, h2, h3, h4⟩
  · exact ⟨.inl ⟨h, hE⟩⟩
  · refine ⟨.inr ⟨_, .inl ⟨z, e, h1, rfl⟩, fun x hx => ?_, by rw [List.length_map]; exact h3, fun _ => hE, fun ns hns => absurd hns (h4 ns)⟩⟩
    obtain ⟨y, hy, rfl⟩ := List.mem_map.mp hx
    exact .inr (.inr ⟨y, rfl, h2 y hy⟩)
  · exact ⟨.inr ⟨xs, .inr ⟨a, e, .inl h1⟩, h2, h3, fun _ => hE, fun ns hns => absurd hns (h4 ns)⟩⟩
theorem many_ask {CB CM : Addr} {v : V} {n : Int} {gs : List Str} {H : Hp} {Q : VK} {E : XK} {y : Str} {k : Int} (hv : RowOf v H (gs.map V.str)) (ha : gs.all isNm = true) (hn : gs.Nodup) (hl : gs.length ≤ 400)
    (hE : ManyE CM H E y k) (hc : (6 < gs.length ∧ y = "knobs" ∧ k = 6) ∨ (gs.length ≤ 6 ∧ 12 < n ∧ y = "depth" ∧ k = 12)) : Ask CB CM v n H Q E := by
  have hg : Good (gs.map V.str) gs := ⟨rfl, ha, hn⟩
  refine ⟨.inr ⟨_, hv, fun x hx => ?_, by rw [List.length_map]; exact hl, fun h => absurd hg (h gs), fun ms hms => ?_⟩⟩
  · obtain ⟨z, hz, rfl⟩ := List.mem_map.mp hx
    exact .inr (.inr ⟨z, rfl, Nat.lt_of_le_of_lt (len_le_of_names (List.all_eq_true.mp ha z hz)).2 (by decide)⟩)
  · rw [good_inj hms hg]
    rcases hc with ⟨h1, rfl, rfl⟩ | ⟨h1, h2, rfl, rfl⟩
    · rw [if_pos h1]; exact hE
    · rw [if_neg (by omega), if_pos h2]; exact hE
/-- what the law wants of the errors -/
theorem bad_E {CB CM : Addr} {H : Hp} {Q : VK} (q : NewT H [.bl true, .int (-1)] Q) : BadE CB H (EB CB CM Q) := fun H' d y s hd h1 h2 h3 => .inl ⟨rfl, d, y, rfl, h3, h1, h2, q.on s⟩
theorem many_E {CB CM : Addr} {H : Hp} {Q : VK} {y : Str} {k : Int} (q : NewT H [.str y, .int k] Q) : ManyE CM H (EB CB CM Q) y k := fun H' d s hd h3 => .inr ⟨rfl, d, y, k, rfl, h3, q.on s⟩
def sevens : List Str := ["a_7", "b_7", "c_7", "e_7", "f_7", "g_7", "h_7"]
theorem sev_ok : sevens.all isNm = true := by decide +kernel
theorem sev_nd : sevens.Nodup := by decide +kernel
theorem sev_words : ownW (sevens.take 6) 1 = (sevens.take 6).map fun z => [z] := by decide +kernel
theorem sev_shaped : SeqAt.shaped (pS ((sevens.take 6).map fun z => [z])) = true := by decide +kernel
theorem sev_eqv : PyData.eqv (pS ((sevens.take 6).map fun z => [z])) (pS ((sevens.take 6).map fun z => [z])) = true := by decide +kernel
theorem six_plain : Plain (sevens.take 6).length 1 := plain_of (by decide) (by decide) (by decide)
theorem it_nm {z : Str} (hz : isNm z = true) : Item (.str z) := .inr (.inr ⟨z, rfl, Nat.lt_of_le_of_lt (len_le_of_names hz).2 (by decide)⟩)
theorem it_short {z : Str} (hz : z.length ≤ 16) : Item (.str z) := .inr (.inr ⟨z, rfl, Nat.lt_of_le_of_lt hz (by decide)⟩)
theorem aba : wordsOf "a b a" = (["a", "b", "a"] : List Str) := by decide +kernel
theorem intw : wordsOf "int" = (["int"] : List Str) := by decide +kernel
theorem bad_at {bx gr b2 b3 b4 b5 : Addr} {H : Hp} {gs gr0 : List Str} {g0 : Str} {d : Nat} (hd : d < 8) (n2 : b2 ≠ bx ∧ b2 ≠ gr) (n3 : b3 ≠ bx ∧ b3 ≠ gr) (n4 : b4 ≠ bx ∧ b4 ≠ gr) (n5 : b5 ≠ bx ∧ b5 ≠ gr) (e2 : H b2 = some (.lst (gs.map V.str ++ [.str g0]))) (e3 : H b3 = some (.lst [.int 1]))
    (e4 : H b4 = some (.lst [.str "a", .str "9"])) (e5 : H b5 = some (.lst [.str g0, .non])) (hga : gs.all isNm = true) (hg0 : isNm g0 = true) (egs : gs = g0 :: gr0) (hl : gs.length ≤ 6) :
    ∃ bv, ([.ref b2, .ref b3, .str "a b a", .str "int", .non, .int 7, .ref b4, .ref b5] : List V)[d]? = some bv ∧ BadV bx gr bv H := by
  match d, hd with
  | 0, _ =>
    refine ⟨_, rfl, .inr (.inr ⟨b2, _, rfl, n2.1, n2.2, e2, fun x hx => ?_, by rw [List.length_append, List.length_map, List.length_singleton]; omega, fun ns hns => ?_⟩)⟩
    · rcases List.mem_append.mp hx with hx | hx
      · obtain ⟨z, hz, rfl⟩ := List.mem_map.mp hx
        exact it_nm (List.all_eq_true.mp hga z hz)
      · rw [List.mem_singleton] at hx
        rw [hx]; exact it_nm hg0
    · have e := hns.1
      have e' : (gs ++ [g0]).map V.str = ns.map V.str := by rw [← e, List.map_append]; rfl
      have e'' : gs ++ [g0] = ns := List.map_inj_right (fun a b q => V.str.inj q) |>.mp e'
      have hnd := hns.2.2
      rw [← e''] at hnd
      have := (List.nodup_append.mp hnd).2.2 g0 (by rw [egs]; exact List.mem_cons_self) g0 (List.mem_singleton.mpr rfl)
      exact this rfl
  | 1, _ =>
    refine ⟨_, rfl, .inr (.inr ⟨b3, _, rfl, n3.1, n3.2, e3, fun x hx => ?_, by decide, fun ns hns => ?_⟩)⟩
    · rw [List.mem_singleton] at hx
      exact .inr (.inl ⟨1, hx⟩)
    · have e := hns.1
      cases ns with
      | nil => cases e
      | cons z r => cases e
  | 2, _ =>
    refine ⟨_, rfl, .inr (.inl ⟨_, rfl, by decide +kernel, ?_, ?_, fun ns hns => ?_⟩)⟩
    · rw [aba]; intro y hy
      have : y.length ≤ 16 := by
        have h : ∀ y ∈ (["a", "b", "a"] : List Str), y.length ≤ 16 := by decide +kernel
        exact h y hy
      exact Nat.lt_of_le_of_lt this (by decide)
    · rw [aba]; decide
    · rw [aba] at hns
      have e := List.map_inj_right (fun a b q => V.str.inj q) |>.mp hns.1
      have hnd := hns.2.2
      rw [← e] at hnd
      exact absurd hnd (by decide +kernel)
  | 3, _ =>
    refine ⟨_, rfl, .inr (.inl ⟨_, rfl, by decide +kernel, ?_, ?_, fun ns hns => ?_⟩)⟩
    · rw [intw]; intro y hy
      rw [List.mem_singleton] at hy
      rw [hy]; decide +kernel
    · rw [intw]; decide
    · rw [intw] at hns
      have e := List.map_inj_right (fun a b q => V.str.inj q) |>.mp hns.1
      have ha := hns.2.1
      rw [← e] at ha
      exact absurd ha (by decide +kernel)
  | 4, _ => exact ⟨_, rfl, .inl (.inl rfl)⟩
  | 5, _ => exact ⟨_, rfl, .inl (.inr ⟨7, rfl⟩)⟩
  | 6, _ =>
    refine ⟨_, rfl, .inr (.inr ⟨b4, _, rfl, n4.1, n4.2, e4, fun x hx => ?_, by decide, fun ns hns => ?_⟩)⟩
    · rcases List.mem_cons.mp hx with e | hx
      · rw [e]; exact it_short (by decide +kernel)
      · rw [List.mem_singleton] at hx
        rw [hx]; exact it_short (by decide +kernel)
    · have e := List.map_inj_right (l := (["a", "9"] : List Str)) (fun a b q => V.str.inj q) |>.mp hns.1
      have ha := hns.2.1
      rw [← e] at ha
      exact absurd ha (by decide +kernel)
  | 7, _ =>
    refine ⟨_, rfl, .inr (.inr ⟨b5, _, rfl, n5.1, n5.2, e5, fun x hx => ?_, (by show 2 ≤ 400; decide), fun ns hns => ?_⟩)⟩
    · rcases List.mem_cons.mp hx with e | hx
      · rw [e]; exact it_nm hg0
      · rw [List.mem_singleton] at hx
        exact .inl hx
    · have e := hns.1
      cases ns with
      | nil => cases e
      | cons z r =>
        cases r with
        | nil => cases e
        | cons y r => cases e
theorem fine_ask {CB CM : Addr} {v : V} {gs : List Str} {deep : Nat} {H : Hp} {Q : VK} {E : XK} (hp : Plain gs.length deep) (hv : RowOf v H (gs.map V.str)) (ha : gs.all isNm = true) (hn : gs.Nodup) (hQ : NewS H (ownW gs deep) Q) : Ask CB CM v (deep : Int) H Q E := by
  have hg : Good (gs.map V.str) gs := ⟨rfl, ha, hn⟩
  refine ⟨.inr ⟨_, hv, fun x hx => ?_, by rw [List.length_map]; have := hp.s6; omega, fun h => absurd hg (h gs), fun ms hms => ?_⟩⟩
  · obtain ⟨z, hz, rfl⟩ := List.mem_map.mp hx
    exact it_nm (List.all_eq_true.mp ha z hz)
  · rw [good_inj hms hg, if_neg (by have := hp.s6; omega), if_neg (by have := hp.d12; omega)]
    exact ⟨deep, rfl, hp.s1, hp.ok, by rw [ownW_all, List.length_map]; exact hp.wl, hQ⟩
theorem six_ok : (sevens.take 6).all isNm = true := by decide +kernel
theorem six_nd : (sevens.take 6).Nodup := by decide +kernel
theorem sev_len : sevens.length = 7 := rfl
theorem cut6 : cutV (sevens.map V.str) none (some 6) = (sevens.take 6).map V.str := by
  have := cut_to (sevens.map V.str) 6 (by decide)
  rw [List.map_take]; exact this
def dDepth : PyData := .tuple [.str "depth", .int 12]
def dKnobs : PyData := .tuple [.str "knobs", .int 6]
def dBad : PyData := .tuple [.bool true, .int (-1)]
theorem sh_depth : SeqAt.shaped dDepth = true := by decide +kernel
theorem sh_knobs : SeqAt.shaped dKnobs = true := by decide +kernel
theorem sh_bad : SeqAt.shaped dBad = true := by decide +kernel
theorem eq_depth : PyData.eqv dDepth dDepth = true := by decide +kernel
theorem eq_knobs : PyData.eqv dKnobs dKnobs = true := by decide +kernel
theorem eq_bad : PyData.eqv dBad dBad = true := by decide +kernel
theorem dp_si {K : PySem.W.Frag} {H : Hp} {t : Addr} {y : Str} {k : Int} (e : H t = some (.tup [.str y, .int k])) : Dp K H (.ref t) (.tuple [.str y, .int k]) := .tup (SqT.of e) (.cons (.str y) (.cons (.int k) .nil))
theorem dp_bi {K : PySem.W.Frag} {H : Hp} {t : Addr} (e : H t = some (.tup [.bl true, .int (-1)])) : Dp K H (.ref t) dBad := .tup (SqT.of e) (.cons (.bl true) (.cons (.int (-1)) .nil))
end K8

set_option Elab.async false
set_option linter.all false
set_option maxRecDepth 100000
set_option maxHeartbeats 8000000
namespace K8
open PySem PyProof.Rows L2 GenW GN
theorem cutF_len : ∀ (n : Nat) (r : List Int), (cutF n r).length ≤ n
  | 0, r => Nat.le_refl _
  | n + 1, r => by
    unfold cutF
    split
    · rw [List.length_cons]; exact Nat.succ_le_succ (cutF_len n _)
    · exact Nat.le_succ_of_le (cutF_len n r)
def spLaw (K : PySem.W.Frag) : Sp := fun vs H Q _ => ∃ (a : Addr) (ns : List Int), vs = [.ref a] ∧ SqL K H a (ns.map V.int) ∧ ns.length ≤ 63 ∧ ∀ H', Q (.bl true) H'
theorem room65 {k : Nat} {A : Around} (r : Room k A) : A.units + 65 < cLine := by have := r.un; omega
abbrev nLaw : List Str := ["script", "box", "size", "most", "grips", "deep", "words_drawn", "turn", "bad", "far", "seven", "due", "told", "again", "row", "parts", "k", "name", "part"]
theorem scLaw : FnScope nLaw ["script"] (defScope sLaw) := ⟨rfl, rfl, rfl, by decide +kernel, rfl, by decide +kernel, by decide +kernel⟩
section
variable {P : Program} {w : World} {K : PySem.W.Frag} {mg : Str → Option Value} {base : Heap}
theorem ok_law {f fBx fD fNs fDu fTo fLi fCu fBo fO CB CM : Addr} {fd fdBx fdD fdNs fdDu fdTo fdLi fdCu fdBo fdO : FuncData} (F : Fun K "law" "law" sLaw f fd) (T : Txt mg) (Cs : Classes K mg CB CM)
    (FBx : Fn K mg "_law_box" sBox ["script"] fBx fdBx) (GBx : FnOk P w K mg base CX0 1 fBx fdBx ["script"] (spBox K))
    (FD : Fn K mg "_law_draw" sDraw ["box", "many"] fD fdD) (GD : FnOk P w K mg base CX0 1 fD fdD ["box", "many"] spDraw)
    (FNs : Fn K mg "_law_names" sNames ["box", "many", "others"] fNs fdNs) (GNs : FnOk P w K mg base CX0 3 fNs fdNs ["box", "many", "others"] spNames)
    (FDu : Fn K mg "_law_due" sDue ["size", "deep"] fDu fdDu) (GDu : FnOk P w K mg base CX0 2 fDu fdDu ["size", "deep"] spDue)
    (FTo : Fn K mg "_law_told" sTold ["found", "grips"] fTo fdTo) (GTo : FnOk P w K mg base CX0 2 fTo fdTo ["found", "grips"] spTold)
    (FLi : Fn K mg "_law_listed" sListed ["box", "items"] fLi fdLi) (GLi : FnOk P w K mg base CX0 2 fLi fdLi ["box", "items"] spListed)
    (FCu : Fn K mg "_law_cut" sCut ["row"] fCu fdCu) (GCu : FnOk P w K mg base CX0 2 fCu fdCu ["row"] spCut)
    (FBo : Fn K mg "_law_bound_of" sBound ["items", "deep"] fBo fdBo) (GBo : FnOk P w K mg base CX0 9 fBo fdBo ["items", "deep"] (spBound CB CM))
    (FO : Fn K mg "own_words" sOwn ["knobs", "depth"] fO fdO) (GO : GFn2 P w K mg base 5 fO fdO ["knobs", "depth"] (spOwn CB CM))
    (bK : ∀ (s : Shared) (ws : List Value), K.In s.heap → ws.length = 2 → BindsTo s fdO ⟨[], (["depth", "knobs"] : List Str).zip ws⟩ ((["knobs", "depth"] : List Str).zip ws.reverse)) :
    FnOk P w K mg base CX0 10 f fd ["script"] (spLaw K) := by
  refine F.ok scLaw (fun vs H Q E h => ?_) (fun cdv A outer s H vs Q E hr h => ?_)
  · obtain ⟨_, _, rfl, _⟩ := h
    rfl
  · obtain ⟨sc, ns, rfl, hS, hlen, q⟩ := h
    have hr1 : Room 1 _ := hr.mono (by decide)
    have hr2 : Room 2 _ := hr.mono (by decide)
    have hr3 : Room 3 _ := hr.mono (by decide)
    have hr5 : Room 5 _ := hr.mono (by decide)
    have hr8 : Room 8 _ := hr.mono (by decide)
    refine ⟨_, pss_cons (ps_set (i := 1) scLaw.nd rfl (Or.inr rfl) (pe_call GBx hr1 rfl FBx.g FBx.F.kp FBx.b .nil pass0 (pa_cons (pv 0) pa_nil)))
      (pss_cons (ps_asg (pe_ix ix_list (pe_lst (pa_pc 2 8 (pa_pc 2 7 (pa_pc 3 5 (pa_pc 3 4 (pa_pc 1 12 (pa_pc 4 3 (pa_pc 5 2 (pa_pc 6 2 (pa_pc 2 4 pa_p0)))))))))) (pe_call GD hr1 rfl FD.g FD.F.kp FD.b .nil pass0 (pa_cons (pv 1) (pa_cons pe_int pa_nil))) (fun _ _ => rfl))
          (pg_unl (n := 2) rfl (pgs_cons (pg_name (i := 2) scLaw.nd rfl (Or.inr rfl)) (pgs_cons (pg_name (i := 3) scLaw.nd rfl (Or.inl rfl)) pgs_nil))))
      (pss_cons (ps_set (i := 4) scLaw.nd rfl (Or.inl rfl) (pe_call GNs hr3 rfl FNs.g FNs.F.kp FNs.b .nil pass0 (pa_cons (pv 1) (pa_cons (pv 2) (pa_cons (pe_lst pa_nil) pa_nil)))))
      (pss_cons (ps_set (i := 5) scLaw.nd rfl (Or.inl rfl) (pe_op op_sub (pv 3) (pe_ix ix_list (pe_lst (pa_cons pe_int (pa_cons pe_int (pa_cons pe_int (pa_cons pe_int (pa_cons pe_int pa_nil)))))) (pe_call GD hr1 rfl FD.g FD.F.kp FD.b .nil pass0 (pa_cons (pv 1) (pa_cons pe_int pa_nil))) (fun _ _ => rfl))))
      (pss_cons (ps_set (i := 5) scLaw.nd rfl (Or.inl rfl) (pe_callB (call_max2 rfl) (by rfl) T.max bt_max (pa_cons pe_int (pa_cons (pv 5) pa_nil))))
      (pss_cons (ps_set (i := 6) scLaw.nd rfl (Or.inl rfl) (pe_lst pa_nil))
      (pss_cons (ps_for PassesOwn.never rfl (pi_range1 rfl T.range (pa_cons pe_int pa_nil)) (pg_name (i := 7) scLaw.nd rfl (Or.inl rfl))
        (pss_one (ps_expr (pe_bm PySem.F.plainAttrs_list PySem.F.slot_list_append PySem.F.type_list_append mt_append (pv 6) (pa_cons (pe_callTy call_tuple_of (by rfl) T.tuple bt_tuple (pa_cons
          (pe_lc (own := [("k", 16)]) (g := gName 16) (tt := tYes) (by rfl) scLaw.nd (pi_range1 rfl T.range (pa_cons (pe_call GD hr1 rfl FD.g FD.F.kp FD.b .nil pass0 (pa_cons (pv 1) (pa_cons (pe_op op_add (pv 5) pe_int) pa_nil))) pa_nil)) (blkOk_by (own := [("k", 16)]) (N := nLaw) (sc := defScope sLaw) (by decide +kernel))
            (fun _ _ _ _ _ => pg_name (i := 16) scLaw.nd rfl (Or.inl rfl)) (fun _ _ _ _ _ => pts_nil) (fun _ _ _ _ _ => pe_call GD hr1 rfl FD.g FD.F.kp FD.b .nil pass0 (pa_cons (pv 1) (pa_cons (pv 2) pa_nil)))) pa_nil)) pa_nil)))))
      (pss_cons (ps_set (i := 8) scLaw.nd rfl (Or.inl rfl) (pe_ix ix_list (pe_lst (pa_cons (pe_op op_cat (pv 4) (pe_lst (pa_cons (pe_ix ix_list (pv 4) pe_int (fun _ _ => rfl)) pa_nil))) (pa_cons (pe_lst (pa_cons pe_int pa_nil)) (pa_cons pe_str (pa_cons pe_str (pa_cons pe_non (pa_cons pe_int
          (pa_cons (pe_lst (pa_cons pe_str (pa_cons pe_str pa_nil))) (pa_cons (pe_lst (pa_cons (pe_ix ix_list (pv 4) pe_int (fun _ _ => rfl)) (pa_cons pe_non pa_nil))) pa_nil))))))))) (pe_call GD hr1 rfl FD.g FD.F.kp FD.b .nil pass0 (pa_cons (pv 1) (pa_cons pe_int pa_nil))) (fun _ _ => rfl)))
      (pss_cons (ps_set (i := 9) scLaw.nd rfl (Or.inl rfl) (pe_op op_add pe_int (pe_call GD hr1 rfl FD.g FD.F.kp FD.b .nil pass0 (pa_cons (pv 1) (pa_cons pe_int pa_nil)))))
      (pss_cons (ps_setLc (i := 10) (own := [("name", 17)]) (g := gName 17) (tt := tYes) (by rfl) scLaw.nd rfl rfl (sw_true rfl rfl rfl (by decide +kernel)) (pi_list (pe_lst (pa_cons pe_str (pa_cons pe_str (pa_cons pe_str (pa_cons pe_str (pa_cons pe_str (pa_cons pe_str (pa_cons pe_str pa_nil)))))))))
          (blkOk_by (own := [("name", 17)]) (N := nLaw) (sc := defScope sLaw) (by decide +kernel)) (fun _ _ _ _ _ => pg_name (i := 17) scLaw.nd rfl (Or.inl rfl)) (fun _ _ _ _ _ => pts_nil) (fun _ _ _ _ _ => pe_op op_add_str (pv 17) pe_str))
      (pss_cons (ps_set (i := 11) scLaw.nd rfl (Or.inl rfl) (pe_call GDu hr2 rfl FDu.g FDu.F.kp FDu.b .nil pass0 (pa_cons (pv 2) (pa_cons (pv 5) pa_nil))))
      (pss_cons (ps_set (i := 12) scLaw.nd rfl (Or.inr rfl) (pe_call GTo hr2 rfl FTo.g FTo.F.kp FTo.b .nil pass0 (pa_cons (pe_list2 (E := fun _ _ _ _ => False) rfl (pgen2_call GO hr5 rfl FO.g FO.F.kp FO.b (pa_cons (pe_call GLi hr2 rfl FLi.g FLi.F.kp FLi.b .nil pass0 (pa_cons (pv 1) (pa_cons (pv 4) pa_nil))) (pa_cons (pv 5) pa_nil)))
          (fun σ pins H s e s' => passL pins σ H s e s') (fun _ _ _ _ z => z.elim) hr8 rfl T.list bt_list) (pa_cons (pv 4) pa_nil))))
      (pss_cons (ps_set (i := 13) scLaw.nd rfl (Or.inl rfl) (pe_call GLi hr2 rfl FLi.g FLi.F.kp FLi.b .nil pass0 (pa_cons (pv 1) (pa_cons (pv 4) pa_nil))))
      (pss_cons (ps_if (PW.pt (pw_or (pt_cmpR (op_neD hr.units) (pv 12) (pv 11) (nomark _)) (pw_or1 (pt_cmpR (op_neD hr.units) (pe_call GTo hr2 rfl FTo.g FTo.F.kp FTo.b .nil pass0 (pa_cons (pe_list2 (E := fun _ _ _ _ => False) rfl (pgen2_callK (ks := ["depth", "knobs"]) GO hr5 rfl FO.g FO.F.kp bK (pk_cons (pv 5) (pk_cons (pv 13) pk_nil)))
          (fun σ pins H s e s' => passL pins σ H s e s') (fun _ _ _ _ z => z.elim) hr8 rfl T.list bt_list) (pa_cons (pv 4) pa_nil))) (pv 11) (nomark _))))) (pss_one (ps_ret pe_bl)) pss_nil)
      (pss_cons (ps_for PassesOwn.never rfl (pi_list (pv 6)) (pg_name (i := 14) scLaw.nd rfl (Or.inl rfl))
        (pss_cons (ps_set (i := 15) scLaw.nd rfl (Or.inr rfl) (pe_call GCu hr2 rfl FCu.g FCu.F.kp FCu.b .nil pass0 (pa_cons (pv 14) pa_nil)))
        (pss_cons (ps_if (pt_not (pt_val (pe_callB (cr_all rfl) (by rfl) T.all bt_all (pa_cons (pe_lc (own := [("part", 18)]) (g := gName 18) (tt := tYes) (by rfl) scLaw.nd (pi_list (pv 15)) (blkOk_by (own := [("part", 18)]) (N := nLaw) (sc := defScope sLaw) (by decide +kernel)) (fun _ _ _ _ _ => pg_name (i := 18) scLaw.nd rfl (Or.inl rfl)) (fun _ _ _ _ _ => pts_nil)
            (fun _ _ _ _ _ => pe_cmpR (r := rInD K) (op_inD (room65 hr)) (pv 18) (pv 12) (by with_unfolding_all rfl))) pa_nil)))) (pss_one (ps_ret pe_bl)) pss_nil)
        (pss_one (ps_if (pt_not (pt_val (pe_callB (cr_all rfl) (by rfl) T.all bt_all (pa_cons (pe_lc (own := [("k", 16)]) (g := gName 16) (tt := tYes) (by rfl) scLaw.nd (pi_range1 rfl T.range (pa_cons (pe_op op_sub (pe_callB call_len_seq (by rfl) T.len bt_len (pa_cons (pv 15) pa_nil)) pe_int) pa_nil)) (blkOk_by (own := [("k", 16)]) (N := nLaw) (sc := defScope sLaw) (by decide +kernel)) (fun _ _ _ _ _ => pg_name (i := 16) scLaw.nd rfl (Or.inl rfl)) (fun _ _ _ _ _ => pts_nil)
            (fun _ _ _ _ _ => pe_cmpR (r := rGeT K) (op_geT hr.units0) (pe_ix (r := rIxL K) ix_list (pv 15) (pv 16) (fun _ _ => rfl)) (pe_ix (r := rIxL K) ix_list (pv 15) (pe_op op_add (pv 16) pe_int) (fun _ _ => rfl)) (nomark _))) pa_nil)))) (pss_one (ps_ret pe_bl)) pss_nil)))))
      (pss_cons (ps_if (PW.pt (pw_or (pt_cmpR (op_neD hr.units) (pe_call GBo hr rfl FBo.g FBo.F.kp FBo.b .nil pass0 (pa_cons (pe_callTy call_list_of (by rfl) T.list bt_list (pa_cons (pv 4) pa_nil)) (pa_cons (pv 9) pa_nil))) (pe_tup (pa_cons pe_str (pa_cons pe_int pa_nil))) (nomark _))
          (pw_or1 (pt_cmpR (op_neD hr.units) (pe_call GBo hr rfl FBo.g FBo.F.kp FBo.b .nil pass0 (pa_cons (pv 10) (pa_cons (pv 9) pa_nil))) (pe_tup (pa_cons pe_str (pa_cons pe_int pa_nil))) (nomark _))))) (pss_one (ps_ret pe_bl)) pss_nil)
      (pss_cons (ps_if (PW.pt (pw_or (pt_cmpR (op_neD hr.units) (pe_call GBo hr rfl FBo.g FBo.F.kp FBo.b .nil pass0 (pa_cons (pv 8) (pa_cons (pv 9) pa_nil))) (pe_tup (pa_cons pe_bl (pa_cons (pe_un un_neg pe_int) pa_nil))) (nomark _))
          (pw_or1 (pt_cmpR (op_neD hr.units) (pe_call GBo hr rfl FBo.g FBo.F.kp FBo.b .nil pass0 (pa_cons (pv 8) (pa_cons pe_int pa_nil))) (pe_tup (pa_cons pe_bl (pa_cons (pe_un un_neg pe_int) pa_nil))) (nomark _))))) (pss_one (ps_ret pe_bl)) pss_nil)
      (pss_one (ps_ret (pe_cmpR (op_eqD hr.units) (pe_call GBo hr rfl FBo.g FBo.F.kp FBo.b .nil pass0 (pa_cons (pe_slice sl_list (pv 10) po_none (po_some pe_int)) (pa_cons pe_int pa_nil)))
          (pe_lc (own := [("name", 17)]) (g := gName 17) (tt := tYes) (by rfl) scLaw.nd (pi_list (pe_slice sl_list (pv 10) po_none (po_some pe_int))) (blkOk_by (own := [("name", 17)]) (N := nLaw) (sc := defScope sLaw) (by decide +kernel)) (fun _ _ _ _ _ => pg_name (i := 17) scLaw.nd rfl (Or.inl rfl)) (fun _ _ _ _ _ => pts_nil) (fun _ _ _ _ _ => pe_tup (pa_cons (pv 17) pa_nil))) (nomark _)))))))))))))))))))), ?_⟩
    -- box
    refine ⟨_, rfl, sc, ns, rfl, hS, hlen, fun H1 bx gr s1 nbx ngr hB1 => ?_⟩
    -- size, most
    refine pairs_read (bx := bx) (gr := gr) _ hB1 fun H2 vps s2 lps L2' => ⟨(by rw [lps]; decide), fun lo hlo => ?_⟩
    have s3 := same_new (o := .lst vps) hlo
    have hB2 := hB1.on s2
    have nlo := hB2.new hlo
    refine ⟨_, rfl, bx, gr, 9, rfl, hB2.on s3, by decide, by decide, fun H3 d1 sb3 hB3 hd1 => ?_⟩
    obtain ⟨pa, pr, ep1, ep2, npa1, npa2, hpa⟩ := L2'.get (i := d1) hd1
    obtain ⟨ps1, ps6, psd⟩ := pairs_ok pr (List.mem_of_getElem? ep2)
    obtain ⟨size, most⟩ := pr
    have ps1 : 1 ≤ size := ps1
    have ps6 : size ≤ 6 := ps6
    have psd : most ≤ maxD size := psd
    refine ⟨lo, vps, d1, _, rfl, rfl, SqL.of (sb3 _ _ nlo.1 nlo.2 upd_same), atI_nat ep1, pa, _, rfl, SqL.of (sb3 _ _ npa1 npa2 (s3 _ _ hpa)), rfl, _, _, rfl, _, _, rfl, rfl, ?_⟩
    -- grips
    refine ⟨_, rfl, _, rfl, Nat.zero_le _, fun ol hol => ?_⟩
    have s4 := same_new (o := .lst []) hol
    have nol := hB3.new hol
    refine ⟨bx, gr, ol, size, rfl, hB3.on s4, upd_same, nol.1, nol.2, ps6, fun H4 gp gs sb4 hB4 ngp egp hgl hga hgn => ?_⟩
    have hgp : gp ≠ bx ∧ gp ≠ gr := (hB3.on s4).new ngp
    -- deep
    refine ⟨_, rfl, (by show 5 ≤ sizeLine; decide), fun kl hkl => ?_⟩
    have s5 := same_new (o := .lst [.int 0, .int 1, .int 0, .int 2, .int 12]) hkl
    have nkl := hB4.new hkl
    refine ⟨_, rfl, bx, gr, 5, rfl, hB4.on s5, by decide, by decide, fun H5 d2 sb5 hB5 hd2 => ?_⟩
    obtain ⟨mi, hmi, hat⟩ := minus_at hd2
    refine ⟨kl, _, d2, _, rfl, rfl, SqL.of (sb5 _ _ nkl.1 nkl.2 upd_same), atI_nat hat, _, _, rfl, rfl, ?_⟩
    have egp5 : H5 gp = some (.lst (gs.map V.str)) := sb5 _ _ hgp.1 hgp.2 (s5 _ _ egp)
    obtain ⟨deep, edeep⟩ : ∃ deep, deep = most - mi := ⟨_, rfl⟩
    have hpl : Plain size deep := plain_of ps1 ps6 (by omega)
    refine ⟨_, rfl, 0, (most : Int) - (mi : Int), rfl, ?_⟩
    have emax : (if (most : Int) - (mi : Int) > 0 then (most : Int) - (mi : Int) else 0) = (deep : Int) := by
      rw [edeep]; split <;> omega
    rw [emax]
    -- words_drawn
    refine ⟨Nat.zero_le _, fun wd hwd => ?_⟩
    have nwd := hB5.new hwd
    have s6 := same_new (o := .lst []) hwd
    refine ⟨8, rfl, by decide, by decide, for_range (n := 8) (fun i σ' H' => ∃ (u : Option V) (wv : List V) (W : List (List Int)), σ' = [some (.ref sc), some (.ref bx), some (.int size), some (.int most), some (.ref gp), some (.int deep), some (.ref wd), u, none, none, none, none, none, none, none, none, none, none, none] ∧ SB bx gr H5 H' ∧ Bx bx gr H' ∧ H' wd = some (.lst wv) ∧ TupL H' wv W ∧ (∀ r ∈ W, inR size r ∧ r.length ≤ deep) ∧ W.length = i)
      ⟨none, [], [], rfl, SB.of s6, hB5.on s6, upd_same, .nil, (fun r hr => by cases hr), rfl⟩ ?_ ?_⟩
    · rintro i σ' H6 hi ⟨u, wv, W, rfl, sb6, hB6, ew, hW, hWr, hWl⟩
      refine ⟨_, rfl, .inl ⟨rfl, _, SqL.of ew⟩, _, rfl, _, rfl, _, _, rfl, rfl, bx, gr, deep + 1, rfl, hB6, Nat.succ_pos _, by have := hpl.d12; omega, fun H7 d7 sb7 hB7 hd7 => ⟨(d7 : Int), rfl, by omega, ?_, fun D hD => ?_⟩⟩
      · have := hpl.d12
        omega
      have nD := hB7.new hD
      have s7 := same_new (o := .lst []) hD
      have hn7 : ((d7 : Int)).toNat = d7 := Int.toNat_natCast d7
      rw [hn7]
      refine lc_range (lo := 0) (n := d7) (fun j H' => SB bx gr H7 H' ∧ Bx bx gr H' ∧ ∃ acc : List Int, H' D = some (.lst (acc.map V.int)) ∧ acc.length = j ∧ inR size acc) ⟨SB.of s7, hB7.on s7, [], upd_same, rfl, fun c hc => by cases hc⟩ ?_ ?_
      · rintro j H8 hj ⟨sb8, hB8, acc, eacc, hacc, hin⟩
        refine ⟨rfl, _, rfl, _, rfl, bx, gr, size, rfl, hB8, hpl.s1, by have := hpl.s6; omega, fun H9 e9 sb9 hB9 he9 => ?_⟩
        have eD9 := sb9 _ _ nD.1 nD.2 eacc
        refine ⟨_, eD9, by rw [List.length_map]; exact Nat.lt_of_le_of_lt (show acc.length ≤ 100 by have := hpl.d12; omega) (by decide), fun b o m1 m2 e => ?_, ?_, acc ++ [(e9 : Int)], by rw [upd_same, List.map_append]; rfl, by rw [List.length_append, List.length_singleton, hacc], fun c hc => ?_⟩
        · rw [upd_ne (ne_of_none e hD)]; exact sb9 b o m1 m2 (sb8 b o m1 m2 e)
        · obtain ⟨ne, g1, g2, g3, h1, h2, h3⟩ := hB9
          exact ⟨ne, g1, g2, g3, by rw [upd_ne nD.1.symm]; exact h1, by rw [upd_ne nD.2.symm]; exact h2, h3⟩
        · rcases List.mem_append.mp hc with hc | hc
          · exact hin c hc
          · rw [List.mem_singleton] at hc
            rw [hc]; exact ⟨by omega, by omega⟩
      · rintro H8 ⟨sb8, hB8, acc, eacc, hacc, hin⟩
        have ew8 : H8 wd = some (.lst wv) := sb8 _ _ nwd.1 nwd.2 (sb7 _ _ nwd.1 nwd.2 ew)
        refine ⟨D, _, rfl, .inl ⟨SqL.of eacc, fun t ht => ?_⟩⟩
        have st := same_new (o := .tup (acc.map V.int)) ht
        have nwt : wd ≠ t := ne_of_none ew8 ht
        have hwl := hW.length
        refine ⟨wd, wv, _, rfl, rfl, st _ _ ew8, Nat.lt_of_le_of_lt (show wv.length ≤ 100 by omega) (by decide), _, wv ++ [.ref t], W ++ [acc], rfl, fun b o m1 m2 e => ?_, ?_, upd_same, ?_, fun r hr => ?_, by rw [List.length_append, List.length_singleton, hWl]⟩
        · rw [upd_ne (ne_of_none e hwd)]
          exact st _ _ (sb8 b o m1 m2 (sb7 b o m1 m2 (sb6 b o m1 m2 e)))
        · obtain ⟨ne, g1, g2, g3, h1, h2, h3⟩ := hB8.on st
          exact ⟨ne, g1, g2, g3, by rw [upd_ne nwd.1.symm]; exact h1, by rw [upd_ne nwd.2.symm]; exact h2, h3⟩
        · have hput : ∀ t0 xs, (upd H8 t (.tup (acc.map V.int))) t0 = some (.tup xs) → (upd (upd H8 t (.tup (acc.map V.int))) wd (.lst (wv ++ [.ref t]))) t0 = some (.tup xs) := fun t0 xs e => by
            rw [upd_ne (ne_of e (st _ _ ew8) (by intro z; cases z))]; exact e
          exact ((((hW.on (tup_SB hB6 sb7)).on (tup_SB hB7 sb8)).on (tup_same st)).on hput).snoc (hput _ _ upd_same)
        · rcases List.mem_append.mp hr with hr | hr
          · exact hWr r hr
          · rw [List.mem_singleton] at hr
            rw [hr]; exact ⟨hin, by omega⟩
    rintro σ' H6 ⟨u7, wv, W, rfl, sb6, hB6, ew, hW, hWr, hWl⟩
    have egp6 := sb6 _ _ hgp.1 hgp.2 egp5
    -- bad
    have hgs : gs ≠ [] := fun z => by rw [z] at hgl; rw [← hgl] at ps1; exact absurd ps1 (by decide)
    obtain ⟨g0, gr0, egs⟩ : ∃ g0 gr0, gs = g0 :: gr0 := by
      cases gs with
      | nil => exact absurd rfl hgs
      | cons a b => exact ⟨a, b, rfl⟩
    have hat0 : atI (gs.map V.str) 0 = some (.str g0) := by rw [egs]; exact atI_nat (j := 0) rfl
    refine ⟨_, rfl, _, rfl, gp, _, 0, _, rfl, rfl, SqL.of egp6, hat0, (by show 1 ≤ sizeLine; decide), fun b1 hb1 => ?_⟩
    have t1 := same_new (o := .lst [.str g0]) hb1
    refine ⟨gp, b1, _, _, rfl, rfl, t1 _ _ egp6, upd_same, Nat.le_trans (show (gs.map V.str).length + 1 ≤ 100 by rw [List.length_map]; omega) (by decide), fun b2 hb2 => ?_⟩
    have t2 := same_upd (o := .lst (gs.map V.str ++ [.str g0])) (t1.free hb2) t1
    refine ⟨(by show 1 ≤ sizeLine; decide), fun b3 hb3 => ?_⟩
    have t3' := same_new (o := .lst [.int 1]) hb3
    have t3 := t2.trans t3'
    refine ⟨(by show 2 ≤ sizeLine; decide), fun b4 hb4 => ?_⟩
    have t4' := same_new (o := .lst [.str "a", .str "9"]) hb4
    have t4 := t3.trans t4'
    refine ⟨_, rfl, gp, _, 0, _, rfl, rfl, SqL.of (t4 _ _ egp6), hat0, (by show 2 ≤ sizeLine; decide), fun b5 hb5 => ?_⟩
    have t5' := same_new (o := .lst [.str g0, .non]) hb5
    have t5 := t4.trans t5'
    refine ⟨(by show 8 ≤ sizeLine; decide), fun bo hbo => ?_⟩
    have t6' := same_new (o := .lst [.ref b2, .ref b3, .str "a b a", .str "int", .non, .int 7, .ref b4, .ref b5]) hbo
    have t6 := t5.trans t6'
    have nb2 := (hB6.on t1).new hb2
    have nb3 := (hB6.on t2).new hb3
    have nb4 := (hB6.on t3).new hb4
    have nb5 := (hB6.on t4).new hb5
    have nbo := (hB6.on t5).new hbo
    refine ⟨_, rfl, bx, gr, 8, rfl, hB6.on t6, by decide, by decide, fun H7 d8 sb7 hB7 hd8 => ?_⟩
    have bads : ∃ bv, ([.ref b2, .ref b3, .str "a b a", .str "int", .non, .int 7, .ref b4, .ref b5] : List V)[d8]? = some bv ∧ BadV bx gr bv H7 := by
      have e2 : H7 b2 = some (.lst (gs.map V.str ++ [.str g0])) := sb7 _ _ nb2.1 nb2.2 (t6' _ _ (t5' _ _ (t4' _ _ (t3' _ _ upd_same))))
      have e3 : H7 b3 = some (.lst [.int 1]) := sb7 _ _ nb3.1 nb3.2 (t6' _ _ (t5' _ _ (t4' _ _ upd_same)))
      have e4 : H7 b4 = some (.lst [.str "a", .str "9"]) := sb7 _ _ nb4.1 nb4.2 (t6' _ _ (t5' _ _ upd_same))
      have e5 : H7 b5 = some (.lst [.str g0, .non]) := sb7 _ _ nb5.1 nb5.2 (t6' _ _ upd_same)
      have hg0 : isNm g0 = true := List.all_eq_true.mp hga g0 (by rw [egs]; exact List.mem_cons_self)
      have it : ∀ z : Str, isNm z = true → Item (.str z) := fun z hz => .inr (.inr ⟨z, rfl, Nat.lt_of_le_of_lt (len_le_of_names hz).2 (by decide)⟩)
      exact bad_at hd8 nb2 nb3 nb4 nb5 e2 e3 e4 e5 hga hg0 egs (by omega)
    obtain ⟨bv, ebv, hbv⟩ := bads
    refine ⟨bo, _, d8, bv, rfl, rfl, SqL.of (sb7 _ _ nbo.1 nbo.2 upd_same), atI_nat ebv, ?_⟩
    have sb67 : SB bx gr H6 H7 := (SB.of t6).trans sb7
    -- far
    refine ⟨_, rfl, bx, gr, 30, rfl, hB7, by decide, by decide, fun H8 d9 sb8 hB8 hd9 => ⟨_, _, rfl, rfl, ?_⟩⟩
    have sb68 := sb67.trans sb8
    have hbv8 := hbv.sb sb8
    -- seven
    refine ⟨(by show 7 ≤ sizeLine; decide), fun nl hnl => ?_⟩
    have s8 := same_new (o := .lst [.str "a", .str "b", .str "c", .str "e", .str "f", .str "g", .str "h"]) hnl
    refine ⟨nl, rfl, ⟨_, SqL.of upd_same⟩, fun sv hsv => ?_⟩
    refine lcL (xs := (["a", "b", "c", "e", "f", "g", "h"] : List Str).map V.str) (fun i acc _ => acc = (((["a", "b", "c", "e", "f", "g", "h"] : List Str).take i).map fun z => z ++ ("_7" : Str)).map V.str) hsv (SqL.of upd_same) rfl ?_ ?_
    · intro i x H9 acc hx hlt sm hacc hle r
      obtain ⟨z, hz, rfl⟩ := map_at hx
      have hlz : z.length ≤ 10 := by
        have hm := List.mem_of_getElem? hz
        have : ∀ y ∈ (["a", "b", "c", "e", "f", "g", "h"] : List Str), y.length ≤ 10 := by decide +kernel
        exact this z hm
      refine ⟨rfl, _, rfl, z, "_7", rfl, rfl, sl16 (by show z.length + 2 ≤ 16; omega), CI.put hsv sm hacc hle (Nat.lt_of_lt_of_le hlt (by decide)) ?_⟩
      rw [take1 hz, List.map_append, List.map_append, r]; rfl
    intro H9 acc sm9 hacc hle r
    have eacc : acc = sevens.map V.str := by rw [r]; decide +kernel
    rw [eacc] at hacc
    have sb9 : SB bx gr H8 H9 := (SB.of s8).trans (SB.of sm9)
    have hB9 := (hB8.on s8).on sm9
    have nsv : sv ≠ bx ∧ sv ≠ gr := (hB8.on s8).new hsv
    have hbv9 := hbv8.sb sb9
    have sb69 := sb68.trans sb9
    have ew9 : H9 wd = some (.lst wv) := sb69 _ _ nwd.1 nwd.2 ew
    have egp9 : H9 gp = some (.lst (gs.map V.str)) := sb69 _ _ hgp.1 hgp.2 egp6
    have hW9 : TupL H9 wv W := hW.on (tup_SB hB6 sb69)
    have egl : gs.length = size := hgl
    have hplg : Plain gs.length deep := by rw [egl]; exact hpl
    have hrows : ownW gs deep = (allW size deep).map (nm gs) := by rw [ownW_all, egl]
    have hwords : ∀ w ∈ allW size deep, inR gs.length w ∧ w.length ≤ 1000 := fun w hw => by rw [egl]; exact hpl.words w hw
    -- due
    refine ⟨_, rfl, _, rfl, size, deep, rfl, by omega, by have := hpl.d12; omega, hpl.rl, fun H10 du dws s10 ndu edu hDu => ?_⟩
    rw [hpl.due] at hDu
    have hB10 := hB9.on s10
    have ndu' := hB9.new ndu
    have egp10 := s10 _ _ egp9
    -- told
    refine ⟨_, rfl, _, rfl, bx, gr, gp, gs, rfl, hB10, egp10, hgp.1, hgp.2, hgs, hga, by omega, fun H11 v1 sb11 hB11 hrow1 => ?_⟩
    obtain ⟨W1, w1, w2, n0, I1, w3, w4⟩ := ask_read (good_ask (E := fun _ _ _ => False) (CB := CB) (CM := CM) hplg hrow1 hga hgn)
    refine ⟨_, rfl, W1, w1, w2, n0, I1, w3, fun p i n ys Ha Kp a b c => ?_⟩
    obtain ⟨x1, x2, x3⟩ := w4 p i n ys Ha Kp a b c
    refine ⟨x1, x2, fun Hb k1 k2 k3 => ?_⟩
    obtain ⟨p', fv, epp, s12, nfo, efo, hfo⟩ := x3 Hb k1 k2 k3
    cases epp
    have hB12 := hB11.on s12
    have egp12 := s12 _ _ (sb11 _ _ hgp.1 hgp.2 egp10)
    rw [hrows] at hfo
    refine ⟨_, rfl, p, gp, fv, gs, allW size deep, rfl, efo, hfo, egp12, hwords, hgn, by omega, hpl.wl, fun H13 td tws s13 ntd etd hTd => ?_⟩
    have hB13 := hB12.on s13
    have ntd' := hB12.new ntd
    have egp13 := s13 _ _ egp12
    -- again
    refine ⟨_, rfl, _, rfl, bx, gr, gp, gs, rfl, hB13, egp13, hgp.1, hgp.2, hgs, hga, by omega, fun H14 v2 sb14 hB14 hrow2 => ?_⟩
    have sbA : SB bx gr H10 H14 := (sb11.trans (SB.of (s12.trans s13))).trans sb14
    have edu14 := sbA _ _ ndu'.1 ndu'.2 edu
    have hDu14 := hDu.on (tup_SB hB10 sbA)
    have etd14 := sb14 _ _ ntd'.1 ntd'.2 etd
    have hTd14 := hTd.on (tup_SB hB13 sb14)
    have egp14 := sb14 _ _ hgp.1 hgp.2 egp13
    -- told != due or ..
    refine ⟨_, rfl, _, rfl, _, _, dp_rows etd14 hTd14, dp_rows edu14 hDu14, shapedI _, shapedI _, _, rfl, ?_⟩
    rw [eqvI]
    refine iteF ?_
    obtain ⟨W2, y1, y2, m0, I2, y3, y4⟩ := ask_read (good_ask (E := fun _ _ _ => False) (CB := CB) (CM := CM) hplg hrow2 hga hgn)
    refine ⟨_, rfl, _, rfl, W2, y1, y2, m0, I2, y3, fun p i n ys Ha Kp a b c => ?_⟩
    obtain ⟨x1, x2, x3⟩ := y4 p i n ys Ha Kp a b c
    refine ⟨x1, x2, fun Hb k1 k2 k3 => ?_⟩
    obtain ⟨p', fv2, epp, s15, nfo2, efo2, hfo2⟩ := x3 Hb k1 k2 k3
    cases epp
    rw [hrows] at hfo2
    refine ⟨_, rfl, p, gp, fv2, gs, allW size deep, rfl, efo2, hfo2, s15 _ _ egp14, hwords, hgn, by omega, hpl.wl, fun H16 te tws2 s16 nte ete hTe => ?_⟩
    have s146 := s15.trans s16
    refine ⟨_, rfl, _, _, dp_rows ete hTe, dp_rows (s146 _ _ edu14) (hDu14.on (tup_same s146)), shapedI _, shapedI _, _, rfl, ?_⟩
    rw [eqvI]
    refine iteF ?_
    -- the drawn words
    have sbB : SB bx gr H9 H16 := ((SB.of s10).trans sbA).trans (SB.of s146)
    have ew16 := sbB _ _ nwd.1 nwd.2 ew9
    have hW16 := hW9.on (tup_SB hB9 sbB)
    have egp16 := s146 _ _ egp14
    have etd16 := s146 _ _ etd14
    have hTd16 := hTd14.on (tup_same s146)
    have esv16 : H16 sv = some (.lst (sevens.map V.str)) := sbB _ _ nsv.1 nsv.2 hacc
    have hbv16 := hbv9.sb sbB
    refine ⟨_, rfl, wd, rfl, ⟨_, SqL.of ew16⟩, for_list (K := K) (a := wd) (xs := wv) (fun i σ' H' => ∃ u14 u15 : Option V, σ' = [some (.ref sc), some (.ref bx), some (.int size), some (.int most), some (.ref gp), some (.int deep), some (.ref wd), u7, some bv, some (.int (13 + (d9 : Int))), some (.ref sv), some (.ref du), some (.ref td), some v2, u14, u15, none, none, none] ∧ Same H16 H')
      ⟨none, none, rfl, Same.refl _⟩ (fun i σ' H' _ ⟨_, _, _, sm⟩ => SqL.of (sm _ _ ew16)) ?_ ?_⟩
    · rintro i x σ' H17 hx ⟨u14, u15, rfl, sm⟩
      obtain ⟨t, r, rfl, hr1, htr⟩ := hW16.get hx
      obtain ⟨hri, hrl⟩ := hWr r (List.mem_of_getElem? hr1)
      obtain ⟨hcm, hch⟩ := hpl.cut r hri hrl
      refine ⟨_, rfl, t, r, rfl, sm _ _ htr, by have := hpl.d12; omega, fun H18 pl pws s18 npl epl hPl => ?_⟩
      have hpwl := hPl.length
      have hcl : (cutB r).length ≤ 900 := Nat.le_trans (cutF_len _ _) (by have := hpl.d12; omega)
      refine ⟨_, rfl, pl, rfl, ⟨_, SqL.of epl⟩, fun D hD => ?_⟩
      refine lcL (xs := pws) (fun i acc _ => acc = (List.replicate i true).map V.bl) hD (SqL.of epl) rfl ?_ ?_
      · intro j y H19 acc hy hlt sm19 hacc19 hle e
        obtain ⟨t', r', rfl, hr2, htr'⟩ := hPl.get hy
        have hany : ((allW size deep).map fun r => PyData.tuple (r.map PyData.int)).any (fun z => PyData.eqv z (.tuple (r'.map PyData.int))) = true := by
          rw [List.any_map]
          exact List.any_eq_true.mpr ⟨r', hcm r' (List.mem_of_getElem? hr2), eqvR r'⟩
        have smA := (sm.trans s18).trans sm19
        refine ⟨rfl, _, rfl, _, rfl, _, _, .tup (SqT.of (sm19 _ _ htr')) (dpI _), dp_rows (smA _ _ etd16) (hTd16.on (tup_same smA)), shapedR _, shapedI _, ?_⟩
        rw [hany]
        refine CI.put hD sm19 hacc19 hle (Nat.lt_of_lt_of_le (show j < 901 by omega) (by decide)) ?_
        rw [e, List.replicate_succ', List.map_append]; rfl
      intro H19 acc sm19 hacc19 hle e
      rw [e] at hacc19
      have hall : (List.replicate pws.length true).all id = true := by simp
      refine ⟨D, _, rfl, SqL.of hacc19, _, rfl, ?_⟩
      rw [hall]
      refine iteF ?_
      have epl19 := sm19 _ _ epl
      refine ⟨_, rfl, pl, _, rfl, .inl (SqL.of epl19), _, _, rfl, rfl, _, rfl, by omega, by omega, fun D2 hD2 => ?_⟩
      have hn2 : ((pws.length : Int) - 1).toNat = pws.length - 1 := by omega
      rw [hn2]
      refine lcR (fun k acc _ => acc = ((List.range k).map fun k => geB ((cutB r).getD k []) ((cutB r).getD (k + 1) [])).map V.bl) hD2 rfl ?_ ?_
      · intro k H20 acc hk sm20 hacc20 hle e
        rw [Int.zero_add]
        have hk1 : k < pws.length := by omega
        have hk2 : k + 1 < pws.length := by omega
        have g1 : pws[k]? = some pws[k] := List.getElem?_eq_getElem hk1
        have g2 : pws[k + 1]? = some pws[k + 1] := List.getElem?_eq_getElem hk2
        obtain ⟨ta, ra, ea, era, hta⟩ := hPl.get g1
        obtain ⟨tb, rb, eb, erb, htb⟩ := hPl.get g2
        rw [ea] at g1
        rw [eb] at g2
        have sm2 := sm19.trans sm20
        have ga : (cutB r).getD k [] = ra := by rw [List.getD_eq_getElem?_getD, era]; rfl
        have gb : (cutB r).getD (k + 1) [] = rb := by rw [List.getD_eq_getElem?_getD, erb]; rfl
        refine ⟨rfl, _, rfl, _, rfl, pl, _, (k : Int), _, rfl, rfl, SqL.of (sm20 _ _ epl19), atI_nat g1, _, rfl, _, rfl, _, _, rfl, rfl, pl, _, ((k + 1 : Nat) : Int), _, rfl, rfl, SqL.of (sm20 _ _ epl19), atI_nat g2, ta, tb, ra, rb, rfl, rfl, SqT.of (sm2 _ _ hta), SqT.of (sm2 _ _ htb), CI.put hD2 sm20 hacc20 hle (Nat.lt_of_lt_of_le (show k < 901 by omega) (by decide)) ?_⟩
        rw [List.range_succ, List.map_append, List.map_append, e, ← ga, ← gb]; rfl
      · intro H20 acc sm20 hacc20 hle e
        rw [e] at hacc20
        refine ⟨D2, _, rfl, SqL.of hacc20, _, rfl, ?_⟩
        have hall2 : ((List.range (pws.length - 1)).map fun k => geB ((cutB r).getD k []) ((cutB r).getD (k + 1) [])).all id = true := by
          rw [hpwl, List.all_map]; exact hch
        rw [hall2]
        exact iteF ⟨_, _, rfl, ((sm.trans s18).trans sm19).trans sm20⟩
    rintro σ' H17 ⟨u14, u15, rfl, sm⟩
    have egp17 := sm _ _ egp16
    have esv17 := sm _ _ esv16
    have hbv17 := hbv16.sb (SB.of sm)
    -- depth, knobs
    refine ⟨_, rfl, gp, _, rfl, .inl (SqL.of egp17), fun l1 hl1 => ⟨_, rfl, .ref l1, 13 + (d9 : Int), rfl, ?_⟩⟩
    have z1 := same_new (o := .lst (gs.map V.str)) hl1
    refine many_ask (gs := gs) (.inr ⟨l1, rfl, .inl upd_same⟩) hga hgn (by omega) (many_E fun H18 t18 s18 nt18 et18 => ?_) (.inr ⟨by omega, by omega, rfl, rfl⟩)
    refine ⟨(by show 2 ≤ sizeLine; decide), fun t19 ht19 => ?_⟩
    have s19 := same_new (o := .tup [.str "depth", .int 12]) ht19
    refine ⟨dDepth, dDepth, dp_si (s19 _ _ et18), dp_si upd_same, sh_depth, sh_depth, _, rfl, ?_⟩
    rw [eq_depth]
    refine iteF ?_
    have smB := (z1.trans s18).trans s19
    refine ⟨_, rfl, _, rfl, .ref sv, 13 + (d9 : Int), rfl, ?_⟩
    refine many_ask (gs := sevens) (.inr ⟨sv, rfl, .inl (smB _ _ esv17)⟩) sev_ok sev_nd (by decide) (many_E fun H20 t20 s20 nt20 et20 => ?_) (.inl ⟨by decide, rfl, rfl⟩)
    refine ⟨(by show 2 ≤ sizeLine; decide), fun t21 ht21 => ?_⟩
    have s21 := same_new (o := .tup [.str "knobs", .int 6]) ht21
    refine ⟨dKnobs, dKnobs, dp_si (s21 _ _ et20), dp_si upd_same, sh_knobs, sh_knobs, _, rfl, ?_⟩
    rw [eq_knobs]
    refine iteF ?_
    have smC := (smB.trans s20).trans s21
    -- bad names
    refine ⟨_, rfl, _, rfl, bv, 13 + (d9 : Int), rfl, bad_ask (hbv17.sb (SB.of smC)) (bad_E fun H22 t22 s22 nt22 et22 => ?_)⟩
    refine ⟨1, rfl, (by show 2 ≤ sizeLine; decide), fun t23 ht23 => ?_⟩
    have s23 := same_new (o := .tup [.bl true, .int (-1)]) ht23
    refine ⟨dBad, dBad, dp_bi (s23 _ _ et22), dp_bi upd_same, sh_bad, sh_bad, _, rfl, ?_⟩
    rw [eq_bad]
    refine iteF ?_
    have smD := (smC.trans s22).trans s23
    refine ⟨_, rfl, bv, 1, rfl, bad_ask (hbv17.sb (SB.of smD)) (bad_E fun H24 t24 s24 nt24 et24 => ?_)⟩
    refine ⟨1, rfl, (by show 2 ≤ sizeLine; decide), fun t25 ht25 => ?_⟩
    have s25 := same_new (o := .tup [.bl true, .int (-1)]) ht25
    refine ⟨dBad, dBad, dp_bi (s25 _ _ et24), dp_bi upd_same, sh_bad, sh_bad, _, rfl, ?_⟩
    rw [eq_bad]
    refine iteF ?_
    have smE := (smD.trans s24).trans s25
    have esvE := smE _ _ esv17
    -- six knobs, depth one
    refine ⟨_, rfl, 6, rfl, sv, _, rfl, SqL.of esvE, fun l2 hl2 => ?_⟩
    rw [cut6]
    refine ⟨.ref l2, 1, rfl, fine_ask (deep := 1) six_plain (.inr ⟨l2, rfl, .inl upd_same⟩) six_ok six_nd fun H26 p26 fv26 s26 np26 ep26 hS26 => ?_⟩
    rw [sev_words] at hS26
    have s2 := same_new (o := .lst ((sevens.take 6).map V.str)) hl2
    refine ⟨_, rfl, 6, rfl, sv, _, rfl, SqL.of (s26 _ _ (s2 _ _ esvE)), fun l3 hl3 => ?_⟩
    rw [cut6]
    have s3 := same_new (o := .lst ((sevens.take 6).map V.str)) hl3
    refine ⟨l3, rfl, ⟨_, SqL.of upd_same⟩, fun D hD => ?_⟩
    refine lcL (xs := (sevens.take 6).map V.str) (fun i acc H' => StrL H' acc (((sevens.take 6).take i).map fun z => [z])) hD (SqL.of upd_same) .nil ?_ ?_
    · intro i x H27 acc hx hlt sm27 hacc27 hle hA
      obtain ⟨z, hz, rfl⟩ := map_at hx
      have hlt' : i < 7 := Nat.lt_of_lt_of_le hlt (by decide)
      refine ⟨rfl, _, rfl, (by show 1 ≤ sizeLine; decide), fun t ht => ?_⟩
      have st := same_new (o := .tup [.str z]) ht
      have nDt : t ≠ D := (ne_of_none hacc27 ht).symm
      refine CI.put hD (sm27.trans st) (st _ _ hacc27) hle (Nat.lt_of_lt_of_le hlt' (by decide)) ?_
      have hput : ∀ t0 xs, (upd H27 t (.tup [.str z])) t0 = some (.tup xs) → (upd (upd H27 t (.tup [.str z])) D (.lst (acc ++ [.ref t]))) t0 = some (.tup xs) := fun t0 xs e => by
        rw [upd_ne (ne_of e (st _ _ hacc27) (by intro q; cases q))]; exact e
      rw [take1 hz, List.map_append]
      exact ((hA.on (tup_same st)).on hput).snoc (hput _ _ upd_same)
    · intro H27 acc sm27 hacc27 hle hA
      rw [List.length_map, List.take_length] at hA
      have smF := s3.trans sm27
      refine ⟨pS _, pS _, dp_strs (smF _ _ ep26) (hS26.on (tup_same smF)), dp_strs hacc27 hA, sev_shaped, sev_shaped, ?_⟩
      rw [sev_eqv]
      exact q _
end
end K8

set_option Elab.async false
set_option linter.all false
set_option maxRecDepth 100000
set_option maxHeartbeats 8000000
namespace K8
open PySem PyProof.Rows L2 GenW GN
theorem exm_b {K : PySem.W.Frag} {c S : Addr} {b : Bool} (h1 : PySem.W.subIn K (.ref S) (.type "BaseException") = some true) (h2 : PySem.W.isClsIn K S = true) (h3 : PySem.W.typeIn K (.ref S) = some (.type "type")) (h4 : PySem.W.subIn K (.ref c) (.ref S) = some b) : PySem.W.exmOne K (.ref c) (.ref S) = some b := by
  have k1 : (PySem.W.subIn K (.ref S) (.type "BaseException") == some true) = true := by rw [h1]; rfl
  have k2 : ((PySem.W.clsIn K S).isSome && PySem.W.typeIn K (.ref S) == some (.type "type")) = true := by
    rw [show (PySem.W.clsIn K S).isSome = true from h2, h3]; rfl
  unfold PySem.W.exmOne
  rw [if_pos k1]
  show (if ((PySem.W.clsIn K S).isSome && PySem.W.typeIn K (.ref S) == some (.type "type")) = true then PySem.W.subIn K (.ref c) (.ref S) else none) = some b
  rw [if_pos k2]; exact h4
theorem all_mk {l : PySem.W.OpenLaw} {w : World} {K : PySem.W.Frag} {h : Heap} {mg : Str → Option Value} {fa fB fM CB CM f0 f1 f2 f3 f4 f5 f6 f7 f8 f9 f10 f11 f12 f13 f14 f15 f16 f17 f18 f19 f20 f21 f22 : Addr} (X : K.In h) (G : h.Ns mainGlobals mg) (hfa : mg "law" = some (.ref fa))
    {od0 an0 : Option Addr} {sl0 : Array (Option Value)} {oc0 kV0 dc0 pm0 cd0 ct0 : Value}
    {od1 an1 : Option Addr} {sl1 : Array (Option Value)} {oc1 kV1 dc1 pm1 cd1 ct1 : Value}
    {od2 an2 : Option Addr} {sl2 : Array (Option Value)} {oc2 kV2 dc2 pm2 cd2 ct2 : Value}
    {od3 an3 : Option Addr} {sl3 : Array (Option Value)} {oc3 kV3 dc3 pm3 cd3 ct3 : Value}
    {od4 an4 : Option Addr} {sl4 : Array (Option Value)} {oc4 kV4 dc4 pm4 cd4 ct4 : Value}
    {od5 an5 : Option Addr} {sl5 : Array (Option Value)} {oc5 kV5 dc5 pm5 cd5 ct5 : Value}
    {od6 an6 : Option Addr} {sl6 : Array (Option Value)} {oc6 kV6 dc6 pm6 cd6 ct6 : Value}
    {od7 an7 : Option Addr} {sl7 : Array (Option Value)} {oc7 kV7 dc7 pm7 cd7 ct7 : Value}
    {od8 an8 : Option Addr} {sl8 : Array (Option Value)} {oc8 kV8 dc8 pm8 cd8 ct8 : Value}
    {od9 an9 : Option Addr} {sl9 : Array (Option Value)} {oc9 kV9 dc9 pm9 cd9 ct9 : Value}
    {od10 an10 : Option Addr} {sl10 : Array (Option Value)} {oc10 kV10 dc10 pm10 cd10 ct10 : Value}
    {od11 an11 : Option Addr} {sl11 : Array (Option Value)} {oc11 kV11 dc11 pm11 cd11 ct11 : Value}
    {od12 an12 : Option Addr} {sl12 : Array (Option Value)} {oc12 kV12 dc12 pm12 cd12 ct12 : Value}
    {od13 an13 : Option Addr} {sl13 : Array (Option Value)} {oc13 kV13 dc13 pm13 cd13 ct13 : Value}
    {od14 an14 : Option Addr} {sl14 : Array (Option Value)} {oc14 kV14 dc14 pm14 cd14 ct14 : Value}
    {od15 an15 : Option Addr} {sl15 : Array (Option Value)} {oc15 kV15 dc15 pm15 cd15 ct15 : Value}
    {od16 an16 : Option Addr} {sl16 : Array (Option Value)} {oc16 kV16 dc16 pm16 cd16 ct16 : Value}
    {od17 an17 : Option Addr} {sl17 : Array (Option Value)} {oc17 kV17 dc17 pm17 cd17 ct17 : Value}
    {od18 an18 : Option Addr} {sl18 : Array (Option Value)} {oc18 kV18 dc18 pm18 cd18 ct18 : Value}
    {od19 an19 : Option Addr} {sl19 : Array (Option Value)} {oc19 kV19 dc19 pm19 cd19 ct19 : Value}
    {od20 an20 : Option Addr} {sl20 : Array (Option Value)} {oc20 kV20 dc20 pm20 cd20 ct20 : Value}
    {od21 an21 : Option Addr} {sl21 : Array (Option Value)} {oc21 kV21 dc21 pm21 cd21 ct21 : Value}
    {od22 an22 : Option Addr} {sl22 : Array (Option Value)} {oc22 kV22 dc22 pm22 cd22 ct22 : Value}
    {nmB qB : Str} {NB : Addr} {bsB bmB : List Value} {snB : List Str} {subB : List Value} {abB : Bool} {colB : Option Bool} {ddB : Option Addr} {m0B m1B m2B m3B m5B : Option Value}
    {odB anB : Option Addr} {slB : Array (Option Value)} {ocB kVB dcB pmB cdB ctB : Value}
    {nmM qM : Str} {NM : Addr} {bsM bmM : List Value} {snM : List Str} {subM : List Value} {abM : Bool} {colM : Option Bool} {ddM : Option Addr} {m0M m1M m2M m3M m5M : Option Value}
    {odM anM : Option Addr} {slM : Array (Option Value)} {ocM kVM dcM pmM cdM ctM : Value}
    {tL tD t6 : Tok} {kt dm : Addr} {ddk : Option Addr} {its : Array Value} {nk nd : Nat} {slk : Array (Option Value)} {es : Array DictEntry}
    (a0 : PySem.W.nsIn K mainGlobals "is_digit" = some (some (.ref f0)))
    (l0 : K.lookup f0 = some ⟨oc0, od0, .func (PySem.W.fnOf "is_digit" "is_digit" (defArgs sDigit) (defBody sDigit) (defScope sDigit) .none kV0 dc0 pm0 an0 cd0 ct0), sl0⟩)
    (c0 : PySem.W.codeIn K cd0 "is_digit" = true)
    (k0 : PySem.W.keepIn K (.ref f0) = true)
    (a1 : PySem.W.nsIn K mainGlobals "is_letter" = some (some (.ref f1)))
    (l1 : K.lookup f1 = some ⟨oc1, od1, .func (PySem.W.fnOf "is_letter" "is_letter" (defArgs sLetter) (defBody sLetter) (defScope sLetter) .none kV1 dc1 pm1 an1 cd1 ct1), sl1⟩)
    (c1 : PySem.W.codeIn K cd1 "is_letter" = true)
    (k1 : PySem.W.keepIn K (.ref f1) = true)
    (a2 : PySem.W.nsIn K mainGlobals "is_inner" = some (some (.ref f2)))
    (l2 : K.lookup f2 = some ⟨oc2, od2, .func (PySem.W.fnOf "is_inner" "is_inner" (defArgs sInner) (defBody sInner) (defScope sInner) .none kV2 dc2 pm2 an2 cd2 ct2), sl2⟩)
    (c2 : PySem.W.codeIn K cd2 "is_inner" = true)
    (k2 : PySem.W.keepIn K (.ref f2) = true)
    (a3 : PySem.W.nsIn K mainGlobals "words_of" = some (some (.ref f3)))
    (l3 : K.lookup f3 = some ⟨oc3, od3, .func (PySem.W.fnOf "words_of" "words_of" (defArgs sWords) (defBody sWords) (defScope sWords) .none kV3 dc3 pm3 an3 cd3 ct3), sl3⟩)
    (c3 : PySem.W.codeIn K cd3 "words_of" = true)
    (k3 : PySem.W.keepIn K (.ref f3) = true)
    (a4 : PySem.W.nsIn K mainGlobals "is_name" = some (some (.ref f4)))
    (l4 : K.lookup f4 = some ⟨oc4, od4, .func (PySem.W.fnOf "is_name" "is_name" (defArgs sIsName) (defBody sIsName) (defScope sIsName) .none kV4 dc4 pm4 an4 cd4 ct4), sl4⟩)
    (c4 : PySem.W.codeIn K cd4 "is_name" = true)
    (k4 : PySem.W.keepIn K (.ref f4) = true)
    (a5 : PySem.W.nsIn K mainGlobals "name_list" = some (some (.ref f5)))
    (l5 : K.lookup f5 = some ⟨oc5, od5, .func (PySem.W.fnOf "name_list" "name_list" (defArgs sNameList) (defBody sNameList) (defScope sNameList) .none kV5 dc5 pm5 an5 cd5 ct5), sl5⟩)
    (c5 : PySem.W.codeIn K cd5 "name_list" = true)
    (k5 : PySem.W.keepIn K (.ref f5) = true)
    (a6 : PySem.W.nsIn K mainGlobals "checked_knobs" = some (some (.ref f6)))
    (l6 : K.lookup f6 = some ⟨oc6, od6, .func (PySem.W.fnOf "checked_knobs" "checked_knobs" (defArgs sChecked) (defBody sChecked) (defScope sChecked) .none kV6 dc6 pm6 an6 cd6 ct6), sl6⟩)
    (c6 : PySem.W.codeIn K cd6 "checked_knobs" = true)
    (k6 : PySem.W.keepIn K (.ref f6) = true)
    (a7 : PySem.W.nsIn K mainGlobals "within_depth" = some (some (.ref f7)))
    (l7 : K.lookup f7 = some ⟨oc7, od7, .func (PySem.W.fnOf "within_depth" "within_depth" (defArgs sWithin) (defBody sWithin) (defScope sWithin) .none kV7 dc7 pm7 an7 cd7 ct7), sl7⟩)
    (c7 : PySem.W.codeIn K cd7 "within_depth" = true)
    (k7 : PySem.W.keepIn K (.ref f7) = true)
    (a8 : PySem.W.nsIn K mainGlobals "own_words_of_length" = some (some (.ref f8)))
    (l8 : K.lookup f8 = some ⟨oc8, od8, .func (PySem.W.fnOf "own_words_of_length" "own_words_of_length" (defArgs sLen) (defBody sLen) (defScope sLen) .none kV8 dc8 pm8 an8 cd8 ct8), sl8⟩)
    (c8 : PySem.W.codeIn K cd8 "own_words_of_length" = true)
    (k8 : PySem.W.keepIn K (.ref f8) = true)
    (a9 : PySem.W.nsIn K mainGlobals "own_words" = some (some (.ref f9)))
    (l9 : K.lookup f9 = some ⟨oc9, od9, .func (PySem.W.fnOf "own_words" "own_words" (defArgs sOwn) (defBody sOwn) (defScope sOwn) .none kV9 dc9 pm9 an9 cd9 ct9), sl9⟩)
    (c9 : PySem.W.codeIn K cd9 "own_words" = true)
    (k9 : PySem.W.keepIn K (.ref f9) = true)
    (a10 : PySem.W.nsIn K mainGlobals "_law_box" = some (some (.ref f10)))
    (l10 : K.lookup f10 = some ⟨oc10, od10, .func (PySem.W.fnOf "_law_box" "_law_box" (defArgs sBox) (defBody sBox) (defScope sBox) .none kV10 dc10 pm10 an10 cd10 ct10), sl10⟩)
    (c10 : PySem.W.codeIn K cd10 "_law_box" = true)
    (k10 : PySem.W.keepIn K (.ref f10) = true)
    (a11 : PySem.W.nsIn K mainGlobals "_law_draw" = some (some (.ref f11)))
    (l11 : K.lookup f11 = some ⟨oc11, od11, .func (PySem.W.fnOf "_law_draw" "_law_draw" (defArgs sDraw) (defBody sDraw) (defScope sDraw) .none kV11 dc11 pm11 an11 cd11 ct11), sl11⟩)
    (c11 : PySem.W.codeIn K cd11 "_law_draw" = true)
    (k11 : PySem.W.keepIn K (.ref f11) = true)
    (a12 : PySem.W.nsIn K mainGlobals "_law_name" = some (some (.ref f12)))
    (l12 : K.lookup f12 = some ⟨oc12, od12, .func (PySem.W.fnOf "_law_name" "_law_name" (defArgs sName) (defBody sName) (defScope sName) .none kV12 dc12 pm12 an12 cd12 ct12), sl12⟩)
    (c12 : PySem.W.codeIn K cd12 "_law_name" = true)
    (k12 : PySem.W.keepIn K (.ref f12) = true)
    (a13 : PySem.W.nsIn K mainGlobals "_law_names" = some (some (.ref f13)))
    (l13 : K.lookup f13 = some ⟨oc13, od13, .func (PySem.W.fnOf "_law_names" "_law_names" (defArgs sNames) (defBody sNames) (defScope sNames) .none kV13 dc13 pm13 an13 cd13 ct13), sl13⟩)
    (c13 : PySem.W.codeIn K cd13 "_law_names" = true)
    (k13 : PySem.W.keepIn K (.ref f13) = true)
    (a14 : PySem.W.nsIn K mainGlobals "_law_rows" = some (some (.ref f14)))
    (l14 : K.lookup f14 = some ⟨oc14, od14, .func (PySem.W.fnOf "_law_rows" "_law_rows" (defArgs sRows) (defBody sRows) (defScope sRows) .none kV14 dc14 pm14 an14 cd14 ct14), sl14⟩)
    (c14 : PySem.W.codeIn K cd14 "_law_rows" = true)
    (k14 : PySem.W.keepIn K (.ref f14) = true)
    (a15 : PySem.W.nsIn K mainGlobals "_law_own" = some (some (.ref f15)))
    (l15 : K.lookup f15 = some ⟨oc15, od15, .func (PySem.W.fnOf "_law_own" "_law_own" (defArgs sOwnP) (defBody sOwnP) (defScope sOwnP) .none kV15 dc15 pm15 an15 cd15 ct15), sl15⟩)
    (c15 : PySem.W.codeIn K cd15 "_law_own" = true)
    (k15 : PySem.W.keepIn K (.ref f15) = true)
    (a16 : PySem.W.nsIn K mainGlobals "_law_cut" = some (some (.ref f16)))
    (l16 : K.lookup f16 = some ⟨oc16, od16, .func (PySem.W.fnOf "_law_cut" "_law_cut" (defArgs sCut) (defBody sCut) (defScope sCut) .none kV16 dc16 pm16 an16 cd16 ct16), sl16⟩)
    (c16 : PySem.W.codeIn K cd16 "_law_cut" = true)
    (k16 : PySem.W.keepIn K (.ref f16) = true)
    (a17 : PySem.W.nsIn K mainGlobals "_law_index" = some (some (.ref f17)))
    (l17 : K.lookup f17 = some ⟨oc17, od17, .func (PySem.W.fnOf "_law_index" "_law_index" (defArgs sIndex) (defBody sIndex) (defScope sIndex) .none kV17 dc17 pm17 an17 cd17 ct17), sl17⟩)
    (c17 : PySem.W.codeIn K cd17 "_law_index" = true)
    (k17 : PySem.W.keepIn K (.ref f17) = true)
    (a18 : PySem.W.nsIn K mainGlobals "_law_due" = some (some (.ref f18)))
    (l18 : K.lookup f18 = some ⟨oc18, od18, .func (PySem.W.fnOf "_law_due" "_law_due" (defArgs sDue) (defBody sDue) (defScope sDue) .none kV18 dc18 pm18 an18 cd18 ct18), sl18⟩)
    (c18 : PySem.W.codeIn K cd18 "_law_due" = true)
    (k18 : PySem.W.keepIn K (.ref f18) = true)
    (a19 : PySem.W.nsIn K mainGlobals "_law_bound_of" = some (some (.ref f19)))
    (l19 : K.lookup f19 = some ⟨oc19, od19, .func (PySem.W.fnOf "_law_bound_of" "_law_bound_of" (defArgs sBound) (defBody sBound) (defScope sBound) .none kV19 dc19 pm19 an19 cd19 ct19), sl19⟩)
    (c19 : PySem.W.codeIn K cd19 "_law_bound_of" = true)
    (k19 : PySem.W.keepIn K (.ref f19) = true)
    (a20 : PySem.W.nsIn K mainGlobals "_law_listed" = some (some (.ref f20)))
    (l20 : K.lookup f20 = some ⟨oc20, od20, .func (PySem.W.fnOf "_law_listed" "_law_listed" (defArgs sListed) (defBody sListed) (defScope sListed) .none kV20 dc20 pm20 an20 cd20 ct20), sl20⟩)
    (c20 : PySem.W.codeIn K cd20 "_law_listed" = true)
    (k20 : PySem.W.keepIn K (.ref f20) = true)
    (a21 : PySem.W.nsIn K mainGlobals "_law_told" = some (some (.ref f21)))
    (l21 : K.lookup f21 = some ⟨oc21, od21, .func (PySem.W.fnOf "_law_told" "_law_told" (defArgs sTold) (defBody sTold) (defScope sTold) .none kV21 dc21 pm21 an21 cd21 ct21), sl21⟩)
    (c21 : PySem.W.codeIn K cd21 "_law_told" = true)
    (k21 : PySem.W.keepIn K (.ref f21) = true)
    (a22 : PySem.W.nsIn K mainGlobals "law" = some (some (.ref f22)))
    (l22 : K.lookup f22 = some ⟨oc22, od22, .func (PySem.W.fnOf "law" "law" (defArgs sLaw) (defBody sLaw) (defScope sLaw) .none kV22 dc22 pm22 an22 cd22 ct22), sl22⟩)
    (c22 : PySem.W.codeIn K cd22 "law" = true)
    (k22 : PySem.W.keepIn K (.ref f22) = true)
    (aB : PySem.W.nsIn K mainGlobals "BadName" = some (some (.ref CB)))
    (xB : K.lookup CB = some (excClassObj nmB qB CB NB bsB bmB true snB subB abB colB ddB m0B m1B m2B m3B m5B "ValueError.__new__"))
    (rB : PySem.HandSPX.refsVE bmB = true)
    (saB : PySem.W.findIn K (.ref CB) "__setattr__" = some (some (.builtin "object.__setattr__")))
    (exB : PySem.W.subIn K (.ref CB) (.type "BaseException") = some true)
    (tyB : PySem.W.typeIn K (.ref CB) = some (.type "type"))
    (kcB : PySem.W.keepIn K (.ref CB) = true)
    (iB : PySem.W.findIn K (.ref CB) "__init__" = some (some (.ref fB)))
    (tiB : PySem.W.typeIn K (.ref fB) = some (.type "function"))
    (lB : K.lookup fB = some ⟨ocB, odB, .func (PySem.W.fnOf "__init__" "BadName.__init__" (defArgs sBadI) (defBody sBadI) (defScope sBadI) .none kVB dcB pmB anB cdB ctB), slB⟩)
    (cB : PySem.W.codeIn K cdB "BadName.__init__" = true)
    (kB : PySem.W.keepIn K (.ref fB) = true)
    (gaB : PySem.W.findIn K (.ref CB) "__getattribute__" = some (some (.builtin "BaseException.__getattribute__")))
    (ggB : PySem.W.findIn K (.ref CB) "__getattr__" = some none)
    (hdB : PySem.W.hasDictIn K CB = true)
    (stB : PySem.W.subIn K (.ref CB) (.type "StopIteration") = some false)
    (nBwhy : PySem.W.findIn K (.ref CB) "why" = some none)
    (aM : PySem.W.nsIn K mainGlobals "TooMany" = some (some (.ref CM)))
    (xM : K.lookup CM = some (excClassObj nmM qM CM NM bsM bmM true snM subM abM colM ddM m0M m1M m2M m3M m5M "ValueError.__new__"))
    (rM : PySem.HandSPX.refsVE bmM = true)
    (saM : PySem.W.findIn K (.ref CM) "__setattr__" = some (some (.builtin "object.__setattr__")))
    (exM : PySem.W.subIn K (.ref CM) (.type "BaseException") = some true)
    (tyM : PySem.W.typeIn K (.ref CM) = some (.type "type"))
    (kcM : PySem.W.keepIn K (.ref CM) = true)
    (iM : PySem.W.findIn K (.ref CM) "__init__" = some (some (.ref fM)))
    (tiM : PySem.W.typeIn K (.ref fM) = some (.type "function"))
    (lM : K.lookup fM = some ⟨ocM, odM, .func (PySem.W.fnOf "__init__" "TooMany.__init__" (defArgs sManyI) (defBody sManyI) (defScope sManyI) .none kVM dcM pmM anM cdM ctM), slM⟩)
    (cM : PySem.W.codeIn K cdM "TooMany.__init__" = true)
    (kM : PySem.W.keepIn K (.ref fM) = true)
    (gaM : PySem.W.findIn K (.ref CM) "__getattribute__" = some (some (.builtin "BaseException.__getattribute__")))
    (ggM : PySem.W.findIn K (.ref CM) "__getattr__" = some none)
    (hdM : PySem.W.hasDictIn K CM = true)
    (stM : PySem.W.subIn K (.ref CM) (.type "StopIteration") = some false)
    (nMwhat : PySem.W.findIn K (.ref CM) "what" = some none)
    (nMmost : PySem.W.findIn K (.ref CM) "most" = some none)
    (isB : PySem.W.isClsIn K CB = true)
    (isM : PySem.W.isClsIn K CM = true)
    (smm : PySem.W.subIn K (.ref CM) (.ref CM) = some true)
    (sbm : PySem.W.subIn K (.ref CB) (.ref CM) = some false)
    (sbb : PySem.W.subIn K (.ref CB) (.ref CB) = some true)
    (zlen : PySem.W.nsIn K mainGlobals "len" = some none)
    (zisinstance : PySem.W.nsIn K mainGlobals "isinstance" = some none)
    (zall : PySem.W.nsIn K mainGlobals "all" = some none)
    (zmax : PySem.W.nsIn K mainGlobals "max" = some none)
    (zmin : PySem.W.nsIn K mainGlobals "min" = some none)
    (zabs : PySem.W.nsIn K mainGlobals "abs" = some none)
    (zint : PySem.W.nsIn K mainGlobals "int" = some none)
    (zstr : PySem.W.nsIn K mainGlobals "str" = some none)
    (zlist : PySem.W.nsIn K mainGlobals "list" = some none)
    (ztuple : PySem.W.nsIn K mainGlobals "tuple" = some none)
    (zrange : PySem.W.nsIn K mainGlobals "range" = some none)
    (aL : PySem.W.nsIn K mainGlobals "LONGEST" = some (some (.int 16 tL)))
    (aD : PySem.W.nsIn K mainGlobals "DEEPEST" = some (some (.int 12 tD)))
    (aK : PySem.W.nsIn K mainGlobals "KEPT_WORDS" = some (some (.ref kt)))
    (lK : K.lookup kt = some ⟨.type "tuple", ddk, .seq its nk, slk⟩)
    (vK : Vals (kept.map V.str) its.toList)
    (zK : its.size ≤ 100)
    (aO : PySem.W.nsIn K mainGlobals "MOST" = some (some (.ref dm)))
    (lO : K.lookup dm = some ⟨.type "dict", none, .dict es nd, #[]⟩)
    (kO : PySem.W.KeysLit w.params es.toList)
    (vO : PySem.W.nsIn K dm "knobs" = some (some (.int 6 t6))) :
    ∃ fd : FuncData, (∀ (s : Shared) (v : Value), BindsTo s fd ⟨[v], []⟩ [("script", v)]) ∧ ∀ base : Heap, K.In base → base.Ns mainGlobals mg → FnOk l.prog w K mg base CX0 10 fa fd ["script"] (spLaw K) := by
  have e := hfa.symm.trans (PySem.W.mg_of X G a22)
  cases e
  have T : Txt mg := ⟨PySem.W.mg_none_of X G zlen, PySem.W.mg_none_of X G zisinstance, PySem.W.mg_none_of X G zall, PySem.W.mg_none_of X G zmax, PySem.W.mg_none_of X G zmin, PySem.W.mg_none_of X G zabs, PySem.W.mg_none_of X G zint, PySem.W.mg_none_of X G zstr, PySem.W.mg_none_of X G zlist, PySem.W.mg_none_of X G ztuple, PySem.W.mg_none_of X G zrange⟩
  have TN : TxtN K mg := ⟨⟨_, PySem.W.mg_of X G aL⟩, ⟨kt, PySem.W.mg_of X G aK, fun H => .inr ⟨_, its, nk, lK, rfl, rfl, Nat.le_trans zK (by decide), vK⟩⟩⟩
  have km : KDct K w dm "knobs" (.int 6) := ⟨es, nd, _, lO, kO, vO, ⟨_, rfl⟩⟩
  have F0 := fun_mk (st := sDigit) l0 c0 k0
  have N0 : Fn K mg "is_digit" sDigit ["sign"] f0 _ := ⟨F0, F0.binds (ps := ["sign"]) fun _ _ _ _ _ _ us hl => match us, hl with | [_], _ => rfl, PySem.W.mg_of X G a0⟩
  have F1 := fun_mk (st := sLetter) l1 c1 k1
  have N1 : Fn K mg "is_letter" sLetter ["sign"] f1 _ := ⟨F1, F1.binds (ps := ["sign"]) fun _ _ _ _ _ _ us hl => match us, hl with | [_], _ => rfl, PySem.W.mg_of X G a1⟩
  have F2 := fun_mk (st := sInner) l2 c2 k2
  have N2 : Fn K mg "is_inner" sInner ["sign"] f2 _ := ⟨F2, F2.binds (ps := ["sign"]) fun _ _ _ _ _ _ us hl => match us, hl with | [_], _ => rfl, PySem.W.mg_of X G a2⟩
  have F3 := fun_mk (st := sWords) l3 c3 k3
  have N3 : Fn K mg "words_of" sWords ["line"] f3 _ := ⟨F3, F3.binds (ps := ["line"]) fun _ _ _ _ _ _ us hl => match us, hl with | [_], _ => rfl, PySem.W.mg_of X G a3⟩
  have F4 := fun_mk (st := sIsName) l4 c4 k4
  have N4 : Fn K mg "is_name" sIsName ["value"] f4 _ := ⟨F4, F4.binds (ps := ["value"]) fun _ _ _ _ _ _ us hl => match us, hl with | [_], _ => rfl, PySem.W.mg_of X G a4⟩
  have F5 := fun_mk (st := sNameList) l5 c5 k5
  have N5 : Fn K mg "name_list" sNameList ["value"] f5 _ := ⟨F5, F5.binds (ps := ["value"]) fun _ _ _ _ _ _ us hl => match us, hl with | [_], _ => rfl, PySem.W.mg_of X G a5⟩
  have F6 := fun_mk (st := sChecked) l6 c6 k6
  have N6 : Fn K mg "checked_knobs" sChecked ["value"] f6 _ := ⟨F6, F6.binds (ps := ["value"]) fun _ _ _ _ _ _ us hl => match us, hl with | [_], _ => rfl, PySem.W.mg_of X G a6⟩
  have F7 := fun_mk (st := sWithin) l7 c7 k7
  have N7 : Fn K mg "within_depth" sWithin ["depth"] f7 _ := ⟨F7, F7.binds (ps := ["depth"]) fun _ _ _ _ _ _ us hl => match us, hl with | [_], _ => rfl, PySem.W.mg_of X G a7⟩
  have F8 := fun_mk (st := sLen) l8 c8 k8
  have N8 : Fn K mg "own_words_of_length" sLen ["many", "length"] f8 _ := ⟨F8, F8.binds (ps := ["many", "length"]) fun _ _ _ _ _ _ us hl => match us, hl with | [_, _], _ => rfl, PySem.W.mg_of X G a8⟩
  have F9 := fun_mk (st := sOwn) l9 c9 k9
  have N9 : Fn K mg "own_words" sOwn ["knobs", "depth"] f9 _ := ⟨F9, F9.binds (ps := ["knobs", "depth"]) fun _ _ _ _ _ _ us hl => match us, hl with | [_, _], _ => rfl, PySem.W.mg_of X G a9⟩
  have F10 := fun_mk (st := sBox) l10 c10 k10
  have N10 : Fn K mg "_law_box" sBox ["script"] f10 _ := ⟨F10, F10.binds (ps := ["script"]) fun _ _ _ _ _ _ us hl => match us, hl with | [_], _ => rfl, PySem.W.mg_of X G a10⟩
  have F11 := fun_mk (st := sDraw) l11 c11 k11
  have N11 : Fn K mg "_law_draw" sDraw ["box", "many"] f11 _ := ⟨F11, F11.binds (ps := ["box", "many"]) fun _ _ _ _ _ _ us hl => match us, hl with | [_, _], _ => rfl, PySem.W.mg_of X G a11⟩
  have F12 := fun_mk (st := sName) l12 c12 k12
  have N12 : Fn K mg "_law_name" sName ["box", "taken", "others"] f12 _ := ⟨F12, F12.binds (ps := ["box", "taken", "others"]) fun _ _ _ _ _ _ us hl => match us, hl with | [_, _, _], _ => rfl, PySem.W.mg_of X G a12⟩
  have F13 := fun_mk (st := sNames) l13 c13 k13
  have N13 : Fn K mg "_law_names" sNames ["box", "many", "others"] f13 _ := ⟨F13, F13.binds (ps := ["box", "many", "others"]) fun _ _ _ _ _ _ us hl => match us, hl with | [_, _, _], _ => rfl, PySem.W.mg_of X G a13⟩
  have F14 := fun_mk (st := sRows) l14 c14 k14
  have N14 : Fn K mg "_law_rows" sRows ["size", "deep"] f14 _ := ⟨F14, F14.binds (ps := ["size", "deep"]) fun _ _ _ _ _ _ us hl => match us, hl with | [_, _], _ => rfl, PySem.W.mg_of X G a14⟩
  have F15 := fun_mk (st := sOwnP) l15 c15 k15
  have N15 : Fn K mg "_law_own" sOwnP ["row"] f15 _ := ⟨F15, F15.binds (ps := ["row"]) fun _ _ _ _ _ _ us hl => match us, hl with | [_], _ => rfl, PySem.W.mg_of X G a15⟩
  have F16 := fun_mk (st := sCut) l16 c16 k16
  have N16 : Fn K mg "_law_cut" sCut ["row"] f16 _ := ⟨F16, F16.binds (ps := ["row"]) fun _ _ _ _ _ _ us hl => match us, hl with | [_], _ => rfl, PySem.W.mg_of X G a16⟩
  have F17 := fun_mk (st := sIndex) l17 c17 k17
  have N17 : Fn K mg "_law_index" sIndex ["row", "grips"] f17 _ := ⟨F17, F17.binds (ps := ["row", "grips"]) fun _ _ _ _ _ _ us hl => match us, hl with | [_, _], _ => rfl, PySem.W.mg_of X G a17⟩
  have F18 := fun_mk (st := sDue) l18 c18 k18
  have N18 : Fn K mg "_law_due" sDue ["size", "deep"] f18 _ := ⟨F18, F18.binds (ps := ["size", "deep"]) fun _ _ _ _ _ _ us hl => match us, hl with | [_, _], _ => rfl, PySem.W.mg_of X G a18⟩
  have F19 := fun_mk (st := sBound) l19 c19 k19
  have N19 : Fn K mg "_law_bound_of" sBound ["items", "deep"] f19 _ := ⟨F19, F19.binds (ps := ["items", "deep"]) fun _ _ _ _ _ _ us hl => match us, hl with | [_, _], _ => rfl, PySem.W.mg_of X G a19⟩
  have F20 := fun_mk (st := sListed) l20 c20 k20
  have N20 : Fn K mg "_law_listed" sListed ["box", "items"] f20 _ := ⟨F20, F20.binds (ps := ["box", "items"]) fun _ _ _ _ _ _ us hl => match us, hl with | [_, _], _ => rfl, PySem.W.mg_of X G a20⟩
  have F21 := fun_mk (st := sTold) l21 c21 k21
  have N21 : Fn K mg "_law_told" sTold ["found", "grips"] f21 _ := ⟨F21, F21.binds (ps := ["found", "grips"]) fun _ _ _ _ _ _ us hl => match us, hl with | [_, _], _ => rfl, PySem.W.mg_of X G a21⟩
  have F22 := fun_mk (st := sLaw) l22 c22 k22
  have FB := fun_mk (st := sBadI) lB cB kB
  have OB : OexC K CB := ⟨⟨_, _, _, _, _, _, _, _, _, _, _, _, _, _, _, xB, rB⟩, saB, exB, tyB, kcB⟩
  have EB : ExcT K mg "BadName" "BadName.__init__" sBadI ["self", "why"] CB fB _ := ⟨OB, iB, tiB, FB, FB.binds (ps := ["self", "why"]) fun _ _ _ _ _ _ us hl => match us, hl with | [_, _], _ => rfl, PySem.W.mg_of X G aB⟩
  have FM := fun_mk (st := sManyI) lM cM kM
  have OM : OexC K CM := ⟨⟨_, _, _, _, _, _, _, _, _, _, _, _, _, _, _, xM, rM⟩, saM, exM, tyM, kcM⟩
  have EM : ExcT K mg "TooMany" "TooMany.__init__" sManyI ["self", "what", "most"] CM fM _ := ⟨OM, iM, tiM, FM, FM.binds (ps := ["self", "what", "most"]) fun _ _ _ _ _ _ us hl => match us, hl with | [_, _, _], _ => rfl, PySem.W.mg_of X G aM⟩
  have Cs : Classes K mg CB CM := ⟨PySem.W.mg_of X G aB, PySem.W.mg_of X G aM, ⟨gaB, ggB, exB, hdB⟩, ⟨gaM, ggM, exM, hdM⟩, nBwhy, nMwhat, nMmost, stB, stM, exm_b exM isM tyM smm, exm_b exM isM tyM sbm, exm_b exB isB tyB sbb⟩
  refine ⟨PySem.W.fnOf "law" "law" (defArgs sLaw) (defBody sLaw) (defScope sLaw) .none kV22 dc22 pm22 an22 cd22 ct22, fun s v => .of_eq rfl, fun base _ _ => ?_⟩
  have GC := ok_checked (P := l.prog) (w := w) (base := base) N6.F T TN N3 N5 N4 N1 N2 N0 EB nBwhy EM nMwhat nMmost (PySem.W.mg_of X G aO) km
  have GW := ok_within (P := l.prog) (w := w) (base := base) N7.F ⟨_, PySem.W.mg_of X G aD⟩ EM nMwhat nMmost
  have GO := gen_own (P := l.prog) (w := w) (base := base) N9.F T N6 GC N7 GW N8
  exact ok_law F22 T Cs N10 (ok_box N10.F T) N11 (ok_draw N11.F T) N13 (ok_names N13.F T N12 N11) N18 (ok_due N18.F T N14 N15) N21 (ok_told N21.F T N17) N20 (ok_listed N20.F T N11) N16 (ok_cut N16.F T N15) N19 (ok_bound N19.F T Cs N9 GO) N9 GO
    (fun s ws _ hl => match ws, hl with | [_, _], _ => .of_eq rfl)
theorem walk {l : PySem.W.OpenLaw} {q : Program} {loose : List Str} {XP : (Str → Option Value) → Heap → Prop} {YP : World → Heap → Prop} {d : DefRec} {K : Params → PySem.W.Frag} (hn : l.most = some 63) (hdf : d.params.defaults = [])
    (hY : ∀ (w : World) (h : Heap), YP w h → (K w.params).In h)
    (F : ∀ (w : World) (mg : Str → Option Value) (fa : Addr) (h : Heap), (K w.params).In h → h.Ns mainGlobals mg → mg d.name = some (.ref fa) →
      ∃ fd : FuncData, (∀ (s : Shared) (u : Value), BindsTo s fd ⟨[u], []⟩ [("script", u)]) ∧ ∀ base : Heap, (K w.params).In base → base.Ns mainGlobals mg → FnOk l.prog w (K w.params) mg base CX0 10 fa fd ["script"] (spLaw (K w.params))) :
    PySem.W.WalkO q loose XP YP l.row.toRowW d [] (fun f vs => PySem.call f vs) :=
  L2.walk_of (n := 63) (k := 10) (x := "script") (CX := fun _ => CX0) (sp := fun w => spLaw (K w.params)) hn (by decide) hdf ⟨rfl, by decide, by decide⟩ hY F (fun _ _ a ns hl _ hS => ⟨a, ns, rfl, hS, hl, fun _ => rfl⟩) fun _ _ _ _ _ z => z
end K8

open PySem PySem.W PyProof.Rows in
set_option maxRecDepth 100000 in
set_option maxHeartbeats 0 in
theorem PySem.Challenge.cw_leastknobs_k68_own_words_listed_holds : PySem.Challenge.rw_leastknobs_k68_own_words_listed.Holds := by
  w_on; o_law; k_head; (case hw => w_witness2)
  k_fill
  refine K8.walk (l := PySem.Challenge.rw_leastknobs_k68_own_words_listed) rfl rfl (fun w h Y => PySem.W.kIn_of Y) ?F
  case F =>
    intro w mg fa h KX G hmg
    refine' K8.all_mk KX G hmg ?a0 ?l0 ?c0 ?k0 ?a1 ?l1 ?c1 ?k1 ?a2 ?l2 ?c2 ?k2 ?a3 ?l3 ?c3 ?k3 ?a4 ?l4 ?c4 ?k4 ?a5 ?l5 ?c5 ?k5 ?a6 ?l6 ?c6 ?k6 ?a7 ?l7 ?c7 ?k7 ?a8 ?l8 ?c8 ?k8 ?a9 ?l9 ?c9 ?k9 ?a10 ?l10 ?c10 ?k10 ?a11 ?l11 ?c11 ?k11 ?a12 ?l12 ?c12 ?k12 ?a13 ?l13 ?c13 ?k13 ?a14 ?l14 ?c14 ?k14 ?a15 ?l15 ?c15 ?k15 ?a16 ?l16 ?c16 ?k16 ?a17 ?l17 ?c17 ?k17 ?a18 ?l18 ?c18 ?k18 ?a19 ?l19 ?c19 ?k19 ?a20 ?l20 ?c20 ?k20 ?a21 ?l21 ?c21 ?k21 ?a22 ?l22 ?c22 ?k22 ?aB ?xB ?rB ?saB ?exB ?tyB ?kcB ?iB ?tiB ?lB ?cB ?kB ?gaB ?ggB ?hdB ?stB ?nBwhy ?aM ?xM ?rM ?saM ?exM ?tyM ?kcM ?iM ?tiM ?lM ?cM ?kM ?gaM ?ggM ?hdM ?stM ?nMwhat ?nMmost ?isB ?isM ?smm ?sbm ?sbb ?zlen ?zisinstance ?zall ?zmax ?zmin ?zabs ?zint ?zstr ?zlist ?ztuple ?zrange ?aL ?aD ?aK ?lK ?vK ?zK ?aO ?lO ?kO ?vO
    (case a0 => k_is)
    (case l0 => k_is)
    (case c0 => k_is)
    (case k0 => k_is)
    (case a1 => k_is)
    (case l1 => k_is)
    (case c1 => k_is)
    (case k1 => k_is)
    (case a2 => k_is)
    (case l2 => k_is)
    (case c2 => k_is)
    (case k2 => k_is)
    (case a3 => k_is)
    (case l3 => k_is)
    (case c3 => k_is)
    (case k3 => k_is)
    (case a4 => k_is)
    (case l4 => k_is)
    (case c4 => k_is)
    (case k4 => k_is)
    (case a5 => k_is)
    (case l5 => k_is)
    (case c5 => k_is)
    (case k5 => k_is)
    (case a6 => k_is)
    (case l6 => k_is)
    (case c6 => k_is)
    (case k6 => k_is)
    (case a7 => k_is)
    (case l7 => k_is)
    (case c7 => k_is)
    (case k7 => k_is)
    (case a8 => k_is)
    (case l8 => k_is)
    (case c8 => k_is)
    (case k8 => k_is)
    (case a9 => k_is)
    (case l9 => k_is)
    (case c9 => k_is)
    (case k9 => k_is)
    (case a10 => k_is)
    (case l10 => k_is)
    (case c10 => k_is)
    (case k10 => k_is)
    (case a11 => k_is)
    (case l11 => k_is)
    (case c11 => k_is)
    (case k11 => k_is)
    (case a12 => k_is)
    (case l12 => k_is)
    (case c12 => k_is)
    (case k12 => k_is)
    (case a13 => k_is)
    (case l13 => k_is)
    (case c13 => k_is)
    (case k13 => k_is)
    (case a14 => k_is)
    (case l14 => k_is)
    (case c14 => k_is)
    (case k14 => k_is)
    (case a15 => k_is)
    (case l15 => k_is)
    (case c15 => k_is)
    (case k15 => k_is)
    (case a16 => k_is)
    (case l16 => k_is)
    (case c16 => k_is)
    (case k16 => k_is)
    (case a17 => k_is)
    (case l17 => k_is)
    (case c17 => k_is)
    (case k17 => k_is)
    (case a18 => k_is)
    (case l18 => k_is)
    (case c18 => k_is)
    (case k18 => k_is)
    (case a19 => k_is)
    (case l19 => k_is)
    (case c19 => k_is)
    (case k19 => k_is)
    (case a20 => k_is)
    (case l20 => k_is)
    (case c20 => k_is)
    (case k20 => k_is)
    (case a21 => k_is)
    (case l21 => k_is)
    (case c21 => k_is)
    (case k21 => k_is)
    (case a22 => k_is)
    (case l22 => k_is)
    (case c22 => k_is)
    (case k22 => k_is)
    (case aB => k_is)
    (case xB => k_is)
    (case rB => decide +kernel)
    (case saB => k_is)
    (case exB => k_is)
    (case tyB => k_is)
    (case kcB => k_is)
    (case iB => k_is)
    (case tiB => k_is)
    (case lB => k_is)
    (case cB => k_is)
    (case kB => k_is)
    (case gaB => k_is)
    (case ggB => k_is)
    (case hdB => k_is)
    (case stB => k_is)
    (case nBwhy => k_is)
    (case aM => k_is)
    (case xM => k_is)
    (case rM => decide +kernel)
    (case saM => k_is)
    (case exM => k_is)
    (case tyM => k_is)
    (case kcM => k_is)
    (case iM => k_is)
    (case tiM => k_is)
    (case lM => k_is)
    (case cM => k_is)
    (case kM => k_is)
    (case gaM => k_is)
    (case ggM => k_is)
    (case hdM => k_is)
    (case stM => k_is)
    (case nMwhat => k_is)
    (case nMmost => k_is)
    (case isB => k_is)
    (case isM => k_is)
    (case smm => first | rfl | k_is)
    (case sbm => first | rfl | k_is)
    (case sbb => first | rfl | k_is)
    (case zlen => k_is)
    (case zisinstance => k_is)
    (case zall => k_is)
    (case zmax => k_is)
    (case zmin => k_is)
    (case zabs => k_is)
    (case zint => k_is)
    (case zstr => k_is)
    (case zlist => k_is)
    (case ztuple => k_is)
    (case zrange => k_is)
    (case aL => k_is)
    (case aD => k_is)
    (case aK => k_is)
    (case lK => k_is)
    (case vK => repeat (first | exact Paired.nil | refine Paired.cons ⟨_, rfl⟩ ?_))
    (case zK => decide)
    (case aO => k_is)
    (case lO => k_is)
    (case kO => k_keys)
    (case vO => k_is)
#print axioms PySem.Challenge.cw_leastknobs_k68_own_words_listed_holds

