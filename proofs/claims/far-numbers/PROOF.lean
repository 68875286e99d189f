import PyProof.Rows.All
import HandS.ForMost
import HandS.GenList
import HandS.SortKw
import HandS.SetFor
import KE.KTupSum
import HandS.Style
import HandS.Evl
import HandS.Star
import HandS.DeepEq
import HandS.Conv
import HandS.TupAny
import HandS.Defaults
import PySem.Challenge.RW_oneload_k42_whole_far_numbers_of_fields
import HandS.Words
import Wide.All
import OpenK.AllK
import Wide.FinOn
import HandS.IsInst
import HandS.Walk
import HandS.DictComp
import HandS.Small
import HandS.Wide
import HandS.LawCells
import PyProof.CallFns
import PyProof.Rows.RuleB_pow
import KE.KMinKey
import HandS.More
import HandS.DictTup
import HandS.SortRule
import HandS.SortInts
import HandS.Strs
import HandS.Comp
import PyProof.CompFree
set_option Elab.async false
section SGStub
set_option linter.all false
set_option maxRecDepth 100000
/-! a run that wakes none of the sleeping generators keeps them -/
namespace GStub
open PySem PyProof.Rows
open Sem (wp)

def noWake : Resume → Sem PySem.Fin := fun _ => .unsupported "stub"
def stub : GenState → GenState
  | .suspended _ l c p fs _ => .suspended noWake l c p fs false
  | x => x
def isSusp : GenState → Bool
  | .suspended .. => true
  | _ => false
theorem stub_seen (x : GenState) : (stub x).seen = x.seen := by cases x <;> rfl
theorem stub_bare (x : GenState) : (stub x).bare = true := by cases x <;> rfl

structure GR (F : Nat → Option GenState) (G G' : Array GenState) : Prop where
  size : G.size = G'.size
  off : ∀ i, F i = none → G[i]? = G'[i]?
  on : ∀ i x, F i = some x → G[i]? = some x ∧ G'[i]? = some (stub x)
def Good (F : Nat → Option GenState) (G' : Array GenState) : Prop := ∀ i, F i = none → ∀ k l c p fs cl, G'[i]? = some (.suspended k l c p fs cl) → splitAtGen fs = none
def EGood : End → Prop
  | .ret _ => True
  | .susp _ _ _ _ _ _ fs => splitAtGen fs = none

theorem GR.push {F : Nat → Option GenState} {G G' : Array GenState} (h : GR F G G') (hF : ∀ i, G.size ≤ i → F i = none) (x : GenState) : GR F (G.push x) (G'.push x) := by
  refine ⟨by rw [Array.size_push, Array.size_push, h.size], fun i hi => ?_, fun i y hi => ?_⟩
  · rw [Array.getElem?_push, Array.getElem?_push, h.size, h.off i hi]
  · obtain ⟨h1, h2⟩ := h.on i y hi
    have hlt : i < G.size := (Array.getElem?_eq_some_iff.mp h1).1
    rw [Array.getElem?_push, Array.getElem?_push, if_neg (by omega), if_neg (by rw [← h.size]; omega)]
    exact ⟨h1, h2⟩
theorem GR.set {F : Nat → Option GenState} {G G' : Array GenState} (h : GR F G G') {g : Nat} (hg : F g = none) (x : GenState) : GR F (G.setIfInBounds g x) (G'.setIfInBounds g x) := by
  refine ⟨by rw [Array.size_setIfInBounds, Array.size_setIfInBounds, h.size], fun i hi => ?_, fun i y hi => ?_⟩
  · rw [Array.getElem?_setIfInBounds, Array.getElem?_setIfInBounds, h.size, h.off i hi]
  · have hne : g ≠ i := fun e => by rw [e, hi] at hg; cases hg
    rw [Array.getElem?_setIfInBounds_ne hne, Array.getElem?_setIfInBounds_ne hne]
    exact h.on i y hi
theorem Good.push {F : Nat → Option GenState} {G' : Array GenState} (h : Good F G') {c : Code} : Good F (G'.push (.fresh c)) := by
  intro i hi k l c' p fs cl e
  rw [Array.getElem?_push] at e
  split at e
  · cases e
  · exact h i hi k l c' p fs cl e
theorem Good.set {F : Nat → Option GenState} {G' : Array GenState} (h : Good F G') {g : Nat} {x : GenState} (hx : ∀ k l c p fs cl, x = .suspended k l c p fs cl → splitAtGen fs = none) : Good F (G'.setIfInBounds g x) := by
  intro i hi k l c' p fs cl e
  by_cases z : g = i
  · subst z
    rw [Array.getElem?_setIfInBounds] at e
    split at e
    · split at e
      · exact hx k l c' p fs cl (Option.some.inj e)
      · cases e
    · exact h _ hi k l c' p fs cl e
  · rw [Array.getElem?_setIfInBounds_ne z] at e
    exact h i hi k l c' p fs cl e
theorem split_app : ∀ {a b : List Frame}, splitAtGen a = none → splitAtGen b = none → splitAtGen (a ++ b) = none
  | [], _, _, h => h
  | .gen .. :: _, _, h, _ => by simp [splitAtGen] at h
  | .ret k h g l c p kp :: a, b, h1, h2 => by
    have h1' : splitAtGen a = none := by
      unfold splitAtGen at h1
      cases e : splitAtGen a with
      | none => rfl
      | some x => rw [e] at h1; cases h1
    show splitAtGen (.ret k h g l c p kp :: (a ++ b)) = none
    unfold splitAtGen
    rw [split_app h1' h2]
    rfl
theorem split_tail {k h g l c p kp} {fs : List Frame} (h1 : splitAtGen (.ret k h g l c p kp :: fs) = none) : splitAtGen fs = none := by
  unfold splitAtGen at h1
  cases e : splitAtGen fs with
  | none => rfl
  | some x => rw [e] at h1; cases h1
theorem split_pre : ∀ {fs pre : List Frame} {b rest}, splitAtGen fs = some (pre, b, rest) → splitAtGen pre = none
  | [], _, _, _, h => by simp [splitAtGen] at h
  | .gen .. :: _, _, _, _, h => by
    simp only [splitAtGen, Option.some.injEq, Prod.mk.injEq] at h
    rw [← h.1]; rfl
  | .ret k h g l c p kp :: fs, pre, b, rest, h1 => by
    unfold splitAtGen at h1
    cases e : splitAtGen fs with
    | none => rw [e] at h1; cases h1
    | some x =>
      obtain ⟨p1, b1, r1⟩ := x
      rw [e] at h1
      simp only [Option.map_some, Option.some.injEq, Prod.mk.injEq] at h1
      obtain ⟨rfl, _, _⟩ := h1
      show splitAtGen (.ret k h g l c p kp :: p1) = none
      unfold splitAtGen
      rw [split_pre e]
      rfl
theorem no_unsup {M : Model} {Γ : Ctx} {p : Pos} {w : String} {fs : List Frame} {s s' : Shared} {e : End} (h : Runs M Γ p (.unsupported w) fs s e s') : False := by
  generalize ht : (Sem.unsupported w : Sem PySem.Fin) = t at h
  induction h <;> first | (cases ht; done) | (rename_i ih _; exact ih ht) | (rename_i ih; exact ih ht) | (rename_i ih _ _; exact ih ht) | (rename_i ih _ _ _; exact ih ht)

theorem off_of {F : Nat → Option GenState} {G G' : Array GenState} {g : Nat} {x : GenState} (hx : ∀ i x, F i = some x → isSusp x = true) (rr : GR F G G') (hg : G'[g]? = some x) (hn : isSusp x = false) : F g = none := by
  cases hF : F g with
  | none => rfl
  | some y =>
    obtain ⟨_, q2⟩ := rr.on g y hF
    have h1 := hx g y hF
    rw [hg] at q2
    have q3 := Option.some.inj q2
    subst q3
    cases y <;> first | exact absurd h1 Bool.false_ne_true | exact absurd hn (fun z => Bool.noConfusion z)
/-- the same run, the sleeping generators as they are -/
theorem runs_stub {M : Model} {Γ : Ctx} {p : Pos} {t : Sem PySem.Fin} {fs : List Frame} {s s' : Shared} {e : End} (h : Runs M Γ p t fs s e s') :
    ∀ (F : Nat → Option GenState) (G : Array GenState), (∀ i, s.gens.size ≤ i → F i = none) → (∀ i x, F i = some x → isSusp x = true) → GR F G s.gens → Good F s.gens → splitAtGen fs = none →
      ∃ G', Runs M Γ p t fs { s with gens := G } e { s' with gens := G' } ∧ GR F G' s'.gens ∧ Good F s'.gens ∧ EGood e ∧ s.gens.size ≤ s'.gens.size := by
  induction h with
  | done => intro F G hs hx r g _; exact ⟨G, .done, r, g, trivial, Nat.le_refl _⟩
  | raise => intro F G hs hx r g _; exact ⟨G, .raise, r, g, trivial, Nat.le_refl _⟩
  | again hq _ ih => intro F G hs hx r g hf; obtain ⟨G', h1, h2⟩ := ih F G hs hx r g hf; exact ⟨G', .again hq h1, h2⟩
  | rule _ ih => intro F G hs hx r g hf; obtain ⟨G', h1, h2⟩ := ih F G hs hx r g hf; exact ⟨G', .rule h1, h2⟩
  | «at» _ ih => intro F G hs hx r g hf; obtain ⟨G', h1, h2⟩ := ih F G hs hx r g hf; exact ⟨G', .at h1, h2⟩
  | load ho _ ih => intro F G hs hx r g hf; obtain ⟨G', h1, h2⟩ := ih F G hs hx r g hf; exact ⟨G', .load ho h1, h2⟩
  | update ho _ ih => intro F G hs hx r g hf; obtain ⟨G', h1, h2⟩ := ih F G hs hx r g hf; exact ⟨G', .update ho h1, h2⟩
  | loadIfAlive _ ih => intro F G hs hx r g hf; obtain ⟨G', h1, h2⟩ := ih F G hs hx r g hf; exact ⟨G', .loadIfAlive h1, h2⟩
  | point _ ih => intro F G hs hx r g hf; obtain ⟨G', h1, h2⟩ := ih F G hs hx r g hf; exact ⟨G', .point h1, h2⟩
  | alloc _ ih => intro F G hs hx r g hf; obtain ⟨G', h1, h2⟩ := ih F G hs hx r g hf; exact ⟨G', .alloc h1, h2⟩
  | fresh _ ih => intro F G hs hx r g hf; obtain ⟨G', h1, h2⟩ := ih F G hs hx r g hf; exact ⟨G', .fresh h1, h2⟩
  | ask _ ih => intro F G hs hx r g hf; obtain ⟨G', h1, h2⟩ := ih F G hs hx r g hf; exact ⟨G', .ask h1, h2⟩
  | choose hn _ ih => intro F G hs hx r g hf; obtain ⟨G', h1, h2⟩ := ih F G hs hx r g hf; exact ⟨G', .choose hn h1, h2⟩
  | os _ ih => intro F G hs hx r g hf; obtain ⟨G', h1, h2⟩ := ih F G hs hx r g hf; exact ⟨G', .os h1, h2⟩
  | handled _ ih => intro F G hs hx r g hf; obtain ⟨G', h1, h2⟩ := ih F G hs hx r g hf; exact ⟨G', .handled h1, h2⟩
  | stack _ ih => intro F G hs hx r g hf; obtain ⟨G', h1, h2⟩ := ih F G hs hx r g hf; exact ⟨G', .stack h1, h2⟩
  | thread _ ih => intro F G hs hx r g hf; obtain ⟨G', h1, h2⟩ := ih F G hs hx r g hf; exact ⟨G', .thread h1, h2⟩
  | genState hg _ ih =>
    rename_i g0 st Γ p k s e s' _
    intro F G hs hx r g hf
    obtain ⟨G', h1, h2⟩ := ih F G hs hx r g hf
    cases hF : F g0 with
    | none => exact ⟨G', .genState (st := st) ((r.off g0 hF).trans hg) h1, h2⟩
    | some x =>
      obtain ⟨q1, q2⟩ := r.on g0 x hF
      rw [hg] at q2
      cases q2
      rw [stub_seen] at h1
      exact ⟨G', .genState (st := x) q1 h1, h2⟩
  | newGen _ ih =>
    intro F G hs hx r g hf
    obtain ⟨G', h1, h2, h3, h4, h5⟩ := ih F (G.push (.fresh _)) (fun i hi => hs i (by have hi : (Array.push _ _).size ≤ i := hi; rw [Array.size_push] at hi; omega)) hx (r.push (by rw [r.size]; exact hs) _) g.push hf
    have h5 : (Array.push _ _).size ≤ _ := h5
    rw [Array.size_push] at h5
    refine ⟨G', .newGen ?_, h2, h3, h4, by omega⟩
    dsimp only
    rw [r.size]
    exact h1
  | @call Γ p c h g l k s r s₁ e s' _ _ ih1 ih2 =>
    intro F G hs hx rr gg hf
    obtain ⟨G1, a1, a2, a3, _, a5⟩ := ih1 F G hs hx rr gg rfl
    obtain ⟨G2, b1, b2, b3, b4, b5⟩ := ih2 F G1 (fun i hi => hs i (Nat.le_trans a5 hi)) hx a2 a3 hf
    exact ⟨G2, .call a1 b1, b2, b3, b4, Nat.le_trans a5 b5⟩
  | @callSusp Γ p c h g l k s v g₀ l₀ k₀ c₀ p₀ fs s' _ ih1 =>
    intro F G hs hx rr gg hf
    obtain ⟨G1, a1, a2, a3, a4, a5⟩ := ih1 F G hs hx rr gg rfl
    exact ⟨G1, .callSusp a1, a2, a3, split_app a4 rfl, a5⟩
  | yield => intro F G hs hx r g _; exact ⟨G, .yield, r, g, rfl, Nat.le_refl _⟩
  | @resumeFresh Γ p g0 l k s c e₁ s₁ e s' hg _ hq _ ih1 ih2 =>
    intro F G hs hx rr gg hf
    have hF := off_of hx rr hg rfl
    obtain ⟨G1, a1, a2, a3, a4, a5⟩ := ih1 F (G.setIfInBounds g0 .running) (fun i hi => hs i (by have hi : (s.gens.setIfInBounds g0 .running).size ≤ i := hi; rw [Array.size_setIfInBounds] at hi; exact hi)) hx (rr.set hF _) (gg.set fun _ _ _ _ _ _ z => by cases z) rfl
    have a5 : s.gens.size ≤ s₁.gens.size := by have a5 : (s.gens.setIfInBounds g0 .running).size ≤ _ := a5; rw [Array.size_setIfInBounds] at a5; exact a5
    obtain ⟨G2, b1, b2, b3, b4, b5⟩ := ih2 F (G1.setIfInBounds g0 e₁.genState) (fun i hi => hs i (by have hi : (s₁.gens.setIfInBounds g0 e₁.genState).size ≤ i := hi; rw [Array.size_setIfInBounds] at hi; omega)) hx (a2.set hF _) (a3.set fun _ _ _ _ _ _ z => by
      cases e₁ with
      | ret r => cases z
      | susp v g l k c p fs => cases z; exact a4) hf
    have b5 : s₁.gens.size ≤ s'.gens.size := by have b5 : (s₁.gens.setIfInBounds g0 e₁.genState).size ≤ _ := b5; rw [Array.size_setIfInBounds] at b5; exact b5
    exact ⟨G2, .resumeFresh ((rr.off _ hF).trans hg) a1 hq b1, b2, b3, b4, Nat.le_trans a5 b5⟩
  | @resumeSuspended Γ p g0 r l k s k₀ l₀ c₀ p₀ fs cl e₁ s₁ e s' hg hr hq _ ih1 ih2 =>
    intro F G hs hx rr gg hf
    have hF : F g0 = none := by
      cases hF : F g0 with
      | none => rfl
      | some x =>
        obtain ⟨_, q2⟩ := rr.on g0 x hF
        rw [hg] at q2
        cases x with
        | suspended k1 l1 c1 p1 fs1 cl1 =>
          cases q2
          exact (no_unsup hr).elim
        | fresh c => exact absurd (hx g0 _ hF) (fun z => Bool.noConfusion z)
        | running => exact absurd (hx g0 _ hF) (by decide)
        | finished => exact absurd (hx g0 _ hF) (by decide)
    obtain ⟨G1, a1, a2, a3, a4, a5⟩ := ih1 F (G.setIfInBounds g0 .running) (fun i hi => hs i (by have hi : (s.gens.setIfInBounds g0 .running).size ≤ i := hi; rw [Array.size_setIfInBounds] at hi; exact hi)) hx (rr.set hF _) (gg.set fun _ _ _ _ _ _ z => by cases z) (gg g0 hF _ _ _ _ _ _ hg)
    have a5 : s.gens.size ≤ s₁.gens.size := by have a5 : (s.gens.setIfInBounds g0 .running).size ≤ _ := a5; rw [Array.size_setIfInBounds] at a5; exact a5
    obtain ⟨G2, b1, b2, b3, b4, b5⟩ := ih2 F (G1.setIfInBounds g0 e₁.genState) (fun i hi => hs i (by have hi : (s₁.gens.setIfInBounds g0 e₁.genState).size ≤ i := hi; rw [Array.size_setIfInBounds] at hi; omega)) hx (a2.set hF _) (a3.set fun _ _ _ _ _ _ z => by
      cases e₁ with
      | ret r => cases z
      | susp v g l k c p fs => cases z; exact a4) hf
    have b5 : s₁.gens.size ≤ s'.gens.size := by have b5 : (s₁.gens.setIfInBounds g0 e₁.genState).size ≤ _ := b5; rw [Array.size_setIfInBounds] at b5; exact b5
    exact ⟨G2, .resumeSuspended ((rr.off _ hF).trans hg) a1 hq b1, b2, b3, b4, Nat.le_trans a5 b5⟩
  | resumeJustStarted hg hv _ ih =>
    intro F G hs hx rr gg hf
    have hF := off_of hx rr hg rfl
    obtain ⟨G', h1, h2⟩ := ih F G hs hx rr gg hf
    exact ⟨G', .resumeJustStarted ((rr.off _ hF).trans hg) hv h1, h2⟩
  | resumeThrowFresh hg _ ih =>
    intro F G hs hx rr gg hf
    have hF := off_of hx rr hg rfl
    obtain ⟨G', h1, h2, h3, h4, h5⟩ := ih F (G.setIfInBounds _ .finished) (fun i hi => hs i (by have hi : (Array.setIfInBounds _ _ _).size ≤ i := hi; rw [Array.size_setIfInBounds] at hi; exact hi)) hx (rr.set hF _) (gg.set fun _ _ _ _ _ _ z => by cases z) hf
    exact ⟨G', .resumeThrowFresh ((rr.off _ hF).trans hg) h1, h2, h3, h4, by have h5 : (Array.setIfInBounds _ _ _).size ≤ _ := h5; rw [Array.size_setIfInBounds] at h5; exact h5⟩
  | resumeRunning hg _ ih =>
    intro F G hs hx rr gg hf
    have hF := off_of hx rr hg rfl
    obtain ⟨G', h1, h2⟩ := ih F G hs hx rr gg hf
    exact ⟨G', .resumeRunning ((rr.off _ hF).trans hg) h1, h2⟩
  | resumeFinished hg _ ih =>
    intro F G hs hx rr gg hf
    have hF := off_of hx rr hg rfl
    obtain ⟨G', h1, h2⟩ := ih F G hs hx rr gg hf
    exact ⟨G', .resumeFinished ((rr.off _ hF).trans hg) h1, h2⟩
  | segRet _ _ ih1 ih2 =>
    intro F G hs hx rr gg hf
    obtain ⟨G1, a1, a2, a3, _, a5⟩ := ih1 F G hs hx rr gg rfl
    obtain ⟨G2, b1, b2, b3, b4, b5⟩ := ih2 F G1 (fun i hi => hs i (Nat.le_trans a5 hi)) hx a2 a3 (split_tail hf)
    exact ⟨G2, .segRet a1 b1, b2, b3, b4, Nat.le_trans a5 b5⟩
  | segGen _ _ _ _ => intro F G hs hx rr gg hf; simp [splitAtGen] at hf
  | segSuspOut hsp _ ih1 =>
    intro F G hs hx rr gg hf
    obtain ⟨G1, a1, a2, a3, a4, a5⟩ := ih1 F G hs hx rr gg rfl
    exact ⟨G1, .segSuspOut hsp a1, a2, a3, split_app a4 hf, a5⟩
  | segSuspGen hsp _ _ _ _ _ => intro F G hs hx rr gg hf; rw [hsp] at hf; cases hf

theorem returns_stub {M : Model} {Γ : Ctx} {p : Pos} {s s' : Shared} {r : Result} (h : Returns M Γ p s r s') {F : Nat → Option GenState} {G : Array GenState} (hs : ∀ i, s.gens.size ≤ i → F i = none) (hx : ∀ i x, F i = some x → isSusp x = true) (rr : GR F G s.gens) (gg : Good F s.gens) :
    ∃ G', Returns M Γ p { s with gens := G } r { s' with gens := G' } ∧ GR F G' s'.gens ∧ Good F s'.gens ∧ s.gens.size ≤ s'.gens.size := by
  obtain ⟨G', h1, h2, h3, _, h5⟩ := runs_stub h F G hs hx rr gg rfl
  exact ⟨G', h1, h2, h3, h5⟩
theorem wakes_stub {M : Model} {Γ : Ctx} {p : Pos} {g : Nat} {r : Resume} {s s' : Shared} {res : GenResult} (h : Wakes M Γ p g r s res s') {F : Nat → Option GenState} {G : Array GenState} (hs : ∀ i, s.gens.size ≤ i → F i = none) (hx : ∀ i x, F i = some x → isSusp x = true) (rr : GR F G s.gens) (gg : Good F s.gens) :
    ∃ G', Wakes M Γ p g r { s with gens := G } res { s' with gens := G' } ∧ GR F G' s'.gens ∧ Good F s'.gens ∧ s.gens.size ≤ s'.gens.size := by
  -- through the run of a tree that wakes it and is done
  have key : Runs M Γ p (.resume g r [] fun _ => .pure (.done .next)) [] s (.ret (.ok .next)) s' ∧ True := ⟨(Sem.runs_resume_iff M Γ).mpr ⟨res, s', h, .done⟩, trivial⟩
  unfold Wakes at h ⊢
  cases hg : s.gens[g]? with
  | none => rw [hg] at h; exact h.elim
  | some st =>
    rw [hg] at h
    cases st with
    | fresh c =>
      have hF := off_of hx rr hg rfl
      have e : G[g]? = some (.fresh c) := (rr.off g hF).trans hg
      have e' : ({ s with gens := G } : Shared).gens[g]? = some (.fresh c) := e
      rw [e']
      cases r with
      | send v =>
        by_cases hv : v = .none
        · subst hv
          obtain ⟨e₁, s₁, h1, hq, rfl, rfl⟩ := h
          obtain ⟨G1, a1, a2, a3, a4, a5⟩ := runs_stub h1 F (G.setIfInBounds g .running) (fun i hi => hs i (by have hi : (s.gens.setIfInBounds g .running).size ≤ i := hi; rw [Array.size_setIfInBounds] at hi; exact hi)) hx (rr.set hF _) (gg.set fun _ _ _ _ _ _ z => by cases z) rfl
          have a5 : s.gens.size ≤ s₁.gens.size := by have a5 : (s.gens.setIfInBounds g .running).size ≤ _ := a5; rw [Array.size_setIfInBounds] at a5; exact a5
          refine ⟨G1.setIfInBounds g e₁.genState, ⟨e₁, _, a1, hq, rfl, rfl⟩, a2.set hF _, a3.set fun _ _ _ _ _ _ z => by
            cases e₁ with
            | ret r => cases z
            | susp v g l k c p fs => cases z; exact a4, ?_⟩
          show s.gens.size ≤ (s₁.gens.setIfInBounds g e₁.genState).size
          rw [Array.size_setIfInBounds]
          exact a5
        · have h' : res = .justStarted ∧ s' = s := by cases v <;> first | exact absurd rfl hv | exact h
          obtain ⟨rfl, rfl⟩ := h'
          refine ⟨G, ?_, rr, gg, Nat.le_refl _⟩
          cases v <;> first | exact absurd rfl hv | exact ⟨rfl, rfl⟩
      | throw x =>
        obtain ⟨rfl, rfl⟩ := h
        refine ⟨G.setIfInBounds g .finished, ⟨rfl, rfl⟩, rr.set hF _, gg.set fun _ _ _ _ _ _ z => by (cases z), ?_⟩
        show s.gens.size ≤ (s.gens.setIfInBounds g .finished).size
        rw [Array.size_setIfInBounds]
        exact Nat.le_refl _
    | suspended k l c p0 fs cl =>
      have hF : F g = none := by
        cases hF : F g with
        | none => rfl
        | some x =>
          obtain ⟨_, q2⟩ := rr.on g x hF
          rw [hg] at q2
          have q3 := Option.some.inj q2
          cases x with
          | suspended k1 l1 c1 p1 fs1 cl1 =>
            obtain ⟨rfl, _⟩ := GenState.suspended.inj q3
            obtain ⟨_, _, hr, _⟩ := h
            exact (no_unsup hr).elim
          | fresh c => exact absurd (hx g _ hF) (fun z => Bool.noConfusion z)
          | running => exact absurd (hx g _ hF) (fun z => Bool.noConfusion z)
          | finished => exact absurd (hx g _ hF) (fun z => Bool.noConfusion z)
      have e : G[g]? = some (.suspended k l c p0 fs cl) := (rr.off g hF).trans hg
      have e' : ({ s with gens := G } : Shared).gens[g]? = some (.suspended k l c p0 fs cl) := e
      rw [e']
      obtain ⟨e₁, s₁, h1, hq, rfl, rfl⟩ := h
      obtain ⟨G1, a1, a2, a3, a4, a5⟩ := runs_stub h1 F (G.setIfInBounds g .running) (fun i hi => hs i (by have hi : (s.gens.setIfInBounds g .running).size ≤ i := hi; rw [Array.size_setIfInBounds] at hi; exact hi)) hx (rr.set hF _) (gg.set fun _ _ _ _ _ _ z => by cases z) (gg g hF _ _ _ _ _ _ hg)
      have a5 : s.gens.size ≤ s₁.gens.size := by have a5 : (s.gens.setIfInBounds g .running).size ≤ _ := a5; rw [Array.size_setIfInBounds] at a5; exact a5
      refine ⟨G1.setIfInBounds g e₁.genState, ⟨e₁, _, a1, hq, rfl, rfl⟩, a2.set hF _, a3.set fun _ _ _ _ _ _ z => by
        cases e₁ with
        | ret r => cases z
        | susp v g l k c p fs => cases z; exact a4, ?_⟩
      show s.gens.size ≤ (s₁.gens.setIfInBounds g e₁.genState).size
      rw [Array.size_setIfInBounds]
      exact a5
    | running =>
      have hF := off_of hx rr hg rfl
      have e' : ({ s with gens := G } : Shared).gens[g]? = some .running := (rr.off g hF).trans hg
      rw [e']
      obtain ⟨rfl, rfl⟩ := h
      exact ⟨G, ⟨rfl, rfl⟩, rr, gg, Nat.le_refl _⟩
    | finished =>
      have hF := off_of hx rr hg rfl
      have e' : ({ s with gens := G } : Shared).gens[g]? = some .finished := (rr.off g hF).trans hg
      rw [e']
      obtain ⟨rfl, rfl⟩ := h
      exact ⟨G, ⟨rfl, rfl⟩, rr, gg, Nat.le_refl _⟩

/-- what is left behind a stubbed run -/
def Un (F : Nat → Option GenState) {α : Type} (Q : α → Shared → Prop) (a : α) (s : Shared) : Prop := ∃ s', GR F s.gens s'.gens ∧ Good F s'.gens ∧ s = { s' with gens := s.gens } ∧ Q a s'
theorem wp_stub {α : Type} (M : Model) (Γ : Ctx) (F : Nat → Option GenState) (hx : ∀ i x, F i = some x → isSusp x = true) (t : Sem α) : ∀ (Q : α → Pos → Shared → Prop) (E : Value → Pos → Shared → Prop) (p : Pos) (s : Shared) (G : Array GenState),
    (∀ i, s.gens.size ≤ i → F i = none) → GR F G s.gens → Good F s.gens → wp M Γ t Q E p s →
    wp M Γ t (fun a p' s' => Un F (fun a s => Q a p' s) a s') (fun e p' s' => Un F (fun e s => E e p' s) e s') p { s with gens := G } := by
  induction t with
  | pure a => intro Q E p s G hs rr gg h; exact ⟨s, rr, gg, rfl, h⟩
  | raise e => intro Q E p s G hs rr gg h; exact ⟨s, rr, gg, rfl, h⟩
  | unsupported _ => intro Q E p s G hs rr gg h; exact h
  | finish _ => intro Q E p s G hs rr gg h; exact h
  | rule _ k ih => intro Q E p s G hs rr gg h; exact ih () Q E p s G hs rr gg h
  | «at» p' k ih => intro Q E p s G hs rr gg h; exact ih () Q E p' s G hs rr gg h
  | load a _ k ih => intro Q E p s G hs rr gg h; obtain ⟨o, ho, h⟩ := h; exact ⟨o, ho, ih o Q E p s G hs rr gg h⟩
  | update a _ f k ih => intro Q E p s G hs rr gg h; exact ⟨h.1, ih () Q E p { s with heap := s.heap.update a f } G hs rr gg h.2⟩
  | loadIfAlive a k ih => intro Q E p s G hs rr gg h; exact ih _ Q E p s G hs rr gg h
  | point _ k ih => intro Q E p s G hs rr gg h; exact ih () Q E p s G hs rr gg h
  | register _ _ => intro Q E p s G hs rr gg h; exact h
  | alloc o k ih => intro Q E p s G hs rr gg h; exact ih s.heap.objs.size Q E p { s with heap := s.heap.push o } G hs rr gg h
  | fresh k ih => intro Q E p s G hs rr gg h; exact ih s.toks Q E p { s with toks := s.toks + 1 } G hs rr gg h
  | ask k ih => intro Q E p s G hs rr gg h; exact ih _ Q E p s G hs rr gg h
  | choose src m k ih => intro Q E p s G hs rr gg h; exact ⟨h.1, ih _ Q E p { s with drawn := s.drawn.bump src } G hs rr gg h.2⟩
  | os q _ k ih => intro Q E p s G hs rr gg h; exact ih (Os.step s.os q).2 Q E p { s with os := (Os.step s.os q).1 } G hs rr gg h
  | call c hd _ _ k ih =>
    intro Q E p s G hs rr gg h
    obtain ⟨r, s', hr, h⟩ := h
    obtain ⟨G', h1, h2, h3, h4⟩ := returns_stub hr hs hx rr gg
    exact ⟨r, _, h1, ih r Q E p s' G' (fun i hi => hs i (Nat.le_trans h4 hi)) h2 h3 h⟩
  | handled own k ih => intro Q E p s G hs rr gg h; exact ih _ Q E p s G hs rr gg h
  | genState g k ih =>
    intro Q E p s G hs rr gg h
    obtain ⟨st, hg, h⟩ := h
    cases hF : F g with
    | none => exact ⟨st, (rr.off g hF).trans hg, ih _ Q E p s G hs rr gg h⟩
    | some x =>
      obtain ⟨q1, q2⟩ := rr.on g x hF
      rw [hg] at q2
      cases q2
      rw [stub_seen] at h
      exact ⟨x, q1, ih _ Q E p s G hs rr gg h⟩
  | newGen c k ih =>
    intro Q E p s G hs rr gg h
    have h1 := ih s.gens.size Q E p { s with gens := s.gens.push (.fresh c) } (G.push (.fresh c)) (fun i hi => hs i (by have hi : (s.gens.push (.fresh c)).size ≤ i := hi; rw [Array.size_push] at hi; omega)) (rr.push (by rw [rr.size]; exact hs) _) gg.push h
    show wp M Γ (k G.size) _ _ p { s with gens := G.push (.fresh c) }
    rw [rr.size]
    exact h1
  | resume g r _ k ih =>
    intro Q E p s G hs rr gg h
    obtain ⟨res, s', hw, h⟩ := h
    obtain ⟨G', h1, h2, h3, h4⟩ := wakes_stub hw hs hx rr gg
    exact ⟨res, _, h1, ih res Q E p s' G' (fun i hi => hs i (Nat.le_trans h4 hi)) h2 h3 h⟩
  | yield _ _ _ _ => intro Q E p s G hs rr gg h; exact h
  | stack k ih => intro Q E p s G hs rr gg h; exact ih _ Q E p s G hs rr gg h
  | fork _ _ => intro Q E p s G hs rr gg h; exact h
  | thread k ih => intro Q E p s G hs rr gg h; exact ih _ Q E p s G hs rr gg h
  | await _ _ _ _ _ => intro Q E p s G hs rr gg h; exact h

/-- all sleepers of a table -/
def slp (G : Array GenState) : Nat → Option GenState := fun i => match G[i]? with
  | some x => if isSusp x then some x else none
  | none => none
theorem slp_some {G : Array GenState} {i : Nat} {x : GenState} (h : slp G i = some x) : G[i]? = some x ∧ isSusp x = true := by
  unfold slp at h
  cases e : G[i]? with
  | none => rw [e] at h; cases h
  | some y =>
    rw [e] at h
    dsimp only at h
    split at h
    · cases h; exact ⟨rfl, by assumption⟩
    · cases h
theorem slp_of {G : Array GenState} {i : Nat} {x : GenState} (h : G[i]? = some x) (hs : isSusp x = true) : slp G i = some x := by
  unfold slp
  rw [h]
  dsimp only
  rw [if_pos hs]
theorem stub_id {x : GenState} (h : isSusp x = false) : stub x = x := by
  cases x <;> first | rfl | exact Bool.noConfusion h
def stubs (s : Shared) : Shared := { s with gens := s.gens.map stub }
theorem gr_stubs (s : Shared) : GR (slp s.gens) s.gens (stubs s).gens := by
  refine ⟨(Array.size_map ..).symm, fun i hi => ?_, fun i x hi => ?_⟩
  · show s.gens[i]? = (s.gens.map stub)[i]?
    rw [Array.getElem?_map]
    cases e : s.gens[i]? with
    | none => rfl
    | some x =>
      have : isSusp x = false := by
        cases hb : isSusp x with
        | false => rfl
        | true => rw [slp_of e hb] at hi; cases hi
      rw [Option.map_some, stub_id this]
  · obtain ⟨h1, h2⟩ := slp_some hi
    refine ⟨h1, ?_⟩
    show (s.gens.map stub)[i]? = _
    rw [Array.getElem?_map, h1]
    rfl
theorem good_stubs (s : Shared) : Good (slp s.gens) (stubs s).gens := by
  intro i hi k l c p fs cl e
  have h1 := (gr_stubs s).off i hi
  rw [e] at h1
  rw [slp_of h1 rfl] at hi
  cases hi
theorem bare_stubs (s : Shared) : AllBare (stubs s).gens := by
  intro x hx
  have hx : x ∈ s.gens.map stub := hx
  rw [Array.mem_map] at hx
  obtain ⟨y, hy, rfl⟩ := hx
  exact stub_bare y
/-- how the table stands behind a stubbed run -/
structure Kept (s s2 : Shared) : Prop where
  size : s.gens.size ≤ s2.gens.size
  keep : ∀ (i : Nat) (x : GenState), s.gens[i]? = some x → isSusp x = true → s2.gens[i]? = some x
  bare : ∀ (i : Nat) (y : GenState), s2.gens[i]? = some y → y.bare = true ∨ (s.gens[i]? = some y ∧ isSusp y = true)
/-- the frame rule of the sleeping generators: run with all of them stubbed; behind, each stands as before -/
theorem wpAny_stub {α : Type} {M : Model} {A : Around} {s : Shared} {t : Sem α} {Q : α → Shared → Prop} {E : Value → Shared → Prop}
    (h : wpAny M A t (fun a s' => AllBare s'.gens ∧ ∀ s2 : Shared, s2 = { s' with gens := s2.gens } → Kept s s2 → Q a s2)
      (fun e s' => AllBare s'.gens ∧ ∀ s2 : Shared, s2 = { s' with gens := s2.gens } → Kept s s2 → E e s2) (stubs s)) : wpAny M A t Q E s := by
  refine GenW.wpAny_gsz (Nat.le_refl s.gens.size) ?_
  intro Γ p hΓ
  have h0 : ∀ i, (stubs s).gens.size ≤ i → slp s.gens i = none := fun i hi => by
    have e : s.gens[i]? = none := Array.getElem?_eq_none_iff.mpr (by rw [(gr_stubs s).size]; exact hi)
    unfold slp
    rw [e]
  have h1 := wp_stub M Γ (slp s.gens) (fun i x z => (slp_some z).2) t _ _ p (stubs s) s.gens h0 (gr_stubs s) (good_stubs s) (h Γ p hΓ)
  have e0 : ({ stubs s with gens := s.gens } : Shared) = s := rfl
  rw [e0] at h1
  have hk : ∀ {s' s2 : Shared}, GR (slp s.gens) s2.gens s'.gens → AllBare s'.gens → s.gens.size ≤ s2.gens.size → Kept s s2 := fun {s' s2} r hB hz => by
    refine ⟨hz, fun i x e q => (r.on i x (slp_of e q)).1, fun i y e => ?_⟩
    cases hF : slp s.gens i with
    | none =>
      have e' := r.off i hF
      rw [e] at e'
      exact .inl (hB _ (Array.mem_of_getElem? e'.symm))
    | some x =>
      obtain ⟨q1, _⟩ := r.on i x hF
      rw [e] at q1
      cases q1
      exact .inr (slp_some hF)
  refine Sem.wp_mono M Γ t (fun a p' s2 q => ?_) (fun e p' s2 q => ?_) p s h1
  · obtain ⟨s', r, g, e, hB, q⟩ := q
    exact fun hz => q s2 e (hk r hB hz)
  · obtain ⟨s', r, g, e', hB, q⟩ := q
    exact fun hz => q s2 e' (hk r hB hz)
end GStub
end SGStub
section SGSched
set_option linter.all false
set_option maxRecDepth 100000
/-! the machine where a generator sleeps over another one: one thread's steps, from the trees' machine to the scheduler's -/
namespace GX
open PySem

section
variable (den : Code → Sem PySem.Fin) (prog : Program) (w : World)
def Sleepy (s : Shared) (t : Thread) : Prop := ∃ v l k a args kw, t.cur = .yield v true l k ∧ t.code = .builtin "proto.yield_from" ⟨.ref a :: args, kw⟩ ∧
  (∀ x, splitAtGen t.stack = some x → x.1.any Frame.guarded = false) ∧ ∃ o, s.heap.get? a = some o ∧ o.genNumber?.isSome = true
def Okay (s : Shared) (t : Thread) : Prop := t.calm = true ∨ Sleepy s t

theorem lifeStep_sleepy {others : List Value} {s : Shared} {t : Thread} (hz : s.asleep) (h : Sleepy s t) : lifeStep den prog w others s t = step den prog w s t := by
  obtain ⟨hr, hc⟩ := hz
  obtain ⟨v, l, k, a, args, kw, e1, e2, e3, o, ho, hg⟩ := h
  obtain ⟨cur, code, pos, stack⟩ := t
  dsimp only at e1 e2 e3
  subst e1 e2
  have hd : delegateShows s (.ref a) = false := by
    cases e : o.genNumber? with
    | none => rw [e] at hg; cases hg
    | some n => simp [delegateShows, ho, e, hr]
  have hsp : Thread.special ⟨.yield v true l k, .builtin "proto.yield_from" ⟨.ref a :: args, kw⟩, pos, stack⟩ = true := by
    simp [Thread.special, Thread.yieldsInsideHandler]
  unfold lifeStep
  rw [if_pos hsp]
  dsimp only
  have hct : collectorTurn? w.params others s ⟨.yield v true l k, .builtin "proto.yield_from" ⟨.ref a :: args, kw⟩, pos, stack⟩ = none := rfl
  rw [hct]
  dsimp only
  have hend : Thread.atItsEnd ⟨.yield v true l k, .builtin "proto.yield_from" ⟨.ref a :: args, kw⟩, pos, stack⟩ = false := rfl
  rw [hend]
  cases hs : splitAtGen stack with
  | none =>
    simp [stepCounting, hc]
  | some x =>
    obtain ⟨fs, b, rest⟩ := x
    have h3 := e3 _ hs
    have hsh : closingShows s fs (.builtin "proto.yield_from" ⟨.ref a :: args, kw⟩) true = false := by
      simp [closingShows, h3, hd]
    simp [hsh, stepCounting, hc]
theorem pick_sleepy {s : Shared} {t : Thread} (hr : s.asleep) (h : Sleepy s t) : (Config.single s t).pick w = .ok (.run 0, .single s t) := by
  have h1 : (Config.single s t).collect? w.params = none := by
    simp [Config.collect?, Config.single, (nothing_to_collect _ _ _ s t hr.1).1]
  have h2 : (Config.single s t).collectable = [] := by
    simp [Config.collectable, Config.single, (nothing_to_collect w.params _ _ s t hr.1).2]
  have h3 : (Config.single s t).moves w.params.profile = [.run 0] := by
    obtain ⟨v, l, k, a, args, kw, e1, _⟩ := h
    obtain ⟨cur, code, pos, stack⟩ := t
    dsimp only at e1
    subst e1
    simp [Config.moves, Config.single, movesFrom, Thread.moves]
  simp only [Config.pick, h1, h2, Config.pickThread, h3]
  cases w.params.lifetimes <;> simp
theorem run_sleepy {s : Shared} {t : Thread} (hr : s.asleep) (h : Sleepy s t) : (Config.single s t).run den prog w 0 = (step den prog w s t).lift := by
  have hl := fun others => lifeStep_sleepy den prog w (others := others) hr h
  obtain ⟨v, l, k, a, args, kw, e1, _⟩ := h
  obtain ⟨cur, code, pos, stack⟩ := t
  dsimp only at e1
  subst e1
  simp only [Config.run, Config.single]
  simp [hl, others_single, frozenBadly, ThreadState.insideWrite, Thread.finalizes]
  split <;> simp_all [Step.lift, Config.single]
theorem sstep_okay {s : Shared} {t : Thread} (hr : s.asleep) (h : Okay s t) (hx : step den prog w s t ≠ .halt (.unsupported "lifetime:generator-with-cleanup-left-suspended") s) :
    sstep den prog w (.single s t) = (step den prog w s t).lift := by
  rcases h with h | h
  · exact (sstep_single den prog w s t h hr).resolve_right hx
  · simp only [sstep, pick_sleepy w hr h, Config.move, run_sleepy den prog w hr h]

/-- steps of the machine that keeps nothing aside, each of them okay -/
inductive KS : Shared → Thread → Shared → Thread → Prop
  | refl {s t} : KS s t s t
  | step {s t s1 t1 s2 t2} : Okay s t → stepK den prog w s t = .go s1 t1 → KS s1 t1 s2 t2 → KS s t s2 t2
variable {den prog w}
theorem KS.trans {s t s1 t1 s2 t2} (h : KS den prog w s t s1 t1) (h2 : KS den prog w s1 t1 s2 t2) : KS den prog w s t s2 t2 := by
  induction h with
  | refl => exact h2
  | step a b _ ih => exact .step a b (ih h2)
theorem KS.one {s t s1 t1} (a : Okay s t) (b : stepK den prog w s t = .go s1 t1) : KS den prog w s t s1 t1 := .step a b .refl
theorem okay_forget {s s' : Shared} {t t' : Thread} (hs : s.forget = s'.forget) (ht : t.forget = t'.forget) (h : Okay s t) : Okay s' t' := by
  obtain ⟨cur, code, pos, stack⟩ := t
  obtain ⟨cur', code', pos', stack'⟩ := t'
  simp only [Thread.forget, Thread.mk.injEq] at ht
  obtain ⟨rfl, rfl, rfl, hst⟩ := ht
  rcases h with h | ⟨v, l, k, a, args, kw, e1, e2, e3, o, ho, hg⟩
  · left
    rw [← Thread.calm_forget] at h ⊢
    simp only [Thread.forget] at h ⊢
    rw [← hst]
    exact h
  · right
    refine ⟨v, l, k, a, args, kw, e1, e2, fun x hx => ?_, o, by rw [← (Shared.forget_eq hs).1]; exact ho, hg⟩
    dsimp only at e3 hx
    have q1 := splitAtGen_forgetAll stack
    have q2 := splitAtGen_forgetAll stack'
    rw [hst, q2, hx] at q1
    cases e : splitAtGen stack with
    | none => rw [e] at q1; cases q1
    | some y =>
      rw [e] at q1
      simp only [Option.map_some, Option.some.injEq, Prod.mk.injEq] at q1
      have h1 := e3 y e
      rw [← any_guarded_forgetAll] at h1 ⊢
      rw [q1.1]
      exact h1
/-- to the scheduler -/
theorem KS.sched {s t s1 t1} (h : KS den prog w s t s1 t1) : ∀ {s' : Shared} {t' : Thread}, s'.asleep → s.forget = s'.forget → t.forget = t'.forget →
    ∃ n s2 t2, s1.forget = s2.forget ∧ t1.forget = t2.forget ∧ s2.asleep ∧ s2.heap.life = s'.heap.life ∧ ∀ m, schedN den prog w (n + m) (.single s' t') = schedN den prog w m (.single s2 t2) := by
  induction h with
  | refl => intro s' t' hr hs ht; exact ⟨0, s', t', hs, ht, hr, rfl, fun m => by rw [Nat.zero_add]⟩
  | @step s t s1 t1 s3 t3 ok hst _ ih =>
    intro s' t' hr hs ht
    have e := (stepK_forget den prog w s t).symm.trans (congrArg Step.forget hst)
    have e2 := (step_same den prog w hs ht).symm.trans e
    cases h2 : PySem.step den prog w s' t' with
    | halt o u => rw [h2] at e2; cases e2
    | go u v =>
      rw [h2] at e2
      simp only [Step.forget, Step.go.injEq] at e2
      have ok' := okay_forget hs ht ok
      have hl : u.heap.life = s'.heap.life := step_life den prog w s' u t' v h2
      obtain ⟨n, s2, t2, a1, a2, a3, a4, a5⟩ := ih (s' := u) (t' := v) (Shared.asleep_of_life hl hr) e2.1.symm e2.2.symm
      refine ⟨n + 1, s2, t2, a1, a2, a3, a4.trans hl, fun m => ?_⟩
      rw [← a5 m, Nat.add_right_comm]
      show schedN den prog w ((n + m) + 1) (.single s' t') = _
      simp only [schedN, sstep_okay den prog w hr ok' (by rw [h2]; intro z; cases z), h2, Step.lift]
theorem KS.ends {s s1 : Shared} {t : Sem PySem.Fin} {c c1 : Code} {p p1 : Pos} {r : Result} (h : KS den prog w s ⟨t, c, p, []⟩ s1 ⟨leafOf r, c1, p1, []⟩) (hr : s.asleep) (hl : leftWithCleanup s1.gens = false) :
    ∃ n s2, schedN den prog w n (.single s ⟨t, c, p, []⟩) = .halted (outcomeOf r) s2 ∧ s2.forget = s1.forget ∧ s2.heap.life = s.heap.life := by
  obtain ⟨n, s2, t2, a1, a2, a3, a4, a5⟩ := h.sched hr rfl rfl
  obtain ⟨cur, code, pos, stack⟩ := t2
  simp only [Thread.forget, Thread.mk.injEq] at a2
  obtain ⟨rfl, rfl, rfl, hst⟩ := a2
  have hst' : stack = [] := by
    cases stack with
    | nil => rfl
    | cons f fs => simp at hst
  subst hst'
  have hl2 : leftWithCleanup s2.gens = false := by rw [← leftWithCleanup_of_forget_eq a1]; exact hl
  have hstep : PySem.step den prog w s2 ⟨leafOf r, c1, p1, []⟩ = .halt (outcomeOf r) s2 := by
    cases r with
    | ok f => simp [leafOf, outcomeOf, PySem.step, finish, hl2]
    | error e => simp [leafOf, outcomeOf, PySem.step, finish, hl2]
  have hcalm : Okay s2 ⟨leafOf r, c1, p1, []⟩ := by
    left
    cases r <;> rfl
  refine ⟨n + 1, s2, ?_, a1.symm, a4⟩
  rw [a5 1]
  show schedN den prog w (0 + 1) _ = _
  simp only [schedN, sstep_okay den prog w a3 hcalm (by rw [hstep]; intro z; cases r <;> (injection z with z1; cases z1)), hstep, Step.lift]
end
end GX
end SGSched
section SGRun
set_option linter.all false
set_option maxRecDepth 100000
/-! what a tree does on the machine, whatever follows it -/
namespace GX
open PySem
open Sem (wp)

theorem wrap_id {α : Type} (m : Sem α) : m.wrap .pure .raise id id = m := by
  induction m with
  | pure _ => rfl
  | raise _ => rfl
  | unsupported _ => rfl
  | finish _ => rfl
  | rule _ _ ih => simp only [Sem.wrap, ih]
  | «at» _ _ ih => simp only [Sem.wrap, ih]
  | load _ _ _ ih => simp only [Sem.wrap, ih]
  | update _ _ _ _ ih => simp only [Sem.wrap, ih]
  | alloc _ _ ih => simp only [Sem.wrap, ih]
  | loadIfAlive _ _ ih => simp only [Sem.wrap, ih]
  | point _ _ ih => simp only [Sem.wrap, ih, id]
  | register _ _ ih => simp only [Sem.wrap, ih]
  | fresh _ ih => simp only [Sem.wrap, ih]
  | ask _ ih => simp only [Sem.wrap, ih]
  | choose _ _ _ ih => simp only [Sem.wrap, ih]
  | os _ _ _ ih => simp only [Sem.wrap, ih, id]
  | call _ _ _ _ _ ih => simp only [Sem.wrap, ih, id]
  | handled _ _ ih => simp only [Sem.wrap, ih]
  | newGen _ _ ih => simp only [Sem.wrap, ih]
  | genState _ _ ih => simp only [Sem.wrap, ih]
  | resume _ _ _ _ ih => simp only [Sem.wrap, ih, id]
  | yield _ _ _ _ ih => simp only [Sem.wrap, ih, id]
  | stack _ ih => simp only [Sem.wrap, ih]
  | fork _ _ ih => simp only [Sem.wrap, ih]
  | thread _ ih => simp only [Sem.wrap, ih]
  | await _ _ _ _ _ ih => simp only [Sem.wrap, ih, id]

abbrev KM (M : Model) : Shared → Thread → Shared → Thread → Prop := KS M.den M.prog M.w
section
variable {M : Model}
theorem go_ks {s s1 : Shared} {t t1 : Thread} (h : M.step s t = .go s1 t1) : KM M s t s1 t1 := by
  cases hl : t.loud with
  | true => rw [M.step_loud hl] at h; cases h
  | false =>
    rw [M.step_quiet hl] at h
    refine KS.one (.inl ?_) h
    rw [Thread.calm_eq, hl]
    cases hr : t.refused with
    | false => rfl
    | true =>
      obtain ⟨what, e⟩ := stepK_refused M.den M.prog M.w (s := s) hr
      rw [e] at h
      cases h
theorem reach_ks {base : List Frame} {s s' : Shared} {t : Sem PySem.Fin} {c : Code} {p : Pos} {pre : List Frame} {e : End} (h : Reach M base s t c p pre s' e) :
    ∃ t' c' p' pre', KM M s ⟨t, c, p, pre ++ base⟩ s' ⟨t', c', p', pre' ++ base⟩ ∧ Exits e t' c' p' pre' := by
  induction h with
  | exit hx => exact ⟨_, _, _, _, .refl, hx⟩
  | step hs _ ih =>
    obtain ⟨t', c', p', pre', h1, h2⟩ := ih
    exact ⟨t', c', p', pre', (go_ks hs).trans h1, h2⟩
/-- a returning run -/
theorem returns_ks {Γ : Ctx} {p : Pos} {s s' : Shared} {r : Result} {st : List Frame} (h : Returns M Γ p s r s') (hf : Γ.Fits st) : ∃ c' p', KM M s ⟨M.den Γ.code, Γ.code, p, st⟩ s' ⟨leafOf r, c', p', st⟩ := by
  obtain ⟨t', c', p', pre', h1, h2, h3⟩ := reach_ks (runs_reach h st hf)
  subst h2 h3
  exact ⟨c', p', h1⟩
theorem wakes_ks {Γ : Ctx} {p : Pos} {g : Nat} {r : Resume} {l : List Value} {k : GenResult → Sem PySem.Fin} {s s' : Shared} {res : GenResult} {st : List Frame} (h : Wakes M Γ p g r s res s') (hf : Γ.Fits st) :
    KM M s ⟨.resume g r l k, Γ.code, p, st⟩ s' ⟨k res, Γ.code, p, st⟩ := by
  unfold Wakes at h
  cases hg : s.gens[g]? with
  | none => rw [hg] at h; exact h.elim
  | some x =>
    rw [hg] at h
    have ending : ∀ {s0 : Shared} {t0 : Sem PySem.Fin} {c0 : Code} {p0 : Pos} {fs : List Frame} {e₁ : End} {s₁ : Shared}, Runs M (Γ.wake c0 p) p0 t0 fs s0 e₁ s₁ → e₁.quiet = true →
        KM M s0 ⟨t0, c0, p0, fs ++ .gen g k l Γ.code p :: st⟩ (s₁.setGen g e₁.genState) ⟨k e₁.result, Γ.code, p, st⟩ := fun {s0 t0 c0 p0 fs e₁ s₁} hr hq => by
      obtain ⟨t', c', p', pre', h1, h2⟩ := reach_ks (runs_reach hr _ (hf.wake c0 g k l p))
      exact h1.trans (go_ks (step_exit_gen s₁ g k l Γ.code p st h2 hq))
    cases x with
    | fresh c =>
      cases r with
      | send v =>
        by_cases hv : v = .none
        · subst hv
          obtain ⟨e₁, s₁, hr, hq, rfl, rfl⟩ := h
          exact (go_ks (step_resume_fresh M s Γ.code p st l k hg)).trans (ending (fs := []) hr hq)
        · have h' : res = .justStarted ∧ s' = s := by cases v <;> first | exact absurd rfl hv | exact h
          obtain ⟨rfl, rfl⟩ := h'
          exact go_ks (step_resume_justStarted M s' Γ.code p st l k hg hv)
      | throw e =>
        obtain ⟨rfl, rfl⟩ := h
        exact go_ks (step_resume_throwFresh M s Γ.code p st e l k hg)
    | suspended k₀ l₀ c₀ p₀ fs cl =>
      obtain ⟨e₁, s₁, hr, hq, rfl, rfl⟩ := h
      exact (go_ks (step_resume_suspended M s Γ.code p st r l k hg)).trans (ending hr hq)
    | running => obtain ⟨rfl, rfl⟩ := h; exact go_ks (step_resume_running M s' Γ.code p st r l k hg)
    | finished => obtain ⟨rfl, rfl⟩ := h; exact go_ks (step_resume_finished M s' Γ.code p st r l k hg)

/-- from the logic's trees to the machine -/
theorem wp_ks {α : Type} {Γ : Ctx} {st : List Frame} (hf : Γ.Fits st) (K : α → Sem PySem.Fin) (H : Value → Sem PySem.Fin) (gd : Bool → Bool) (lv : List Value → List Value) (m : Sem α) :
    ∀ {Q : α → Pos → Shared → Prop} {E : Value → Pos → Shared → Prop} {p : Pos} {s : Shared}, wp M Γ m Q E p s →
      (∃ a p' s', KM M s ⟨m.wrap K H gd lv, Γ.code, p, st⟩ s' ⟨K a, Γ.code, p', st⟩ ∧ Q a p' s') ∨ (∃ e p' s', KM M s ⟨m.wrap K H gd lv, Γ.code, p, st⟩ s' ⟨H e, Γ.code, p', st⟩ ∧ E e p' s') := by
  have pre : ∀ {Q : α → Pos → Shared → Prop} {E : Value → Pos → Shared → Prop} {s s1 : Shared} {t : Thread} {m : Sem α} {p1 : Pos}, KM M s t s1 ⟨m.wrap K H gd lv, Γ.code, p1, st⟩ →
      ((∃ a p' s', KM M s1 ⟨m.wrap K H gd lv, Γ.code, p1, st⟩ s' ⟨K a, Γ.code, p', st⟩ ∧ Q a p' s') ∨ (∃ e p' s', KM M s1 ⟨m.wrap K H gd lv, Γ.code, p1, st⟩ s' ⟨H e, Γ.code, p', st⟩ ∧ E e p' s')) →
      ((∃ a p' s', KM M s t s' ⟨K a, Γ.code, p', st⟩ ∧ Q a p' s') ∨ (∃ e p' s', KM M s t s' ⟨H e, Γ.code, p', st⟩ ∧ E e p' s')) := fun h x =>
    x.imp (fun ⟨a, p', s', h1, h2⟩ => ⟨a, p', s', h.trans h1, h2⟩) fun ⟨a, p', s', h1, h2⟩ => ⟨a, p', s', h.trans h1, h2⟩
  induction m with
  | pure a => intro Q E p s h; exact .inl ⟨a, p, s, .refl, h⟩
  | raise e => intro Q E p s h; exact .inr ⟨e, p, s, .refl, h⟩
  | unsupported _ => intro Q E p s h; exact h.elim
  | finish _ => intro Q E p s h; exact h.elim
  | register _ _ => intro Q E p s h; exact h.elim
  | yield _ _ _ _ => intro Q E p s h; exact h.elim
  | fork _ _ => intro Q E p s h; exact h.elim
  | await _ _ _ _ _ => intro Q E p s h; exact h.elim
  | rule tag k ih => intro Q E p s h; exact pre (go_ks (step_rule M s Γ.code p st tag _)) (ih () h)
  | «at» p' k ih => intro Q E p s h; exact pre (go_ks (step_at M s Γ.code p st p' _)) (ih () h)
  | load a part k ih => intro Q E p s h; obtain ⟨o, ho, h⟩ := h; exact pre (go_ks (step_load M s Γ.code p st part _ ho)) (ih o h)
  | update a part f k ih => intro Q E p s h; obtain ⟨ha, h⟩ := h; exact pre (go_ks (step_update M s Γ.code p st part f _ ha)) (ih () h)
  | loadIfAlive a k ih => intro Q E p s h; exact pre (go_ks (step_loadIfAlive M s Γ.code p st a _)) (ih _ h)
  | point l k ih => intro Q E p s h; exact pre (go_ks (step_point M s Γ.code p st _ _)) (ih () h)
  | alloc o k ih => intro Q E p s h; exact pre (go_ks (step_alloc M s Γ.code p st o _)) (ih _ h)
  | fresh k ih => intro Q E p s h; exact pre (go_ks (step_fresh M s Γ.code p st _)) (ih _ h)
  | ask k ih => intro Q E p s h; exact pre (go_ks (step_ask M s Γ.code p st _)) (ih _ h)
  | choose src n k ih => intro Q E p s h; obtain ⟨hn, h⟩ := h; exact pre (go_ks (step_choose M s Γ.code p st src _ hn)) (ih _ h)
  | os q l k ih => intro Q E p s h; exact pre (go_ks (step_os M s Γ.code p st q _ _)) (ih _ h)
  | call c hd g l k ih =>
    intro Q E p s h
    obtain ⟨r, s1, hr, h⟩ := h
    have hfe := hf.enter c (fun r => (k r).wrap K H gd lv) hd (gd g) (lv l) p []
    obtain ⟨c', p', h1⟩ := returns_ks hr hfe
    exact pre (((go_ks (step_call M s Γ.code p st c hd (gd g) (lv l) fun r => (k r).wrap K H gd lv)).trans h1).trans (go_ks (step_leaf_ret M s1 c' p' st r _ hd (gd g) (lv l) Γ.code p []))) (ih r h)
  | handled own k ih =>
    intro Q E p s h
    have e : (if own then Γ.own else Γ.handled) = topHandled (if own then ownFrames st else st) := by
      cases own
      · exact hf.handled
      · exact hf.own
    have h : wp M Γ (k (if own then Γ.own else Γ.handled)) Q E p s := h
    rw [e] at h
    exact pre (go_ks (step_handled M s Γ.code p st own _)) (ih _ h)
  | newGen c k ih => intro Q E p s h; exact pre (go_ks (step_newGen M s Γ.code p st c _)) (ih _ h)
  | genState g k ih => intro Q E p s h; obtain ⟨x, hg, h⟩ := h; exact pre (go_ks (step_genState M s Γ.code p st _ hg)) (ih _ h)
  | resume g r l k ih => intro Q E p s h; obtain ⟨res, s1, hw, h⟩ := h; exact pre (wakes_ks hw hf) (ih res h)
  | stack k ih =>
    intro Q E p s h
    have h : wp M Γ (k ((Γ.code, p) :: Γ.below)) Q E p s := h
    rw [hf.below] at h
    exact pre (go_ks (step_stack M s Γ.code p st _)) (ih _ h)
  | thread k ih => intro Q E p s h; exact pre (go_ks (step_thread M s Γ.code p st _)) (ih _ h)

theorem fits_eq {Γ : Ctx} {st : List Frame} (h : Γ.Fits st) : Γ = Ctx.of Γ.code st := by
  obtain ⟨c, hd, own, below, past⟩ := Γ
  obtain ⟨h1, h2, h3, h4⟩ := h
  dsimp only at h1 h2 h3 h4
  subst h1 h2 h3 h4
  rfl

/-- t runs on the machine, whatever follows it: Q of its value, or E of what it raises -/
def RX {α : Type} (M : Model) (A : Around) (t : Sem α) (Q : α → Shared → Prop) (E : Value → Shared → Prop) (s : Shared) : Prop :=
  ∀ (c : Code) (p : Pos) (st : List Frame), (Ctx.of c st).In A → ∀ (K : α → Sem PySem.Fin) (H : Value → Sem PySem.Fin) (gd : Bool → Bool) (lv : List Value → List Value),
    (∃ a p' s', KM M s ⟨t.wrap K H gd lv, c, p, st⟩ s' ⟨K a, c, p', st⟩ ∧ Q a s') ∨ (∃ e p' s', KM M s ⟨t.wrap K H gd lv, c, p, st⟩ s' ⟨H e, c, p', st⟩ ∧ E e s')
def CXM (M : Model) (A : Around) (c : Code) (R : Result → Shared → Prop) (s : Shared) : Prop :=
  ∀ (p : Pos) (st : List Frame), (Ctx.of c st).Below A → ∃ r c' p' s', KM M s ⟨M.den c, c, p, st⟩ s' ⟨leafOf r, c', p', st⟩ ∧ R r s'

variable {α β : Type} {A : Around} {E : Value → Shared → Prop} {s : Shared}
theorem RX.of {t : Sem α} {Q : α → Shared → Prop} (h : wpAny M A t Q E s) : RX M A t Q E s := fun c p st hA K H gd lv => wp_ks (Ctx.fits_of c st) K H gd lv t (h _ p hA)
theorem RX.mono {t : Sem α} {Q Q' : α → Shared → Prop} {E' : Value → Shared → Prop} (h : RX M A t Q E s) (hQ : ∀ a s, Q a s → Q' a s) (hE : ∀ e s, E e s → E' e s) : RX M A t Q' E' s := fun c p st hA K H gd lv =>
  (h c p st hA K H gd lv).imp (fun ⟨a, p', s', h1, h2⟩ => ⟨a, p', s', h1, hQ _ _ h2⟩) fun ⟨a, p', s', h1, h2⟩ => ⟨a, p', s', h1, hE _ _ h2⟩
theorem RX.pure {a : α} {Q : α → Shared → Prop} (h : Q a s) : RX M A (pure a) Q E s := .of (wpAny_pure h)
theorem RX.throw {e : Value} {Q : α → Shared → Prop} (h : E e s) : RX M A (throw e : Sem α) Q E s := .of (wpAny_throw h)
theorem RX.wrap {m : Sem α} {K' : α → Sem β} {H' : Value → Sem β} {gd' : Bool → Bool} {lv' : List Value → List Value} {Q : β → Shared → Prop}
    (h : RX M A m (fun a s' => RX M A (K' a) Q E s') (fun e s' => RX M A (H' e) Q E s') s) : RX M A (m.wrap K' H' gd' lv') Q E s := by
  intro c p st hA K H gd lv
  rw [Sem.wrap_wrap]
  rcases h c p st hA (fun a => (K' a).wrap K H gd lv) (fun e => (H' e).wrap K H gd lv) (fun g => gd (gd' g)) (fun l => lv (lv' l)) with ⟨a, p', s', h1, h2⟩ | ⟨a, p', s', h1, h2⟩
  all_goals exact (h2 c p' st hA K H gd lv).imp (fun ⟨b, p'', s'', q1, q2⟩ => ⟨b, p'', s'', h1.trans q1, q2⟩) fun ⟨b, p'', s'', q1, q2⟩ => ⟨b, p'', s'', h1.trans q1, q2⟩
theorem RX.bind {m : Sem α} {f : α → Sem β} {Q : β → Shared → Prop} (h : RX M A m (fun a s' => RX M A (f a) Q E s') E s) : RX M A (m >>= f) Q E s := by
  rw [Sem.bind_eq_wrap']
  exact RX.wrap (h.mono (fun _ _ x => x) fun _ _ x => RX.throw x)
theorem RX.onRaise {m : Sem α} {k : Value → Sem Unit} {Q : α → Shared → Prop} (h : RX M A m Q (fun e s' => RX M A (k e) (fun _ s'' => E e s'') E s') s) : RX M A (m.onRaise k) Q E s := by
  rw [Sem.onRaise_eq_wrap]
  exact RX.wrap (h.mono (fun _ _ x => RX.pure x) fun e s' x => by
    show RX M A ((k e) >>= fun _ => Sem.raise e) Q E s'
    exact RX.bind (x.mono (fun _ _ y => RX.throw y) fun _ _ y => y))
theorem RX.tryCatch {m : Sem α} {k : Value → Sem α} {Q : α → Shared → Prop} (h : RX M A m Q (fun e s' => RX M A (k e) Q E s') s) : RX M A (m.tryCatch k) Q E s := by
  rw [Sem.tryCatch_eq_wrap]
  exact RX.wrap (h.mono (fun _ _ x => RX.pure x) fun _ _ x => x)
theorem RX.attempt {m : Sem α} {Q : Except Value α → Shared → Prop} (h : RX M A m (fun a => Q (.ok a)) (fun e => Q (.error e)) s) : RX M A m.attempt Q E s := by
  refine RX.tryCatch ?_
  show RX M A (m >>= fun a => Pure.pure (Except.ok a)) Q _ s
  exact RX.bind (h.mono (fun _ _ x => RX.pure x) fun _ _ x => RX.pure x)
theorem RX.keep {vs : List Value} {m : Sem α} {Q : α → Shared → Prop} (h : RX M A m Q E s) : RX M A (m.keep vs) Q E s := by
  rw [Sem.keep_eq_wrap]
  exact RX.wrap (h.mono (fun _ _ x => RX.pure x) fun _ _ x => RX.throw x)
theorem RX.holding {vs : List Value} {m : Sem α} {Q : α → Shared → Prop} (h : RX M A m Q E s) : RX M A (holding vs m) Q E s := by
  unfold PySem.holding
  split
  · exact h
  · exact RX.keep h
theorem RX.call {c' : Code} {hd : Option Value} {g : Bool} {l : List Value} {k : Result → Sem α} {Q : α → Shared → Prop} (h : CXM M (A.mark hd) c' (fun r s' => RX M A (k r) Q E s') s) (hnb : hd ≠ some byPass := by intro x; cases x) :
    RX M A (.call c' hd g l k) Q E s := by
  intro c p st hA K H gd lv
  have hf := Ctx.fits_of c st
  have hfe := hf.enter c' (fun r => (k r).wrap K H gd lv) hd (gd g) (lv l) p []
  have hB := hA.enter c' hd p hnb
  rw [fits_eq hfe] at hB
  obtain ⟨r, c2, p2, s2, h1, h2⟩ := h p _ hB
  have h0 := (go_ks (step_call M s c p st c' hd (gd g) (lv l) fun r => (k r).wrap K H gd lv)).trans (h1.trans (go_ks (step_leaf_ret M s2 c2 p2 st r _ hd (gd g) (lv l) c p [])))
  exact (h2 c p st hA K H gd lv).imp (fun ⟨b, p'', s'', q1, q2⟩ => ⟨b, p'', s'', h0.trans q1, q2⟩) fun ⟨b, p'', s'', q1, q2⟩ => ⟨b, p'', s'', h0.trans q1, q2⟩
theorem RX.run {c : Code} {hd : Option Value} {Q : Flow → Shared → Prop} (h : CXM M (A.mark hd) c (fun r s' => match r with | .ok f => Q f s' | .error e => E e s') s) (hnb : hd ≠ some byPass := by intro x; cases x) : RX M A (run c hd) Q E s := by
  refine RX.call (g := false) (l := []) (fun p st hB => ?_) hnb
  obtain ⟨r, c', p', s', h1, h2⟩ := h p st hB
  refine ⟨r, c', p', s', h1, ?_⟩
  cases r with
  | ok f => exact RX.pure h2
  | error e => exact RX.throw h2
theorem RX.runValue {c : Code} {Q : Value → Shared → Prop} (h : CXM M A c (fun r s' => match r with | .ok (.ret v) => Q v s' | .ok _ => False | .error e => E e s') s) : RX M A (runValue c) Q E s := by
  refine RX.bind (RX.run (hd := none) (fun p st hB => ?_))
  obtain ⟨r, c', p', s', h1, h2⟩ := h p st hB
  refine ⟨r, c', p', s', h1, ?_⟩
  cases r with
  | ok f => cases f <;> first | exact h2.elim | exact RX.pure h2
  | error e => exact h2
theorem CXM.of {c : Code} {R : Result → Shared → Prop} (h : codeAny M A c R s) : CXM M A c R s := fun p st hB => by
  obtain ⟨r, s', hr, hR⟩ := h (Ctx.of c st) p rfl hB
  obtain ⟨c', p', h1⟩ := returns_ks hr (Ctx.fits_of c st)
  exact ⟨r, c', p', s', h1, hR⟩
theorem CXM.mono {c : Code} {R R' : Result → Shared → Prop} (h : CXM M A c R s) (hR : ∀ r s, R r s → R' r s) : CXM M A c R' s := fun p st hB => by
  obtain ⟨r, c', p', s', h1, h2⟩ := h p st hB
  exact ⟨r, c', p', s', h1, hR _ _ h2⟩
theorem CXM.tree {c : Code} {R : Result → Shared → Prop}
    (h : RX M (A.under c) (M.den c) (fun fin s' => match fin with | .done f => R (.ok f) s' | .again c' => c'.quiet = true ∧ CXM M A c' R s') (fun e s' => R (.error e) s') s) : CXM M A c R s := by
  intro p st hB
  have h0 := h c p st hB.in .pure .raise id id
  rw [wrap_id] at h0
  rcases h0 with ⟨fin, p', s', h1, h2⟩ | ⟨e, p', s', h1, h2⟩
  · cases fin with
    | done f => exact ⟨.ok f, c, p', s', h1, h2⟩
    | again c' =>
      obtain ⟨hq, h2⟩ := h2
      obtain ⟨r, c2, p2, s2, q1, q2⟩ := h2 p' st (hB.goto c')
      exact ⟨r, c2, p2, s2, (h1.trans (go_ks (step_again M s' c p' st c' hq))).trans q1, q2⟩
  · exact ⟨.error e, c, p', s', h1, h2⟩
/-- to the end of the run -/
theorem RX.ends {t : Sem PySem.Fin} {R : Result → Shared → Prop} {c : Code} {p : Pos} (hr : s.asleep) (hA : (Ctx.of c []).In A)
    (h : RX M A t (fun fin s' => ∃ f, fin = .done f ∧ (R (.ok f) s' ∧ leftWithCleanup s'.gens = false)) (fun e s' => R (.error e) s' ∧ leftWithCleanup s'.gens = false) s) :
    ∃ n r s' s'', schedN M.den M.prog M.w n (.single s ⟨t, c, p, []⟩) = .halted (outcomeOf r) s'' ∧ s''.forget = s'.forget ∧ s''.heap.life = s.heap.life ∧ R r s' := by
  have h0 := h c p [] hA .pure .raise id id
  rw [wrap_id] at h0
  rcases h0 with ⟨fin, p', s', h1, f, rfl, h2, h3⟩ | ⟨e, p', s', h1, h2, h3⟩
  · obtain ⟨n, s2, a1, a2, a3⟩ := KS.ends (r := .ok f) h1 hr h3
    exact ⟨n, .ok f, s', s2, a1, a2, a3, h2⟩
  · obtain ⟨n, s2, a1, a2, a3⟩ := KS.ends (r := .error e) h1 hr h3
    exact ⟨n, .error e, s', s2, a1, a2, a3, h2⟩
end
end GX
end SGRun
section SGSeg
set_option linter.all false
set_option maxRecDepth 100000
/-! a generator's code on the machine, from one sleep to the next -/
namespace GX
open PySem L2 GStub PyProof.Rows
open Sem (wp)

/-- what a sleeping generator owns: objects as they stand, generators that sleep under it -/
structure GD where
  own : List (Addr × Obj)
  og : List (Nat × GenState)
def GD.at (d : GD) : List Addr := d.own.map (·.1)
def GD.nr (d : GD) : List Nat := d.og.map (·.1)
structure GP where
  prog : Program
  w : World
  K : PySem.W.Frag
  mg : Str → Option Value
  base : Heap
  A : Around
  stack : List Env
  /-- nothing of its own lies below -/
  lo : Nat
abbrev GP.M (G : GP) : Model := model G.prog G.w
abbrev bare0 (s : Shared) : Shared := { s with gens := #[] }
/-- behind a turn of a generator (s0, H0, d0: when it was woken) -/
structure Evd (G : GP) (s0 : Shared) (H0 : Hp) (d0 : GD) (s : Shared) (H : Hp) (d : GD) : Prop where
  os : s.os = s0.os
  un : L2.Un (frs G.stack) d0.at H0 H s0.heap s.heap
  ext : ∀ b o, H0 b = some o → H b = some o
  hok : HOk G.prog G.w H s.heap
  sz : s0.gens.size ≤ s.gens.size
  keepG : ∀ (i : Nat) (x : GenState), s0.gens[i]? = some x → isSusp x = true → i ∉ d0.nr → s.gens[i]? = some x
  bareG : ∀ (i : Nat) (y : GenState), s.gens[i]? = some y → y.bare = true ∨ i ∈ d.nr ∨ (s0.gens[i]? = some y ∧ isSusp y = true ∧ i ∉ d0.nr)
  young : ∀ p ∈ d.own, p.1 ∈ d0.at ∨ (s0.heap.get? p.1 = none ∧ G.lo ≤ p.1)
  stand : ∀ p ∈ d.own, s.heap.get? p.1 = some p.2 ∧ H p.1 = none ∧ p.1 ∉ frs G.stack ∧ ∀ v, p.2.data ≠ .cell v
  standG : ∀ p ∈ d.og, s.gens[p.1]? = some p.2 ∧ isSusp p.2 = true ∧ (p.1 ∈ d0.nr ∨ s0.gens.size ≤ p.1)
/-- it may be woken: s, H when it fell asleep -/
structure Wk (G : GP) (s : Shared) (H : Hp) (d : GD) (s2 : Shared) (H2 : Hp) : Prop where
  env : Env0 G.prog G.w G.K G.mg G.base G.A G.stack (bare0 s2) H2
  tups : ∀ b xs, H b = some (.tup xs) → H2 b = some (.tup xs)
  frzs : ∀ b o u, H b = some (.frz o u) → H2 b = some (.frz o u)
  stand : ∀ p ∈ d.own, s2.heap.get? p.1 = some p.2 ∧ H2 p.1 = none
  standG : ∀ p ∈ d.og, s2.gens[p.1]? = some p.2
  bareG : ∀ (i : Nat) (y : GenState), s2.gens[i]? = some y → y.bare = true ∨ i ∈ d.nr ∨ isSusp y = true
def FitW (A : Around) (B : List Frame) : Prop := ∀ c, (Ctx.of c B).Woken A
structure Ref where
  s : Shared
  H : Hp
  d : GD
/-- what is handed out: a plain tuple of ints, as it stands -/
def YdV (H : Hp) (x : List Int) (v : V) : Prop := ∃ t o, v = .ref t ∧ H t = some (.frz o (.tup (x.map V.int))) ∧ o.dict = none ∧ o.cls = .type "tuple"
def Yd (H : Hp) (x : List Int) (u : Value) : Prop := ∃ v, RelV v u ∧ YdV H x v
/-- this yield is a plain step -/
def Mild (s : Shared) (gd : Bool) (c : Code) : Prop := gd = true → ∃ a args kw o, c = .builtin "proto.yield_from" ⟨.ref a :: args, kw⟩ ∧ s.heap.get? a = some o ∧ o.genNumber?.isSome = true
def Out (G : GP) : List (List Int) → List Frame → Shared → Thread → Ref → Prop
  | [], B, s, t, r => ∃ f c p s' H', KM G.M s t s' ⟨.pure (.done f), c, p, B⟩ ∧ (f = .next ∨ f = .ret .none) ∧ Evd G r.s r.H r.d s' H' ⟨[], []⟩
  | x :: xs, B, s, t, r => ∃ v gd l k c p fs s' H' d', KM G.M s t s' ⟨.yield v gd l k, c, p, fs ++ B⟩ ∧ splitAtGen fs = none ∧ fs.any Frame.guarded = false ∧ Mild s' gd c ∧ Yd H' x v ∧ Evd G r.s r.H r.d s' H' d' ∧
      ∀ s2 H2, Wk G s' H' d' s2 H2 → ∀ B', FitW G.A B' → Out G xs B' s2 ⟨k (.send .none), c, p, fs ++ B'⟩ ⟨s2, H2, d'⟩
theorem out_pre {G : GP} {xs : List (List Int)} {B : List Frame} {s s1 : Shared} {t t1 : Thread} {r : Ref} (h : KM G.M s t s1 t1) (o : Out G xs B s1 t1 r) : Out G xs B s t r := by
  cases xs with
  | nil =>
    obtain ⟨f, c, p, s', H', h1, h2⟩ := o
    exact ⟨f, c, p, s', H', h.trans h1, h2⟩
  | cons x xs =>
    obtain ⟨v, gd, l, k, c, p, fs, s', H', d', h1, h2⟩ := o
    exact ⟨v, gd, l, k, c, p, fs, s', H', d', h.trans h1, h2⟩
def SegL (G : GP) (xs : List (List Int)) (c : Code) (t : Sem PySem.Fin) (fs : List Frame) (s : Shared) (r : Ref) : Prop := ∀ p B, FitW G.A B → Out G xs B s ⟨t, c, p, fs ++ B⟩ r
section
variable {G : GP} {xs : List (List Int)} {c : Code} {fs : List Frame} {s : Shared} {r : Ref}
theorem sg_wrap {α : Type} {m : Sem α} {K : α → Sem PySem.Fin} {H : Value → Sem PySem.Fin} {gd : Bool → Bool} {lv : List Value → List Value}
    (h : RX G.M (G.A.over c fs) m (fun a s' => SegL G xs c (K a) fs s' r) (fun _ _ => False) s) : SegL G xs c (m.wrap K H gd lv) fs s r := by
  intro p B hB
  have hin : (Ctx.of c (fs ++ B)).In (G.A.over c fs) := by
    rw [Ctx.of_append]
    exact (hB c).over fs
  rcases h c p (fs ++ B) hin K H gd lv with ⟨a, p', s', h1, h2⟩ | ⟨e, p', s', h1, h2⟩
  · exact out_pre h1 (h2 p' B hB)
  · exact h2.elim
theorem sg_bind {α : Type} {m : Sem α} {K : α → Sem PySem.Fin} (h : RX G.M (G.A.over c fs) m (fun a s' => SegL G xs c (K a) fs s' r) (fun _ _ => False) s) : SegL G xs c (m >>= K) fs s r := by
  rw [Sem.bind_eq_wrap']
  exact sg_wrap h
theorem sg_bind_wrap {α β : Type} {m : Sem α} {f : α → Sem β} {K : β → Sem PySem.Fin} {H : Value → Sem PySem.Fin} {gd : Bool → Bool} {lv : List Value → List Value}
    (h : RX G.M (G.A.over c fs) m (fun a s' => SegL G xs c ((f a).wrap K H gd lv) fs s' r) (fun _ _ => False) s) : SegL G xs c ((m >>= f).wrap K H gd lv) fs s r := by
  rw [Sem.bind_eq_wrap', Sem.wrap_wrap]
  exact sg_wrap h
theorem sg_at {p' : Pos} {k : Unit → Sem PySem.Fin} (h : SegL G xs c (k ()) fs s r) : SegL G xs c (.at p' k) fs s r := fun p B hB => out_pre (go_ks (step_at G.M s c p (fs ++ B) p' k)) (h p' B hB)
theorem sg_call {c' : Code} {hd : Option Value} {g : Bool} {l : List Value} {k : Result → Sem PySem.Fin} (h : ∀ p, SegL G xs c' (G.M.den c') (.ret k hd g l c p [] :: fs) s r) : SegL G xs c (.call c' hd g l k) fs s r := fun p B hB =>
  out_pre (go_ks (step_call G.M s c p (fs ++ B) c' hd g l k)) (h p p B hB)
theorem sg_leaf {k : Result → Sem PySem.Fin} {hd : Option Value} {g : Bool} {l : List Value} {c1 : Code} {p1 : Pos} {kp : List Value} (q : Result) (h : SegL G xs c1 (k q) fs s r) : SegL G xs c (leafOf q) (.ret k hd g l c1 p1 kp :: fs) s r := fun p B hB =>
  out_pre (go_ks (step_leaf_ret G.M s c p (fs ++ B) q k hd g l c1 p1 kp)) (h p1 B hB)
theorem sg_again {c' : Code} (hq : c'.quiet = true) (h : SegL G xs c' (G.M.den c') fs s r) : SegL G xs c (.pure (.again c')) fs s r := fun p B hB =>
  out_pre (go_ks (step_again G.M s c p (fs ++ B) c' hq)) (h p B hB)
theorem sg_end {f : Flow} {H : Hp} (hf : f = Flow.next ∨ f = .ret .none) (h : Evd G r.s r.H r.d s H ⟨[], []⟩) : SegL G [] c (.pure (.done f)) [] s r := fun p B hB => ⟨f, c, p, s, H, .refl, hf, h⟩
theorem sg_yield {x : List Int} {v : Value} {gd : Bool} {l : List Value} {k : Resume → Sem PySem.Fin} {H : Hp} {d : GD} (hfs : splitAtGen fs = none) (hg : fs.any Frame.guarded = false) (hm : Mild s gd c) (rv : Yd H x v) (he : Evd G r.s r.H r.d s H d)
    (h : ∀ s2 H2, Wk G s H d s2 H2 → SegL G xs c (k (.send .none)) fs s2 ⟨s2, H2, d⟩) : SegL G (x :: xs) c (.yield v gd l k) fs s r := fun p B hB =>
  ⟨v, gd, l, k, c, p, fs, s, H, d, .refl, hfs, hg, hm, rv, he, fun s2 H2 hw B' hB' => h s2 H2 hw p B' hB'⟩

/-! ### it is woken -/
def thr (M : Model) (gs : GenState) (p : Pos) (B : List Frame) : Thread := match gs with
  | .fresh c => ⟨M.den c, c, p, B⟩
  | .suspended k _ c p0 fs _ => ⟨k (.send .none), c, p0, fs ++ B⟩
  | _ => ⟨.unsupported "", .builtin "" {}, p, B⟩
def wakes (gs : GenState) : Bool := match gs with
  | .fresh _ => true
  | .suspended .. => true
  | _ => false
theorem rx_resume {α : Type} {g : Nat} {gs : GenState} {l : List Value} {k : GenResult → Sem α} {Q : α → Shared → Prop} {E : Value → Shared → Prop} {H : Hp} {d : GD} (hg : s.gens[g]? = some gs) (hw : wakes gs = true)
    (ho : ∀ p B, FitW G.A B → Out G xs B (s.setGen g .running) (thr G.M gs p B) ⟨s.setGen g .running, H, d⟩)
    (hR : xs = [] → ∀ (f : Flow) (s' : Shared) (H' : Hp), (f = .next ∨ f = .ret .none) → Evd G (s.setGen g .running) H d s' H' ⟨[], []⟩ → RX G.M G.A (k (.returned .none)) Q E (s'.setGen g .finished))
    (hY : ∀ x xs', xs = x :: xs' → ∀ (v : Value) (s' : Shared) (H' : Hp) (d' : GD) (gs' : GenState), Yd H' x v → Evd G (s.setGen g .running) H d s' H' d' → isSusp gs' = true → (∀ s2 H2, Wk G s' H' d' s2 H2 → ∀ p B, FitW G.A B → Out G xs' B s2 (thr G.M gs' p B) ⟨s2, H2, d'⟩) → RX G.M G.A (k (.yielded v)) Q E (s'.setGen g gs')) :
    RX G.M G.A (.resume g (.send .none) l k) Q E s := by
  intro c p st hA K Hh gd lv
  have hB : FitW G.A (.gen g (fun x => (k x).wrap K Hh gd lv) (lv l) c p :: st) := fun c' => by
    have h1 := (Ctx.fits_of c st).wake c' g (fun x => (k x).wrap K Hh gd lv) (lv l) p
    have h2 := hA.wake c' p
    rw [fits_eq h1] at h2
    exact h2
  have h0 : KM G.M s ⟨.resume g (.send .none) (lv l) (fun x => (k x).wrap K Hh gd lv), c, p, st⟩ (s.setGen g .running) (thr G.M gs p (.gen g (fun x => (k x).wrap K Hh gd lv) (lv l) c p :: st)) := by
    cases gs with
    | fresh c0 => exact go_ks (step_resume_fresh G.M s c p st (lv l) _ hg)
    | suspended k0 l0 c0 p0 fs0 cl0 => exact go_ks (step_resume_suspended G.M s c p st _ (lv l) _ hg)
    | running => cases hw
    | finished => cases hw
  have o := ho p _ hB
  cases xs with
  | nil =>
    obtain ⟨f, c1, p1, s', H', h1, hf, he⟩ := o
    have h2 : KM G.M s' ⟨.pure (.done f), c1, p1, .gen g (fun x => (k x).wrap K Hh gd lv) (lv l) c p :: st⟩ (s'.setGen g .finished) ⟨(k (.returned .none)).wrap K Hh gd lv, c, p, st⟩ := by
      have e := go_ks (step_leaf_gen G.M s' c1 p1 st (.ok f) g (fun x => (k x).wrap K Hh gd lv) (lv l) c p)
      have e2 : (End.ret (.ok f)).result = .returned .none := by rcases hf with hf | hf <;> rw [hf] <;> rfl
      rw [e2] at e
      exact e
    exact (hR rfl f s' H' hf he c p st hA K Hh gd lv).imp (fun ⟨b, p'', s'', q1, q2⟩ => ⟨b, p'', s'', ((h0.trans h1).trans h2).trans q1, q2⟩) fun ⟨b, p'', s'', q1, q2⟩ => ⟨b, p'', s'', ((h0.trans h1).trans h2).trans q1, q2⟩
  | cons x xs' =>
    obtain ⟨v, gd1, l1, k1, c1, p1, fs1, s', H', d', h1, hfs, hgu, hm, rv, he, hn⟩ := o
    have hsp : splitAtGen (fs1 ++ .gen g (fun x => (k x).wrap K Hh gd lv) (lv l) c p :: st) = some (fs1, (g, (fun x => (k x).wrap K Hh gd lv), c, p), st) := by
      rw [splitAtGen_append_none _ hfs, splitAtGen_gen]
      simp
    have hst : stepK G.M.den G.M.prog G.M.w s' ⟨.yield v gd1 l1 k1, c1, p1, fs1 ++ .gen g (fun x => (k x).wrap K Hh gd lv) (lv l) c p :: st⟩ =
        .go (s'.setGen g (.suspended k1 l1 c1 p1 fs1 (gd1 || fs1.any Frame.guarded))) ⟨(k (.yielded v)).wrap K Hh gd lv, c, p, st⟩ := by
      simp only [PySem.stepK, PySem.step, hsp]
      rfl
    have hok : Okay s' ⟨.yield v gd1 l1 k1, c1, p1, fs1 ++ .gen g (fun x => (k x).wrap K Hh gd lv) (lv l) c p :: st⟩ := by
      cases gd1 with
      | true =>
        obtain ⟨a, args, kw, o, e1, e2, e3⟩ := hm rfl
        refine .inr ⟨v, l1, k1, a, args, kw, rfl, e1, fun y hy => ?_, o, e2, e3⟩
        dsimp only at hy
        rw [hsp] at hy
        cases hy
        exact hgu
      | false =>
        left
        rw [Thread.calm_eq, Thread.loud_yield v false l1 k1 c1 p1 hsp, hgu]
        rfl
    have h2 := KS.one hok hst
    refine (hY x xs' rfl v s' H' d' (.suspended k1 l1 c1 p1 fs1 (gd1 || fs1.any Frame.guarded)) rv he rfl (fun s2 H2 hwk p2 B2 hB2 => hn s2 H2 hwk B2 hB2) c p st hA K Hh gd lv).imp (fun ⟨b, p'', s'', q1, q2⟩ => ⟨b, p'', s'', ((h0.trans h1).trans h2).trans q1, q2⟩) fun ⟨b, p'', s'', q1, q2⟩ => ⟨b, p'', s'', ((h0.trans h1).trans h2).trans q1, q2⟩
end
end GX
end SGSeg
section SGNext
set_option linter.all false
set_option maxRecDepth 100000
/-! the next item of a generator, on the machine -/
namespace GX
open PySem L2 GStub PyProof.Rows

/-- a generator's object; its mark of a sleeper over it is off -/
def GenO (h : Heap) (a : Addr) (g : Nat) : Prop := ∃ o nm qn, h.get? a = some o ∧ o.cls = .type "generator" ∧ o.data = .fields #[.int g 0, nm, qn] ∧ ((o.slots[0]? : Option (Option Value)) = none ∨ ∃ t, (o.slots[0]? : Option (Option Value)) = some (some (.int 0 t)))
theorem GenO.ty {s : Shared} {a : Addr} {g : Nat} (x : GenO s.heap a g) : s.TypeIs (.ref a) "generator" := let ⟨o, _, _, ho, hc, _⟩ := x; ⟨o, ho, hc⟩
theorem GenO.of {h : Heap} {a : Addr} {g : Nat} (x : h.IsGen a g) : GenO h a g := let ⟨o, nm, qn, ho, hc, hd, hs⟩ := x; ⟨o, nm, qn, ho, hc, hd, .inl (by rw [hs]; rfl)⟩
section
variable {P : Program} {w : World} {A : Around} {E : Value → Shared → Prop} {s : Shared}
theorem genNumber_at {a : Addr} {g : Nat} {Q : Nat → Shared → Prop} (x : GenO s.heap a g) (h : Q g s) : wpAny (model P w) A (Builtin.Generator.genNumber (.ref a)) Q E s := by
  obtain ⟨o, nm, qn, ho, _, hd, hs⟩ := x
  unfold Builtin.Generator.genNumber
  refine wpAny_bind (wpAny_load ho ?_)
  rw [hd]
  rcases hs with hs | ⟨t, hs⟩
  · rw [hs]
    show wpAny _ _ (Pure.pure ((g : Int).toNat)) Q E s
    rw [Int.toNat_natCast]
    exact wpAny_pure h
  · rw [hs]
    show wpAny _ _ (Pure.pure ((g : Int).toNat)) Q E s
    rw [Int.toNat_natCast]
    exact wpAny_pure h
theorem stop_raised {α β : Type} {f : β → Sem α} {Q : α → Shared → Prop} (hh : A.handled = none) (hE : ∀ e h', StopX e h' → (∀ b o, s.heap.get? b = some o → h'.get? b = some o) → E e { s with heap := h' }) :
    wpAny (model P w) A (newExc (.type "StopIteration") [] >>= fun e => ((raiseNew e : Sem β) >>= f)) Q E s := by
  refine wpAny_bind ?_
  simp only [newExc, newTuple]
  refine wpAny_bind (wpAny_newObj_type (Q := _) ?_ (by size_fits))
  refine wpAny_bind (m := firstArgMember _ _) (wpAny_of_eq (a := Value.none) (by first | rfl | (simp only [firstArgMember] <;> rfl)) ?_)
  refine wpAny_newObj_type (Q := _) ?_ (by size_fits)
  refine wpAny_bind ?_
  simp only [raiseNew]
  refine wpAny_bind (wpAny_handled ?_)
  rw [hh]
  refine wpAny_bind (wpAny_pure (wpAny_throw ?_))
  refine hE _ _ ⟨_, _, _, rfl, Heap.get?_push_size _ rfl, rfl, rfl, ?_⟩ fun b o hb => Heap.get?_push_of_some _ (Heap.get?_push_of_some _ hb)
  first
    | rfl
    | (rw [Array.getElem?_append_left (by decide)] <;> rfl)
    | kernel_rfl
/-- a built-in called through its slot -/
theorem rx_slot {T : String} {name : Str} {id : String} {b : Builtin} {self : Value} {rest : List Value} {Q : Value → Shared → Prop} (h : Slot T name id) (hT : s.TypeIs self T) (hb : entryFor table id = some b)
    (hc : RX (model P w) A.in1 (b ⟨self :: rest, []⟩) (fun fin s' => ∃ v, fin = .done (.ret v) ∧ Q v s') E s) (ha : argsOk id ⟨self :: rest, []⟩) : RX (model P w) A (call (.builtin id) (self :: rest)) Q E s := by
  refine RX.runValue (CXM.tree ?_)
  show RX (model P w) A.in1 (do checkBuiltinCall id ⟨self :: rest, []⟩; again (.builtin id ⟨self :: rest, []⟩)) _ _ s
  refine RX.bind (RX.of (h.check _ _ _ _ _ _ _ _ hT ha ?_))
  refine RX.pure ⟨plainId_quiet h.plain _, CXM.tree ?_⟩
  rw [Around.under_plainId h.plain _]
  show RX (model P w) A.in1 (match entryFor table id with | some b => b ⟨self :: rest, []⟩ | none => _) _ _ s
  rw [hb]
  refine hc.mono (fun fin s' hf => ?_) fun _ _ x => x
  obtain ⟨v, rfl, hv⟩ := hf
  exact hv
theorem rx_special {T : String} {name : Str} {id : String} {self : Value} {args : List Value} {Q : Option Value → Shared → Prop} (hT : s.TypeIs self T) (h : Slot T name id)
    (hc : RX (model P w) A (call (.builtin id) (self :: args)) (fun v => Q (some v)) E s) : RX (model P w) A (callSpecial? self name args) Q E s := by
  unfold callSpecial?
  refine RX.bind (RX.of (wpAny_specialOf hT h.lookup ?_))
  show RX _ _ (holding _ (do let (g, first) ← bindSpecial (.builtin id) self; return some (← call g (first ++ args) []))) Q E s
  simp only [h.bind]
  refine RX.holding (RX.bind (RX.pure (RX.bind (hc.mono (fun v s' q => RX.pure q) fun _ _ q => q))))
end
/-- the next item -/
theorem rx_next {G : GP} {A : Around} {s : Shared} {a : Addr} {g : Nat} {gs : GenState} {xs : List (List Int)} {H : Hp} {d : GD} {Q : Option Value → Shared → Prop} {E : Value → Shared → Prop} (hA : G.A = A.in1) (hh : A.handled = none) (hl : s.heap.NoLimit) (hroom : A.depth < recursionLimit)
    (hx : GenO s.heap a g) (hg : s.gens[g]? = some gs) (hw : wakes gs = true) (ho : ∀ p B, FitW G.A B → Out G xs B (s.setGen g .running) (thr G.M gs p B) ⟨s.setGen g .running, H, d⟩)
    (hR : xs = [] → ∀ (s' : Shared) (H' : Hp), Evd G (s.setGen g .running) H d s' H' ⟨[], []⟩ → ∀ e h', StopX e h' → (∀ b o, s'.heap.get? b = some o → h'.get? b = some o) → E e { s'.setGen g .finished with heap := h' })
    (hY : ∀ x xs', xs = x :: xs' → ∀ (v : Value) (s' : Shared) (H' : Hp) (d' : GD) (gs' : GenState), Yd H' x v → Evd G (s.setGen g .running) H d s' H' d' → isSusp gs' = true → (∀ s2 H2, Wk G s' H' d' s2 H2 → ∀ p B, FitW G.A B → Out G xs' B s2 (thr G.M gs' p B) ⟨s2, H2, d'⟩) → Q (some v) (s'.setGen g gs')) :
    RX G.M A (callSpecial? (.ref a) "__next__") Q E s := by
  refine rx_special (name := Str.ofString "__next__") hx.ty slot_gen_next (rx_slot slot_gen_next hx.ty entry_gen_next ?_ (args_gen_next _))
  show RX G.M A.in1 (Builtin.Generator.genWake (.ref a) (.send .none)) _ E s
  unfold Builtin.Generator.genWake
  refine RX.bind (RX.holding (RX.of (genNumber_at hx ?_)))
  refine RX.bind (RX.of (wpAny_genState hg ?_))
  have body : RX G.M A.in1 (do match ← resume g (.send .none) with
      | .yielded v => ret v
      | .returned v =>
        if v == .none then raiseNew (← newExc (.type "StopIteration") [])
        rule "generator.return-value"; throw (← newExc (.type "StopIteration") [v])
      | .raised e =>
        if let .throw _ := (Resume.send .none) then
          if gs.status == GenStatus.fresh then rule "generator.throw.into-fresh"; throw e
        Builtin.Generator.genLeft (.ref a) e
      | .running => rule "generator.already-executing"; raiseError "ValueError" "generator already executing"
      | .justStarted => rule "generator.send-to-fresh"; raiseError "TypeError" "can't send non-None value to a just-started generator"
      | .finished =>
        match (Resume.send .none) with
        | .send _ => raiseNew (← newExc (.type "StopIteration") [])
        | .throw e => throw e) (fun fin s' => ∃ v, fin = PySem.Fin.done (.ret v) ∧ Q (some v) s') E s := by
    rw [← hA]
    refine rx_resume hg hw ho (fun hx0 f s' H' hf he => ?_) fun x xs' hx0 v s' H' d' gs' rv he hsu hn => ?_
    · show RX G.M G.A (newExc (.type "StopIteration") [] >>= _) _ _ _
      exact RX.of (stop_raised (by rw [hA]; exact hh) fun e h' q1 q2 => hR hx0 s' H' he e h' q1 q2)
    · exact RX.pure ⟨v, rfl, hY x xs' hx0 v s' H' d' gs' rv he hsu hn⟩
  cases gs with
  | running => cases hw
  | finished => cases hw
  | fresh c => exact RX.bind (RX.of (wpAny_roomToWake hl hroom (by exact body)))
  | suspended k l c p fs cl => exact RX.bind (RX.of (wpAny_roomToWake hl hroom (by exact body)))
end GX
end SGNext
section SGReb
set_option linter.all false
set_option maxRecDepth 100000
/-! a generator's frame is stood anew each time that it is woken -/
namespace GX
open PySem L2 GStub PyProof.Rows

/-! ### the first n objects -/
def pre (h : Heap) (n : Nat) : Heap := { h with objs := h.objs.extract 0 n }
theorem pre_size (h : Heap) (n : Nat) : (pre h n).objs.size = min n h.objs.size := by
  show (h.objs.extract 0 n).size = _
  rw [Array.size_extract]
  omega
theorem pre_get {h : Heap} {n b : Nat} (hb : b < n) : (pre h n).get? b = h.get? b := by
  have e : (pre h n).objs[b]? = h.objs[b]? := by
    show (h.objs.extract 0 n)[b]? = _
    rw [Array.getElem?_extract]
    by_cases z : b < min n h.objs.size - 0
    · rw [if_pos z, Nat.zero_add]
    · rw [if_neg z, Array.getElem?_eq_none (by omega)]
  unfold Heap.get?
  rw [e]
theorem pre_none {h : Heap} {n b : Nat} (hb : n ≤ b) : (pre h n).get? b = none := Heap.get?_none_of_le (by rw [pre_size]; omega)
theorem pre_some {h : Heap} {n b : Nat} {o : Obj} (e : (pre h n).get? b = some o) : b < n ∧ h.get? b = some o := by
  by_cases hb : b < n
  · exact ⟨hb, by rw [← pre_get hb]; exact e⟩
  · rw [pre_none (by omega)] at e
    cases e
def preH (H : Hp) (n : Nat) : Hp := fun b => if b < n then H b else none
theorem preH_lt {H : Hp} {n b : Nat} (h : b < n) : preH H n b = H b := if_pos h
theorem preH_some {H : Hp} {n b : Nat} {o : HO} (h : preH H n b = some o) : b < n ∧ H b = some o := by
  unfold preH at h
  split at h
  · exact ⟨by assumption, h⟩
  · cases h
theorem funs_pre {h base : Heap} {n : Nat} : ∀ {l : List Env}, (∀ b ∈ frs l, b < n) → h.FunFrames base l → (pre h n).FunFrames base l
  | [], _, _ => trivial
  | env :: rest, hn, ⟨hk, ⟨L, o, hf, h1, h2, h3⟩, hr⟩ => by
    have hL : L ∈ frs (env :: rest) := by
      unfold frs
      rw [List.filterMap_cons, hf]
      exact List.mem_cons_self
    refine ⟨hk, ⟨L, o, hf, h1, by rw [pre_get (hn L hL)]; exact h2, h3⟩, funs_pre (fun b hb => hn b ?_) hr⟩
    unfold frs at hb ⊢
    rw [List.filterMap_cons, hf]
    exact List.mem_cons_of_mem _ hb

/-! ### the contexts -/
/-- a generator def, its frame at L -/
structure GF where
  N : List Str
  qual : Str
  scope : Scope
  f : Addr
  cd : Value
  L : Addr
abbrev GF.env (F : GF) : Env := envOfC F.qual F.scope F.L F.f F.cd
def cxG (G : GP) (F : GF) (s0 : Shared) (H0 : Hp) : Cx where
  prog := G.prog
  w := G.w
  K := G.K
  mg := G.mg
  base := G.base
  A := G.A.deeper F.env
  N := F.N
  s_0 := s0
  H_0 := H0
  env := F.env
  outer := G.stack
  stack := F.env :: G.stack
  ex := []
  calm := true
  fn := fun _ => true
  pn := []
  xe := fun _ _ => False
/-- woken at s, H -/
abbrev cxW (G : GP) (F : GF) (s : Shared) (H : Hp) : Cx := cxG G F (bare0 { s with heap := pre s.heap F.L }) (preH H F.L)
/-- what stands of the frame -/
def FrmAt (F : GF) (h : Heap) (σ : L2.St) : Prop := σ.length = F.N.length ∧ ∃ m, h.Ns F.L m ∧ ∀ (i : Nat) (x : Str) (v : V), F.N[i]? = some x → σ[i]? = some (some v) → Vis F.scope x → ∃ u, RelV v u ∧ F.env.kindOf x = some .local ∧ m x = some u
structure GFok (G : GP) (F : GF) : Prop where
  nc : F.env.cells = []
  hd : G.A.handled = none
  lo : ∀ b ∈ frs G.stack, b < F.L
  bs : G.base.objs.size ≤ F.L
  kind : F.scope.kind = .function
  vis : ∀ x, Vis F.scope x → F.scope.names.lookup x = some .local
  nocell : ∀ x, ¬ (F.env.kindOf x = some .cell ∨ F.env.kindOf x = some .free)
theorem FrmAt.of {G : GP} {F : GF} {s0 : Shared} {H0 : Hp} {pins : List (Addr × Obj)} {σ : L2.St} {H : Hp} {s : Shared} (g : GFok G F) (I : Inv (cxG G F s0 H0) pins σ H s) : FrmAt F s.heap σ := by
  obtain ⟨m, hn, hl⟩ := I.loc
  refine ⟨I.len, m, hn, fun i x v e1 e2 e3 => ?_⟩
  obtain ⟨u, r, l⟩ := hl i x v e1 e2 e3
  rcases l with ⟨k, e⟩ | ⟨k, _⟩
  · exact ⟨u, r, k, e⟩
  · exact (g.nocell x k).elim
theorem FrmAt.keep {F : GF} {h h' : Heap} {σ : L2.St} (x : FrmAt F h σ) (k : ∀ o, h.get? F.L = some o → h'.get? F.L = some o) : FrmAt F h' σ := by
  obtain ⟨hl, m, ⟨o, es, ep, ho, r⟩, q⟩ := x
  exact ⟨hl, m, ⟨o, es, ep, k o ho, r⟩, q⟩
theorem inv_gens {X : Cx} {pins : List (Addr × Obj)} {σ : L2.St} {H : Hp} {s : Shared} (I : Inv X pins σ H s) {G : Array GenState} (hG : AllBare G) : Inv X pins σ H { s with gens := G } :=
  ⟨I.ok, I.os, hG, I.base, I.loc, I.cell, I.free, I.freeC, I.pin, I.hok, I.len⟩
theorem allBare_none : AllBare (#[] : Array GenState) := fun x h => by simp at h
theorem inv_bare0 {X : Cx} {pins : List (Addr × Obj)} {σ : L2.St} {H : Hp} {s s2 : Shared} (I : Inv X pins σ H s) (e : s2 = { s with gens := s2.gens }) : Inv X pins σ H (bare0 s2) := by
  have h := inv_gens I allBare_none
  rw [e]
  exact h
theorem inv_stubs {X : Cx} {pins : List (Addr × Obj)} {σ : L2.St} {H : Hp} {s : Shared} (I : Inv X pins σ H (bare0 s)) : Inv X pins σ H (stubs s) := inv_gens (s := bare0 s) I (bare_stubs s)

/-- THE REBASE -/
theorem rebase {G : GP} {F : GF} {σ : L2.St} {s : Shared} {H : Hp} {pins : List (Addr × Obj)} (g : GFok G F) (e : Env0 G.prog G.w G.K G.mg G.base G.A G.stack (bare0 s) H) (x : FrmAt F s.heap σ) (hL : H F.L = none)
    (hp : ∀ p ∈ pins, s.heap.get? p.1 = some p.2 ∧ H p.1 = none ∧ p.1 ≠ F.L ∧ p.1 ∉ frs G.stack ∧ ∀ v, p.2.data ≠ .cell v) : Inv (cxW G F s H) pins σ H (bare0 s) := by
  obtain ⟨hlen, m, hn, hl⟩ := x
  have hlt : F.L < s.heap.objs.size := hn.lt
  have hsz : (pre s.heap F.L).objs.size = F.L := by rw [pre_size]; exact Nat.min_eq_left (Nat.le_of_lt hlt)
  have noC : ∀ {x : Str} {c : Addr}, F.env.cells.lookup x = some c → False := fun {x c} z => by rw [g.nc] at z; cases z
  have noA : ∀ b : Addr, b ∉ (cxW G F s H).ex := fun b z => by cases z
  refine ⟨⟨e.mod, g.kind, rfl, rfl, by show (pre s.heap F.L).objs.size ≤ F.L; rw [hsz]; exact Nat.le_refl _, fun y z c h1 _ => (noC h1).elim, fun y hy => (g.nocell y hy).elim, fun y c _ h => (noC h).elim, fun _ => g.hd, Around.frames_deeper e.frames, .inr ⟨rfl, rfl⟩, fun b z => absurd z (noA b),
      fun b o h => ?_, ?_, fun b _ _ => noA b, fun b z => absurd z (noA b), ?_, ?_⟩,
    rfl, allBare_none, ⟨fun b o h _ _ _ => ?_, fun b o h _ _ _ => ?_, fun b o h h2 _ => ?_, fun b o h _ => ?_, fun b xs h => (preH_some h).2, fun b o u h => (preH_some h).2, fun b ps h => ⟨#[], by rw [(preH_some h).2]; simp⟩⟩,
    ⟨m, hn, fun i y v h1 h2 h3 => ?_⟩, fun y c h => (noC h).elim, hL, fun y c h => (noC h).elim, fun p hp' => ?_, e.hok, hlen⟩
  · have hb : b < F.L := Nat.lt_of_lt_of_le (Heap.lt_size h) g.bs
    obtain ⟨h1, h2⟩ := e.bs b o h
    exact ⟨by show (pre s.heap F.L).get? b = some o; rw [pre_get hb]; exact h1, by show preH H F.L b = none; rw [preH_lt hb]; exact h2⟩
  · show G.base.objs.size ≤ (pre s.heap F.L).objs.size
    rw [hsz]
    exact g.bs
  · exact funs_pre g.lo e.funs
  · intro b hb
    show preH H F.L b = none
    rw [preH_lt (g.lo b hb)]
    exact e.frf b hb
  · exact (pre_some h).2
  · exact ⟨o.slots, (pre_some h).2⟩
  · have hb := (pre_some h).1
    have h2 : preH H F.L b = none := h2
    rw [preH_lt hb] at h2
    exact h2
  · exact ⟨o, (pre_some h).2⟩
  · obtain ⟨u, r, k, q⟩ := hl i y v h1 h2 h3
    exact ⟨u, r, .inl ⟨k, q⟩⟩
  · rcases List.mem_append.mp hp' with z | z
    · cases z
    · obtain ⟨p1, p2, p3, p4, p5⟩ := hp p z
      exact ⟨p1, p2, p3, p4, p5⟩

/-! ### what is not the generator's -/
/-- the untracked objects from L on that are not at one of as -/
def others (h : Heap) (H : Hp) (L : Addr) (as : List Addr) : List (Addr × Obj) := (List.range h.objs.size).filterMap fun a => if a < L ∨ a ∈ as ∨ (H a).isSome = true then none else (h.get? a).map fun o => (a, o)
theorem mem_others {h : Heap} {H : Hp} {L : Addr} {as : List Addr} {a : Addr} {o : Obj} (h1 : L ≤ a) (h2 : a ∉ as) (h3 : H a = none) (e : h.get? a = some o) : (a, o) ∈ others h H L as :=
  List.mem_filterMap.mpr ⟨a, List.mem_range.mpr (Heap.lt_size e), by rw [if_neg (fun z => z.elim (fun q => Nat.lt_irrefl _ (Nat.lt_of_lt_of_le q h1)) fun q => q.elim h2 fun q => by rw [h3] at q; cases q), e]; rfl⟩
theorem of_others {h : Heap} {H : Hp} {L : Addr} {as : List Addr} {p : Addr × Obj} (hp : p ∈ others h H L as) : L ≤ p.1 ∧ p.1 ∉ as ∧ H p.1 = none ∧ h.get? p.1 = some p.2 := by
  obtain ⟨b, _, e⟩ := List.mem_filterMap.mp hp
  split at e
  · cases e
  · rename_i hn
    simp only [not_or] at hn
    cases q : h.get? b with
    | none => rw [q] at e; cases e
    | some u =>
      rw [q] at e
      simp only [Option.map_some, Option.some.injEq] at e
      subst e
      refine ⟨Nat.not_lt.mp hn.1, hn.2.1, ?_, q⟩
      cases r : H b with
      | none => rfl
      | some v => exact (hn.2.2 (by rw [r]; rfl)).elim
theorem objOk_there {P : Program} {w : World} {H : Hp} {h : Heap} {a : Addr} {o : HO} (x : ObjOk P w H h a o) : ∃ ob, h.get? a = some ob := by
  induction o with
  | lst xs => obtain ⟨_, _, _, _, e⟩ := x; exact ⟨_, e⟩
  | tup xs => obtain ⟨_, _, _, o, e, _⟩ := x; exact ⟨o, e⟩
  | dK kvs => obtain ⟨_, _, _, _, o, _, _, e, _⟩ := x; exact ⟨o, e⟩
  | dT kvs => obtain ⟨_, _, _, _, o, _, _, e, _⟩ := x; exact ⟨o, e⟩
  | set S n => obtain ⟨o, _, _, _, e, _⟩ := x; exact ⟨o, e⟩
  | ins C dx fs => obtain ⟨_, _, _, e, _⟩ := x; exact ⟨_, e⟩
  | own y => obtain ⟨o, e⟩ := x; exact ⟨o, e⟩
  | xd fs => obtain ⟨_, ⟨o, _, _, e, _⟩, _⟩ := x; exact ⟨o, e⟩
  | rng lo hi => obtain ⟨_, _, _, e⟩ := x; exact ⟨_, e⟩
  | frz ob u ih => obtain ⟨e, _⟩ := x; exact ⟨ob, e⟩
  | tbl ps => exact ⟨_, show h.get? a = some _ from x⟩
  | met f y => exact ⟨_, show h.get? a = some _ from x⟩
  | ext φ => obtain ⟨_, ⟨o, e⟩, _⟩ := x; exact ⟨o, e⟩
/-- the heap's part of a turn, from the invariant -/
theorem un_of {G : GP} {F : GF} {pins : List (Addr × Obj)} {σ : L2.St} {s0 s : Shared} {H0 H : Hp} {as : List Addr} (I : Inv (cxW G F s0 H0) pins σ H (bare0 s)) (hp : ∀ p ∈ others s0.heap H0 F.L as, p ∈ pins) (ext : ∀ b o, H0 b = some o → H b = some o)
    (hlo : ∀ b ∈ frs G.stack, b < F.L) : L2.Un (frs G.stack) as H0 H s0.heap s.heap := by
  have low : ∀ {b o}, b < F.L → s0.heap.get? b = some o → (cxW G F s0 H0).s_0.heap.get? b = some o := fun {b o} hb e => by
    show (pre s0.heap F.L).get? b = some o
    rw [pre_get hb]
    exact e
  have lowH : ∀ {b}, b < F.L → H0 b = none → (cxW G F s0 H0).H_0 b = none := fun {b} hb e => by
    show preH H0 F.L b = none
    rw [preH_lt hb]
    exact e
  have hi : ∀ {b o}, ¬ b < F.L → b ∉ as → H0 b = none → s0.heap.get? b = some o → s.heap.get? b = some o ∧ H b = none := fun {b o} hb ha hn e => by
    have q := I.pin (b, o) (List.mem_append_right _ (hp _ (mem_others (Nat.not_lt.mp hb) ha hn e)))
    exact ⟨q.1, q.2.1⟩
  refine ⟨fun b o e n hf hx => ?_, fun b o e n hf hx => ?_, fun b o e n hx => ?_, fun b o e hx => ?_, fun b xs h => ext b _ h, fun b o u h => ext b _ h, fun b ps h => ⟨#[], by rw [ext b _ h]; simp⟩⟩
  · by_cases hb : b < F.L
    · exact I.base.keep b o (low hb e) (lowH hb n) hf (by intro z; cases z)
    · exact (hi hb hx n e).1
  · have hb := hlo b hf
    exact I.base.slot b o (low hb e) (lowH hb n) hf (by intro z; cases z)
  · by_cases hb : b < F.L
    · exact I.base.free b o (low hb e) (lowH hb n) (by intro z; cases z)
    · exact (hi hb hx n e).2
  · cases q : H0 b with
    | some u => exact objOk_there (I.hok b u (ext b u q))
    | none =>
      by_cases hb : b < F.L
      · exact I.base.there b o (low hb e) (by intro z; cases z)
      · exact ⟨o, (hi hb hx q e).1⟩
end GX
end SGReb
section SGRn
set_option linter.all false
set_option maxRecDepth 100000
/-! a generator's turn as it runs; its leaf steps -/
namespace GX
open PySem L2 GStub PyProof.Rows

/-! ### what is not the generator's is known as it stands -/
def seen (h : Heap) (H : Hp) (L : Addr) (as : List Addr) (b : Addr) : Prop := L ≤ b ∧ b ∉ as ∧ H b = none ∧ ∃ o, h.get? b = some o
abbrev fast (b : Addr) (o : Obj) : HO := .ext fun h' => h'.get? b = some o
open Classical in
noncomputable def ov (h : Heap) (H : Hp) (L : Addr) (as : List Addr) : Hp := fun b => if L ≤ b ∧ b ∉ as ∧ H b = none then (h.get? b).map (fast b) else H b
open Classical in
noncomputable def unov (h : Heap) (H0 : Hp) (L : Addr) (as : List Addr) (H : Hp) : Hp := fun b => if seen h H0 L as b then none else H b
section
variable {h : Heap} {H : Hp} {L : Addr} {as : List Addr} {b : Addr} {o : Obj} {u : HO}
theorem ov_lt (hb : b < L) : ov h H L as b = H b := by
  unfold ov
  exact if_neg fun z => absurd (Nat.lt_of_lt_of_le hb z.1) (Nat.lt_irrefl _)
theorem ov_of (e : H b = some u) : ov h H L as b = some u := by
  unfold ov
  rw [if_neg (fun z => by rw [e] at z; exact nomatch z.2.2)]
  exact e
theorem ov_in (hb : b ∈ as) : ov h H L as b = H b := by
  unfold ov
  exact if_neg fun z => z.2.1 hb
theorem ov_seen (x : seen h H L as b) (e : h.get? b = some o) : ov h H L as b = some (fast b o) := by
  unfold ov
  rw [if_pos ⟨x.1, x.2.1, x.2.2.1⟩, e]
  rfl
theorem of_ov (e : ov h H L as b = some u) : H b = some u ∨ (seen h H L as b ∧ ∃ o, h.get? b = some o ∧ u = fast b o) := by
  unfold ov at e
  split at e
  · rename_i z
    cases q : h.get? b with
    | none => rw [q] at e; cases e
    | some o =>
      rw [q] at e
      cases e
      exact .inr ⟨⟨z.1, z.2.1, z.2.2, o, q⟩, o, rfl, rfl⟩
  · exact .inl e
theorem hok_ov {P : Program} {w : World} (x : HOk P w H h) : HOk P w (ov h H L as) h := fun b u e => by
  rcases of_ov e with e | ⟨_, o, ho, rfl⟩
  · exact (x b u e).stay (fun c v _ q => q) (fun c q => ov_of q) fun c xs q => ov_of q
  · exact ⟨ho, ⟨o, ho⟩, fun h1 h2 p k => k o p⟩
theorem unov_seen {H0 : Hp} (x : seen h H0 L as b) : unov h H0 L as H b = none := by
  unfold unov
  exact if_pos x
theorem unov_no {H0 : Hp} (x : ¬ seen h H0 L as b) : unov h H0 L as H b = H b := by
  unfold unov
  exact if_neg x
theorem unov_some {H0 : Hp} (e : unov h H0 L as H b = some u) : H b = some u ∧ ¬ seen h H0 L as b := by
  unfold unov at e
  split at e
  · cases e
  · exact ⟨e, by assumption⟩
theorem unov_none {H0 : Hp} (e : H b = none) : unov h H0 L as H b = none := by
  unfold unov
  split
  · rfl
  · exact e
/-- what is no bare word stands behind the lid too -/
theorem unov_of {h : Heap} {H0 H : Hp} {L : Addr} {as : List Addr} {b : Addr} {u : HO} (ext : ∀ b o, ov h H0 L as b = some o → H b = some o) (e : H b = some u) (hn : ∀ φ, u ≠ .ext φ) : unov h H0 L as H b = some u := by
  by_cases x : seen h H0 L as b
  · obtain ⟨o, ho⟩ := x.2.2.2
    rw [ext b _ (ov_seen x ho)] at e
    cases e
    exact (hn _ rfl).elim
  · rw [unov_no x]; exact e
end

/-! ### the table of generators through a turn -/
structure Gn (s0 : Shared) (d0 : GD) (og : List (Nat × GenState)) (s : Shared) : Prop where
  sz : s0.gens.size ≤ s.gens.size
  keepG : ∀ (i : Nat) (x : GenState), s0.gens[i]? = some x → isSusp x = true → i ∉ d0.nr → s.gens[i]? = some x
  bareG : ∀ (i : Nat) (y : GenState), s.gens[i]? = some y → y.bare = true ∨ i ∈ og.map (·.1) ∨ (s0.gens[i]? = some y ∧ isSusp y = true ∧ i ∉ d0.nr)
  standG : ∀ p ∈ og, s.gens[p.1]? = some p.2 ∧ isSusp p.2 = true ∧ (p.1 ∈ d0.nr ∨ s0.gens.size ≤ p.1)
theorem Gn.kept {s0 s s2 : Shared} {d0 : GD} {og : List (Nat × GenState)} (g : Gn s0 d0 og s) (k : Kept s s2) : Gn s0 d0 og s2 where
  sz := Nat.le_trans g.sz k.size
  keepG := fun i x e q n => k.keep i x (g.keepG i x e q n) q
  bareG := fun i y e => by
    rcases k.bare i y e with z | ⟨z, q⟩
    · exact .inl z
    · exact g.bareG i y z
  standG := fun p hp => by
    obtain ⟨h1, h2, h3⟩ := g.standG p hp
    exact ⟨k.keep p.1 p.2 h1 h2, h2, h3⟩

/-! ### a leaf step -/
section
variable {X : Cx} {pins : List (Addr × Obj)} {σ : L2.St} {H : Hp} {s : Shared}
/-- a step of the logic within any frame, the sleepers under a stub -/
theorem leaf {α : Type} {m : Sem α} {s0 : Shared} {d0 : GD} {og : List (Nat × GenState)} {Q : α → L2.St → Hp → Heap → Prop} (g : Gn s0 d0 og s) (I : Inv X pins σ H (bare0 s)) {pins' : List (Addr × Obj)} {E : Value → Shared → Prop}
    (h : Inv X pins σ H (stubs s) → wpAny (model X.prog X.w) X.A m (fun a s' => ∃ σ' H', Inv X pins' σ' H' s' ∧ Q a σ' H' s'.heap) (fun _ _ => False) (stubs s)) :
    RX (model X.prog X.w) X.A m (fun a s' => ∃ σ' H', Inv X pins' σ' H' (bare0 s') ∧ Gn s0 d0 og s' ∧ Q a σ' H' s'.heap) E s := by
  refine RX.of (wpAny_stub (wpAny_mono (h (inv_stubs I)) (fun a s' q => ?_) fun _ _ z => z.elim))
  obtain ⟨σ', H', I', q⟩ := q
  refine ⟨I'.bare, fun s2 e k => ?_⟩
  refine ⟨σ', H', inv_bare0 I' e, g.kept k, ?_⟩
  rw [e]
  exact q
end

/-! ### the turn -/
noncomputable abbrev lid (F : GF) (r : Ref) : Hp := ov r.s.heap r.H F.L r.d.at
/-- the generator F is on turn since r -/
structure Rn (G : GP) (F : GF) (r : Ref) (pins : List (Addr × Obj)) (og : List (Nat × GenState)) (σ : L2.St) (H : Hp) (s : Shared) : Prop where
  inv : Inv (cxW G F r.s r.H) pins σ H (bare0 s)
  ext : ∀ b o, lid F r b = some o → H b = some o
  gn : Gn r.s r.d og s
  hi : ∀ p ∈ pins, F.L ≤ p.1
section
variable {G : GP} {F : GF} {r : Ref} {pins : List (Addr × Obj)} {og : List (Nat × GenState)} {σ : L2.St} {H : Hp} {s : Shared}
/-- it falls asleep: its frame's object oL -/
theorem Rn.evd (g : GFok G F) (hL : F.L ∈ r.d.at) (hlo : G.lo ≤ F.L) (x : Rn G F r pins og σ H s) : ∃ oL, s.heap.get? F.L = some oL ∧ (∀ v, oL.data ≠ .cell v) ∧ H F.L = none ∧ Evd G r.s r.H r.d s (unov r.s.heap r.H F.L r.d.at H) ⟨(F.L, oL) :: pins, og⟩ := by
  obtain ⟨m, ⟨oL, es, ep, ho, hd, hm⟩, _⟩ := id x.inv.loc
  have hd' : ∀ v, oL.data ≠ .cell v := fun v z => by rw [hd] at z; cases z
  have hn := x.inv.free
  refine ⟨oL, ho, hd', hn, ?_⟩
  have seenOf : ∀ {b : Addr} {o : Obj}, ¬ b < F.L → r.s.heap.get? b = some o → r.H b = none → b ∉ r.d.at → seen r.s.heap r.H F.L r.d.at b := fun {b o} hb e n hx => ⟨Nat.not_lt.mp hb, hx, n, o, e⟩
  have high : ∀ {b o}, ¬ b < F.L → r.s.heap.get? b = some o → r.H b = none → b ∉ r.d.at → s.heap.get? b = some o := fun {b o} hb e n hx => by
    have q := x.inv.hok b _ (x.ext b _ (ov_seen (seenOf hb e n hx) e))
    exact q.1
  have noseen : ∀ {b}, b < F.L → ¬ seen r.s.heap r.H F.L r.d.at b := fun {b} hb z => absurd (Nat.lt_of_lt_of_le hb z.1) (Nat.lt_irrefl _)
  have low : ∀ {b o}, b < F.L → r.s.heap.get? b = some o → (cxW G F r.s r.H).s_0.heap.get? b = some o := fun {b o} hb e => by
    show (pre r.s.heap F.L).get? b = some o
    rw [pre_get hb]
    exact e
  have lowH : ∀ {b}, b < F.L → r.H b = none → (cxW G F r.s r.H).H_0 b = none := fun {b} hb e => by
    show preH r.H F.L b = none
    rw [preH_lt hb]
    exact e
  have old : ∀ {b : Addr} {u : HO}, r.H b = some u → unov r.s.heap r.H F.L r.d.at H b = some u := fun {b u} e => by
    rw [unov_no (fun z => by rw [z.2.2.1] at e; cases e)]
    exact x.ext b u (ov_of e)
  have ownK : ∀ p ∈ (F.L, oL) :: pins, s.heap.get? p.1 = some p.2 ∧ H p.1 = none ∧ p.1 ∉ frs G.stack ∧ (∀ v, p.2.data ≠ .cell v) ∧ F.L ≤ p.1 := fun p hp => by
    rcases List.mem_cons.mp hp with e | hp
    · subst e
      exact ⟨ho, hn, fun z => absurd (g.lo _ z) (Nat.lt_irrefl _), hd', Nat.le_refl _⟩
    · obtain ⟨h1, h2, h3, h4, h5⟩ := x.inv.pin p (List.mem_append_right _ hp)
      exact ⟨h1, h2, h4, h5, x.hi p hp⟩
  refine ⟨x.inv.os, ⟨fun b o e n hf hx => ?_, fun b o e n hf hx => ?_, fun b o e n hx => ?_, fun b o e hx => ?_, fun b xs h => old h, fun b o u h => old h, fun b ps h => ⟨#[], by rw [old h]; simp⟩⟩, fun b o e => old e, fun b u e => ?_, x.gn.sz, x.gn.keepG, x.gn.bareG, fun p hp => ?_, fun p hp => ?_, x.gn.standG⟩
  · by_cases hb : b < F.L
    · exact x.inv.base.keep b o (low hb e) (lowH hb n) hf (by intro z; cases z)
    · exact high hb e n hx
  · have hb := g.lo b hf
    exact x.inv.base.slot b o (low hb e) (lowH hb n) hf (by intro z; cases z)
  · by_cases hb : b < F.L
    · exact unov_none (x.inv.base.free b o (low hb e) (lowH hb n) (by intro z; cases z))
    · exact unov_seen (seenOf hb e n hx)
  · cases q : r.H b with
    | some u => exact objOk_there (x.inv.hok b u (x.ext b u (ov_of q)))
    | none =>
      by_cases hb : b < F.L
      · exact x.inv.base.there b o (low hb e) (by intro z; cases z)
      · exact ⟨o, high hb e q hx⟩
  · obtain ⟨e1, _⟩ := unov_some e
    exact (x.inv.hok b u e1).stay (fun c v _ q => q) (fun c q => unov_of x.ext q fun φ z => by cases z) fun c xs q => unov_of x.ext q fun φ z => by cases z
  · obtain ⟨h1, h2, h3, h4, h5⟩ := ownK p hp
    by_cases hx : p.1 ∈ r.d.at
    · exact .inl hx
    · refine .inr ⟨?_, Nat.le_trans hlo h5⟩
      cases q : r.s.heap.get? p.1 with
      | none => rfl
      | some o =>
        cases q2 : r.H p.1 with
        | some u => rw [x.ext p.1 u (ov_of q2)] at h2; cases h2
        | none =>
          rw [x.ext p.1 _ (ov_seen ⟨h5, hx, q2, o, q⟩ q)] at h2
          cases h2
  · obtain ⟨h1, h2, h3, h4, _⟩ := ownK p hp
    exact ⟨h1, unov_none h2, h3, h4⟩
theorem Rn.frm (g : GFok G F) (x : Rn G F r pins og σ H s) : FrmAt F s.heap σ := by
  have h := FrmAt.of (s := bare0 s) g x.inv
  exact h
/-- it is woken: all as it was -/
theorem Rn.wake (g : GFok G F) (hL : F.L ∈ r.d.at) {oL : Obj} {s2 : Shared} {H2 : Hp} (hL1 : s.heap.get? F.L = some oL) (x : Rn G F r pins og σ H s) (w : Wk G s (unov r.s.heap r.H F.L r.d.at H) ⟨(F.L, oL) :: pins, og⟩ s2 H2) :
    Rn G F ⟨s2, H2, ⟨(F.L, oL) :: pins, og⟩⟩ pins og σ (ov s2.heap H2 F.L (F.L :: pins.map (·.1))) s2 := by
  have hf := (x.frm g).keep (h' := s2.heap) fun o e => by
    rw [hL1] at e
    cases e
    exact (w.stand _ List.mem_cons_self).1
  have hin : F.L ∈ F.L :: pins.map (·.1) := List.mem_cons_self
  have e2 := w.env
  have e0 : Env0 G.prog G.w G.K G.mg G.base G.A G.stack (bare0 s2) H2 := e2
  have hp : ∀ p ∈ pins, s2.heap.get? p.1 = some p.2 ∧ H2 p.1 = none ∧ p.1 ≠ F.L ∧ p.1 ∉ frs G.stack ∧ ∀ v, p.2.data ≠ .cell v := fun p hp => by
    obtain ⟨h1, h2, h3, h4, h5⟩ := x.inv.pin p (List.mem_append_right _ hp)
    obtain ⟨w1, w2⟩ := w.stand p (List.mem_cons_of_mem _ hp)
    exact ⟨w1, w2, h3, h4, h5⟩
  have I0 : Inv (cxW G F s2 H2) pins σ H2 (bare0 s2) := rebase g e0 hf (w.stand _ List.mem_cons_self).2 hp
  have hpin : ∀ p ∈ pins, p.1 ∈ F.L :: pins.map (·.1) := fun p hp => List.mem_cons_of_mem _ (List.mem_map.mpr ⟨p, hp, rfl⟩)
  refine ⟨⟨I0.ok, I0.os, I0.bare, ⟨I0.base.keep, I0.base.slot, fun b o e n hx => ?_, I0.base.there, fun b xs h => ov_of (preH_some h).2, fun b o u h => ov_of (preH_some h).2, fun b ps h => ⟨#[], by rw [ov_of (preH_some h).2]; simp⟩⟩, I0.loc, I0.cell, ?_, fun y c h => ?_, fun p hp' => ?_, hok_ov I0.hok, I0.len⟩,
    fun b o e => e, ⟨Nat.le_refl _, fun i x h _ _ => h, fun i y h => ?_, fun p hp' => ?_⟩, x.hi⟩
  · have e' : (pre s2.heap F.L).get? b = some o := e
    rw [ov_lt (pre_some e').1]
    exact I0.base.free b o e n hx
  · show ov s2.heap H2 F.L (F.L :: pins.map (·.1)) F.L = none
    rw [ov_in hin]
    exact (w.stand _ List.mem_cons_self).2
  · have h : F.env.cells.lookup y = some c := h
    rw [g.nc] at h
    cases h
  · rcases List.mem_append.mp hp' with z | z
    · cases z
    · obtain ⟨p1, p2, p3, p4, p5⟩ := hp p z
      refine ⟨p1, ?_, p3, p4, p5⟩
      rw [ov_in (hpin p z)]
      exact p2
  · rcases w.bareG i y h with z | z | z
    · exact .inl z
    · exact .inr (.inl z)
    · by_cases q : i ∈ og.map (·.1)
      · exact .inr (.inl q)
      · exact .inr (.inr ⟨h, z, q⟩)
  · obtain ⟨h1, h2, h3⟩ := x.gn.standG p hp'
    exact ⟨w.standG p hp', h2, .inl (List.mem_map.mpr ⟨p, hp', rfl⟩)⟩
/-- a leaf step of the turn -/
theorem Rn.leaf {α : Type} {m : Sem α} {pins' : List (Addr × Obj)} {Q : α → L2.St → Hp → Heap → Prop} {E : Value → Shared → Prop} (x : Rn G F r pins og σ H s) (hp : ∀ p ∈ pins', F.L ≤ p.1)
    (h : ∀ s1, Inv (cxW G F r.s r.H) pins σ H s1 → s1.heap = s.heap → wpAny G.M (G.A.deeper F.env) m (fun a s' => ∃ σ' H', Inv (cxW G F r.s r.H) pins' σ' H' s' ∧ (∀ b o, H b = some o → H' b = some o) ∧ Q a σ' H' s'.heap) (fun _ _ => False) s1) :
    RX G.M (G.A.deeper F.env) m (fun a s' => ∃ σ' H', Rn G F r pins' og σ' H' s' ∧ Q a σ' H' s'.heap ∧ ∀ b o, H b = some o → H' b = some o) E s := by
  refine (GX.leaf (X := cxW G F r.s r.H) (Q := fun a σ' H' h' => (∀ b o, H b = some o → H' b = some o) ∧ Q a σ' H' h') x.gn x.inv fun I => h _ I rfl).mono (fun a s' q => ?_) fun _ _ z => z
  obtain ⟨σ', H', I', g', e', q⟩ := q
  exact ⟨σ', H', ⟨I', fun b o z => e' b o (x.ext b o z), g', hp⟩, q, e'⟩
end
end GX
end SGRn
section SGIn
set_option linter.all false
set_option maxRecDepth 100000
/-! a generator's turn, from where it is walked -/
namespace GX
open PySem L2 GStub PyProof.Rows
open Sem (wp)

/-- the frame rule, with the new generators as they stand -/
theorem wpAny_stubN {α : Type} {M : Model} {A : Around} {s : Shared} {t : Sem α} {Q : α → Shared → Prop} {E : Value → Shared → Prop}
    (h : wpAny M A t (fun a s' => AllBare s'.gens ∧ ∀ s2 : Shared, s2 = { s' with gens := s2.gens } → Kept s s2 → (∀ i, s.gens.size ≤ i → s2.gens[i]? = s'.gens[i]?) → Q a s2)
      (fun e s' => AllBare s'.gens ∧ ∀ s2 : Shared, s2 = { s' with gens := s2.gens } → Kept s s2 → (∀ i, s.gens.size ≤ i → s2.gens[i]? = s'.gens[i]?) → E e s2) (stubs s)) : wpAny M A t Q E s := by
  refine GenW.wpAny_gsz (Nat.le_refl s.gens.size) ?_
  intro Γ p hΓ
  have h0 : ∀ i, (stubs s).gens.size ≤ i → slp s.gens i = none := fun i hi => by
    have e : s.gens[i]? = none := Array.getElem?_eq_none_iff.mpr (by rw [(gr_stubs s).size]; exact hi)
    unfold slp
    rw [e]
  have h1 := wp_stub M Γ (slp s.gens) (fun i x z => (slp_some z).2) t _ _ p (stubs s) s.gens h0 (gr_stubs s) (good_stubs s) (h Γ p hΓ)
  have e0 : ({ stubs s with gens := s.gens } : Shared) = s := rfl
  rw [e0] at h1
  have hsz : (stubs s).gens.size = s.gens.size := (gr_stubs s).size.symm
  have hnew : ∀ {s' s2 : Shared}, GR (slp s.gens) s2.gens s'.gens → ∀ i, s.gens.size ≤ i → s2.gens[i]? = s'.gens[i]? := fun {s' s2} r i hi => r.off i (h0 i (by rw [hsz]; exact hi))
  have hk : ∀ {s' s2 : Shared}, GR (slp s.gens) s2.gens s'.gens → AllBare s'.gens → s.gens.size ≤ s2.gens.size → Kept s s2 := fun {s' s2} r hB hz => by
    refine ⟨hz, fun i x e q => (r.on i x (slp_of e q)).1, fun i y e => ?_⟩
    cases hF : slp s.gens i with
    | none =>
      have e' := r.off i hF
      rw [e] at e'
      exact .inl (hB _ (Array.mem_of_getElem? e'.symm))
    | some x =>
      obtain ⟨q1, _⟩ := r.on i x hF
      rw [e] at q1
      cases q1
      exact .inr (slp_some hF)
  refine Sem.wp_mono M Γ t (fun a p' s2 q => ?_) (fun e p' s2 q => ?_) p s h1
  · obtain ⟨s', r, g, e, hB, q⟩ := q
    exact fun hz => q s2 e (hk r hB hz) (hnew r)
  · obtain ⟨s', r, g, e', hB, q⟩ := q
    exact fun hz => q s2 e' (hk r hB hz) (hnew r)
section
variable {X : Cx} {pins : List (Addr × Obj)} {σ : L2.St} {H : Hp} {s : Shared}
/-- a leaf step, the new generators as they stand -/
theorem leafN {α : Type} {m : Sem α} {s0 : Shared} {d0 : GD} {og : List (Nat × GenState)} {Q : α → L2.St → Hp → Heap → Array GenState → Prop} (g : Gn s0 d0 og s) (I : Inv X pins σ H (bare0 s)) {pins' : List (Addr × Obj)} {E : Value → Shared → Prop}
    (h : Inv X pins σ H (stubs s) → wpAny (model X.prog X.w) X.A m (fun a s' => ∃ σ' H', Inv X pins' σ' H' s' ∧ Q a σ' H' s'.heap s'.gens) (fun _ _ => False) (stubs s)) :
    RX (model X.prog X.w) X.A m (fun a s' => ∃ σ' H' gs', Inv X pins' σ' H' (bare0 s') ∧ Gn s0 d0 og s' ∧ Q a σ' H' s'.heap gs' ∧ ∀ i, s.gens.size ≤ i → s'.gens[i]? = gs'[i]?) E s := by
  refine RX.of (wpAny_stubN (wpAny_mono (h (inv_stubs I)) (fun a s' q => ?_) fun _ _ z => z.elim))
  obtain ⟨σ', H', I', q⟩ := q
  refine ⟨I'.bare, fun s2 e k hn => ?_⟩
  refine ⟨σ', H', s'.gens, inv_bare0 I' e, g.kept k, ?_, hn⟩
  rw [e]
  exact q
end

/-- tuples and frozen things stay -/
structure Mn (H H' : Hp) : Prop where
  tups : ∀ b xs, H b = some (.tup xs) → H' b = some (.tup xs)
  frzs : ∀ b o u, H b = some (.frz o u) → H' b = some (.frz o u)
theorem Mn.rfl {H : Hp} : Mn H H := ⟨fun _ _ h => h, fun _ _ _ h => h⟩
theorem Mn.trans {H H1 H2 : Hp} (a : Mn H H1) (b : Mn H1 H2) : Mn H H2 := ⟨fun x xs h => b.tups x xs (a.tups x xs h), fun x o u h => b.frzs x o u (a.frzs x o u h)⟩
theorem Mn.of {H H1 : Hp} (a : ∀ b o, H b = some o → H1 b = some o) : Mn H H1 := ⟨fun x xs h => a x _ h, fun x o u h => a x _ h⟩
/-- a generator made in X's body -/
abbrev gp (X : Cx) (A : Around) (lo : Nat) : GP := ⟨X.prog, X.w, X.K, X.mg, X.base, A, X.stack, lo⟩
/-- an object of a generator that nobody waits for, by itself -/
def GenOb (o : Obj) (g : Nat) : Prop := o.cls = .type "generator" ∧ (∃ nm qn, o.data = .fields #[.int g 0, nm, qn]) ∧ ((o.slots[0]? : Option (Option Value)) = none ∨ ∃ t, (o.slots[0]? : Option (Option Value)) = some (some (.int 0 t)))
theorem GenOb.at {h : Heap} {o : Obj} {a : Addr} {g : Nat} (x : GenOb o g) (e : h.get? a = some o) : GenO h a g := let ⟨hc, ⟨nm, qn, hd⟩, hs⟩ := x; ⟨o, nm, qn, e, hc, hd, hs⟩
/-- a generator that may be woken: it fell asleep at H; what it owns is apart from P -/
structure Sl (X : Cx) (G : GP) (P : List (Addr × Obj)) (g : Nat) (gs : GenState) (ys : List (List Int)) (d : GD) (H : Hp) : Prop where
  wk : wakes gs = true
  gd : g ∉ d.nr
  low : ∀ p ∈ d.own, G.lo ≤ p.1
  dj : ∀ p ∈ X.pn ++ P, p.1 ∉ d.at
  rdy : ∀ s0 s2 H2, Wk G s0 H d s2 H2 → ∀ p B, FitW G.A B → Out G ys B s2 (thr G.M gs p B) ⟨s2, H2, d⟩
theorem mem_nr {d : GD} {i : Nat} {x : GenState} (h : (i, x) ∈ d.og) : i ∈ d.nr := List.mem_map.mpr ⟨(i, x), h, rfl⟩
theorem setGen_ne {s : Shared} {g i : Nat} {x : GenState} (h : i ≠ g) : (s.setGen g x).gens[i]? = s.gens[i]? := by
  show (s.gens.setIfInBounds g x)[i]? = _
  exact Array.getElem?_setIfInBounds_ne (Ne.symm h)
theorem setGen_eq {s : Shared} {g : Nat} {x y : GenState} (h : s.gens[g]? = some y) : (s.setGen g x).gens[g]? = some x := by
  show (s.gens.setIfInBounds g x)[g]? = _
  have hlt : g < s.gens.size := (Array.getElem?_eq_some_iff.mp h).1
  rw [Array.getElem?_setIfInBounds_self_of_lt hlt]
theorem setGen_lt {s : Shared} {g : Nat} {x : GenState} (h : g < s.gens.size) : (s.setGen g x).gens[g]? = some x := by
  show (s.gens.setIfInBounds g x)[g]? = _
  rw [Array.getElem?_setIfInBounds_self_of_lt h]
/-- the table behind a turn -/
theorem Gn.turned {s0 s s1 : Shared} {d0 d d' : GD} {og : List (Nat × GenState)} {g : Nat} {gs gs' : GenState} {og' : List (Nat × GenState)} {G : GP} {H H' : Hp} (gn : Gn s0 d0 og s) (h1 : ∀ p ∈ d.og, p ∈ og) (h2 : ∀ p ∈ og, p.1 = g ∨ p ∈ d.og) (h3 : g ∈ d0.nr ∨ s0.gens.size ≤ g) (hg : s.gens[g]? = some gs)
    (hgd : g ∉ d.nr) (e : Evd G (s.setGen g .running) H d s1 H' d') (hs : og' = (g, gs') :: d'.og ∧ isSusp gs' = true ∨ (og' = d'.og ∧ gs'.bare = true)) : Gn s0 d0 og' (s1.setGen g gs') ∧ g ∉ d'.nr := by
  have hlt : g < s.gens.size := (Array.getElem?_eq_some_iff.mp hg).1
  have hsz : (s.setGen g .running).gens.size = s.gens.size := GenW.setGen_size ..
  have hlt1 : g < s1.gens.size := Nat.lt_of_lt_of_le (by rw [hsz]; exact hlt) e.sz
  have kp : ∀ (i : Nat) (x : GenState), s0.gens[i]? = some x → isSusp x = true → i ∉ d0.nr → i ≠ g ∧ i ∉ d.nr := fun i x hx _ hn => by
    have hi : i < s0.gens.size := (Array.getElem?_eq_some_iff.mp hx).1
    refine ⟨fun z => ?_, fun z => ?_⟩
    · subst z
      rcases h3 with z | z
      · exact hn z
      · exact absurd (Nat.lt_of_lt_of_le hi z) (Nat.lt_irrefl _)
    · obtain ⟨p, hp, hq⟩ := List.mem_map.mp z
      rcases (gn.standG p (h1 p hp)).2.2 with y | y
      · exact hn (hq ▸ y)
      · rw [hq] at y
        exact absurd (Nat.lt_of_lt_of_le hi y) (Nat.lt_irrefl _)
  have hgd' : g ∉ d'.nr := fun z => by
    obtain ⟨p, hp, hq⟩ := List.mem_map.mp z
    rcases (e.standG p hp).2.2 with y | y
    · exact hgd (hq ▸ y)
    · rw [hsz, hq] at y
      exact absurd (Nat.lt_of_lt_of_le hlt y) (Nat.lt_irrefl _)
  refine ⟨⟨?_, fun i x hx q hn => ?_, fun i y hy => ?_, fun p hp => ?_⟩, hgd'⟩
  · rw [GenW.setGen_size]
    exact Nat.le_trans gn.sz (by rw [← hsz]; exact e.sz)
  · obtain ⟨z1, z2⟩ := kp i x hx q hn
    rw [setGen_ne z1]
    exact e.keepG i x (by rw [setGen_ne z1]; exact gn.keepG i x hx q hn) q z2
  · by_cases hi : i = g
    · subst hi
      rw [setGen_lt hlt1] at hy
      cases hy
      rcases hs with ⟨z, _⟩ | ⟨_, z⟩
      · exact .inr (.inl (by rw [z]; exact List.mem_cons_self))
      · exact .inl z
    · rw [setGen_ne hi] at hy
      rcases e.bareG i y hy with z | z | ⟨z, q, n⟩
      · exact .inl z
      · refine .inr (.inl ?_)
        rcases hs with ⟨w, _⟩ | ⟨w, _⟩
        · rw [w]; exact List.mem_cons_of_mem _ z
        · rw [w]; exact z
      · rw [setGen_ne hi] at z
        rcases gn.bareG i y z with w | w | w
        · exact .inl w
        · obtain ⟨p, hp, hq⟩ := List.mem_map.mp w
          rcases h2 p hp with v | v
          · exact absurd (hq.symm.trans v) hi
          · exact absurd (List.mem_map.mpr ⟨p, v, hq⟩) n
        · exact .inr (.inr w)
  · have old : ∀ p ∈ d'.og, (s1.setGen g gs').gens[p.1]? = some p.2 ∧ isSusp p.2 = true ∧ (p.1 ∈ d0.nr ∨ s0.gens.size ≤ p.1) := fun p hp => by
      obtain ⟨q1, q2, q3⟩ := e.standG p hp
      have hne : p.1 ≠ g := fun z => hgd' (z ▸ List.mem_map.mpr ⟨p, hp, rfl⟩)
      refine ⟨by rw [setGen_ne hne]; exact q1, q2, ?_⟩
      rcases q3 with z | z
      · obtain ⟨p', hp', hq⟩ := List.mem_map.mp z
        have := (gn.standG p' (h1 p' hp')).2.2
        rw [hq] at this
        exact this
      · rw [hsz] at z
        exact .inr (Nat.le_trans gn.sz z)
    rcases hs with ⟨w, q⟩ | ⟨w, _⟩
    · rw [w] at hp
      rcases List.mem_cons.mp hp with z | z
      · subst z
        exact ⟨setGen_lt hlt1, q, h3⟩
      · exact old p z
    · rw [w] at hp
      exact old p hp
section
variable {X : Cx} {σ : L2.St} {H H0 : Hp} {s : Shared} {P : List (Addr × Obj)} {g lo : Nat} {gs : GenState} {ys : List (List Int)} {d : GD} {A B : Around}
/-- the walker's invariant behind a turn -/
theorem inv_turned {s1 : Shared} {H1 : Hp} {d' : GD} {gs' : GenState} (I : Inv X (P ++ d.own) σ H (bare0 s)) (hst : X.stack = X.env :: X.outer ∧ X.env.frame = some X.env.locals) (hlo : X.s_0.heap.objs.size ≤ lo) (low : ∀ p ∈ d.own, lo ≤ p.1) (dj : ∀ p ∈ X.pn ++ P, p.1 ∉ d.at)
    (e : Evd (gp X B lo) (s.setGen g .running) H d s1 H1 d') : Inv X (P ++ d'.own) σ H1 (bare0 (s1.setGen g gs')) ∧ (∀ p ∈ d'.own, lo ≤ p.1) ∧ ∀ p ∈ X.pn ++ P, p.1 ∉ d'.at := by
  have IP : Inv X P σ H (bare0 s) := I.pins_of fun p hp => I.pin p (List.mem_append_right _ (List.mem_append_left _ hp))
  have own : ∀ b ∈ d.at, ∃ p ∈ d.own, p.1 = b := fun b hb => List.mem_map.mp hb
  have IP2 : Inv X P σ H1 (bare0 (s1.setGen g gs')) := by
    refine IP.call' (ch := d.at) e.os e.un e.hok allBare_none fun b hb => ?_
    obtain ⟨p, hp, rfl⟩ := own b hb
    obtain ⟨q1, q2, q3, q4, q5⟩ := I.pin p (List.mem_append_right _ (List.mem_append_right _ hp))
    refine ⟨.inr (Nat.le_trans hlo (low p hp)), q3, fun x c hc z => ?_, fun q hq z => dj q hq (z ▸ hb)⟩
    obtain ⟨v, o, ho, hd⟩ := I.cell x c hc
    rw [z, q1] at ho
    cases ho
    exact q5 v hd
  refine ⟨IP2.pins_of fun p hp => ?_, fun p hp => ?_, fun p hp z => ?_⟩
  · rcases List.mem_append.mp hp with z | z
    · exact IP2.pin p (List.mem_append_right _ z)
    · obtain ⟨q1, q2, q3, q4⟩ := e.stand p z
      have q3 : p.1 ∉ frs X.stack := q3
      rw [hst.1] at q3
      unfold frs at q3
      rw [List.filterMap_cons, hst.2] at q3
      simp only [List.mem_cons, not_or] at q3
      exact ⟨q1, q2, q3.1, q3.2, q4⟩
  · rcases e.young p hp with z | ⟨_, z⟩
    · obtain ⟨q, hq, hz⟩ := own _ z
      rw [← hz]
      exact low q hq
    · exact z
  · obtain ⟨q, hq, hz⟩ := List.mem_map.mp z
    rcases e.young q hq with y | ⟨y, _⟩
    · rw [hz] at y
      exact dj p hp y
    · have hp1 := (I.pin p (by
        rcases List.mem_append.mp hp with w | w
        · exact List.mem_append_left _ w
        · exact List.mem_append_right _ (List.mem_append_left _ w))).1
      rw [hz] at y
      have hp1 : s.heap.get? p.1 = some p.2 := hp1
      have y : s.heap.get? p.1 = none := y
      rw [hp1] at y
      cases y
/-- THE TURN, from where it is walked: the generator's object stands at a, pinned -/
theorem rx_turn {s0 : Shared} {d0 : GD} {og : List (Nat × GenState)} {a : Addr} {oa : Obj} {Q : Option Value → Shared → Prop} {E : Value → Shared → Prop} (hA : B = A.in1) (hh : A.handled = none) (hroom : A.depth < recursionLimit) (hfr : A.frames = some X.stack) (hst : X.stack = X.env :: X.outer ∧ X.env.frame = some X.env.locals) (hlo : X.s_0.heap.objs.size ≤ lo)
    (I : Inv X (P ++ d.own) σ H (bare0 s)) (gn : Gn s0 d0 og s) (h1 : ∀ p ∈ d.og, p ∈ og) (h2 : ∀ p ∈ og, p.1 = g ∨ p ∈ d.og) (h3 : g ∈ d0.nr ∨ s0.gens.size ≤ g) (hsb : ∀ (i : Nat) (y : GenState), s.gens[i]? = some y → y.bare = true ∨ i ∈ og.map (·.1) ∨ isSusp y = true)
    (ha : (a, oa) ∈ P) (hoa : GenOb oa g) (hg : s.gens[g]? = some gs) (sl : Sl X (gp X B lo) P g gs ys d H0) (mn : Mn H0 H)
    (hR : ys = [] → ∀ (s1 : Shared) (H1 : Hp), Inv X P σ H1 (bare0 s1) → (∀ b o, H b = some o → H1 b = some o) → Gn s0 d0 [] s1 → ∀ e, StopX e s1.heap → E e s1)
    (hY : ∀ x ys', ys = x :: ys' → ∀ (v : Value) (s1 : Shared) (H1 : Hp) (d' : GD) (gs' : GenState), Inv X (P ++ d'.own) σ H1 (bare0 s1) → (∀ b o, H b = some o → H1 b = some o) → Gn s0 d0 ((g, gs') :: d'.og) s1 → Yd H1 x v → Sl X (gp X B lo) P g gs' ys' d' H1 → Q (some v) s1) :
    RX (model X.prog X.w) A (callSpecial? (.ref a) "__next__") Q E s := by
  have hpa := (I.pin (a, oa) (List.mem_append_right _ (List.mem_append_left _ ha))).1
  have wk : Wk (gp X B lo) s H0 d (s.setGen g .running) H := by
    have e0 := I.env0
    refine ⟨⟨by rw [hA]; exact hfr, e0.mod, e0.bs, e0.bsz, e0.funs, e0.frf, e0.hok, allBare_none⟩, mn.tups, mn.frzs, fun p hp => ?_, fun p hp => ?_, fun i y hy => ?_⟩
    · obtain ⟨q1, q2, _⟩ := I.pin p (List.mem_append_right _ (List.mem_append_right _ hp))
      exact ⟨q1, q2⟩
    · have hne : p.1 ≠ g := fun z => sl.gd (z ▸ List.mem_map.mpr ⟨p, hp, rfl⟩)
      rw [setGen_ne hne]
      exact (gn.standG p (h1 p hp)).1
    · by_cases hi : i = g
      · subst hi
        rw [setGen_eq hg] at hy
        cases hy
        exact .inl rfl
      · rw [setGen_ne hi] at hy
        rcases hsb i y hy with z | z | z
        · exact .inl z
        · obtain ⟨p, hp, hq⟩ := List.mem_map.mp z
          rcases h2 p hp with w | w
          · exact absurd (hq.symm.trans w) hi
          · exact .inr (.inl (List.mem_map.mpr ⟨p, w, hq⟩))
        · exact .inr (.inr z)
  refine rx_next (G := gp X B lo) (H := H) (d := d) (xs := ys) hA hh (I.nolimit) hroom (hoa.at hpa) hg sl.wk (fun p B' hB => sl.rdy s _ H wk p B' hB) (fun hx s' H' he e h' hS hk => ?_) fun x xs' hx v s' H' d' gs' rv he hsu hn => ?_
  · obtain ⟨J, _, _⟩ := inv_turned (gs' := .finished) I hst hlo sl.low sl.dj he
    obtain ⟨gn', _⟩ := gn.turned (gs' := .finished) (og' := []) h1 h2 h3 hg sl.gd he (.inr ⟨rfl, rfl⟩)
    have J2 : Inv X P σ H' (bare0 (s'.setGen g .finished)) := J.pins_of fun p hp => J.pin p (List.mem_append_right _ (List.mem_append_left _ hp))
    refine hR hx { s'.setGen g .finished with heap := h' } H' (J2.kept (t' := s'.toks) (h' := h') hk) he.ext ⟨gn'.sz, gn'.keepG, gn'.bareG, gn'.standG⟩ e hS
  · obtain ⟨J, l2, j2⟩ := inv_turned (gs' := gs') I hst hlo sl.low sl.dj he
    obtain ⟨gn', hgd'⟩ := gn.turned (gs' := gs') (og' := (g, gs') :: d'.og) h1 h2 h3 hg sl.gd he (.inl ⟨rfl, hsu⟩)
    refine hY x xs' hx v _ H' d' gs' J he.ext gn' rv ⟨?_, hgd', l2, j2, fun s00 s2 H2 w p B' hB => hn s2 H2 ⟨w.env, w.tups, w.frzs, w.stand, w.standG, w.bareG⟩ p B' hB⟩
    cases gs' <;> first | rfl | cases hsu
end
end GX
end SGIn
section SGYf
set_option linter.all false
set_option maxRecDepth 100000
set_option maxHeartbeats 1000000
/-! yield from a generator, on the machine -/
namespace GX
open PySem L2 GStub PyProof.Rows

/-! ### arounds -/
theorem over_plain {A : Around} {c c' : Code} {fs : List Frame} {k : Result → Sem PySem.Fin} {g : Bool} {l kp : List Value} {p : Pos} (hw : c'.weight = 0) (hu : c'.cUnits = 1) :
    A.over c' (.ret k none g l c p kp :: fs) = (A.over c fs).in1 := by
  have e2 : A.depth + frameCount ((Frame.ret k none g l c p kp :: fs).map Frame.where_) + c'.weight = A.depth + frameCount (fs.map Frame.where_) + c.weight := by
    show A.depth + frameCount ((c, p) :: fs.map Frame.where_) + c'.weight = _
    rw [frameCount_cons, hw]
    omega
  have e3 : pushEnvs c'.envs (pushEnvs (envsOf ((Frame.ret k none g l c p kp :: fs).map Frame.where_)) A.frames) = pushEnvs c.envs (pushEnvs (envsOf (fs.map Frame.where_)) A.frames) := by
    show pushEnvs c'.envs (pushEnvs (envsOf ((c, p) :: fs.map Frame.where_)) A.frames) = _
    rw [Code.envs_of_weight hw, envsOf_cons]
    simp only [pushEnvs_eq]
    cases A.frames <;> simp [List.append_assoc]
  have e4 : pushGuards c'.guards (pushGuards (guardsOf ((Frame.ret k none g l c p kp :: fs).map Frame.where_)) A.guards) = pushGuards c.guards (pushGuards (guardsOf (fs.map Frame.where_)) A.guards) := by
    show pushGuards c'.guards (pushGuards (guardsOf ((c, p) :: fs.map Frame.where_)) A.guards) = _
    rw [Code.guards_of_weight hw, guardsOf_cons]
    simp only [pushGuards_eq]
    cases A.guards <;> simp [List.append_assoc]
  have e5 : A.units + unitsOf ((Frame.ret k none g l c p kp :: fs).map Frame.where_) + c'.cUnits = A.units + unitsOf (fs.map Frame.where_) + c.cUnits + 1 := by
    show A.units + unitsOf ((c, p) :: fs.map Frame.where_) + c'.cUnits = _
    rw [unitsOf_cons, hu]
    omega
  have e1 : (marksOver (Frame.ret k none g l c p kp :: fs) (A.handled, A.handled)).1 = (marksOver fs (A.handled, A.handled)).1 := rfl
  show (⟨(marksOver (Frame.ret k none g l c p kp :: fs) (A.handled, A.handled)).1, A.depth + frameCount ((Frame.ret k none g l c p kp :: fs).map Frame.where_) + c'.weight,
    pushEnvs c'.envs (pushEnvs (envsOf ((Frame.ret k none g l c p kp :: fs).map Frame.where_)) A.frames), pushGuards c'.guards (pushGuards (guardsOf ((Frame.ret k none g l c p kp :: fs).map Frame.where_)) A.guards),
    A.units + unitsOf ((Frame.ret k none g l c p kp :: fs).map Frame.where_) + c'.cUnits⟩ : Around) = _
  rw [e1, e2, e3, e4, e5]
  rfl

/-! ### the mark of a sleeper over a generator -/
def marked (o : Obj) (n : Int) : Obj := { o with slots := (o.slots ++ Array.replicate (0 + 1 - o.slots.size) none).setIfInBounds 0 (some (rawInt n)) }
theorem marked_slot (o : Obj) (n : Int) : ((marked o n).slots[0]? : Option (Option Value)) = some (some (.int n 0)) := by
  unfold marked rawInt
  dsimp only
  rw [Array.getElem?_setIfInBounds_self_of_lt]
  rw [Array.size_append, Array.size_replicate]
  omega
/-- a generator's object whose mark says n -/
def MarkOb (o : Obj) (g : Nat) (n : Int) : Prop := o.cls = .type "generator" ∧ (∃ nm qn, o.data = .fields #[.int g 0, nm, qn]) ∧ (((o.slots[0]? : Option (Option Value)) = none ∧ n = 0) ∨ ∃ t, (o.slots[0]? : Option (Option Value)) = some (some (.int n t)))
theorem GenOb.mark {o : Obj} {g : Nat} (x : GenOb o g) : MarkOb o g 0 := ⟨x.1, x.2.1, x.2.2.elim (fun e => .inl ⟨e, rfl⟩) .inr⟩
theorem MarkOb.next {o : Obj} {g : Nat} {n : Int} (x : MarkOb o g n) (m : Int) : MarkOb (marked o m) g m := ⟨x.1, x.2.1, .inr ⟨0, marked_slot o m⟩⟩
theorem MarkOb.off {o : Obj} {g : Nat} {n : Int} (x : MarkOb o g n) : GenOb (marked o 0) g := ⟨x.1, x.2.1, .inr ⟨0, marked_slot o 0⟩⟩
theorem MarkOb.number {o : Obj} {g : Nat} {n : Int} (x : MarkOb o g n) : o.genNumber?.isSome = true := by
  obtain ⟨hc, ⟨nm, qn, hd⟩, _⟩ := x
  unfold Obj.genNumber?
  rw [hc, hd]
  rfl
theorem MarkOb.nocell {o : Obj} {g : Nat} {n : Int} (x : MarkOb o g n) : ∀ v, o.data ≠ .cell v := fun v z => by
  obtain ⟨_, ⟨_, _, hd⟩, _⟩ := x
  rw [hd] at z
  cases z
section
variable {X : Cx} {σ : L2.St} {H : Hp} {s : Shared} {P : List (Addr × Obj)} {a : Addr} {oa : Obj} {g : Nat} {n : Int}
theorem mark_ok {M : Model} {A : Around} {E : Value → Shared → Prop} {more : Bool} {Q : Unit → Shared → Prop} (I : Inv X ((a, oa) :: P) σ H (bare0 s)) (ho : MarkOb oa g n) (hx : X.s_0.heap.objs.size ≤ a) (hd : ∀ p ∈ X.pn ++ P, p.1 ≠ a)
    (h : ∀ h', Inv X ((a, marked oa (if more then n + 1 else n - 1)) :: P) σ H (bare0 { s with heap := h' }) → h'.get? a = some (marked oa (if more then n + 1 else n - 1)) → Q () { s with heap := h' }) :
    wpAny M A (Builtin.Generator.sleptOver (.ref a) more) Q E s := by
  obtain ⟨p1, p2, p3, p4, p5⟩ := I.pin (a, oa) (List.mem_append_right _ List.mem_cons_self)
  have ha : s.heap.get? a = some oa := p1
  unfold Builtin.Generator.sleptOver
  refine wpAny_bind (wpAny_load ha ?_)
  rw [ho.1]
  rw [if_neg (by decide)]
  have e2 : (s.heap.update a fun o => { o with slots := (o.slots ++ Array.replicate (0 + 1 - o.slots.size) none).setIfInBounds 0 (some (rawInt (if more then n + 1 else n - 1))) }).get? a = some (marked oa (if more then n + 1 else n - 1)) := by
    obtain ⟨nm, qn, hd⟩ := ho.2.1
    exact Heap.get?_update_self (fun o => marked o _) ha (Obj.isFreed_of_fields (o := marked oa _) hd)
  have fin : Q () { s with heap := s.heap.update a fun o => { o with slots := (o.slots ++ Array.replicate (0 + 1 - o.slots.size) none).setIfInBounds 0 (some (rawInt (if more then n + 1 else n - 1))) } } := by
    refine h _ ?_ e2
    have IP : Inv X P σ H (bare0 s) := I.pins_of fun p hp => I.pin p (List.mem_append_right _ (List.mem_cons_of_mem _ hp))
    have cne : ∀ x c, X.env.cells.lookup x = some c → c ≠ a := fun x c hc z => by
      obtain ⟨v, o, ho', hd'⟩ := I.cell x c hc
      rw [z, p1] at ho'
      cases ho'
      exact p5 v hd'
    have J := IP.turned (t' := s.toks) (it := a) (h' := s.heap.update a fun o => { o with slots := (o.slots ++ Array.replicate (0 + 1 - o.slots.size) none).setIfInBounds 0 (some (rawInt (if more then n + 1 else n - 1))) })
      (fun b o hb e => (Heap.get?_update_other _ _ (Ne.symm hb)).trans e) p2 p3 (.inr hx) cne hd
    refine J.pins_of fun p hp => ?_
    rcases List.mem_cons.mp hp with z | z
    · subst z
      exact ⟨e2, p2, p3, p4, (ho.next _).nocell⟩
    · exact J.pin p (List.mem_append_right _ z)
  show wpAny _ _ (setSlotAt a 0 _) _ _ _
  unfold setSlotAt
  rw [if_neg (by decide)]
  have fin2 := wpAny_updatePart (M := M) (A := A) (E := E) (part := some (slotPart 0)) (Q := Q) ha fin
  rcases ho.2.2 with ⟨e, rfl⟩ | ⟨t, e⟩
  · rw [e]
    exact fin2
  · rw [e]
    exact fin2
end

/-! ### the turns of yield from -/
abbrev yfc (a : Addr) : Code := .builtin "proto.yield_from" ⟨[.ref a, .bool false, .none], []⟩
theorem close_gen : typeLookup (.type "generator") "close" = pure (some (.builtin "generator.close")) := by
  rw [typeLookup_type, builtinLookup_eq_fast]
  kernel_rfl
theorem sg_yf {G : GP} {F : GF} {a : Addr} {g : Nat} {B A1 : Around} {fs : List Frame} {rest : List (List Int)} {σ : L2.St} {P : List (Addr × Obj)} (gf : GFok G F) (hlo : G.lo ≤ F.L) (hov : G.A.over (yfc a) fs = A1) (hB : B = A1.in1) (hh : A1.handled = none) (hroom : A1.depth < recursionLimit)
    (hfr : A1.frames = some (F.env :: G.stack)) (hsp : splitAtGen fs = none) (hgd : fs.any Frame.guarded = false) (hLa : F.L < a) (hPa : ∀ p ∈ P, p.1 ≠ a)
    (Hs : Hp) (hend : ∀ (r : Ref) (s : Shared) (H : Hp), F.L ∈ r.d.at → Rn G F r P [] σ H s → Mn Hs H → SegL G rest (yfc a) (.pure (.done (.ret .none))) fs s r) :
    ∀ (ys : List (List Int)) (r : Ref) (oa : Obj) (d : GD) (gs : GenState) (og : List (Nat × GenState)) (H0 H : Hp) (s : Shared), F.L ∈ r.d.at → Rn G F r (((a, oa) :: P) ++ d.own) og σ H s → GenOb oa g →
      (∀ p ∈ d.og, p ∈ og) → (∀ p ∈ og, p.1 = g ∨ p ∈ d.og) → (g ∈ r.d.nr ∨ r.s.gens.size ≤ g) → s.gens[g]? = some gs → Sl (cxW G F r.s r.H) (gp (cxW G F r.s r.H) B F.L) ((a, oa) :: P) g gs ys d H0 → Mn H0 H → Mn Hs H →
      SegL G (ys ++ rest) (yfc a) (G.M.den (yfc a)) fs s r := by
  have s0le : ∀ (r : Ref), (cxW G F r.s r.H).s_0.heap.objs.size ≤ F.L := fun r => by
    show (pre r.s.heap F.L).objs.size ≤ F.L
    rw [pre_size]
    exact Nat.min_le_left _ _
  have hden : ∀ r : Ref, G.M.den (yfc a) = Builtin.«proto.yield_from» ⟨[.ref a, .bool false, .none], []⟩ := fun r => den_yf (X := cxW G F r.s r.H)
  -- the turn, as rx_turn wants it
  have turn : ∀ {r : Ref} {oa : Obj} {d : GD} {gs : GenState} {og : List (Nat × GenState)} {H0 H : Hp} {s : Shared} {ys : List (List Int)} {Q : Option Value → Shared → Prop} {E : Value → Shared → Prop}, Rn G F r (((a, oa) :: P) ++ d.own) og σ H s → GenOb oa g →
      (∀ p ∈ d.og, p ∈ og) → (∀ p ∈ og, p.1 = g ∨ p ∈ d.og) → (g ∈ r.d.nr ∨ r.s.gens.size ≤ g) → s.gens[g]? = some gs → Sl (cxW G F r.s r.H) (gp (cxW G F r.s r.H) B F.L) ((a, oa) :: P) g gs ys d H0 → Mn H0 H →
      (ys = [] → ∀ (s1 : Shared) (H1 : Hp), Rn G F r ((a, oa) :: P) [] σ H1 s1 → (∀ b o, H b = some o → H1 b = some o) → ∀ e, StopX e s1.heap → E e s1) →
      (∀ x ys', ys = x :: ys' → ∀ (v : Value) (s1 : Shared) (H1 : Hp) (d' : GD) (gs' : GenState), Rn G F r (((a, oa) :: P) ++ d'.own) ((g, gs') :: d'.og) σ H1 s1 → (∀ b o, H b = some o → H1 b = some o) → Yd H1 x v → Sl (cxW G F r.s r.H) (gp (cxW G F r.s r.H) B F.L) ((a, oa) :: P) g gs' ys' d' H1 → Q (some v) s1) →
      RX G.M A1 (callSpecial? (.ref a) "__next__") Q E s := fun {r oa d gs og H0 H s ys Q E} x hoa h1 h2 h3 hg sl m0 kR kY => by
    refine rx_turn (X := cxW G F r.s r.H) (lo := F.L) (P := (a, oa) :: P) (d := d) (ys := ys) hB hh hroom hfr ⟨rfl, rfl⟩ (s0le r) x.inv x.gn h1 h2 h3 (fun i y hy => (x.gn.bareG i y hy).imp id (Or.imp id fun z => z.2.1)) List.mem_cons_self hoa hg sl m0
      (fun hy s1 H1 I1 e1 g1 e he => kR hy s1 H1 ⟨I1, fun b o z => e1 b o (x.ext b o z), g1, fun p hp => x.hi p (List.mem_append_left _ hp)⟩ e1 e he)
      fun y ys' hy v s1 H1 d' gs' I1 e1 g1 rv sl1 => kY y ys' hy v s1 H1 d' gs' ⟨I1, fun b o z => e1 b o (x.ext b o z), g1, fun p hp => ?_⟩ e1 rv sl1
    rcases List.mem_append.mp hp with z | z
    · exact x.hi p (List.mem_append_left _ z)
    · exact sl1.low p z
  intro ys
  induction ys with
  | nil =>
    intro r oa d gs og H0 H s hL x hoa h1 h2 h3 hg sl m0 ms
    rw [hden r]
    unfold Builtin.«proto.yield_from»
    try dsimp only
    refine sg_bind (RX.of (wpAny_pure ?_))
    try dsimp only
    refine sg_bind ?_
    rw [hov]
    refine RX.attempt (RX.holding ?_)
    rw [if_neg Bool.false_ne_true, if_pos (show (Value.none == Value.none) = true from rfl)]
    refine RX.bind (RX.of (wpAny_rule (RX.bind ?_)))
    refine turn x hoa h1 h2 h3 hg sl m0 (fun _ s1 H1 x1 e1 e hS => ?_) fun y ys' hy => nomatch hy
    obtain ⟨ea, o, vs, rfl, hea, hcls, hdat, h5⟩ := hS
    try dsimp only
    refine sg_bind (RX.of (wpAny_endsTurn hea hcls ?_))
    try dsimp only
    rw [if_pos rfl]
    first
      | refine sg_bind (RX.of (wpAny_rule ?_))
      | (rw [if_neg Bool.false_ne_true]; refine sg_bind (RX.of (wpAny_rule ?_)))
      | (rw [if_neg Bool.false_ne_true]; refine sg_bind (RX.of (wpAny_pure ?_)); refine sg_bind (RX.of (wpAny_rule ?_)))
    refine sg_bind (RX.of (wpAny_field hea hdat h5 ?_))
    exact hend r s1 H1 hL ⟨x1.inv.pins_of fun p hp => x1.inv.pin p (List.mem_append_right _ (List.mem_cons_of_mem _ hp)), x1.ext, x1.gn, fun p hp => x1.hi p (List.mem_cons_of_mem _ hp)⟩ (ms.trans (Mn.of e1))
  | cons y ys ih =>
    intro r oa d gs og H0 H s hL x hoa h1 h2 h3 hg sl m0 ms
    rw [hden r]
    unfold Builtin.«proto.yield_from»
    try dsimp only
    refine sg_bind (RX.of (wpAny_pure ?_))
    try dsimp only
    refine sg_bind ?_
    rw [hov]
    refine RX.attempt (RX.holding ?_)
    rw [if_neg Bool.false_ne_true, if_pos (show (Value.none == Value.none) = true from rfl)]
    refine RX.bind (RX.of (wpAny_rule (RX.bind ?_)))
    refine turn x hoa h1 h2 h3 hg sl m0 (fun hy => nomatch hy) fun y' ys' hy v s1 H1 d1 gs1 x1 e1 rv sl1 => ?_
    obtain ⟨rfl, rfl⟩ : y = y' ∧ ys = ys' := by injection hy with q1 q2; exact ⟨q1, q2⟩
    refine RX.pure ?_
    have hpa := x1.inv.pin (a, oa) (List.mem_append_right _ List.mem_cons_self)
    have ha1 : s1.heap.get? a = some oa := hpa.1
    try dsimp only
    refine sg_bind (RX.of (wpAny_typeOf (T := "generator") ⟨oa, ha1, hoa.1⟩ ?_))
    try dsimp only
    first
      | (refine sg_bind (RX.of (wpAny_of_eq close_gen ?_)); refine sg_bind (RX.of (wpAny_pure ?_)))
      | refine sg_bind (RX.of (wpAny_bind (wpAny_of_eq close_gen (wpAny_pure ?_))))
      | refine sg_bind (RX.of (wpAny_of_eq close_gen ?_))
    try dsimp only
    have nod : ∀ p ∈ (cxW G F r.s r.H).pn ++ (P ++ d1.own), p.1 ≠ a := fun p hp z => by
      rcases List.mem_append.mp hp with w | w
      · cases w
      · rcases List.mem_append.mp w with w | w
        · exact hPa p w z
        · exact sl1.dj (a, oa) (List.mem_append_right _ List.mem_cons_self) (List.mem_map.mpr ⟨p, w, z⟩)
    refine sg_bind (RX.of (mark_ok (X := cxW G F r.s r.H) (P := P ++ d1.own) x1.inv hoa.mark (Nat.le_trans (s0le r) (Nat.le_of_lt hLa)) nod fun h' I2 ha2 => ?_))
    have x2 : Rn G F r ((a, marked oa 1) :: (P ++ d1.own)) ((g, gs1) :: d1.og) σ H1 { s1 with heap := h' } := ⟨I2, x1.ext, ⟨x1.gn.sz, x1.gn.keepG, x1.gn.bareG, x1.gn.standG⟩, fun p hp => by
      rcases List.mem_cons.mp hp with z | z
      · rw [z]; exact Nat.le_of_lt hLa
      · exact x1.hi p (List.mem_cons_of_mem _ z)⟩
    obtain ⟨oL, hoL, _, hHL, ev⟩ := x2.evd gf hL hlo
    have e1' := e1
    refine sg_yield (d := ⟨(F.L, oL) :: (a, marked oa 1) :: (P ++ d1.own), (g, gs1) :: d1.og⟩) hsp hgd (fun _ => ⟨a, [.bool false, .none], [], _, rfl, ha2, ((hoa.mark.next 1).number)⟩) ?_ ev fun s2 H2 wk => ?_
    · obtain ⟨w, rw, t, o, rfl, ht, h1, h2⟩ := rv
      exact ⟨_, rw, t, o, rfl, unov_of x2.ext ht (fun φ z => nomatch z), h1, h2⟩
    have x3 := x2.wake gf hL hoL wk
    have m3 : Mn H1 (ov s2.heap H2 F.L (F.L :: ((a, marked oa 1) :: (P ++ d1.own)).map (·.1))) :=
      ⟨fun b xs h => ov_of (wk.tups b xs (unov_of x2.ext h fun φ z => nomatch z)), fun b o u h => ov_of (wk.frzs b o u (unov_of x2.ext h fun φ z => nomatch z))⟩
    show SegL G (ys ++ rest) _ (Builtin.Generator.sleptOver (.ref a) false >>= fun _ => _) fs s2 _
    have nod2 : ∀ p ∈ (cxW G F s2 H2).pn ++ (P ++ d1.own), p.1 ≠ a := nod
    have la : (cxW G F s2 H2).s_0.heap.objs.size ≤ a := Nat.le_trans (s0le ⟨s2, H2, ⟨[], []⟩⟩) (Nat.le_of_lt hLa)
    refine sg_bind (RX.of (mark_ok (X := cxW G F s2 H2) (P := P ++ d1.own) x3.inv (hoa.mark.next 1) la nod2 fun h'' I4 ha4 => ?_))
    have x4 : Rn G F ⟨s2, H2, ⟨(F.L, oL) :: (a, marked oa 1) :: (P ++ d1.own), (g, gs1) :: d1.og⟩⟩ ((a, marked (marked oa 1) 0) :: (P ++ d1.own)) ((g, gs1) :: d1.og) σ (ov s2.heap H2 F.L (F.L :: ((a, marked oa 1) :: (P ++ d1.own)).map (·.1))) { s2 with heap := h'' } :=
      ⟨I4, x3.ext, ⟨x3.gn.sz, x3.gn.keepG, x3.gn.bareG, x3.gn.standG⟩, fun p hp => by
        rcases List.mem_cons.mp hp with z | z
        · rw [z]; exact Nat.le_of_lt hLa
        · exact x3.hi p (List.mem_cons_of_mem _ z)⟩
    try dsimp only
    refine sg_bind (RX.of (wpAny_pure ?_))
    refine sg_again (plainId_quiet plain_yf _) ?_
    refine ih _ (marked (marked oa 1) 0) d1 gs1 ((g, gs1) :: d1.og) H1 _ _ List.mem_cons_self x4 (hoa.mark.next 1).off (fun p hp => List.mem_cons_of_mem _ hp) (fun p hp => ?_) (.inl (List.mem_map.mpr ⟨(g, gs1), List.mem_cons_self, rfl⟩)) (x4.gn.standG (g, gs1) List.mem_cons_self).1 ?_ m3 ((ms.trans (Mn.of e1')).trans m3)
    · rcases List.mem_cons.mp hp with z | z
      · rw [z]; exact .inl rfl
      · exact .inr z
    · exact ⟨sl1.wk, sl1.gd, sl1.low, fun p hp => by
        rcases List.mem_append.mp hp with w | w
        · cases w
        · rcases List.mem_cons.mp w with z | z
          · rw [z]; exact sl1.dj (a, oa) (List.mem_append_right _ List.mem_cons_self)
          · exact sl1.dj p (List.mem_append_right _ (List.mem_cons_of_mem _ z)), sl1.rdy⟩
end GX
end SGYf
section SGRule
set_option linter.all false
set_option maxRecDepth 100000
set_option maxHeartbeats 4000000
/-! rules of the layer that this program wants and the layer has not -/
namespace GX
open PySem PySem.Spec PyProof.Rows L2 SrtR SrtO

/-! ### sum, count of a tuple of ints -/
def rSumT (K : PySem.W.Frag) : List V → Hp → VK → Prop := fun vs H Q => ∃ (a : Addr) (ns : List Int), vs = [V.ref a] ∧ SqT K H a (ns.map V.int) ∧ Q (.int ns.sum) H
def rCntT (K : PySem.W.Frag) : V → List V → Hp → VK → Prop := fun x xs H Q => ∃ (p : Addr) (ns : List Int) (k : Int), x = .ref p ∧ xs = [.int k] ∧ SqT K H p (ns.map V.int) ∧ Q (.int (ns.count k : Nat)) H
section
variable {X : Cx}
theorem cr_sumT (hc : X.calm = true) : CallR X (.builtin "sum") (rSumT X.K) := by
  intro pins s σ H vs us Q I r h
  obtain ⟨a, ns, rfl, hs, q⟩ := h
  obtain ⟨its, rv, hl, _⟩ := I.tuple hs
  rw [Vals.ref1 r]
  have hi := rv.ints
  obtain ⟨xs, hx⟩ := hi.allInts.items
  have hn : numsOf its.toArray.toList = ns := by rw [show its.toArray.toList = its from rfl, hi.numsOf]
  have hl' : s.heap.IsTuple a its.toArray := hl
  rw [hx] at hl' hn
  rw [nums_intItems] at hn
  refine PySem.W.ktm_sumG (I.ok.hd hc) hl' fun h' tk t' hk => ?_
  rw [preSum_eq, List.take_of_length_le (by simp), hn]
  exact ⟨.int _, H, I.kept hk, ⟨_, rfl⟩, q⟩
theorem mt_tcount : MtR X "tuple.count" (rCntT X.K) := by
  intro pins s σ H x xs v us Q I rx rxs h
  obtain ⟨p, ns, k, rfl, rfl, hs, q⟩ := h
  cases rx
  obtain ⟨u, rfl, ru⟩ := rxs.one
  obtain ⟨t, rfl⟩ := ru
  obtain ⟨its, rv, ⟨⟨cls, dd, data, sl⟩, ho, hc, n, hd⟩, hlen⟩ := I.tuple hs
  simp only at hc hd
  subst hc hd
  have hi := ints_of_vals rv
  refine call_meets PySem.F.slot_tuple_count ⟨_, ho, rfl⟩ PySem.F.entry_tuple_count (PySem.F.args_tuple_count_2 _ _)
    (SeqAt.tuple_countAt p its.toArray n dd sl (.int k t) (eqk k)) ⟨ho, fun y hy => (eqk_gives hi y (by simpa using hy)).at _ _, ?_⟩
  have ec : its.toArray.toList.countP (eqk k) = ns.count k := eqk_count hi
  refine ⟨.int (ns.count k : Nat), H, I.tok _, ⟨s.toks, ?_⟩, q⟩
  show Value.int ((its.toArray.toList.countP (eqk k) : Nat) : Int) s.toks = Value.int ((ns.count k : Nat) : Int) s.toks
  rw [ec]
end

/-! ### sorted of whatever may be collected -/
section
variable {prog : Program} {w : World} {A : Around} {E : Value → Shared → Prop} {s : Shared}
theorem sorted_gen {v : Value} {vs : List Value} {b : Bool} {kw : List (Str × Value)} {ltv : Value → Value → Bool} {Q : Value → Shared → Prop} (hk : ∀ a, Builtin.«list.sort» ⟨[.ref a], kw⟩ = Builtin.«list.sort» ⟨[.ref a], [(Str.ofString "reverse", .bool b)]⟩)
    (ha1 : argsOk "sorted" ⟨[v], kw⟩) (ha2 : ∀ a, argsOk "list.sort" ⟨[a], kw⟩) (O : Swo ltv) (hz : vs.length ≤ sizeLine)
    (hcol : ∀ (Q' : List Value → Shared → Prop), (∀ h' tk, (∀ b o, s.heap.get? b = some o → h'.get? b = some o) → Q' vs { s with heap := h', toks := tk }) → wpAny (model prog w) A.in1 (collect v) Q' E s)
    (hS : 2 ≤ vs.length → ∀ (s₁ : Shared) (a : Addr), s₁.heap.get? a = some (seqObj "list" vs.toArray 0) → (∀ b o, s.heap.get? b = some o → b ≠ a ∧ s₁.heap.get? b = some o) → SortableO prog w A.in1.in1 s₁ a vs ltv)
    (h : ∀ (out : List Value) (h1 h' : Heap) (tk ep : Nat), Srtd ltv out → Stb ltv out (if b = true then vs.reverse else vs) → (∀ b o, s.heap.get? b = some o → h1.get? b = some o) → (∀ b o, h1.get? b = some o → h'.get? b = some o) →
      h'.get? h1.objs.size = some (seqObj "list" (if b = true then out.toArray.reverse else out.toArray) ep) → Q (.ref h1.objs.size) { s with heap := h', toks := tk }) :
    wpAny (model prog w) A (call (.builtin "sorted") [v] kw) Q E s := by
  refine call_function_entry_kw kind_sorted plain_sorted entry_sorted ha1 ?_
  unfold Builtin.«sorted»
  refine wpAny_bind (m := checkCount "sorted" 1 1 _) (wpAny_pure ?_)
  refine wpAny_bind (hcol _ fun h1 tk hk1 => ?_)
  refine wpAny_bind (wpAny_newList ?_ hz)
  have hoL : (h1.push (seqObj "list" vs.toArray 0)).get? h1.objs.size = some (seqObj "list" vs.toArray 0) := Heap.get?_push_size _ rfl
  have kp1 : ∀ b o, h1.get? b = some o → b ≠ h1.objs.size ∧ (h1.push (seqObj "list" vs.toArray 0)).get? b = some o := fun b o q =>
    ⟨Nat.ne_of_lt (Heap.lt_size q), Heap.get?_push_of_some _ q⟩
  have kp : ∀ b o, s.heap.get? b = some o → b ≠ h1.objs.size ∧ (h1.push (seqObj "list" vs.toArray 0)).get? b = some o := fun b o q => kp1 b o (hk1 b o q)
  show wpAny _ _ _ _ _ { s with heap := h1.push (seqObj "list" vs.toArray 0), toks := tk }
  refine wpAny_bind (wpAny_holding (wpAny_call_entry_kw slot_list_sort ⟨_, hoL, rfl⟩ entry_list_sort ?_ (ha2 _)))
  rw [hk]
  refine list_sort_ordR (s := { s with heap := h1.push (seqObj "list" vs.toArray 0), toks := tk }) O hoL hz (fun h2 => hS h2 { s with heap := h1.push (seqObj "list" vs.toArray 0), toks := tk } _ hoL kp) fun out hs hb => ⟨_, rfl, ?_⟩
  obtain ⟨ep, he⟩ := sortedHeap_at (vs := vs) (out := if b = true then out.toArray.reverse else out.toArray) hoL
  refine wpAny_pure ⟨_, rfl, h out h1 _ tk ep hs hb hk1 (fun c o q => ?_) he⟩
  show (sortedHeap _ _ _ _).get? c = some o
  rw [sortedHeap_old (kp1 c o q).1 (Heap.lt_size (kp1 c o q).2)]
  exact (kp1 c o q).2
end
theorem kw_none (a : Addr) : Builtin.«list.sort» ⟨[.ref a], []⟩ = Builtin.«list.sort» ⟨[.ref a], [(Str.ofString "reverse", .bool false)]⟩ := by
  rw [list_sort_rev]
  first | rfl | kernel_rfl
section
variable {X : Cx}
/-- ints are collected, then sorted -/
theorem sorted_ints_run {b : Bool} {kw : List (Str × Value)} {pins : List (Addr × Obj)} {s : Shared} {σ : L2.St} {H : Hp} {v : Value} {its : List Value} {ns : List Int} {Q : VK} (I : Inv X pins σ H s) (hi : IntsAre its ns) (hz : its.length ≤ sizeLine)
    (hk : ∀ a, Builtin.«list.sort» ⟨[.ref a], kw⟩ = Builtin.«list.sort» ⟨[.ref a], [(Str.ofString "reverse", .bool b)]⟩) (ha1 : argsOk "sorted" ⟨[v], kw⟩) (ha2 : ∀ a, argsOk "list.sort" ⟨[a], kw⟩)
    (hcol : ∀ (Q' : List Value → Shared → Prop), (∀ h' tk, (∀ b o, s.heap.get? b = some o → h'.get? b = some o) → Q' its { s with heap := h', toks := tk }) → wpAny (model X.prog X.w) X.A.in1 (collect v) Q' X.xe s)
    (q : ∀ (ns' : List Int) (p : Addr), ns'.Perm ns → OrdB b ns' → H p = none → Q (.ref p) (upd H p (.lst (ns'.map V.int)))) : wpAny (model X.prog X.w) X.A (call (.builtin "sorted") [v] kw) (EP X pins σ Q) X.xe s := by
  refine sorted_gen hk ha1 ha2 SrtO.swo_int hz hcol (fun h2 s₁ a' _ _ => SrtO.ints_sortable hi h2) fun out hp h' tk ep h1 h2 h3 h4 h5 => ?_
  obtain ⟨ns', k1, k2, k3⟩ := SrtR.ints_outR hi h1 h2
  have hlen : (ns'.map V.int).length ≤ sizeLine := by
    rw [List.length_map, k2.length_eq, ← hi.length]
    exact hz
  have e0 : ((if b = true then out.toArray.reverse else out.toArray).toList).toArray = (if b = true then out.toArray.reverse else out.toArray) := by rw [Array.toArray_toList]
  have I1 : Inv X pins σ H { s with heap := hp, toks := tk } := I.kept h3
  have hn : H hp.objs.size = none := I1.hok.fresh (Nat.le_refl _)
  exact ⟨.ref _, upd H hp.objs.size (.lst (ns'.map V.int)), I1.laid (h' := h') (t' := tk) h4 (Nat.le_refl _) ⟨hlen, _, ep, vals_of_ints k1, by rw [e0]; exact h5⟩, rfl, q _ _ k2 k3 hn⟩
/-- sorted(t), sorted(t, reverse=b) of a tuple of ints -/
def rSortedTK (K : PySem.W.Frag) (b : Bool) (zs0 : List V) : List V → List V → Hp → VK → Prop := fun vs zs H Q => ∃ (a : Addr) (ns : List Int), vs = [V.ref a] ∧ zs = zs0 ∧ SqT K H a (ns.map V.int) ∧
  ∀ (ns' : List Int) (p : Addr), ns'.Perm ns → OrdB b ns' → H p = none → Q (.ref p) (upd H p (.lst (ns'.map V.int)))
theorem col_tup {pins : List (Addr × Obj)} {s : Shared} {σ : L2.St} {H : Hp} {a : Addr} {xs : List V} {A : Around} {E : Value → Shared → Prop} (I : Inv X pins σ H s) (hs : SqT X.K H a xs) : ∃ its : List Value, Vals xs its ∧ its.length ≤ sizeLine ∧
    ∀ (Q' : List Value → Shared → Prop), (∀ h' tk, (∀ b o, s.heap.get? b = some o → h'.get? b = some o) → Q' its { s with heap := h', toks := tk }) → wpAny (model X.prog X.w) A (collect (.ref a)) Q' E s := by
  obtain ⟨its, rv, ⟨o, ho, hc, n, hd⟩, hz⟩ := I.tuple hs
  have hz' : its.length ≤ sizeLine := by rw [← rv.length]; exact hz
  refine ⟨its, rv, hz', fun Q' h => ?_⟩
  exact wpAny_collect_seq a (.inr rfl) ho hc hd (fun h' hk => h h' s.toks hk) (by rw [List.size_toArray]; exact hz')
/-- sorted(t), a tuple of ints -/
theorem cr_sortedTup : CallR X (.builtin "sorted") (fun vs H Q => rSortedTK X.K false [] vs [] H Q) := by
  intro pins s σ H vs us Q I r h
  obtain ⟨a, ns, rfl, _, hs, q⟩ := h
  obtain rfl := Vals.ref1 r
  obtain ⟨its, rv, hz, hcol⟩ := col_tup (A := X.A.in1) (E := X.xe) I hs
  exact sorted_ints_run I rv.ints hz kw_none (PyProof.Rows.args_sorted1 _) (fun _ => PyProof.Rows.args_list_sort _) hcol q
/-- sorted(t, reverse=b), a tuple of ints -/
theorem cr_sortedTupR {b : Bool} : CallRK X (.builtin "sorted") [Str.ofString "reverse"] (rSortedTK X.K b [.bl b]) := by
  intro pins s σ H vs zs us ws Q I r rz h
  obtain ⟨a, ns, rfl, rfl, hs, q⟩ := h
  obtain rfl := Vals.ref1 r
  obtain ⟨w1, rfl, e1⟩ := vals1 rz
  obtain rfl : w1 = Value.bool b := e1
  obtain ⟨its, rv, hz, hcol⟩ := col_tup (A := X.A.in1) (E := X.xe) I hs
  exact sorted_ints_run I rv.ints hz (fun _ => rfl) (PyProof.Rows.args_sorted_rev _ _) (fun _ => PyProof.Rows.args_list_sort_rev _ _) hcol q
end
end GX
end SGRule
section SGLay
set_option linter.all false
set_option maxRecDepth 100000
set_option maxHeartbeats 1000000
/-! expressions and statements by the data that they compute -/
namespace GX
open PySem PySem.Spec PyProof.Rows L2
open Evl StX

/-! ### data stays -/
section
variable {K : PySem.W.Frag} {H H' : Hp}
theorem sqL_ex (e : Ex H H') {a : Addr} {xs : List V} (h : SqL K H a xs) : SqL K H' a xs := Evl.ex_l e h
theorem sqT_ex (e : Ex H H') {a : Addr} {xs : List V} (h : SqT K H a xs) : SqT K H' a xs := Evl.ex_t e h
mutual
theorem dp_ex (e : Ex H H') : ∀ {d : PyData} {v : V}, Dp K H v d → Dp K H' v d
  | .none, _, .non => .non
  | .bool _, _, .bl b => .bl b
  | .int _, _, .int i => .int i
  | .str _, _, .str x => .str x
  | .list _, _, .lst h a => .lst (sqL_ex e h) (dpAll_ex e a)
  | .tuple _, _, .tup h a => .tup (sqT_ex e h) (dpAll_ex e a)
theorem dpAll_ex (e : Ex H H') : ∀ {ds : List PyData} {vs : List V}, DpAll K H vs ds → DpAll K H' vs ds
  | [], _, .nil => .nil
  | _ :: _, _, .cons h t => .cons (dp_ex e h) (dpAll_ex e t)
end
/-- no list within -/
def flatD : PyData → Bool
  | .none => true
  | .bool _ => true
  | .int _ => true
  | .str _ => true
  | .tuple ds => flatDs ds
  | _ => false
where flatDs : List PyData → Bool
  | [] => true
  | d :: ds => flatD d && flatDs ds
/-- tuples and what is known stand -/
def Mx (H H' : Hp) : Prop := (∀ b xs, H b = some (.tup xs) → H' b = some (.tup xs)) ∧ ∀ b o u, H b = some (.frz o u) → H' b = some (.frz o u)
theorem Mx.of (e : Ex H H') : Mx H H' := ⟨fun b xs h => e b _ h, fun b o u h => e b _ h⟩
theorem Mx.trans {H1 : Hp} (a : Mx H H1) (b : Mx H1 H') : Mx H H' := ⟨fun x xs h => b.1 x xs (a.1 x xs h), fun x o u h => b.2 x o u (a.2 x o u h)⟩
theorem Mx.upd {p : Addr} {u w : HO} (h : H p = some w) (h1 : ∀ xs, w ≠ .tup xs) (h2 : ∀ o u, w ≠ .frz o u) : Mx H (upd H p u) := by
  refine ⟨fun b xs e => ?_, fun b o x e => ?_⟩
  · rw [upd_ne (ne_of e h (h1 xs).symm)]; exact e
  · rw [upd_ne (ne_of e h (h2 o x).symm)]; exact e
theorem sqT_mx (e : Mx H H') {a : Addr} {xs : List V} (h : SqT K H a xs) : SqT K H' a xs := by
  rcases h with (h | ⟨o, h⟩) | h
  · exact .inl (.inl (e.1 _ _ h))
  · exact .inl (.inr ⟨o, e.2 _ _ _ h⟩)
  · exact .inr h
mutual
theorem dp_mx (e : Mx H H') : ∀ {d : PyData} {v : V}, flatD d = true → Dp K H v d → Dp K H' v d
  | .none, _, _, .non => .non
  | .bool _, _, _, .bl b => .bl b
  | .int _, _, _, .int i => .int i
  | .str _, _, _, .str x => .str x
  | .tuple _, _, f, .tup h a => .tup (sqT_mx e h) (dpAll_mx e f a)
theorem dpAll_mx (e : Mx H H') : ∀ {ds : List PyData} {vs : List V}, flatD.flatDs ds = true → DpAll K H vs ds → DpAll K H' vs ds
  | [], _, _, .nil => .nil
  | d :: ds, _, f, .cons h t => by
    have f : (flatD d && flatD.flatDs ds) = true := f
    rw [Bool.and_eq_true] at f
    exact .cons (dp_mx e f.1 h) (dpAll_mx e f.2 t)
end
theorem dp_int {v : V} {i : Int} (h : Dp K H v (.int i)) : v = .int i := by cases h; rfl
theorem dp_bl {v : V} {b : Bool} (h : Dp K H v (.bool b)) : v = .bl b := by cases h; rfl
theorem dp_non {v : V} (h : Dp K H v .none) : v = .non := by cases h; rfl
theorem dp_str {v : V} {x : Str} (h : Dp K H v (.str x)) : v = .str x := by cases h; rfl
theorem dp_tup {v : V} {ds : List PyData} (h : Dp K H v (.tuple ds)) : ∃ a vs, v = .ref a ∧ SqT K H a vs ∧ DpAll K H vs ds := by
  cases h with
  | tup h a => exact ⟨_, _, rfl, h, a⟩
theorem dp_lst {v : V} {ds : List PyData} (h : Dp K H v (.list ds)) : ∃ a vs, v = .ref a ∧ SqL K H a vs ∧ DpAll K H vs ds := by
  cases h with
  | lst h a => exact ⟨_, _, rfl, h, a⟩
theorem dpAll_len {vs : List V} {ds : List PyData} (h : DpAll K H vs ds) : vs.length = ds.length := by
  induction ds generalizing vs with
  | nil => cases h; rfl
  | cons d ds ih => cases h with | cons _ t => rw [List.length_cons, List.length_cons, ih t]
theorem dpAll_app {vs ws : List V} {ds es : List PyData} (h : DpAll K H vs ds) (g : DpAll K H ws es) : DpAll K H (vs ++ ws) (ds ++ es) := by
  induction ds generalizing vs with
  | nil => cases h; exact g
  | cons d ds ih => cases h with | cons a t => exact .cons a (ih t)
theorem dpAll_ints {vs : List V} {ns : List Int} (h : DpAll K H vs (ns.map .int)) : vs = ns.map .int := by
  induction ns generalizing vs with
  | nil => cases h; rfl
  | cons n ns ih => cases h with | cons a t => rw [dp_int a, ih t]; rfl
theorem ints_dpAll (ns : List Int) : DpAll K H (ns.map .int) (ns.map .int) := by
  induction ns with
  | nil => exact .nil
  | cons n ns ih => exact .cons (.int n) ih
theorem dpAll_bools {vs : List V} {bs : List Bool} (h : DpAll K H vs (bs.map .bool)) : vs = bs.map .bl := by
  induction bs generalizing vs with
  | nil => cases h; rfl
  | cons n ns ih => cases h with | cons a t => rw [dp_bl a, ih t]; rfl
theorem dpAll_get {vs : List V} {ds : List PyData} (h : DpAll K H vs ds) {i : Nat} {d : PyData} (e : ds[i]? = some d) : ∃ v, vs[i]? = some v ∧ Dp K H v d := by
  induction ds generalizing vs i with
  | nil => simp at e
  | cons d0 ds ih =>
    cases h with
    | cons a t =>
      cases i with
      | zero => simp at e; subst e; exact ⟨_, rfl, a⟩
      | succ i =>
        obtain ⟨v, h1, h2⟩ := ih t (i := i) (by simpa using e)
        exact ⟨v, by simpa using h1, h2⟩
theorem dpAll_drop {vs : List V} {ds : List PyData} (h : DpAll K H vs ds) (n : Nat) : DpAll K H (vs.drop n) (ds.drop n) := by
  induction n generalizing vs ds with
  | zero => exact h
  | succ n ih => cases h with | nil => exact .nil | cons a t => exact ih t
theorem dpAll_take {vs : List V} {ds : List PyData} (h : DpAll K H vs ds) (n : Nat) : DpAll K H (vs.take n) (ds.take n) := by
  induction n generalizing vs ds with
  | zero => exact .nil
  | succ n ih => cases h with | nil => exact .nil | cons a t => exact .cons a (ih t)
theorem dpAll_rev {vs : List V} {ds : List PyData} (h : DpAll K H vs ds) : DpAll K H vs.reverse ds.reverse := by
  induction ds generalizing vs with
  | nil => cases h; exact .nil
  | cons d ds ih => cases h with | cons a t => rw [List.reverse_cons, List.reverse_cons]; exact dpAll_app (ih t) (.cons a .nil)
end
/-- a tuple of ints -/
abbrev tI (ns : List Int) : PyData := .tuple (ns.map .int)
theorem flat_ints (ns : List Int) : flatD.flatDs (ns.map .int) = true := by
  induction ns with
  | nil => rfl
  | cons n ns ih => exact ih
theorem flat_tI (ns : List Int) : flatD (tI ns) = true := flat_ints ns

/-! ### the judgements -/
def tR (σ : L2.St) (H : Hp) (R : V → Hp → Prop) : TE := fun σ' H' Q => σ' = σ ∧ Ex H H' ∧ ∀ v H2, Ex H' H2 → R v H2 → Q v H2
def tTR (σ : L2.St) (H : Hp) (b : Bool) : TT := fun σ' H' Q => σ' = σ ∧ Ex H H' ∧ ∀ H2, Ex H' H2 → Q b H2
def tAR (K : PySem.W.Frag) (σ : L2.St) (H : Hp) (ds : List PyData) : TA := fun σ' H' Q => σ' = σ ∧ Ex H H' ∧ ∀ vs H2, Ex H' H2 → DpAll K H2 vs ds → Q vs H2
abbrev ER (X : Cx) (σ : L2.St) (H : Hp) (e : Expr) (R : V → Hp → Prop) : Prop := PE X e (tR σ H R)
/-- e is the data d -/
abbrev EX (X : Cx) (σ : L2.St) (H : Hp) (e : Expr) (d : PyData) : Prop := ER X σ H e fun v H' => Dp X.K H' v d
/-- a list object at p, its items the data ds -/
def LsAt (K : PySem.W.Frag) (H : Hp) (p : Addr) (ds : List PyData) : Prop := ∃ vs, H p = some (.lst vs) ∧ DpAll K H vs ds
/-- e is a new list of the data ds -/
abbrev EN (X : Cx) (σ : L2.St) (H : Hp) (e : Expr) (ds : List PyData) : Prop := ER X σ H e fun v H' => ∃ p, v = .ref p ∧ H p = none ∧ LsAt X.K H' p ds
abbrev TX (X : Cx) (σ : L2.St) (H : Hp) (e : Expr) (b : Bool) : Prop := PT X e (tTR σ H b)
abbrev AX (X : Cx) (σ : L2.St) (H : Hp) (es : List Expr) (ds : List PyData) : Prop := PA X es (tAR X.K σ H ds)
section
variable {X : Cx} {σ : L2.St} {H : Hp} {e a b : Expr} {es : List Expr} {R R' : V → Hp → Prop} {d d' : PyData} {ds : List PyData} {pos p : Pos}
theorem ER.of {t : TE} (h : PE X e t) (k : ∀ H1, Ex H H1 → ∀ Q : VK, (∀ v H2, Ex H1 H2 → R v H2 → Q v H2) → t σ H1 Q) : ER X σ H e R := ⟨fun pins s σ' H' Q I q => by
  obtain ⟨rfl, e2, q⟩ := q
  exact h.run pins s _ H' Q I (k H' e2 Q q)⟩
theorem TX.of {t : TT} {c : Bool} (h : PT X e t) (k : ∀ H1, Ex H H1 → ∀ Q : Bool → Hp → Prop, (∀ H2, Ex H1 H2 → Q c H2) → t σ H1 Q) : TX X σ H e c := ⟨fun pins s σ' H' Q I q => by
  obtain ⟨rfl, e2, q⟩ := q
  exact h.run pins s _ H' Q I (k H' e2 Q q)⟩
theorem AX.of {t : TA} (h : PA X es t) (k : ∀ H1, Ex H H1 → ∀ Q : List V → Hp → Prop, (∀ vs H2, Ex H1 H2 → DpAll X.K H2 vs ds → Q vs H2) → t σ H1 Q) : AX X σ H es ds := ⟨fun pos pins s σ' H' Q I q => by
  obtain ⟨rfl, e2, q⟩ := q
  exact h.run pos pins s _ H' Q I (k H' e2 Q q)⟩
theorem ER.imp (h : ER X σ H e R) (k : ∀ v H', Ex H H' → R v H' → R' v H') : ER X σ H e R' := .of h fun H1 e1 Q q => ⟨rfl, e1, fun v H2 e2 r => q v H2 e2 (k v H2 (e1.trans e2) r)⟩
theorem ER.mono {H' : Hp} (e0 : Ex H H') (h : ER X σ H e R) : ER X σ H' e R := .of h fun H1 e1 Q q => ⟨rfl, e0.trans e1, q⟩
theorem EX.is (h : EX X σ H e d) (k : d = d') : EX X σ H e d' := k ▸ h
theorem TX.is {c c' : Bool} (h : TX X σ H e c) (k : c = c') : TX X σ H e c' := k ▸ h
/-! names, constants -/
theorem xC {v : V} (h : PE X e (tC v)) (k : ∀ H', Dp X.K H' v d) : EX X σ H e d := .of h fun H1 e1 Q q => q v H1 (Ex.refl _) (k H1)
theorem xI {i : Int} {j} : EX X σ H (.Constant (.int i) j pos) (.int i) := xC pe_int fun _ => .int i
theorem xB {c : Bool} {j} : EX X σ H (.Constant (.bool c) j pos) (.bool c) := xC pe_bl fun _ => .bl c
theorem xN {j} : EX X σ H (.Constant .none j pos) .none := xC pe_non fun _ => .non
theorem xS {x : Str} {j} : EX X σ H (.Constant (.str x) j pos) (.str x) := xC pe_str fun _ => .str x
theorem xV (i : Nat) {x : Str} {v : V} (hs : σ[i]? = some (some v)) (hd : Dp X.K H v d) (h : PE X (.Name x pos) (tVar i)) : EX X σ H (.Name x pos) d := .of h fun H1 e1 Q q => ⟨v, hs, q v H1 (Ex.refl _) (dp_ex e1 hd)⟩
/-! operations -/
theorem xOp {op : Operator} {r : R2} {x y : PyData} (ho : OpR X (binaryOp op) r) (ha : EX X σ H a x) (hb : EX X σ H b y) (k : ∀ v u H1, Ex H H1 → Dp X.K H1 v x → Dp X.K H1 u y → ∀ Q : VK, (∀ w H2, Ex H1 H2 → R w H2 → Q w H2) → r v u H1 Q) : ER X σ H (.BinOp a op b pos) R :=
  .of (pe_op ho ha hb) fun H1 e1 Q q => ⟨rfl, e1, fun v H2 e2 dv => ⟨rfl, e1.trans e2, fun u H3 e3 du => k v u H3 ((e1.trans e2).trans e3) (dp_ex e3 dv) du Q fun w H4 e4 r => q w H4 ((e2.trans e3).trans e4) r⟩⟩
theorem xCmp {op : CmpOp} {r : R2} {x y : PyData} (ho : OpR X (compareOp op) r) (ha : EX X σ H a x) (hb : EX X σ H b y) (hm : behindInMarks op b = false) (k : ∀ v u H1, Ex H H1 → Dp X.K H1 v x → Dp X.K H1 u y → ∀ Q : VK, (∀ w H2, Ex H1 H2 → R w H2 → Q w H2) → r v u H1 Q) : ER X σ H (.Compare a [op] [b] pos) R :=
  .of (pe_cmpR ho ha hb hm) fun H1 e1 Q q => ⟨rfl, e1, fun v H2 e2 dv => ⟨rfl, e1.trans e2, fun u H3 e3 du => k v u H3 ((e1.trans e2).trans e3) (dp_ex e3 dv) du Q fun w H4 e4 r => q w H4 ((e2.trans e3).trans e4) r⟩⟩
/-- a comparison as a test -/
theorem tCm {op : CmpOp} {r : R2} {x y : PyData} {c : Bool} (ho : OpR X (compareOp op) r) (ha : EX X σ H a x) (hb : EX X σ H b y) (hm : behindInMarks op b = false) (k : ∀ v u H1, Ex H H1 → Dp X.K H1 v x → Dp X.K H1 u y → ∀ Q : VK, (∀ H2, Ex H1 H2 → Q (.bl c) H2) → r v u H1 Q) : TX X σ H (.Compare a [op] [b] pos) c :=
  .of (pt_cmpR ho ha hb hm) fun H1 e1 Q q => ⟨rfl, e1, fun v H2 e2 dv => ⟨rfl, e1.trans e2, fun u H3 e3 du => k v u H3 ((e1.trans e2).trans e3) (dp_ex e3 dv) du _ fun H4 e4 => ⟨c, rfl, q H4 ((e2.trans e3).trans e4)⟩⟩⟩
theorem rI0_run {g : Int → Int → V} {i j : Int} {v u : V} {H1 : Hp} {Q : VK} (hv : Dp X.K H1 v (.int i)) (hu : Dp X.K H1 u (.int j)) (q : Q (g i j) H1) : rI0 g v u H1 Q := ⟨i, j, dp_int hv, dp_int hu, q⟩
theorem rI_run {C : Int → Int → Prop} {g : Int → Int → V} {i j : Int} {v u : V} {H1 : Hp} {Q : VK} (hv : Dp X.K H1 v (.int i)) (hu : Dp X.K H1 u (.int j)) (hc : C i j) (q : Q (g i j) H1) : rI C g v u H1 Q := ⟨i, j, dp_int hv, dp_int hu, hc, q⟩
variable {i j : Int}
theorem xAdd (ha : EX X σ H a (.int i)) (hb : EX X σ H b (.int j)) : EX X σ H (.BinOp a .Add b pos) (.int (i + j)) := xOp op_add ha hb fun v u H1 _ hv hu Q q => rI0_run hv hu (q _ H1 (Ex.refl _) (.int _))
theorem xSub (ha : EX X σ H a (.int i)) (hb : EX X σ H b (.int j)) : EX X σ H (.BinOp a .Sub b pos) (.int (i - j)) := xOp op_sub ha hb fun v u H1 _ hv hu Q q => rI0_run hv hu (q _ H1 (Ex.refl _) (.int _))
theorem xMul (ha : EX X σ H a (.int i)) (hb : EX X σ H b (.int j)) (hc : CMul i j) : EX X σ H (.BinOp a .Mult b pos) (.int (i * j)) := xOp op_mul ha hb fun v u H1 _ hv hu Q q => rI_run hv hu hc (q _ H1 (Ex.refl _) (.int _))
theorem xDiv (ha : EX X σ H a (.int i)) (hb : EX X σ H b (.int j)) (hc : CDiv i j) : EX X σ H (.BinOp a .FloorDiv b pos) (.int (i / j)) := xOp op_fdiv ha hb fun v u H1 _ hv hu Q q => rI_run hv hu hc (q _ H1 (Ex.refl _) (.int _))
theorem xMod (ha : EX X σ H a (.int i)) (hb : EX X σ H b (.int j)) (hc : 0 < j) : EX X σ H (.BinOp a .Mod b pos) (.int (i % j)) := xOp op_mod ha hb fun v u H1 _ hv hu Q q => rI_run hv hu hc (q _ H1 (Ex.refl _) (.int _))
theorem xLt (ha : EX X σ H a (.int i)) (hb : EX X σ H b (.int j)) : EX X σ H (.Compare a [.Lt] [b] pos) (.bool (decide (i < j))) := xCmp op_lt ha hb (nomark b) fun v u H1 _ hv hu Q q => rI0_run hv hu (q _ H1 (Ex.refl _) (.bl _))
theorem xGe (ha : EX X σ H a (.int i)) (hb : EX X σ H b (.int j)) : EX X σ H (.Compare a [.GtE] [b] pos) (.bool (decide (j ≤ i))) := xCmp op_ge ha hb (nomark b) fun v u H1 _ hv hu Q q => rI0_run hv hu (q _ H1 (Ex.refl _) (.bl _))
theorem xGt (ha : EX X σ H a (.int i)) (hb : EX X σ H b (.int j)) : EX X σ H (.Compare a [.Gt] [b] pos) (.bool (decide (j < i))) := xCmp op_gt ha hb (nomark b) fun v u H1 _ hv hu Q q => rI0_run hv hu (q _ H1 (Ex.refl _) (.bl _))
theorem xLe (ha : EX X σ H a (.int i)) (hb : EX X σ H b (.int j)) : EX X σ H (.Compare a [.LtE] [b] pos) (.bool (decide (i ≤ j))) := xCmp op_le ha hb (nomark b) fun v u H1 _ hv hu Q q => rI0_run hv hu (q _ H1 (Ex.refl _) (.bl _))
/-- == of data -/
theorem xEq (hu : X.A.units + 64 < cLine) (ha : EX X σ H a d) (hb : EX X σ H b d') (sa : SeqAt.shaped d = true) (sb : SeqAt.shaped d' = true) : EX X σ H (.Compare a [.Eq] [b] pos) (.bool (PyData.eqv d d')) :=
  xCmp (op_eqD hu) ha hb (nomark b) fun v u H1 _ hv hu Q q => ⟨d, d', hv, hu, sa, sb, q _ H1 (Ex.refl _) (.bl _)⟩
theorem xNe (hu : X.A.units + 64 < cLine) (ha : EX X σ H a d) (hb : EX X σ H b d') (sa : SeqAt.shaped d = true) (sb : SeqAt.shaped d' = true) : EX X σ H (.Compare a [.NotEq] [b] pos) (.bool (!PyData.eqv d d')) :=
  xCmp (op_neD hu) ha hb (nomark b) fun v u H1 _ hv hu Q q => ⟨d, d', hv, hu, sa, sb, q _ H1 (Ex.refl _) (.bl _)⟩
/-! comparisons as tests -/
theorem ttLt (ha : EX X σ H a (.int i)) (hb : EX X σ H b (.int j)) : TX X σ H (.Compare a [.Lt] [b] pos) (decide (i < j)) := tCm op_lt ha hb (nomark b) fun v u H1 _ hv hu Q q => rI0_run hv hu (q H1 (Ex.refl _))
theorem ttLe (ha : EX X σ H a (.int i)) (hb : EX X σ H b (.int j)) : TX X σ H (.Compare a [.LtE] [b] pos) (decide (i ≤ j)) := tCm op_le ha hb (nomark b) fun v u H1 _ hv hu Q q => rI0_run hv hu (q H1 (Ex.refl _))
theorem ttGt (ha : EX X σ H a (.int i)) (hb : EX X σ H b (.int j)) : TX X σ H (.Compare a [.Gt] [b] pos) (decide (j < i)) := tCm op_gt ha hb (nomark b) fun v u H1 _ hv hu Q q => rI0_run hv hu (q H1 (Ex.refl _))
theorem ttGe (ha : EX X σ H a (.int i)) (hb : EX X σ H b (.int j)) : TX X σ H (.Compare a [.GtE] [b] pos) (decide (j ≤ i)) := tCm op_ge ha hb (nomark b) fun v u H1 _ hv hu Q q => rI0_run hv hu (q H1 (Ex.refl _))
theorem ttEq (hu : X.A.units + 64 < cLine) (ha : EX X σ H a d) (hb : EX X σ H b d') (sa : SeqAt.shaped d = true) (sb : SeqAt.shaped d' = true) : TX X σ H (.Compare a [.Eq] [b] pos) (PyData.eqv d d') :=
  tCm (op_eqD hu) ha hb (nomark b) fun v u H1 _ hv hu Q q => ⟨d, d', hv, hu, sa, sb, q H1 (Ex.refl _)⟩
theorem ttNe (hu : X.A.units + 64 < cLine) (ha : EX X σ H a d) (hb : EX X σ H b d') (sa : SeqAt.shaped d = true) (sb : SeqAt.shaped d' = true) : TX X σ H (.Compare a [.NotEq] [b] pos) (!PyData.eqv d d') :=
  tCm (op_neD hu) ha hb (nomark b) fun v u H1 _ hv hu Q q => ⟨d, d', hv, hu, sa, sb, q H1 (Ex.refl _)⟩
/-! tests -/
theorem tBool {c : Bool} (h : EX X σ H e (.bool c)) (he : ∀ whole, isTrue e X.env whole = (do let v ← whole; standAt e.pos; holding [v] (truthy v)) := by intro _; rfl) : TX X σ H e c :=
  .of (pt_val h he) fun H1 e1 Q q => ⟨rfl, e1, fun v H2 e2 hv => ⟨c, dp_bl hv, q H2 e2⟩⟩

/-! and, or, not as tests -/
structure WX (X : Cx) (σ : L2.St) (H : Hp) (e : Expr) (c : Bool) : Prop where
  pw : PW X e (tTR σ H c)
theorem WX.of {t : TT} {c : Bool} (h : PW X e t) (k : ∀ H1, Ex H H1 → ∀ Q : Bool → Hp → Prop, (∀ H2, Ex H1 H2 → Q c H2) → t σ H1 Q) : WX X σ H e c := ⟨⟨fun wh pins s σ' H' Q I q => by
  obtain ⟨rfl, e2, q⟩ := q
  exact h.run wh pins s _ H' Q I (k H' e2 Q q)⟩⟩
variable {c c' : Bool} {rest : List Expr}
theorem WX.tx (h : WX X σ H e c) : TX X σ H e c := h.pw.pt
theorem wAnd1 (h : TX X σ H a c) : WX X σ H (.BoolOp .And [a] pos) c := .of (pw_and1 h) fun H1 e1 Q q => ⟨rfl, e1, q⟩
theorem wOr1 (h : TX X σ H a c) : WX X σ H (.BoolOp .Or [a] pos) c := .of (pw_or1 h) fun H1 e1 Q q => ⟨rfl, e1, q⟩
theorem tTR_run {σ' : L2.St} {H1 : Hp} {Q : Bool → Hp → Prop} (e1 : Ex H H1) (q : ∀ H2, Ex H1 H2 → Q c H2) : tTR σ H c σ H1 Q := ⟨rfl, e1, q⟩
theorem wAnd (h : TX X σ H a c) (g : c = true → WX X σ H (.BoolOp .And (b :: rest) pos) c') : WX X σ H (.BoolOp .And (a :: b :: rest) pos) (c && c') := by
  cases c with
  | true => exact .of (pw_and h (g rfl).pw) fun H1 e1 Q q => ⟨rfl, e1, fun H2 e2 => iteT (⟨rfl, e1.trans e2, fun H3 e3 => q H3 (e2.trans e3)⟩ : tTR σ H c' σ H2 Q)⟩
  | false =>
    refine ⟨⟨fun wh pins s σ' H' Q I q => ?_⟩⟩
    obtain ⟨rfl, e1, q⟩ := q
    exact isTrue_and (thn (h.run pins s _ H' (fun c1 H1 => c1 = false ∧ Q false H1) I ⟨rfl, e1, fun H2 e2 => ⟨rfl, q H2 e2⟩⟩) fun c1 s1 ⟨H1, I1, ec, q1⟩ => by subst ec; exact ⟨H1, I1, q1⟩)
theorem wOr (h : TX X σ H a c) (g : c = false → WX X σ H (.BoolOp .Or (b :: rest) pos) c') : WX X σ H (.BoolOp .Or (a :: b :: rest) pos) (c || c') := by
  cases c with
  | false => exact .of (pw_or h (g rfl).pw) fun H1 e1 Q q => ⟨rfl, e1, fun H2 e2 => iteF (⟨rfl, e1.trans e2, fun H3 e3 => q H3 (e2.trans e3)⟩ : tTR σ H c' σ H2 Q)⟩
  | true =>
    refine ⟨⟨fun wh pins s σ' H' Q I q => ?_⟩⟩
    obtain ⟨rfl, e1, q⟩ := q
    exact isTrue_or (thn (h.run pins s _ H' (fun c1 H1 => c1 = true ∧ Q true H1) I ⟨rfl, e1, fun H2 e2 => ⟨rfl, q H2 e2⟩⟩) fun c1 s1 ⟨H1, I1, ec, q1⟩ => by subst ec; exact ⟨H1, I1, q1⟩)
theorem tNotX (h : TX X σ H a c) : TX X σ H (.UnaryOp .Not a pos) (!c) := .of (pt_not h) fun H1 e1 Q q => ⟨rfl, e1, q⟩
/-! arguments, tuples, lists, calls -/
theorem aNil : AX X σ H [] [] := .of pa_nil fun H1 e1 Q q => q [] H1 (Ex.refl _) .nil
theorem aCons (ha : EX X σ H e d) (hr : AX X σ H es ds) (hs : starEach (e :: es) X.env = (false, eval e X.env) :: starEach es X.env := by rfl) : AX X σ H (e :: es) (d :: ds) :=
  .of (pa_cons ha hr hs) fun H1 e1 Q q => ⟨rfl, e1, fun v H2 e2 dv => ⟨rfl, e1.trans e2, fun vs H3 e3 dvs => q _ H3 (e2.trans e3) (.cons (dp_ex e3 dv) dvs)⟩⟩
theorem aStar {ts : List PyData} (ha : EX X σ H e (.tuple ts)) (hr : AX X σ H es ds) (hs : starEach (.Starred e p :: es) X.env = (true, eval e X.env) :: starEach es X.env := by rfl) : AX X σ H (.Starred e p :: es) (ts ++ ds) :=
  .of (StX.pa_star ha hr hs) fun H1 e1 Q q => ⟨rfl, e1, fun v H2 e2 dv => by
    obtain ⟨ad, vs, rfl, hq, da⟩ := dp_tup dv
    exact ⟨ad, vs, rfl, .inl hq, rfl, e1.trans e2, fun ws H3 e3 dws => q _ H3 (e2.trans e3) (dpAll_app (dpAll_ex e3 da) dws)⟩⟩
theorem aStarL {ts : List PyData} (ha : EX X σ H e (.list ts)) (hr : AX X σ H es ds) (hs : starEach (.Starred e p :: es) X.env = (true, eval e X.env) :: starEach es X.env := by rfl) : AX X σ H (.Starred e p :: es) (ts ++ ds) :=
  .of (StX.pa_star ha hr hs) fun H1 e1 Q q => ⟨rfl, e1, fun v H2 e2 dv => by
    obtain ⟨ad, vs, rfl, hq, da⟩ := dp_lst dv
    exact ⟨ad, vs, rfl, .inr hq, rfl, e1.trans e2, fun ws H3 e3 dws => q _ H3 (e2.trans e3) (dpAll_app (dpAll_ex e3 da) dws)⟩⟩
theorem dp_new_tup {K : PySem.W.Frag} {H : Hp} {p : Addr} {vs : List V} {ds : List PyData} (hp : H p = none) (h : DpAll K H vs ds) : Dp K (upd H p (.tup vs)) (.ref p) (.tuple ds) := .tup (.inl (.inl upd_same)) (dpAll_ex (Ex.new hp) h)
theorem xTup {k} (h : AX X σ H es ds) (hz : ds.length ≤ sizeLine) : EX X σ H (.Tuple es k pos) (.tuple ds) :=
  .of (pe_tup h) fun H1 e1 Q q => ⟨rfl, e1, fun vs H2 e2 dv => ⟨by rw [dpAll_len dv]; exact hz, fun p hp => q _ _ (e2.trans (Ex.new hp)) (dp_new_tup hp dv)⟩⟩
theorem nLst (h : AX X σ H es ds) (hz : ds.length ≤ sizeLine) : EN X σ H (.List es pos) ds :=
  .of (pe_lst h) fun H1 e1 Q q => ⟨rfl, e1, fun vs H2 e2 dv => ⟨by rw [dpAll_len dv]; exact hz, fun p hp => q _ _ (e2.trans (Ex.new hp)) ⟨p, rfl, Evl.fresh_back (e1.trans e2) hp, vs, upd_same, dpAll_ex (Ex.new hp) dv⟩⟩⟩
theorem EN.ex (h : EN X σ H e ds) : EX X σ H e (.list ds) := ER.imp h fun v H' _ ⟨p, e1, _, vs, e2, e3⟩ => by rw [e1]; exact .lst (.inl (.inl e2)) e3
/-- a built-in called -/
theorem xCallB {x : Str} {id : String} {r : List V → Hp → VK → Prop} (hc : CallR X (.builtin id) r) (hg : Gl X x) (hm : X.mg x = none) (hv : bootBuiltins x = some (.builtin id)) (ha : AX X σ H (e :: es) ds)
    (k : ∀ vs H1, Ex H H1 → DpAll X.K H1 vs ds → ∀ Q : VK, (∀ w H2, Ex H1 H2 → R w H2 → Q w H2) → r vs H1 Q) (hn : x ≠ "__name__" := by decide) (hdb : (x == ("__debug__" : Str)) = false := by decide)
    (he : starEach (e :: es) X.env = (false, eval e X.env) :: starEach es X.env := by rfl) (hpl : (backTo pos (starEach es X.env)).any (·.1) = false := by rfl) : ER X σ H (.Call (.Name x p) (e :: es) [] pos) R :=
  .of (pe_callB hc hg hm hv ha hn hdb he hpl) fun H1 e1 Q q => ⟨rfl, e1, fun vs H2 e2 dv => k vs H2 (e1.trans e2) dv Q fun w H3 e3 r => q w H3 (e2.trans e3) r⟩
theorem xCallTy {x : Str} {T : String} {r : List V → Hp → VK → Prop} (hc : CallR X (.type T) r) (hg : Gl X x) (hm : X.mg x = none) (hv : bootBuiltins x = some (.type T)) (ha : AX X σ H (e :: es) ds)
    (k : ∀ vs H1, Ex H H1 → DpAll X.K H1 vs ds → ∀ Q : VK, (∀ w H2, Ex H1 H2 → R w H2 → Q w H2) → r vs H1 Q) (hn : x ≠ "__name__" := by decide) (hdb : (x == ("__debug__" : Str)) = false := by decide)
    (he : starEach (e :: es) X.env = (false, eval e X.env) :: starEach es X.env := by rfl) (hpl : (backTo pos (starEach es X.env)).any (·.1) = false := by rfl) : ER X σ H (.Call (.Name x p) (e :: es) [] pos) R :=
  .of (pe_callTy hc hg hm hv ha hn hdb he hpl) fun H1 e1 Q q => ⟨rfl, e1, fun vs H2 e2 dv => k vs H2 (e1.trans e2) dv Q fun w H3 e3 r => q w H3 (e2.trans e3) r⟩
end
end GX
end SGLay
section SGLay2
set_option linter.all false
set_option maxRecDepth 100000
set_option maxHeartbeats 1000000
/-! data: ints in order, equality; the calls on data; statements -/
namespace GX
open PySem PySem.Spec PyProof.Rows L2
open Evl StX

/-! ### ints in order -/
def asc (ns : List Int) : List Int := ns.mergeSort fun a b => decide (a ≤ b)
def desc (ns : List Int) : List Int := ns.mergeSort fun a b => decide (b ≤ a)
theorem asc_perm (ns : List Int) : (asc ns).Perm ns := List.mergeSort_perm ..
theorem desc_perm (ns : List Int) : (desc ns).Perm ns := List.mergeSort_perm ..
theorem asc_pw (ns : List Int) : (asc ns).Pairwise (· ≤ ·) := by
  have h := List.pairwise_mergeSort (le := fun a b : Int => decide (a ≤ b)) (fun a b c h1 h2 => by simp only [decide_eq_true_eq] at *; omega) (fun a b => by simp only [Bool.or_eq_true, decide_eq_true_eq]; omega) ns
  exact h.imp fun h => of_decide_eq_true h
theorem desc_pw (ns : List Int) : (desc ns).Pairwise (· ≥ ·) := by
  have h := List.pairwise_mergeSort (le := fun a b : Int => decide (b ≤ a)) (fun a b c h1 h2 => by simp only [decide_eq_true_eq] at *; omega) (fun a b => by simp only [Bool.or_eq_true, decide_eq_true_eq]; omega) ns
  exact h.imp fun h => of_decide_eq_true h
theorem asc_of {ns ms : List Int} (h : ms.Perm ns) (g : ms.Pairwise (· ≤ ·)) : ms = asc ns :=
  List.Perm.eq_of_pairwise (le := fun a b : Int => a ≤ b) (fun a b _ _ h1 h2 => Int.le_antisymm h1 h2) g (asc_pw ns) (h.trans (asc_perm ns).symm)
theorem desc_of {ns ms : List Int} (h : ms.Perm ns) (g : ms.Pairwise (· ≥ ·)) : ms = desc ns :=
  List.Perm.eq_of_pairwise (le := fun a b : Int => a ≥ b) (fun a b _ _ h1 h2 => Int.le_antisymm h2 h1) g (desc_pw ns) (h.trans (desc_perm ns).symm)
theorem desc_asc (ns : List Int) : (asc ns).reverse = desc ns := desc_of ((List.reverse_perm _).trans (asc_perm ns)) (by
  rw [List.pairwise_reverse]
  exact asc_pw ns)
def ord (b : Bool) (ns : List Int) : List Int := if b then desc ns else asc ns
theorem ord_of {b : Bool} {ns ms : List Int} (h : ms.Perm ns) (g : OrdB b ms) : ms = ord b ns := by
  cases b with
  | true => exact desc_of h g
  | false => exact asc_of h g
theorem ord_len {b : Bool} {ns : List Int} : (ord b ns).length = ns.length := by
  cases b with
  | true => exact (desc_perm ns).length_eq
  | false => exact (asc_perm ns).length_eq

/-! ### == of data -/
theorem eqvAll_ints : ∀ (a b : List Int), PyData.eqvAll (a.map .int) (b.map .int) = decide (a = b)
  | [], [] => rfl
  | [], _ :: _ => rfl
  | _ :: _, [] => rfl
  | x :: xs, y :: ys => by
    show (PyData.eqv (.int x) (.int y) && PyData.eqvAll (xs.map .int) (ys.map .int)) = _
    rw [eqvAll_ints xs ys]
    show ((x == y) && decide (xs = ys)) = _
    by_cases h : x = y
    · subst h
      simp
    · simp [h]
theorem eqv_tI (a b : List Int) : PyData.eqv (tI a) (tI b) = decide (a = b) := eqvAll_ints a b
theorem eqv_lI (a b : List Int) : PyData.eqv (.list (a.map .int)) (.list (b.map .int)) = decide (a = b) := eqvAll_ints a b
theorem canLay_ints : ∀ ns : List Int, PyData.canLayAll0 (ns.map .int) = true
  | [] => rfl
  | n :: ns => by
    show (PyData.canLay0 (.int n) && PyData.canLayAll0 (ns.map .int)) = true
    rw [canLay_ints ns]
    rfl
theorem depth_ints : ∀ ns : List Int, PyData.depthAll (ns.map .int) = 0
  | [] => rfl
  | n :: ns => by
    show max 0 (PyData.depthAll (ns.map .int)) = 0
    rw [depth_ints ns]
    rfl
theorem shaped_tI (ns : List Int) : SeqAt.shaped (tI ns) = true := by
  unfold SeqAt.shaped
  show (PyData.canLayAll0 (ns.map .int) && decide (PyData.depthAll (ns.map .int) + 1 ≤ 64)) = true
  rw [canLay_ints, depth_ints]
  rfl
theorem shaped_lI (ns : List Int) : SeqAt.shaped (.list (ns.map .int)) = true := by
  unfold SeqAt.shaped
  show (PyData.canLayAll0 (ns.map .int) && decide (PyData.depthAll (ns.map .int) + 1 ≤ 64)) = true
  rw [canLay_ints, depth_ints]
  rfl

section
variable {X : Cx} {σ : L2.St} {H : Hp} {e a b : Expr} {es : List Expr} {R : V → Hp → Prop} {d d' : PyData} {ds : List PyData} {ns : List Int} {pos p : Pos}
theorem dpAll_one {K : PySem.W.Frag} {vs : List V} (h : DpAll K H vs [d]) : ∃ v, vs = [v] ∧ Dp K H v d := by
  cases h with
  | cons a t => cases t; exact ⟨_, rfl, a⟩
theorem dpAll_two {K : PySem.W.Frag} {vs : List V} (h : DpAll K H vs [d, d']) : ∃ v u, vs = [v, u] ∧ Dp K H v d ∧ Dp K H u d' := by
  cases h with
  | cons a t => cases t with | cons b t => cases t; exact ⟨_, _, rfl, a, b⟩
end

/-! ### plain tuples: known to the object, without a dict of their own -/
def Pl (H : Hp) (v : V) : Prop := ∃ t o u, v = .ref t ∧ H t = some (.frz o u) ∧ o.dict = none ∧ o.cls = .type "tuple"
theorem Pl.mx {H H' : Hp} {v : V} (e : Mx H H') (h : Pl H v) : Pl H' v := let ⟨t, o, u, h1, h2, h3, h4⟩ := h; ⟨t, o, u, h1, e.2 _ _ _ h2, h3, h4⟩
theorem Pl.ex {H H' : Hp} {v : V} (e : Ex H H') (h : Pl H v) : Pl H' v := h.mx (Mx.of e)
def tTupF (t : TA) : TE := fun σ H Q => t σ H fun xs H1 => xs.length ≤ sizeLine ∧ ∀ p o, H1 p = none → o.dict = none → o.cls = .type "tuple" → Q (.ref p) (upd H1 p (.frz o (.tup xs)))
section
variable {X : Cx} {σ : L2.St} {H : Hp} {e a b : Expr} {es : List Expr} {R : V → Hp → Prop} {d d' : PyData} {ds : List PyData} {ns : List Int} {pos p : Pos} {t : TA}
theorem pe_tupF {k} (h : PA X es t) : PE X (.Tuple es k pos) (tTupF t) := by
  refine ⟨fun pins s σ H Q I hq => ?_⟩
  refine wpAny_Tuple_spliced (thn (h.run pos pins s σ H _ I hq) fun us s1 ⟨xs, H1, I1, r, z, q⟩ => ⟨by rw [← r.length]; exact z, ?_⟩)
  have hf : H1 s1.heap.objs.size = none := I1.hok.fresh (Nat.le_refl _)
  have hg : (s1.heap.push { cls := .type "tuple", data := .seq us.toArray }).get? s1.heap.objs.size = some { cls := .type "tuple", data := .seq us.toArray } := Heap.get?_push_size _ rfl
  refine ⟨.ref s1.heap.objs.size, upd H1 s1.heap.objs.size (.frz { cls := .type "tuple", data := .seq us.toArray } (.tup xs)), I1.laid (t' := s1.toks) (fun b u e => Heap.get?_push_of_some _ e) (Nat.le_refl _) ?_, rfl, q _ _ hf rfl rfl⟩
  exact ⟨hg, z, us, r, ⟨_, hg, rfl, _, rfl⟩⟩
/-- e is a plain tuple of the data ds -/
abbrev ET (X : Cx) (σ : L2.St) (H : Hp) (e : Expr) (ds : List PyData) : Prop := ER X σ H e fun v H' => Dp X.K H' v (.tuple ds) ∧ Pl H' v
theorem ET.ex (h : ET X σ H e ds) : EX X σ H e (.tuple ds) := ER.imp h fun _ _ _ q => q.1
theorem ptTup {k} (h : AX X σ H es ds) (hz : ds.length ≤ sizeLine) : ET X σ H (.Tuple es k pos) ds :=
  .of (pe_tupF h) fun H1 e1 Q q => ⟨rfl, e1, fun vs H2 e2 dv => ⟨by rw [dpAll_len dv]; exact hz, fun p o hp h1 h2 => q _ _ (e2.trans (Ex.new hp)) ⟨.tup (.inl (.inr ⟨o, upd_same⟩)) (dpAll_ex (Ex.new hp) dv), p, o, _, rfl, upd_same, h1, h2⟩⟩⟩
theorem ptV (i : Nat) {x : Str} {v : V} (hs : σ[i]? = some (some v)) (hd : Dp X.K H v (.tuple ds)) (hp : Pl H v) (h : PE X (.Name x pos) (tVar i)) : ET X σ H (.Name x pos) ds :=
  .of h fun H1 e1 Q q => ⟨v, hs, q v H1 (Ex.refl _) ⟨dp_ex e1 hd, hp.ex e1⟩⟩
/-- e is a plain tuple of the ints ns -/
abbrev EY (X : Cx) (σ : L2.St) (H : Hp) (e : Expr) (ns : List Int) : Prop := ER X σ H e fun v H' => YdV H' ns v
theorem YdV.mx {H H' : Hp} {v : V} (e : Mx H H') (h : YdV H ns v) : YdV H' ns v := let ⟨t, o, h1, h2, h3, h4⟩ := h; ⟨t, o, h1, e.2 _ _ _ h2, h3, h4⟩
theorem YdV.ex {H H' : Hp} {v : V} (e : Ex H H') (h : YdV H ns v) : YdV H' ns v := h.mx (Mx.of e)
theorem YdV.dp {K : PySem.W.Frag} {H : Hp} {v : V} (h : YdV H ns v) : Dp K H v (tI ns) := let ⟨t, o, h1, h2, _, _⟩ := h; by rw [h1]; exact .tup (.inl (.inr ⟨o, h2⟩)) (ints_dpAll ns)
theorem YdV.pl {H : Hp} {v : V} (h : YdV H ns v) : Pl H v := let ⟨t, o, h1, h2, h3, h4⟩ := h; ⟨t, o, _, h1, h2, h3, h4⟩
theorem EY.et (h : EY X σ H e ns) : ET X σ H e (ns.map .int) := ER.imp h fun _ _ _ q => ⟨q.dp, q.pl⟩
theorem yTup {k} (h : AX X σ H es (ns.map .int)) (hz : ns.length ≤ sizeLine) : EY X σ H (.Tuple es k pos) ns :=
  .of (pe_tupF h) fun H1 e1 Q q => ⟨rfl, e1, fun vs H2 e2 dv => ⟨by rw [dpAll_len dv, List.length_map]; exact hz, fun p o hp h1 h2 => q _ _ (e2.trans (Ex.new hp)) ⟨p, o, rfl, by rw [dpAll_ints dv]; exact upd_same, h1, h2⟩⟩⟩
theorem yV (i : Nat) {x : Str} {v : V} (hs : σ[i]? = some (some v)) (hd : YdV H ns v) (h : PE X (.Name x pos) (tVar i)) : EY X σ H (.Name x pos) ns :=
  .of h fun H1 e1 Q q => ⟨v, hs, q v H1 (Ex.refl _) (hd.ex e1)⟩
/-- t.count(k), t a plain tuple -/
def tCntP (K : PySem.W.Frag) (te : TE) (t : TA) : TE := fun σ H Q => te σ H fun x H1 => Pl H1 x ∧ t σ H1 fun xs H2 => rCntT K x xs H2 Q
theorem pe_cntP {te : TE} {apos cpos : Pos} (ho : PE X a te) (ha : PA X [b] t) (hbase : attributeBase a "count" X.env (eval a X.env) = eval a X.env := by rfl)
    (hfew : ((backTo cpos (starEach [b] X.env)).all (fun x => !x.1) && (backToKw cpos (keywordEach [] X.env)).all (fun x => x.1.isSome) && decide ([b].length + ([] : List Keyword).length + (if ([] : List Keyword).isEmpty then 0 else 1) < 30)) = true := by rfl)
    (hline : (apos.endLine == cpos.line) = true := by rfl) (hs : starEach [b] X.env = (false, eval b X.env) :: starEach [] X.env := by rfl) (hpl : (backTo cpos (starEach [] X.env)).any (·.1) = false := by rfl) : PE X (.Call (.Attribute a "count" apos) [b] [] cpos) (tCntP X.K te t) := by
  refine ⟨fun pins s σ H Q I h => ?_⟩
  refine wpAny_Call_method_late hbase hfew hline rfl (thn (ho.run pins s σ H _ I h) fun v s1 ⟨x, H1, I1, r1, ty, q1⟩ => ?_)
  obtain ⟨tt, o, u, rfl, ht, hod, hoc⟩ := ty
  cases r1
  have hget : s1.heap.get? tt = some o := (I1.hok tt _ ht).1
  refine ⟨"tuple", "tuple.count", PySem.F.plainAttrs_tuple, PySem.F.slot_tuple_count, PySem.F.type_tuple_count, ⟨o, hget, hoc⟩, fun a' e => by cases e; exact ⟨o, hget, hod⟩, ?_⟩
  have hA := ha.run cpos pins s1 σ H1 _ I1 q1
  rw [hs] at hA ⊢
  refine Calls.callWith_builtin (by show (false || (backTo cpos (starEach [] X.env)).any (·.1)) = false; rw [hpl] <;> rfl) (Calls.evalArgs_plain ?_)
  exact thn hA fun us s2 ⟨vs, H2, I2, r2, q2⟩ => mt_tcount pins s2 σ H2 (.ref tt) vs (.ref tt) us Q I2 (show L2.RelV (.ref tt) (.ref tt) from rfl) r2 q2
theorem xCountT {apos cpos : Pos} {k : Int} (ha : ET X σ H a (ns.map .int)) (hb : EX X σ H b (.int k)) (hbase : attributeBase a "count" X.env (eval a X.env) = eval a X.env := by rfl)
    (hfew : ((backTo cpos (starEach [b] X.env)).all (fun x => !x.1) && (backToKw cpos (keywordEach [] X.env)).all (fun x => x.1.isSome) && decide ([b].length + ([] : List Keyword).length + (if ([] : List Keyword).isEmpty then 0 else 1) < 30)) = true := by rfl)
    (hline : (apos.endLine == cpos.line) = true := by rfl) (hs : starEach [b] X.env = (false, eval b X.env) :: starEach [] X.env := by rfl) (hpl : (backTo cpos (starEach [] X.env)).any (·.1) = false := by rfl) : EX X σ H (.Call (.Attribute a "count" apos) [b] [] cpos) (.int (ns.count k : Nat)) :=
  .of (pe_cntP ha (aCons hb aNil hs) hbase hfew hline hs hpl) fun H1 e1 Q q => ⟨rfl, e1, fun v H2 e2 ⟨dv, pl⟩ => by
    obtain ⟨t, us, rfl, ht, du⟩ := dp_tup dv
    rw [dpAll_ints du] at ht
    refine ⟨pl, rfl, e1.trans e2, fun vs H3 e3 dvs => ?_⟩
    obtain ⟨w, rfl, dw⟩ := dpAll_one dvs
    exact ⟨t, ns, k, rfl, by rw [dp_int dw], sqT_ex e3 ht, q _ H3 (e2.trans e3) (.int _)⟩⟩
/-! sum, sorted, tuple, len, max, min -/
theorem xSumT (hc : X.calm = true) (hg : Gl X "sum") (hm : X.mg "sum" = none) (ha : EX X σ H e (tI ns)) (hs : starEach [e] X.env = (false, eval e X.env) :: starEach [] X.env := by rfl) : EX X σ H (.Call (.Name "sum" p) [e] [] pos) (.int ns.sum) :=
  xCallB (cr_sumT hc) hg hm PyProof.Rows.boot_sum (aCons ha aNil hs) (fun vs H1 e1 dv Q q => by
    obtain ⟨v, rfl, dw⟩ := dpAll_one dv
    obtain ⟨t, us, rfl, ht, du⟩ := dp_tup dw
    rw [dpAll_ints du] at ht
    exact ⟨t, ns, rfl, ht, q _ H1 (Ex.refl _) (.int _)⟩) (he := hs)
theorem xSumL (hc : X.calm = true) (hg : Gl X "sum") (hm : X.mg "sum" = none) (ha : EX X σ H e (.list (ns.map .int))) (hs : starEach [e] X.env = (false, eval e X.env) :: starEach [] X.env := by rfl) : EX X σ H (.Call (.Name "sum" p) [e] [] pos) (.int ns.sum) :=
  xCallB (cr_sum hc) hg hm PyProof.Rows.boot_sum (aCons ha aNil hs) (fun vs H1 e1 dv Q q => by
    obtain ⟨v, rfl, dw⟩ := dpAll_one dv
    obtain ⟨t, us, rfl, ht, du⟩ := dp_lst dw
    rw [dpAll_ints du] at ht
    exact ⟨t, ns, rfl, ht, q _ H1 (Ex.refl _) (.int _)⟩) (he := hs)
theorem nSortT (hg : Gl X "sorted") (hm : X.mg "sorted" = none) (ha : EX X σ H e (tI ns)) (hs : starEach [e] X.env = (false, eval e X.env) :: starEach [] X.env := by rfl) : EN X σ H (.Call (.Name "sorted" p) [e] [] pos) ((asc ns).map .int) :=
  xCallB cr_sortedTup hg hm PyProof.Rows.boot_sorted (aCons ha aNil hs) (fun vs H1 e1 dv Q q => by
    obtain ⟨v, rfl, dw⟩ := dpAll_one dv
    obtain ⟨t, us, rfl, ht, du⟩ := dp_tup dw
    rw [dpAll_ints du] at ht
    refine ⟨t, ns, rfl, rfl, ht, fun ns' l h1 h2 hl => q _ _ (Ex.new hl) ⟨l, rfl, fresh_back e1 hl, _, upd_same, ?_⟩⟩
    rw [ord_of h1 h2]
    exact ints_dpAll _) (he := hs)
theorem nSortR {kws : List Keyword} {c : Bool} (hg : Gl X "sorted") (hm : X.mg "sorted" = none) (ha : EX X σ H e (tI ns)) (hk : PK X kws (tCons (tC (.bl c)) tNil)) (hs : starEach [e] X.env = (false, eval e X.env) :: starEach [] X.env := by rfl)
    (he : backTo pos (starEach [e] X.env) = (false, eval e X.env) :: backTo pos (starEach [] X.env) := by rfl) (hpl : (backTo pos (starEach [e] X.env)).any (·.1) = false := by rfl)
    (hall : (backToKw pos (keywordEach kws X.env)).all (·.1.isSome) = true := by rfl) (hnone : (backToKw pos (keywordEach kws X.env)).any (·.1.isNone) = false := by rfl) (hks : (backToKw pos (keywordEach kws X.env)).filterMap (·.1) = [Str.ofString "reverse"] := by rfl) :
    EN X σ H (.Call (.Name "sorted" p) [e] kws pos) ((ord c ns).map .int) :=
  .of (pe_callBK (cr_sortedTupR (b := c)) hg hm PyProof.Rows.boot_sorted (aCons ha aNil hs) hk (by decide) (by decide) he hpl hall hnone hks) fun H1 e1 Q q => ⟨rfl, e1, fun vs H2 e2 dv => by
    obtain ⟨v, rfl, dw⟩ := dpAll_one dv
    obtain ⟨t, us, rfl, ht, du⟩ := dp_tup dw
    rw [dpAll_ints du] at ht
    refine ⟨t, ns, rfl, rfl, ht, fun ns' l h1 h2 hl => q _ _ (e2.trans (Ex.new hl)) ⟨l, rfl, fresh_back (e1.trans e2) hl, _, upd_same, ?_⟩⟩
    rw [ord_of h1 h2]
    exact ints_dpAll _⟩
/-- tuple(l) -/
theorem xTupOf (hg : Gl X "tuple") (hm : X.mg "tuple" = none) (ha : EX X σ H e (.list ds)) (hs : starEach [e] X.env = (false, eval e X.env) :: starEach [] X.env := by rfl) : EX X σ H (.Call (.Name "tuple" p) [e] [] pos) (.tuple ds) :=
  .of (pe_tupleOf hg hm ha hs) fun H1 e1 Q q => ⟨rfl, e1, fun v H2 e2 dv => by
    obtain ⟨l, us, rfl, hl, du⟩ := dp_lst dv
    exact .inl ⟨l, us, rfl, hl, fun t ht => q _ _ (e2.trans (Ex.new ht)) (dp_new_tup ht du)⟩⟩
end
end GX
end SGLay2
section SGMk
set_option linter.all false
set_option maxRecDepth 100000
set_option maxHeartbeats 1000000
/-! a generator def is called: a generator is made, its frame stands -/
namespace GX
open PySem PySem.Spec PyProof.Rows L2 GStub

/-- behind the call, at s1 when the arguments are known -/
structure GNew (F : GF) (body : List Stmt) (vs : List V) (a : Addr) (oa oL : Obj) (s s' : Shared) : Prop where
  ltL : s.heap.objs.size ≤ F.L
  lta : F.L < a
  keep : ∀ b o, s.heap.get? b = some o → s'.heap.get? b = some o
  os : s'.os = s.os
  gens : s'.gens = s.gens.push (.fresh (.func body F.env))
  geta : s'.heap.get? a = some oa
  gen : GenOb oa s.gens.size
  isg : s'.heap.IsGen a s.gens.size
  getL : s'.heap.get? F.L = some oL
  noL : ∀ v, oL.data ≠ .cell v
  frm : FrmAt F s'.heap (L2.start F.N vs)
section
variable {P : Program} {w : World} {K : PySem.W.Frag} {mg : Str → Option Value} {base : Heap} {f : Addr} {name qual : Str} {params : Arguments} {body : List Stmt} {scope : Scope} {dV kV doc pm cdv ct oc : Value} {an od : Option Addr} {osl : Array (Option Value)} {N ps : List Str}
theorem gen_made (lk : K.lookup f = some ⟨oc, od, .func (PySem.W.fnOf name qual params body scope dV kV doc pm an cdv ct), osl⟩) (hcd : PySem.W.codeIn K cdv qual = true) (S : GScope N ps scope) (nocell : ∀ y ∈ scope.names, y.2 ≠ .cell) {A : Around} {outer : List Env} {s : Shared} {H : Hp} {args : Args} {us : List Value} {vs : List V} (hd : A.depth < recursionLimit) (hh : A.handled = none)
    (e0 : Env0 P w K mg base A outer s H) (hb : BindsTo s (PySem.W.fnOf name qual params body scope dV kV doc pm an cdv ct) args (ps.zip us)) (r : Vals vs us) (hl : vs.length = ps.length) :
    codeAny (model P w) A (.call (.ref f) args) (fun r s' => match r with | .ok (.ret u) => ∃ L a oa oL, u = .ref a ∧ GNew ⟨N, qual, scope, f, cdv, L⟩ body vs a oa oL s s' | _ => False) s := by
  have KX : K.In s.heap := e0.mod.kin.keeps fun b o e => (e0.bs b o e).1
  have lim : s.heap.NoLimit := e0.mod.nolimit.keeps fun b o e => (e0.bs b o e).1
  have hloc : ∀ x ∈ ps, scope.names.lookup x = some .local := fun x hx => by
    rcases S.par x hx with q | q
    · exact q
    · exact absurd rfl (nocell _ (PySem.mem_of_lookup q))
  refine codeAny_call_generator hd (KX _ _ lk) rfl S.co S.gen rfl (PySem.W.codeRec_of KX hcd) (hb _ _ _ _ ?_)
  refine wpAny_newFunctionEnv_cells S.kind (fun y hy => .inl (hloc y.1 (List.of_mem_zip hy).1)) fun env he s1 x => ?_
  subst he
  refine ⟨lim.keeps x.toInCall.keep, ?_⟩
  obtain ⟨h1, tk, es1, hk1⟩ := x.done
  have hgen : s1.gens = s.gens := by rw [es1]
  obtain ⟨oL, es, ep, hoL, hdL, hmL⟩ := id x.toInCall.ns
  have hsz : s.heap.objs.size < s1.heap.objs.size := x.toInCall.ns.lt
  refine ⟨s.heap.objs.size, s1.heap.objs.size, _, oL, rfl, ⟨Nat.le_refl _, hsz, fun b o e => Heap.get?_push_of_some _ (x.toInCall.keep b o e), by show s1.os = s.os; rw [es1], by show s1.gens.push _ = _; rw [hgen]; rfl, Heap.get?_push_size _ rfl, ⟨rfl, ⟨_, _, by rw [hgen]⟩, .inl rfl⟩, ⟨_, _, _, Heap.get?_push_size _ rfl, rfl, by rw [hgen], rfl⟩, Heap.get?_push_of_some _ hoL, fun v z => (by rw [hdL] at z; cases z), ?_⟩⟩
  have hpl : ps.length ≤ N.length := by
    have := congrArg List.length S.pre
    rw [List.length_take] at this
    omega
  refine ⟨?_, _, x.toInCall.ns.push _, fun i y v h1 h2 h3 => ?_⟩
  · unfold L2.start
    show _ = N.length
    rw [List.length_append, List.length_map, List.length_replicate]
    show vs.length + (N.length - vs.length) = N.length
    omega
  · have hi : i < vs.length := by
      unfold L2.start at h2
      by_cases hi : i < vs.length
      · exact hi
      · rw [List.getElem?_append_right (by simpa using hi)] at h2
        rw [List.getElem?_replicate] at h2
        split at h2 <;> cases h2
    have ha : vs[i]? = some v := by
      unfold L2.start at h2
      rw [List.getElem?_append_left (by simpa using hi), List.getElem?_map] at h2
      cases e : vs[i]? with
      | none => rw [e] at h2; cases h2
      | some a => rw [e] at h2; cases h2; rfl
    obtain ⟨u, hu, rv⟩ := r.get ha
    have hp : ps[i]? = some y := by
      rw [← S.pre, List.getElem?_take_of_lt (by omega)]
      exact h1
    have ndP : ps.Nodup := by
      rw [← S.pre]
      exact S.nd.sublist (List.take_sublist _ _)
    have hk : scope.names.lookup y = some .local := hloc y (List.mem_of_getElem? hp)
    exact ⟨u, rv, hk, bindL_get ndP hp hu hk⟩
end
section
variable {X : Cx} {f : Addr} {name qual : Str} {params : Arguments} {body : List Stmt} {scope : Scope} {dV kV doc pm cdv ct oc : Value} {an od : Option Addr} {osl : Array (Option Value)} {N ps : List Str}
/-- f(e, ..), f a generator def; the arguments' data -/
theorem gen_call {x : Str} {p pos : Pos} {e : Expr} {es : List Expr} {t : TA} {ds : List Value} {dvs : List V} {pins : List (Addr × Obj)} {σ : L2.St} {H : Hp} {s : Shared} {Q : List V → Hp → Prop}
    (lk : X.K.lookup f = some ⟨oc, od, .func (PySem.W.fnOf name qual params body scope dV kV doc pm an cdv ct), osl⟩) (hcd : PySem.W.codeIn X.K cdv qual = true) (S : GScope N ps scope) (nocell : ∀ y ∈ scope.names, y.2 ≠ .cell) (hd : X.A.depth < recursionLimit) (hh : X.A.handled = none)
    (hg : Gl X x) (hm : X.mg x = some (.ref f)) (hk : PySem.W.keepIn X.K (.ref f) = true) (hb : Binds X.K (PySem.W.fnOf name qual params body scope dV kV doc pm an cdv ct) ps ds) (hdv : Vals dvs ds) (ha : PA X (e :: es) t) (I : Inv X pins σ H s) (h : t σ H fun vs H1 => (vs ++ dvs).length = ps.length ∧ Q (vs ++ dvs) H1)
    (hdb : (x == ("__debug__" : Str)) = false := by decide) (he : starEach (e :: es) X.env = (false, eval e X.env) :: starEach es X.env := by rfl) (hpl : (backTo pos (starEach es X.env)).any (·.1) = false := by rfl) :
    wpAny (model X.prog X.w) X.A (eval (.Call (.Name x p) (e :: es) [] pos) X.env) (fun u s' => ∃ vs H1 s1 L a oa oL, u = .ref a ∧ Inv X pins σ H1 s1 ∧ s.gens.size ≤ s1.gens.size ∧ Q vs H1 ∧ GNew ⟨N, qual, scope, f, cdv, L⟩ body vs a oa oL s1 s' ∧ Inv X pins σ H1 s') X.xe s := by
  refine wpAny_Call_Name_kw (ld_glob I hg hm ?_ hdb)
  refine PySem.W.callWith_K (h₀ := X.base) I.ok.mod.kin hk (GenW.wpAny_gsz (Nat.le_refl s.gens.size) (wpAny_mono (ha.run pos pins s σ H _ I h) (fun us s1 ⟨vs, H1, I1, r, hl, q⟩ hz => ⟨I1.kIn, ?_⟩) fun _ _ z _ => z)) he hpl
  have r2 : Vals (vs ++ dvs) (us ++ ds) := r.append hdv
  refine wpAny_call (codeAny_mono (gen_made lk hcd S nocell hd hh I1.env0 (hb s1 us I1.kIn (by rw [← r2.length]; exact hl)) r2 hl) fun r s' hq => ?_)
  cases r with
  | error e => exact hq.elim
  | ok fl =>
    cases fl with
    | ret u =>
      obtain ⟨L, a, oa, oL, rfl, gn⟩ := hq
      refine ⟨_, H1, s1, L, a, oa, oL, rfl, I1, hz, q, gn, ?_⟩
      refine I1.call' (ch := []) gn.os (Un.kept gn.keep) (I1.hok.kept gn.keep) ?_ fun b z => by cases z
      rw [gn.gens]
      exact AllBare.push I1.bare rfl
    | next => exact hq.elim
    | brk => exact hq.elim
    | cont => exact hq.elim
end
end GX
end SGMk
section SGFor
set_option linter.all false
set_option maxRecDepth 100000
set_option maxHeartbeats 1000000
/-! statements of a generator's body, on the machine -/
namespace GX
open PySem PySem.Spec PyProof.Rows L2 GStub

theorem for_split (target iter : Expr) (body orelse : List Stmt) (pos : Pos) (env : Env) : exec (.For target iter body orelse pos) env = (standAt pos >>= fun _ => (do
    let v ← eval iter env
    let x ← foldedSetIterable iter env v
    standAt iter.pos
    holding [x] (pyIter x)) >>= fun it => runOwn (.forLoop target it body orelse env) env) := by
  rw [arm_exec_For]
  simp only [bind_assoc]
/-- the first half of a turn -/
def forPre (target : Expr) (it : Value) (env : Env) : Sem Bool := do
  match ← (pyNext it).onRaise (fun _ => standAt { target.pos with line := 0 }) with
  | none => pure false
  | some v =>
    letOwnedTupleGo target it v
    assign target env v
    pure true
def forPost (target : Expr) (it : Value) (body orelse : List Stmt) (env : Env) (b : Bool) : Sem PySem.Fin :=
  if b then (execs body env >>= fun f => match f with
    | .next | .cont => again (.forLoop target it body orelse env)
    | .brk => pure (.done .next)
    | .ret v => pure (.done (.ret v))) else again (.block orelse env)
theorem forTurn_split (target : Expr) (it : Value) (body orelse : List Stmt) (env : Env) : forTurn target it body orelse env = (standAt target.pos >>= fun _ => forPre target it env >>= forPost target it body orelse env) := by
  unfold forTurn forPre
  simp only [bind_assoc]
  congr 1
  funext _
  congr 1
  funext r
  cases r with
  | none => rw [pure_bind]; rfl
  | some v =>
    simp only [bind_assoc, pure_bind]
    rfl

section
variable {G : GP} {xs : List (List Int)} {c : Code} {fs : List Frame} {s : Shared} {r : Ref} {env : Env} {K : Flow → Sem PySem.Fin} {J : Value → Sem PySem.Fin} {gd : Bool → Bool} {lv : List Value → List Value}
theorem sg_execs_cons {st : Stmt} {rest : List Stmt} (h : SegL G xs c ((exec st env).wrap (fun f => match f with | .next => (execs rest env).wrap K J gd lv | f => K f) J gd lv) fs s r) : SegL G xs c ((execs (st :: rest) env).wrap K J gd lv) fs s r := by
  rw [PySem.execs_cons_wrap]
  exact h
theorem sg_point {l : List Value} {k : Unit → Sem PySem.Fin} (h : SegL G xs c (k ()) fs s r) : SegL G xs c (.point l k) fs s r := fun p B hB => out_pre (go_ks (step_point G.M s c p (fs ++ B) l k)) (h p B hB)
theorem sg_rule {tag : String} {k : Unit → Sem PySem.Fin} (h : SegL G xs c (k ()) fs s r) : SegL G xs c (.rule tag k) fs s r := fun p B hB => out_pre (go_ks (step_rule G.M s c p (fs ++ B) tag k)) (h p B hB)
/-- what a loop's call does behind it -/
def backK (env : Env) (K : Flow → Sem PySem.Fin) (J : Value → Sem PySem.Fin) (gd : Bool → Bool) (lv : List Value → List Value) (q : Result) : Sem PySem.Fin :=
  ((match q with | .ok f => (.pure f : Sem Flow) | .error e => .raise e).onRaise fun x => do
    if (← field x 1) == Value.none then unsupported "frame.own-activation:exception-without-traceback"
    setFlight x env.frame).wrap K J gd lv
theorem sg_runOwn {c' : Code} (h : ∀ p, SegL G xs c' (G.M.den c') (.ret (backK env K J gd lv) none (gd false) (lv []) c p [] :: fs) s r) : SegL G xs c ((runOwn c' env).wrap K J gd lv) fs s r := sg_call h
theorem backK_ok (f : Flow) : backK env K J gd lv (.ok f) = K f := rfl
/-- the loop's code -/
theorem sg_forLoop {target : Expr} {it : Value} {body : List Stmt} {Q : Prop}
    (h : RX G.M (G.A.over (.forLoop target it body [] env) fs) (forPre target it env) (fun b s' => if b = true then SegL G xs (.forLoop target it body [] env) ((execs body env).wrap (fun f => match f with
        | .next | .cont => .pure (.again (.forLoop target it body [] env))
        | .brk => .pure (.done .next)
        | .ret v => .pure (.done (.ret v))) (fun e => (do noteFrame e env; theTreesLotGoes e : Sem Unit).wrap (fun _ => .raise e) .raise id id) id id) fs s' r
      else SegL G xs (.block [] env) (leafOf (.ok .next)) fs s' r) (fun _ _ => False) s) :
    SegL G xs (.forLoop target it body [] env) (G.M.den (.forLoop target it body [] env)) fs s r := by
  show SegL G xs _ ((forTurn target it body [] env).onRaise (fun x => do noteFrame x env; theTreesLotGoes x)) fs s r
  rw [Sem.onRaise_eq_wrap, forTurn_split]
  refine sg_at ?_
  show SegL G xs _ ((forPre target it env >>= forPost target it body [] env).wrap _ _ _ _) fs s r
  refine sg_bind_wrap (h.mono (fun b s' hb => ?_) fun _ _ z => z)
  cases b with
  | true =>
    rw [if_pos rfl] at hb
    unfold forPost
    rw [if_pos rfl, Sem.bind_eq_wrap', Sem.wrap_wrap]
    rw [Sem.wrap_congr (execs body env) _ _ (K' := fun f => match f with
        | .next | .cont => .pure (.again (.forLoop target it body [] env))
        | .brk => .pure (.done .next)
        | .ret v => .pure (.done (.ret v))) (H' := (fun e => (do noteFrame e env; theTreesLotGoes e : Sem Unit).wrap (fun _ => .raise e) .raise id id))
      (fun f => by cases f <;> rfl)
      (fun e => by first | exact Sem.bind_eq_wrap _ _ | (show (do noteFrame e env; theTreesLotGoes e : Sem Unit).bind (fun _ => .raise e) = _; rw [Sem.bind_eq_wrap]))]
    exact hb
  | false =>
    rw [if_neg Bool.false_ne_true] at hb
    unfold forPost
    rw [if_neg Bool.false_ne_true]
    refine sg_again rfl ?_
    exact hb
/-- the def's code -/
theorem sg_func {body : List Stmt} (h : SegL G xs (.func body env) ((execs body env).wrap (fun f => .pure (.done (.ret (match f with | .ret v => v | _ => .none)))) (fun e => (leaving env e).wrap (fun _ => .raise e) .raise id id) id id) fs s r) :
    SegL G xs (.func body env) (G.M.den (.func body env)) fs s r := by
  show SegL G xs _ (.point [] fun _ => ((execs body env).onRaise (leaving env)) >>= _) fs s r
  refine sg_point ?_
  rw [Sem.onRaise_eq_wrap, Sem.bind_eq_wrap', Sem.wrap_wrap]
  rw [Sem.wrap_congr (execs body env) _ _ (K' := fun f => .pure (.done (.ret (match f with | .ret v => v | _ => .none))))
    (H' := fun e => (leaving env e).wrap (fun _ => .raise e) .raise id id) (fun f => by cases f <;> rfl)
    (fun e => by rw [Sem.bind_eq_wrap, Sem.wrap_wrap]; rfl)]
  exact h
end
end GX
end SGFor
section SGText
set_option maxRecDepth 100000
/-! the program's top statements -/
namespace OL
open PySem L2
def topS (i : Nat) : Stmt := PySem.Challenge.pw_oneload_k42_whole_far_numbers_of_fields.main.body.getD i (.Pass ⟨0, 0, 0, 0⟩)
abbrev sContents : Stmt := topS 23
/-! a for statement's parts -/
def noE : Expr := .Constant .none 0 ⟨0, 0, 0, 0⟩
def forTg : Stmt → Expr
  | .For t _ _ _ _ => t
  | _ => noE
def forIt : Stmt → Expr
  | .For _ i _ _ _ => i
  | _ => noE
def forBd : Stmt → List Stmt
  | .For _ _ b _ _ => b
  | _ => []
def forPs : Stmt → Pos
  | .For _ _ _ _ p => p
  | _ => ⟨0, 0, 0, 0⟩
def nth (l : List Stmt) (i : Nat) : Stmt := l.getD i (.Pass ⟨0, 0, 0, 0⟩)
def ifTs : Stmt → Expr
  | .If t _ _ _ => t
  | _ => noE
def ifBd : Stmt → List Stmt
  | .If _ b _ _ => b
  | _ => []
def ifPs : Stmt → Pos
  | .If _ _ _ p => p
  | _ => ⟨0, 0, 0, 0⟩
def yfEx : Stmt → Expr
  | .Expr (.YieldFrom e _) _ => e
  | _ => noE
end OL
end SGText
section SGCont
set_option linter.all false
set_option maxRecDepth 100000
set_option maxHeartbeats 4000000
/-! contents, the generator -/
namespace GX
open PySem PySem.Spec PyProof.Rows L2 GStub OL

/-! ### what it hands out -/
def stepOk (u : Int) (lg : List Int) (sz k : Int) : Bool := (decide (lg = desc lg)) && (decide (lg.sum ≤ u) && decide ((lg.count sz : Int) ≤ k))
def contF : Nat → Int → List (Int × Int) → List Int → List (List Int)
  | 0, _, _, _ => []
  | n + 1, u, kvs, ahead => kvs.flatMap fun p => if stepOk u (ahead ++ [p.1]) p.1 p.2 then (ahead ++ [p.1]) :: contF n u kvs (ahead ++ [p.1]) else []
abbrev kvI (p : Int × Int) : Key × V := (Sum.inl p.1, V.int p.2)
abbrev Ncont : List Str := ["unit", "boxes", "ahead", "size", "number", "longer"]
theorem scCont : GScope Ncont ["unit", "boxes", "ahead"] (defScope sContents) := ⟨rfl, rfl, rfl, by decide +kernel, rfl, by decide +kernel, by decide +kernel⟩
theorem ncCont : ∀ y ∈ (defScope sContents).names, y.2 ≠ .cell := by decide +kernel
abbrev gfC (f : Addr) (cdv : Value) (L : Addr) : GF := ⟨Ncont, "contents", defScope sContents, f, cdv, L⟩
theorem gfok {G : GP} {f : Addr} {cdv : Value} {L : Addr} (hd : G.A.handled = none) (lo : ∀ b ∈ frs G.stack, b < L) (bs : G.base.objs.size ≤ L) : GFok G (gfC f cdv L) where
  nc := rfl
  hd := hd
  lo := lo
  bs := bs
  kind := rfl
  vis := fun x h => by
    rcases h with h | h | h
    · exact h
    · exact absurd rfl (ncCont _ (PySem.mem_of_lookup h))
    · exact absurd rfl (scCont.nofree _ (PySem.mem_of_lookup h))
  nocell := fun x h => by
    rcases h with h | h
    · exact absurd rfl (ncCont _ (PySem.mem_of_lookup h))
    · exact absurd rfl (scCont.nofree _ (PySem.mem_of_lookup h))
theorem Mn.mx {H H' : Hp} (m : Mn H H') : Mx H H' := ⟨m.tups, m.frzs⟩
theorem wake_mn {G : GP} {F : GF} {r : Ref} {pins : List (Addr × Obj)} {og : List (Nat × GenState)} {σ : L2.St} {H : Hp} {s s2 : Shared} {H2 : Hp} {d' : GD} {as : List Addr} (x : Rn G F r pins og σ H s) (wk : Wk G s (unov r.s.heap r.H F.L r.d.at H) d' s2 H2) : Mn H (ov s2.heap H2 F.L as) :=
  ⟨fun b xs h => ov_of (wk.tups b xs (unov_of x.ext h fun φ z => nomatch z)), fun b o u h => ov_of (wk.frzs b o u (unov_of x.ext h fun φ z => nomatch z))⟩

/-- yield e, within a turn -/
theorem sg_yieldSt {G : GP} {F : GF} {xs : List (List Int)} {x0 : List Int} {c : Code} {fs : List Frame} {s : Shared} {r : Ref} {pins : List (Addr × Obj)} {og : List (Nat × GenState)} {σ : L2.St} {H : Hp} {K : Flow → Sem PySem.Fin} {J : Value → Sem PySem.Fin} {gd : Bool → Bool} {lv : List Value → List Value} {e : Expr} {yp pos : Pos}
    (x : Rn G F r pins og σ H s) (gf : GFok G F) (hlo : G.lo ≤ F.L) (hLr : F.L ∈ r.d.at) (hov : G.A.over c fs = G.A.deeper F.env) (hsp : splitAtGen fs = none) (hgd : fs.any Frame.guarded = false) (hg0 : gd false = false) (he : EY (cxW G F r.s r.H) σ H e x0)
    (k : ∀ s2 H2 r', F.L ∈ r'.d.at → Rn G F r' pins og σ H2 s2 → Mn H H2 → SegL G xs c (K .next) fs s2 r') (hco : F.env.scope.isCoroutine = false := by rfl) (hi : interactive F.env = false := by rfl) :
    SegL G (x0 :: xs) c ((exec (.Expr (.Yield (some e) yp) pos) F.env).wrap K J gd lv) fs s r := by
  rw [PySem.exec_Expr F.env _ pos hi rfl]
  show SegL G (x0 :: xs) c (.at pos fun _ => ((eval e F.env >>= fun v => (standAt yp >>= fun _ => yieldOut F.env v)) >>= fun x => dropValue (.Yield (some e) yp) pos x).wrap K J gd lv) fs s r
  have hy : ∀ v, yieldOut F.env v = yieldValue v := fun v => by simp only [yieldOut, hco, Bool.false_eq_true, if_false]
  simp only [hy]
  refine sg_at ?_
  rw [Sem.bind_eq_wrap', Sem.bind_eq_wrap', Sem.wrap_wrap, Sem.wrap_wrap]
  refine sg_wrap ?_
  rw [hov]
  refine (x.leaf (pins' := pins) (Q := fun v σ' H' _ => σ' = σ ∧ Evl.Ex H H' ∧ Yd H' x0 v) x.hi fun s1 I1 e1 => thn (he.run _ s1 _ _ (fun v H' => Evl.Ex H H' ∧ YdV H' x0 v) I1 ⟨rfl, Evl.Ex.refl _, fun v H2 e2 q => ⟨e2, q⟩⟩) fun u s' ⟨v, H', I', rv, e', q⟩ => ⟨_, H', I', e', rfl, e', v, rv, q⟩).mono (fun v s3 ⟨σ3, H3, x3, ⟨hσ3, e3, rv⟩, _⟩ => ?_) fun _ _ z => z
  subst hσ3
  refine sg_at ?_
  obtain ⟨oL, hoL, _, hHL, ev⟩ := x3.evd gf hLr hlo
  refine sg_yield (d := ⟨(F.L, oL) :: pins, og⟩) hsp hgd (fun z => by have z : gd false = true := z; rw [hg0] at z; cases z) ?_ ev fun s2 H2 wk => ?_
  · obtain ⟨w, rw', t, o, rfl, ht, h1, h2⟩ := rv
    exact ⟨_, rw', t, o, rfl, unov_of x3.ext ht (fun φ z => nomatch z), h1, h2⟩
  · exact k s2 _ ⟨s2, H2, ⟨(F.L, oL) :: pins, og⟩⟩ List.mem_cons_self (x3.wake gf hLr hoL wk) ((Mn.of e3).trans (wake_mn x3 wk))
/-! its text, in parts -/
def cFor : Stmt := nth (defBody sContents) 0
def cTg : Expr := forTg cFor
def cIt : Expr := forIt cFor
def cBd : List Stmt := forBd cFor
def cYf : Stmt := nth (ifBd (nth cBd 1)) 1
def cYe : Expr := yfEx cYf
theorem c_shape : defBody sContents = [.For cTg cIt cBd [] (forPs cFor)] := rfl
/-- what is known of the def -/
structure CF (K : PySem.W.Frag) (mg : Str → Option Value) (f : Addr) (cdv : Value) : Prop where
  lk : ∃ (oc : Value) (od : Option Addr) (osl : Array (Option Value)) (dV kV doc pm ct : Value) (an : Option Addr), K.lookup f = some ⟨oc, od, .func (PySem.W.fnOf "contents" "contents" (defArgs sContents) (defBody sContents) (defScope sContents) dV kV doc pm an cdv ct), osl⟩ ∧
    Binds K (PySem.W.fnOf "contents" "contents" (defArgs sContents) (defBody sContents) (defScope sContents) dV kV doc pm an cdv ct) ["unit", "boxes", "ahead"] []
  cd : PySem.W.codeIn K cdv "contents" = true
  kp : PySem.W.keepIn K (.ref f) = true
  mc : mg "contents" = some (.ref f)
  mt : mg "tuple" = none
  ms : mg "sorted" = none
  mu : mg "sum" = none

section
variable {prog : Program} {w : World} {K : PySem.W.Frag} {mg : Str → Option Value} {base : Heap} {f : Addr} {cdv : Value}
/-- the known things that a run of it leans on -/
structure CH (K : PySem.W.Frag) (kvs : List (Int × Int)) (d : Addr) (ahead : List Int) (va : V) (H : Hp) : Prop where
  dict : ∃ o, H d = some (.frz o (.dK (kvs.map kvI)))
  ahd : Dp K H va (tI ahead)
theorem CH.mn {kvs : List (Int × Int)} {d : Addr} {ahead : List Int} {va : V} {H H' : Hp} (x : CH K kvs d ahead va H) (m : Mn H H') : CH K kvs d ahead va H' := ⟨let ⟨o, h⟩ := x.dict; ⟨o, m.frzs d o _ h⟩, dp_mx m.mx (flat_tI ahead) x.ahd⟩

theorem contF_eq {n : Nat} {u : Int} {kvs : List (Int × Int)} {ahead : List Int} (hkv : ∀ p ∈ kvs, 2 ≤ p.1) (hu : u < ahead.sum + 2 * n) :
    contF n u kvs ahead = kvs.flatMap fun p => if stepOk u (ahead ++ [p.1]) p.1 p.2 then (ahead ++ [p.1]) :: contF (n - 1) u kvs (ahead ++ [p.1]) else [] := by
  cases n with
  | succ n => rfl
  | zero =>
    show [] = _
    symm
    rw [List.flatMap_eq_nil_iff]
    intro p hp
    have h2 := hkv p hp
    have e : stepOk u (ahead ++ [p.1]) p.1 p.2 = false := by
      unfold stepOk
      have : decide ((ahead ++ [p.1]).sum ≤ u) = false := decide_eq_false (by
        rw [List.sum_append, List.sum_singleton]
        omega)
      rw [this]
      simp
    rw [e]
    rfl
theorem Rn.begin {G : GP} {F : GF} {s2 : Shared} {H2 : Hp} {oL : Obj} {σ : L2.St} (g : GFok G F) (e : Env0 G.prog G.w G.K G.mg G.base G.A G.stack (bare0 s2) H2) (hf : FrmAt F s2.heap σ) (hL : H2 F.L = none) (hb : ∀ (i : Nat) (y : GenState), s2.gens[i]? = some y → y.bare = true ∨ isSusp y = true) :
    Rn G F ⟨s2, H2, ⟨[(F.L, oL)], []⟩⟩ [] [] σ (ov s2.heap H2 F.L [F.L]) s2 := by
  have I0 : Inv (cxW G F s2 H2) [] σ H2 (bare0 s2) := rebase g e hf hL fun p hp => by cases hp
  refine ⟨⟨I0.ok, I0.os, I0.bare, ⟨I0.base.keep, I0.base.slot, fun b o e n hx => ?_, I0.base.there, fun b xs h => ov_of (preH_some h).2, fun b o u h => ov_of (preH_some h).2, fun b ps h => ⟨#[], by rw [ov_of (preH_some h).2]; simp⟩⟩, I0.loc, I0.cell, ?_, fun y c h => ?_, fun p hp' => ?_, hok_ov I0.hok, I0.len⟩,
    fun b o e => e, ⟨Nat.le_refl _, fun i x h _ _ => h, fun i y h => ?_, fun p hp' => by cases hp'⟩, fun p hp => by cases hp⟩
  · have e' : (pre s2.heap F.L).get? b = some o := e
    rw [ov_lt (pre_some e').1]
    exact I0.base.free b o e n hx
  · show ov s2.heap H2 F.L [F.L] F.L = none
    rw [ov_in List.mem_cons_self]
    exact hL
  · have h : F.env.cells.lookup y = some c := h
    rw [g.nc] at h
    cases h
  · cases hp'
  · rcases hb i y h with z | z
    · exact .inl z
    · exact .inr (.inr ⟨h, z, by intro q; cases q⟩)
theorem Rn.pinned {G : GP} {F : GF} {r : Ref} {og : List (Nat × GenState)} {σ : L2.St} {H : Hp} {s : Shared} {fp : List Addr} (g : GFok G F) (x : Rn G F r [] og σ H s) (h : ∀ b ∈ fp, F.L < b ∧ H b = none ∧ ∃ o, s.heap.get? b = some o ∧ ∀ v, o.data ≠ .cell v) : Rn G F r (pinsAt fp s.heap) og σ H s := by
  refine ⟨x.inv.pins_of fun p hp => ?_, x.ext, x.gn, fun p hp => ?_⟩
  · obtain ⟨hb, e⟩ := of_pinsAt hp
    obtain ⟨h1, h2, o, h3, h4⟩ := h p.1 hb
    rw [e] at h3
    cases h3
    exact ⟨e, h2, Nat.ne_of_gt h1, fun z => absurd (Nat.lt_trans h1 (g.lo _ z)) (Nat.lt_irrefl _), h4⟩
  · exact Nat.le_of_lt (h p.1 (of_pinsAt hp).1).1
theorem Rn.bare {G : GP} {F : GF} {r : Ref} {pins : List (Addr × Obj)} {og : List (Nat × GenState)} {σ : L2.St} {H : Hp} {s : Shared} (x : Rn G F r pins og σ H s) : Rn G F r [] og σ H s :=
  ⟨x.inv.pins_of fun p hp => (by cases hp), x.ext, x.gn, fun p hp => by cases hp⟩
theorem Rn.fp {G : GP} {F : GF} {r : Ref} {H : Hp} {b : Addr} (g : GFok G F) (h1 : F.L < b) (h2 : H b = none) : FpOk (cxW G F r.s r.H) [] H b := by
  refine ⟨h2, Nat.ne_of_gt h1, fun z => absurd (Nat.lt_trans h1 (g.lo _ z)) (Nat.lt_irrefl _), .inr ?_, fun y c h => ?_, fun p hp => ?_⟩
  · show (pre r.s.heap F.L).objs.size ≤ b
    rw [pre_size]
    exact Nat.le_trans (Nat.min_le_left _ _) (Nat.le_of_lt h1)
  · have h : F.env.cells.lookup y = some c := h
    rw [g.nc] at h
    cases h
  · cases hp
/-- a statement of the layer, within a turn -/
theorem sg_ps {G : GP} {F : GF} {xs : List (List Int)} {c : Code} {fs : List Frame} {s : Shared} {r : Ref} {pins : List (Addr × Obj)} {og : List (Nat × GenState)} {σ : L2.St} {H : Hp} {K : Flow → Sem PySem.Fin} {J : Value → Sem PySem.Fin} {gd : Bool → Bool} {lv : List Value → List Value} {st : Stmt} {t : TS} {N : L2.St → Hp → Prop}
    (x : Rn G F r pins og σ H s) (hov : G.A.over c fs = G.A.deeper F.env) (h : PS (cxW G F r.s r.H) st t) (ht : t { nx := fun σ' H' => (∀ b o, H b = some o → H' b = some o) ∧ N σ' H', rt := fun _ _ => False } σ H) (k : ∀ s' σ' H', Rn G F r pins og σ' H' s' → N σ' H' → SegL G xs c (K .next) fs s' r) :
    SegL G xs c ((exec st F.env).wrap K J gd lv) fs s r := by
  refine sg_wrap ?_
  rw [hov]
  refine (x.leaf (Q := fun f σ' H' _ => f = .next ∧ N σ' H') x.hi fun s1 I e => thn (h.run pins s1 σ H _ I ht) fun f s' q => ?_).mono (fun f s' ⟨σ', H', x', ⟨e1, n1⟩, _⟩ => by subst e1; exact k s' σ' H' x' n1) fun _ _ z => z
  cases f with
  | next =>
    obtain ⟨σ', H', I', e', n'⟩ := q
    exact ⟨σ', H', I', e', rfl, n'⟩
  | brk => obtain ⟨_, _, _, z⟩ := q; exact z.elim
  | cont => obtain ⟨_, _, _, z⟩ := q; exact z.elim
  | ret v => obtain ⟨_, _, _, _, _, z⟩ := q; exact z.elim
theorem seg_step (cf : CF K mg f cdv) (n : Nat) (A : Around) (stack : List Env) (lo L : Addr) (u : Int) (kvs : List (Int × Int)) (ahead : List Int) (d : Addr) (va : V) (s2 : Shared) (H2 : Hp) (oL : Obj)
    (ih : ∀ m, n = m + 1 → ∀ (A : Around) (stack : List Env) (lo L : Addr) (ahead : List Int) (va : V) (s2 : Shared) (H2 : Hp) (oL : Obj),
      Room (3 * m + 5) A → lo ≤ L → (∀ b ∈ frs stack, b < L) → base.objs.size ≤ L → u < ahead.sum + 2 * m → ahead.length + m ≤ 1000 → Env0 prog w K mg base A stack (bare0 s2) H2 → FrmAt (gfC f cdv L) s2.heap (L2.start Ncont [.int u, .ref d, va]) → H2 L = none → s2.heap.get? L = some oL →
      (∀ (i : Nat) (y : GenState), s2.gens[i]? = some y → y.bare = true ∨ isSusp y = true) → CH K kvs d ahead va H2 →
      SegL ⟨prog, w, K, mg, base, A, stack, lo⟩ (contF m u kvs ahead) (.func (defBody sContents) (gfC f cdv L).env) ((model prog w).den (.func (defBody sContents) (gfC f cdv L).env)) [] s2 ⟨s2, H2, ⟨[(L, oL)], []⟩⟩)
    (hr : Room (3 * n + 5) A) (hlo : lo ≤ L) (hst : ∀ b ∈ frs stack, b < L) (hbs : base.objs.size ≤ L) (hkv : ∀ p ∈ kvs, 2 ≤ p.1) (hu : u < ahead.sum + 2 * n) (hlen : ahead.length + n ≤ 1000) (e0 : Env0 prog w K mg base A stack (bare0 s2) H2) (hf : FrmAt (gfC f cdv L) s2.heap (L2.start Ncont [.int u, .ref d, va])) (hL : H2 L = none) (hgL : s2.heap.get? L = some oL)
    (hb : ∀ (i : Nat) (y : GenState), s2.gens[i]? = some y → y.bare = true ∨ isSusp y = true) (ch : CH K kvs d ahead va H2) :
    SegL ⟨prog, w, K, mg, base, A, stack, lo⟩ (contF n u kvs ahead) (.func (defBody sContents) (gfC f cdv L).env) ((model prog w).den (.func (defBody sContents) (gfC f cdv L).env)) [] s2 ⟨s2, H2, ⟨[(L, oL)], []⟩⟩ := by
  have gf : GFok ⟨prog, w, K, mg, base, A, stack, lo⟩ (gfC f cdv L) := gfok (G := ⟨prog, w, K, mg, base, A, stack, lo⟩) (f := f) (cdv := cdv) (L := L) hr.hd hst hbs
  rw [contF_eq hkv hu]
  refine sg_func ?_
  rw [c_shape]
  refine sg_execs_cons ?_
  rw [for_split]
  refine sg_bind_wrap (RX.of (wpAny_standAt ?_))
  have x0 := Rn.begin (F := gfC f cdv L) (oL := oL) (G := ⟨prog, w, K, mg, base, A, stack, lo⟩) gf e0 hf hL hb
  have ch0 : CH K kvs d ahead va (ov s2.heap H2 L [L]) := ch.mn ⟨fun b xs h => ov_of h, fun b o u h => ov_of h⟩
  obtain ⟨od, hd0⟩ := id ch0.dict
  -- the iterator
  refine sg_bind_wrap ?_
  rw [GenW.over_func]
  refine (x0.leaf (pins' := []) (Q := fun itv σ' H' h' => σ' = L2.start Ncont [.int u, .ref d, va] ∧ ∃ it fp tn, itv = .ref it ∧ Turn prog w K cTg (Iti d od (kvs.map kvI)) fp it tn ∧ tn 0 h' ∧ ∀ b ∈ fp, L < b ∧ H' b = none) (fun p hp => by cases hp) fun s1 I1 e1 => ?_).mono (fun itv s3 q3 => ?_) fun _ _ z => z
  · have PIc : PI (cxW ⟨prog, w, K, mg, base, A, stack, lo⟩ (gfC f cdv L) s2 H2) cTg cIt (iItems (tVar 1)) := pi_items (pv 1)
    refine wpAny_bind (thn (PIc.run [] s1 _ _ (fun J H' => J = Iti d od (kvs.map kvI) ∧ H' = ov s2.heap H2 L [L]) I1 ⟨.ref d, rfl, d, od, _, rfl, hd0, rfl, rfl⟩) fun v s3 h3 => ?_)
    refine wpAny_bind (wpAny_of_eq (a := v) rfl ?_)
    refine wpAny_bind (wpAny_standAt (wpAny_holding (thn h3 fun itv s4 h4 => ?_)))
    obtain ⟨it, fp, tn, J, H', rfl, I4, T, st, hfp, rfl, rfl⟩ := h4
    refine ⟨_, _, I4, fun b o h => h, rfl, it, fp, tn, rfl, T, st, fun b hb => ?_⟩
    obtain ⟨f0, f1, _, f3, _, _⟩ := hfp b hb
    refine ⟨?_, f0⟩
    rcases f3 with z | z
    · cases z
    · have z : (pre s2.heap L).objs.size ≤ b := z
      rw [pre_size, Nat.min_eq_left (Nat.le_of_lt (Heap.lt_size hgL))] at z
      exact Nat.lt_of_le_of_ne z (Ne.symm f1)
  · obtain ⟨σ3, H3, x3, ⟨rfl, it, fp, tn, rfl, T, st3, hfp⟩, e3⟩ := q3
    have hfL : ∀ b ∈ fp, L < b := fun b hb => (hfp b hb).1
    have ch3 : CH K kvs d ahead va H3 := ch0.mn (Mn.of e3)
    refine sg_runOwn fun p0 => ?_
    -- the loop
    generalize hk : backK _ _ _ _ _ = kf
    have hkn : kf (.ok .next) = .pure (.done (.ret .none)) := by rw [← hk]; rfl
    have loop : ∀ (m i : Nat) (x3 x4 x5 : Option V) (r : Ref) (H : Hp) (s : Shared), i + m = kvs.length → L ∈ r.d.at → Rn ⟨prog, w, K, mg, base, A, stack, lo⟩ (gfC f cdv L) r [] [] [some (.int u), some (.ref d), some va, x3, x4, x5] H s → (∀ b ∈ fp, H b = none) → tn i s.heap → H d = some (.frz od (.dK (kvs.map kvI))) → CH K kvs d ahead va H →
        SegL ⟨prog, w, K, mg, base, A, stack, lo⟩ ((kvs.drop i).flatMap fun p => if stepOk u (ahead ++ [p.1]) p.1 p.2 then (ahead ++ [p.1]) :: contF (n - 1) u kvs (ahead ++ [p.1]) else []) (.forLoop cTg (.ref it) cBd [] (gfC f cdv L).env) ((model prog w).den (.forLoop cTg (.ref it) cBd [] (gfC f cdv L).env))
          [.ret kf none false [] (.func [.For cTg cIt cBd [] (forPs cFor)] (gfC f cdv L).env) p0 []] s r := by
      intro m
      induction m with
      | zero =>
        intro i x3 x4 x5 r H s hi hLr x hn ht hd' hc
        have hi' : kvs.length ≤ i := by omega
        rw [List.drop_eq_nil_of_le hi']
        refine sg_forLoop (Q := True) ?_
        rw [GenW.over_loop rfl rfl, GenW.over_func]
        refine (x.leaf (pins' := []) (Q := fun b σ' H' h' => b = false) (fun p hp => by cases hp) fun s1 I1 e1 => ?_).mono (fun b s' ⟨σ', H', x', hb', _⟩ => ?_) fun _ _ z => z
        · unfold forPre
          refine wpAny_bind (wpAny_onRaise (wpAny_mono (T.done (cxW ⟨prog, w, K, mg, base, A, stack, lo⟩ (gfC f cdv L) r.s r.H) rfl rfl rfl rfl i [] s1 _ H (fun _ _ => False) I1 (fun b hb => Rn.fp gf (hfL b hb) (hn b hb)) (by rw [e1]; exact ht) ⟨hd', by rw [List.length_map]; exact hi'⟩) (fun q s4 ⟨hq, I4⟩ => ?_) fun _ _ z => z.elim))
          subst hq
          exact wpAny_pure ⟨_, H, I4, fun b o h => h, rfl⟩
        · subst hb'
          rw [if_neg Bool.false_ne_true]
          refine sg_leaf (.ok .next) ?_
          rw [hkn]
          obtain ⟨oL', _, _, _, ev⟩ := x'.evd gf hLr hlo
          exact sg_end (.inr rfl) ⟨ev.os, ev.un, ev.ext, ev.hok, ev.sz, ev.keepG, ev.bareG, fun p hp => (by cases hp), fun p hp => (by cases hp), fun p hp => (by cases hp)⟩
      | succ m ihm =>
        intro i x3 x4 x5 r H s hi hLr x hn ht hd' hc
        have hlt : i < kvs.length := by omega
        obtain ⟨⟨sz, k0⟩, hp⟩ : ∃ p, kvs[i]? = some p := ⟨_, List.getElem?_eq_getElem hlt⟩
        have hsz : 2 ≤ sz := hkv (sz, k0) (List.mem_of_getElem? hp)
        have hdrop : kvs.drop i = (sz, k0) :: kvs.drop (i + 1) := by
          rw [List.drop_eq_getElem_cons hlt]
          rw [List.getElem?_eq_getElem hlt] at hp
          rw [Option.some.inj hp]
        rw [hdrop, List.flatMap_cons]
        refine sg_forLoop (Q := True) ?_
        rw [GenW.over_loop rfl rfl, GenW.over_func]
        have PGc : PG (cxW ⟨prog, w, K, mg, base, A, stack, lo⟩ (gfC f cdv L) r.s r.H) cTg (gTup K 2 (gCons (gName 3) (gCons (gName 4) gNil))) := pg_tup rfl (pgs_cons (pg_name (i := 3) scCont.nd rfl (.inl rfl)) (pgs_cons (pg_name (i := 4) scCont.nd rfl (.inl rfl)) pgs_nil))
        refine (x.leaf (pins' := []) (Q := fun b σ' H' h' => b = true ∧ σ' = [some (.int u), some (.ref d), some va, some (.int sz), some (.int k0), x5] ∧ tn (i + 1) h' ∧ ∀ b ∈ fp, H' b = none) (fun p hp => by cases hp) fun s1 I1 e1 => ?_).mono (fun b s6 ⟨σ6, H6, x6, ⟨hb6, hσ6, ht6, hn6⟩, e6⟩ => ?_) fun _ _ z => z
        · unfold forPre
          refine wpAny_bind (wpAny_onRaise (wpAny_mono (T.item (cxW ⟨prog, w, K, mg, base, A, stack, lo⟩ (gfC f cdv L) r.s r.H) rfl rfl rfl rfl i [] s1 _ H (fun _ _ => False) I1 (fun b hb => Rn.fp gf (hfL b hb) (hn b hb)) (by rw [e1]; exact ht) ⟨hd', by rw [List.length_map]; exact hlt⟩) (fun q s4 ⟨v, hq, h4⟩ => ?_) fun _ _ z => z.elim))
          subst hq
          refine wpAny_bind (thn h4 fun _ s5 ⟨y, H5, I5, r5, y5, st5, fr5⟩ => ?_)
          obtain ⟨Tt, kk, vv, hkv', rfl, hTn, rfl⟩ := y5
          rw [List.getElem?_map, hp] at hkv'
          obtain ⟨rfl, rfl⟩ : Sum.inl sz = kk ∧ V.int k0 = vv := by
            have e := Option.some.inj hkv'
            injection e with q1 q2
            exact ⟨q1, q2⟩
          have I5' := I5.pinned (fp := fp) (fun b hb => Rn.fp gf (hfL b hb) (fr5 b hb)) (T.obj _ _ st5)
          refine wpAny_bind (thn (PGc.run _ s5 _ _ (.ref Tt) v (fun σ' H' => σ' = [some (.int u), some (.ref d), some va, some (.int sz), some (.int k0), x5] ∧ H' = upd H Tt (.tup [kV (Sum.inl sz), V.int k0])) I5' r5 ⟨Tt, _, rfl, .inl (.inl upd_same), rfl, _, _, rfl, _, _, rfl, rfl, rfl, rfl⟩) fun _ s6 ⟨σ6, H6, I6, e6, e7⟩ => ?_)
          subst e6 e7
          have pinF : ∀ b ∈ fp, ∀ o, s5.heap.get? b = some o → s6.heap.get? b = some o ∧ upd H Tt (.tup [kV (Sum.inl sz), V.int k0]) b = none := fun b hb o e => by
            have q := I6.pin (b, o) (List.mem_append_right _ (List.mem_append_right _ (mem_pinsAt hb e)))
            exact ⟨q.1, q.2.1⟩
          refine wpAny_pure ⟨_, _, I6.unpinned, fun b o e => ?_, rfl, rfl, T.keep _ _ _ st5 fun b hb o e => (pinF b hb o e).1, fun b hb => ?_⟩
          · rw [upd_ne (ne_of_none e hTn)]
            exact e
          · obtain ⟨o, e, _⟩ := T.obj _ _ st5 b hb
            exact (pinF b hb o e).2
        · subst hb6 hσ6
          rw [if_pos rfl]
          have x6p := x6.pinned gf (fp := fp) fun b hb => ⟨hfL b hb, hn6 b hb, T.obj _ _ ht6 b hb⟩
          have hc6 := hc.mn (Mn.of e6)
          have hd6 := e6 _ _ hd'
          -- the end of a turn
          have again : ∀ (x5' : Option V) (r' : Ref) (H' : Hp) (s' : Shared), L ∈ r'.d.at → Rn ⟨prog, w, K, mg, base, A, stack, lo⟩ (gfC f cdv L) r' (pinsAt fp s6.heap) [] [some (.int u), some (.ref d), some va, some (.int sz), some (.int k0), x5'] H' s' → Mn H6 H' →
              SegL ⟨prog, w, K, mg, base, A, stack, lo⟩ ((kvs.drop (i + 1)).flatMap fun p => if stepOk u (ahead ++ [p.1]) p.1 p.2 then (ahead ++ [p.1]) :: contF (n - 1) u kvs (ahead ++ [p.1]) else []) (.forLoop cTg (.ref it) cBd [] (gfC f cdv L).env) (.pure (.again (.forLoop cTg (.ref it) cBd [] (gfC f cdv L).env))) [.ret kf none false [] (.func [.For cTg cIt cBd [] (forPs cFor)] (gfC f cdv L).env) p0 []] s' r' := fun x5' r' H' s' hLr' x' m' => by
            have pinF : ∀ b ∈ fp, ∀ o, s6.heap.get? b = some o → s'.heap.get? b = some o ∧ H' b = none := fun b hb o e => by
              have q := x'.inv.pin (b, o) (List.mem_append_right _ (mem_pinsAt hb e))
              exact ⟨q.1, q.2.1⟩
            refine sg_again rfl (ihm (i + 1) _ _ x5' r' H' s' (by omega) hLr' x'.bare (fun b hb => ?_) (T.keep _ _ _ ht6 fun b hb o e => (pinF b hb o e).1) (m'.frzs d _ _ hd6) (hc6.mn m'))
            obtain ⟨o, e, _⟩ := T.obj _ _ ht6 b hb
            exact (pinF b hb o e).2
          -- longer = (*ahead, size)
          refine sg_execs_cons (st := nth cBd 0) (rest := [nth cBd 1]) ?_
          have ps1 : PS (cxW ⟨prog, w, K, mg, base, A, stack, lo⟩ (gfC f cdv L) r.s r.H) (nth cBd 0) (tAsg (tR [some (.int u), some (.ref d), some va, some (.int sz), some (.int k0), x5] H6 (fun v H' => YdV H' (ahead ++ [sz]) v)) (gName 5)) :=
            ps_set (i := 5) scCont.nd rfl (.inl rfl) (yTup (by rw [List.map_append]; exact aStar (xV 2 rfl hc6.ahd (pv 2)) (aCons (xV 3 rfl (.int sz) (pv 3)) aNil)) (by rw [List.length_append]; exact Nat.le_trans (show ahead.length + 1 ≤ 1001 by omega) (by decide)))
          refine sg_ps x6p (by rw [GenW.over_loop rfl rfl, GenW.over_func]) ps1 (N := fun σ' H' => Evl.Ex H6 H' ∧ ∃ v, σ' = [some (.int u), some (.ref d), some va, some (.int sz), some (.int k0), some v] ∧ YdV H' (ahead ++ [sz]) v) ⟨rfl, Evl.Ex.refl _, fun v H2 e2 r2 => ⟨e2, e2, v, rfl, r2⟩⟩ fun s7 σ7 H7 x7 ⟨e7, vl, hσ7, hy7⟩ => ?_
          subst hσ7
          refine sg_execs_cons (st := nth cBd 1) (rest := []) ?_
          show SegL _ _ _ ((standAt (ifPs (nth cBd 1)) >>= fun _ => isTrue (ifTs (nth cBd 1)) (gfC f cdv L).env (eval (ifTs (nth cBd 1)) (gfC f cdv L).env) >>= fun b => if b then execs (ifBd (nth cBd 1)) (gfC f cdv L).env else execs [] (gfC f cdv L).env).wrap _ _ _ _) _ _ _
          refine sg_bind_wrap (RX.of (wpAny_standAt ?_))
          refine sg_bind_wrap ?_
          rw [GenW.over_loop rfl rfl, GenW.over_func]
          have hu64 : ((cxW ⟨prog, w, K, mg, base, A, stack, lo⟩ (gfC f cdv L) r.s r.H).A.units + 64 < cLine) := (Room.deeper (Room.mono hr (show 3 * n + 4 + 1 ≤ 3 * n + 5 by omega)) (gfC f cdv L).env).units
          have tst : TX (cxW ⟨prog, w, K, mg, base, A, stack, lo⟩ (gfC f cdv L) r.s r.H) [some (.int u), some (.ref d), some va, some (.int sz), some (.int k0), some vl] H7 (ifTs (nth cBd 1)) (stepOk u (ahead ++ [sz]) sz k0) :=
            WX.tx (wAnd (((ttEq hu64 (xV 5 rfl hy7.dp (pv 5)) (xTupOf (by rfl) cf.mt (EN.ex (nSortR (c := true) (by rfl) cf.ms (xV 5 rfl hy7.dp (pv 5)) (pk_cons pe_bl pk_nil)))) (shaped_tI _) (shaped_tI _)).is (by rw [eqv_tI]; rfl)))
              fun _ => wAnd (ttLe (xSumT rfl (by rfl) cf.mu (xV 5 rfl hy7.dp (pv 5))) (xV 0 rfl (.int u) (pv 0))) fun _ => wAnd1 (ttLe (xCountT (EY.et (yV 5 rfl hy7 (pv 5))) (xV 3 rfl (.int sz) (pv 3))) (xV 4 rfl (.int k0) (pv 4))))
          refine (x7.leaf (pins' := pinsAt fp s6.heap) (Q := fun b σ' H' _ => b = stepOk u (ahead ++ [sz]) sz k0 ∧ σ' = [some (.int u), some (.ref d), some va, some (.int sz), some (.int k0), some vl]) x7.hi fun s1 I1 e1 => thn (tst.run _ s1 _ _ (fun b' H' => b' = stepOk u (ahead ++ [sz]) sz k0 ∧ Evl.Ex H7 H') I1 ⟨rfl, Evl.Ex.refl _, fun H2 e2 => ⟨rfl, e2⟩⟩) fun b s' ⟨H', I', eb, e'⟩ => ⟨_, H', I', e', eb, rfl⟩).mono (fun b s8 ⟨σ8, H8, x8, ⟨hb8, hσ8⟩, e8⟩ => ?_) fun _ _ z => z
          subst hb8 hσ8
          have m8 : Mn H6 H8 := (Mn.of e7).trans (Mn.of e8)
          have hy8 := hy7.ex e8
          cases hok : stepOk u (ahead ++ [sz]) sz k0 with
          | false => exact again _ r H8 s8 hLr x8 m8
          | true =>
            have hsum : (ahead ++ [sz]).sum ≤ u := by
              unfold stepOk at hok
              rw [Bool.and_eq_true, Bool.and_eq_true] at hok
              exact of_decide_eq_true hok.2.1
            have hsum2 : ahead.sum + sz ≤ u := by
              rw [List.sum_append, List.sum_singleton] at hsum
              exact hsum
            obtain ⟨m0, rfl⟩ : ∃ m0, n = m0 + 1 := ⟨n - 1, by omega⟩
            show SegL _ ((ahead ++ [sz]) :: (contF m0 u kvs (ahead ++ [sz]) ++ (kvs.drop (i + 1)).flatMap _)) _ ((execs (ifBd (nth cBd 1)) (gfC f cdv L).env).wrap _ _ _ _) _ _ _
            -- yield longer
            refine sg_execs_cons (st := nth (ifBd (nth cBd 1)) 0) (rest := [nth (ifBd (nth cBd 1)) 1]) ?_
            refine sg_yieldSt x8 gf hlo hLr (by rw [GenW.over_loop rfl rfl, GenW.over_func]) rfl rfl rfl (yV 5 rfl hy8 (pv 5)) fun s9 H9 r9 hLr9 x9 m9 => ?_
            refine sg_execs_cons (st := nth (ifBd (nth cBd 1)) 1) (rest := []) ?_
            have m9' : Mn H6 H9 := m8.trans m9
            have hy9 := hy8.mx m9.mx
            have hc9 := hc6.mn m9'
            -- yield from contents(unit, boxes, longer)
            have hrm : Room (3 * m0 + 7) (A.deeper (gfC f cdv L).env) := Room.deeper (Room.mono hr (show 3 * m0 + 7 + 1 ≤ 3 * (m0 + 1) + 5 by omega)) _
            obtain ⟨oc, ocd, osl, dV, kV, doc, pm, ct, an, lk, hbd⟩ := cf.lk
            obtain ⟨yfp, yfpos, eyf⟩ : ∃ yfp yfpos, nth (ifBd (nth cBd 1)) 1 = .Expr (.YieldFrom cYe yfp) yfpos := ⟨_, _, rfl⟩
            rw [eyf, PySem.exec_Expr (gfC f cdv L).env _ yfpos rfl rfl]
            show SegL _ _ _ (.at yfpos fun _ => ((eval cYe (gfC f cdv L).env >>= fun v => (standAt yfp >>= fun _ => yieldFrom (gfC f cdv L).env v)) >>= fun x => dropValue (.YieldFrom cYe yfp) yfpos x).wrap _ _ _ _) _ _ _
            refine sg_at ?_
            rw [Sem.bind_eq_wrap' (eval cYe (gfC f cdv L).env >>= _) _, Sem.wrap_wrap]
            refine sg_bind_wrap ?_
            rw [GenW.over_loop rfl rfl, GenW.over_func]
            refine (leafN (X := cxW ⟨prog, w, K, mg, base, A, stack, lo⟩ (gfC f cdv L) r9.s r9.H) (pins' := pinsAt fp s6.heap) (Q := fun v σ' H' h' g' => σ' = [some (.int u), some (.ref d), some va, some (.int sz), some (.int k0), some vl] ∧ H' = H9 ∧ ∃ (g : Nat) (L' a : Addr) (oa oL' : Obj), v = .ref a ∧ s9.gens.size ≤ g ∧ g'[g]? = some (.fresh (.func (defBody sContents) (gfC f cdv L').env)) ∧ L < L' ∧ L' < a ∧ h'.get? a = some oa ∧ GenOb oa g ∧ h'.IsGen a g ∧ h'.get? L' = some oL' ∧ (∀ v, oL'.data ≠ .cell v) ∧
                FrmAt (gfC f cdv L') h' (L2.start Ncont [.int u, .ref d, vl]) ∧ H9 L' = none ∧ H9 a = none ∧ ∀ p ∈ pinsAt fp s6.heap, p.1 < L') x9.gn x9.inv fun I => ?_).mono (fun v s10 ⟨σ10, H10, gs10, I10, g10, ⟨hσ10, hH10, g, L', a, oa, oL', ev, hg1, hg2, hLL, hLa, ha, hga, hig, hL', hnL, hfL', hn1, hn2, hpl⟩, hnew⟩ => ?_) fun _ _ z => z
            · refine thn (gen_call (N := Ncont) (ps := ["unit", "boxes", "ahead"]) (ds := []) (dvs := []) (Q := fun vs H1 => vs = [.int u, .ref d, vl] ∧ H1 = H9) lk cf.cd scCont ncCont hrm.depth hrm.hd (by rfl) cf.mc cf.kp hbd .nil (pa_cons (pv 0) (pa_cons (pv 1) (pa_cons (pv 5) pa_nil))) I ⟨_, rfl, _, rfl, _, rfl, rfl, rfl, rfl⟩) fun v s' hq => ?_
              obtain ⟨vs, H1, s1, L', a, oa, oL', rfl, I1, hz, ⟨rfl, rfl⟩, gn, I2⟩ := hq
              have hz' : s9.gens.size ≤ s1.gens.size := by
                have e := (gr_stubs s9).size
                rw [e]
                exact hz
              refine ⟨_, H1, I2, rfl, rfl, s1.gens.size, L', a, oa, oL', rfl, hz', ?_, ?_, gn.lta, gn.geta, gn.gen, gn.isg, gn.getL, gn.noL, gn.frm, I1.hok.fresh gn.ltL, I1.hok.fresh (Nat.le_of_lt (Nat.lt_of_le_of_lt gn.ltL gn.lta)), fun p hp => ?_⟩
              · rw [gn.gens]
                exact Array.getElem?_push_size
              · exact Nat.lt_of_lt_of_le I1.lt gn.ltL
              · exact Nat.lt_of_lt_of_le (Heap.lt_size (I1.pin p (List.mem_append_right _ hp)).1) gn.ltL
            · subst hσ10 hH10 ev
              refine sg_bind_wrap (RX.of (wpAny_standAt ?_))
              unfold yieldFrom
              refine sg_bind_wrap (RX.of (wpAny_typeOf (T := "generator") ⟨oa, ha, hga.1⟩ ?_))
              rw [if_neg (by decide)]
              refine sg_bind_wrap (RX.of (wpAny_holding (wpAny_pyIter_gen hig ?_)))
              refine sg_call fun p => ?_
              have hr1 : Room (3 * m0 + 6) (A.deeper (gfC f cdv L).env).in1 := hrm.in1
              have hr2 : Room (3 * m0 + 5) (A.deeper (gfC f cdv L).env).in1.in1 := hr1.in1
              have hgs : s10.gens[g]? = some (.fresh (.func (defBody sContents) (gfC f cdv L').env)) := (hnew g hg1).trans hg2
              have hgl : g < s10.gens.size := (Array.getElem?_eq_some_iff.mp hgs).1
              have x10 : Rn ⟨prog, w, K, mg, base, A, stack, lo⟩ (gfC f cdv L) r9 (((a, oa) :: pinsAt fp s6.heap) ++ [(L', oL')]) [] [some (.int u), some (.ref d), some va, some (.int sz), some (.int k0), some vl] H10 s10 := by
                refine ⟨I10.pins_of fun p hp => ?_, x9.ext, g10, fun p hp => ?_⟩
                · rcases List.mem_append.mp hp with z | z
                  · rcases List.mem_cons.mp z with z | z
                    · subst z
                      exact ⟨ha, hn2, Nat.ne_of_gt (Nat.lt_trans hLL hLa), fun q => absurd (Nat.lt_trans (Nat.lt_trans hLL hLa) (gf.lo _ q)) (Nat.lt_irrefl _), hga.mark.nocell⟩
                    · exact I10.pin p (List.mem_append_right _ z)
                  · rw [List.mem_singleton.mp z]
                    exact ⟨hL', hn1, Nat.ne_of_gt hLL, fun q => absurd (Nat.lt_trans hLL (gf.lo _ q)) (Nat.lt_irrefl _), hnL⟩
                · rcases List.mem_append.mp hp with z | z
                  · rcases List.mem_cons.mp z with z | z
                    · subst z
                      exact Nat.le_of_lt (Nat.lt_trans hLL hLa)
                    · exact x9.hi p z
                  · rw [List.mem_singleton.mp z]
                    exact Nat.le_of_lt hLL
              refine sg_yf (F := gfC f cdv L) (a := a) (g := g) (B := (A.deeper (gfC f cdv L).env).in1.in1) (A1 := (A.deeper (gfC f cdv L).env).in1) (rest := (kvs.drop (i + 1)).flatMap fun p => if stepOk u (ahead ++ [p.1]) p.1 p.2 then (ahead ++ [p.1]) :: contF (m0 + 1 - 1) u kvs (ahead ++ [p.1]) else []) (P := pinsAt fp s6.heap) gf hlo ?_ rfl hr1.hd hr1.depth (Around.frames_deeper e0.frames) rfl rfl (Nat.lt_trans hLL hLa) (fun p hp => Nat.ne_of_lt (Nat.lt_trans (hpl p hp) hLa)) H10
                (fun r' s' H' hLr' x' m' => ?_) (contF m0 u kvs (ahead ++ [sz])) r9 oa ⟨[(L', oL')], []⟩ (.fresh (.func (defBody sContents) (gfC f cdv L').env)) [] H10 H10 s10 hLr9 x10 hga (fun p hp => by cases hp) (fun p hp => by cases hp) (.inr (Nat.le_trans x9.gn.sz hg1)) hgs ?_ Mn.rfl Mn.rfl
              · rw [over_plain (plainId_weight plain_yf _) (plainId_units plain_yf _), GenW.over_loop rfl rfl, GenW.over_func]
              · refine sg_leaf (.ok (.ret .none)) ?_
                exact again _ r' H' s' hLr' x' (m9'.trans m')
              · refine ⟨rfl, (by intro q; cases q), fun p hp => ?_, fun p hp z => ?_, fun s0 s12 H12 wk p B hB => ?_⟩
                · rw [List.mem_singleton.mp hp]
                  exact Nat.le_of_lt hLL
                · have z : p.1 ∈ [L'] := z
                  rw [List.mem_singleton] at z
                  rcases List.mem_append.mp hp with y | y
                  · cases y
                  · rcases List.mem_cons.mp y with y | y
                    · rw [y] at z
                      exact absurd hLa (by rw [← z]; exact Nat.lt_irrefl _)
                    · exact absurd (hpl p y) (by rw [z]; exact Nat.lt_irrefl _)
                · have wL := wk.stand (L', oL') List.mem_cons_self
                  have hm12 : Mn H10 H12 := ⟨wk.tups, wk.frzs⟩
                  refine ih m0 rfl ((A.deeper (gfC f cdv L).env).in1.in1) ((gfC f cdv L).env :: stack) L L' (ahead ++ [sz]) vl s12 H12 oL' hr2 (Nat.le_of_lt hLL) (fun b hb => ?_) (Nat.le_trans hbs (Nat.le_of_lt hLL)) (by rw [List.sum_append, List.sum_singleton]; omega) (by rw [List.length_append]; show ahead.length + 1 + m0 ≤ 1000; omega) wk.env (hfL'.keep fun o e => ?_) wL.2 wL.1 (fun i y hy => ?_) ⟨(hc9.mn hm12).dict, (hy9.mx hm12.mx).dp⟩ p B hB
                  · unfold frs at hb
                    rw [List.filterMap_cons] at hb
                    rcases List.mem_cons.mp hb with z | z
                    · rw [z]; exact hLL
                    · exact Nat.lt_trans (hst b z) hLL
                  · have e : s10.heap.get? L' = some o := e
                    rw [hL'] at e
                    cases e
                    exact wL.1
                  · rcases wk.bareG i y hy with z | z | z
                    · exact .inl z
                    · cases z
                    · exact .inr z
    exact loop kvs.length 0 none none none _ _ _ (Nat.zero_add _) List.mem_cons_self x3 (fun b hb => (hfp b hb).2) st3 (e3 _ _ hd0) ch3
/-- THE GENERATOR: what it hands out, from its beginning -/
theorem seg_contents (cf : CF K mg f cdv) {u : Int} {kvs : List (Int × Int)} {d : Addr} (hkv : ∀ p ∈ kvs, 2 ≤ p.1) : ∀ (n : Nat) (A : Around) (stack : List Env) (lo L : Addr) (ahead : List Int) (va : V) (s2 : Shared) (H2 : Hp) (oL : Obj),
    Room (3 * n + 5) A → lo ≤ L → (∀ b ∈ frs stack, b < L) → base.objs.size ≤ L → u < ahead.sum + 2 * n → ahead.length + n ≤ 1000 → Env0 prog w K mg base A stack (bare0 s2) H2 → FrmAt (gfC f cdv L) s2.heap (L2.start Ncont [.int u, .ref d, va]) → H2 L = none → s2.heap.get? L = some oL →
    (∀ (i : Nat) (y : GenState), s2.gens[i]? = some y → y.bare = true ∨ isSusp y = true) → CH K kvs d ahead va H2 →
    SegL ⟨prog, w, K, mg, base, A, stack, lo⟩ (contF n u kvs ahead) (.func (defBody sContents) (gfC f cdv L).env) ((model prog w).den (.func (defBody sContents) (gfC f cdv L).env)) [] s2 ⟨s2, H2, ⟨[(L, oL)], []⟩⟩ := by
  intro n
  induction n with
  | zero =>
    intro A stack lo L ahead va s2 H2 oL h1 h2 h3 h4 h5 h6 h7 h8 h9 h10 h11 h12
    exact seg_step cf 0 A stack lo L u kvs ahead d va s2 H2 oL (fun m hm => by cases hm) h1 h2 h3 h4 hkv h5 h6 h7 h8 h9 h10 h11 h12
  | succ n ih =>
    intro A stack lo L ahead va s2 H2 oL h1 h2 h3 h4 h5 h6 h7 h8 h9 h10 h11 h12
    refine seg_step cf (n + 1) A stack lo L u kvs ahead d va s2 H2 oL (fun m hm => ?_) h1 h2 h3 h4 hkv h5 h6 h7 h8 h9 h10 h11 h12
    obtain rfl : n = m := Nat.succ.inj hm
    exact ih
end
end GX
end SGCont
section SGO
set_option linter.all false
set_option maxRecDepth 100000
set_option maxHeartbeats 1000000
/-! expressions, statements, defs on the machine (for the defs that walk the generator and their callers) -/
namespace GX
open PySem PySem.Spec PyProof.Rows L2 GStub Evl

structure PEO (X : Cx) (e : Expr) (t : TE) : Prop where
  run : ∀ (pins : List (Addr × Obj)) (s : Shared) (σ : L2.St) (H : Hp) (Q : VK), Inv X pins σ H s → t σ H Q → RX (model X.prog X.w) X.A (eval e X.env) (EP X pins σ Q) X.xe s
structure PTO (X : Cx) (e : Expr) (t : TT) : Prop where
  run : ∀ (pins : List (Addr × Obj)) (s : Shared) (σ : L2.St) (H : Hp) (Q : Bool → Hp → Prop), Inv X pins σ H s → t σ H Q → RX (model X.prog X.w) X.A (isTrue e X.env (eval e X.env)) (TP X pins σ Q) X.xe s
structure PAO (X : Cx) (es : List Expr) (t : TA) : Prop where
  run : ∀ (pos : Pos) (pins : List (Addr × Obj)) (s : Shared) (σ : L2.St) (H : Hp) (Q : List V → Hp → Prop), Inv X pins σ H s → t σ H Q → RX (model X.prog X.w) X.A (spliced (backTo pos (starEach es X.env))) (AP X pins σ Q) X.xe s
structure PSO (X : Cx) (st : Stmt) (t : TS) : Prop where
  run : ∀ (pins : List (Addr × Obj)) (s : Shared) (σ : L2.St) (H : Hp) (D : Ends), Inv X pins σ H s → t D σ H → RX (model X.prog X.w) X.A (exec st X.env) (SP X pins D) X.xe s
structure PSsO (X : Cx) (st : List Stmt) (t : TS) : Prop where
  run : ∀ (pins : List (Addr × Obj)) (s : Shared) (σ : L2.St) (H : Hp) (D : Ends), Inv X pins σ H s → t D σ H → RX (model X.prog X.w) X.A (execs st X.env) (SP X pins D) X.xe s
section
variable {X : Cx} {e a b : Expr} {es : List Expr} {ta tb te : TE} {t u : TS} {tA : TA} {tt : TT} {st : Stmt} {rest : List Stmt} {pos p : Pos}
theorem PEO.of (h : PE X e te) : PEO X e te := ⟨fun pins s σ H Q I q => RX.of (h.run pins s σ H Q I q)⟩
theorem PTO.of (h : PT X e tt) : PTO X e tt := ⟨fun pins s σ H Q I q => RX.of (h.run pins s σ H Q I q)⟩
theorem PAO.of (h : PA X es tA) : PAO X es tA := ⟨fun pos pins s σ H Q I q => RX.of (h.run pos pins s σ H Q I q)⟩
theorem PSO.of (h : PS X st t) : PSO X st t := ⟨fun pins s σ H D I q => RX.of (h.run pins s σ H D I q)⟩
theorem PSsO.of (h : PSs X rest t) : PSsO X rest t := ⟨fun pins s σ H D I q => RX.of (h.run pins s σ H D I q)⟩
theorem wpAny_operate {M : Model} {A : Around} {E : Value → Shared → Prop} {s : Shared} {vs : List Value} {m : Sem Value} {Q : Value → Shared → Prop} (h : wpAny M A m Q E s) : wpAny M A (operate vs m) Q E s := fun Γ p hΓ => by
  simp only [Sem.wp_operate]
  exact h Γ p hΓ
section
variable {M : Model} {A : Around} {E : Value → Shared → Prop} {s : Shared}
theorem rthn {α : Type} {m : Sem α} {Q Q' : α → Shared → Prop} (h : RX M A m Q E s) (k : ∀ a s', Q a s' → Q' a s') : RX M A m Q' E s := h.mono k fun _ _ x => x
/-- then leaf steps -/
theorem rx_then {α β : Type} {m : Sem α} {f : α → Sem β} {Q : α → Shared → Prop} {Q' : β → Shared → Prop} (h : RX M A m Q E s) (k : ∀ a s', Q a s' → RX M A (f a) Q' E s') : RX M A (m >>= f) Q' E s := RX.bind (rthn h k)
end
/-- a op b -/
theorem opO {op : Operator} {r : R2} (ho : OpR X (binaryOp op) r) (ha : PEO X a ta) (hb : PEO X b tb) : PEO X (.BinOp a op b pos) (tOp r ta tb) := by
  refine ⟨fun pins s σ H Q I h => ?_⟩
  rw [eval_BinOp]
  refine rx_then (ha.run pins s σ H _ I h) fun v s1 ⟨x, H1, I1, r1, q1⟩ => ?_
  refine rx_then (RX.holding (hb.run pins s1 σ H1 _ I1 q1)) fun w s2 ⟨y, H2, I2, r2, q2⟩ => ?_
  exact RX.of (wpAny_bind (wpAny_standAt (wpAny_operate (ho pins s2 σ H2 x y v w Q I2 r1 r2 q2))))
theorem cmpO {op : CmpOp} {r : R2} (ho : OpR X (compareOp op) r) (ha : PEO X a ta) (hb : PEO X b tb) (hm : behindInMarks op b = false) : PEO X (.Compare a [op] [b] pos) (tOp r ta tb) := by
  refine ⟨fun pins s σ H Q I h => ?_⟩
  rw [eval_Compare1, markedBehindIn_of_false hm]
  refine rx_then (ha.run pins s σ H _ I h) fun v s1 ⟨x, H1, I1, r1, q1⟩ => ?_
  refine rx_then (RX.holding (hb.run pins s1 σ H1 _ I1 q1)) fun w s2 ⟨y, H2, I2, r2, q2⟩ => ?_
  exact RX.of (wpAny_bind (wpAny_standAt (wpAny_operate (ho pins s2 σ H2 x y v w Q I2 r1 r2 q2))))
theorem tcmpO {op : CmpOp} {r : R2} (ho : OpR X (compareOp op) r) (ha : PEO X a ta) (hb : PEO X b tb) (hm : behindInMarks op b = false) : PTO X (.Compare a [op] [b] pos) (tTest (tOp r ta tb)) := by
  refine ⟨fun pins s σ H Q I h => ?_⟩
  rw [isTrue_Compare1, markedBehindIn_of_false hm]
  refine rx_then (ha.run pins s σ H _ I h) fun v s1 ⟨x, H1, I1, r1, q1⟩ => ?_
  refine rx_then (RX.holding (hb.run pins s1 σ H1 _ I1 q1)) fun w s2 ⟨y, H2, I2, r2, q2⟩ => ?_
  refine RX.of (wpAny_bind (wpAny_standAt (wpAny_bind (wpAny_operate (thn (ho pins s2 σ H2 x y v w _ I2 r1 r2 q2) fun c s3 ⟨z, H3, I3, r3, k, e, q3⟩ => ?_)))))
  subst e
  cases r3
  exact wpAny_holding (wpAny_truthy_bool ⟨H3, I3, q3⟩)
theorem tvalO (h : PEO X e te) (he : ∀ whole, isTrue e X.env whole = (do let v ← whole; standAt e.pos; holding [v] (truthy v)) := by intro _; rfl) : PTO X e (tB te) := by
  refine ⟨fun pins s σ H Q I hw => ?_⟩
  rw [he]
  refine rx_then (h.run pins s σ H _ I hw) fun v s1 ⟨x, H1, I1, r1, q1⟩ => ?_
  obtain ⟨d, rfl, q⟩ := q1
  cases r1
  exact RX.of (wpAny_bind (wpAny_standAt (wpAny_holding (wpAny_truthy_bool ⟨H1, I1, q⟩))))
theorem tnotO (h : PTO X a tt) : PTO X (.UnaryOp .Not a pos) (tNot tt) := by
  refine ⟨fun pins s σ H Q I hw => ?_⟩
  show RX _ _ (do return !(← isTrue a X.env (eval a X.env))) _ _ s
  exact rx_then (h.run pins s σ H (fun c H1 => Q (!c) H1) I hw) fun c s1 q => RX.pure q
/-- arguments -/
theorem anilO : PAO X [] tNil := .of pa_nil
theorem aconsO (ha : PEO X e te) (hr : PAO X es tA) (hs : starEach (e :: es) X.env = (false, eval e X.env) :: starEach es X.env := by rfl) : PAO X (e :: es) (tCons te tA) := by
  refine ⟨fun pos pins s σ H Q I h => ?_⟩
  rw [hs]
  show RX _ _ (spliced ((false, eval e X.env) :: backTo pos (starEach es X.env))) _ _ s
  rw [spliced]
  refine rx_then (ha.run pins s σ H _ I h) fun v s1 ⟨x, H1, I1, r1, q1⟩ => ?_
  simp only [Bool.false_eq_true, if_false]
  refine RX.bind (RX.pure (RX.bind (RX.holding (rthn (hr.run pos pins s1 σ H1 _ I1 q1) fun us s2 ⟨xs, H2, I2, r2, q2⟩ => RX.pure ⟨x :: xs, H2, I2, .cons r1 r2, q2⟩))))
/-- what is called: a callable that the frame keeps -/
theorem rx_callWith {M : Model} {A : Around} {E : Value → Shared → Prop} {s : Shared} {K : PySem.W.Frag} {env : Env} {pos : Pos} {f : Value} {e : Expr} {rest : List Expr} {Q : Value → Shared → Prop} (hk : PySem.W.keepIn K f = true)
    (h : RX M A (spliced (backTo pos (starEach (e :: rest) env))) (fun vs s₁ => K.In s₁.heap ∧ RX M A (call f vs) Q E s₁) E s)
    (he : starEach (e :: rest) env = (false, eval e env) :: starEach rest env := by rfl) (hplain : (backTo pos (starEach rest env)).any (·.1) = false := by rfl) :
    RX M A (callWith pos f [] (backTo pos (starEach (e :: rest) env)) []) Q E s := by
  rw [he] at h ⊢
  have hp : (((false, eval e env) :: backTo pos (starEach rest env)).any (·.1) || ([] : List (Option Str × Sem Value)).any (·.1.isNone)) = false := by
    show ((false || (backTo pos (starEach rest env)).any (·.1)) || false) = false
    rw [hplain]
    rfl
  show RX M A (callWith pos f [] ((false, eval e env) :: backTo pos (starEach rest env)) []) Q E s
  unfold callWith
  refine RX.bind (RX.holding ?_)
  unfold evalArgs
  show RX M A (spliced ((false, eval e env) :: backTo pos (starEach rest env)) >>= _) _ _ s
  refine rx_then h fun vs s1 ⟨X1, h1⟩ => ?_
  refine RX.holding (RX.bind (RX.pure (RX.bind (RX.pure (RX.pure ?_)))))
  refine RX.bind (RX.of (wpAny_standAt ?_))
  obtain ⟨k, hk', L⟩ := PySem.W.keeps_K (M := M) hk _ X1
  simp only [hp]
  refine RX.bind (RX.of (L.here ?_))
  have tail : ∀ {t : Sem Value}, RX M A t Q E s1 → RX M A (t >>= fun r => holding [r] point >>= fun _ => pure r) Q E s1 := fun ht => rx_then ht fun r s2 hr => RX.of (wpAny_bind (wpAny_holding (wpAny_point (wpAny_pure hr))))
  have marked (mk : Value) : RX M A (callMarked mk f vs []) Q E s1 := by
    unfold callMarked
    exact RX.keep h1
  rcases hk' with rfl | rfl | rfl <;> dsimp only <;> first | exact tail h1 | (split <;> first | exact tail h1 | exact tail (marked _))
/-! ### defs -/
structure FnX (P : Program) (w : World) (K : PySem.W.Frag) (mg : Str → Option Value) (base : Heap) (k : Nat) (f : Addr) (fd : FuncData) (ps : List Str) (sp : Sp) : Prop where
  len : ∀ vs H Q E, sp vs H Q E → vs.length = ps.length
  run : ∀ (A : Around) (outer : List Env) (s : Shared) (H : Hp) (args : Args) (us : List Value) (vs : List V) (Q : VK) (E : XK), Room k A → Env0 P w K mg base A outer s H → BindsTo s fd args (ps.zip us) → Vals vs us → sp vs H Q E →
    CXM (model P w) A (.call (.ref f) args) (CR CX0 outer P w H s Q E) s
theorem FnX.of {P : Program} {w : World} {K : PySem.W.Frag} {mg : Str → Option Value} {base : Heap} {k : Nat} {f : Addr} {fd : FuncData} {ps : List Str} {sp : Sp} (F : FnOk P w K mg base CX0 k f fd ps sp) : FnX P w K mg base k f fd ps sp :=
  ⟨F.len, fun A outer s H args us vs Q E hr e0 hb r h => CXM.of (F.run A outer s H args us vs Q E hr e0 hb r h)⟩
theorem FnX.mono {P : Program} {w : World} {K : PySem.W.Frag} {mg : Str → Option Value} {base : Heap} {j k : Nat} {f : Addr} {fd : FuncData} {ps : List Str} {sp : Sp} (F : FnX P w K mg base j f fd ps sp) (h : j ≤ k) : FnX P w K mg base k f fd ps sp :=
  ⟨F.len, fun A outer s H args us vs Q E hr => F.run A outer s H args us vs Q E (hr.mono h)⟩
variable {k : Nat} {f : Addr} {fd : FuncData} {ps : List Str} {sp : Sp} {dvs : List V} {ds : List Value} {E : XK} {x : Str}
theorem rx_fn {pins : List (Addr × Obj)} {σ : L2.St} {H : Hp} {s : Shared} {Q : VK} {us : List Value} {vs : List V} (F : FnX X.prog X.w X.K X.mg X.base k f fd ps sp) (hr : Room k X.A) (hb : Binds X.K fd ps ds) (hd : Vals dvs ds)
    (I : Inv X pins σ H s) (r : Vals vs us) (h : sp (vs ++ dvs) H Q E) : RX (model X.prog X.w) X.A (call (.ref f) us) (EP X pins σ Q) X.xe s := by
  have r2 : Vals (vs ++ dvs) (us ++ ds) := r.append hd
  have hl : (us ++ ds).length = ps.length := by
    rw [← r2.length]
    exact F.len _ _ _ _ h
  refine RX.runValue ((F.run X.A X.stack s H ⟨us, []⟩ (us ++ ds) (vs ++ dvs) Q E hr I.env0 (hb s us I.kIn hl) r2 h).mono fun q s' hq => ?_)
  cases q with
  | error e => exact False.elim hq
  | ok fl =>
    cases fl with
    | ret u => exact I.after hq
    | next => exact False.elim hq
    | brk => exact False.elim hq
    | cont => exact False.elim hq
theorem callO (F : FnX X.prog X.w X.K X.mg X.base k f fd ps sp) (hr : Room k X.A) (hg : Gl X x) (hm : X.mg x = some (.ref f)) (hk : PySem.W.keepIn X.K (.ref f) = true) (hb : Binds X.K fd ps ds) (hd : Vals dvs ds) (ha : PAO X (e :: es) tA)
    (hdb : (x == ("__debug__" : Str)) = false := by decide) (he : starEach (e :: es) X.env = (false, eval e X.env) :: starEach es X.env := by rfl) (hpl : (backTo pos (starEach es X.env)).any (·.1) = false := by rfl) :
    PEO X (.Call (.Name x p) (e :: es) [] pos) (tCall sp dvs E tA) := by
  refine ⟨fun pins s σ H Q I h => ?_⟩
  rw [arm_eval_Call_Name']
  refine RX.bind (RX.of (ld_glob I hg hm ?_ hdb))
  exact rx_callWith hk (rthn (ha.run pos pins s σ H _ I h) fun us s1 ⟨vs, H1, I1, r, q⟩ => ⟨I1.kIn, rx_fn F hr hb hd I1 r q⟩) he hpl
end
end GX
end SGO
section SGO2
set_option linter.all false
set_option maxRecDepth 100000
set_option maxHeartbeats 1000000
/-! statements, loops, defs on the machine -/
namespace GX
open PySem PySem.Spec PyProof.Rows L2 GStub Evl

section
variable {X : Cx} {e a b : Expr} {es : List Expr} {ta tb te : TE} {t u : TS} {tA : TA} {tt : TT} {st : Stmt} {rest : List Stmt} {pos p : Pos}
theorem callBO {x : Str} {id : String} {r : List V → Hp → VK → Prop} (hc : CallR X (.builtin id) r) (hg : Gl X x) (hm : X.mg x = none) (hv : bootBuiltins x = some (.builtin id)) (ha : PAO X (e :: es) tA) (hn : x ≠ "__name__" := by decide) (hdb : (x == ("__debug__" : Str)) = false := by decide)
    (he : starEach (e :: es) X.env = (false, eval e X.env) :: starEach es X.env := by rfl) (hpl : (backTo pos (starEach es X.env)).any (·.1) = false := by rfl) : PEO X (.Call (.Name x p) (e :: es) [] pos) (tCB r tA) := by
  refine ⟨fun pins s σ H Q I h => ?_⟩
  rw [arm_eval_Call_Name']
  refine RX.bind (RX.of (ld_blt I hg hm hv ?_ hn hdb))
  have hA := ha.run pos pins s σ H _ I h
  have hp : (((false, eval e X.env) :: backTo pos (starEach es X.env)).any (·.1) || ([] : List (Option Str × Sem Value)).any (·.1.isNone)) = false := by
    show ((false || (backTo pos (starEach es X.env)).any (·.1)) || false) = false
    rw [hpl]
    rfl
  rw [he] at hA ⊢
  show RX _ _ (callWith pos (.builtin id) [] ((false, eval e X.env) :: backTo pos (starEach es X.env)) []) _ _ s
  unfold callWith
  refine RX.bind (RX.holding ?_)
  unfold evalArgs
  show RX _ _ (spliced ((false, eval e X.env) :: backTo pos (starEach es X.env)) >>= _) _ _ s
  refine rx_then hA fun us s1 ⟨vs, H1, I1, r1, q1⟩ => ?_
  refine RX.holding (RX.bind (RX.pure (RX.bind (RX.pure (RX.pure ?_)))))
  simp only [hp]
  refine RX.of (wpAny_bind (wpAny_standAt (wpAny_bind (m := keeperOf (.builtin id)) (wpAny_pure ?_))))
  exact wpAny_bind (thn (hc pins s1 σ H1 vs us Q I1 r1 q1) fun r s2 hr => wpAny_bind (wpAny_holding (wpAny_point (wpAny_pure hr))))
/-! ### statements -/
theorem setO {i : Nat} {x : Str} {pos' : Pos} (hN : X.N.Nodup) (hi : X.N[i]? = some x) (hx : Loc X.env.scope x) (he : PEO X e te) (hs : swapsWith e (some (.Name x pos')) pos.line X.env = pure false := by rfl) (hf : X.fn x = true ∨ X.env.scope.names.lookup x = some .local := by first | exact .inl rfl | exact .inr rfl | assumption) :
    PSO X (.Assign [.Name x pos'] e pos) (tAsg te (gName i)) := by
  refine ⟨fun pins s σ H D I h => ?_⟩
  rw [exec_Assign_Name _ x pos' e pos hs]
  refine RX.bind (RX.of (wpAny_standAt ?_))
  refine rx_then (he.run pins s σ H _ I h) fun v s1 ⟨y, H1, I1, r1, q1⟩ => ?_
  exact RX.of (wpAny_bind (wpAny_standAt (wpAny_bind (wpAny_bindName (store_ok I1 hN hi hx r1 (fun s2 I2 => wpAny_pure (show SP X pins D .next s2 from ⟨_, H1, I2, q1⟩)) hf)))))
theorem retO (he : PEO X e te) : PSO X (.Return (some e) pos) (tRet te) := by
  refine ⟨fun pins s σ H D I h => ?_⟩
  rw [exec_Return_some]
  refine RX.bind (RX.of (wpAny_standAt ?_))
  exact rx_then (he.run pins s σ H _ I h) fun v s1 ⟨x, H1, I1, r1, q1⟩ => RX.pure ⟨x, σ, H1, I1, r1, q1⟩
theorem ifO {c : Expr} {A B : List Stmt} (hc : PTO X c tt) (ha : PSsO X A t) (hb : PSsO X B u) : PSO X (.If c A B pos) (tIfS tt t u) := by
  refine ⟨fun pins s σ H D I h => ?_⟩
  rw [exec_If]
  refine RX.bind (RX.of (wpAny_standAt ?_))
  refine rx_then (hc.run pins s σ H _ I h) fun d s1 ⟨H1, I1, q1⟩ => ?_
  cases d with
  | true => exact ha.run pins s1 σ H1 D I1 q1
  | false => exact hb.run pins s1 σ H1 D I1 q1
theorem snilO : PSsO X [] tNext := .of pss_nil
theorem sconsO (h1 : PSO X st t) (h2 : PSsO X rest u) : PSsO X (st :: rest) (tSeq t u) := by
  refine ⟨fun pins s σ H D I h => ?_⟩
  rw [execs_cons]
  refine rx_then (h1.run pins s σ H { D with nx := u D } I h) fun f s1 q => ?_
  cases f with
  | next =>
    obtain ⟨σ', H', I', q⟩ := q
    exact h2.run pins s1 σ' H' D I' q
  | ret v => exact RX.pure q
  | brk => exact RX.pure q
  | cont => exact RX.pure q
/-- what is wanted, as it is -/
def tSX (X : Cx) (st : List Stmt) : TS := fun D σ H => ∀ pins s, Inv X pins σ H s → RX (model X.prog X.w) X.A (execs st X.env) (SP X pins D) X.xe s
theorem soO : PSsO X rest (tSX X rest) := ⟨fun pins s σ H D I h => h pins s I⟩
end

/-! ### for -/
section
variable {M : Model} {A : Around} {R : Result → Shared → Prop}
theorem cxm_loop {c : Code} (hq : c.quiet = true) (I : Nat → Shared → Prop) (turn : ∀ n s, I n s → RX M (A.under c) (M.den c) (fun fin s' => match fin with
        | .done f => R (.ok f) s'
        | .again c' => (c' = c ∧ ∃ m, m < n ∧ I m s') ∨ (c'.quiet = true ∧ CXM M A c' R s')) (fun e s' => R (.error e) s') s) : ∀ (n : Nat) (s : Shared), I n s → CXM M A c R s := by
  intro n
  induction n using Nat.strongRecOn with
  | ind n ih =>
    intro s h
    refine CXM.tree ((turn n s h).mono (fun fin s' hf => ?_) fun _ _ z => z)
    cases fin with
    | done f => exact hf
    | again c' =>
      rcases hf with ⟨rfl, m, hm, hI⟩ | hf
      · exact ⟨hq, ih m hm s' hI⟩
      · exact hf
end
section
variable {X : Cx}
/-- a loop's turn: the first half a leaf, the body on the machine; no exception -/
theorem cxm_for {P : Program} {w : World} {A : Around} {R : Result → Shared → Prop} {target : Expr} {it : Value} {body : List Stmt} {env : Env} (I : Nat → Shared → Prop)
    (turn : ∀ n s, I n s → RX (model P w) A (forPre target it env) (fun b s1 => if b = true then RX (model P w) A (execs body env) (fun f s3 => match f with
        | .next | .cont => ∃ m, m < n ∧ I m s3
        | .brk => R (.ok .next) s3
        | .ret v => R (.ok (.ret v)) s3) (fun _ _ => False) s1 else R (.ok .next) s1) (fun _ _ => False) s) (n : Nat) (s : Shared) (h : I n s) : CXM (model P w) A (.forLoop target it body [] env) R s := by
  refine cxm_loop rfl I (fun n s hI => ?_) n s h
  show RX _ A ((forTurn target it body [] env).onRaise (fun x => do noteFrame x env; theTreesLotGoes x)) _ _ s
  refine RX.onRaise ?_
  rw [forTurn_split]
  refine RX.bind (RX.of (wpAny_standAt ?_))
  refine (RX.bind ((turn n s hI).mono (fun b s1 hb => ?_) fun _ _ z => z.elim) : RX _ A (forPre target it env >>= forPost target it body [] env) _ _ s)
  cases b with
  | true =>
    rw [if_pos rfl] at hb
    unfold forPost
    rw [if_pos rfl]
    refine RX.bind (hb.mono (fun f s3 hf => ?_) fun _ _ z => z.elim)
    cases f with
    | next => exact RX.pure (.inl ⟨rfl, hf⟩)
    | cont => exact RX.pure (.inl ⟨rfl, hf⟩)
    | brk => exact RX.pure hf
    | ret v => exact RX.pure hf
  | false =>
    rw [if_neg Bool.false_ne_true] at hb
    unfold forPost
    rw [if_neg Bool.false_ne_true]
    refine RX.pure (.inr ⟨rfl, CXM.tree ?_⟩)
    exact RX.pure (a := PySem.Fin.done .next) hb
/-- for over what a rule of the layer walks, the body on the machine -/
theorem forO {tg iter : Expr} {body : List Stmt} {wi : TI} {g : TG} {tb : TS} {pos : Pos} (hxe : X.xe = fun _ _ => False) (hc : X.calm = true) (hi : PI X tg iter wi) (hg : PG X tg g) (hb : PSsO X body tb) (hs : ∀ x, foldedSetIterable iter X.env x = pure x := by intro _; rfl) : PSO X (.For tg iter body [] pos) (tFor wi g tb) := by
  refine ⟨fun pins s σ H D I h => ?_⟩
  rw [for_split, hxe]
  refine RX.bind (RX.of (wpAny_standAt ?_))
  refine RX.bind (Q := SP X pins D) ?_
  have hi' := hi.run pins s σ H _ I h
  rw [hxe] at hi'
  refine RX.of (wpAny_bind (thn hi' fun v s1 h1 => wpAny_bind (wpAny_of_eq (hs v) (wpAny_bind (wpAny_standAt (wpAny_holding (thn h1 fun itv s2 h2 => ?_)))))))
  obtain ⟨it, fp, tn, J, H2, e, I2, T, st2, f2, W, ⟨m0, w0⟩, turn⟩ := h2
  subst e
  have stat : ∀ {H' : Hp}, (∀ b ∈ fp, H' b = none) → ∀ b ∈ fp, FpOk X pins H' b := fun hn b hb => ⟨hn b hb, (f2 b hb).2⟩
  unfold runOwn
  refine RX.onRaise (RX.run ((cxm_for (fun n s' => ∃ i σ' H', Inv X pins σ' H' s' ∧ tn i s'.heap ∧ (∀ b ∈ fp, H' b = none) ∧ W i n σ' H') (R := fun r s' => match r with | .ok f => SP X pins D f s' | .error e => False) ?_ m0 s2 ⟨0, σ, H2, I2, st2, fun b hb => (f2 b hb).1, w0⟩).mono fun r s' hr => ?_))
  · rintro n s3 ⟨i, σ3, H3, I3, st3, fr3, w3⟩
    rcases turn i n σ3 H3 w3 with ⟨stop, qn⟩ | ⟨go, N, hN, step⟩
    · refine RX.of ?_
      unfold forPre
      refine wpAny_bind (wpAny_onRaise (wpAny_mono (T.done X rfl rfl rfl hc i pins s3 σ3 H3 (fun _ _ => False) I3 (stat fr3) st3 stop) (fun r s4 ⟨hr, I4⟩ => ?_) fun _ _ z => z.elim))
      subst hr
      refine wpAny_pure ?_
      rw [if_neg Bool.false_ne_true]
      exact ⟨σ3, H3, I4, qn⟩
    · refine RX.of ?_
      unfold forPre
      refine wpAny_bind (wpAny_onRaise (wpAny_mono (T.item X rfl rfl rfl hc i pins s3 σ3 H3 (fun _ _ => False) I3 (stat fr3) st3 go) (fun r s4 ⟨u, hr, h4⟩ => ?_) fun _ _ z => z.elim))
      subst hr
      refine wpAny_bind (thn h4 fun _ s5 ⟨x, H5, I5, r5, y5, st5, fr5⟩ => ?_)
      have I5' := I5.pinned (stat fr5) (T.obj _ _ st5)
      have hg' := hg.run _ s5 σ3 H5 x u _ I5' r5 (step x H5 y5)
      rw [hxe] at hg'
      refine wpAny_bind (thn hg' fun _ s6 ⟨σ6, H6, I6, q6⟩ => ?_)
      refine wpAny_pure ?_
      rw [if_pos rfl]
      have hb' := hb.run _ s6 σ6 H6 _ I6 q6
      rw [hxe] at hb'
      refine rthn hb' fun f s7 q7 => ?_
      have again : ∀ {σ7 : L2.St} {H7 : Hp}, Inv X (pins ++ pinsAt fp s5.heap) σ7 H7 s7 → N σ7 H7 → ∃ m, m < n ∧ ∃ i σ' H', Inv X pins σ' H' s7 ∧ tn i s7.heap ∧ (∀ b ∈ fp, H' b = none) ∧ W i m σ' H' := fun {σ7 H7} I7 n7 => by
        obtain ⟨m', hm, w7⟩ := hN σ7 H7 n7
        refine ⟨m', hm, i + 1, σ7, H7, I7.unpinned, T.keep _ _ _ st5 fun b hb o e => (I7.pin (b, o) (List.mem_append_right _ (List.mem_append_right _ (mem_pinsAt hb e)))).1, fun b hb => ?_, w7⟩
        obtain ⟨o, e, d⟩ := T.obj _ _ st5 b hb
        exact (I7.pin (b, o) (List.mem_append_right _ (List.mem_append_right _ (mem_pinsAt hb e)))).2.1
      cases f with
      | next => obtain ⟨σ7, H7, I7, n7⟩ := q7; exact again I7 n7
      | cont => obtain ⟨σ7, H7, I7, n7⟩ := q7; exact again I7 n7
      | brk => obtain ⟨σ7, H7, I7, q7⟩ := q7; exact ⟨σ7, H7, I7.unpinned, q7⟩
      | ret v => obtain ⟨x7, σ7, H7, I7, r7, q7⟩ := q7; exact ⟨x7, σ7, H7, I7.unpinned, r7, q7⟩
  · cases r with
    | ok f => exact hr
    | error e => exact hr.elim
end

/-! ### defs -/
section
variable {P : Program} {w : World} {K : PySem.W.Frag} {mg : Str → Option Value} {base : Heap} {k : Nat} {f : Addr} {name qual : Str} {params : Arguments} {body : List Stmt} {scope : Scope} {dV kV doc pm cdv ct oc : Value} {an od : Option Addr} {osl : Array (Option Value)} {N ps : List Str} {sp : Sp}
theorem cxm_call {A : Around} {R : Result → Shared → Prop} {s : Shared} {a : Addr} {args : Args} {o : Obj} {fd : FuncData} {body : List Stmt} (hroom : A.depth < recursionLimit) (ho : s.heap.get? a = some o) (hd' : o.data = .func fd) (hco : fd.scope.isCoroutine = false) (hgen : fd.scope.isGenerator = false) (hbody : fd.body = .stmts body)
    (hcd : s.heap.CodeRec fd.code fd.qualname)
    (h : wpAny (model P w) A.in1 (bindArgs fd args) (fun binds s₁ => wpAny (model P w) A.in1 (newFunctionEnv fd.scope fd.globals fd.closure binds (fd.qualname ++ ".<locals>.") (some a) fd.code none fd.builtins)
        (fun env s₂ => s₂.heap.NoLimit ∧ CXM (model P w) A (.func body env) R s₂) (fun e s' => R (.error e) s') s₁) (fun e s' => R (.error e) s') s) : CXM (model P w) A (.call (.ref a) args) R s := by
  refine CXM.tree (RX.of ?_)
  show wpAny _ A.in1 (callAny (.ref a) args) _ _ s
  simp only [callAny]
  refine wpAny_bind (wpAny_load ho ?_)
  obtain ⟨c, oc, vs, tq, hc, hoc, hdc, hq⟩ := hcd
  simp only [hd', callFunction, hco, hgen, hbody, hc]
  rw [hc] at h
  refine wpAny_bind (m := field (.ref c) 1) (wpAny_field hoc hdc hq (wpAny_bind (wpAny_pure ?_)))
  exact wpAny_bind (wpAny_mono h (fun binds s₁ h₁ => wpAny_bind (wpAny_mono h₁ (fun env s₂ h₂ => wpAny_bind (wpAny_enterFrame h₂.1 hroom (wpAny_pure (And.intro rfl h₂.2)))) fun _ _ h' => h')) fun _ _ h' => h')
/-- a def by its body, on the machine; nothing is raised -/
theorem fnX_of (lk : K.lookup f = some ⟨oc, od, .func (PySem.W.fnOf name qual params body scope dV kV doc pm an cdv ct), osl⟩) (hcd : PySem.W.codeIn K cdv qual = true) (S : FnScope N ps scope) (len : ∀ vs H Q E, sp vs H Q E → vs.length = ps.length)
    (hbody : ∀ (A : Around) (outer : List Env) (s : Shared) (H : Hp) (vs : List V) (Q : VK) (E : XK), Room k (A.deeper (envOfC qual scope s.heap.objs.size f cdv)) → sp vs H Q E →
      ∃ t, PSsO (cxOf CX0 P w K mg base N qual scope f cdv A outer s H E).nox body t ∧ t { nx := fun _ H' => Q .non H', rt := Q } (L2.start N vs) H) : FnX P w K mg base (k + 1) f (PySem.W.fnOf name qual params body scope dV kV doc pm an cdv ct) ps sp := by
  refine ⟨len, fun A outer s H args us vs Q E hr e0 hb r hsp => ?_⟩
  have hl := len _ _ _ _ hsp
  have KX : K.In s.heap := e0.mod.kin.keeps fun b o e => (e0.bs b o e).1
  have lim : s.heap.NoLimit := e0.mod.nolimit.keeps fun b o e => (e0.bs b o e).1
  have hkind : ∀ y ∈ ps.zip us, scope.names.lookup y.1 = some .local ∨ (scope.names.lookup y.1 = some .cell ∧ ((cellsFrom (s.heap.objs.size + 1) scope.names []).lookup y.1).isSome = true) := fun ⟨n, v⟩ hy => by
    rcases S.par n (List.of_mem_zip hy).1 with q | q
    · exact .inl q
    · exact .inr ⟨q, PySem.W.cellsFrom_some _ _ _ (.inl q)⟩
  refine cxm_call hr.depth (KX _ _ lk) rfl S.co S.gen rfl (PySem.W.codeRec_of KX hcd) (hb _ _ _ _ ?_)
  refine wpAny_newFunctionEnv_cells S.kind hkind fun env he s1 x => ?_
  subst he
  refine ⟨lim.keeps x.toInCall.keep, CXM.tree ?_⟩
  obtain ⟨t, ht, hq⟩ := hbody A outer s H vs Q E (hr.deeper _) hsp
  have I : Inv (cxOf CX0 P w K mg base N qual scope f cdv A outer s H E) [] (L2.start N vs) H s1 := inv_start S hr.hd e0 hl r x
  show RX _ (A.deeper (envOfC qual scope s.heap.objs.size f cdv)) (do point; match ← (execs body (envOfC qual scope s.heap.objs.size f cdv)).onRaise (leaving (envOfC qual scope s.heap.objs.size f cdv)) with | .ret v => ret v | _ => ret .none) _ _ s1
  refine RX.bind (RX.of (wpAny_point ?_))
  refine RX.bind (RX.onRaise ((ht.run [] s1 (L2.start N vs) H _ (I.wish _) hq).mono (fun fl s' hs => ?_) fun e s' z => False.elim z))
  have fin : ∀ {σ' : L2.St} {H' : Hp} {v : V} {u : Value}, Inv (cxOf CX0 P w K mg base N qual scope f cdv A outer s H E).nox [] σ' H' s' → RelV v u → Q v H' → CE outer P w H s Q u s' :=
    fun {σ' H' v u} J rv q => ⟨v, H', J.os, J.bare, J.base, J.hok, rv, q⟩
  cases fl with
  | ret u =>
    obtain ⟨v, σ', H', J, rv, q⟩ := hs
    exact RX.pure (fin J rv q)
  | next =>
    obtain ⟨σ', H', J, q⟩ := hs
    exact RX.pure (fin (v := V.non) (u := Value.none) J rfl q)
  | brk =>
    obtain ⟨_, _, _, q⟩ := hs
    exact False.elim q
  | cont =>
    obtain ⟨_, _, _, q⟩ := hs
    exact False.elim q
theorem fun_okX {x qual : Str} {st : Stmt} {fd : FuncData} (F : Fun K x qual st f fd) (S : FnScope N ps (defScope st)) (len : ∀ vs H Q E, sp vs H Q E → vs.length = ps.length)
    (hbody : ∀ (cdv : Value) (A : Around) (outer : List Env) (s : Shared) (H : Hp) (vs : List V) (Q : VK) (E : XK), Room k (A.deeper (envOfC qual (defScope st) s.heap.objs.size f cdv)) → sp vs H Q E →
      ∃ t, PSsO (cxOf CX0 P w K mg base N qual (defScope st) f cdv A outer s H E).nox (defBody st) t ∧ t { nx := fun _ H' => Q .non H', rt := Q } (L2.start N vs) H) : FnX P w K mg base (k + 1) f fd ps sp := by
  obtain ⟨oc, od, kV, doc, pm, an, cdv, ct, osl, rfl, lk, hcd⟩ := F.ex
  exact fnX_of lk hcd S len fun A outer s H vs Q E hr hsp => hbody cdv A outer s H vs Q E hr hsp
end
end GX
end SGO2
section SGHead
set_option linter.all false
set_option maxRecDepth 100000
set_option maxHeartbeats 2000000
/-! from the machine to the law's row -/
namespace GX
open PySem PySem.W PySem.Calls PyProof.Rows

/-- the caller's thread -/
abbrev capt (tree : List Value → Sem PySem.Fin) (vs : List Value) : Thread := ⟨tree vs, .builtin "claim.caller" {}, default, []⟩
theorem caller_inX : (Ctx.of (.builtin "claim.caller" {}) []).In callerA := caller_in
theorem callFromX {c : ClaimW} {tree : List Value → Sem PySem.Fin} {w : World} {s : Shared} {free : Addr → Prop} {gens : Prop} {kept : Heap → Prop} (asl : s.asleep) (nog : s.gens = #[])
    (spec : ∀ gv, c.pre gv = true → WData.layableAll gv = true → ∀ ord : List DictEntry → List DictEntry, (∀ l, (ord l).Perm l) → ∃ vs s1, layAllW c.records (classAt s.heap) w.params ord gv s = some (vs, s1) ∧
        RX (model c.prog w) callerA (tree vs) (fun fin s2 => ∃ f, fin = .done f ∧ (c.Ends s gv vs s1 (.ok f) s2 ∧ s2.os = s.os ∧ AllBare s2.gens ∧ kept s2.heap))
          (fun e s2 => c.Ends s gv vs s1 (.error e) s2 ∧ s2.os = s.os ∧ AllBare s2.gens ∧ kept s2.heap) s1) : c.CallFrom (capt tree) w free gens kept s := by
  intro gv hpre hlay ord hord
  obtain ⟨vs, s1, laid, run⟩ := spec gv hpre hlay ord hord
  have rest := layAllW_rest _ _ _ laid
  have run2 : RX (model c.prog w) callerA (tree vs) (fun fin s2 => ∃ f, fin = .done f ∧ ((c.Ends s gv vs s1 (.ok f) s2 ∧ s2.os = s.os ∧ kept s2.heap) ∧ leftWithCleanup s2.gens = false))
      (fun e s2 => (c.Ends s gv vs s1 (.error e) s2 ∧ s2.os = s.os ∧ kept s2.heap) ∧ leftWithCleanup s2.gens = false) s1 :=
    run.mono (fun fin s2 ⟨f, e, h1, h2, h3, h4⟩ => ⟨f, e, ⟨h1, h2, h4⟩, leftWithCleanup_false_of_bare h3⟩) fun e s2 ⟨h1, h2, h3, h4⟩ => ⟨⟨h1, h2, h4⟩, leftWithCleanup_false_of_bare h3⟩
  obtain ⟨k, r, s2, s3, sched, fo, life, ends, eos, kp⟩ := RX.ends (R := fun r s2 => c.Ends s gv vs s1 r s2 ∧ s2.os = s.os ∧ kept s2.heap) (p := default) (Shared.asleep_of_life rest.2.2.2 asl) caller_inX run2
  obtain ⟨eh, _, _, eo, _⟩ := Shared.forget_eq fo
  have ends2 := ends.congr eh
  have kp2 : kept s3.heap := by
    rw [eh]
    exact kp
  have eos2 : s3.os = s.os := eo.trans eos
  refine ⟨vs, s1, laid, k, _, s3, sched, ?_, (fun _ i x hx => by rw [nog] at hx; simp at hx), kp2, by rw [life, rest.2.2.2], Shared.rest_eq eos2⟩
  rcases ends2 with ⟨v, rfl, d1, d2, d3, d4, d5⟩ | ⟨e, ob, cls, rfl, d1, d2, d3, d4, d5⟩
  · exact Or.inl ⟨v, rfl, d1, d2, d3, fun b o y _ => d4 b o y, d5⟩
  · exact Or.inr ⟨e, ob, cls, rfl, d1, d2, d3, d4, fun b o y _ => d5 b o y⟩
theorem openX {r : RowW} {run : Value → List Value → Sem Value} {tree : List Value → Sem PySem.Fin} {q : Program} {loose defs kps : List Str} {writes : Bool} {Xt : Shared → Bool} {XP : (Str → Option Value) → Heap → Prop} {α : Type} {Yf : Shared → α} {Ya : World → α} {YP : World → Heap → Prop} {N : Nat}
    (lft : LeftO r.prog q loose Xt Yf Ya N) (yOf : ∀ w s, Yf s = Ya w → YP w s.heap) (yKp : ∀ w h h', YP w h → (∀ b o, h.get? b = some o → h'.get? b = some o) → YP w h') (xOf : ∀ s, Xt s = true → XP (s.heap.nsMap mainGlobals) s.heap)
    (xKp : ∀ mg h h', XP mg h → (∀ b o, h.get? b = some o → h'.get? b = some o) → XP mg h') (rf : ∀ s, Xt s = true → RecFacts r.records s.heap) (wr : (!writes || r.records.isEmpty) = true) (okk : (chainsOk q && opensWell r.prog && (frees r && r.within.isEmpty)) = true) (bare : r.prog.bare) (prom : r.promised)
    (htree : ∀ vs (w : World) (s : Shared) mg f (Q : PySem.Fin → Shared → Prop) (E : Value → Shared → Prop), s.heap.Ns mainGlobals mg → mg r.name = some f → RX (model r.prog w) callerA (run f vs) (fun v s' => Q (.done (.ret v)) s') E s → RX (model r.prog w) callerA (tree vs) Q E s)
    (pinn : ∀ w s, s.heap.isNs mainGlobals = true → Ground q loose [] XP w s (s.heap.nsMap mainGlobals) (s.heap.nsMap builtinsNs) s.heap → ∀ n ∈ defs, isTheDefsW r.prog s.heap n)
    (callx : ∀ (w : World) (s0 s1 : Shared) (mg mb : Str → Option Value), Ground q loose r.records XP w s0 mg mb s1.heap → YP w s1.heap → ∀ (gv : List WData) (vs : List Value) (as : List Addr), r.claim.pre gv = true → WData.layableAll gv = true → Laid r.records w s0 s1 gv vs as → sysModules < s0.heap.objs.size → ∃ f, mg r.name = some f ∧
        RX (model r.prog w) callerA (run f vs) (fun v s2 => GoodWG r.claim (classAt s0.heap) (ExcName.means s0.heap) gv s1 (.ok (.ret v)) s2) (fun e s2 => GoodWG r.claim (classAt s0.heap) (ExcName.means s0.heap) gv s1 (.error e) s2) s1) : r.claim.HoldsOpenBy (capt tree) defs kps writes := by
  obtain ⟨okk, k5⟩ := Bool.and_eq_true_iff.mp okk
  obtain ⟨hch, o1⟩ := Bool.and_eq_true_iff.mp okk
  obtain ⟨k5, k6⟩ := Bool.and_eq_true_iff.mp k5
  obtain ⟨hsame, hu, ha, hap, hm⟩ := frees_parts k5
  refine ⟨⟨bare, o1, by show r.makers.map _ = []; rw [hm]; rfl⟩, prom.witness, fun w => ⟨(lft.behind xOf hch w).1, fun sB hsB => ?_⟩⟩
  obtain ⟨s0, hf, hg0, s, hT, hz, gens0, hg, GG, y⟩ := (lft.behind (XP := fun mg h => XP mg h ∧ RecFacts r.records h) (fun s hs => ⟨xOf s hs, rf s hs⟩) hch w).2 sB hsB
  have G0 : Ground q loose [] XP w s (s.heap.nsMap mainGlobals) (s.heap.nsMap builtinsNs) s.heap := ⟨GG.T, GG.B, GG.D, GG.TE, GG.TD, GG.W, GG.X.1, GG.cls, GG.has, GG.apart, GG.once, GG.K⟩
  have facts := GG.X.2
  have topran := hT
  refine ⟨s0, hf, hg0, s, hT, pinn w s hg G0, facts.1, facts.2.1, ?_⟩
  have nog : s.gens = #[] := Array.eq_empty_of_size_eq_zero (beq_iff_eq.mp gens0)
  have GR : Ground q loose r.records XP w s _ _ s.heap := facts.ground G0
  refine callFromX (c := r.claim) hz nog fun gv hpre hlay ord hord => ?_
  obtain ⟨⟨vs, s1⟩, laid⟩ := Option.isSome_iff_exists.mp (layAllW_isSome (P := w.params) (ord := ord) GR.has gv r.args s (pre_splitW hpre).1)
  have kps1 := layAllW_keeps _ _ _ laid
  have rest := layAllW_rest _ _ _ laid
  obtain ⟨as, hrd, hin, hold⟩ := reads_layAllW hord _ _ _ laid hlay s1.heap (fun _ _ e => e)
  have LL : Laid r.records w s s1 gv vs as := ⟨⟨ord, hord, laid⟩, hrd, hin, hold, kps1, rest.1.trans nog, rest.2.2.1⟩
  have G1 := GR.keeps xKp kps1
  obtain ⟨f, nf, h⟩ := callx w s s1 _ _ G1 (yKp _ _ _ (yOf w s y) kps1) gv vs as hpre hlay LL GR.low
  have idf := ident_freeW hu ha hap
  have wi : r.claim.within = [] := List.isEmpty_iff.mp k6
  have fin : ∀ {res : Result} {s2 : Shared}, GoodWG r.claim (classAt s.heap) (ExcName.means s.heap) gv s1 res s2 → r.claim.Ends s gv vs s1 res s2 ∧ s2.os = s.os ∧ AllBare s2.gens ∧ (writes = true → namesKept r.prog kps s.heap s2.heap ∧ ∀ x ∈ r.records, ∀ a, classAt s.heap x.1 = some a → recordClass s2.heap a x.1 (x.2.map (·.1)) = true) := fun {res s2} g => by
    have z := g.laid (c := r.claim) hsame wi idf LL
    exact ⟨z.1, z.2.1, z.2.2, fun qw => ⟨namesKept_of topran hg kps kps1 g.2.1.old, noTable wr qw⟩⟩
  exact ⟨vs, s1, laid, htree vs w s1 _ f _ _ G1.T.g nf (h.mono (fun v s2 g => ⟨_, rfl, fin g⟩) fun e s2 g => fin g)⟩
/-- the law's call, on the machine -/
def WalkX (q : Program) (loose : List Str) (XP : (Str → Option Value) → Heap → Prop) (YP : World → Heap → Prop) (r : RowW) (d : DefRec) (kwd : List (Str × Expr)) : Prop :=
  ∀ (w : World) (s0 s1 : Shared) (mg mb : Str → Option Value), Ground q loose r.records XP w s0 mg mb s1.heap → YP w s1.heap → ∀ (fa : Addr) (o : Obj) (pm cd doc dV kV : Value), s1.heap.get? fa = some o →
    o.data = .func { docDef d.name d.params d.body d.scope pm cd doc with defaults := dV, kwdefaults := kV } → s1.heap.CodeRec cd d.name → Dflts mg s1.heap d.params kwd dV kV → mg d.name = some (.ref fa) → s1.gens = #[] →
    ∀ (gv : List WData) (vals : List Value) (as : List Addr), r.claim.pre gv = true → WData.layableAll gv = true → ReadsAllW r.records (classAt s0.heap) s1.heap vals gv as → WellAll w.params s1.heap vals gv → (∀ b ∈ as, (b == sysModules) = false) →
      RX (model r.prog w) callerA (PySem.call (.ref fa) vals) (fun v s2 => GoodWG r.claim (classAt s0.heap) (ExcName.means s0.heap) gv s1 (.ok (.ret v)) s2) (fun e s2 => GoodWG r.claim (classAt s0.heap) (ExcName.means s0.heap) gv s1 (.error e) s2) s1
theorem attachX {l : OpenLaw} {n : Nat} {q : Program} {loose : List Str} {XP : (Str → Option Value) → Heap → Prop} {YP : World → Heap → Prop} {d : DefRec} (hn : l.most = some n) (hdf : d.params.defaults = [])
    (callx : ∀ (w : World) (s0 s1 : Shared) (mg mb : Str → Option Value) (fa a : Addr) (vs : List Value) (ns : List Int), Ground q loose [] XP w s0 mg mb s1.heap → YP w s1.heap → mg d.name = some (.ref fa) → s1.heap.get? a = some { cls := .type "list", data := .seq vs.toArray } → IntsAre vs ns → ns.length ≤ n → s1.gens = #[] →
      CXM (model l.prog w) callerA (.call (.ref fa) ⟨[.ref a], []⟩) (fun r s2 => r = .ok (.ret (.bool true)) ∧ OldK s1.heap s2.heap ∧ s2.os = s1.os ∧ AllBare s2.gens) s1) : WalkX q loose XP YP l.row.toRowW d [] := by
  intro w s0 s1 mg mb G Y fa o pm cd doc dV kV ho hd hcd hD hmg hg gv vals as hpre hlay hrd hwl hlo
  obtain ⟨a, vs, ns, rfl, rfl, hobj, hints, hlen⟩ := Att.script_of hn hpre hwl
  refine RX.runValue ((callx w s0 s1 mg mb fa a vs ns G Y hmg hobj hints hlen hg).mono fun r s2 hq => ?_)
  obtain ⟨rfl, h2, h3, h4⟩ := hq
  exact ⟨Or.inl ⟨.bool true, .bool true, [], rfl, fun _ => rfl, .bool true, Att.post_true l _, fun _ => ⟨List.Pairwise.nil, fun _ hm => nomatch hm⟩⟩, h2, h3, h4⟩
end GX
namespace GXH
open PySem PySem.W PySem.Calls PyProof.Rows GX
/-- the row's head, over the machine: it stands in for the library's, where the call is known on the machine alone -/
theorem PySem.W.holds_open {r : OpenRow} {q : Program} {loose : List Str} {Xt : Shared → Bool} {XP : (Str → Option Value) → Heap → Prop} {α : Type} {Yf : Shared → α} {Ya : World → α} {YP : World → Heap → Prop} {d : DefRec} {kwd : List (Str × Expr)} {N : Nat}
    (lft : LeftO r.prog q loose Xt Yf Ya N) (yOf : ∀ w s, Yf s = Ya w → YP w s.heap) (yKp : ∀ w h h', YP w h → (∀ b o, h.get? b = some o → h'.get? b = some o) → YP w h') (xOf : ∀ s, Xt s = true → XP (s.heap.nsMap mainGlobals) s.heap)
    (xKp : ∀ mg h h', XP mg h → (∀ b o, h.get? b = some o → h'.get? b = some o) → XP mg h') (hdf : defOf q r.name = some (d, kwd)) (hpd : r.prog.theDef r.name = some (d.params, d.body, d.scope)) (hkw : kwWritten? d.params.kwonlyargs d.params.kw_defaults = some kwd)
    (rf : ∀ s, Xt s = true → RecFacts r.records s.heap) (wr : (!r.writes || r.records.isEmpty) = true) (said : r.wellSaid = true) (okk : (chainsOk q && opensWell r.prog && (frees r.toRowW && r.within.isEmpty)) = true) (bare : r.prog.bare) (prom : r.toRowW.promised)
    (callx : WalkX q loose XP YP r.toRowW d kwd) : r.Holds := by
  refine ⟨said, prom, openX (r := r.toRowW) (run := fun f vs => PySem.call f vs) (tree := fun vs => do match ← nsGet mainNs r.name with
      | some f => do ret (← PySem.call f vs)
      | none => unsupported "claim.caller:no-such-global") lft yOf yKp xOf xKp rf wr okk bare prom
    (fun vs w s mg f Q E hg hf h => RX.bind (RX.of (wpAny_nsGet hg (by rw [hf]; exact RX.bind (h.mono (fun _ _ x => RX.pure x) fun _ _ x => x))))) (fun w s hg G n hn => ?_) fun w s0 s1 mg mb G Y gv vs as hpre hlay L low => ?_⟩
  · obtain rfl : n = r.name := by split at hn <;> simp_all
    exact pinned_of_view hg G hdf hpd hkw
  · obtain ⟨fa, o, pm, cd, doc, dV, kV, h1, h2, h3, h4, h5⟩ := G.fn hdf
    exact ⟨.ref fa, h1, callx w s0 s1 mg mb G Y fa o pm cd doc dV kV h2 h3 h4 h5 (defOf_name hdf ▸ h1) L.gens gv vs as hpre hlay L.reads L.well (L.low low)⟩
end GXH
namespace GX
open PySem PySem.Spec PyProof.Rows L2 GStub
/-- the law's promise, at the heap behind the top -/
theorem law_callX {P : Program} {w : World} {K : PySem.W.Frag} {mg mb : Str → Option Value} {k : Nat} {fa a : Addr} {fd : FuncData} {x : Str} {sp : Sp} {s1 : Shared} {vs : List Value} {ns : List Int}
    (KX : K.In s1.heap) (hns : s1.heap.Ns mainGlobals mg) (hbn : s1.heap.Ns builtinsNs mb) (hbb : ∀ x : Str, x ≠ "__name__" → mb x = bootBuiltins x) (hlim : s1.heap.NoLimit) (hg : s1.gens = #[]) (ha : s1.heap.get? a = some { cls := .type "list", data := .seq vs.toArray }) (hi : IntsAre vs ns) (hl : ns.length ≤ sizeLine) (hr : Room k callerA)
    (F : ∀ base : Heap, K.In base → base.Ns mainGlobals mg → FnX P w K mg base k fa fd [x] sp) (hbind : ∀ (s : Shared) (u : Value), BindsTo s fd ⟨[u], []⟩ [(x, u)]) (hsp : ∀ H : Hp, Only H → SqL K H a (ns.map V.int) → sp [.ref a] H (fun v _ => v = .bl true) fun _ _ _ => False) :
    CXM (model P w) callerA (.call (.ref fa) ⟨[.ref a], []⟩) (fun r s2 => r = .ok (.ret (.bool true)) ∧ OldK s1.heap s2.heap ∧ s2.os = s1.os ∧ AllBare s2.gens) s1 := by
  have rv := vals_ints hi
  have lenV := hi.length
  have main : ∀ H : Hp, Only H → SqL K H a (ns.map V.int) → HOk P w H s1.heap → (∀ b, H b ≠ none → b = a) → (H a ≠ none → K.lookup a = none) →
      CXM (model P w) callerA (.call (.ref fa) ⟨[.ref a], []⟩) (fun r s2 => r = .ok (.ret (.bool true)) ∧ OldK s1.heap s2.heap ∧ s2.os = s1.os ∧ AllBare s2.gens) s1 := by
    intro H hO hS hok hA hK
    have baseOf : ∀ {b : Addr} {o : Obj}, s1.heap.get? b = some o → H b = none → (hidT s1.heap H).get? b = some o := fun e n => hidT_get e n
    have onlyA : ∀ {b : Addr} {u : HO}, H b = some u → b = a := fun {b u} q => hA b (by rw [q]; exact fun z => nomatch z)
    have noDict : ∀ {b : Addr} {o : Obj} {es : Array DictEntry} {ep : Nat}, s1.heap.get? b = some o → o.data = .dict es ep → H b = none := fun {b o es ep} e d => by
      cases q : H b with
      | none => rfl
      | some u =>
        have e1 := onlyA q
        subst e1
        rw [ha] at e
        cases e
        cases (show Data.seq vs.toArray _ = Data.dict es ep from d)
    have nsH : ∀ {b : Addr} {m : Str → Option Value}, s1.heap.Ns b m → (hidT s1.heap H).Ns b m := fun {b m} ⟨o, es, ep, e, d, r⟩ => ⟨o, es, ep, baseOf e (noDict e d), d, r⟩
    have hKb : K.In (hidT s1.heap H) := fun b o e => baseOf (KX b o e) (by
      cases q : H b with
      | none => rfl
      | some u =>
        have e1 := onlyA q
        subst e1
        rw [hK (by rw [q]; exact fun z => nomatch z)] at e
        cases e)
    have hM : Mod K mg (hidT s1.heap H) := ⟨hKb, nsH hns, ⟨mb, nsH hbn, hbb⟩, let ⟨mc, h1, h2⟩ := hlim; ⟨mc, nsH h1, h2⟩⟩
    have e0 : Env0 P w K mg (hidT s1.heap H) callerA [] s1 H := ⟨rfl, hM, fun b o e => of_hidT e, Nat.le_of_eq (hidT_size _ _), trivial, fun b hb => (by cases hb), hok, .of_eq hg⟩
    refine ((F _ hKb (nsH hns)).run callerA [] s1 H ⟨[.ref a], []⟩ [.ref a] [.ref a] _ _ hr e0 (hbind s1 (.ref a)) (.cons rfl .nil) (hsp H hO hS)).mono fun r s2 h => ?_
    cases r with
    | error e => exact False.elim h
    | ok fl =>
      cases fl with
      | next => exact h.elim
      | brk => exact h.elim
      | cont => exact h.elim
      | ret u =>
        obtain ⟨v, H2, eos, bare, un, hok2, r2, q⟩ := h
        have q1 : v = .bl true := q
        subst q1
        obtain rfl : u = Value.bool true := r2
        refine ⟨rfl, OldK.of_keep fun b o e => ?_, eos, bare⟩
        cases q : H b with
        | none => exact un.keep b o e q (by intro z; cases z) (by intro z; cases z)
        | some u =>
          rcases hO b with z | ⟨ob, xs, z⟩
          · rw [q] at z
            cases z
          · have z2 := un.frzs b ob _ z
            obtain ⟨e1, _⟩ := hok b _ z
            obtain ⟨e2, _⟩ := hok2 b _ z2
            rw [e] at e1
            cases e1
            exact e2
  cases hk : K.lookup a with
  | some o =>
    have e := KX a o hk
    rw [ha] at e
    cases e
    exact main (fun _ => none) (fun _ => Or.inl rfl) (Or.inr ⟨_, vs.toArray, _, hk, rfl, rfl, rfl, by rw [List.size_toArray, lenV]; exact hl, by simpa using rv⟩) (fun b u z => nomatch z) (fun b z => absurd rfl z) fun z => absurd rfl z
  | none =>
    have at_a : (fun b => if b = a then some (HO.frz { cls := .type "list", data := .seq vs.toArray } (.lst (ns.map V.int))) else none : Hp) a = some (HO.frz { cls := .type "list", data := .seq vs.toArray } (.lst (ns.map V.int))) := if_pos rfl
    have off : ∀ b, b ≠ a → (fun b => if b = a then some (HO.frz { cls := .type "list", data := .seq vs.toArray } (.lst (ns.map V.int))) else none : Hp) b = none := fun b hb => if_neg hb
    refine main (fun b => if b = a then some (HO.frz { cls := .type "list", data := .seq vs.toArray } (.lst (ns.map V.int))) else none) (fun b => ?_) (Or.inl (Or.inr ⟨_, at_a⟩)) (fun b u z => ?_) (fun b z => ?_) fun _ => hk
    · by_cases hb : b = a
      · subst hb
        exact Or.inr ⟨_, _, at_a⟩
      · exact Or.inl (off b hb)
    · by_cases hb : b = a
      · subst hb
        have z1 := at_a.symm.trans z
        cases z1
        exact ⟨ha, by rw [List.length_map]; exact hl, vs, _, rv, ha⟩
      · have z1 := (off b hb).symm.trans z
        cases z1
    · by_cases hb : b = a
      · exact hb
      · exact absurd (off b hb) z
/-- what k_head leaves, from the law's promise -/
theorem walkX_of {l : PySem.W.OpenLaw} {n k : Nat} {q : Program} {loose : List Str} {XP : (Str → Option Value) → Heap → Prop} {YP : World → Heap → Prop} {d : DefRec} {K : Params → PySem.W.Frag} {sp : World → Sp} {x : Str} (hn : l.most = some n) (hn2 : n ≤ sizeLine) (hdf : d.params.defaults = []) (hr : Room k callerA)
    (hY : ∀ (w : World) (h : Heap), YP w h → (K w.params).In h)
    (F : ∀ (w : World) (mg : Str → Option Value) (fa : Addr) (h : Heap), (K w.params).In h → h.Ns mainGlobals mg → mg d.name = some (.ref fa) → ∃ fd : FuncData, (∀ (s : Shared) (u : Value), BindsTo s fd ⟨[u], []⟩ [(x, u)]) ∧ ∀ base : Heap, (K w.params).In base → base.Ns mainGlobals mg → FnX l.prog w (K w.params) mg base k fa fd [x] (sp w))
    (hsp : ∀ (w : World) (H : Hp) (a : Addr) (ns : List Int), ns.length ≤ n → Only H → SqL (K w.params) H a (ns.map V.int) → sp w [.ref a] H (fun v _ => v = .bl true) fun _ _ _ => False) : WalkX q loose XP YP l.row.toRowW d [] := by
  refine attachX hn hdf fun w s0 s1 mg mb fa a vs ns G Y hmg hobj hints hlen hg => ?_
  have KX := hY w _ Y
  obtain ⟨fd, hb, hF⟩ := F w mg fa _ KX G.T.g hmg
  exact law_callX KX G.T.g G.T.b G.T.builtins G.T.nolimit hg hobj hints (Nat.le_trans hlen hn2) hr hF hb fun H hO hS => hsp w H a ns hlen hO hS
end GX
end SGHead
section SGBest
set_option linter.all false
set_option maxRecDepth 100000
set_option maxHeartbeats 2000000
/-! for over contents(unit, boxes), in a def -/
namespace GX
open PySem PySem.Spec PyProof.Rows L2 GStub OL Evl

/-- the default: an empty tuple of the module -/
structure CD (K : PySem.W.Frag) (mg : Str → Option Value) (f : Addr) (cdv : Value) : Prop where
  cf : CF K mg f cdv
  dfl : ∃ (oc : Value) (od : Option Addr) (osl : Array (Option Value)) (dV kV doc pm ct : Value) (an : Option Addr) (t0 : Addr) (ds : List Value), K.lookup f = some ⟨oc, od, .func (PySem.W.fnOf "contents" "contents" (defArgs sContents) (defBody sContents) (defScope sContents) dV kV doc pm an cdv ct), osl⟩ ∧
    Binds K (PySem.W.fnOf "contents" "contents" (defArgs sContents) (defBody sContents) (defScope sContents) dV kV doc pm an cdv ct) ["unit", "boxes", "ahead"] ds ∧ Vals [.ref t0] ds ∧ ∀ H, SqT K H t0 []
/-- the next item, by the special method -/
theorem rx_pyNext {P : Program} {w : World} {A : Around} {it : Value} {s : Shared} {Q : Option Value → Shared → Prop} {E : Value → Shared → Prop} (h : RX (model P w) A (callSpecial? it "__next__") (fun r s' => ∃ v, r = some v ∧ Q (some v) s') (fun e s' => StopX e s'.heap ∧ Q none s') s) : RX (model P w) A (pyNext it) Q E s := by
  unfold pyNext
  refine RX.bind (RX.attempt (h.mono (fun r s' ⟨v, e, q⟩ => ?_) fun e s' ⟨hS, q⟩ => ?_))
  · subst e
    exact RX.pure q
  · obtain ⟨ea, o, vs, rfl, hea, hcls, _⟩ := hS
    exact RX.of (wpAny_bind (wpAny_isInstance (T := "StopIteration") (b := true) ⟨o, hea, hcls⟩ isSubtype_stop (wpAny_pure q)))
theorem allBare_of {s0 s : Shared} (h0 : AllBare s0.gens) (g : Gn s0 ⟨[], []⟩ [] s) : AllBare s.gens := fun y hy => by
  obtain ⟨i, hi⟩ := Array.mem_iff_getElem?.mp hy
  rcases g.bareG i y hi with z | z | ⟨z, _, _⟩
  · exact z
  · cases z
  · exact h0 y (Array.mem_of_getElem? z)
def tMonA (t : TA) : TA := fun σ H Q => ∃ Q0 : List V → Hp → Prop, t σ H Q0 ∧ ∀ vs H1, Q0 vs H1 → Q vs H1
theorem pa_mono {X : Cx} {es : List Expr} {t : TA} (h : PA X es t) : PA X es (tMonA t) := ⟨fun pos pins s σ H Q I ⟨Q0, q0, w⟩ => thn (h.run pos pins s σ H Q0 I q0) fun us s1 ⟨vs, H1, I1, r, q⟩ => ⟨vs, H1, I1, r, w vs H1 q⟩⟩
/-- W: what holds with ys yet to come -/
def tForC (i : Nat) (ta : TA) (tb : TS) : TS := fun D σ H => ta σ H fun vs H1 => ∃ (u : Int) (d : Addr) (kvs : List (Int × Int)) (n : Nat), vs = [.int u, .ref d] ∧ H1 d = some (.dK (kvs.map kvI)) ∧ (∀ p ∈ kvs, 2 ≤ p.1) ∧ u < 2 * n ∧ n ≤ 5 ∧
  ∀ od, ∃ W : List (List Int) → L2.St → Hp → Prop, W (contF n u kvs []) σ (upd H1 d (.frz od (.dK (kvs.map kvI)))) ∧ (∀ ys σ H H', Ex H H' → W ys σ H → W ys σ H') ∧
    (∀ x ys σ H v, W (x :: ys) σ H → YdV H x v → tb { nx := fun σ' H' => W ys σ' H' ∧ Mx H H', rt := fun _ _ => False } (σ.set i (some v)) H) ∧ ∀ σ H, W [] σ H → H d = some (.frz od (.dK (kvs.map kvI))) ∧ D.nx σ (upd H d (.dK (kvs.map kvI)))
theorem ps_forC {X : Cx} {f : Addr} {cdv : Value} {i : Nat} {x y : Str} {py p pos ipos : Pos} {a b : Expr} {ta : TA} {body : List Stmt} {tb : TS} (hxe : X.xe = fun _ _ => False) (cd : CD X.K X.mg f cdv) (hr : Room 21 X.A) (hst : X.stack = X.env :: X.outer ∧ X.env.frame = some X.env.locals) (hpn : X.pn = []) (hg : Gl X "contents") (ha : PA X [a, b] ta)
    (hN : X.N.Nodup) (hi : X.N[i]? = some y) (hy : X.env.scope.names.lookup y = some .local) (hb : PSs X body tb) (he : starEach [a, b] X.env = (false, eval a X.env) :: starEach [b] X.env := by rfl) (hpl : (backTo ipos (starEach [b] X.env)).any (·.1) = false := by rfl) :
    PSO X (.For (.Name y py) (.Call (.Name "contents" p) [a, b] [] ipos) body [] pos) (tForC i ta tb) := by
  refine ⟨fun pins s σ H D I h => ?_⟩
  obtain ⟨oc, ocd, osl, dV, kV, doc, pm, ct, an, t0, ds, lk, hbd, hdv, ht0⟩ := cd.dfl
  rw [for_split, hxe]
  refine RX.bind (RX.of (wpAny_standAt ?_))
  have hcall := gen_call (X := X) (N := Ncont) (ps := ["unit", "boxes", "ahead"]) (ds := ds) (dvs := [.ref t0]) (p := p) (pos := ipos) (Q := fun vs H1 => ∃ vs0, vs = vs0 ++ [.ref t0] ∧ ∃ (u : Int) (d : Addr) (kvs : List (Int × Int)) (n : Nat), vs0 = [.int u, .ref d] ∧ H1 d = some (.dK (kvs.map kvI)) ∧ (∀ p ∈ kvs, 2 ≤ p.1) ∧ u < 2 * n ∧ n ≤ 5 ∧
      ∀ od, ∃ W : List (List Int) → L2.St → Hp → Prop, W (contF n u kvs []) σ (upd H1 d (.frz od (.dK (kvs.map kvI)))) ∧ (∀ ys σ H H', Ex H H' → W ys σ H → W ys σ H') ∧
        (∀ x ys σ H v, W (x :: ys) σ H → YdV H x v → tb { nx := fun σ' H' => W ys σ' H' ∧ Mx H H', rt := fun _ _ => False } (σ.set i (some v)) H) ∧ ∀ σ H, W [] σ H → H d = some (.frz od (.dK (kvs.map kvI))) ∧ D.nx σ (upd H d (.dK (kvs.map kvI))))
    lk cd.cf.cd scCont ncCont hr.depth hr.hd hg cd.cf.mc cd.cf.kp hbd hdv (pa_mono ha) I ?_ (by decide) he hpl
  · rw [hxe] at hcall
    refine RX.bind (Q := SP X pins D) (RX.of (wpAny_bind (thn hcall fun v s2 hv => wpAny_bind (wpAny_of_eq (a := v) rfl (wpAny_bind (wpAny_standAt (wpAny_holding ?_)))))))
    obtain ⟨vs, H1, s1, L, a', oa, oL, rfl, I1, hz, ⟨vs0, rfl, u, d, kvs, n, rfl, hd, hkv, hun, hn5, hW⟩, gn, I2⟩ := hv
    refine wpAny_pyIter_gen gn.isg ?_
    obtain ⟨od, I3⟩ := I2.lock hd trivial
    obtain ⟨W, w0, wEx, wStep, wEnd⟩ := hW od
    have hH1 : ∀ b, s1.heap.objs.size ≤ b → upd H1 d (.frz od (.dK (kvs.map kvI))) b = none := fun b hb => by
      have e : H1 b = none := I1.hok.fresh hb
      rw [upd_ne (ne_of_none hd e).symm]
      exact e
    have la : s1.heap.objs.size ≤ a' := Nat.le_of_lt (Nat.lt_of_le_of_lt gn.ltL gn.lta)
    have ksz : ∀ b, s1.heap.objs.size ≤ b → b ≠ X.env.locals ∧ b ∉ X.fs := fun b hb => ⟨Nat.ne_of_gt (Nat.lt_of_lt_of_le I1.lt hb), I1.nofs hb⟩
    have hpin1 : ∀ q ∈ pins, q.1 < s1.heap.objs.size := fun q hq => Heap.lt_size (I1.pin q (List.mem_append_right _ hq)).1
    have g0 : Gn s1 ⟨[], []⟩ [] s2 := by
      refine ⟨by rw [gn.gens, Array.size_push]; exact Nat.le_succ _, fun i x hx _ _ => ?_, fun i y hy => .inl (I2.bare y (Array.mem_of_getElem? hy)), fun q hq => by cases hq⟩
      rw [gn.gens]
      have hlt : i < s1.gens.size := (Array.getElem?_eq_some_iff.mp hx).1
      rw [Array.getElem?_push_lt hlt]
      rw [← hx, Array.getElem?_eq_getElem hlt]
    unfold runOwn
    refine RX.onRaise (RX.run ((cxm_for (fun m s' => ∃ ys gd gs og H0 σ' H', m = ys.length ∧ Inv X (((a', oa) :: pins) ++ GD.own gd) σ' H' (bare0 s') ∧ Gn s1 ⟨[], []⟩ og s' ∧ (∀ q ∈ gd.og, q ∈ og) ∧ (∀ q ∈ og, q.1 = s1.gens.size ∨ q ∈ gd.og) ∧ s'.gens[s1.gens.size]? = some gs ∧ Sl X (gp X X.A.in1 s1.heap.objs.size) ((a', oa) :: pins) s1.gens.size gs ys gd H0 ∧ Mn H0 H' ∧ W ys σ' H')
        (R := fun r s' => match r with | .ok f => SP X pins D f s' | .error e => False) ?_ (contF n u kvs []).length s2 ⟨contF n u kvs [], ⟨[(L, oL)], []⟩, _, [], _, σ, _, rfl, ?_, g0, fun q hq => (by cases hq), fun q hq => (by cases hq), by rw [gn.gens]; exact Array.getElem?_push_size, ?_, Mn.rfl, w0⟩).mono fun r s' hr' => ?_))
    · -- a turn
      rintro m s3 ⟨ys, gd, gs, og, H0, σ3, H3, rfl, I4, g4, h1, h2, hgs, sl, m0, w3⟩
      unfold forPre
      refine RX.bind (RX.onRaise (rx_pyNext ?_))
      refine rx_turn (X := X) (A := X.A) (lo := s1.heap.objs.size) (P := (a', oa) :: pins) (d := gd) (ys := ys) rfl hr.hd hr.depth I1.ok.frames hst I1.sz I4 g4 h1 h2 (.inr (Nat.le_refl _)) (fun i y hy => (g4.bareG i y hy).imp id (Or.imp id fun z => z.2.1)) List.mem_cons_self gn.gen hgs sl m0
        (fun hy0 s5 H5 I5 e5 g5 e he => ⟨he, ?_⟩) fun x' ys' hy0 v s5 H5 d' gs' I5 e5 g5 rv sl5 => ⟨v, rfl, ?_⟩
      · subst hy0
        refine RX.pure ?_
        rw [if_neg Bool.false_ne_true]
        have I6 : Inv X ((a', oa) :: pins) σ3 H5 s5 := inv_gens (s := bare0 s5) I5 (allBare_of I1.bare g5)
        have I7 : Inv X pins σ3 H5 s5 := I6.pins_of fun q hq => I6.pin q (List.mem_append_right _ (List.mem_cons_of_mem _ hq))
        obtain ⟨hfz, hnx⟩ := wEnd σ3 H5 (wEx _ _ _ _ e5 w3)
        exact ⟨σ3, _, I7.unlock hfz (I1.nofrz hd trivial), hnx⟩
      · subst hy0
        obtain ⟨vv, rvv, hyd⟩ := rv
        refine RX.bind (RX.of (wpAny_pure ?_))
        refine RX.bind ?_
        refine (leaf (X := X) (pins' := ((a', oa) :: pins) ++ d'.own) (Q := fun _ σ' H' _ => σ' = σ3.set i (some vv) ∧ H' = H5) g5 I5 fun I => ?_).mono (fun _ s6 ⟨σ6, H6, I6, g6, ⟨e6, e7⟩⟩ => ?_) fun _ _ z => z
        · exact wpAny_assign_Name (store_ok I hN hi (.inl hy) rvv (fun s' I' => ⟨_, H5, I', rfl, rfl⟩) (.inr hy))
        · subst e6 e7
          refine RX.pure ?_
          rw [if_pos rfl]
          have hb' := fun (s' : Shared) (I' : Inv X (((a', oa) :: pins) ++ d'.own) (σ3.set i (some vv)) H6 s') => hb.run _ s' _ H6 { nx := fun σ' H' => W ys' σ' H' ∧ Mx H6 H', rt := fun _ _ => False } I' (wStep x' ys' σ3 H6 vv (wEx _ _ _ _ e5 w3) hyd)
          rw [hxe] at hb'
          refine (leaf (X := X) (pins' := ((a', oa) :: pins) ++ d'.own) (Q := fun fl σ' H' _ => fl = .next ∧ W ys' σ' H' ∧ Mx H6 H') g6 I6 fun I => thn (hb' _ I) fun fl s' q => ?_).mono (fun fl s7 ⟨σ7, H7, I7, g7, e7, w7, m7⟩ => ?_) fun _ _ z => z
          · cases fl with
            | next =>
              obtain ⟨σ', H', I', w', m'⟩ := q
              exact ⟨σ', H', I', rfl, w', m'⟩
            | brk => obtain ⟨_, _, _, z⟩ := q; exact z.elim
            | cont => obtain ⟨_, _, _, z⟩ := q; exact z.elim
            | ret v => obtain ⟨_, _, _, _, _, z⟩ := q; exact z.elim
          · subst e7
            refine ⟨ys'.length, Nat.lt_succ_self _, ys', d', gs', (s1.gens.size, gs') :: d'.og, H6, σ7, H7, rfl, I7, g7, fun q hq => List.mem_cons_of_mem _ hq, fun q hq => ?_, (g7.standG (s1.gens.size, gs') List.mem_cons_self).1, sl5, ⟨m7.1, m7.2⟩, w7⟩
            rcases List.mem_cons.mp hq with z | z
            · rw [z]; exact .inl rfl
            · exact .inr z
    · -- at the beginning
      have I3b : Inv X pins σ (upd H1 d (.frz od (.dK (kvs.map kvI)))) (bare0 s2) := inv_gens I3 allBare_none
      refine I3b.pins_of fun q hq => ?_
      rcases List.mem_append.mp hq with z | z
      · rcases List.mem_cons.mp z with z | z
        · subst z
          exact ⟨gn.geta, hH1 _ la, (ksz _ la).1, (ksz _ la).2, gn.gen.mark.nocell⟩
        · exact I3b.pin q (List.mem_append_right _ z)
      · rw [List.mem_singleton.mp z]
        exact ⟨gn.getL, hH1 _ gn.ltL, (ksz _ gn.ltL).1, (ksz _ gn.ltL).2, gn.noL⟩
    · refine ⟨rfl, (by intro q; cases q), fun q hq => ?_, fun q hq z => ?_, fun s0 s12 H12 wk p' B' hB => ?_⟩
      · rw [List.mem_singleton.mp hq]
        exact gn.ltL
      · have z : q.1 ∈ [L] := z
        rw [List.mem_singleton] at z
        rw [hpn] at hq
        rcases List.mem_cons.mp hq with y' | y'
        · rw [y'] at z
          exact absurd gn.lta (by rw [← z]; exact Nat.lt_irrefl _)
        · exact absurd (Nat.lt_of_lt_of_le (hpin1 q y') gn.ltL) (by rw [z]; exact Nat.lt_irrefl _)
      · have wL := wk.stand (L, oL) List.mem_cons_self
        have hrB : Room (3 * n + 5) X.A.in1 := Room.mono (Room.in1 (k := 20) hr) (by omega)
        refine seg_contents cd.cf hkv n X.A.in1 X.stack s1.heap.objs.size L [] (.ref t0) s12 H12 oL hrB gn.ltL (fun b hb => ?_) (Nat.le_trans (Nat.le_trans I1.ok.bsz I1.sz) gn.ltL) (by rw [List.sum_nil]; omega) (by show 0 + n ≤ 1000; omega) wk.env (gn.frm.keep fun o e => ?_) wL.2 wL.1 (fun i y hy => ?_) ⟨⟨od, wk.frzs d od _ upd_same⟩, .tup (ht0 H12) .nil⟩ p' B' hB
        · rcases List.mem_cons.mp (I1.stkSub b hb) with z | z
          · rw [z]; exact Nat.lt_of_lt_of_le I1.lt gn.ltL
          · obtain ⟨_, o, ho, _⟩ := I1.funs.mem z
            exact Nat.lt_of_lt_of_le (Heap.lt_size ho) gn.ltL
        · have e : s2.heap.get? L = some o := e
          rw [gn.getL] at e
          cases e
          exact wL.1
        · rcases wk.bareG i y hy with z | z | z
          · exact .inl z
          · cases z
          · exact .inr z
    · cases r with
      | ok f => exact hr'
      | error e => exact hr'.elim
  · refine ⟨_, h, fun vs H1 q => ?_⟩
    obtain ⟨u, d, kvs, n, rfl, q⟩ := q
    exact ⟨rfl, _, rfl, u, d, kvs, n, rfl, q⟩
end GX
end SGBest
section SGLay3
set_option linter.all false
set_option maxRecDepth 100000
set_option maxHeartbeats 1000000
/-! statements by data; calls of defs; comprehensions; loops -/
namespace GX
open PySem PySem.Spec PyProof.Rows L2
open Evl StX

/-! ### what a name may hold: data; a dict of ints; a plain tuple of ints -/
abbrev kvD (p : Int × Int) : Key × V := (Sum.inl p.1, V.int p.2)
inductive Dv where
  | dat (d : PyData)
  | dic (kvs : List (Int × Int))
  | new (kvs : List (Int × Int))
  | pt (ns : List Int)
def Dq (K : PySem.W.Frag) (H : Hp) (v : V) : Dv → Prop
  | .dat d => Dp K H v d
  | .dic kvs => ∃ p, v = .ref p ∧ Rd H p (.dK (kvs.map kvD))
  | .new kvs => ∃ p, v = .ref p ∧ H p = some (.dK (kvs.map kvD))
  | .pt ns => YdV H ns v
theorem Dq.ex {K : PySem.W.Frag} {H H' : Hp} {v : V} {q : Dv} (e : Ex H H') (h : Dq K H v q) : Dq K H' v q := by
  cases q with
  | dat d => exact dp_ex e h
  | dic kvs => obtain ⟨p, h1, h2⟩ := h; exact ⟨p, h1, ex_rd e h2⟩
  | new kvs => obtain ⟨p, h1, h2⟩ := h; exact ⟨p, h1, e p _ h2⟩
  | pt ns => exact YdV.ex e h
inductive DqAll (K : PySem.W.Frag) (H : Hp) : List V → List Dv → Prop
  | nil : DqAll K H [] []
  | cons {v : V} {vs : List V} {q : Dv} {qs : List Dv} : Dq K H v q → DqAll K H vs qs → DqAll K H (v :: vs) (q :: qs)
theorem DqAll.ex {K : PySem.W.Frag} {H H' : Hp} (e : Ex H H') : ∀ {vs : List V} {qs : List Dv}, DqAll K H vs qs → DqAll K H' vs qs
  | _, _, .nil => .nil
  | _, _, .cons h t => .cons (h.ex e) (DqAll.ex e t)
theorem DqAll.len {K : PySem.W.Frag} {H : Hp} : ∀ {vs : List V} {qs : List Dv}, DqAll K H vs qs → vs.length = qs.length
  | _, _, .nil => rfl
  | _, _, .cons _ t => congrArg Nat.succ (DqAll.len t)
abbrev EQ (X : Cx) (σ : L2.St) (H : Hp) (e : Expr) (q : Dv) : Prop := ER X σ H e fun v H' => Dq X.K H' v q
def tAQ (K : PySem.W.Frag) (σ : L2.St) (H : Hp) (qs : List Dv) : TA := fun σ' H' Q => σ' = σ ∧ Ex H H' ∧ ∀ vs H2, Ex H' H2 → DqAll K H2 vs qs → Q vs H2
abbrev AQ (X : Cx) (σ : L2.St) (H : Hp) (es : List Expr) (qs : List Dv) : Prop := PA X es (tAQ X.K σ H qs)
/-- a def's promise, by data: on arguments qs it may give r -/
def SpD (K : PySem.W.Frag) (pre : List Dv → Dv → Prop) : Sp := fun vs H Q _ => ∃ qs r, DqAll K H vs qs ∧ pre qs r ∧ ∀ v H', Ex H H' → Dq K H' v r → Q v H'
/-- what follows -/
def SX (X : Cx) (σ : L2.St) (H : Hp) (st : List Stmt) (D : Ends) : Prop := ∀ pins s, Inv X pins σ H s → wpAny (model X.prog X.w) X.A (execs st X.env) (SP X pins D) X.xe s
section
variable {X : Cx} {σ : L2.St} {H : Hp} {e a b c : Expr} {es : List Expr} {R R' : V → Hp → Prop} {d d' : PyData} {ds : List PyData} {q : Dv} {qs : List Dv} {st : Stmt} {rest body : List Stmt} {D : Ends} {pos p : Pos}
theorem aqNil : AQ X σ H [] [] := ⟨fun pos pins s σ' H' Q I q => by
  obtain ⟨rfl, e2, q⟩ := q
  exact pa_nil.run pos pins s _ H' Q I (q [] H' (Ex.refl _) .nil)⟩
theorem aqCons (ha : EQ X σ H e q) (hr : AQ X σ H es qs) (hs : starEach (e :: es) X.env = (false, eval e X.env) :: starEach es X.env := by rfl) : AQ X σ H (e :: es) (q :: qs) := ⟨fun pos pins s σ' H' Q I k => by
  obtain ⟨rfl, e2, k⟩ := k
  exact (pa_cons ha hr hs).run pos pins s _ H' Q I ⟨rfl, e2, fun v H2 e3 dv => ⟨rfl, e2.trans e3, fun vs H3 e4 dvs => k _ H3 (e3.trans e4) (.cons (dv.ex e4) dvs)⟩⟩⟩
theorem EX.toQ (h : EX X σ H e d) : EQ X σ H e (.dat d) := h
theorem qV (i : Nat) {x : Str} {v : V} (hs : σ[i]? = some (some v)) (hd : Dq X.K H v q) (h : PE X (.Name x pos) (tVar i)) : EQ X σ H (.Name x pos) q := .of h fun H1 e1 Q k => ⟨v, hs, k v H1 (Ex.refl _) (hd.ex e1)⟩
/-- a def is called -/
theorem xCall {k : Nat} {f : Addr} {fd : FuncData} {ps : List Str} {pre : List Dv → Dv → Prop} {r : Dv} {x : Str} (F : FnOk X.prog X.w X.K X.mg X.base CX0 k f fd ps (SpD X.K pre)) (hr : Room k X.A) (hm : X.mg x = some (.ref f)) (hk : PySem.W.keepIn X.K (.ref f) = true) (hb : Binds X.K fd ps []) (ha : AQ X σ H (e :: es) qs) (hp : pre qs r)
    (hg : Gl X x) (hdb : (x == ("__debug__" : Str)) = false := by decide) (he : starEach (e :: es) X.env = (false, eval e X.env) :: starEach es X.env := by rfl) (hpl : (backTo pos (starEach es X.env)).any (·.1) = false := by rfl) : EQ X σ H (.Call (.Name x p) (e :: es) [] pos) r :=
  .of (pe_call (E := fun _ _ _ => False) F hr hg hm hk hb .nil (fun _ _ _ _ _ _ _ z => False.elim z) ha hdb he hpl) fun H1 e1 Q k => ⟨rfl, e1, fun vs H2 e2 dvs => by
    refine ⟨qs, r, ?_, hp, fun v H' e' dv => k v H' (e2.trans e') dv⟩
    rw [List.append_nil]
    exact dvs⟩
/-- the same, the last arguments by default -/
theorem xCallD {k : Nat} {f : Addr} {fd : FuncData} {ps : List Str} {pre : List Dv → Dv → Prop} {r : Dv} {x : Str} {dvs0 : List V} {ds0 : List Value} {qs0 : List Dv} (F : FnOk X.prog X.w X.K X.mg X.base CX0 k f fd ps (SpD X.K pre)) (hr : Room k X.A) (hm : X.mg x = some (.ref f)) (hk : PySem.W.keepIn X.K (.ref f) = true) (hb : Binds X.K fd ps ds0) (hd : Vals dvs0 ds0) (hq : ∀ H', DqAll X.K H' dvs0 qs0)
    (ha : AQ X σ H (e :: es) qs) (hp : pre (qs ++ qs0) r) (hg : Gl X x) (hdb : (x == ("__debug__" : Str)) = false := by decide) (he : starEach (e :: es) X.env = (false, eval e X.env) :: starEach es X.env := by rfl) (hpl : (backTo pos (starEach es X.env)).any (·.1) = false := by rfl) : EQ X σ H (.Call (.Name x p) (e :: es) [] pos) r :=
  .of (pe_call (E := fun _ _ _ => False) F hr hg hm hk hb hd (fun _ _ _ _ _ _ _ z => False.elim z) ha hdb he hpl) fun H1 e1 Q k => ⟨rfl, e1, fun vs H2 e2 dvs => by
    have app : ∀ {vs : List V} {qs : List Dv}, DqAll X.K H2 vs qs → DqAll X.K H2 (vs ++ dvs0) (qs ++ qs0) := fun {vs qs} h => by
      induction h with
      | nil => exact hq H2
      | cons a _ ih => exact .cons a ih
    exact ⟨qs ++ qs0, r, app dvs, hp, fun v H' e' dv => k v H' (e2.trans e') dv⟩⟩

/-! ### statements -/
theorem SX.pss : PSs X rest (fun D σ H => SX X σ H rest D) := ⟨fun pins s σ H D I h => h pins s I⟩
theorem sxNil (h : D.nx σ H) : SX X σ H [] D := fun pins s I => pss_nil.run pins s σ H D I h
theorem sxOf {t : TS} (h : PS X st t) (k : t { D with nx := fun σ' H' => SX X σ' H' rest D } σ H) : SX X σ H (st :: rest) D := fun pins s I => (pss_cons h SX.pss).run pins s σ H D I k
theorem sxSet {i : Nat} {x : Str} {pos' : Pos} (he : ER X σ H e R) (k : ∀ v H2, Ex H H2 → R v H2 → SX X (σ.set i (some v)) H2 rest D) (hN : X.N.Nodup) (hi : X.N[i]? = some x := by rfl) (hx : Loc X.env.scope x := by first | exact .inl rfl | exact .inr rfl) (hs : swapsWith e (some (.Name x pos')) pos.line X.env = pure false := by rfl)
    (hf : X.fn x = true ∨ X.env.scope.names.lookup x = some .local := by first | exact .inl rfl | exact .inr rfl | assumption) : SX X σ H (.Assign [.Name x pos'] e pos :: rest) D :=
  sxOf (ps_set hN hi hx he hs hf) ⟨rfl, Ex.refl _, fun v H2 e2 r => k v H2 e2 r⟩
theorem sxRet (he : ER X σ H e R) (k : ∀ v H2, Ex H H2 → R v H2 → D.rt v H2) : SX X σ H (.Return (some e) pos :: rest) D := sxOf (ps_ret he) ⟨rfl, Ex.refl _, fun v H2 e2 r => k v H2 e2 r⟩
theorem sxIf {c0 : Bool} {orelse : List Stmt} (ht : TX X σ H c c0) (k : ∀ H2, Ex H H2 → (c0 = true → SX X σ H2 body { D with nx := fun σ' H' => SX X σ' H' rest D }) ∧ (c0 = false → SX X σ H2 orelse { D with nx := fun σ' H' => SX X σ' H' rest D })) : SX X σ H (.If c body orelse pos :: rest) D :=
  sxOf (ps_if ht SX.pss SX.pss) ⟨rfl, Ex.refl _, fun H2 e2 => by
    cases c0 with
    | true => exact (k H2 e2).1 rfl
    | false => exact (k H2 e2).2 rfl⟩
/-- an if without else -/
theorem sxWhen {c0 : Bool} (ht : TX X σ H c c0) (h1 : c0 = true → ∀ H2, Ex H H2 → SX X σ H2 body { D with nx := fun σ' H' => SX X σ' H' rest D }) (h2 : c0 = false → ∀ H2, Ex H H2 → SX X σ H2 rest D) : SX X σ H (.If c body [] pos :: rest) D :=
  sxIf ht fun H2 e2 => ⟨fun z => h1 z H2 e2, fun z => sxNil (h2 z H2 e2)⟩
theorem sxDrop (he : ER X σ H e R) (k : ∀ v H2, Ex H H2 → R v H2 → SX X σ H2 rest D) (hs : swapsWith e none pos.line X.env = pure false := by rfl) : SX X σ H (.Expr e pos :: rest) D := sxOf (ps_expr he hs) ⟨rfl, Ex.refl _, fun v H2 e2 r => k v H2 e2 r⟩
/-- a, b = x, y -/
theorem aR2 {R1 R2 : V → Hp → Prop} (ha : ER X σ H a R1) (hb : ER X σ H b R2) (m1 : ∀ v H1 H2, Ex H1 H2 → R1 v H1 → R1 v H2) (h1 : starEach [a, b] X.env = (false, eval a X.env) :: starEach [b] X.env := by rfl) (h2 : starEach [b] X.env = (false, eval b X.env) :: starEach [] X.env := by rfl) :
    PA X [a, b] (fun σ' H' Q => σ' = σ ∧ Ex H H' ∧ ∀ v u H2, Ex H' H2 → R1 v H2 → R2 u H2 → Q [v, u] H2) := ⟨fun pos pins s σ' H' Q I k => by
  obtain ⟨rfl, e2, k⟩ := k
  exact (pa_cons ha (pa_cons hb pa_nil h2) h1).run pos pins s _ H' Q I ⟨rfl, e2, fun v H2 e3 dv => ⟨rfl, e2.trans e3, fun u H3 e4 du => k v u H3 (e3.trans e4) (m1 _ _ _ e4 dv) du⟩⟩⟩
theorem sxPar {i j : Nat} {x y : Str} {px py pt pt2 : Pos} {kt k2} {R1 R2 : V → Hp → Prop} (hc : X.calm = true) (hN : X.N.Nodup) (ha : ER X σ H a R1) (hb : ER X σ H b R2) (m1 : ∀ v H1 H2, Ex H1 H2 → R1 v H1 → R1 v H2) (k : ∀ v u H2, Ex H H2 → R1 v H2 → R2 u H2 → SX X ((σ.set i (some v)).set j (some u)) H2 rest D) (hij : i ≠ j := by decide)
    (hi : X.N[i]? = some x := by rfl) (hj : X.N[j]? = some y := by rfl) (hx : X.env.scope.names.lookup x = some .local := by rfl) (hy : X.env.scope.names.lookup y = some .local := by rfl) (h1 : starEach [a, b] X.env = (false, eval a X.env) :: starEach [b] X.env := by rfl) (h2 : starEach [b] X.env = (false, eval b X.env) :: starEach [] X.env := by rfl)
    (hw : swappedStores [.Tuple [.Name x px, .Name y py] kt pt] (.Tuple [a, b] k2 pt2) X.env = pure (some [x, y]) := by rfl) (hs : swapsWithSole [.Tuple [.Name x px, .Name y py] kt pt] (.Tuple [a, b] k2 pt2) pos.line X.env = pure false := by rfl) :
    SX X σ H (.Assign [.Tuple [.Name x px, .Name y py] kt pt] (.Tuple [a, b] k2 pt2) pos :: rest) D :=
  sxOf (ps_par hc hN hi hj hij hx hy (aR2 ha hb m1 h1 h2) hw hs) ⟨rfl, Ex.refl _, fun v u H2 e2 r1 r2 => ⟨v, u, rfl, k v u H2 e2 r1 r2⟩⟩
/-- a, b = a tuple -/
theorem sxUn2 {i j : Nat} {x y : Str} {px py pt : Pos} {kt} {d1 d2 : PyData} (hc : X.calm = true) (hN : X.N.Nodup) (he : EX X σ H e (.tuple [d1, d2])) (k : ∀ v u H2, Ex H H2 → Dp X.K H2 v d1 → Dp X.K H2 u d2 → SX X ((σ.set i (some v)).set j (some u)) H2 rest D)
    (hi : X.N[i]? = some x := by rfl) (hj : X.N[j]? = some y := by rfl) (hx : Loc X.env.scope x := by first | exact .inl rfl | exact .inr rfl) (hy : Loc X.env.scope y := by first | exact .inl rfl | exact .inr rfl) (hs : swapsWithSole [.Tuple [.Name x px, .Name y py] kt pt] e pos.line X.env = pure false := by rfl)
    (hw : swappedStores [.Tuple [.Name x px, .Name y py] kt pt] e X.env = pure none := by rfl) (hfx : X.fn x = true ∨ X.env.scope.names.lookup x = some .local := by first | exact .inl rfl | exact .inr rfl) (hfy : X.fn y = true ∨ X.env.scope.names.lookup y = some .local := by first | exact .inl rfl | exact .inr rfl) :
    SX X σ H (.Assign [.Tuple [.Name x px, .Name y py] kt pt] e pos :: rest) D :=
  sxOf (ps_asg he (pg_tup hc (pgs_cons (pg_name hN hi hx hfx) (pgs_cons (pg_name hN hj hy hfy) pgs_nil))) hs hw rfl) ⟨rfl, Ex.refl _, fun v H2 e2 r => by
    obtain ⟨t, vs, rfl, ht, da⟩ := dp_tup r
    obtain ⟨u1, u2, rfl, q1, q2⟩ := dpAll_two da
    exact ⟨t, _, rfl, ht, rfl, _, _, rfl, _, _, rfl, rfl, k u1 u2 H2 e2 q1 q2⟩⟩
end
section
variable {P : Program} {w : World} {K : PySem.W.Frag} {mg : Str → Option Value} {base : Heap}
/-- a def by its body's data -/
theorem fnD {x qual : Str} {st : Stmt} {f : Addr} {fd : FuncData} {N ps : List Str} {k n : Nat} {pre : List Dv → Dv → Prop} (F : Fun K x qual st f fd) (S : FnScope N ps (defScope st)) (hlen : ∀ qs r, pre qs r → qs.length = n) (hps : ps.length = n)
    (hbody : ∀ (cdv : Value) (A : Around) (outer : List Env) (s : Shared) (H : Hp) (vs : List V) (qs : List Dv) (r : Dv) (Q : VK) (E : XK), Room k (A.deeper (envOfC qual (defScope st) s.heap.objs.size f cdv)) → pre qs r → DqAll K H vs qs → (∀ v H', Ex H H' → Dq K H' v r → Q v H') →
      SX (cxOf CX0 P w K mg base N qual (defScope st) f cdv A outer s H E).nox (L2.start N vs) H (defBody st) { nx := fun _ H' => Q .non H', rt := Q }) : FnOk P w K mg base CX0 (k + 1) f fd ps (SpD K pre) := by
  refine F.ok S (fun vs H Q E h => ?_) fun cdv A outer s H vs Q E hr h => ⟨_, SX.pss, ?_⟩
  · obtain ⟨qs, r, h1, h2, _⟩ := h
    rw [h1.len, hlen qs r h2, hps]
  · obtain ⟨qs, r, h1, h2, h3⟩ := h
    exact hbody cdv A outer s H vs qs r Q E hr h2 h1 h3
end
end GX
end SGLay3
section SGLay4
set_option linter.all false
set_option maxRecDepth 100000
set_option maxHeartbeats 1000000
/-! more rules by data -/
namespace GX
open PySem PySem.Spec PyProof.Rows L2
open Evl StX

section
variable {X : Cx} {σ : L2.St} {H : Hp} {e a b c : Expr} {es : List Expr} {R R' : V → Hp → Prop} {d d' : PyData} {ds : List PyData} {ns : List Int} {q : Dv} {qs : List Dv} {pos p p2 : Pos} {i j : Int}
/-! isinstance -/
theorem kit_int_int (K : PySem.W.Frag) : PySem.W.kitOne K (.type "int") (.type "int") = some true := by first | rfl | kernel_rfl
theorem kit_int_bool (K : PySem.W.Frag) : PySem.W.kitOne K (.type "int") (.type "bool") = some false := by first | rfl | kernel_rfl
theorem kit_tup_tup (K : PySem.W.Frag) : PySem.W.kitOne K (.type "tuple") (.type "tuple") = some true := by first | rfl | kernel_rfl
theorem tyx_tup {K : PySem.W.Frag} {H : Hp} {v : V} (h : Dp K H v (.tuple ds)) : TyX K H v (.type "tuple") := by
  obtain ⟨t, vs, rfl, hq, _⟩ := dp_tup h
  rcases hq with (hq | ⟨o, hq⟩) | ⟨o, _, _, hq, hc, _⟩
  · exact .base (.tup hq)
  · exact .fTuple hq
  · exact .kTuple hq hc
theorem xIsi {x T : Str} {t : String} {ty : Value} {r : Bool} (hg : Gl X "isinstance") (hm : X.mg "isinstance" = none) (hgT : Gl X T) (hmT : X.mg T = none) (hvT : bootBuiltins T = some (.type t)) (ha : EX X σ H a d) (hty : ∀ K H v, Dp K H v d → TyX K H v ty) (hk : ∀ K, PySem.W.kitOne K ty (.type t) = some r)
    (hn : T ≠ "__name__" := by decide) (hdb : (T == ("__debug__" : Str)) = false := by decide) (h1 : starEach [a, .Name T p2] X.env = (false, eval a X.env) :: starEach [.Name T p2] X.env := by rfl) (h2 : starEach [.Name T p2] X.env = (false, eval (.Name T p2) X.env) :: starEach [] X.env := by rfl) :
    EX X σ H (.Call (.Name "isinstance" p) [a, .Name T p2] [] pos) (.bool r) :=
  .of (pe_callB call_isi hg hm boot_isinstance (pa_cons ha (pa_cons (pe_bltn (v := .ty t) hgT hmT hvT rfl hn hdb) pa_nil h2) h1) (by decide) (by decide) h1 (by rw [h2]; rfl)) fun H1 e1 Q k => ⟨rfl, e1, fun v H2 e2 dv => ⟨v, .ty t, ty, .type t, r, rfl, .ty t, hty _ _ _ dv, hk _, k _ H2 e2 (.bl r)⟩⟩
theorem xIsInt (hg : Gl X "isinstance") (hm : X.mg "isinstance" = none) (hgT : Gl X "int") (hmT : X.mg "int" = none) (ha : EX X σ H a (.int i)) (h1 : starEach [a, .Name "int" p2] X.env = (false, eval a X.env) :: starEach [.Name "int" p2] X.env := by rfl) (h2 : starEach [.Name "int" p2] X.env = (false, eval (.Name "int" p2) X.env) :: starEach [] X.env := by rfl) :
    EX X σ H (.Call (.Name "isinstance" p) [a, .Name "int" p2] [] pos) (.bool true) := xIsi (x := "") hg hm hgT hmT PyProof.Rows.boot_int ha (fun K H v h => by rw [dp_int h]; exact .base (.int i)) kit_int_int (by decide) (by decide) h1 h2
theorem xIsBool (hg : Gl X "isinstance") (hm : X.mg "isinstance" = none) (hgT : Gl X "bool") (hmT : X.mg "bool" = none) (ha : EX X σ H a (.int i)) (h1 : starEach [a, .Name "bool" p2] X.env = (false, eval a X.env) :: starEach [.Name "bool" p2] X.env := by rfl) (h2 : starEach [.Name "bool" p2] X.env = (false, eval (.Name "bool" p2) X.env) :: starEach [] X.env := by rfl) :
    EX X σ H (.Call (.Name "isinstance" p) [a, .Name "bool" p2] [] pos) (.bool false) := xIsi (x := "") hg hm hgT hmT (by decide +kernel) ha (fun K H v h => by rw [dp_int h]; exact .base (.int i)) kit_int_bool (by decide) (by decide) h1 h2
theorem xIsTup (hg : Gl X "isinstance") (hm : X.mg "isinstance" = none) (hgT : Gl X "tuple") (hmT : X.mg "tuple" = none) (ha : EX X σ H a (.tuple ds)) (h1 : starEach [a, .Name "tuple" p2] X.env = (false, eval a X.env) :: starEach [.Name "tuple" p2] X.env := by rfl) (h2 : starEach [.Name "tuple" p2] X.env = (false, eval (.Name "tuple" p2) X.env) :: starEach [] X.env := by rfl) :
    EX X σ H (.Call (.Name "isinstance" p) [a, .Name "tuple" p2] [] pos) (.bool true) := xIsi (x := "") hg hm hgT hmT PyProof.Rows.boot_tuple ha (fun K H v h => tyx_tup h) kit_tup_tup (by decide) (by decide) h1 h2
/-! is None, is not None -/
def nonD : PyData → Bool
  | .none => true
  | _ => false
theorem dp_non_iff {K : PySem.W.Frag} {H : Hp} {v : V} (h : Dp K H v d) : decide (v = .non) = nonD d := by
  cases h <;> rfl
theorem xIsNone (ha : EX X σ H a d) {jj pos'} : EX X σ H (.Compare a [.Is] [.Constant .none jj pos'] pos) (.bool (nonD d)) :=
  .of (pe_cmp (pc_isN ha)) fun H1 e1 Q k => ⟨rfl, e1, fun v H2 e2 dv => (by
    have e : decide (v = .non) = nonD d := dp_non_iff dv
    show Q (.bl (decide (v = .non))) H2
    rw [e]
    exact k _ H2 e2 (.bl _))⟩
theorem ttIsNone (ha : EX X σ H a d) {jj pos'} : TX X σ H (.Compare a [.Is] [.Constant .none jj pos'] pos) (nonD d) :=
  .of (pt_cmp (pc_isN ha)) fun H1 e1 Q k => ⟨rfl, e1, fun v H2 e2 dv => ⟨_, rfl, by first | (rw [dp_non_iff dv]; exact k H2 e2)⟩⟩
theorem ttNotNone (ha : EX X σ H a d) {jj pos'} : TX X σ H (.Compare a [.IsNot] [.Constant .none jj pos'] pos) (!nonD d) :=
  .of (pt_cmp (pc_notN ha)) fun H1 e1 Q k => ⟨rfl, e1, fun v H2 e2 dv => ⟨_, rfl, by first | (rw [dp_non_iff dv]; exact k H2 e2)⟩⟩
/-! if else, and / or as values -/
theorem xIfT {c0 : Bool} {test : Expr} (ht : TX X σ H test c0) (h1 : c0 = true → ER X σ H a R) (h2 : c0 = false → ER X σ H b R) : ER X σ H (.IfExp test a b pos) R := by
  refine ⟨fun pins s σ' H' Q I k => ?_⟩
  obtain ⟨rfl, e1, k⟩ := k
  refine wpAny_IfExp (thn (ht.run pins s _ H' (fun c H2 => c = c0 ∧ Ex H' H2) I ⟨rfl, e1, fun H2 e2 => ⟨rfl, e2⟩⟩) fun d s1 ⟨H1, I1, ec, e2⟩ => ?_)
  subst ec
  cases d with
  | true => exact (h1 rfl).run pins s1 _ H1 Q I1 ⟨rfl, e1.trans e2, fun v H3 e3 r => k v H3 (e2.trans e3) r⟩
  | false => exact (h2 rfl).run pins s1 _ H1 Q I1 ⟨rfl, e1.trans e2, fun v H3 e3 r => k v H3 (e2.trans e3) r⟩
theorem xAnd {c1 c2 : Bool} {rest : List Expr} (h1 : EX X σ H a (.bool c1)) (h2 : c1 = true → EX X σ H (.BoolOp .And (b :: rest) pos) (.bool c2)) : EX X σ H (.BoolOp .And (a :: b :: rest) pos) (.bool (c1 && c2)) := by
  refine ⟨fun pins s σ' H' Q I k => ?_⟩
  obtain ⟨rfl, e1, k⟩ := k
  refine BoolOp_and (thn (h1.run pins s _ H' (fun v H2 => v = .bl c1 ∧ Ex H' H2) I ⟨rfl, e1, fun v H2 e2 dv => ⟨dp_bl dv, e2⟩⟩) fun v s1 ⟨x, H1, I1, r1, ex, e2⟩ => ?_)
  subst ex
  cases r1
  refine wpAny_truthy_bool ?_
  cases c1 with
  | true => exact (h2 rfl).run pins s1 _ H1 Q I1 ⟨rfl, e1.trans e2, fun v H3 e3 r => k v H3 (e2.trans e3) r⟩
  | false => exact ⟨.bl false, H1, I1, rfl, k _ H1 e2 (.bl false)⟩
theorem xOr {c1 c2 : Bool} {rest : List Expr} (h1 : EX X σ H a (.bool c1)) (h2 : c1 = false → EX X σ H (.BoolOp .Or (b :: rest) pos) (.bool c2)) : EX X σ H (.BoolOp .Or (a :: b :: rest) pos) (.bool (c1 || c2)) := by
  refine ⟨fun pins s σ' H' Q I k => ?_⟩
  obtain ⟨rfl, e1, k⟩ := k
  refine BoolOp_or (thn (h1.run pins s _ H' (fun v H2 => v = .bl c1 ∧ Ex H' H2) I ⟨rfl, e1, fun v H2 e2 dv => ⟨dp_bl dv, e2⟩⟩) fun v s1 ⟨x, H1, I1, r1, ex, e2⟩ => ?_)
  subst ex
  cases r1
  refine wpAny_truthy_bool ?_
  cases c1 with
  | false => exact (h2 rfl).run pins s1 _ H1 Q I1 ⟨rfl, e1.trans e2, fun v H3 e3 r => k v H3 (e2.trans e3) r⟩
  | true => exact ⟨.bl true, H1, I1, rfl, k _ H1 e2 (.bl true)⟩
theorem xOne {op} (h : ER X σ H a R) : ER X σ H (.BoolOp op [a] pos) R := .of (pe_one h) fun H1 e1 Q k => ⟨rfl, e1, k⟩
theorem xNot {c0 : Bool} (h : EX X σ H a (.bool c0)) : EX X σ H (.UnaryOp .Not a pos) (.bool (!c0)) := .of (pe_not h) fun H1 e1 Q k => ⟨rfl, e1, fun v H2 e2 dv => ⟨c0, dp_bl dv, k _ H2 e2 (.bl _)⟩⟩
/-! subscripts -/
theorem atI_dp {K : PySem.W.Frag} {H : Hp} {vs : List V} (h : DpAll K H vs ds) (e : atI ds i = some d) : ∃ v, atI vs i = some v ∧ Dp K H v d := by
  unfold atI at e ⊢
  rw [dpAll_len h]
  cases q : ixN ds.length i with
  | none => rw [q] at e; cases e
  | some jj =>
    rw [q] at e
    exact dpAll_get h e
theorem xIx (ha : EX X σ H a (.tuple ds)) (hb : EX X σ H b (.int i)) (e : atI ds i = some d) (hs : PlainIx b := by exact fun _ _ => rfl) : EX X σ H (.Subscript a b pos) d :=
  .of (pe_ix ix_tup ha hb hs) fun H1 e1 Q k => ⟨rfl, e1, fun v H2 e2 dv => ⟨rfl, e1.trans e2, fun u H3 e3 du => by
    obtain ⟨t, vs, rfl, ht, da⟩ := dp_tup dv
    obtain ⟨w, hw, dw⟩ := atI_dp (dpAll_ex e3 da) e
    exact ⟨t, vs, i, w, rfl, dp_int du, sqT_ex e3 ht, hw, k w H3 (e2.trans e3) dw⟩⟩⟩
theorem xIxL (ha : EX X σ H a (.list ds)) (hb : EX X σ H b (.int i)) (e : atI ds i = some d) (hs : PlainIx b := by exact fun _ _ => rfl) : EX X σ H (.Subscript a b pos) d :=
  .of (pe_ix ix_list ha hb hs) fun H1 e1 Q k => ⟨rfl, e1, fun v H2 e2 dv => ⟨rfl, e1.trans e2, fun u H3 e3 du => by
    obtain ⟨t, vs, rfl, ht, da⟩ := dp_lst dv
    obtain ⟨w, hw, dw⟩ := atI_dp (dpAll_ex e3 da) e
    exact ⟨t, vs, i, w, rfl, dp_int du, sqL_ex e3 ht, hw, k w H3 (e2.trans e3) dw⟩⟩⟩
/-! max, min of two, abs, int, len -/
theorem xMax2 (hc : X.calm = true) (hg : Gl X "max") (hm : X.mg "max" = none) (ha : EX X σ H a (.int i)) (hb : EX X σ H b (.int j)) (h1 : starEach [a, b] X.env = (false, eval a X.env) :: starEach [b] X.env := by rfl) (h2 : starEach [b] X.env = (false, eval b X.env) :: starEach [] X.env := by rfl) :
    EX X σ H (.Call (.Name "max" p) [a, b] [] pos) (.int (max i j)) :=
  xCallB (call_max2 hc) hg hm PyProof.Rows.boot_max (aCons ha (aCons hb aNil h2) h1) (fun vs H1 e1 dv Q k => by
    obtain ⟨v, u, rfl, dw, du⟩ := dpAll_two dv
    refine ⟨i, j, by rw [dp_int dw, dp_int du], ?_⟩
    have e : (if j > i then j else i) = max i j := by
      split <;> omega
    rw [e]
    exact k _ H1 (Ex.refl _) (.int _)) (he := h1) (hpl := by rw [h2]; rfl)
theorem xMin2 (hc : X.calm = true) (hg : Gl X "min") (hm : X.mg "min" = none) (ha : EX X σ H a (.int i)) (hb : EX X σ H b (.int j)) (h1 : starEach [a, b] X.env = (false, eval a X.env) :: starEach [b] X.env := by rfl) (h2 : starEach [b] X.env = (false, eval b X.env) :: starEach [] X.env := by rfl) :
    EX X σ H (.Call (.Name "min" p) [a, b] [] pos) (.int (min i j)) :=
  xCallB (call_min2 hc) hg hm PyProof.Rows.boot_min (aCons ha (aCons hb aNil h2) h1) (fun vs H1 e1 dv Q k => by
    obtain ⟨v, u, rfl, dw, du⟩ := dpAll_two dv
    refine ⟨i, j, by rw [dp_int dw, dp_int du], ?_⟩
    have e : (if j < i then j else i) = min i j := by
      split <;> omega
    rw [e]
    exact k _ H1 (Ex.refl _) (.int _)) (he := h1) (hpl := by rw [h2]; rfl)
theorem xAbs (hg : Gl X "abs") (hm : X.mg "abs" = none) (ha : EX X σ H a (.int i)) (h1 : starEach [a] X.env = (false, eval a X.env) :: starEach [] X.env := by rfl) : EX X σ H (.Call (.Name "abs" p) [a] [] pos) (.int (if i < 0 then -i else i)) :=
  xCallB call_abs hg hm boot_abs (aCons ha aNil h1) (fun vs H1 e1 dv Q k => by
    obtain ⟨v, rfl, dw⟩ := dpAll_one dv
    exact ⟨i, by rw [dp_int dw], k _ H1 (Ex.refl _) (.int _)⟩) (he := h1)
theorem xIntB {c0 : Bool} (hg : Gl X "int") (hm : X.mg "int" = none) (ha : EX X σ H a (.bool c0)) (h1 : starEach [a] X.env = (false, eval a X.env) :: starEach [] X.env := by rfl) : EX X σ H (.Call (.Name "int" p) [a] [] pos) (.int (if c0 then 1 else 0)) :=
  xCallTy call_int1 hg hm PyProof.Rows.boot_int (aCons ha aNil h1) (fun vs H1 e1 dv Q k => by
    obtain ⟨v, rfl, dw⟩ := dpAll_one dv
    exact .inr ⟨c0, by rw [dp_bl dw], k _ H1 (Ex.refl _) (.int _)⟩) (he := h1)
/-! module constants -/
theorem xGlob {x : Str} {v : V} {u : Value} (hm : X.mg x = some u) (r : RelV v u) (hd : ∀ H', Dp X.K H' v d) (hg : Gl X x) (hdb : (x == ("__debug__" : Str)) = false := by decide) : EX X σ H (.Name x pos) d := .of (pe_glob hg hm r hdb) fun H1 e1 Q k => k v H1 (Ex.refl _) (hd H1)
end
end GX
end SGLay4
section SGLay5
set_option linter.all false
set_option maxRecDepth 100000
set_option maxHeartbeats 1000000
/-! comprehensions and loops by data -/
namespace GX
open PySem PySem.Spec PyProof.Rows L2
open Evl StX

/-- what gives the data ds, one after another, while nothing that stands is changed -/
structure Src (X : Cx) (σ : L2.St) (H : Hp) (tg it : Expr) (ds : List PyData) : Prop where
  run : ∃ wi, PI X tg it wi ∧ ∀ H1, Ex H H1 → ∀ Q : It → Hp → Prop,
    (∀ J H2 Gd Y, Ex H1 H2 → Walk J ds.length Gd Y → Gd H2 → (∀ Ha Hb, Ex Ha Hb → Gd Ha → Gd Hb) → (∀ i Ha x Hb, Gd Ha → Y i Ha x Hb → Ex Ha Hb ∧ ∃ d, ds[i]? = some d ∧ Dp X.K Hb x d) → Q J H2) → wi σ H1 Q
section
variable {X : Cx} {σ : L2.St} {H : Hp} {e a b c tg it elt : Expr} {es : List Expr} {R R' : V → Hp → Prop} {d d' : PyData} {ds : List PyData} {ns : List Int} {pos p p2 : Pos} {i j : Int}
theorem dpAll_at {K : PySem.W.Frag} {H : Hp} {vs : List V} (h : DpAll K H vs ds) {i : Nat} {x : V} (e : vs[i]? = some x) : ∃ d, ds[i]? = some d ∧ Dp K H x d := by
  induction ds generalizing vs i with
  | nil => cases h; simp at e
  | cons d0 ds ih =>
    cases h with
    | cons a t =>
      cases i with
      | zero => simp at e; subst e; exact ⟨_, rfl, a⟩
      | succ i =>
        obtain ⟨d, h1, h2⟩ := ih t (i := i) (by simpa using e)
        exact ⟨d, by simpa using h1, h2⟩
theorem srT (he : EX X σ H it (.tuple ds)) : Src X σ H tg it ds := ⟨_, pi_tup he, fun H1 e1 Q q => ⟨rfl, e1, fun v H2 e2 dv => by
  obtain ⟨t, vs, rfl, ht, da⟩ := dp_tup dv
  refine ⟨t, rfl, ⟨vs, ht⟩, q (Itt X.K t) H2 (fun H' => SqT X.K H' t vs ∧ DpAll X.K H' vs ds) (YAt vs) e2 ?_ ⟨ht, da⟩ (fun Ha Hb e3 h => ⟨sqT_ex e3 h.1, dpAll_ex e3 h.2⟩) fun i Ha x Hb h y => ?_⟩
  · rw [← dpAll_len da]
    exact walk_tup.mono (fun H' h => h.1) fun _ _ _ _ _ _ y => y
  · obtain ⟨rfl, y⟩ := y
    exact ⟨Ex.refl _, dpAll_at h.2 y⟩⟩⟩
theorem srL (he : EX X σ H it (.list ds)) : Src X σ H tg it ds := ⟨_, pi_list he, fun H1 e1 Q q => ⟨rfl, e1, fun v H2 e2 dv => by
  obtain ⟨t, vs, rfl, ht, da⟩ := dp_lst dv
  refine ⟨t, rfl, ⟨vs, ht⟩, q (Itl X.K t) H2 (fun H' => SqL X.K H' t vs ∧ DpAll X.K H' vs ds) (YAt vs) e2 ?_ ⟨ht, da⟩ (fun Ha Hb e3 h => ⟨sqL_ex e3 h.1, dpAll_ex e3 h.2⟩) fun i Ha x Hb h y => ?_⟩
  · rw [← dpAll_len da]
    exact walk_list.mono (fun H' h => h.1) fun _ _ _ _ _ _ y => y
  · obtain ⟨rfl, y⟩ := y
    exact ⟨Ex.refl _, dpAll_at h.2 y⟩⟩⟩
/-- the ints below n -/
def upto (n : Nat) : List Int := (List.range n).map fun (i : Nat) => (i : Int)
def YI (f : Nat → Int) (n : Nat) : Nat → Hp → V → Hp → Prop := fun i Ha x Hb => Hb = Ha ∧ x = .int (f i) ∧ i < n
theorem srR {n : Int} (hg : Gl X "range") (hm : X.mg "range" = none) (ha : EX X σ H a (.int n)) (h1 : -(2 ^ 62) ≤ n) (h2 : n < 2 ^ 62) (hs : starEach [a] X.env = (false, eval a X.env) :: starEach [] X.env := by rfl) :
    Src X σ H tg (.Call (.Name "range" p) [a] [] pos) ((upto n.toNat).map .int) := ⟨_, pi_range1 hg hm (aCons ha aNil hs) (by rw [hs]; rfl), fun H1 e1 Q q => ⟨rfl, e1, fun vs H2 e2 dv => by
  obtain ⟨v, rfl, dw⟩ := dpAll_one dv
  refine ⟨n, by rw [dp_int dw], h1, h2, q _ H2 (fun _ => True) (YI (fun i => (i : Int)) n.toNat) e2 ?_ trivial (fun _ _ _ h => h) fun i Ha x Hb h y => ?_⟩
  · rw [List.length_map, upto, List.length_map, List.length_range]
    exact walk_range.mono (fun H' h => h) fun i _ _ _ hi _ y => ⟨y.1, by rw [y.2]; simp, hi⟩
  · obtain ⟨rfl, rfl, hi⟩ := y
    exact ⟨Ex.refl _, .int i, by simp [upto, hi], .int _⟩⟩⟩
theorem srR2 {m n : Int} (hg : Gl X "range") (hm : X.mg "range" = none) (ha : EX X σ H a (.int m)) (hb : EX X σ H b (.int n)) (hh : -(2 ^ 62) ≤ m ∧ m < 2 ^ 62 ∧ -(2 ^ 62) ≤ n ∧ n < 2 ^ 62) (hs : starEach [a, b] X.env = (false, eval a X.env) :: starEach [b] X.env := by rfl) (hs2 : starEach [b] X.env = (false, eval b X.env) :: starEach [] X.env := by rfl) :
    Src X σ H tg (.Call (.Name "range" p) [a, b] [] pos) ((upto (n - m).toNat).map fun i => .int (m + i)) := ⟨_, pi_range2 hg hm (aCons ha (aCons hb aNil hs2) hs) (by rw [hs, hs2]; rfl) (by rw [hs2]; rfl), fun H1 e1 Q q => ⟨rfl, e1, fun vs H2 e2 dv => by
  obtain ⟨v, u, rfl, dw, du⟩ := dpAll_two dv
  refine ⟨m, n, by rw [dp_int dw, dp_int du], hh, q _ H2 (fun _ => True) (YI (fun i => m + (i : Int)) (n - m).toNat) e2 ?_ trivial (fun _ _ _ h => h) fun i Ha x Hb h y => ?_⟩
  · rw [List.length_map, upto, List.length_map, List.length_range]
    exact walk_range.mono (fun H' h => h) fun i _ _ _ hi _ y => ⟨y.1, y.2, hi⟩
  · obtain ⟨rfl, rfl, hi⟩ := y
    exact ⟨Ex.refl _, .int (m + i), by simp [upto, hi], .int _⟩⟩⟩
/-- the items with their places -/
def enumD (ds : List PyData) : List PyData := (List.range ds.length).map fun (i : Nat) => .tuple [.int (i : Int), ds.getD i .none]
theorem srE {elts : List Expr} {kk : Nat} {tpos : Pos} (hg : Gl X "enumerate") (hm : X.mg "enumerate" = none) (ha : EX X σ H a (.list ds)) (hs : starEach [a] X.env = (false, eval a X.env) :: starEach [] X.env := by rfl) :
    Src X σ H (.Tuple elts kk tpos) (.Call (.Name "enumerate" p) [a] [] pos) (enumD ds) := ⟨_, pi_enum hg hm (aCons ha aNil hs) (by rw [hs]; rfl), fun H1 e1 Q q => ⟨rfl, e1, fun vs H2 e2 dv => by
  obtain ⟨v, rfl, dw⟩ := dpAll_one dv
  obtain ⟨t, us, rfl, ht, da⟩ := dp_lst dw
  refine ⟨t, us, rfl, ht, q _ H2 (fun H' => SqL X.K H' t us ∧ DpAll X.K H' us ds) (YPair (fun i => some (.int (i : Nat))) (fun i => us[i]?)) e2 ?_ ⟨ht, da⟩ (fun Ha Hb e3 h => ⟨sqL_ex e3 h.1, dpAll_ex e3 h.2⟩) fun i Ha x Hb h y => ?_⟩
  · rw [enumD, List.length_map, List.length_range, ← dpAll_len da]
    exact walk_enum.mono (fun H' h => h.1) fun _ _ _ _ _ _ y => y
  · obtain ⟨T, y1, y2, rfl, hT, rfl, e3, e4⟩ := y
    cases e3
    obtain ⟨d, hd, dd⟩ := dpAll_at h.2 e4
    have hi : i < ds.length := (List.getElem?_eq_some_iff.mp hd).1
    refine ⟨Ex.new hT, .tuple [.int (i : Int), ds.getD i .none], by simp [enumD, hi], dp_new_tup hT (.cons (.int _) (.cons ?_ .nil))⟩
    rw [List.getD_eq_getElem?_getD, hd]
    exact dd⟩⟩

/-! ### comprehensions -/
/-- in any block of this comprehension -/
def Blk (X : Cx) (scope : Scope) (F : Cx → Prop) : Prop := ∀ (s : Shared) (H : Hp) (C : Addr) (cl : List (Str × Addr)) (fp : List Addr), F (X.blk s H scope (compEnvC scope cl C X.env) fp)
def tBlk (X : Cx) (scope : Scope) (e : Expr) : TE := fun σ' H' Q => Blk X scope fun B => ∀ pins s, Inv B pins σ' H' s → wpAny (model B.prog B.w) B.A (eval e B.env) (EP B pins σ' Q) B.xe s
def tBlkT (X : Cx) (scope : Scope) (ifs : List Expr) : TT := fun σ' H' Q => Blk X scope fun B => ∀ pins s, Inv B pins σ' H' s →
    wpAny (model B.prog B.w) B.A (forIn ifs true fun c r => if r = true then do let ok ← isTrue c B.env (eval c B.env); pure (ForInStep.yield ok) else pure (ForInStep.yield r)) (TP B pins σ' Q) B.xe s
theorem tBlk_of {scope : Scope} {σ' : L2.St} {H' : Hp} {Q : VK} (h : Blk X scope fun B => ER B σ' H' e R) (k : ∀ v H2, Ex H' H2 → R v H2 → Q v H2) : tBlk X scope e σ' H' Q := fun s H0 C cl fp pins s1 I =>
  (h s H0 C cl fp).run pins s1 σ' H' Q I ⟨rfl, Ex.refl _, k⟩
theorem tBlkT_nil {scope : Scope} {σ' : L2.St} {H' : Hp} {Q : Bool → Hp → Prop} (k : Q true H') : tBlkT X scope [] σ' H' Q := fun s H0 C cl fp pins s1 I => pts_nil.run pins s1 σ' H' Q I k
theorem tBlkT_one {scope : Scope} {σ' : L2.St} {H' : Hp} {Q : Bool → Hp → Prop} {r : Bool} (h : Blk X scope fun B => TX B σ' H' c r) (k : ∀ H2, Ex H' H2 → Q r H2) : tBlkT X scope [c] σ' H' Q := fun s H0 C cl fp pins s1 I =>
  (pts_one (h s H0 C cl fp)).run pins s1 σ' H' Q I ⟨rfl, Ex.refl _, k⟩
/-- the tests of a turn come to r -/
def TXs (X : Cx) (σ : L2.St) (H : Hp) : List Expr → Bool → Prop
  | [], r => r = true
  | [c], r => TX X σ H c r
  | _, _ => False
theorem tBlkT_of {scope : Scope} {σ' : L2.St} {H' : Hp} {Q : Bool → Hp → Prop} {r : Bool} {ifs : List Expr} (h : Blk X scope fun B => TXs B σ' H' ifs r) (hne : ∃ B : Prop, B) (k : ∀ H2, Ex H' H2 → Q r H2) : tBlkT X scope ifs σ' H' Q := by
  intro s H0 C cl fp pins s1 I
  have q := h s H0 C cl fp
  match ifs, q with
  | [], q => cases (show r = true from q); exact pts_nil.run pins s1 σ' H' Q I (k H' (Ex.refl _))
  | [c], q => exact (pts_one (show TX _ σ' H' c r from q)).run pins s1 σ' H' Q I ⟨rfl, Ex.refl _, k⟩
theorem ex_lst {H1 H2 : Hp} {D : Addr} {xs : HO} (e : Ex H1 H2) (h : H1 D = none) : Ex H1 (upd H2 D xs) := fun b o e1 => by
  by_cases hb : b = D
  · subst hb; rw [h] at e1; cases e1
  · rw [upd_ne hb]; exact e b o e1
theorem flat_all {α : Type} {E : α → PyData} : ∀ {xs : List α}, (∀ a ∈ xs, flatD (E a) = true) → flatD.flatDs (xs.map E) = true
  | [], _ => rfl
  | a :: xs, h => by
    show (flatD (E a) && flatD.flatDs (xs.map E)) = true
    rw [h a (by simp), flat_all fun b hb => h b (by simp [hb])]
    rfl
/-- a list comprehension: over the items xs, those that T lets through, each as E tells -/
theorem nLc {α : Type} {xs : List α} {Dd : α → PyData} {T : α → Bool} {E : α → PyData} {ifs : List Expr} {scope : Scope} {own : List (Str × Nat)} {g : TG} (hc : X.calm = true) (hN : X.N.Nodup) (src : Src X σ H tg it (xs.map Dd)) (ok : BlkOk X.N X.env.scope scope own)
    (hg : Blk X scope fun B => PG B tg g) (hz : xs.length ≤ sizeLine) (hf : ∀ a ∈ xs, flatD (E a) = true)
    (step : ∀ a ∈ xs, ∀ v H2, Ex H H2 → Dp X.K H2 v (Dd a) → ∀ Q : L2.St → Hp → Prop, (∀ σ2, wipe σ2 (own.map (·.2)) = wipe σ (own.map (·.2)) → ∀ H3, Ex H2 H3 → (Blk X scope fun B => TXs B σ2 H3 ifs (T a)) → (T a = true → Blk X scope fun B => EX B σ2 H3 elt (E a)) → Q σ2 H3) → g v (wipe σ (own.map (·.2))) H2 Q)
    (hs : ∀ x, foldedSetIterable it X.env x = pure x := by intro _; rfl) : EN X σ H (.ListComp elt [⟨tg, it, ifs, 0⟩] scope pos) ((xs.filter T).map E) := by
  obtain ⟨wi, pi, hwi⟩ := src.run
  refine .of (pe_lc (tt := tBlkT X scope ifs) (te := tBlk X scope elt) hc hN pi ok hg (fun s H0 C cl fp => ⟨fun pins s1 σ' H' Q I q => q s H0 C cl fp pins s1 I⟩) (fun s H0 C cl fp => ⟨fun pins s1 σ' H' Q I q => q s H0 C cl fp pins s1 I⟩) hs) fun H1 e1 Q q => ?_
  refine hwi H1 e1 _ fun J H2 Gd Y e2 W hG0 hGs hY D hD => ?_
  -- the list so far
  refine lc_it W (fun i H' => ∃ H'', Ex H2 H'' ∧ H' = H'' ∧ ∃ vs, H' D = some (.lst vs) ∧ DpAll X.K H' vs (((xs.take i).filter T).map E) ∧ vs.length ≤ i) ⟨_, Ex.new hD, rfl, [], upd_same, .nil, Nat.le_refl _⟩ (fun i H' _ ⟨H'', e3, eh, _⟩ => by subst eh; exact hGs _ _ e3 hG0) ?_ ?_
  · rintro i x H3 H4 hi ⟨_, e3, rfl, vs, hv, dvs, hl⟩ y
    obtain ⟨e4, d, hd, dx⟩ := hY i H3 x H4 (hGs _ _ e3 hG0) y
    rw [List.getElem?_map] at hd
    cases ha : xs[i]? with
    | none => rw [ha] at hd; cases hd
    | some a0 =>
      rw [ha] at hd
      cases hd
      have hmem : a0 ∈ xs := List.mem_of_getElem? ha
      have htake : xs.take (i + 1) = xs.take i ++ [a0] := by rw [List.take_succ, ha]; rfl
      have e04 : Ex H H4 := e1.trans (e2.trans (e3.trans e4))
      refine step a0 hmem x H4 e04 dx _ fun σ2 hw H5 e5 ht hel => ⟨hw, tBlkT_of ht ⟨True, trivial⟩ fun H6 e6 => ?_⟩
      have e26 : Ex H2 H6 := e3.trans (e4.trans (e5.trans e6))
      cases hT : T a0 with
      | false =>
        refine ⟨H6, e26, rfl, vs, (e4.trans (e5.trans e6)) D _ hv, ?_, Nat.le_succ_of_le hl⟩
        rw [htake, List.filter_append, List.filter_cons, hT]
        simp only [Bool.false_eq_true, if_false, List.filter_nil, List.append_nil]
        exact dpAll_ex (e4.trans (e5.trans e6)) dvs
      | true =>
        refine tBlk_of (R := fun v H' => Dp X.K H' v (E a0)) (fun s H0 C cl fp => ER.mono e6 (hel hT s H0 C cl fp)) fun w H7 e7 dw => ?_
        have e37 : Ex H3 H7 := e4.trans (e5.trans (e6.trans e7))
        have hv7 : H7 D = some (.lst vs) := e37 D _ hv
        have mx : Mx H7 (upd H7 D (.lst (vs ++ [w]))) := Mx.upd hv7 (fun _ => by simp) (fun _ _ => by simp)
        refine ⟨vs, hv7, by rw [List.length_map] at hi; omega, _, ex_lst (e3.trans e37) hD, rfl, vs ++ [w], upd_same, ?_, by rw [List.length_append]; simp; omega⟩
        rw [htake, List.filter_append, List.filter_cons, hT]
        simp only [if_true, List.filter_nil, List.map_append, List.map_cons, List.map_nil]
        refine dpAll_app (dpAll_mx mx (flat_all fun a ha => hf a (List.mem_of_mem_take (List.mem_filter.mp ha).1)) (dpAll_ex e37 dvs)) (.cons (dp_mx mx (hf a0 hmem) dw) .nil)
  · rintro H' ⟨_, e3, rfl, vs, hv, dvs, hl⟩
    refine q (.ref D) H' (e2.trans e3) ⟨D, rfl, Evl.fresh_back (e1.trans e2) hD, vs, hv, ?_⟩
    rw [List.length_map, List.take_length] at dvs
    exact dvs
end
end GX
end SGLay5
section SGLay6
set_option linter.all false
set_option maxRecDepth 100000
set_option maxHeartbeats 1000000
/-! dicts of ints; dict comprehensions; locks -/
namespace GX
open PySem PySem.Spec PyProof.Rows L2
open Evl StX

/-! ### the plain side -/
def getI (kvs : List (Int × Int)) (k : Int) : Option Int := (kvs.find? fun kv => decide (kv.1 = k)).map (·.2)
def putI (kvs : List (Int × Int)) (k v : Int) : List (Int × Int) :=
  if (kvs.any fun kv => decide (kv.1 = k)) = true then kvs.map (fun kv => if kv.1 = k then (kv.1, v) else kv) else kvs ++ [(k, v)]
theorem getI_kv (k : Int) : ∀ kvs : List (Int × Int), valV (kvs.map kvD) (.inl k) = (getI kvs k).map V.int
  | [] => rfl
  | (a, b) :: kvs => by
    unfold valV getI
    simp only [List.map_cons, List.find?_cons, kvD]
    by_cases h : a = k
    · subst h
      simp
    · have e : decide (a = k) = false := decide_eq_false h
      have e2 : decide ((Sum.inl a : Key) = Sum.inl k) = false := decide_eq_false fun z => h (Sum.inl.inj z)
      rw [e, e2]
      exact getI_kv k kvs
theorem anyI_kv (k : Int) : ∀ kvs : List (Int × Int), ((kvs.map kvD).any fun kv => decide (kv.1 = Sum.inl k)) = kvs.any fun kv => decide (kv.1 = k)
  | [] => rfl
  | (a, b) :: kvs => by
    simp only [List.map_cons, List.any_cons, kvD]
    have e2 : decide ((Sum.inl a : Key) = Sum.inl k) = decide (a = k) := by
      by_cases h : a = k
      · subst h; simp
      · simp [h]
    rw [e2]
    exact congrArg _ (anyI_kv k kvs)
theorem putI_kv (kvs : List (Int × Int)) (k v : Int) : putK (kvs.map kvD) (.inl k) (.int v) = (putI kvs k v).map kvD := by
  unfold putK putI
  rw [anyI_kv]
  by_cases h : (kvs.any fun kv => decide (kv.1 = k)) = true
  · rw [if_pos h, if_pos h, List.map_map, List.map_map]
    refine List.map_congr_left fun p _ => ?_
    show (if (Sum.inl p.1 : Key) = Sum.inl k then _ else _) = kvD (if p.1 = k then _ else _)
    by_cases hk : p.1 = k
    · rw [if_pos hk, if_pos (by rw [hk])]
    · rw [if_neg hk, if_neg fun z => hk (Sum.inl.inj z)]
  · rw [if_neg h, if_neg h, List.map_append]
    rfl
theorem putI_len (kvs : List (Int × Int)) (k v : Int) : (putI kvs k v).length ≤ kvs.length + 1 := by
  unfold putI
  split <;> simp
theorem putI_new {kvs : List (Int × Int)} {k v : Int} (h : k ∉ kvs.map (·.1)) : putI kvs k v = kvs ++ [(k, v)] := by
  unfold putI
  rw [if_neg]
  intro z
  rw [List.any_eq_true] at z
  obtain ⟨p, hp, e⟩ := z
  exact h (List.mem_map.mpr ⟨p, hp, of_decide_eq_true e⟩)
abbrev dKV (kvs : List (Int × Int)) : HO := .dK (kvs.map kvD)
/-- e is a dict -/
abbrev ED (X : Cx) (σ : L2.St) (H : Hp) (e : Expr) (kvs : List (Int × Int)) : Prop := ER X σ H e fun v H' => ∃ p, v = .ref p ∧ Rd H' p (dKV kvs)
/-- e is a new dict -/
abbrev END (X : Cx) (σ : L2.St) (H : Hp) (e : Expr) (kvs : List (Int × Int)) : Prop := ER X σ H e fun v H' => ∃ p, v = .ref p ∧ H p = none ∧ H' p = some (dKV kvs)
section
variable {X : Cx} {σ : L2.St} {H : Hp} {e a b c tg it elt kx vx : Expr} {es : List Expr} {R R' : V → Hp → Prop} {d d' : PyData} {ds : List PyData} {ns : List Int} {pos p p2 apos cpos : Pos} {i j : Int} {kvs : List (Int × Int)}
theorem END.ed (h : END X σ H e kvs) : ED X σ H e kvs := ER.imp h fun v H' _ ⟨p, e1, _, e2⟩ => ⟨p, e1, .inl e2⟩
theorem dV (i : Nat) {x : Str} {v : V} {q : Addr} (hs : σ[i]? = some (some v)) (he : v = .ref q) (hd : Rd H q (dKV kvs)) (h : PE X (.Name x pos) (tVar i)) : ED X σ H (.Name x pos) kvs :=
  .of h fun H1 e1 Q k => ⟨v, hs, k v H1 (Ex.refl _) ⟨q, he, ex_rd e1 hd⟩⟩
/-- d.get(k, x) -/
theorem xGet {i x : Int} {f : Expr} (hu : X.A.units + 1 < cLine) (hd : ED X σ H a kvs) (hk : EX X σ H b (.int i)) (hx : EX X σ H f (.int x)) (m : M2 X a "get" apos b f cpos) : EX X σ H (.Call (.Attribute a "get" apos) [b, f] [] cpos) (.int ((getI kvs i).getD x)) :=
  .of (pe_dget2 hu hd hk hx m) fun H1 e1 Q q => ⟨rfl, e1, fun v H2 e2 ⟨p, ev, rd⟩ => ⟨p, ev, .inl ⟨_, rd⟩, rfl, e1.trans e2, fun k H3 e3 dk => ⟨rfl, (e1.trans e2).trans e3, fun x' H4 e4 dx => by
    refine ⟨(getI kvs i).map V.int, .inl ⟨_, .inl i, ex_rd (e3.trans e4) rd, by rw [dp_int dk]; rfl, by rw [getI_kv]⟩, ?_⟩
    have ee : ((getI kvs i).map V.int).getD x' = .int ((getI kvs i).getD x) := by
      rw [dp_int dx]
      cases getI kvs i <;> rfl
    rw [ee]
    exact q _ H4 (e2.trans (e3.trans e4)) (.int _)⟩⟩⟩
/-- dict(d) -/
theorem xDictOf (hg : Gl X "dict") (hm : X.mg "dict" = none) (ha : ED X σ H a kvs) (hs : starEach [a] X.env = (false, eval a X.env) :: starEach [] X.env := by rfl) : END X σ H (.Call (.Name "dict" p) [a] [] pos) kvs :=
  .of (pe_callTy call_dictD hg hm PyProof.Rows.boot_dict (pa_cons ha pa_nil hs) (by decide) (by decide) hs (by rfl)) fun H1 e1 Q q => ⟨rfl, e1, fun v H2 e2 ⟨p, ev, rd⟩ => ⟨p, kvs.map kvD, by rw [ev], rd, fun l hl => q _ _ (e2.trans (Ex.new hl)) ⟨l, rfl, fresh_back (e1.trans e2) hl, upd_same⟩⟩⟩
/-! ### a dict locked while an expression is evaluated -/
theorem ER.lock {q : Addr} (hd : H q = some (dKV kvs)) (h : ∀ od, ER X σ (upd H q (.frz od (dKV kvs))) e R) (k : ∀ od v H2, Ex (upd H q (.frz od (dKV kvs))) H2 → R v H2 → R' v (upd H2 q (dKV kvs))) : ER X σ H e R' := ⟨fun pins s σ' H' Q I q' => by
  obtain ⟨rfl, e1, q'⟩ := q'
  have hd' : H' q = some (dKV kvs) := e1 _ _ hd
  obtain ⟨od, I1⟩ := I.lock hd' trivial
  have nf := I.nofrz hd' trivial
  have ee : Ex (upd H q (.frz od (dKV kvs))) (upd H' q (.frz od (dKV kvs))) := fun b o hb => by
    by_cases hq : b = q
    · subst hq
      rw [upd_same] at hb ⊢
      exact hb
    · rw [upd_ne hq] at hb ⊢
      exact e1 b o hb
  refine thn ((h od).run pins s _ _ (fun v H2 => Ex (upd H' q (.frz od (dKV kvs))) H2 ∧ R v H2) I1 ⟨rfl, ee, fun v H2 e2 r => ⟨e2, r⟩⟩) fun u s1 ⟨v, H2, I2, rv, e2, r⟩ => ?_
  have hf : H2 q = some (.frz od (dKV kvs)) := e2 _ _ upd_same
  refine ⟨v, _, I2.unlock hf nf, rv, q' v _ (fun b o hb => ?_) (k od v H2 (ee.trans e2) r)⟩
  by_cases hq : b = q
  · subst hq
    rw [upd_same]
    rw [hd'] at hb
    exact hb
  · rw [upd_ne hq]
    exact e2 b o (by rw [upd_ne hq]; exact hb)⟩
/-- the items of a locked dict -/
theorem srI {elts : List Expr} {kk : Nat} {tpos : Pos} {od : Obj} {q : Addr} (he : ER X σ H e fun v H' => v = .ref q) (hd : H q = some (.frz od (dKV kvs))) (hbase : attributeBase e "items" X.env (eval e X.env) = eval e X.env := by rfl) (hline : (apos.endLine == cpos.line) = true := by rfl) :
    Src X σ H (.Tuple elts kk tpos) (.Call (.Attribute e "items" apos) [] [] cpos) (kvs.map fun kv => .tuple [.int kv.1, .int kv.2]) := ⟨_, pi_items he hbase hline, fun H1 e1 Q k => ⟨rfl, e1, fun v H2 e2 ev => by
  refine ⟨q, od, kvs.map kvD, ev, (e1.trans e2) _ _ hd, k _ H2 (fun H' => H' q = some (.frz od (dKV kvs))) (YPair (fun i => (kvs.map kvD)[i]?.map fun kv => kV kv.1) (fun i => (kvs.map kvD)[i]?.map Prod.snd)) e2 ?_ ((e1.trans e2) _ _ hd) (fun Ha Hb e3 h => e3 _ _ h) fun i Ha x Hb h y => ?_⟩
  · have w : Walk (Iti q od (kvs.map kvD)) (kvs.map kvD).length _ _ := walk_items
    rw [List.length_map] at w ⊢
    exact w
  · obtain ⟨T, y1, y2, rfl, hT, rfl, e3, e4⟩ := y
    cases hi : kvs[i]? with
    | none => simp [hi] at e3
    | some kv =>
      simp [hi, kvD, kV] at e3 e4
      subst e3 e4
      exact ⟨Ex.new hT, _, by simp [hi], dp_new_tup hT (.cons (.int _) (.cons (.int _) .nil))⟩⟩⟩
/-! ### dict comprehensions -/
theorem nDc {α : Type} {xs : List α} {Dd : α → PyData} {T : α → Bool} {Kf Vf : α → Int} {ifs : List Expr} {scope : Scope} {own : List (Str × Nat)} {g : TG} (hc : X.calm = true) (hN : X.N.Nodup) (src : Src X σ H tg it (xs.map Dd)) (ok : BlkOk X.N X.env.scope scope own)
    (hg : Blk X scope fun B => PG B tg g) (hz : xs.length ≤ sizeLine)
    (step : ∀ a ∈ xs, ∀ v H2, Ex H H2 → Dp X.K H2 v (Dd a) → ∀ Q : L2.St → Hp → Prop, (∀ σ2, wipe σ2 (own.map (·.2)) = wipe σ (own.map (·.2)) → ∀ H3, Ex H2 H3 → (Blk X scope fun B => TXs B σ2 H3 ifs (T a)) → (T a = true → Blk X scope fun B => EX B σ2 H3 kx (.int (Kf a)) ∧ EX B σ2 H3 vx (.int (Vf a))) → Q σ2 H3) → g v (wipe σ (own.map (·.2))) H2 Q)
    (hs : ∀ x, foldedSetIterable it X.env x = pure x := by intro _; rfl) : END X σ H (.DictComp kx vx [⟨tg, it, ifs, 0⟩] scope pos) ((xs.filter T).foldl (fun m a => putI m (Kf a) (Vf a)) []) := by
  obtain ⟨wi, pi, hwi⟩ := src.run
  refine .of (pe_dc (tt := tBlkT X scope ifs) (tk := tBlk X scope kx) (tv := tBlk X scope vx) hc hN pi ok hg (fun s H0 C cl fp => ⟨fun pins s1 σ' H' Q I q => q s H0 C cl fp pins s1 I⟩) (fun s H0 C cl fp => ⟨fun pins s1 σ' H' Q I q => q s H0 C cl fp pins s1 I⟩) (fun s H0 C cl fp => ⟨fun pins s1 σ' H' Q I q => q s H0 C cl fp pins s1 I⟩) hs) fun H1 e1 Q q => ?_
  refine hwi H1 e1 _ fun J H2 Gd Y e2 W hG0 hGs hY D hD => ?_
  refine ⟨fun i m H' => m = (xs.map Dd).length - i ∧ i ≤ (xs.map Dd).length ∧ Ex H2 H' ∧ ∃ kvs, H' D = some (dKV kvs) ∧ kvs = ((xs.take i).filter T).foldl (fun m a => putI m (Kf a) (Vf a)) [] ∧ kvs.length ≤ i, ⟨_, rfl, Nat.zero_le _, Ex.new hD, [], upd_same, rfl, Nat.le_refl _⟩, ?_⟩
  rintro i m H3 ⟨rfl, hi, e3, kvs, hv, hk, hl⟩
  have hG := hGs _ _ e3 hG0
  by_cases hlt : i < (xs.map Dd).length
  · refine .inr ⟨W.goes i H3 hlt hG, fun H' => i + 1 ≤ (xs.map Dd).length ∧ Ex H2 H' ∧ ∃ kvs, H' D = some (dKV kvs) ∧ kvs = ((xs.take (i + 1)).filter T).foldl (fun m a => putI m (Kf a) (Vf a)) [] ∧ kvs.length ≤ i + 1, fun H' ⟨z1, z2, z3⟩ => ⟨(xs.map Dd).length - (i + 1), by omega, rfl, z1, z2, z3⟩, fun x H4 y => ?_⟩
    obtain ⟨e4, d, hd, dx⟩ := hY i H3 x H4 hG (W.yields i H3 x H4 hlt hG y)
    rw [List.getElem?_map] at hd
    cases ha : xs[i]? with
    | none => rw [ha] at hd; cases hd
    | some a0 =>
      rw [ha] at hd
      cases hd
      have hmem : a0 ∈ xs := List.mem_of_getElem? ha
      have htake : xs.take (i + 1) = xs.take i ++ [a0] := by rw [List.take_succ, ha]; rfl
      refine step a0 hmem x H4 (e1.trans (e2.trans (e3.trans e4))) dx _ fun σ2 hw H5 e5 ht hel => ⟨hw, tBlkT_of ht ⟨True, trivial⟩ fun H6 e6 => ?_⟩
      have e36 : Ex H3 H6 := e4.trans (e5.trans e6)
      cases hT : T a0 with
      | false =>
        refine ⟨hlt, e3.trans e36, kvs, e36 D _ hv, ?_, Nat.le_succ_of_le hl⟩
        rw [htake, List.filter_append, List.filter_cons, hT]
        simp only [Bool.false_eq_true, if_false, List.filter_nil, List.append_nil]
        exact hk
      | true =>
        refine tBlk_of (R := fun v H' => Dp X.K H' v (.int (Kf a0))) (fun s H0 C cl fp => ER.mono e6 (hel hT s H0 C cl fp).1) fun w1 H7 e7 dw1 => ?_
        refine tBlk_of (R := fun v H' => Dp X.K H' v (.int (Vf a0))) (fun s H0 C cl fp => ER.mono (e6.trans e7) (hel hT s H0 C cl fp).2) fun w2 H8 e8 dw2 => ?_
        have e38 : Ex H3 H8 := e36.trans (e7.trans e8)
        rw [List.length_map] at hlt
        refine ⟨kvs.map kvD, .inl (Kf a0), by rw [dp_int dw1]; rfl, e38 D _ hv, by rw [List.length_map]; omega, by rw [List.length_map]; omega, ex_lst (e3.trans e38) hD, putI kvs (Kf a0) (Vf a0), ?_, ?_, ?_⟩
        · rw [upd_same, dp_int dw2, putI_kv]
        · rw [htake, List.filter_append, List.filter_cons, hT]
          simp only [if_true, List.filter_nil, List.foldl_append, List.foldl_cons, List.foldl_nil]
          rw [hk]
        · have := putI_len kvs (Kf a0) (Vf a0)
          omega
  · have e : i = (xs.map Dd).length := by omega
    subst e
    refine .inl ⟨W.stops H3 hG, q (.ref D) H3 (e2.trans e3) ⟨D, rfl, Evl.fresh_back (e1.trans e2) hD, ?_⟩⟩
    rw [List.length_map, List.take_length] at hk
    rw [hv, hk]
end
/-! ### targets -/
section
variable {X : Cx} {σ : L2.St} {H : Hp} {d1 d2 d3 : PyData}
theorem g1_run {i : Nat} {v : V} {Q : L2.St → Hp → Prop} (q : Q (σ.set i (some v)) H) : gName i v σ H Q := q
theorem g2_run {K : PySem.W.Frag} {i j : Nat} {v : V} {Q : L2.St → Hp → Prop} (h : Dp K H v (.tuple [d1, d2])) (q : ∀ u w, Dp K H u d1 → Dp K H w d2 → Q ((σ.set i (some u)).set j (some w)) H) : gTup K 2 (gCons (gName i) (gCons (gName j) gNil)) v σ H Q := by
  obtain ⟨t, vs, rfl, ht, da⟩ := dp_tup h
  obtain ⟨u, w, rfl, h1, h2⟩ := dpAll_two da
  exact ⟨t, _, rfl, ht, rfl, u, _, rfl, w, _, rfl, rfl, q u w h1 h2⟩
theorem dpAll_three {K : PySem.W.Frag} {vs : List V} (h : DpAll K H vs [d1, d2, d3]) : ∃ v u w, vs = [v, u, w] ∧ Dp K H v d1 ∧ Dp K H u d2 ∧ Dp K H w d3 := by
  cases h with
  | cons a t => cases t with | cons b t => cases t with | cons c t => cases t; exact ⟨_, _, _, rfl, a, b, c⟩
theorem g3_run {K : PySem.W.Frag} {i j k : Nat} {v : V} {Q : L2.St → Hp → Prop} (h : Dp K H v (.tuple [d1, d2, d3])) (q : ∀ u w x, Dp K H u d1 → Dp K H w d2 → Dp K H x d3 → Q (((σ.set i (some u)).set j (some w)).set k (some x)) H) :
    gTup K 3 (gCons (gName i) (gCons (gName j) (gCons (gName k) gNil))) v σ H Q := by
  obtain ⟨t, vs, rfl, ht, da⟩ := dp_tup h
  obtain ⟨u, w, x, rfl, h1, h2, h3⟩ := dpAll_three da
  exact ⟨t, _, rfl, ht, rfl, u, _, rfl, w, _, rfl, x, _, rfl, rfl, q u w x h1 h2 h3⟩
end
end GX
end SGLay6
section SGLay7
set_option linter.all false
set_option maxRecDepth 100000
set_option maxHeartbeats 1000000
/-! more expressions by data -/
namespace GX
open PySem PySem.Spec PyProof.Rows L2
open Evl StX

/-! ### slices -/
def cutA {α : Type} (xs : List α) (lo hi : Option Int) : List α := (xs.drop (HT.sIx xs.length 0 lo)).take (HT.sIx xs.length xs.length hi - HT.sIx xs.length 0 lo)
theorem cutA_all {α : Type} {xs : List α} {lo hi : Option Int} (h : HT.sIx xs.length 0 lo = 0 ∧ HT.sIx xs.length xs.length hi = xs.length) : cutA xs lo hi = xs := by
  unfold cutA
  rw [h.1, h.2]
  simp
theorem dpAll_cut {K : PySem.W.Frag} {H : Hp} {vs : List V} {ds : List PyData} {lo hi : Option Int} (h : DpAll K H vs ds) : DpAll K H (cutV vs lo hi) (cutA ds lo hi) := by
  unfold cutV cutA
  rw [dpAll_len h]
  exact dpAll_take (dpAll_drop h _) _
theorem cutA_map {α β : Type} {f : α → β} {xs : List α} {lo hi : Option Int} : cutA (xs.map f) lo hi = (cutA xs lo hi).map f := by
  unfold cutA
  rw [List.length_map, List.map_take, List.map_drop]
theorem cutA_init {α : Type} (xs : List α) : cutA xs none (some (-1)) = xs.dropLast := by
  unfold cutA HT.sIx
  rw [List.dropLast_eq_take]
  simp only [List.drop_zero, Nat.sub_zero]
  congr 1
  split <;> omega
theorem cutA_from {α : Type} (xs : List α) (k : Nat) : cutA xs (some (k : Int)) none = xs.drop k := by
  unfold cutA
  rw [HT.sIx_nat, HT.sIx_none]
  by_cases h : k ≤ xs.length
  · rw [Nat.min_eq_left h]
    exact List.take_of_length_le (by simp)
  · rw [Nat.min_eq_right (by omega), List.drop_eq_nil_of_le (Nat.le_refl _), List.drop_eq_nil_of_le (by omega)]
    simp
theorem cutA_to {α : Type} (xs : List α) (k : Nat) : cutA xs none (some (k : Int)) = xs.take k := by
  unfold cutA
  rw [HT.sIx_nat, HT.sIx_none]
  simp only [List.drop_zero, Nat.sub_zero]
  by_cases h : k ≤ xs.length
  · rw [Nat.min_eq_left h]
  · rw [Nat.min_eq_right (by omega), List.take_length, List.take_of_length_le (by omega)]
theorem cutA_last {α : Type} (xs : List α) : cutA xs (some (-1)) none = xs.drop (xs.length - 1) := by
  have e : HT.sIx xs.length 0 (some (-1)) = xs.length - 1 := by
    show (if (-1 : Int) < 0 then ((-1 : Int) + (xs.length : Int)).toNat else min (-1 : Int).toNat xs.length) = xs.length - 1
    rw [if_pos (by decide)]; omega
  unfold cutA
  rw [e, HT.sIx_none]
  exact List.take_of_length_le (by simp)
/-- a slice's part -/
def tPR (σ : L2.St) (H : Hp) (o : Option Int) : TO := fun σ' H' Q => σ' = σ ∧ Ex H H' ∧ ∀ H2, Ex H' H2 → Q o H2
abbrev OX (X : Cx) (σ : L2.St) (H : Hp) (e : Option Expr) (o : Option Int) : Prop := PO X e (tPR σ H o)
section
variable {X : Cx} {σ : L2.St} {H : Hp} {e a b c : Expr} {es : List Expr} {R R' : V → Hp → Prop} {d d' : PyData} {ds fs : List PyData} {ns ms : List Int} {q : Dv} {qs : List Dv} {pos p p2 : Pos} {i j : Int} {lo hi : Option Expr} {l u : Option Int}
theorem oNone : OX X σ H none none := ⟨fun pins s σ' H' Q I ⟨e1, e2, k⟩ => po_none.run pins s σ' H' Q I (k H' (Ex.refl _))⟩
theorem oSome (h : EX X σ H e (.int i)) : OX X σ H (some e) (some i) := ⟨fun pins s σ' H' Q I ⟨e1, e2, k⟩ => by
  subst e1
  exact (po_some h).run pins s _ H' Q I ⟨rfl, e2, fun v H2 e3 dv => ⟨i, dp_int dv, k H2 e3⟩⟩⟩
theorem xSlT (ha : EX X σ H a (.tuple ds)) (h1 : OX X σ H lo l) (h2 : OX X σ H hi u) : EX X σ H (.Subscript a (.Slice lo hi none p2) pos) (.tuple (cutA ds l u)) :=
  .of (pe_slice sl_tupA ha h1 h2) fun H1 e1 Q k => ⟨rfl, e1, fun v H2 e2 dv => ⟨rfl, e1.trans e2, fun H3 e3 => ⟨rfl, e1.trans (e2.trans e3), fun H4 e4 => by
    obtain ⟨t, vs, rfl, ht, da⟩ := dp_tup dv
    have da4 := dpAll_ex (e3.trans e4) da
    have ht4 := sqT_ex (e3.trans e4) ht
    refine ⟨t, vs, rfl, ht4, fun hw => k _ H4 (e2.trans (e3.trans e4)) ?_, fun hw q hq => k _ _ ((e2.trans (e3.trans e4)).trans (Ex.new hq)) (dp_new_tup hq (dpAll_cut da4))⟩
    rw [cutA_all (by rw [← dpAll_len da]; exact hw)]
    exact .tup ht4 da4⟩⟩⟩
theorem xRevL {k0 : Nat} {p1 p3 : Pos} (ha : EX X σ H a (.list ds)) : EN X σ H (.Subscript a (.Slice none none (some (.UnaryOp .USub (.Constant (.int 1) k0 p1) p2)) p3) pos) ds.reverse :=
  .of (pe_revL ha) fun H1 e1 Q k => ⟨rfl, e1, fun v H2 e2 dv => by
    obtain ⟨t, vs, rfl, ht, da⟩ := dp_lst dv
    exact ⟨t, vs, rfl, ht, fun q hq => k _ _ (e2.trans (Ex.new hq)) ⟨q, rfl, fresh_back (e1.trans e2) hq, _, upd_same, dpAll_ex (Ex.new hq) (dpAll_rev da)⟩⟩⟩
/-! ### + -/
theorem xCatT (ha : EX X σ H a (.tuple ds)) (hb : EX X σ H b (.tuple fs)) (hz : ds.length + fs.length ≤ sizeLine) : EX X σ H (.BinOp a .Add b pos) (.tuple (ds ++ fs)) :=
  xOp op_catA ha hb fun v u H1 e1 dv du Q k => by
    obtain ⟨t, vs, rfl, ht, da⟩ := dp_tup dv
    obtain ⟨t2, us, rfl, ht2, db⟩ := dp_tup du
    have l1 := dpAll_len da
    have l2 := dpAll_len db
    refine ⟨t, t2, vs, us, rfl, rfl, ht, ht2, by omega, fun h0 => k _ H1 (Ex.refl _) ?_, fun h1 h0 => k _ H1 (Ex.refl _) ?_, fun h1 h2 q hq => k _ _ (Ex.new hq) (dp_new_tup hq (dpAll_app da db))⟩
    · subst h0
      cases da
      exact .tup ht2 db
    · subst h0
      cases db
      rw [List.append_nil]
      exact .tup ht da
/-- e is a list that the program made, at an address -/
theorem LsAt.ex {K : PySem.W.Frag} {H H' : Hp} {q : Addr} (e : Ex H H') (h : LsAt K H q ds) : LsAt K H' q ds := let ⟨vs, h1, h2⟩ := h; ⟨vs, e _ _ h1, dpAll_ex e h2⟩
abbrev EL (X : Cx) (σ : L2.St) (H : Hp) (e : Expr) (ds : List PyData) : Prop := ER X σ H e fun v H' => ∃ p, v = .ref p ∧ LsAt X.K H' p ds
theorem EN.el (h : EN X σ H e ds) : EL X σ H e ds := ER.imp h fun v H' _ ⟨p, e1, _, e2⟩ => ⟨p, e1, e2⟩
theorem EL.ex (h : EL X σ H e ds) : EX X σ H e (.list ds) := ER.imp h fun v H' _ ⟨p, e1, vs, e2, e3⟩ => by rw [e1]; exact .lst (.inl (.inl e2)) e3
theorem lV (i : Nat) {x : Str} {v : V} {q : Addr} (hs : σ[i]? = some (some v)) (he : v = .ref q) (hd : LsAt X.K H q ds) (h : PE X (.Name x pos) (tVar i)) : EL X σ H (.Name x pos) ds :=
  .of h fun H1 e1 Q k => ⟨v, hs, k v H1 (Ex.refl _) ⟨q, he, hd.ex e1⟩⟩
theorem nCatL (ha : EL X σ H a ds) (hb : EL X σ H b fs) (hz : ds.length + fs.length ≤ sizeLine) : EN X σ H (.BinOp a .Add b pos) (ds ++ fs) :=
  .of (pe_op op_cat ha hb) fun H1 e1 Q k => ⟨rfl, e1, fun v H2 e2 ⟨q1, ev, l1⟩ => ⟨rfl, e1.trans e2, fun u H3 e3 ⟨q2, eu, l2⟩ => by
    obtain ⟨vs, h1, h2⟩ := l1.ex e3
    obtain ⟨us, h3, h4⟩ := l2
    refine ⟨q1, q2, vs, us, ev, eu, h1, h3, by rw [dpAll_len h2, dpAll_len h4]; exact hz, fun p hp => k _ _ ((e2.trans e3).trans (Ex.new hp)) ⟨p, rfl, fresh_back ((e1.trans e2).trans e3) hp, _, upd_same, dpAll_ex (Ex.new hp) (dpAll_app h2 h4)⟩⟩⟩⟩
theorem nRep {k0 : Int} (ha : EL X σ H a ds) (hb : EX X σ H b (.int k0)) (h1 : -(2 ^ 63) ≤ k0) (h2 : k0 < 2 ^ 63) (hz : ds.length * k0.toNat ≤ sizeLine) : EN X σ H (.BinOp a .Mult b pos) (List.replicate k0.toNat ds).flatten :=
  .of (pe_op op_rep ha hb) fun H1 e1 Q k => ⟨rfl, e1, fun v H2 e2 ⟨q1, ev, l1⟩ => ⟨rfl, e1.trans e2, fun u H3 e3 du => by
    obtain ⟨vs, h3, h4⟩ := l1.ex e3
    have rep : ∀ n : Nat, DpAll X.K H3 (List.replicate n vs).flatten (List.replicate n ds).flatten := fun n => by
      induction n with
      | zero => exact .nil
      | succ n ih => rw [List.replicate_succ, List.replicate_succ, List.flatten_cons, List.flatten_cons]; exact dpAll_app h4 ih
    exact ⟨q1, k0, vs, ev, dp_int du, h3, h1, h2, by rw [dpAll_len h4]; exact hz, fun p hp => k _ _ ((e2.trans e3).trans (Ex.new hp)) ⟨p, rfl, fresh_back ((e1.trans e2).trans e3) hp, _, upd_same, dpAll_ex (Ex.new hp) (rep _)⟩⟩⟩⟩
/-! ### calls -/
theorem nListOf {ts : List PyData} (hg : Gl X "list") (hm : X.mg "list" = none) (ha : EX X σ H a d) (hd : d = .list ds ∨ d = .tuple ds) (hs : starEach [a] X.env = (false, eval a X.env) :: starEach [] X.env := by rfl) : EN X σ H (.Call (.Name "list" p) [a] [] pos) ds :=
  xCallTy call_list_of hg hm PyProof.Rows.boot_list (aCons ha aNil hs) (fun vs H1 e1 dv Q q => by
    obtain ⟨v, rfl, dw⟩ := dpAll_one dv
    rcases hd with rfl | rfl
    · obtain ⟨t, us, rfl, ht, du⟩ := dp_lst dw
      exact ⟨t, us, rfl, .inl ht, fun l hl => q _ _ (Ex.new hl) ⟨l, rfl, fresh_back e1 hl, _, upd_same, dpAll_ex (Ex.new hl) du⟩⟩
    · obtain ⟨t, us, rfl, ht, du⟩ := dp_tup dw
      exact ⟨t, us, rfl, .inr ht, fun l hl => q _ _ (Ex.new hl) ⟨l, rfl, fresh_back e1 hl, _, upd_same, dpAll_ex (Ex.new hl) du⟩⟩) (he := hs)
theorem xLen (hg : Gl X "len") (hm : X.mg "len" = none) (ha : EX X σ H a d) (hd : d = .list ds ∨ d = .tuple ds) (hs : starEach [a] X.env = (false, eval a X.env) :: starEach [] X.env := by rfl) : EX X σ H (.Call (.Name "len" p) [a] [] pos) (.int (ds.length : Nat)) :=
  xCallB call_len hg hm boot_len (aCons ha aNil hs) (fun vs H1 e1 dv Q q => by
    obtain ⟨v, rfl, dw⟩ := dpAll_one dv
    rcases hd with rfl | rfl
    · obtain ⟨t, us, rfl, ht, du⟩ := dp_lst dw
      exact ⟨_, ds.length, rfl, .inl ⟨us, ht, (dpAll_len du).symm⟩, q _ H1 (Ex.refl _) (.int _)⟩
    · obtain ⟨t, us, rfl, ht, du⟩ := dp_tup dw
      exact ⟨_, ds.length, rfl, .inr ⟨us, ht, (dpAll_len du).symm⟩, q _ H1 (Ex.refl _) (.int _)⟩) (he := hs)
/-- the least -/
def minL : List Int → Int
  | [] => 0
  | n :: ns => ns.foldl min n
theorem foldl_min_le : ∀ (ns : List Int) (m : Int), ns.foldl min m ≤ m ∧ (∀ y ∈ ns, ns.foldl min m ≤ y) ∧ (ns.foldl min m = m ∨ ns.foldl min m ∈ ns)
  | [], m => ⟨Int.le_refl _, by simp, .inl rfl⟩
  | n :: ns, m => by
    obtain ⟨h1, h2, h3⟩ := foldl_min_le ns (min m n)
    rw [List.foldl_cons]
    refine ⟨by omega, fun y hy => ?_, ?_⟩
    · rcases List.mem_cons.mp hy with rfl | hy
      · omega
      · exact h2 y hy
    · rcases h3 with h3 | h3
      · rw [h3]
        by_cases h : m ≤ n
        · left; omega
        · right; rw [show min m n = n by omega]; simp
      · right; simp [h3]
theorem minL_le {ns : List Int} {y : Int} (h : y ∈ ns) : minL ns ≤ y := by
  cases ns with
  | nil => cases h
  | cons n ns =>
    obtain ⟨h1, h2, _⟩ := foldl_min_le ns n
    rcases List.mem_cons.mp h with rfl | h
    · exact h1
    · exact h2 y h
theorem minL_mem {ns : List Int} (h : ns ≠ []) : minL ns ∈ ns := by
  cases ns with
  | nil => exact absurd rfl h
  | cons n ns =>
    obtain ⟨_, _, h3⟩ := foldl_min_le ns n
    rcases h3 with h3 | h3
    · show ns.foldl min n ∈ _
      rw [h3]; simp
    · exact List.mem_cons_of_mem _ h3
theorem minL_eq {ns : List Int} {m : Int} (h : m ∈ ns) (g : ∀ y, y ∈ ns → m ≤ y) : m = minL ns := Int.le_antisymm (g _ (minL_mem (List.ne_nil_of_mem h))) (minL_le h)
theorem xMinL (hc : X.calm = true) (hg : Gl X "min") (hm : X.mg "min" = none) (ha : EX X σ H a (.list (ns.map .int))) (hn : ns ≠ []) (hs : starEach [a] X.env = (false, eval a X.env) :: starEach [] X.env := by rfl) : EX X σ H (.Call (.Name "min" p) [a] [] pos) (.int (minL ns)) :=
  xCallB (cr_min hc) hg hm PyProof.Rows.boot_min (aCons ha aNil hs) (fun vs H1 e1 dv Q q => by
    obtain ⟨v, rfl, dw⟩ := dpAll_one dv
    obtain ⟨t, us, rfl, ht, du⟩ := dp_lst dw
    rw [dpAll_ints du] at ht
    refine ⟨t, ns, rfl, ht, List.length_pos_iff.mpr hn, fun m h1 h2 => ?_⟩
    rw [minL_eq h1 h2]
    exact q _ H1 (Ex.refl _) (.int _)) (he := hs)
theorem xAll {bs : List Bool} (hc : X.calm = true) (hg : Gl X "all") (hm : X.mg "all" = none) (ha : EX X σ H a (.list (bs.map .bool))) (hs : starEach [a] X.env = (false, eval a X.env) :: starEach [] X.env := by rfl) : EX X σ H (.Call (.Name "all" p) [a] [] pos) (.bool (bs.all id)) :=
  xCallB (cr_all hc) hg hm PyProof.Rows.boot_all (aCons ha aNil hs) (fun vs H1 e1 dv Q q => by
    obtain ⟨v, rfl, dw⟩ := dpAll_one dv
    obtain ⟨t, us, rfl, ht, du⟩ := dp_lst dw
    rw [dpAll_bools du] at ht
    exact ⟨t, bs, rfl, ht, q _ H1 (Ex.refl _) (.bl _)⟩) (he := hs)
/-- list(range(..)) as a call on a range object, sums, orders -/
theorem xPow {n : Int} (ha : EX X σ H a (.int i)) (hb : EX X σ H b (.int n)) (hn : 0 ≤ n) (hz : (Builtin.Int.intBits i : Int) * n ≤ 2 ^ 27) : EX X σ H (.BinOp a .Pow b pos) (.int (i ^ n.toNat)) :=
  xOp (r := fun x y H Q => ∃ i n : Int, x = .int i ∧ y = .int n ∧ 0 ≤ n ∧ (Builtin.Int.intBits i : Int) * n ≤ 2 ^ 27 ∧ Q (.int (i ^ n.toNat)) H) (fun pins s σ H x y v u Q I rx ry h => by
    obtain ⟨i, n, rfl, rfl, h1, h2, q⟩ := h
    obtain ⟨t, rfl⟩ := rx
    obtain ⟨t', rfl⟩ := ry
    exact pow_int h1 h2 ⟨.int (i ^ n.toNat), H, I.tok _, ⟨_, rfl⟩, q⟩) ha hb fun v u H1 e1 dv du Q k => ⟨i, n, dp_int dv, dp_int du, hn, hz, k _ H1 (Ex.refl _) (.int _)⟩
theorem xDivW (ha : EX X σ H a (.int i)) (hb : EX X σ H b (.int j)) (hc : CDivW i j) : EX X σ H (.BinOp a .FloorDiv b pos) (.int (i / j)) := xOp op_fdivW ha hb fun v u H1 _ hv hu Q q => rI_run hv hu hc (q _ H1 (Ex.refl _) (.int _))
theorem call_repr_bl : CallR X (.builtin "repr") (fun xs H Q => ∃ b : Bool, xs = [.bl b] ∧ Q (.str (if b then "True" else "False")) H) := by
  intro pins s σ H xs us Q I r h
  obtain ⟨b, rfl, q⟩ := h
  obtain ⟨u, rfl, ru⟩ := vals1 r
  cases ru
  exact PySem.P.repr_of_bool ⟨.str _, H, I.tok _, ⟨_, rfl⟩, q⟩
theorem xRepr {b : Bool} (hg : Gl X "repr") (hm : X.mg "repr" = none) (ha : EX X σ H a (.bool b)) (hs : starEach [a] X.env = (false, eval a X.env) :: starEach [] X.env := by rfl) : EX X σ H (.Call (.Name "repr" p) [a] [] pos) (.str (if b then "True" else "False")) :=
  xCallB call_repr_bl hg hm PyProof.Rows.boot_repr (aCons ha aNil hs) (fun vs H1 e1 dv Q q => by
    obtain ⟨v, rfl, dw⟩ := dpAll_one dv
    exact ⟨b, by rw [dp_bl dw], q _ H1 (Ex.refl _) (.str _)⟩) (he := hs)
/-- a < b < c of ints -/
theorem xLtLt {k : Int} (ha : EX X σ H a (.int i)) (hb : EX X σ H b (.int j)) (hc : EX X σ H c (.int k)) (hm : lastMarks [.Lt, .Lt] [b, c] = false := by with_unfolding_all rfl) : EX X σ H (.Compare a [.Lt, .Lt] [b, c] pos) (.bool (decide (i < j) && decide (j < k))) :=
  .of (pe_chain op_lt op_lt ha hb hc hm) fun H1 e1 Q q => ⟨rfl, e1, fun v H2 e2 dv => ⟨rfl, e1.trans e2, fun u H3 e3 du => ⟨i, j, dp_int dv, dp_int du, decide (i < j), rfl, by
    cases h : decide (i < j) with
    | false => rw [h] at q; exact iteF (q (.bl false) H3 (e2.trans e3) (.bl false))
    | true => rw [h] at q; exact iteT (⟨rfl, (e1.trans e2).trans e3, fun w H4 e4 dw => ⟨j, k, dp_int du, dp_int dw, q (.bl (decide (j < k))) H4 ((e2.trans e3).trans e4) (.bl _)⟩⟩ : tR σ H _ σ H3 _)⟩⟩⟩
end
end GX
end SGLay7
section SGLay8
set_option linter.all false
set_option maxRecDepth 100000
set_option maxHeartbeats 1000000
/-! loops and stores by data -/
namespace GX
open PySem PySem.Spec PyProof.Rows L2
open Evl StX

section
variable {X : Cx} {σ : L2.St} {H : Hp} {e a b c it tg : Expr} {es : List Expr} {R R' : V → Hp → Prop} {d d' : PyData} {ds : List PyData} {st : Stmt} {rest body : List Stmt} {D : Ends} {pos p p2 apos cpos : Pos} {i j : Int} {g : TG} {kvs : List (Int × Int)}
/-- the loop's ends -/
def LpE (D : Ends) (N F : L2.St → Hp → Prop) : Ends := { D with nx := N, ct := N, bk := F }
/-- for over what walks -/
theorem sxForG {wi : TI} (hxe : X.xe = fun _ _ => False) (hc : X.calm = true) (hi : PI X tg it wi) (hg : PG X tg g)
    (k : wi σ H fun J H2 => ∃ (n : Nat) (Gd : Hp → Prop) (Y : Nat → Hp → V → Hp → Prop) (Pv : Nat → L2.St → Hp → Prop), Walk J n Gd Y ∧ Pv 0 σ H2 ∧ (∀ i σ' H', i ≤ n → Pv i σ' H' → Gd H') ∧
      (∀ i x σ' H3 H4, i < n → Pv i σ' H3 → Y i H3 x H4 → g x σ' H4 fun σ2 H5 => SX X σ2 H5 body (LpE D (Pv (i + 1)) fun σ' H' => SX X σ' H' rest D)) ∧ ∀ σ' H', Pv n σ' H' → SX X σ' H' rest D)
    (hmono : ∀ (Q Q' : It → Hp → Prop), (∀ J H2, Q J H2 → Q' J H2) → wi σ H Q → wi σ H Q') (hs : ∀ x, foldedSetIterable it X.env x = pure x := by intro _; rfl) : SX X σ H (.For tg it body [] pos :: rest) D := by
  refine sxOf (ps_for (by rw [hxe]; exact PassesOwn.never) hc hi hg SX.pss hs) (hmono _ _ (fun J H2 h => ?_) k)
  obtain ⟨n, Gd, Y, Pv, w, h0, hG, hstep, hend⟩ := h
  exact for_it (D := { D with nx := fun σ' H' => SX X σ' H' rest D }) (g := g) (tb := fun D σ H => SX X σ H body D) w Pv h0 hG hstep hend
/-- over a list or a tuple at a known address -/
theorem sxForL (hxe : X.xe = fun _ _ => False) (hc : X.calm = true) (he : ER X σ H it R) (hg : PG X tg g)
    (k : ∀ v H2, Ex H H2 → R v H2 → ∃ (t : Addr) (vs : List V) (Pv : Nat → L2.St → Hp → Prop), v = .ref t ∧ Pv 0 σ H2 ∧ (∀ i σ' H', i ≤ vs.length → Pv i σ' H' → SqL X.K H' t vs) ∧
      (∀ i x σ' H', vs[i]? = some x → Pv i σ' H' → g x σ' H' fun σ2 H3 => SX X σ2 H3 body (LpE D (Pv (i + 1)) fun σ' H' => SX X σ' H' rest D)) ∧ ∀ σ' H', Pv vs.length σ' H' → SX X σ' H' rest D)
    (hs : ∀ x, foldedSetIterable it X.env x = pure x := by intro _; rfl) : SX X σ H (.For tg it body [] pos :: rest) D := by
  refine sxForG hxe hc (pi_list he) hg ⟨rfl, Ex.refl _, fun v H2 e2 r => ?_⟩ (fun Q Q' h ⟨h1, h2, h3⟩ => ⟨h1, h2, fun v H2 e2 r => let ⟨a, b, c, d⟩ := h3 v H2 e2 r; ⟨a, b, c, h _ _ d⟩⟩) hs
  obtain ⟨t, vs, Pv, rfl, h0, hG, hstep, hend⟩ := k v H2 e2 r
  refine ⟨t, rfl, ⟨vs, hG 0 σ H2 (Nat.zero_le _) h0⟩, vs.length, _, _, Pv, walk_list, h0, hG, fun i x σ' H3 H4 hi hp ⟨e4, hx⟩ => ?_, hend⟩
  subst e4
  exact hstep i x σ' _ hx hp
theorem sxForT (hxe : X.xe = fun _ _ => False) (hc : X.calm = true) (he : ER X σ H it R) (hg : PG X tg g)
    (k : ∀ v H2, Ex H H2 → R v H2 → ∃ (t : Addr) (vs : List V) (Pv : Nat → L2.St → Hp → Prop), v = .ref t ∧ Pv 0 σ H2 ∧ (∀ i σ' H', i ≤ vs.length → Pv i σ' H' → SqT X.K H' t vs) ∧
      (∀ i x σ' H', vs[i]? = some x → Pv i σ' H' → g x σ' H' fun σ2 H3 => SX X σ2 H3 body (LpE D (Pv (i + 1)) fun σ' H' => SX X σ' H' rest D)) ∧ ∀ σ' H', Pv vs.length σ' H' → SX X σ' H' rest D)
    (hs : ∀ x, foldedSetIterable it X.env x = pure x := by intro _; rfl) : SX X σ H (.For tg it body [] pos :: rest) D := by
  refine sxForG hxe hc (pi_tup he) hg ⟨rfl, Ex.refl _, fun v H2 e2 r => ?_⟩ (fun Q Q' h ⟨h1, h2, h3⟩ => ⟨h1, h2, fun v H2 e2 r => let ⟨a, b, c, d⟩ := h3 v H2 e2 r; ⟨a, b, c, h _ _ d⟩⟩) hs
  obtain ⟨t, vs, Pv, rfl, h0, hG, hstep, hend⟩ := k v H2 e2 r
  refine ⟨t, rfl, ⟨vs, hG 0 σ H2 (Nat.zero_le _) h0⟩, vs.length, _, _, Pv, walk_tup, h0, hG, fun i x σ' H3 H4 hi hp ⟨e4, hx⟩ => ?_, hend⟩
  subst e4
  exact hstep i x σ' _ hx hp
/-- over a tuple of flat data -/
theorem sxForF {α : Type} {xs : List α} {Dd : α → PyData} (hxe : X.xe = fun _ _ => False) (hc : X.calm = true) (he : EX X σ H it (.tuple (xs.map Dd))) (hf : ∀ a ∈ xs, flatD (Dd a) = true) (hg : PG X tg g)
    (k : ∀ H2, Ex H H2 → ∃ (Pv : Nat → L2.St → Hp → Prop), Pv 0 σ H2 ∧
      (∀ i a x σ' H', xs[i]? = some a → Mx H2 H' → Pv i σ' H' → Dp X.K H' x (Dd a) → g x σ' H' fun σ2 H3 => SX X σ2 H3 body (LpE D (fun σ4 H4 => Mx H2 H4 ∧ Pv (i + 1) σ4 H4) fun σ' H' => SX X σ' H' rest D)) ∧ ∀ σ' H', Mx H2 H' → Pv xs.length σ' H' → SX X σ' H' rest D)
    (hs : ∀ x, foldedSetIterable it X.env x = pure x := by intro _; rfl) : SX X σ H (.For tg it body [] pos :: rest) D := by
  refine sxForT hxe hc he hg (fun v H2 e2 dv => ?_) hs
  obtain ⟨t, vs, rfl, ht, da⟩ := dp_tup dv
  obtain ⟨Pv, h0, hstep, hend⟩ := k H2 e2
  have hl : vs.length = xs.length := by rw [dpAll_len da, List.length_map]
  refine ⟨t, vs, fun i σ' H' => Mx H2 H' ∧ Pv i σ' H', rfl, ⟨Mx.of (Ex.refl _), h0⟩, fun i σ' H' _ hp => sqT_mx hp.1 ht, fun i x σ' H' hx hp => ?_, fun σ' H' hp => hend σ' H' hp.1 (by rw [← hl]; exact hp.2)⟩
  obtain ⟨d, hd, dx⟩ := dpAll_at (dpAll_mx hp.1 (flat_all hf) da) hx
  rw [List.getElem?_map] at hd
  cases ha : xs[i]? with
  | none => rw [ha] at hd; cases hd
  | some a =>
    rw [ha] at hd
    cases hd
    exact hstep i a x σ' H' ha hp.1 hp.2 dx
/-- over range(n), range(m, n) -/
theorem sxForR {n : Int} (hxe : X.xe = fun _ _ => False) (hc : X.calm = true) (hgr : Gl X "range") (hm : X.mg "range" = none) (ha : EX X σ H a (.int n)) (h1 : -(2 ^ 62) ≤ n) (h2 : n < 2 ^ 62) (hg : PG X tg g)
    (k : ∀ H2, Ex H H2 → ∃ (Pv : Nat → L2.St → Hp → Prop), Pv 0 σ H2 ∧ (∀ i σ' H', i < n.toNat → Pv i σ' H' → g (.int (i : Nat)) σ' H' fun σ2 H3 => SX X σ2 H3 body (LpE D (Pv (i + 1)) fun σ' H' => SX X σ' H' rest D)) ∧ ∀ σ' H', Pv n.toNat σ' H' → SX X σ' H' rest D)
    (hs : starEach [a] X.env = (false, eval a X.env) :: starEach [] X.env := by rfl) (hs2 : ∀ x, foldedSetIterable (.Call (.Name "range" p) [a] [] p2) X.env x = pure x := by intro _; rfl) : SX X σ H (.For tg (.Call (.Name "range" p) [a] [] p2) body [] pos :: rest) D := by
  refine sxForG hxe hc (pi_range1 hgr hm (aCons ha aNil hs) (by rw [hs]; rfl)) hg ⟨rfl, Ex.refl _, fun vs H2 e2 dv => ?_⟩ (fun Q Q' h ⟨h1, h2, h3⟩ => ⟨h1, h2, fun v H2 e2 r => let ⟨j, a, b, c, d⟩ := h3 v H2 e2 r; ⟨j, a, b, c, h _ _ d⟩⟩) hs2
  obtain ⟨v, rfl, dw⟩ := dpAll_one dv
  obtain ⟨Pv, h0, hstep, hend⟩ := k H2 e2
  refine ⟨n, by rw [dp_int dw], h1, h2, n.toNat, _, _, Pv, walk_range, h0, fun _ _ _ _ _ => trivial, fun i x σ' H3 H4 hi hp ⟨e4, hx⟩ => ?_, hend⟩
  subst e4 hx
  refine (?_ : g (V.int ((0 : Int) + (i : Nat))) σ' _ _)
  rw [Int.zero_add]
  exact hstep i σ' _ hi hp
theorem sxForR2 {m n : Int} (hxe : X.xe = fun _ _ => False) (hc : X.calm = true) (hgr : Gl X "range") (hm : X.mg "range" = none) (ha : EX X σ H a (.int m)) (hb : EX X σ H b (.int n)) (hh : -(2 ^ 62) ≤ m ∧ m < 2 ^ 62 ∧ -(2 ^ 62) ≤ n ∧ n < 2 ^ 62) (hg : PG X tg g)
    (k : ∀ H2, Ex H H2 → ∃ (Pv : Nat → L2.St → Hp → Prop), Pv 0 σ H2 ∧ (∀ i σ' H', i < (n - m).toNat → Pv i σ' H' → g (.int (m + (i : Nat))) σ' H' fun σ2 H3 => SX X σ2 H3 body (LpE D (Pv (i + 1)) fun σ' H' => SX X σ' H' rest D)) ∧ ∀ σ' H', Pv (n - m).toNat σ' H' → SX X σ' H' rest D)
    (hs : starEach [a, b] X.env = (false, eval a X.env) :: starEach [b] X.env := by rfl) (hs2 : starEach [b] X.env = (false, eval b X.env) :: starEach [] X.env := by rfl) (hs3 : ∀ x, foldedSetIterable (.Call (.Name "range" p) [a, b] [] p2) X.env x = pure x := by intro _; rfl) : SX X σ H (.For tg (.Call (.Name "range" p) [a, b] [] p2) body [] pos :: rest) D := by
  refine sxForG hxe hc (pi_range2 hgr hm (aCons ha (aCons hb aNil hs2) hs) (by rw [hs, hs2]; rfl) (by rw [hs2]; rfl)) hg ⟨rfl, Ex.refl _, fun vs H2 e2 dv => ?_⟩ (fun Q Q' h ⟨h1, h2, h3⟩ => ⟨h1, h2, fun v H2 e2 r => let ⟨j, j2, a, b, d⟩ := h3 v H2 e2 r; ⟨j, j2, a, b, h _ _ d⟩⟩) hs3
  obtain ⟨v, u, rfl, dw, du⟩ := dpAll_two dv
  obtain ⟨Pv, h0, hstep, hend⟩ := k H2 e2
  refine ⟨m, n, by rw [dp_int dw, dp_int du], hh, (n - m).toNat, _, _, Pv, walk_range, h0, fun _ _ _ _ _ => trivial, fun i x σ' H3 H4 hi hp ⟨e4, hx⟩ => ?_, hend⟩
  subst e4 hx
  exact hstep i σ' _ hi hp
/-- range(m, n, -1) -/
theorem sxForR3 {m n : Int} (hxe : X.xe = fun _ _ => False) (hc : X.calm = true) (hgr : Gl X "range") (hm : X.mg "range" = none) (ha : EX X σ H a (.int m)) (hb : EX X σ H b (.int n)) (hcc : EX X σ H c (.int (-1))) (hh : -(2 ^ 62) ≤ m ∧ m < 2 ^ 62 ∧ -(2 ^ 62) ≤ n ∧ n < 2 ^ 62) (hg : PG X tg g)
    (k : ∀ H2, Ex H H2 → ∃ (Pv : Nat → L2.St → Hp → Prop), Pv 0 σ H2 ∧ (∀ i σ' H', i < (m - n).toNat → Pv i σ' H' → g (.int (m - (i : Nat))) σ' H' fun σ2 H3 => SX X σ2 H3 body (LpE D (Pv (i + 1)) fun σ' H' => SX X σ' H' rest D)) ∧ ∀ σ' H', Pv (m - n).toNat σ' H' → SX X σ' H' rest D)
    (hs : starEach [a, b, c] X.env = (false, eval a X.env) :: starEach [b, c] X.env := by rfl) (hs2 : starEach [b, c] X.env = (false, eval b X.env) :: starEach [c] X.env := by rfl) (hs2c : starEach [c] X.env = (false, eval c X.env) :: starEach [] X.env := by rfl) (hpl : (backTo p2 (starEach [b, c] X.env)).any (·.1) = false := by rfl) (hs3 : ∀ x, foldedSetIterable (.Call (.Name "range" p) [a, b, c] [] p2) X.env x = pure x := by intro _; rfl) : SX X σ H (.For tg (.Call (.Name "range" p) [a, b, c] [] p2) body [] pos :: rest) D := by
  refine sxForG hxe hc (pi_range3 hgr hm (aCons ha (aCons hb (aCons hcc aNil hs2c) hs2) hs) hs hpl) hg ⟨rfl, Ex.refl _, fun vs H2 e2 dv => ?_⟩ (fun Q Q' h ⟨h1, h2, h3⟩ => ⟨h1, h2, fun v H2 e2 r => let ⟨i, j, c, n, a, b, d⟩ := h3 v H2 e2 r; ⟨i, j, c, n, a, b, h _ _ d⟩⟩) hs3
  obtain ⟨Pv, h0, hstep, hend⟩ := k H2 e2
  cases dv with
  | cons d1 dv => cases dv with | cons d2 dv => cases dv with | cons d3 dv =>
    cases dv
    refine ⟨m, n, -1, (m - n).toNat, by rw [dp_int d1, dp_int d2, dp_int d3], RgC.neg hh.1 hh.2.1 hh.2.2.1 hh.2.2.2, (m - n).toNat, _, _, Pv, walk_rangeC, h0, fun _ _ _ _ _ => trivial, fun i x σ' H3 H4 hi hp ⟨e4, hx⟩ => ?_, hend⟩
    subst e4 hx
    refine (?_ : g (V.int (m + (i : Nat) * (-1 : Int))) σ' _ _)
    rw [show m + (i : Nat) * (-1 : Int) = m - (i : Nat) by omega]
    exact hstep i σ' _ hi hp
/-- while -/
theorem sxWhile (hxe : X.xe = fun _ _ => False) (W : Nat → L2.St → Hp → Prop) (m0 : Nat) (h0 : W m0 σ H)
    (turn : ∀ m σ' H', W m σ' H' → ∃ b, TX X σ' H' c b ∧ ∀ H2, Ex H' H2 → (b = true → SX X σ' H2 body (LpE D (fun σ3 H3 => ∃ m', m' < m ∧ W m' σ3 H3) fun σ3 H3 => SX X σ3 H3 rest D)) ∧ (b = false → SX X σ' H2 rest D)) : SX X σ H (.While c body [] pos :: rest) D := by
  refine sxOf (ps_while (tc := fun σ' H' Q => ∀ pins s, Inv X pins σ' H' s → wpAny (model X.prog X.w) X.A (isTrue c X.env (eval c X.env)) (TP X pins σ' Q) X.xe s) (by rw [hxe]; exact PassesOwn.never) ⟨fun pins s σ' H' Q I q => q pins s I⟩ SX.pss) ⟨W, ⟨m0, h0⟩, fun m σ' H' w pins s I => ?_⟩
  obtain ⟨b, ht, hk⟩ := turn m σ' H' w
  refine ht.run pins s σ' H' _ I ⟨rfl, Ex.refl _, fun H2 e2 => ?_⟩
  cases b with
  | true => exact iteT ⟨fun σ3 H3 => ∃ m', m' < m ∧ W m' σ3 H3, fun σ3 H3 h => h, (hk H2 e2).1 rfl⟩
  | false => exact iteF ((hk H2 e2).2 rfl)
/-! ### stores -/
theorem erV (i : Nat) {x : Str} {v : V} (hs : σ[i]? = some (some v)) (h : PE X (.Name x pos) (tVar i)) : ER X σ H (.Name x pos) (fun v' _ => v' = v) :=
  .of h fun H1 e1 Q q => ⟨v, hs, q v H1 (Ex.refl _) rfl⟩
/-- l.append(e) -/
theorem sxAppend {q : Addr} {vs : List V} (ho : ER X σ H a fun v _ => v = .ref q) (hq : H q = some (.lst vs)) (hz : vs.length < sizeLine) (he : ER X σ H e R) (k : ∀ v H2, Ex H H2 → R v H2 → SX X σ (upd H2 q (.lst (vs ++ [v]))) rest D)
    (hbase : attributeBase a "append" X.env (eval a X.env) = eval a X.env := by rfl)
    (hfew : ((backTo cpos (starEach [e] X.env)).all (fun x => !x.1) && (backToKw cpos (keywordEach [] X.env)).all (fun x => x.1.isSome) && decide ([e].length + ([] : List Keyword).length + (if ([] : List Keyword).isEmpty then 0 else 1) < 30)) = true := by rfl)
    (hline : (apos.endLine == cpos.line) = true := by rfl) (hs : starEach [e] X.env = (false, eval e X.env) :: starEach [] X.env := by rfl) (hplain : (backTo cpos (starEach [] X.env)).any (·.1) = false := by rfl)
    (hsw : swapsWith (.Call (.Attribute a "append" apos) [e] [] cpos) none pos.line X.env = pure false := by rfl) : SX X σ H (.Expr (.Call (.Attribute a "append" apos) [e] [] cpos) pos :: rest) D :=
  sxOf (ps_expr (pe_bm PySem.F.plainAttrs_list PySem.F.slot_list_append PySem.F.type_list_append mt_append ho (pa_cons he pa_nil hs) hbase hfew hline hs hplain) hsw) ⟨rfl, Ex.refl _, fun v H1 e1 ev => by
    subst ev
    refine ⟨.inl ⟨rfl, vs, .inl (.inl (e1 _ _ hq))⟩, rfl, e1, fun w H2 e2 r => ⟨q, vs, w, rfl, rfl, (e1.trans e2) _ _ hq, hz, k w H2 (e1.trans e2) r⟩⟩⟩
/-- d[k] = e of a dict of ints -/
theorem sxSetD {q : Addr} {n : Int} {pos' : Pos} (hu : X.A.units + 1 < cLine) (ho : ER X σ H a fun v _ => v = .ref q) (hq : H q = some (dKV kvs)) (hz : kvs.length < sizeLine) (hi : EX X σ H b (.int i)) (hv : EX X σ H e (.int n)) (k : ∀ H2, Ex H H2 → SX X σ (upd H2 q (dKV (putI kvs i n))) rest D)
    (hs : swapsWith e (some (.Subscript a b pos')) pos.line X.env = pure false := by rfl) : SX X σ H (.Assign [.Subscript a b pos'] e pos :: rest) D :=
  sxOf (ps_dput hu ho hi hv hs) ⟨rfl, Ex.refl _, fun v H1 e1 dv => ⟨rfl, e1, fun o H2 e2 eo => ⟨rfl, e1.trans e2, fun y H3 e3 dy => by
    refine ⟨q, upd H3 q (dKV (putI kvs i n)), eo, .inl ⟨kvs.map kvD, .inl i, (e1.trans (e2.trans e3)) _ _ hq, by rw [dp_int dy]; rfl, by rw [List.length_map]; exact hz, by rw [dp_int dv, putI_kv]⟩, k H3 (e1.trans (e2.trans e3))⟩⟩⟩⟩
/-- d[k] -= e of a dict of ints -/
theorem sxSubD {q : Addr} {n m : Int} {pos' : Pos} (hu : X.A.units + 1 < cLine) (ho : ER X σ H a fun v _ => v = .ref q) (hq : H q = some (dKV kvs)) (hz : kvs.length < sizeLine) (hi : EX X σ H b (.int i)) (hg : getI kvs i = some m) (hv : EX X σ H e (.int n)) (k : ∀ H2, Ex H H2 → SX X σ (upd H2 q (dKV (putI kvs i (m - n)))) rest D)
    (ha : ∀ ov iv new, augStore b ov iv new = (do holding [new, ov, iv] (setItem ov iv new); release [new, ov, iv] []; pure .next) := by intro _ _ _; rfl) : SX X σ H (.AugAssign (.Subscript a b pos') .Sub e pos :: rest) D :=
  sxOf (ps_daug hu ho hi hv iop_sub ha) ⟨rfl, Ex.refl _, fun o H1 e1 eo => ⟨rfl, e1, fun y H2 e2 dy => by
    refine ⟨q, .int m, eo, .inl ⟨kvs.map kvD, .inl i, .inl ((e1.trans e2) _ _ hq), by rw [dp_int dy]; rfl, by rw [getI_kv, hg]; rfl⟩, rfl, e1.trans e2, fun w H3 e3 dw => ⟨m, n, rfl, dp_int dw, upd H3 q (dKV (putI kvs i (m - n))), .inl ⟨kvs.map kvD, .inl i, (e1.trans (e2.trans e3)) _ _ hq, by rw [dp_int dy]; rfl, by rw [List.length_map]; exact hz, by rw [putI_kv]⟩, k H3 (e1.trans (e2.trans e3))⟩⟩⟩⟩
/-- xs[i] = e of a list -/
theorem sxSetL {q : Addr} {vs : List V} {n : Nat} {pos' : Pos} (ho : ER X σ H a fun v _ => v = .ref q) (hq : H q = some (.lst vs)) (hi : EX X σ H b (.int i)) (hn : ixN vs.length i = some n) (he : ER X σ H e R) (k : ∀ v H2, Ex H H2 → R v H2 → SX X σ (upd H2 q (.lst (vs.set n v))) rest D)
    (hs : swapsWithSole [.Subscript a b pos'] e pos.line X.env = pure false := by rfl) (hw : swappedStores [.Subscript a b pos'] e X.env = pure none := by rfl) (h1 : (assignEach [.Subscript a b pos'] X.env).map (·.2) = [assign (.Subscript a b pos') X.env] := by rfl) (hm1 : ∀ v H1 H2, Ex H1 H2 → R v H1 → R v H2)
    (hst : ∀ v, assign (.Subscript a b pos') X.env v = (do let ov ← holding [v] (eval a X.env); let iv ← holding [v, ov] (eval b X.env); standAt pos'; holding [v, ov, iv] (setItem ov iv v); release [v, ov, iv] []) := by intro _; rfl) : SX X σ H (.Assign [.Subscript a b pos'] e pos :: rest) D :=
  sxOf (ps_asg he (pg_sub ho hi set_list hst) hs hw h1) ⟨rfl, Ex.refl _, fun v H1 e1 r => ⟨rfl, e1, fun o H2 e2 eo => ⟨rfl, e1.trans e2, fun y H3 e3 dy =>
    ⟨q, vs, i, n, eo, dp_int dy, (e1.trans (e2.trans e3)) _ _ hq, hn, k v H3 (e1.trans (e2.trans e3)) (hm1 _ _ _ (e2.trans e3) r)⟩⟩⟩⟩
/-- x = l.pop() -/
theorem xPop {q : Addr} {vs : List V} {y : V} (ho : ER X σ H a fun v _ => v = .ref q) (hq : H q = some (.lst vs)) (hy : vs[vs.length - 1]? = some y)
    (hbase : attributeBase a "pop" X.env (eval a X.env) = eval a X.env := by rfl) (hline : (apos.endLine == cpos.line) = true := by rfl) : PE X (.Call (.Attribute a "pop" apos) [] [] cpos) (fun σ' H' Q => σ' = σ ∧ Ex H H' ∧ ∀ H2, Ex H' H2 → Q y (upd H2 q (.lst vs.dropLast))) := ⟨fun pins s σ' H' Q I k => by
  obtain ⟨rfl, e1, k⟩ := k
  exact (pe_bm0 PySem.F.plainAttrs_list PySem.F.slot_list_pop PySem.F.type_list_pop mt_pop ho hbase hline).run pins s _ H' Q I ⟨rfl, e1, fun v H2 e2 ev => by
    subst ev
    exact ⟨.inl ⟨rfl, vs, .inl (.inl ((e1.trans e2) _ _ hq))⟩, q, vs, y, rfl, rfl, (e1.trans e2) _ _ hq, hy, k H2 e2⟩⟩⟩
theorem sxPop {q : Addr} {vs : List V} {y : V} {n : Nat} {x : Str} {pos' : Pos} (ho : ER X σ H a fun v _ => v = .ref q) (hq : H q = some (.lst vs)) (hy : vs[vs.length - 1]? = some y) (k : ∀ H2, Ex H H2 → SX X (σ.set n (some y)) (upd H2 q (.lst vs.dropLast)) rest D) (hN : X.N.Nodup) (hi : X.N[n]? = some x := by rfl) (hx : Loc X.env.scope x := by first | exact .inl rfl | exact .inr rfl)
    (hs : swapsWith (.Call (.Attribute a "pop" apos) [] [] cpos) (some (.Name x pos')) pos.line X.env = pure false := by rfl) (hf : X.fn x = true ∨ X.env.scope.names.lookup x = some .local := by first | exact .inl rfl | exact .inr rfl | assumption)
    (hbase : attributeBase a "pop" X.env (eval a X.env) = eval a X.env := by rfl) (hline : (apos.endLine == cpos.line) = true := by rfl) : SX X σ H (.Assign [.Name x pos'] (.Call (.Attribute a "pop" apos) [] [] cpos) pos :: rest) D :=
  sxOf (ps_set hN hi hx (xPop ho hq hy hbase hline) hs hf) ⟨rfl, Ex.refl _, fun H2 e2 => k H2 e2⟩
/-- l.extend(e) -/
theorem sxExtend {q : Addr} {vs : List V} {fs : List PyData} (ho : ER X σ H a fun v _ => v = .ref q) (hq : H q = some (.lst vs)) (hz : vs.length + fs.length ≤ sizeLine) (he : EN X σ H e fs) (k : ∀ us H2, Ex H H2 → DpAll X.K H2 us fs → SX X σ (upd H2 q (.lst (vs ++ us))) rest D)
    (hbase : attributeBase a "extend" X.env (eval a X.env) = eval a X.env := by rfl)
    (hfew : ((backTo cpos (starEach [e] X.env)).all (fun x => !x.1) && (backToKw cpos (keywordEach [] X.env)).all (fun x => x.1.isSome) && decide ([e].length + ([] : List Keyword).length + (if ([] : List Keyword).isEmpty then 0 else 1) < 30)) = true := by rfl)
    (hline : (apos.endLine == cpos.line) = true := by rfl) (hs : starEach [e] X.env = (false, eval e X.env) :: starEach [] X.env := by rfl) (hplain : (backTo cpos (starEach [] X.env)).any (·.1) = false := by rfl)
    (hsw : swapsWith (.Call (.Attribute a "extend" apos) [e] [] cpos) none pos.line X.env = pure false := by rfl) : SX X σ H (.Expr (.Call (.Attribute a "extend" apos) [e] [] cpos) pos :: rest) D :=
  sxOf (ps_expr (pe_bm PySem.F.plainAttrs_list PySem.F.slot_list_extend PySem.F.type_list_extend mt_extend ho (pa_cons he pa_nil hs) hbase hfew hline hs hplain) hsw) ⟨rfl, Ex.refl _, fun v H1 e1 ev => by
    subst ev
    refine ⟨.inl ⟨rfl, vs, .inl (.inl (e1 _ _ hq))⟩, rfl, e1, fun w H2 e2 ⟨q2, ew, hn, us, hu, du⟩ => ⟨q, q2, vs, us, rfl, by rw [ew], (e1.trans e2) _ _ hq, hu, by rw [dpAll_len du]; exact hz, k us H2 (e1.trans e2) du⟩⟩⟩
end
end GX
end SGLay8
section SGScope
set_option linter.all false
set_option maxRecDepth 100000
/-! the defs' statements and names (printed by gensc.py) -/
namespace OL
open PySem L2
abbrev sIsInteger : Stmt := topS 6
abbrev nIsInteger : List Str := ["value", "least", "most"]
abbrev pIsInteger : List Str := ["value", "least", "most"]
theorem scIsInteger : FnScope nIsInteger pIsInteger (defScope sIsInteger) := ⟨rfl, rfl, rfl, by decide +kernel, rfl, by decide +kernel, by decide +kernel⟩
abbrev sCapacity : Stmt := topS 7
abbrev nCapacity : List Str := ["reader", "unit", "count"]
abbrev pCapacity : List Str := ["reader"]
theorem scCapacity : FnScope nCapacity pCapacity (defScope sCapacity) := ⟨rfl, rfl, rfl, by decide +kernel, rfl, by decide +kernel, by decide +kernel⟩
abbrev sSlack : Stmt := topS 8
abbrev nSlack : List Str := ["reader", "width"]
abbrev pSlack : List Str := ["reader", "width"]
theorem scSlack : FnScope nSlack pSlack (defScope sSlack) := ⟨rfl, rfl, rfl, by decide +kernel, rfl, by decide +kernel, by decide +kernel⟩
abbrev sStepOf : Stmt := topS 9
abbrev nStepOf : List Str := ["reader", "width", "unit", "spare"]
abbrev pStepOf : List Str := ["reader", "width"]
theorem scStepOf : FnScope nStepOf pStepOf (defScope sStepOf) := ⟨rfl, rfl, rfl, by decide +kernel, rfl, by decide +kernel, by decide +kernel⟩
abbrev sStepsIn : Stmt := topS 16
abbrev nStepsIn : List Str := ["reader", "counts", "found", "width", "number", "word", "size"]
abbrev pStepsIn : List Str := ["reader", "counts"]
theorem scStepsIn : FnScope nStepsIn pStepsIn (defScope sStepsIn) := ⟨rfl, rfl, rfl, by decide +kernel, rfl, by decide +kernel, by decide +kernel⟩
abbrev sBoxesIn : Stmt := topS 17
abbrev nBoxesIn : List Str := ["reader", "counts", "word", "size", "number"]
abbrev pBoxesIn : List Str := ["reader", "counts"]
theorem scBoxesIn : FnScope nBoxesIn pBoxesIn (defScope sBoxesIn) := ⟨rfl, rfl, rfl, by decide +kernel, rfl, by decide +kernel, by decide +kernel⟩
abbrev sSinglesIn : Stmt := topS 18
abbrev nSinglesIn : List Str := ["reader", "counts", "word", "size", "number"]
abbrev pSinglesIn : List Str := ["reader", "counts"]
theorem scSinglesIn : FnScope nSinglesIn pSinglesIn (defScope sSinglesIn) := ⟨rfl, rfl, rfl, by decide +kernel, rfl, by decide +kernel, by decide +kernel⟩
abbrev sHowOften : Stmt := topS 19
abbrev nHowOften : List Str := ["left", "sizes", "size"]
abbrev pHowOften : List Str := ["left", "sizes"]
theorem scHowOften : FnScope nHowOften pHowOften (defScope sHowOften) := ⟨rfl, rfl, rfl, by decide +kernel, rfl, by decide +kernel, by decide +kernel⟩
abbrev sPacked : Stmt := topS 20
abbrev nPacked : List Str := ["unit", "boxes", "for_four", "left", "found", "size", "others", "sizes", "many", "box"]
abbrev pPacked : List Str := ["unit", "boxes", "for_four"]
theorem scPacked : FnScope nPacked pPacked (defScope sPacked) := ⟨rfl, rfl, rfl, by decide +kernel, rfl, by decide +kernel, by decide +kernel⟩
abbrev sLapCount : Stmt := topS 21
abbrev nLapCount : List Str := ["laps", "sizes", "number"]
abbrev pLapCount : List Str := ["laps"]
theorem scLapCount : FnScope nLapCount pLapCount (defScope sLapCount) := ⟨rfl, rfl, rfl, by decide +kernel, rfl, by decide +kernel, by decide +kernel⟩
abbrev sFewestPacked : Stmt := topS 22
abbrev nFewestPacked : List Str := ["unit", "boxes", "some"]
abbrev pFewestPacked : List Str := ["unit", "boxes"]
theorem scFewestPacked : FnScope nFewestPacked pFewestPacked (defScope sFewestPacked) := ⟨rfl, rfl, rfl, by decide +kernel, rfl, by decide +kernel, by decide +kernel⟩
abbrev sWithout : Stmt := topS 24
abbrev nWithout : List Str := ["boxes", "sizes", "size", "number"]
abbrev pWithout : List Str := ["boxes", "sizes"]
theorem scWithout : FnScope nWithout pWithout (defScope sWithout) := ⟨rfl, rfl, rfl, by decide +kernel, rfl, by decide +kernel, by decide +kernel⟩
abbrev sBestPlan : Stmt := topS 25
abbrev nBestPlan : List Str := ["unit", "boxes", "best", "least", "last", "ahead", "span"]
abbrev pBestPlan : List Str := ["unit", "boxes"]
theorem scBestPlan : FnScope nBestPlan pBestPlan (defScope sBestPlan) := ⟨rfl, rfl, rfl, by decide +kernel, rfl, by decide +kernel, by decide +kernel⟩
abbrev sWasteOf : Stmt := topS 26
abbrev nWasteOf : List Str := ["unit", "plan", "sizes", "number"]
abbrev pWasteOf : List Str := ["unit", "plan"]
theorem scWasteOf : FnScope nWasteOf pWasteOf (defScope sWasteOf) := ⟨rfl, rfl, rfl, by decide +kernel, rfl, by decide +kernel, by decide +kernel⟩
abbrev sLeastWaste : Stmt := topS 27
abbrev nLeastWaste : List Str := ["reader", "counts"]
abbrev pLeastWaste : List Str := ["reader", "counts"]
theorem scLeastWaste : FnScope nLeastWaste pLeastWaste (defScope sLeastWaste) := ⟨rfl, rfl, rfl, by decide +kernel, rfl, by decide +kernel, by decide +kernel⟩
abbrev sFewestLaps : Stmt := topS 28
abbrev nFewestLaps : List Str := ["reader", "counts"]
abbrev pFewestLaps : List Str := ["reader", "counts"]
theorem scFewestLaps : FnScope nFewestLaps pFewestLaps (defScope sFewestLaps) := ⟨rfl, rfl, rfl, by decide +kernel, rfl, by decide +kernel, by decide +kernel⟩
abbrev sLeastLengthOf : Stmt := topS 29
abbrev nLeastLengthOf : List Str := ["reader", "counts", "padding", "width", "number"]
abbrev pLeastLengthOf : List Str := ["reader", "counts"]
theorem scLeastLengthOf : FnScope nLeastLengthOf pLeastLengthOf (defScope sLeastLengthOf) := ⟨rfl, rfl, rfl, by decide +kernel, rfl, by decide +kernel, by decide +kernel⟩
abbrev sLapPlan : Stmt := topS 30
abbrev nLapPlan : List Str := ["reader", "counts"]
abbrev pLapPlan : List Str := ["reader", "counts"]
theorem scLapPlan : FnScope nLapPlan pLapPlan (defScope sLapPlan) := ⟨rfl, rfl, rfl, by decide +kernel, rfl, by decide +kernel, by decide +kernel⟩
abbrev sIsLap : Stmt := topS 31
abbrev nIsLap : List Str := ["unit", "value", "sizes", "size"]
abbrev pIsLap : List Str := ["unit", "value"]
theorem scIsLap : FnScope nIsLap pIsLap (defScope sIsLap) := ⟨rfl, rfl, rfl, by decide +kernel, rfl, by decide +kernel, by decide +kernel⟩
abbrev sBoxesOfPlan : Stmt := topS 32
abbrev nBoxesOfPlan : List Str := ["plan", "found", "sizes", "number", "size"]
abbrev pBoxesOfPlan : List Str := ["plan"]
theorem scBoxesOfPlan : FnScope nBoxesOfPlan pBoxesOfPlan (defScope sBoxesOfPlan) := ⟨rfl, rfl, rfl, by decide +kernel, rfl, by decide +kernel, by decide +kernel⟩
abbrev sIsPlan : Stmt := topS 33
abbrev nIsPlan : List Str := ["unit", "boxes", "value", "lap"]
abbrev pIsPlan : List Str := ["unit", "boxes", "value"]
theorem scIsPlan : FnScope nIsPlan pIsPlan (defScope sIsPlan) := ⟨rfl, rfl, rfl, by decide +kernel, rfl, by decide +kernel, by decide +kernel⟩
abbrev sShowsPlan : Stmt := topS 34
abbrev nShowsPlan : List Str := ["reader", "counts", "value", "unit", "boxes", "singles"]
abbrev pShowsPlan : List Str := ["reader", "counts", "value"]
theorem scShowsPlan : FnScope nShowsPlan pShowsPlan (defScope sShowsPlan) := ⟨rfl, rfl, rfl, by decide +kernel, rfl, by decide +kernel, by decide +kernel⟩
abbrev sLawSource : Stmt := topS 36
abbrev nLawSource : List Str := ["_law_script", "_law_k", "_law_cell", "_law_own"]
abbrev pLawSource : List Str := ["_law_script", "_law_k"]
theorem scLawSource : FnScope nLawSource pLawSource (defScope sLawSource) := ⟨rfl, rfl, rfl, by decide +kernel, rfl, by decide +kernel, by decide +kernel⟩
abbrev sLawNumber : Stmt := topS 37
abbrev nLawNumber : List Str := ["_law_source_here", "_law_below", "_law_digit", "_law_turn", "_law_mixed"]
abbrev pLawNumber : List Str := ["_law_source_here", "_law_below"]
theorem scLawNumber : FnScope nLawNumber pLawNumber (defScope sLawNumber) := ⟨rfl, rfl, rfl, by decide +kernel, rfl, by decide +kernel, by decide +kernel⟩
abbrev sLawChoice : Stmt := topS 38
abbrev nLawChoice : List Str := ["_law_source_here", "_law_some"]
abbrev pLawChoice : List Str := ["_law_source_here", "_law_some"]
theorem scLawChoice : FnScope nLawChoice pLawChoice (defScope sLawChoice) := ⟨rfl, rfl, rfl, by decide +kernel, rfl, by decide +kernel, by decide +kernel⟩
abbrev sLawStep : Stmt := topS 42
abbrev nLawStep : List Str := ["_law_reader_here", "_law_width_here", "_law_unit", "_law_rest"]
abbrev pLawStep : List Str := ["_law_reader_here", "_law_width_here"]
theorem scLawStep : FnScope nLawStep pLawStep (defScope sLawStep) := ⟨rfl, rfl, rfl, by decide +kernel, rfl, by decide +kernel, by decide +kernel⟩
abbrev sLawBoxes : Stmt := topS 46
abbrev nLawBoxes : List Str := ["_law_reader_here", "_law_counts_here", "_law_found", "_law_singles", "_law_width_here", "_law_number_here", "_law_word", "_law_size_here"]
abbrev pLawBoxes : List Str := ["_law_reader_here", "_law_counts_here"]
theorem scLawBoxes : FnScope nLawBoxes pLawBoxes (defScope sLawBoxes) := ⟨rfl, rfl, rfl, by decide +kernel, rfl, by decide +kernel, by decide +kernel⟩
abbrev sLawSmallLaps : Stmt := topS 47
abbrev nLawSmallLaps : List Str := ["_law_threes", "_law_twos", "_law_pairs", "_law_odd", "_law_left"]
abbrev pLawSmallLaps : List Str := ["_law_threes", "_law_twos"]
theorem scLawSmallLaps : FnScope nLawSmallLaps pLawSmallLaps (defScope sLawSmallLaps) := ⟨rfl, rfl, rfl, by decide +kernel, rfl, by decide +kernel, by decide +kernel⟩
abbrev sLawLaps : Stmt := topS 48
abbrev nLawLaps : List Str := ["_law_unit", "_law_boxes_here", "_law_lone", "_law_threes", "_law_twos", "_law_laps_here", "_law_some"]
abbrev pLawLaps : List Str := ["_law_unit", "_law_boxes_here"]
theorem scLawLaps : FnScope nLawLaps pLawLaps (defScope sLawLaps) := ⟨rfl, rfl, rfl, by decide +kernel, rfl, by decide +kernel, by decide +kernel⟩
abbrev sLawLasts : Stmt := topS 49
abbrev nLawLasts : List Str := ["_law_unit", "_law_boxes_here", "_law_found", "_law_waiting", "_law_here", "_law_size_here", "_law_longer", "_law_is_next"]
abbrev pLawLasts : List Str := ["_law_unit", "_law_boxes_here"]
theorem scLawLasts : FnScope nLawLasts pLawLasts (defScope sLawLasts) := ⟨rfl, rfl, rfl, by decide +kernel, rfl, by decide +kernel, by decide +kernel⟩
abbrev sLawWaste : Stmt := topS 50
abbrev nLawWaste : List Str := ["_law_unit", "_law_boxes_here", "_law_total", "_law_found", "_law_last", "_law_left", "_law_size_here", "_law_number_here"]
abbrev pLawWaste : List Str := ["_law_unit", "_law_boxes_here"]
theorem scLawWaste : FnScope nLawWaste pLawWaste (defScope sLawWaste) := ⟨rfl, rfl, rfl, by decide +kernel, rfl, by decide +kernel, by decide +kernel⟩
abbrev sLawIsWhole : Stmt := topS 51
abbrev nLawIsWhole : List Str := ["_law_thing"]
abbrev pLawIsWhole : List Str := ["_law_thing"]
theorem scLawIsWhole : FnScope nLawIsWhole pLawIsWhole (defScope sLawIsWhole) := ⟨rfl, rfl, rfl, by decide +kernel, rfl, by decide +kernel, by decide +kernel⟩
abbrev sLawIsLap : Stmt := topS 52
abbrev nLawIsLap : List Str := ["_law_unit", "_law_thing", "_law_size_here"]
abbrev pLawIsLap : List Str := ["_law_unit", "_law_thing"]
theorem scLawIsLap : FnScope nLawIsLap pLawIsLap (defScope sLawIsLap) := ⟨rfl, rfl, rfl, by decide +kernel, rfl, by decide +kernel, by decide +kernel⟩
abbrev sLawIsPlan : Stmt := topS 53
abbrev nLawIsPlan : List Str := ["_law_unit", "_law_boxes_here", "_law_thing", "_law_found", "_law_sizes", "_law_number_here", "_law_size_here", "_law_lap"]
abbrev pLawIsPlan : List Str := ["_law_unit", "_law_boxes_here", "_law_thing"]
theorem scLawIsPlan : FnScope nLawIsPlan pLawIsPlan (defScope sLawIsPlan) := ⟨rfl, rfl, rfl, by decide +kernel, rfl, by decide +kernel, by decide +kernel⟩
abbrev sLawPlanWaste : Stmt := topS 54
abbrev nLawPlanWaste : List Str := ["_law_unit", "_law_plan", "_law_sizes", "_law_number_here"]
abbrev pLawPlanWaste : List Str := ["_law_unit", "_law_plan"]
theorem scLawPlanWaste : FnScope nLawPlanWaste pLawPlanWaste (defScope sLawPlanWaste) := ⟨rfl, rfl, rfl, by decide +kernel, rfl, by decide +kernel, by decide +kernel⟩
abbrev sLawFar : Stmt := topS 55
abbrev nLawFar : List Str := ["_law_source_here", "_law_reader_here", "_law_unit", "_law_bits", "_law_base", "_law_found", "_law_size_here", "_law_some", "_law_number_here", "_law_fillers"]
abbrev pLawFar : List Str := ["_law_source_here", "_law_reader_here"]
theorem scLawFar : FnScope nLawFar pLawFar (defScope sLawFar) := ⟨rfl, rfl, rfl, by decide +kernel, rfl, by decide +kernel, by decide +kernel⟩
abbrev sLawFilled : Stmt := topS 56
abbrev nLawFilled : List Str := ["_law_unit", "_law_boxes_here", "_law_sizes", "_law_left", "_law_found", "_law_size_here", "_law_turn", "_law_here", "_law_rest", "_law_other", "_law_most", "_law_many", "_law_one"]
abbrev pLawFilled : List Str := ["_law_unit", "_law_boxes_here", "_law_sizes"]
theorem scLawFilled : FnScope nLawFilled pLawFilled (defScope sLawFilled) := ⟨rfl, rfl, rfl, by decide +kernel, rfl, by decide +kernel, by decide +kernel⟩
abbrev sLawSpoiltRight : Stmt := topS 57
abbrev nLawSpoiltRight : List Str := ["_law_reader_here", "_law_counts_here", "_law_told", "_law_boxes_here", "_law_singles", "_law_unit", "_law_least", "_law_some", "_law_at", "_law_sizes", "_law_number_here", "_law_lesser", "_law_laps_here", "_law_other", "_law_lap", "_law_plan", "_law_due"]
abbrev pLawSpoiltRight : List Str := ["_law_reader_here", "_law_counts_here", "_law_told"]
theorem scLawSpoiltRight : FnScope nLawSpoiltRight pLawSpoiltRight (defScope sLawSpoiltRight) := ⟨rfl, rfl, rfl, by decide +kernel, rfl, by decide +kernel, by decide +kernel⟩
abbrev sLawRight : Stmt := topS 58
abbrev nLawRight : List Str := ["_law_source_here", "_law_unit", "_law_reader_here", "_law_counts_here", "_law_boxes_here", "_law_singles", "_law_waste_here", "_law_bits", "_law_told", "_law_laps_here", "_law_some", "_law_double", "_law_parted", "_law_sizes", "_law_number_here", "_law_plan", "_law_width_here", "_law_many"]
abbrev pLawRight : List Str := ["_law_source_here"]
theorem scLawRight : FnScope nLawRight pLawRight (defScope sLawRight) := ⟨rfl, rfl, rfl, by decide +kernel, rfl, by decide +kernel, by decide +kernel⟩
abbrev sLaw : Stmt := topS 59
abbrev nLaw : List Str := ["_law_script", "_law_k", "_law_source_here", "_law_turn"]
abbrev pLaw : List Str := ["_law_script"]
theorem scLaw : FnScope nLaw pLaw (defScope sLaw) := ⟨rfl, rfl, rfl, by decide +kernel, rfl, by decide +kernel, by decide +kernel⟩
end OL
end SGScope
section SGCl
set_option linter.all false
set_option maxRecDepth 100000
set_option maxHeartbeats 1000000
/-! what the defs are called by; rules that choose by the data -/
namespace GX
open PySem PySem.Spec PyProof.Rows L2
open Evl StX

/-- the built-ins that the module leaves alone -/
structure BM (mg : Str → Option Value) : Prop where
  all : mg "all" = none
  abs : mg "abs" = none
  bool : mg "bool" = none
  dict : mg "dict" = none
  enumerate : mg "enumerate" = none
  int : mg "int" = none
  isinstance : mg "isinstance" = none
  len : mg "len" = none
  list : mg "list" = none
  max : mg "max" = none
  min : mg "min" = none
  range : mg "range" = none
  repr : mg "repr" = none
  set : mg "set" = none
  sorted : mg "sorted" = none
  sum : mg "sum" = none
  tuple : mg "tuple" = none
/-- the def named x keeps its promise, within k calls -/
structure Cl (P : Program) (w : World) (K : PySem.W.Frag) (mg : Str → Option Value) (base : Heap) (k : Nat) (x : Str) (n : Nat) (sp : Sp) : Prop where
  ex : ∃ (f : Addr) (fd : FuncData) (ps : List Str), ps.length = n ∧ FnOk P w K mg base CX0 k f fd ps sp ∧ mg x = some (.ref f) ∧ PySem.W.keepIn K (.ref f) = true ∧ Binds K fd ps []
section
variable {X : Cx} {σ : L2.St} {H : Hp} {e a b c : Expr} {es : List Expr} {R R' : V → Hp → Prop} {d d' : PyData} {ds : List PyData} {ns : List Int} {q : Dv} {qs : List Dv} {pos p p2 apos cpos : Pos} {i j : Int} {kvs : List (Int × Int)}
theorem xCl {k j n : Nat} {pre : List Dv → Dv → Prop} {r : Dv} {x : Str} (C : Cl X.prog X.w X.K X.mg X.base j x n (SpD X.K pre)) (hr : Room k X.A) (ha : AQ X σ H (e :: es) qs) (hp : pre qs r) (hj : j ≤ k := by decide)
    (hg : Gl X x := by rfl) (hdb : (x == ("__debug__" : Str)) = false := by decide) (he : starEach (e :: es) X.env = (false, eval e X.env) :: starEach es X.env := by rfl) (hpl : (backTo pos (starEach es X.env)).any (·.1) = false := by rfl) : EQ X σ H (.Call (.Name x p) (e :: es) [] pos) r := by
  obtain ⟨f, fd, ps, _, F, hm, hk, hb⟩ := C.ex
  exact xCall F (hr.mono hj) hm hk hb ha hp hg hdb he hpl
/-- a call that is data -/
theorem xClD {k j n : Nat} {pre : List Dv → Dv → Prop} {x : Str} (C : Cl X.prog X.w X.K X.mg X.base j x n (SpD X.K pre)) (hr : Room k X.A) (ha : AQ X σ H (e :: es) qs) (hp : pre qs (.dat d)) (hj : j ≤ k := by decide)
    (hg : Gl X x := by rfl) (hdb : (x == ("__debug__" : Str)) = false := by decide) (he : starEach (e :: es) X.env = (false, eval e X.env) :: starEach es X.env := by rfl) (hpl : (backTo pos (starEach es X.env)).any (·.1) = false := by rfl) : EX X σ H (.Call (.Name x p) (e :: es) [] pos) d := xCl C hr ha hp hj hg hdb he hpl
/-- a call that is a dict, as an argument -/
theorem ED.toQ (h : ED X σ H e kvs) : EQ X σ H e (.dic kvs) := h
theorem EQ.ed (h : EQ X σ H e (.dic kvs)) : ED X σ H e kvs := h
theorem EQ.end' (h : EQ X σ H e (.new kvs)) : ER X σ H e fun v H' => ∃ p, v = .ref p ∧ H' p = some (dKV kvs) := h
theorem EQ.new (h : EQ X σ H e (.new kvs)) : EQ X σ H e (.dic kvs) := ER.imp h fun v H' _ ⟨p, e1, e2⟩ => ⟨p, e1, .inl e2⟩
theorem EY.toQ (h : EY X σ H e ns) : EQ X σ H e (.pt ns) := h
theorem EQ.ey (h : EQ X σ H e (.pt ns)) : EY X σ H e ns := h
/-! subscripts, sums: lists or tuples -/
theorem xIxA (ha : EX X σ H a d) (hb : EX X σ H b (.int i)) (hd : d = .tuple ds ∨ d = .list ds := by first | exact .inl rfl | exact .inr rfl) (e : atI ds i = some d' := by rfl) (hs : PlainIx b := by exact fun _ _ => rfl) : EX X σ H (.Subscript a b pos) d' := by
  rcases hd with rfl | rfl
  · exact xIx ha hb e hs
  · exact xIxL ha hb e hs
theorem xSumA (hm : X.mg "sum" = none) (hc : X.calm = true) (hg : Gl X "sum") (ha : EX X σ H e d) (hd : d = tI ns ∨ d = .list (ns.map .int) := by first | exact .inl rfl | exact .inr rfl) (hs : starEach [e] X.env = (false, eval e X.env) :: starEach [] X.env := by rfl) : EX X σ H (.Call (.Name "sum" p) [e] [] pos) (.int ns.sum) := by
  rcases hd with rfl | rfl
  · exact xSumT hc hg hm ha hs
  · exact xSumL hc hg hm ha hs
theorem xLenA (hm : X.mg "len" = none) (hg : Gl X "len") (ha : EX X σ H a d) (hd : d = .list ds ∨ d = .tuple ds := by first | exact .inl rfl | exact .inr rfl) (hs : starEach [a] X.env = (false, eval a X.env) :: starEach [] X.env := by rfl) : EX X σ H (.Call (.Name "len" p) [a] [] pos) (.int (ds.length : Nat)) := xLen hg hm ha hd hs
end
section
variable {P : Program} {w : World} {K : PySem.W.Frag} {mg : Str → Option Value} {base : Heap}
theorem DqAll.one {H : Hp} {vs : List V} {q1 : Dv} (h : DqAll K H vs [q1]) : ∃ v1, vs = [v1] ∧ Dq K H v1 q1 := by
  cases h with | cons a t => cases t; exact ⟨_, rfl, a⟩
theorem DqAll.two {H : Hp} {vs : List V} {q1 q2 : Dv} (h : DqAll K H vs [q1, q2]) : ∃ v1 v2, vs = [v1, v2] ∧ Dq K H v1 q1 ∧ Dq K H v2 q2 := by
  cases h with | cons a t => obtain ⟨v2, rfl, h2⟩ := t.one; exact ⟨_, _, rfl, a, h2⟩
theorem DqAll.three {H : Hp} {vs : List V} {q1 q2 q3 : Dv} (h : DqAll K H vs [q1, q2, q3]) : ∃ v1 v2 v3, vs = [v1, v2, v3] ∧ Dq K H v1 q1 ∧ Dq K H v2 q2 ∧ Dq K H v3 q3 := by
  cases h with | cons a t => obtain ⟨v2, v3, rfl, h2, h3⟩ := t.two; exact ⟨_, _, _, rfl, a, h2, h3⟩
/-- a def of the text, by its body's data -/
theorem clD {x : Str} {st : Stmt} {N ps : List Str} {k n : Nat} {pre : List Dv → Dv → Prop} (F : ∃ f fd, Fun K x x st f fd ∧ mg x = some (.ref f) ∧ Binds K fd ps []) (S : FnScope N ps (defScope st)) (hlen : ∀ qs r, pre qs r → qs.length = n) (hps : ps.length = n)
    (hbody : ∀ (f : Addr) (cdv : Value) (A : Around) (outer : List Env) (s : Shared) (H : Hp) (vs : List V) (qs : List Dv) (r : Dv) (Q : VK) (E : XK), Room k (A.deeper (envOfC x (defScope st) s.heap.objs.size f cdv)) → pre qs r → DqAll K H vs qs → (∀ v H', Ex H H' → Dq K H' v r → Q v H') →
      SX (cxOf CX0 P w K mg base N x (defScope st) f cdv A outer s H E).nox (L2.start N vs) H (defBody st) { nx := fun _ H' => Q .non H', rt := Q }) : Cl P w K mg base (k + 1) x n (SpD K pre) := by
  obtain ⟨f, fd, F, hm, hb⟩ := F
  exact ⟨f, fd, ps, hps, fnD F S hlen hps (hbody f), hm, F.kp, hb⟩
/-- a def of the text at hand -/
def Df (K : PySem.W.Frag) (mg : Str → Option Value) (x : Str) (st : Stmt) (ps : List Str) : Prop := ∃ f fd, Fun K x x st f fd ∧ mg x = some (.ref f) ∧ Binds K fd ps []
end
end GX
end SGCl
section SGFor2
set_option linter.all false
set_option maxRecDepth 100000
set_option maxHeartbeats 1000000
/-! loops over arguments; lists that grow; module constants; a def with a default -/
namespace GX
open PySem PySem.Spec PyProof.Rows L2
open Evl StX
section
variable {X : Cx} {σ : L2.St} {H B : Hp} {e a b c it tg : Expr} {D : Ends} {rest body : List Stmt} {pos p : Pos} {g : TG} {d : PyData} {ds : List PyData}
theorem sxForE {α : Type} {xs : List α} {Dd : α → PyData} {v : V} (hxe : X.xe = fun _ _ => False) (hc : X.calm = true) (he : ER X σ H it fun v' _ => v' = v) (hd : Dp X.K B v (.tuple (xs.map Dd))) (hg : PG X tg g)
    (k : ∀ H2, Ex H H2 → ∃ (Pv : Nat → L2.St → Hp → Prop), Pv 0 σ H2 ∧ (∀ i σ' H', Pv i σ' H' → Ex B H') ∧
      (∀ i a x σ' H', xs[i]? = some a → Pv i σ' H' → Dp X.K H' x (Dd a) → g x σ' H' fun σ2 H3 => SX X σ2 H3 body (LpE D (Pv (i + 1)) fun σ' H' => SX X σ' H' rest D)) ∧ ∀ σ' H', Pv xs.length σ' H' → SX X σ' H' rest D)
    (hs : ∀ x, foldedSetIterable it X.env x = pure x := by intro _; rfl) : SX X σ H (.For tg it body [] pos :: rest) D := by
  refine sxForT hxe hc he hg (fun v' H2 e2 ev => ?_) hs
  subst ev
  obtain ⟨t, vs, rfl, ht, da⟩ := dp_tup hd
  obtain ⟨Pv, h0, hB, hstep, hend⟩ := k H2 e2
  have hl : vs.length = xs.length := by rw [dpAll_len da, List.length_map]
  refine ⟨t, vs, Pv, rfl, h0, fun i σ' H' _ hp => sqT_ex (hB _ _ _ hp) ht, fun i x σ' H' hx hp => ?_, fun σ' H' hp => hend σ' H' (by rw [← hl]; exact hp)⟩
  obtain ⟨d, hd, dx⟩ := dpAll_at (dpAll_ex (hB _ _ _ hp) da) hx
  rw [List.getElem?_map] at hd
  cases ha : xs[i]? with
  | none => rw [ha] at hd; cases hd
  | some a =>
    rw [ha] at hd
    cases hd
    exact hstep i a x σ' H' ha hp dx
theorem sxForEL {α : Type} {xs : List α} {Dd : α → PyData} {v : V} (hxe : X.xe = fun _ _ => False) (hc : X.calm = true) (he : ER X σ H it fun v' _ => v' = v) (hd : Dp X.K B v (.list (xs.map Dd))) (hg : PG X tg g)
    (k : ∀ H2, Ex H H2 → ∃ (Pv : Nat → L2.St → Hp → Prop), Pv 0 σ H2 ∧ (∀ i σ' H', Pv i σ' H' → Ex B H') ∧
      (∀ i a x σ' H', xs[i]? = some a → Pv i σ' H' → Dp X.K H' x (Dd a) → g x σ' H' fun σ2 H3 => SX X σ2 H3 body (LpE D (Pv (i + 1)) fun σ' H' => SX X σ' H' rest D)) ∧ ∀ σ' H', Pv xs.length σ' H' → SX X σ' H' rest D)
    (hs : ∀ x, foldedSetIterable it X.env x = pure x := by intro _; rfl) : SX X σ H (.For tg it body [] pos :: rest) D := by
  refine sxForL hxe hc he hg (fun v' H2 e2 ev => ?_) hs
  subst ev
  obtain ⟨t, vs, rfl, ht, da⟩ := dp_lst hd
  obtain ⟨Pv, h0, hB, hstep, hend⟩ := k H2 e2
  have hl : vs.length = xs.length := by rw [dpAll_len da, List.length_map]
  refine ⟨t, vs, Pv, rfl, h0, fun i σ' H' _ hp => sqL_ex (hB _ _ _ hp) ht, fun i x σ' H' hx hp => ?_, fun σ' H' hp => hend σ' H' (by rw [← hl]; exact hp)⟩
  obtain ⟨d, hd, dx⟩ := dpAll_at (dpAll_ex (hB _ _ _ hp) da) hx
  rw [List.getElem?_map] at hd
  cases ha : xs[i]? with
  | none => rw [ha] at hd; cases hd
  | some a =>
    rw [ha] at hd
    cases hd
    exact hstep i a x σ' H' ha hp dx
/-- a list that grows by flat data -/
theorem app_all {K : PySem.W.Frag} {q : Addr} {vs : List V} {v : V} (hq : H q = some (.lst vs)) (hv : DpAll K H vs ds) (hd : Dp K H v d) (f1 : flatD.flatDs ds = true) (f2 : flatD d = true) :
    DpAll K (upd H q (.lst (vs ++ [v]))) (vs ++ [v]) (ds ++ [d]) := by
  have mx : Mx H (upd H q (.lst (vs ++ [v]))) := Mx.upd hq (fun _ => by simp) (fun _ _ => by simp)
  exact dpAll_app (dpAll_mx mx f1 hv) (.cons (dp_mx mx f2 hd) .nil)
theorem take_app {α : Type} {xs : List α} {i : Nat} {a : α} (h : xs[i]? = some a) : xs.take (i + 1) = xs.take i ++ [a] := by rw [List.take_succ, h]; rfl
/-! names of the module -/
theorem xGlobS {x z : Str} (hm : ∃ t, X.mg x = some (.str z t)) (hg : Gl X x := by rfl) (hdb : (x == ("__debug__" : Str)) = false := by decide) : EX X σ H (.Name x pos) (.str z) := by
  obtain ⟨t, hm⟩ := hm
  exact xGlob (v := .str z) hm ⟨t, rfl⟩ (fun _ => .str z) hg hdb
theorem xGlobI {x : Str} {i : Int} (hm : ∃ t, X.mg x = some (.int i t)) (hg : Gl X x := by rfl) (hdb : (x == ("__debug__" : Str)) = false := by decide) : EX X σ H (.Name x pos) (.int i) := by
  obtain ⟨t, hm⟩ := hm
  exact xGlob (v := .int i) hm ⟨t, rfl⟩ (fun _ => .int i) hg hdb
theorem xGlobD {x : Str} (hm : ∃ a, X.mg x = some (.ref a) ∧ ∀ H', Dp X.K H' (.ref a) d) (hg : Gl X x := by rfl) (hdb : (x == ("__debug__" : Str)) = false := by decide) : EX X σ H (.Name x pos) d := by
  obtain ⟨a, hm, hd⟩ := hm
  exact xGlob (v := .ref a) hm rfl hd hg hdb
theorem xNeg {i : Int} (h : EX X σ H a (.int i)) : EX X σ H (.UnaryOp .USub a pos) (.int (-i)) := .of (pe_un un_neg h) fun H1 e1 Q k => ⟨rfl, e1, fun v H2 e2 dv => ⟨i, dp_int dv, k _ H2 e2 (.int _)⟩⟩
end
theorem dpIs {K : PySem.W.Frag} {H : Hp} {v : V} {d d' : PyData} (h : Dp K H v d) (e : d = d') : Dp K H v d' := e ▸ h
/-- the module's constants -/
structure MC (mg : Str → Option Value) : Prop where
  free : ∃ t, mg "FREE" = some (.str "free" t)
  tight : ∃ t, mg "TIGHT" = some (.str "tight" t)
  pair : ∃ t, mg "PAIR" = some (.int 2 t)
  least : ∃ t, mg "LEAST_BOX" = some (.int 2 t)
  four : ∃ t, mg "FOUR" = some (.int 4 t)
section
variable {P : Program} {w : World} {K : PySem.W.Frag} {mg : Str → Option Value} {base : Heap}
/-- a def's promise of a new list, by data -/
def SpN (K : PySem.W.Frag) (pre : List Dv → List PyData → Prop) : Sp := fun vs H Q _ => ∃ qs ds, DqAll K H vs qs ∧ pre qs ds ∧ ∀ p H', Ex H H' → H p = none → LsAt K H' p ds → Q (.ref p) H'
/-- a def of the text, whatever it promises -/
theorem clG {x : Str} {st : Stmt} {N ps : List Str} {k n : Nat} {sp : Sp} (F : ∃ f fd, Fun K x x st f fd ∧ mg x = some (.ref f) ∧ Binds K fd ps []) (S : FnScope N ps (defScope st)) (len : ∀ vs H Q E, sp vs H Q E → vs.length = ps.length) (hps : ps.length = n)
    (hbody : ∀ (f : Addr) (cdv : Value) (A : Around) (outer : List Env) (s : Shared) (H : Hp) (vs : List V) (Q : VK) (E : XK), Room k (A.deeper (envOfC x (defScope st) s.heap.objs.size f cdv)) → sp vs H Q E →
      SX (cxOf CX0 P w K mg base N x (defScope st) f cdv A outer s H E).nox (L2.start N vs) H (defBody st) { nx := fun _ H' => Q .non H', rt := Q }) : Cl P w K mg base (k + 1) x n sp := by
  obtain ⟨f, fd, F, hm, hb⟩ := F
  refine ⟨f, fd, ps, hps, F.ok S len fun cdv A outer s H vs Q E hr h => ⟨_, SX.pss, hbody f cdv A outer s H vs Q E hr h⟩, hm, F.kp, hb⟩
theorem clL {x : Str} {st : Stmt} {N ps : List Str} {k n : Nat} {pre : List Dv → List PyData → Prop} (F : ∃ f fd, Fun K x x st f fd ∧ mg x = some (.ref f) ∧ Binds K fd ps []) (S : FnScope N ps (defScope st)) (hlen : ∀ qs r, pre qs r → qs.length = n) (hps : ps.length = n)
    (hbody : ∀ (f : Addr) (cdv : Value) (A : Around) (outer : List Env) (s : Shared) (H : Hp) (vs : List V) (qs : List Dv) (r : List PyData) (Q : VK) (E : XK), Room k (A.deeper (envOfC x (defScope st) s.heap.objs.size f cdv)) → pre qs r → DqAll K H vs qs → (∀ p H', Ex H H' → H p = none → LsAt K H' p r → Q (.ref p) H') →
      SX (cxOf CX0 P w K mg base N x (defScope st) f cdv A outer s H E).nox (L2.start N vs) H (defBody st) { nx := fun _ H' => Q .non H', rt := Q }) : Cl P w K mg base (k + 1) x n (SpN K pre) := by
  refine clG F S (fun vs H Q E h => ?_) hps fun f cdv A outer s H vs Q E hr h => ?_
  · obtain ⟨qs, r, h1, h2, _⟩ := h
    rw [h1.len, hlen qs r h2, hps]
  · obtain ⟨qs, r, h1, h2, h3⟩ := h
    exact hbody f cdv A outer s H vs qs r Q E hr h2 h1 h3
/-- a def of the text with one default None -/
def DfN (K : PySem.W.Frag) (mg : Str → Option Value) (x : Str) (st : Stmt) (ps : List Str) : Prop := ∃ (f : Addr) (fd : FuncData), (∃ (oc : Value) (od : Option Addr) (dV kV doc pm : Value) (an : Option Addr) (cdv ct : Value) (osl : Array (Option Value)),
    fd = PySem.W.fnOf x x (defArgs st) (defBody st) (defScope st) dV kV doc pm an cdv ct ∧ K.lookup f = some ⟨oc, od, .func fd, osl⟩ ∧ PySem.W.codeIn K cdv x = true) ∧ mg x = some (.ref f) ∧ PySem.W.keepIn K (.ref f) = true ∧ Binds K fd ps [] ∧ Binds K fd ps [.none]
/-- the def named x keeps its promise, its last argument by default None -/
structure ClN (P : Program) (w : World) (K : PySem.W.Frag) (mg : Str → Option Value) (base : Heap) (k : Nat) (x : Str) (sp : Sp) : Prop where
  ex : ∃ (f : Addr) (fd : FuncData) (ps : List Str), FnOk P w K mg base CX0 k f fd ps sp ∧ mg x = some (.ref f) ∧ PySem.W.keepIn K (.ref f) = true ∧ Binds K fd ps [] ∧ Binds K fd ps [.none]
theorem clN {x : Str} {st : Stmt} {N ps : List Str} {k n : Nat} {pre : List Dv → Dv → Prop} (F : DfN K mg x st ps) (S : FnScope N ps (defScope st)) (hlen : ∀ qs r, pre qs r → qs.length = n) (hps : ps.length = n)
    (hbody : ∀ (f : Addr) (cdv : Value) (A : Around) (outer : List Env) (s : Shared) (H : Hp) (vs : List V) (qs : List Dv) (r : Dv) (Q : VK) (E : XK), Room k (A.deeper (envOfC x (defScope st) s.heap.objs.size f cdv)) → pre qs r → DqAll K H vs qs → (∀ v H', Ex H H' → Dq K H' v r → Q v H') →
      SX (cxOf CX0 P w K mg base N x (defScope st) f cdv A outer s H E).nox (L2.start N vs) H (defBody st) { nx := fun _ H' => Q .non H', rt := Q }) : ClN P w K mg base (k + 1) x (SpD K pre) := by
  obtain ⟨f, fd, ⟨oc, od, dV, kV, doc, pm, an, cdv, ct, osl, rfl, lk, hcd⟩, hm, hkp, hb, hb2⟩ := F
  refine ⟨f, _, ps, fn_of lk hcd S (fun vs H Q E h => ?_) fun A outer s H vs Q E hr h => ⟨_, (SX.pss (X := (cxOf CX0 P w K mg base N x (defScope st) f cdv A outer s H E).nox)).nox, ?_⟩, hm, hkp, hb, hb2⟩
  · obtain ⟨qs, r, h1, h2, _⟩ := h
    rw [h1.len, hlen qs r h2, hps]
  · obtain ⟨qs, r, h1, h2, h3⟩ := h
    exact hbody f cdv A outer s H vs qs r Q E hr h2 h1 h3
end
section
variable {X : Cx} {σ : L2.St} {H : Hp} {e : Expr} {es : List Expr} {d : PyData} {qs : List Dv} {pos p : Pos}
theorem xClL {k j n : Nat} {pre : List Dv → List PyData → Prop} {ds : List PyData} {x : Str} (C : Cl X.prog X.w X.K X.mg X.base j x n (SpN X.K pre)) (hr : Room k X.A) (ha : AQ X σ H (e :: es) qs) (hp : pre qs ds) (hj : j ≤ k := by decide)
    (hg : Gl X x := by rfl) (hdb : (x == ("__debug__" : Str)) = false := by decide) (he : starEach (e :: es) X.env = (false, eval e X.env) :: starEach es X.env := by rfl) (hpl : (backTo pos (starEach es X.env)).any (·.1) = false := by rfl) : EN X σ H (.Call (.Name x p) (e :: es) [] pos) ds := by
  obtain ⟨f, fd, ps, _, F, hm, hk, hb⟩ := C.ex
  exact .of (pe_call (E := fun _ _ _ => False) F (hr.mono hj) hg hm hk hb .nil (fun _ _ _ _ _ _ _ z => False.elim z) ha hdb he hpl) fun H1 e1 Q k => ⟨rfl, e1, fun vs H2 e2 dvs => by
    refine ⟨qs, ds, by rw [List.append_nil]; exact dvs, hp, fun p H' e' hn hl => k _ H' (e2.trans e') ⟨p, rfl, fresh_back (e1.trans e2) hn, hl⟩⟩⟩
theorem xClN {k j : Nat} {pre : List Dv → Dv → Prop} {x : Str} (C : ClN X.prog X.w X.K X.mg X.base j x (SpD X.K pre)) (hr : Room k X.A) (ha : AQ X σ H (e :: es) qs) (hp : pre qs (.dat d)) (hj : j ≤ k := by decide)
    (hg : Gl X x := by rfl) (hdb : (x == ("__debug__" : Str)) = false := by decide) (he : starEach (e :: es) X.env = (false, eval e X.env) :: starEach es X.env := by rfl) (hpl : (backTo pos (starEach es X.env)).any (·.1) = false := by rfl) : EX X σ H (.Call (.Name x p) (e :: es) [] pos) d := by
  obtain ⟨f, fd, ps, F, hm, hk, hb, _⟩ := C.ex
  exact xCall F (hr.mono hj) hm hk hb ha hp hg hdb he hpl
theorem xClN1 {k j : Nat} {pre : List Dv → Dv → Prop} {x : Str} (C : ClN X.prog X.w X.K X.mg X.base j x (SpD X.K pre)) (hr : Room k X.A) (ha : AQ X σ H (e :: es) qs) (hp : pre (qs ++ [.dat .none]) (.dat d)) (hj : j ≤ k := by decide)
    (hg : Gl X x := by rfl) (hdb : (x == ("__debug__" : Str)) = false := by decide) (he : starEach (e :: es) X.env = (false, eval e X.env) :: starEach es X.env := by rfl) (hpl : (backTo pos (starEach es X.env)).any (·.1) = false := by rfl) : EX X σ H (.Call (.Name x p) (e :: es) [] pos) d := by
  obtain ⟨f, fd, ps, F, hm, hk, _, hb⟩ := C.ex
  exact xCallD (dvs0 := [.non]) (qs0 := [.dat .none]) F (hr.mono hj) hm hk hb (.cons rfl .nil) (fun H' => .cons (show Dp X.K H' .non .none from .non) .nil) ha hp hg hdb he hpl
end
end GX
end SGFor2
section SGFn1
set_option linter.all false
set_option maxRecDepth 100000
set_option maxHeartbeats 1000000
/-! readers -/
namespace GX
open PySem PySem.Spec PyProof.Rows L2
open Evl StX OL

/-- a pair of ints -/
abbrev dPr (a b : Int) : PyData := .tuple [.int a, .int b]
section
variable {P : Program} {w : World} {K : PySem.W.Frag} {mg : Str → Option Value} {base : Heap}
inductive preCapacity : List Dv → Dv → Prop
  | mk (u c : Int) : 0 < u → u < 100 → preCapacity [.dat (dPr u c)] (.dat (.int (u * c)))
theorem hasLen {pre : List Dv → Dv → Prop} {n : Nat} (h : ∀ qs r, pre qs r → qs.length = n) : ∀ qs r, pre qs r → qs.length = n := h
theorem cl_capacity (F : Df K mg "capacity" sCapacity pCapacity) : Cl P w K mg base 1 "capacity" 1 (SpD K preCapacity) := by
  refine clD F scCapacity (fun qs r h => by cases h; rfl) rfl fun f cdv A outer s H vs qs r Q E hr hp hq k => ?_
  obtain ⟨u, c, hu1, hu2⟩ := hp
  obtain ⟨v1, rfl, h1⟩ := hq.one
  refine sxUn2 (i := 1) (j := 2) rfl scCapacity.nd (xV 0 rfl h1 (pv 0)) fun u1 u2 H1 e1 d1 d2 => ?_
  exact sxRet (xMul (xV 1 rfl d1 (pv 1)) (xV 2 rfl d2 (pv 2)) (by first | exact .inl ⟨by omega, by omega⟩ | exact .inr ⟨by omega, by omega⟩ | assumption)) fun v H2 e2 d => k v H2 (e1.trans e2) d
inductive preSlack : List Dv → Dv → Prop
  | mk (u c x : Int) : 0 < u → u < 100 → preSlack [.dat (dPr u c), .dat (.int x)] (.dat (.int (u * c - x)))
theorem cl_slack (c_capacity : Cl P w K mg base 1 "capacity" 1 (SpD K preCapacity)) (F : Df K mg "slack" sSlack pSlack) : Cl P w K mg base 2 "slack" 2 (SpD K preSlack) := by
  refine clD F scSlack (fun qs r h => by cases h; rfl) rfl fun f cdv A outer s H vs qs r Q E hr hp hq k => ?_
  obtain ⟨u, c, x, hu1, hu2⟩ := hp
  obtain ⟨v1, v2, rfl, h1, h2⟩ := hq.two
  refine sxRet (xSub (xClD c_capacity hr (aqCons (EX.toQ (xV 0 rfl h1 (pv 0))) aqNil) ?_) (xV 1 rfl h2 (pv 1))) fun v H2 e2 d => k v H2 e2 d
  exact .mk u c hu1 hu2
/-! is_integer -/
def isIntP (v l : Int) (m : Option Int) : Bool := !(decide (v < l)) && (match m with | none => true | some m => decide (v ≤ m))
def dOpt : Option Int → PyData
  | none => .none
  | some m => .int m
inductive preIsInteger : List Dv → Dv → Prop
  | mk (v l : Int) (m : Option Int) : preIsInteger [.dat (.int v), .dat (.int l), .dat (dOpt m)] (.dat (.bool (isIntP v l m)))
theorem cl_is_integer (B : BM mg) (F : DfN K mg "is_integer" sIsInteger pIsInteger) : ClN P w K mg base 1 "is_integer" (SpD K preIsInteger) := by
  refine clN F scIsInteger (fun qs r h => by cases h; rfl) rfl fun f cdv A outer s H vs qs r Q E hr hp hq k => ?_
  obtain ⟨n, l, m⟩ := hp
  obtain ⟨v1, v2, v3, rfl, h1, h2, h3⟩ := hq.three
  refine sxWhen (WX.tx (wOr (tNotX (tBool (xIsInt rfl B.isinstance rfl B.int (xV 0 rfl h1 (pv 0))))) fun _ => (wOr (tBool (xIsBool rfl B.isinstance rfl B.bool (xV 0 rfl h1 (pv 0)))) fun _ => (wOr1 (ttLt (xV 0 rfl h1 (pv 0)) (xV 1 rfl h2 (pv 1))))))) (fun hc H1 e1 => ?_) fun hc H1 e1 => ?_
  · refine sxRet xB fun v H2 e2 d => k v H2 (e1.trans e2) (dpIs d ?_)
    have h : n < l := by simpa using hc
    simp [isIntP, h]
  · have h : ¬ n < l := by simpa using hc
    have h1 := dp_ex e1 h1
    have h2 := dp_ex e1 h2
    have h3 := dp_ex e1 h3
    cases m with
    | none => 
      refine sxRet (xOr (c2 := true) (xIsNone (xV 2 rfl h3 (pv 2))) fun z => by cases z) fun v H2 e2 d => k v H2 (e1.trans e2) (dpIs d ?_)
      all_goals simp [isIntP, h, nonD]
    | some m => 
      refine sxRet (xOr (xIsNone (xV 2 rfl h3 (pv 2))) fun _ => (xOne (xLe (xV 0 rfl h1 (pv 0)) (xV 2 rfl h3 (pv 2))))) fun v H2 e2 d => k v H2 (e1.trans e2) (dpIs d ?_)
      all_goals simp [isIntP, h, nonD, dOpt]
/-! step_of -/
def stepP (u c x : Int) : Bool × Int := if u - 1 ≤ u * c - x then (true, x % u) else (false, u - (u * c - x))
def wordD (b : Bool) : PyData := .str (if b then "free" else "tight")
inductive preStepOf : List Dv → Dv → Prop
  | mk (u c x : Int) : 0 < u → u < 100 → preStepOf [.dat (dPr u c), .dat (.int x)] (.dat (.tuple [wordD (stepP u c x).1, .int (stepP u c x).2]))
theorem cl_step_of (C : MC mg) (c_slack : Cl P w K mg base 2 "slack" 2 (SpD K preSlack)) (F : Df K mg "step_of" sStepOf pStepOf) : Cl P w K mg base 3 "step_of" 2 (SpD K preStepOf) := by
  refine clD F scStepOf (fun qs r h => by cases h; rfl) rfl fun f cdv A outer s H vs qs r Q E hr hp hq k => ?_
  obtain ⟨u, c, x, hu1, hu2⟩ := hp
  obtain ⟨v1, v2, rfl, h1, h2⟩ := hq.two
  refine sxPar (i := 2) (j := 3) rfl scStepOf.nd (xIxA (xV 0 rfl h1 (pv 0)) xI) (xClD c_slack hr (aqCons (EX.toQ (xV 0 rfl h1 (pv 0))) (aqCons (EX.toQ (xV 1 rfl h2 (pv 1))) aqNil)) (.mk u c x hu1 hu2)) (fun _ _ _ e d => dp_ex e d) (fun u1 u2 H1 e1 d1 d2 => ?_)
  · have h1 := dp_ex e1 h1
    have h2 := dp_ex e1 h2
    unfold stepP at k
    by_cases h : u - 1 ≤ u * c - x
    · rw [if_pos h] at k
      refine sxRet (xIfT (ttGe (xV 3 rfl d2 (pv 3)) (xSub (xV 2 rfl d1 (pv 2)) xI)) (fun _ => (xTup (aCons (xGlobS C.free) (aCons (xMod (xV 1 rfl h2 (pv 1)) (xV 2 rfl d1 (pv 2)) (by omega)) aNil)) (by first | (rw [sizeLine_eq]; simp; done) | (rw [sizeLine_eq]; simp; omega) | assumption))) fun z => absurd h (by simpa using z)) fun v H2 e2 d => k v H2 (e1.trans e2) d
    · rw [if_neg h] at k
      refine sxRet (xIfT (ttGe (xV 3 rfl d2 (pv 3)) (xSub (xV 2 rfl d1 (pv 2)) xI)) (fun z => absurd (by simpa using z) h) fun _ => (xTup (aCons (xGlobS C.tight) (aCons (xSub (xV 2 rfl d1 (pv 2)) (xV 3 rfl d2 (pv 3))) aNil)) (by first | (rw [sizeLine_eq]; simp; done) | (rw [sizeLine_eq]; simp; omega) | assumption))) fun v H2 e2 d => k v H2 (e1.trans e2) d
end
end GX
end SGFn1
section SGFn2
set_option linter.all false
set_option maxRecDepth 100000
set_option maxHeartbeats 1000000
/-! boxes -/
namespace GX
open PySem PySem.Spec PyProof.Rows L2
open Evl StX OL
abbrev dPp (p : Int × Int) : PyData := .tuple [.int p.1, .int p.2]
/-- a step's row -/
def dSt (u c : Int) (p : Int × Int) : PyData := .tuple [wordD (stepP u c p.1).1, .int (stepP u c p.1).2, .int p.2]
/-- no width crosses -/
def okCs (u c : Int) (cs : List (Int × Int)) : Prop := ∀ p ∈ cs, (stepP u c p.1).1 = true → (stepP u c p.1).2 ≤ 1
section
variable {P : Program} {w : World} {K : PySem.W.Frag} {mg : Str → Option Value} {base : Heap}
theorem eqv_word (a b : Bool) : PyData.eqv (wordD a) (wordD b) = decide (a = b) := by
  cases a <;> cases b <;> decide +kernel
theorem shaped_word (b : Bool) : SeqAt.shaped (wordD b) = true := by cases b <;> decide +kernel
theorem shaped_wi (b : Bool) (n : Int) : SeqAt.shaped (.tuple [wordD b, .int n]) = true := by
  have h : PyData.canLay0 (wordD b) = true := by cases b <;> decide +kernel
  unfold SeqAt.shaped
  show ((PyData.canLay0 (wordD b) && (PyData.canLay0 (.int n) && true)) && _) = true
  rw [h]
  cases b <;> rfl
inductive preStepsIn : List Dv → Dv → Prop
  | mk (u c : Int) (cs : List (Int × Int)) : 0 < u → u < 100 → cs.length ≤ 1000 → okCs u c cs → preStepsIn [.dat (dPr u c), .dat (.tuple (cs.map dPp))] (.dat (.list (cs.map (dSt u c))))
theorem cl_steps_in (C : MC mg) (c_step_of : Cl P w K mg base 3 "step_of" 2 (SpD K preStepOf)) (F : Df K mg "steps_in" sStepsIn pStepsIn) : Cl P w K mg base 4 "steps_in" 2 (SpD K preStepsIn) := by
  refine clD F scStepsIn (fun qs r h => by cases h; rfl) rfl fun f cdv A outer s H vs qs r Q E hr hp hq k => ?_
  obtain ⟨u, c, cs, hu1, hu2, hcs, hok⟩ := hp
  obtain ⟨v1, v2, rfl, h1, h2⟩ := hq.two
  refine sxSet (i := 2) (nLst aNil (Nat.zero_le _)) (fun v H1 e1 ⟨q, ev, hn, vs0, hq1, hq2⟩ => ?_) scStepsIn.nd
  subst ev
  cases hq2
  refine sxForE rfl rfl (erV 1 rfl (pv 1)) (B := H) h2 (pg_tup rfl (pgs_cons (pg_name scStepsIn.nd (i := 3) rfl (.inl rfl)) (pgs_cons (pg_name scStepsIn.nd (i := 4) rfl (.inl rfl)) pgs_nil))) fun H2 e2 => ?_
  refine ⟨fun i σ' H' => ∃ a b c' d vs, σ' = [some v1, some v2, some (.ref q), a, b, c', d] ∧ Ex H H' ∧ H' q = some (.lst vs) ∧ vs.length = min i cs.length ∧ DpAll K H' vs ((cs.take i).map (dSt u c)), ⟨none, none, none, none, [], rfl, e1.trans e2, e2 _ _ hq1, by simp, .nil⟩, fun i σ' H' ⟨_, _, _, _, _, _, e, _⟩ => e, ?_, ?_⟩
  · rintro i p x σ' H' hi ⟨a, b, c', d, vs, rfl, e3, hv, hl, da⟩ dx
    refine g2_run dx fun w1 w2 d1 d2 => ?_
    have hm : p ∈ cs := List.mem_of_getElem? hi
    have h1 := dp_ex e3 h1
    refine sxUn2 (i := 5) (j := 6) rfl scStepsIn.nd (xClD c_step_of hr (aqCons (EX.toQ (xV 0 rfl h1 (pv 0))) (aqCons (EX.toQ (xV 3 rfl d1 (pv 3))) aqNil)) (.mk u c p.1 hu1 hu2)) fun w3 w4 H4 e4 d3 d4 => ?_
    have hx := hok p hm
    refine sxWhen (c0 := false) (TX.is (WX.tx (wAnd (ttEq hr.units (xV 5 rfl d3 (pv 5)) (xGlobS C.free) (by first | rfl | decide +kernel | exact shaped_tI _ | exact shaped_lI _ | exact shaped_word _ | exact shaped_wi _ _ | assumption) (by first | rfl | decide +kernel | exact shaped_tI _ | exact shaped_lI _ | exact shaped_word _ | exact shaped_wi _ _ | assumption)) fun _ => (wAnd1 (ttGt (xV 6 rfl d4 (pv 6)) xI)))) ?_) (fun z => by cases z) fun _ H5 e5 => ?_
    · have e : PyData.eqv (wordD (stepP u c p.1).1) (.str "free") = (stepP u c p.1).1 := by
        cases (stepP u c p.1).1 <;> decide +kernel
      rw [e]
      cases h : (stepP u c p.1).1 with
      | false => rfl
      | true => have := hx h; simp; omega
    have hlen : i < cs.length := (List.getElem?_eq_some_iff.mp hi).1
    have hv5 : H5 q = some (.lst vs) := (e4.trans e5) _ _ hv
    have d2 := dp_ex e4 d2
    have d2 := dp_ex e5 d2
    have d3 := dp_ex e5 d3
    have d4 := dp_ex e5 d4
    refine sxAppend (erV 2 rfl (pv 2)) hv5 (small1000 (by omega)) (xTup (aCons (xV 5 rfl d3 (pv 5)) (aCons (xV 6 rfl d4 (pv 6)) (aCons (xV 4 rfl d2 (pv 4)) aNil))) (by first | (rw [sizeLine_eq]; simp; done) | (rw [sizeLine_eq]; simp; omega) | assumption)) fun z H6 e6 dz => sxNil ?_
    refine ⟨_, _, _, _, _, rfl, ex_lst (e3.trans (e4.trans (e5.trans e6))) (fresh_back (Ex.refl _) hn), upd_same, by rw [List.length_append]; simp; omega, ?_⟩
    rw [take_app hi, List.map_append]
    exact app_all (e6 _ _ hv5) (dpAll_ex (e4.trans (e5.trans e6)) da) dz (flat_all fun _ _ => rfl) rfl
  · rintro σ' H' ⟨a, b, c', d, vs, rfl, e3, hv, hl, da⟩
    refine sxRet (lV 2 rfl rfl ⟨vs, hv, by rw [List.take_length] at da; exact da⟩ (pv 2)).ex fun v H2 e2 d => k v H2 (e3.trans e2) d
/-! boxes_in, singles_in -/
theorem eqv_free (b : Bool) : PyData.eqv (wordD b) (.str "free") = b := by cases b <;> decide +kernel
theorem eqv_tight (b : Bool) : PyData.eqv (wordD b) (.str "tight") = !b := by cases b <;> decide +kernel
theorem eqv_int (a b : Int) : PyData.eqv (.int a) (.int b) = decide (a = b) := by
  show (a == b) = _
  by_cases h : a = b <;> simp [h]
theorem eqv_free1 (b : Bool) (n : Int) : PyData.eqv (.tuple [wordD b, .int n]) (.tuple [.str "free", .int 1]) = (b && decide (n = 1)) := by
  show (PyData.eqv (wordD b) (.str "free") && (PyData.eqv (.int n) (.int 1) && true)) = _
  rw [eqv_free, eqv_int, Bool.and_true]
def isBox (u c : Int) (p : Int × Int) : Bool := !(stepP u c p.1).1 && decide ((stepP u c p.1).2 < u)
def boxesP (u c : Int) (cs : List (Int × Int)) : List (Int × Int) := (cs.filter (isBox u c)).foldl (fun m p => putI m (stepP u c p.1).2 p.2) []
def isOne (u c : Int) (p : Int × Int) : Bool := (stepP u c p.1).1 && decide ((stepP u c p.1).2 = 1)
def singlesP (u c : Int) (cs : List (Int × Int)) : Int := ((cs.filter (isOne u c)).map (·.2)).sum
inductive preBoxesIn : List Dv → Dv → Prop
  | mk (u c : Int) (cs : List (Int × Int)) : 0 < u → u < 100 → cs.length ≤ 1000 → okCs u c cs → preBoxesIn [.dat (dPr u c), .dat (.tuple (cs.map dPp))] (.new (boxesP u c cs))
theorem cl_boxes_in (B : BM mg) (C : MC mg) (c_steps_in : Cl P w K mg base 4 "steps_in" 2 (SpD K preStepsIn)) (F : Df K mg "boxes_in" sBoxesIn pBoxesIn) : Cl P w K mg base 5 "boxes_in" 2 (SpD K preBoxesIn) := by
  refine clD F scBoxesIn (fun qs r h => by cases h; rfl) rfl fun f cdv A outer s H vs qs r Q E hr hp hq k => ?_
  obtain ⟨u, c, cs, hu1, hu2, hcs, hok⟩ := hp
  obtain ⟨v1, v2, rfl, h1, h2⟩ := hq.two
  refine sxRet (nDc (xs := cs) (Dd := dSt u c) (T := isBox u c) (Kf := fun p => (stepP u c p.1).2) (Vf := fun p => p.2) (own := [("word", 2), ("size", 3), ("number", 4)]) (g := gTup _ 3 (gCons (gName 2) (gCons (gName 3) (gCons (gName 4) gNil)))) rfl scBoxesIn.nd (srL (xClD c_steps_in hr (aqCons (EX.toQ (xV 0 rfl h1 (pv 0))) (aqCons (EX.toQ (xV 1 rfl h2 (pv 1))) aqNil)) (.mk u c cs hu1 hu2 hcs hok))) (blkOk_by (N := nBoxesIn) (sc := defScope sBoxesIn) (by decide +kernel)) (fun _ _ _ _ _ => (pg_tup rfl (pgs_cons (pg_name scBoxesIn.nd (i := 2) rfl (by first | exact .inl rfl | exact .inr rfl)) (pgs_cons (pg_name scBoxesIn.nd (i := 3) rfl (by first | exact .inl rfl | exact .inr rfl)) (pgs_cons (pg_name scBoxesIn.nd (i := 4) rfl (by first | exact .inl rfl | exact .inr rfl)) pgs_nil))))) (Nat.le_of_lt (small1000 hcs)) (fun a ha v H2 e2 dv Q q => g3_run dv fun u_word u_size u_number d_word d_size d_number => q _ (by rfl) H2 (Ex.refl _) (fun _ _ _ _ _ => TX.is (WX.tx (wAnd (ttEq hr.units (xV 2 rfl d_word (pv 2)) (xGlobS C.tight) (by first | rfl | decide +kernel | exact shaped_tI _ | exact shaped_lI _ | exact shaped_word _ | exact shaped_wi _ _ | assumption) (by first | rfl | decide +kernel | exact shaped_tI _ | exact shaped_lI _ | exact shaped_word _ | exact shaped_wi _ _ | assumption)) fun _ => (wAnd1 (ttLt (xV 3 rfl d_size (pv 3)) (xIxA (xV 0 rfl (dp_ex e2 h1) (pv 0)) xI))))) (by show (PyData.eqv (wordD _) (.str "tight") && decide _) = _; rw [eqv_tight]; rfl)) (fun hT _ _ _ _ _ => ⟨(xV 3 rfl d_size (pv 3)), (xV 4 rfl d_number (pv 4))⟩))) fun v H2 e2 ⟨p, ev, hn, hp⟩ => k v H2 e2 ⟨p, ev, hp⟩
inductive preSinglesIn : List Dv → Dv → Prop
  | mk (u c : Int) (cs : List (Int × Int)) : 0 < u → u < 100 → cs.length ≤ 1000 → okCs u c cs → preSinglesIn [.dat (dPr u c), .dat (.tuple (cs.map dPp))] (.dat (.int (singlesP u c cs)))
theorem cl_singles_in (B : BM mg) (C : MC mg) (c_steps_in : Cl P w K mg base 4 "steps_in" 2 (SpD K preStepsIn)) (F : Df K mg "singles_in" sSinglesIn pSinglesIn) : Cl P w K mg base 5 "singles_in" 2 (SpD K preSinglesIn) := by
  refine clD F scSinglesIn (fun qs r h => by cases h; rfl) rfl fun f cdv A outer s H vs qs r Q E hr hp hq k => ?_
  obtain ⟨u, c, cs, hu1, hu2, hcs, hok⟩ := hp
  obtain ⟨v1, v2, rfl, h1, h2⟩ := hq.two
  refine sxRet (xSumA (ns := (cs.filter (isOne u c)).map fun p : Int × Int => p.2) B.sum rfl rfl (EN.ex (nLc (xs := cs) (Dd := dSt u c) (T := isOne u c) (E := fun p => .int p.2) (own := [("word", 2), ("size", 3), ("number", 4)]) (g := gTup _ 3 (gCons (gName 2) (gCons (gName 3) (gCons (gName 4) gNil)))) rfl scSinglesIn.nd (srL (xClD c_steps_in hr (aqCons (EX.toQ (xV 0 rfl h1 (pv 0))) (aqCons (EX.toQ (xV 1 rfl h2 (pv 1))) aqNil)) (.mk u c cs hu1 hu2 hcs hok))) (blkOk_by (N := nSinglesIn) (sc := defScope sSinglesIn) (by decide +kernel)) (fun _ _ _ _ _ => (pg_tup rfl (pgs_cons (pg_name scSinglesIn.nd (i := 2) rfl (by first | exact .inl rfl | exact .inr rfl)) (pgs_cons (pg_name scSinglesIn.nd (i := 3) rfl (by first | exact .inl rfl | exact .inr rfl)) (pgs_cons (pg_name scSinglesIn.nd (i := 4) rfl (by first | exact .inl rfl | exact .inr rfl)) pgs_nil))))) (Nat.le_of_lt (small1000 hcs)) (fun _ _ => rfl) (fun a ha v H2 e2 dv Q q => g3_run dv fun u_word u_size u_number d_word d_size d_number => q _ (by rfl) H2 (Ex.refl _) (fun _ _ _ _ _ => TX.is (ttEq hr.units (xTup (aCons (xV 2 rfl d_word (pv 2)) (aCons (xV 3 rfl d_size (pv 3)) aNil)) (by first | (rw [sizeLine_eq]; simp; done) | (rw [sizeLine_eq]; simp; omega) | assumption)) (xTup (aCons (xGlobS C.free) (aCons xI aNil)) (by first | (rw [sizeLine_eq]; simp; done) | (rw [sizeLine_eq]; simp; omega) | assumption)) (by first | rfl | decide +kernel | exact shaped_tI _ | exact shaped_lI _ | exact shaped_word _ | exact shaped_wi _ _ | assumption) (by first | rfl | decide +kernel | exact shaped_tI _ | exact shaped_lI _ | exact shaped_word _ | exact shaped_wi _ _ | assumption)) (eqv_free1 _ _)) (fun hT _ _ _ _ _ => (xV 4 rfl d_number (pv 4)))))) (.inr (by rw [List.map_map]; rfl))) fun v H2 e2 d => k v H2 e2 d
end
end GX
end SGFn2
section SGPk
set_option linter.all false
/-! packing, plainly -/
namespace GX
abbrev Lap := List Int × Int
def oftenP (left : List (Int × Int)) (sizes : List Int) : Int := minL (sizes.map fun s => (getI left s).getD 0 / (sizes.count s : Nat))
def compL (k : Int) : List (List Int) := if k = 7 then [] else if k = 6 then [[2]] else if k = 5 then [[3], [2]] else if k = 4 then [[4], [2, 2], [3], [2]] else if k = 3 then [[3, 2], [3], [2, 2], [2]] else [[2, 2, 2], [2, 2], [2]]
def ffL : List (List Int) := [[4], [3], [2, 2], [2]]
def othersL (o4 : List (List Int)) (k : Int) : List (List Int) := (if k = 4 then o4 else compL k) ++ [[]]
abbrev PkS := List (Int × Int) × List Lap
def subL (many : Int) (left : List (Int × Int)) (sizes : List Int) : List (Int × Int) := sizes.foldl (fun m b => putI m b ((getI m b).getD 0 - many)) left
def manyP (u : Int) (left : List (Int × Int)) (sizes : List Int) : Int := if sizes.sum ≤ u then oftenP left sizes else 0
def oneP (u : Int) (st : PkS) (sizes : List Int) : PkS := if 0 < manyP u st.1 sizes then (subL (manyP u st.1 sizes) st.1 sizes, st.2 ++ [(sizes, manyP u st.1 sizes)]) else st
def sizeP (u : Int) (o4 : List (List Int)) (st : PkS) (k : Int) : PkS := (othersL o4 k).foldl (fun st o => oneP u st (k :: o)) st
def packedS (u : Int) (kvs : List (Int × Int)) (o4 : List (List Int)) : PkS := (ord true (kvs.map (·.1))).foldl (sizeP u o4) (kvs, [])
def packedP (u : Int) (kvs : List (Int × Int)) (o4 : List (List Int)) : List Lap := (packedS u kvs o4).2
theorem compL_len (k : Int) : (compL k).length ≤ 4 := by
  unfold compL
  split
  · decide
  split
  · decide
  split
  · decide
  split
  · decide
  split <;> decide
theorem oneP_len (u : Int) (st : PkS) (sizes : List Int) : (oneP u st sizes).2.length ≤ st.2.length + 1 := by
  unfold oneP
  split
  · simp
  · simp
theorem fold_len (u k : Int) : ∀ (os : List (List Int)) (st : PkS), (os.foldl (fun st o => oneP u st (k :: o)) st).2.length ≤ st.2.length + os.length
  | [], st => by simp
  | o :: os, st => by
    have h1 := oneP_len u st (k :: o)
    have h2 := fold_len u k os (oneP u st (k :: o))
    simp only [List.foldl_cons, List.length_cons]
    omega
theorem othersL_len {o4 : List (List Int)} (h : o4.length ≤ 4) (k : Int) : (othersL o4 k).length ≤ 5 := by
  unfold othersL
  have := compL_len k
  split <;> simp <;> omega
theorem sizes_len {u : Int} {o4 : List (List Int)} (h : o4.length ≤ 4) : ∀ (ks : List Int) (st : PkS), (ks.foldl (sizeP u o4) st).2.length ≤ st.2.length + 5 * ks.length
  | [], st => by simp
  | k :: ks, st => by
    have h1 : (sizeP u o4 st k).2.length ≤ st.2.length + 5 := Nat.le_trans (fold_len u k _ st) (by have := othersL_len h k; omega)
    have h2 := sizes_len (u := u) h ks (sizeP u o4 st k)
    simp only [List.foldl_cons, List.length_cons]
    omega
/-! presence -/
theorem getI_put (kvs : List (Int × Int)) (k v j : Int) : getI (putI kvs k v) j = if j = k then some v else getI kvs j := by
  have h := L2.valV_put (kvs.map kvD) (.inl k) (.inl j) (.int v)
  rw [putI_kv, getI_kv, getI_kv] at h
  by_cases e : j = k
  · subst e
    rw [if_pos rfl] at h ⊢
    cases q : getI (putI kvs j v) j with
    | none => rw [q] at h; cases h
    | some y => rw [q] at h; cases h; rfl
  · rw [if_neg (fun z => e (Sum.inl.inj z))] at h
    rw [if_neg e]
    cases q : getI (putI kvs k v) j with
    | none =>
      rw [q] at h
      cases q2 : getI kvs j with
      | none => rfl
      | some y => rw [q2] at h; cases h
    | some y =>
      rw [q] at h
      cases q2 : getI kvs j with
      | none => rw [q2] at h; cases h
      | some y2 => rw [q2] at h; cases h; rfl
theorem has_put {kvs : List (Int × Int)} {k v j : Int} (h : (getI kvs j).isSome = true) : (getI (putI kvs k v) j).isSome = true := by
  rw [getI_put]
  split
  · rfl
  · exact h
theorem has_sub {many : Int} {j : Int} : ∀ {sizes : List Int} {left : List (Int × Int)}, (getI left j).isSome = true → (getI (subL many left sizes) j).isSome = true
  | [], _, h => h
  | s :: ss, left, h => has_sub (sizes := ss) (left := putI left s ((getI left s).getD 0 - many)) (has_put h)
theorem putI_len_of {kvs : List (Int × Int)} {k v : Int} (h : (getI kvs k).isSome = true) : (putI kvs k v).length = kvs.length := by
  unfold putI
  have e : (kvs.any fun kv => decide (kv.1 = k)) = true := by
    unfold getI at h
    rw [Option.isSome_map] at h
    rw [List.any_eq_true]
    obtain ⟨p, hp⟩ := Option.isSome_iff_exists.mp h
    exact ⟨p, List.mem_of_find?_eq_some hp, by have := List.find?_some hp; exact this⟩
  rw [if_pos e, List.length_map]
theorem often_pos {left : List (Int × Int)} {sizes : List Int} (h : 0 < oftenP left sizes) {s : Int} (hs : s ∈ sizes) : (getI left s).isSome = true := by
  have h1 : oftenP left sizes ≤ (getI left s).getD 0 / (sizes.count s : Nat) := minL_le (List.mem_map.mpr ⟨s, hs, rfl⟩)
  cases q : getI left s with
  | some y => rfl
  | none =>
    rw [q] at h1
    simp at h1
    omega
theorem many_pos {u : Int} {left : List (Int × Int)} {sizes : List Int} (h : 0 < manyP u left sizes) {s : Int} (hs : s ∈ sizes) : (getI left s).isSome = true := by
  unfold manyP at h
  split at h
  · exact often_pos h hs
  · cases h
theorem subL_take {many : Int} {left : List (Int × Int)} {sizes : List Int} {i : Nat} {b : Int} (h : sizes[i]? = some b) : subL many left (sizes.take (i + 1)) = putI (subL many left (sizes.take i)) b ((getI (subL many left (sizes.take i)) b).getD 0 - many) := by
  unfold subL
  rw [show sizes.take (i + 1) = sizes.take i ++ [b] by rw [List.take_succ, h]; rfl, List.foldl_append]
  rfl
theorem subL_len {many : Int} : ∀ {sizes : List Int} {left : List (Int × Int)}, (∀ s ∈ sizes, (getI left s).isSome = true) → (subL many left sizes).length = left.length
  | [], _, _ => rfl
  | s :: ss, left, h => by
    show (subL many (putI left s ((getI left s).getD 0 - many)) ss).length = _
    rw [subL_len fun z hz => has_put (h z (by simp [hz])), putI_len_of (h s (by simp))]
theorem oneP_left_len (u : Int) (st : PkS) (sizes : List Int) : (oneP u st sizes).1.length = st.1.length := by
  unfold oneP
  split
  · rename_i h
    exact subL_len fun s hs => many_pos h hs
  · rfl
theorem fold_left_len (u k : Int) : ∀ (os : List (List Int)) (st : PkS), (os.foldl (fun st o => oneP u st (k :: o)) st).1.length = st.1.length
  | [], st => rfl
  | o :: os, st => by
    rw [List.foldl_cons, fold_left_len u k os, oneP_left_len]
theorem sizes_left_len {u : Int} {o4 : List (List Int)} : ∀ (ks : List Int) (st : PkS), (ks.foldl (sizeP u o4) st).1.length = st.1.length
  | [], st => rfl
  | k :: ks, st => by
    rw [List.foldl_cons, sizes_left_len ks]
    exact fold_left_len u k _ st
end GX
end SGPk
section SGFn3
set_option linter.all false
set_option maxRecDepth 100000
set_option maxHeartbeats 1000000
/-! packing -/
namespace GX
open PySem PySem.Spec PyProof.Rows L2
open Evl StX OL
section
variable {X : Cx} {σ : L2.St} {H : Hp} {tg it elt : Expr} {pos : Pos}
theorem nLcA {α : Type} {xs : List α} {Dd : α → PyData} {E : α → PyData} {ifs : List Expr} {scope : Scope} {own : List (Str × Nat)} {g : TG} (hc : X.calm = true) (hN : X.N.Nodup) (src : Src X σ H tg it (xs.map Dd)) (ok : BlkOk X.N X.env.scope scope own)
    (hg : Blk X scope fun B => PG B tg g) (hz : xs.length ≤ sizeLine) (hf : ∀ a ∈ xs, flatD (E a) = true)
    (step : ∀ a ∈ xs, ∀ v H2, Ex H H2 → Dp X.K H2 v (Dd a) → ∀ Q : L2.St → Hp → Prop, (∀ σ2, wipe σ2 (own.map (·.2)) = wipe σ (own.map (·.2)) → ∀ H3, Ex H2 H3 → (Blk X scope fun B => TXs B σ2 H3 ifs true) → (True → Blk X scope fun B => EX B σ2 H3 elt (E a)) → Q σ2 H3) → g v (wipe σ (own.map (·.2))) H2 Q)
    (hs : ∀ x, foldedSetIterable it X.env x = pure x := by intro _; rfl) : EN X σ H (.ListComp elt [⟨tg, it, ifs, 0⟩] scope pos) (xs.map E) := by
  have h := nLc (T := fun _ => true) (E := E) hc hN src ok hg hz hf (fun a ha v H2 e2 dv Q q => step a ha v H2 e2 dv Q fun σ2 hw H3 e3 ht he => q σ2 hw H3 e3 ht fun _ => he trivial) hs (pos := pos)
  rw [List.filter_eq_self.mpr (fun _ _ => rfl)] at h
  exact h
end
/-! a module's dict with int keys -/
def KDI (K : PySem.W.Frag) (mg : Str → Option Value) (x : Str) (f : Int → PyData) (dom : Int → Prop) : Prop :=
  ∃ (a : Addr) (es : Array DictEntry) (n : Nat), mg x = some (.ref a) ∧ K.lookup a = some ⟨.type "dict", none, .dict es n, #[]⟩ ∧ (∀ (P : Program) (w : World), KeysOf (intKind P w) es) ∧
    ∀ k, dom k → ∃ (u : Value) (v : V), (∀ (P : Program) (w : World), findBy (intKind P w).is es k = some u) ∧ RelV v u ∧ ∀ H, Dp K H v (f k)
section
variable {X : Cx} {σ : L2.St} {H : Hp} {b : Expr} {pos p : Pos} {k : Int}
theorem xKD {x : Str} {f : Int → PyData} {dom : Int → Prop} (h : KDI X.K X.mg x f dom) (hb : EX X σ H b (.int k)) (hk : dom k) (hg : Gl X x := by rfl) (hdb : (x == ("__debug__" : Str)) = false := by decide) (hs : PlainIx b := by exact fun _ _ => rfl) : EX X σ H (.Subscript (.Name x p) b pos) (f k) := by
  obtain ⟨a, es, n, hm, hl, hkeys, hfind⟩ := h
  obtain ⟨u, v, hu, ru, hd⟩ := hfind k hk
  have hx : IxR X (fun x y H Q => x = .ref a ∧ y = .int k ∧ Q v H) := by
    intro value slice pins s σ H x y v' u' Q I rx ry h hs
    obtain ⟨rfl, rfl, q⟩ := h
    obtain rfl : v' = Value.ref a := rx
    obtain ⟨t, rfl⟩ := ry
    have hm : s.heap.MapOf (intKind X.prog X.w) a (fun k => findBy (intKind X.prog X.w).is es k) := ⟨_, es, n, I.kIn _ _ hl, ⟨rfl, rfl, rfl⟩, rfl, hkeys _ _, fun _ => rfl⟩
    exact tail_any hm.typeIs slot_dict_getitem.lookup (wpAny_getItem_of (intKind_is X.prog X.w k t) hm (hu _ _) ⟨v, H, I.tok _, ru, q⟩) hs
  exact .of (pe_ix hx (pe_glob hg hm (show RelV (.ref a) (.ref a) from rfl) hdb) hb hs) fun H1 e1 Q q => ⟨rfl, e1, fun w H2 e2 dw => ⟨rfl, dp_int dw, q v H2 e2 (hd H2)⟩⟩
end
abbrev dLap (l : Lap) : PyData := .tuple [tI l.1, .int l.2]
section
variable {P : Program} {w : World} {K : PySem.W.Frag} {mg : Str → Option Value} {base : Heap}
/-! how_often -/
inductive preHowOften : List Dv → Dv → Prop
  | mk (left : List (Int × Int)) (sizes : List Int) : sizes ≠ [] → sizes.length ≤ 1000 → preHowOften [.dic left, .pt sizes] (.dat (.int (oftenP left sizes)))
theorem cl_how_often (B : BM mg) (F : Df K mg "how_often" sHowOften pHowOften) : Cl P w K mg base 1 "how_often" 2 (SpD K preHowOften) := by
  refine clD F scHowOften (fun qs r h => by cases h; rfl) rfl fun f cdv A outer s H vs qs r Q E hr hp hq k => ?_
  obtain ⟨left, sizes, hne, hz⟩ := hp
  obtain ⟨v1, v2, rfl, ⟨p, rfl, h1⟩, h2⟩ := hq.two
  refine sxRet (xMinL (ns := sizes.map fun s => (getI left s).getD 0 / (sizes.count s : Nat)) rfl rfl B.min (EX.is (EN.ex (nLcA (xs := sizes) (Dd := PyData.int) (E := fun s => .int ((getI left s).getD 0 / (sizes.count s : Nat))) (own := [("size", 2)]) (g := gName 2) rfl scHowOften.nd (srT (ET.ex (EY.et (yV 1 rfl h2 (pv 1))))) (blkOk_by (N := nHowOften) (sc := defScope sHowOften) (by decide +kernel)) (fun _ _ _ _ _ => (pg_name scHowOften.nd (i := 2) rfl (by first | exact .inl rfl | exact .inr rfl))) (Nat.le_of_lt (small1000 hz)) (fun _ _ => rfl) (fun a ha v H2 e2 dv Q q => by
    have hcd : CDiv ((getI left a).getD 0) (sizes.count a : Nat) := ⟨by have := List.count_pos_iff.mpr ha; omega, by have := List.count_le_length (a := a) (l := sizes); omega⟩
    exact g1_run (i := 2) (q _ (by rfl) H2 (Ex.refl _) (fun _ _ _ _ _ => rfl) (fun hT _ _ _ _ _ => (xDiv (xGet (hu_of hr) (dV 0 rfl rfl (ex_rd e2 h1) (pv 0)) (xV 2 rfl dv (pv 2)) xI ⟨rfl, rfl, rfl, rfl⟩) (xCountT (EY.et (yV 1 rfl (YdV.ex e2 h2) (pv 1))) (xV 2 rfl dv (pv 2))) (by first | exact ⟨by omega, by omega⟩ | assumption))))))) (by rw [List.map_map]; rfl)) (by simpa using hne)) fun v H2 e2 d => k v H2 e2 d
/-! lap_count -/
def lapsP (ls : List Lap) : Int := (ls.map fun l => l.2).sum
inductive preLapCount : List Dv → Dv → Prop
  | mk (ls : List Lap) : ls.length ≤ 1000 → preLapCount [.dat (.list (ls.map dLap))] (.dat (.int (lapsP ls)))
theorem cl_lap_count (B : BM mg) (F : Df K mg "lap_count" sLapCount pLapCount) : Cl P w K mg base 1 "lap_count" 1 (SpD K preLapCount) := by
  refine clD F scLapCount (fun qs r h => by cases h; rfl) rfl fun f cdv A outer s H vs qs r Q E hr hp hq k => ?_
  obtain ⟨ls, hz⟩ := hp
  obtain ⟨v1, rfl, h1⟩ := hq.one
  refine sxRet (xSumA (ns := ls.map fun l : Lap => l.2) B.sum rfl rfl (EN.ex (nLcA (xs := ls) (Dd := dLap) (E := fun l => .int l.2) (own := [("sizes", 1), ("number", 2)]) (g := gTup _ 2 (gCons (gName 1) (gCons (gName 2) gNil))) rfl scLapCount.nd (srL (xV 0 rfl h1 (pv 0))) (blkOk_by (N := nLapCount) (sc := defScope sLapCount) (by decide +kernel)) (fun _ _ _ _ _ => (pg_tup rfl (pgs_cons (pg_name scLapCount.nd (i := 1) rfl (by first | exact .inl rfl | exact .inr rfl)) (pgs_cons (pg_name scLapCount.nd (i := 2) rfl (by first | exact .inl rfl | exact .inr rfl)) pgs_nil)))) (Nat.le_of_lt (small1000 hz)) (fun _ _ => rfl) (fun a ha v H2 e2 dv Q q => g2_run dv fun u_sizes u_number d_sizes d_number => q _ (by rfl) H2 (Ex.refl _) (fun _ _ _ _ _ => rfl) (fun hT _ _ _ _ _ => (xV 2 rfl d_number (pv 2)))))) (.inr (by rw [List.map_map]; rfl))) fun v H2 e2 d => k v H2 e2 d
/-! without -/
def withoutP (kvs : List (Int × Int)) (sizes : List Int) : List (Int × Int) := kvs.foldl (fun m p => putI m p.1 (p.2 - (sizes.count p.1 : Nat))) []
inductive preWithout : List Dv → Dv → Prop
  | mk (kvs : List (Int × Int)) (sizes : List Int) : kvs.length ≤ 1000 → preWithout [.dic kvs, .pt sizes] (.new (withoutP kvs sizes))
theorem cl_without (B : BM mg) (F : Df K mg "without" sWithout pWithout) : Cl P w K mg base 1 "without" 2 (SpD K preWithout) := by
  refine clD F scWithout (fun qs r h => by cases h; rfl) rfl fun f cdv A outer s H vs qs r Q E hr hp hq k => ?_
  obtain ⟨kvs, sizes, hz⟩ := hp
  obtain ⟨v1, v2, rfl, ⟨p, rfl, h1⟩, h2⟩ := hq.two
  rcases h1 with h1 | ⟨od, h1⟩
  · refine sxRet (R := fun v H' => ∃ q, v = .ref q ∧ H' q = some (dKV (withoutP kvs sizes))) (ER.lock (R := fun v H' => ∃ q, v = .ref q ∧ q ≠ p ∧ H' q = some (dKV (withoutP kvs sizes))) h1 (fun od => ?_) fun od v H2 e2 ⟨q, ev, hn, hq⟩ => ⟨q, ev, by rw [upd_ne hn]; exact hq⟩) fun v H2 e2 r => k v H2 e2 r
    have ht : YdV (upd H p (.frz od (dKV kvs))) sizes v2 := h2.mx (by
      refine ⟨fun b xs e => ?_, fun b o u e => ?_⟩
      · rw [upd_ne (ne_of e h1 (by simp))]; exact e
      · rw [upd_ne (ne_of e h1 (by simp))]; exact e)
    refine ER.imp (nDc (xs := kvs) (Dd := dPp) (T := fun _ => true) (Kf := fun p => p.1) (Vf := fun p => p.2 - (sizes.count p.1 : Nat)) (own := [("size", 2), ("number", 3)]) (g := gTup _ 2 (gCons (gName 2) (gCons (gName 3) gNil))) rfl scWithout.nd (srI (q := p) (erV 0 rfl (pv 0)) upd_same) (blkOk_by (N := nWithout) (sc := defScope sWithout) (by decide +kernel)) (fun _ _ _ _ _ => (pg_tup rfl (pgs_cons (pg_name scWithout.nd (i := 2) rfl (by first | exact .inl rfl | exact .inr rfl)) (pgs_cons (pg_name scWithout.nd (i := 3) rfl (by first | exact .inl rfl | exact .inr rfl)) pgs_nil)))) (Nat.le_of_lt (small1000 hz)) (fun a ha v H2 e2 dv Q q => g2_run dv fun u_size u_number d_size d_number => q _ (by rfl) H2 (Ex.refl _) (fun _ _ _ _ _ => rfl) (fun hT _ _ _ _ _ => ⟨(xV 2 rfl d_size (pv 2)), (xSub (xV 3 rfl d_number (pv 3)) (xCountT (EY.et (yV 1 rfl (YdV.ex e2 ht) (pv 1))) (xV 2 rfl d_size (pv 2))))⟩))) fun v H' e ⟨q, ev, hn, hq⟩ => ⟨q, ev, fun z => ?_, by rw [List.filter_eq_self.mpr (fun _ _ => rfl)] at hq; exact hq⟩
    subst z
    rw [upd_same] at hn
    cases hn
  · --
    refine sxRet (R := fun v H' => ∃ q, v = .ref q ∧ H' q = some (dKV (withoutP kvs sizes))) ?_ fun v H2 e2 r => k v H2 e2 r
    exact ER.imp (nDc (xs := kvs) (Dd := dPp) (T := fun _ => true) (Kf := fun p => p.1) (Vf := fun p => p.2 - (sizes.count p.1 : Nat)) (own := [("size", 2), ("number", 3)]) (g := gTup _ 2 (gCons (gName 2) (gCons (gName 3) gNil))) rfl scWithout.nd (srI (q := p) (erV 0 rfl (pv 0)) h1) (blkOk_by (N := nWithout) (sc := defScope sWithout) (by decide +kernel)) (fun _ _ _ _ _ => (pg_tup rfl (pgs_cons (pg_name scWithout.nd (i := 2) rfl (by first | exact .inl rfl | exact .inr rfl)) (pgs_cons (pg_name scWithout.nd (i := 3) rfl (by first | exact .inl rfl | exact .inr rfl)) pgs_nil)))) (Nat.le_of_lt (small1000 hz)) (fun a ha v H2 e2 dv Q q => g2_run dv fun u_size u_number d_size d_number => q _ (by rfl) H2 (Ex.refl _) (fun _ _ _ _ _ => rfl) (fun hT _ _ _ _ _ => ⟨(xV 2 rfl d_size (pv 2)), (xSub (xV 3 rfl d_number (pv 3)) (xCountT (EY.et (yV 1 rfl (YdV.ex e2 h2) (pv 1))) (xV 2 rfl d_size (pv 2))))⟩))) fun v H' e ⟨q, ev, hn, hq⟩ => ⟨q, ev, by rw [List.filter_eq_self.mpr (fun _ _ => rfl)] at hq; exact hq⟩
/-! waste_of -/
def wasteP (u : Int) (ls : List Lap) : Int := (ls.dropLast.map fun l : Lap => l.2 * (u - l.1.sum)).sum
inductive preWasteOf : List Dv → Dv → Prop
  | mk (u : Int) (ls : List Lap) : 0 < u → u < 100 → ls.length ≤ 1000 → (∀ l ∈ ls, 0 ≤ l.1.sum ∧ l.1.sum ≤ 100) → preWasteOf [.dat (.int u), .dat (.tuple (ls.map dLap))] (.dat (.int (wasteP u ls)))
theorem cl_waste_of (B : BM mg) (F : Df K mg "waste_of" sWasteOf pWasteOf) : Cl P w K mg base 1 "waste_of" 2 (SpD K preWasteOf) := by
  refine clD F scWasteOf (fun qs r h => by cases h; rfl) rfl fun f cdv A outer s H vs qs r Q E hr hp hq k => ?_
  obtain ⟨u, ls, hu1, hu2, hz, hls⟩ := hp
  obtain ⟨v1, v2, rfl, h1, h2⟩ := hq.two
  refine sxRet (xSumA (ns := ls.dropLast.map fun l : Lap => l.2 * (u - l.1.sum)) B.sum rfl rfl (EN.ex (nLcA (xs := ls.dropLast) (Dd := dLap) (E := fun l => .int (l.2 * (u - l.1.sum))) (own := [("sizes", 2), ("number", 3)]) (g := gTup _ 2 (gCons (gName 2) (gCons (gName 3) gNil))) rfl scWasteOf.nd (srT (EX.is (xSlT (xV 1 rfl h2 (pv 1)) oNone (oSome (xNeg xI))) (by rw [cutA_map, cutA_init]))) (blkOk_by (N := nWasteOf) (sc := defScope sWasteOf) (by decide +kernel)) (fun _ _ _ _ _ => (pg_tup rfl (pgs_cons (pg_name scWasteOf.nd (i := 2) rfl (by first | exact .inl rfl | exact .inr rfl)) (pgs_cons (pg_name scWasteOf.nd (i := 3) rfl (by first | exact .inl rfl | exact .inr rfl)) pgs_nil)))) (by rw [List.length_dropLast, sizeLine_eq]; omega) (fun _ _ => rfl) (fun a ha v H2 e2 dv Q q => by
    have hb := hls a (List.dropLast_subset _ ha)
    exact g2_run dv fun u_sizes u_number d_sizes d_number => q _ (by rfl) H2 (Ex.refl _) (fun _ _ _ _ _ => rfl) (fun hT _ _ _ _ _ => (xMul (xV 3 rfl d_number (pv 3)) (xSub (xV 0 rfl (dp_ex e2 h1) (pv 0)) (xSumA B.sum rfl rfl (xV 2 rfl d_sizes (pv 2)))) (by first | exact .inl ⟨by omega, by omega⟩ | exact .inr ⟨by omega, by omega⟩ | assumption)))))) (.inr (by rw [List.map_map]; rfl))) fun v H2 e2 d => k v H2 e2 d
end
end GX
end SGFn3
section SGSortD
set_option linter.all false
set_option maxRecDepth 100000
set_option maxHeartbeats 1000000
/-! sorted(d, reverse=b) of a dict with int keys -/
namespace GX
open PySem PySem.Spec PyProof.Rows L2
open Evl StX
open PySem PySem.Spec PyProof.Rows L2 SrtR SrtO
section
variable {X : Cx}
/-- what is collected may differ by its marks -/
theorem sorted_genE {prog : Program} {w : World} {A : Around} {E : Value → Shared → Prop} {s : Shared} {v : Value} {G : List Value → Prop} {b : Bool} {kw : List (Str × Value)} {ltv : Value → Value → Bool} {Q : Value → Shared → Prop} (hk : ∀ a, Builtin.«list.sort» ⟨[.ref a], kw⟩ = Builtin.«list.sort» ⟨[.ref a], [(Str.ofString "reverse", .bool b)]⟩)
    (ha1 : argsOk "sorted" ⟨[v], kw⟩) (ha2 : ∀ a, argsOk "list.sort" ⟨[a], kw⟩) (O : Swo ltv) (hz : ∀ vs, G vs → vs.length ≤ sizeLine)
    (hcol : ∀ (Q' : List Value → Shared → Prop), (∀ vs h' tk, G vs → (∀ b o, s.heap.get? b = some o → h'.get? b = some o) → Q' vs { s with heap := h', toks := tk }) → wpAny (model prog w) A.in1 (collect v) Q' E s)
    (hS : ∀ vs, G vs → 2 ≤ vs.length → ∀ (s₁ : Shared) (a : Addr), s₁.heap.get? a = some (seqObj "list" vs.toArray 0) → SortableO prog w A.in1.in1 s₁ a vs ltv)
    (h : ∀ (vs out : List Value) (h1 h' : Heap) (tk ep : Nat), G vs → Srtd ltv out → Stb ltv out (if b = true then vs.reverse else vs) → (∀ b o, s.heap.get? b = some o → h1.get? b = some o) → (∀ b o, h1.get? b = some o → h'.get? b = some o) →
      h'.get? h1.objs.size = some (seqObj "list" (if b = true then out.toArray.reverse else out.toArray) ep) → Q (.ref h1.objs.size) { s with heap := h', toks := tk }) :
    wpAny (model prog w) A (call (.builtin "sorted") [v] kw) Q E s := by
  refine call_function_entry_kw kind_sorted plain_sorted entry_sorted ha1 ?_
  unfold Builtin.«sorted»
  refine wpAny_bind (m := checkCount "sorted" 1 1 _) (wpAny_pure ?_)
  refine wpAny_bind (hcol _ fun vs h1 tk g hk1 => ?_)
  refine wpAny_bind (wpAny_newList ?_ (hz vs g))
  have hoL : (h1.push (seqObj "list" vs.toArray 0)).get? h1.objs.size = some (seqObj "list" vs.toArray 0) := Heap.get?_push_size _ rfl
  have kp1 : ∀ b o, h1.get? b = some o → b ≠ h1.objs.size ∧ (h1.push (seqObj "list" vs.toArray 0)).get? b = some o := fun b o q =>
    ⟨Nat.ne_of_lt (Heap.lt_size q), Heap.get?_push_of_some _ q⟩
  show wpAny _ _ _ _ _ { s with heap := h1.push (seqObj "list" vs.toArray 0), toks := tk }
  refine wpAny_bind (wpAny_holding (wpAny_call_entry_kw slot_list_sort ⟨_, hoL, rfl⟩ entry_list_sort ?_ (ha2 _)))
  rw [hk]
  refine list_sort_ordR (s := { s with heap := h1.push (seqObj "list" vs.toArray 0), toks := tk }) O hoL (hz vs g) (fun h2 => hS vs g h2 { s with heap := h1.push (seqObj "list" vs.toArray 0), toks := tk } _ hoL) fun out hs hb => ⟨_, rfl, ?_⟩
  obtain ⟨ep, he⟩ := sortedHeap_at (vs := vs) (out := if b = true then out.toArray.reverse else out.toArray) hoL
  refine wpAny_pure ⟨_, rfl, h vs out h1 _ tk ep g hs hb hk1 (fun c o q => ?_) he⟩
  show (sortedHeap _ _ _ _).get? c = some o
  rw [sortedHeap_old (kp1 c o q).1 (Heap.lt_size (kp1 c o q).2)]
  exact (kp1 c o q).2
/-- sorted(d, reverse=b) -/
def rSortedDK (b : Bool) (zs0 : List V) : List V → List V → Hp → VK → Prop := fun vs zs H Q => ∃ (a : Addr) (kvs : List (Int × Int)), vs = [V.ref a] ∧ zs = zs0 ∧ Rd H a (dKV kvs) ∧
  ∀ (ns' : List Int) (p : Addr), ns'.Perm (kvs.map (·.1)) → OrdB b ns' → H p = none → Q (.ref p) (upd H p (.lst (ns'.map V.int)))
theorem cr_sortedDR (hcalm : X.calm = true) {b : Bool} : CallRK X (.builtin "sorted") [Str.ofString "reverse"] (rSortedDK b [.bl b]) := by
  intro pins s σ H vs zs us ws Q I r rz h
  obtain ⟨a, kvs, rfl, rfl, hd, q⟩ := h
  obtain rfl := Vals.ref1 r
  obtain ⟨w1, rfl, e1⟩ := vals1 rz
  obtain rfl : w1 = Value.bool b := e1
  obtain ⟨z, lo, vs, rel, dd⟩ := dk_rd I.hok hd
  obtain ⟨ep, hat⟩ := dd.dictAt
  have hkeys : vs.map (·.1) = (kvs.map (·.1)).map Sum.inl := by
    have := rel.keys.symm
    rw [this, List.map_map, List.map_map]
    rfl
  have hl : vs.length = kvs.length := by
    have e := congrArg List.length hkeys
    rw [List.length_map, List.length_map, List.length_map] at e
    exact e
  have h16 : vs.length ≤ sizeLine := by
    rw [List.length_map] at z
    rw [hl]; exact z
  refine sorted_genE (G := fun its => IntsAre its (kvs.map (·.1)) ∧ its.length ≤ sizeLine) (fun _ => rfl) (PyProof.Rows.args_sorted_rev _ _) (fun _ => PyProof.Rows.args_list_sort_rev _ _) SrtO.swo_int (fun its g => g.2) (fun Q' hQ => ?_) (fun its g h2 s₁ a' _ => SrtO.ints_sortable g.1 h2) fun its out hp h' tk ep g h1 h2 h3 h4 h5 => ?_
  · refine PySem.W.kdu_collect (A := X.A.in1) (PySem.W.kdl_dict (knd := mixKind X.prog X.w) (kvs := vs) (ep := ep) lo) (I.ok.hd hcalm) hat h16 fun h' tk acc hk hacc => ?_
    have hal : acc.toList.length = (kvs.map (·.1)).length := by rw [Array.length_toList, hacc.1, hl, List.length_map]
    refine hQ acc.toList h' tk ⟨ints_each hal fun j v e => ?_, by rw [hal, List.length_map, ← hl]; exact h16⟩ hk
    obtain ⟨k, x, e1, e2⟩ := hacc.2 j v (by rw [← Array.getElem?_toList]; exact e)
    have e3 : (vs.map (·.1))[j]? = some k := by rw [List.getElem?_map, e1]; rfl
    rw [hkeys, List.getElem?_map] at e3
    cases e4 : (kvs.map (·.1))[j]? with
    | none => rw [e4] at e3; cases e3
    | some y =>
      rw [e4] at e3
      have e5 : Sum.inl y = k := Option.some.inj e3
      subst e5
      rcases keyIs_shape (show keyIs (Sum.inl y) v = true from e2) with ⟨i, t, ek, ev⟩ | ⟨z, t, ek, ev⟩
      · cases ek
        exact ⟨y, t, rfl, ev⟩
      · cases ek
  · obtain ⟨ns', k1, k2, k3⟩ := SrtR.ints_outR g.1 h1 h2
    have hlen : (ns'.map V.int).length ≤ sizeLine := by
      rw [List.length_map, k2.length_eq, ← g.1.length]
      exact g.2
    have e0 : ((if b = true then out.toArray.reverse else out.toArray).toList).toArray = (if b = true then out.toArray.reverse else out.toArray) := by rw [Array.toArray_toList]
    have I1 : Inv X pins σ H { s with heap := hp, toks := tk } := I.kept h3
    have hn : H hp.objs.size = none := I1.hok.fresh (Nat.le_refl _)
    exact ⟨.ref _, upd H hp.objs.size (.lst (ns'.map V.int)), I1.laid (h' := h') (t' := tk) h4 (Nat.le_refl _) ⟨hlen, _, ep, vals_of_ints k1, by rw [e0]; exact h5⟩, rfl, q _ _ k2 k3 hn⟩
variable {σ : L2.St} {H : Hp} {e : Expr} {kvs : List (Int × Int)} {pos p : Pos}
theorem nSortDR {kws : List Keyword} {c : Bool} (hc : X.calm = true) (hg : Gl X "sorted") (hm : X.mg "sorted" = none) (ha : ED X σ H e kvs) (hk : PK X kws (tCons (tC (.bl c)) tNil)) (hs : starEach [e] X.env = (false, eval e X.env) :: starEach [] X.env := by rfl)
    (he : backTo pos (starEach [e] X.env) = (false, eval e X.env) :: backTo pos (starEach [] X.env) := by rfl) (hpl : (backTo pos (starEach [e] X.env)).any (·.1) = false := by rfl)
    (hall : (backToKw pos (keywordEach kws X.env)).all (·.1.isSome) = true := by rfl) (hnone : (backToKw pos (keywordEach kws X.env)).any (·.1.isNone) = false := by rfl) (hks : (backToKw pos (keywordEach kws X.env)).filterMap (·.1) = [Str.ofString "reverse"] := by rfl) :
    EN X σ H (.Call (.Name "sorted" p) [e] kws pos) ((ord c (kvs.map (·.1))).map .int) :=
  .of (pe_callBK (cr_sortedDR hc (b := c)) hg hm PyProof.Rows.boot_sorted (pa_cons ha pa_nil hs) hk (by decide) (by decide) he hpl hall hnone hks) fun H1 e1 Q q => ⟨rfl, e1, fun v H2 e2 ⟨a, ev, rd⟩ =>
    ⟨a, kvs, by rw [ev], rfl, rd, fun ns' l h1 h2 hl => q _ _ (e2.trans (Ex.new hl)) ⟨l, rfl, fresh_back (e1.trans e2) hl, _, upd_same, by
      rw [ord_of h1 h2]
      exact ints_dpAll _⟩⟩⟩
end
end GX
end SGSortD
section SGFn4
set_option linter.all false
set_option maxRecDepth 100000
set_option maxHeartbeats 1000000
/-! packed -/
namespace GX
open PySem PySem.Spec PyProof.Rows L2
open Evl StX OL
section
variable {X : Cx} {σ : L2.St} {H : Hp} {a b : Expr} {pos p : Pos} {k : Nat}
/-- (a, *b), a plain tuple of ints -/
theorem yTupC {n : Int} {ns : List Int} (ha : EX X σ H a (.int n)) (hb : EX X σ H b (tI ns)) (hz : ns.length < sizeLine) (h1 : starEach [a, .Starred b p] X.env = (false, eval a X.env) :: starEach [.Starred b p] X.env := by rfl) (h2 : starEach [.Starred b p] X.env = (true, eval b X.env) :: starEach [] X.env := by rfl) :
    EY X σ H (.Tuple [a, .Starred b p] k pos) (n :: ns) := by
  have h := aCons ha (aStar hb aNil h2) h1
  rw [List.append_nil] at h
  exact yTup (ns := n :: ns) h (by simp; omega)
end
abbrev dLs (o : List (List Int)) : PyData := .tuple (o.map tI)
section
variable {P : Program} {w : World} {K : PySem.W.Frag} {mg : Str → Option Value} {base : Heap}
/-- what stands while packed packs -/
structure PkH (K : PySem.W.Frag) (H : Hp) (L F S : Addr) (ord : List Int) (st : PkS) (H' : Hp) : Prop where
  ex : Ex H H'
  left : H' L = some (dKV st.1)
  found : ∃ vs, H' F = some (.lst vs) ∧ DpAll K H' vs (st.2.map dLap)
  keys : H' S = some (.lst (ord.map V.int))
theorem flat_laps (ls : List Lap) : flatD.flatDs (ls.map dLap) = true := flat_all fun l _ => by
  show (flatD (tI l.1) && (true && true)) = true
  rw [flat_tI]
  rfl
theorem PkH.mono {H H1 H2 : Hp} {L F S : Addr} {ord : List Int} {st : PkS} (h : PkH K H L F S ord st H1) (e : Ex H1 H2) : PkH K H L F S ord st H2 :=
  ⟨h.ex.trans e, e _ _ h.left, let ⟨vs, h1, h2⟩ := h.found; ⟨vs, e _ _ h1, dpAll_ex e h2⟩, e _ _ h.keys⟩
inductive prePacked : List Dv → List PyData → Prop
  | mk (u : Int) (kvs : List (Int × Int)) (o4 : List (List Int)) : kvs.length ≤ 60 → (∀ p ∈ kvs, 2 ≤ p.1 ∧ p.1 ≤ 7) → o4.length ≤ 4 → (∀ o ∈ o4, o.length ≤ 10) → prePacked [.dat (.int u), .dic kvs, .dat (dLs o4)] ((packedP u kvs o4).map dLap)
def compDom (k : Int) : Prop := 2 ≤ k ∧ k ≤ 7
theorem cl_packed (B : BM mg) (C : MC mg) (hK : KDI K mg "COMPANIONS" (fun k => dLs (compL k)) compDom) (c_how_often : Cl P w K mg base 1 "how_often" 2 (SpD K preHowOften)) (F : Df K mg "packed" sPacked pPacked) : Cl P w K mg base 2 "packed" 3 (SpN K prePacked) := by
  refine clL F scPacked (fun qs r h => by cases h; rfl) rfl fun f cdv A outer s H vs qs r Q E hr hp hq k => ?_
  obtain ⟨u, kvs, o4, hz, hkv, ho4, ho4l⟩ := hp
  obtain ⟨v1, v2, v3, rfl, h1, ⟨pb, rfl, h2⟩, h3⟩ := hq.three
  obtain rfl := dp_int h1
  refine sxPar (i := 3) (j := 4) rfl scPacked.nd (xDictOf rfl B.dict (dV 1 rfl rfl h2 (pv 1))) (nLst aNil (Nat.zero_le _)) (fun v H1 H2 e ⟨p, e1, e2, e3⟩ => ⟨p, e1, e2, e _ _ e3⟩) fun w1 w2 H1 e1 ⟨L, ew1, hL, hL1⟩ ⟨F, ew2, hF, fs, hF1, hF2⟩ => ?_
  subst ew1 ew2
  cases hF2
  have hLF : L ≠ F := fun z => by subst z; rw [hL1] at hF1; cases hF1
  have h2 := ex_rd e1 h2
  refine sxForL rfl rfl (nSortDR rfl rfl B.sorted (dV 1 rfl rfl h2 (pv 1)) (pk_cons pe_bl pk_nil)) (pg_name scPacked.nd (i := 5) rfl (.inl rfl)) fun v H2 e2 ⟨S, ev, hS, ks, hS1, hS2⟩ => ?_
  subst ev
  have hks := dpAll_ints hS2
  subst hks
  have hSL : S ≠ L := fun z => by subst z; rw [hL1] at hS; cases hS
  have hSF : S ≠ F := fun z => by subst z; rw [hF1] at hS; cases hS
  generalize hord : ord true (kvs.map (·.1)) = od at hS1
  have hodm : ∀ x ∈ od, 2 ≤ x ∧ x ≤ 7 := fun x hx => by
    have hx2 : x ∈ kvs.map (·.1) := (desc_perm _).mem_iff.mp (by rw [← hord] at hx; exact hx)
    obtain ⟨p, hp, rfl⟩ := List.mem_map.mp hx2
    exact hkv p hp
  have hodl : od.length ≤ 60 := by rw [← hord, ord_len, List.length_map]; exact hz
  have len_i : ∀ i, ((od.take i).foldl (sizeP u o4) (kvs, [])).2.length ≤ 300 := fun i => by
    have h1 := sizes_len (u := u) ho4 (od.take i) (kvs, [])
    have h2 := List.length_take_le' i od
    simp only [List.length_nil] at h1
    omega
  refine ⟨S, od.map V.int, fun i σ' H' => ∃ a b c d e, σ' = [some (.int u), some (.ref pb), some v3, some (.ref L), some (.ref F), a, b, c, d, e] ∧ PkH K H L F S od ((od.take i).foldl (sizeP u o4) (kvs, [])) H', rfl, ⟨none, none, none, none, none, rfl, e1.trans e2, e2 _ _ hL1, ⟨[], e2 _ _ hF1, .nil⟩, hS1⟩, ?_, ?_, ?_⟩
  · rintro i σ' H' _ ⟨_, _, _, _, _, _, h⟩
    exact .inl (.inl h.keys)
  · rintro i x σ' H' hi ⟨a, b, c, d, e, rfl, hH⟩
    rw [List.getElem?_map] at hi
    cases hx : od[i]? with
    | none => rw [hx] at hi; cases hi
    | some n =>
    rw [hx] at hi
    cases hi
    generalize hst : (od.take i).foldl (sizeP u o4) (kvs, []) = st at hH
    have hst1 : st.2.length ≤ 300 := by rw [← hst]; exact len_i i
    have hst2 : st.1.length ≤ 60 := by rw [← hst, sizes_left_len]; exact hz
    have hn := hodm n (List.mem_of_getElem? hx)
    have h3' := dp_ex hH.ex h3
    -- the others
    have hoth : ∀ (σ0 : L2.St) (R : Prop), R → True := fun _ _ _ => trivial
    refine sxForF (xs := othersL o4 n) (Dd := tI) rfl rfl (EX.is (xTup (aStar (ts := (if n = 4 then o4 else compL n).map tI) (xIfT (c0 := decide (n = 4)) (TX.is (ttEq hr.units (xV 5 rfl (.int n) (pv 5)) (xGlobI C.four) (by first | rfl | decide +kernel | exact shaped_tI _ | exact shaped_lI _ | exact shaped_word _ | exact shaped_wi _ _ | assumption) (by first | rfl | decide +kernel | exact shaped_tI _ | exact shaped_lI _ | exact shaped_word _ | exact shaped_wi _ _ | assumption)) (eqv_int _ _)) (fun z => EX.is (xV 2 rfl h3' (pv 2)) (by rw [if_pos (of_decide_eq_true z)])) fun z => EX.is (xKD hK (xV 5 rfl (.int n) (pv 5)) hn) (by rw [if_neg (of_decide_eq_false z)])) (aCons (xTup aNil (Nat.zero_le _)) aNil)) (by
        have h1 := othersL_len ho4 n
        unfold othersL at h1
        rw [List.length_append, List.length_singleton] at h1
        rw [List.length_append, List.length_map, List.length_singleton, sizeLine_eq]
        omega)) (by unfold othersL; rw [List.map_append]; rfl)) (fun o _ => flat_tI o) (pg_name scPacked.nd (i := 6) rfl (.inl rfl)) fun H3 e3 => ?_
    refine ⟨fun j σ' H' => ∃ b c d e, σ' = [some (.int u), some (.ref pb), some v3, some (.ref L), some (.ref F), some (.int n), b, c, d, e] ∧ PkH K H L F S od (((othersL o4 n).take j).foldl (fun st o => oneP u st (n :: o)) st) H', ⟨_, _, _, _, rfl, hH.mono e3⟩, ?_, ?_⟩
    · rintro j o x σ' H' ho m ⟨b, c, d, e, rfl, hH⟩ dx
      refine g1_run (i := 6) ?_
      generalize hst' : ((othersL o4 n).take j).foldl (fun st o => oneP u st (n :: o)) st = st' at hH
      have hl2 : st'.2.length ≤ 400 := by
        have h1 := fold_len u n ((othersL o4 n).take j) st
        have h2 := List.length_take_le' j (othersL o4 n)
        have h3 := othersL_len ho4 n
        rw [hst'] at h1
        omega
      have hl1 : st'.1.length ≤ 60 := by rw [← hst', fold_left_len]; exact hst2
      have hol : o.length ≤ 10 := by
        have hm := List.mem_of_getElem? ho
        unfold othersL at hm
        rcases List.mem_append.mp hm with hm | hm
        · split at hm
          · exact ho4l o hm
          · unfold compL at hm
            repeat' split at hm
            all_goals (simp at hm; try rcases hm with rfl | rfl | rfl | rfl) <;> simp_all
        · simp at hm; subst hm; simp
      refine sxSet (i := 7) (yTupC (xV 5 rfl (.int n) (pv 5)) (xV 6 rfl dx (pv 6)) (by rw [sizeLine_eq]; omega)) (fun v7 H4 e4 hy => ?_) scPacked.nd
      have hH := hH.mono e4
      obtain ⟨fs, hF1, hF2⟩ := hH.found
      refine sxSet (i := 8) (R := fun v _ => v = .int (manyP u st'.1 (n :: o))) (ER.imp (R := fun v H' => Dp _ H' v (.int (manyP u st'.1 (n :: o)))) (xIfT (ttLe (xSumA B.sum rfl rfl (ET.ex (EY.et (yV 7 rfl hy (pv 7))))) (xV 0 rfl (.int u) (pv 0))) (fun z => EX.is (xClD c_how_often hr (aqCons (ED.toQ (dV 3 rfl rfl (.inl hH.left) (pv 3))) (aqCons (EY.toQ (yV 7 rfl hy (pv 7))) aqNil)) (.mk _ _ (by simp) (by simp; omega))) (by unfold manyP; rw [if_pos (of_decide_eq_true z)])) fun z => EX.is xI (by unfold manyP; rw [if_neg (of_decide_eq_false z)])) fun v H' _ d => dp_int d) (fun v8 H5 e5 ev => ?_) scPacked.nd
      subst ev
      have hH := hH.mono e5
      have hy := hy.ex e5
      have hF1 := e5 _ _ hF1
      have hF2 := dpAll_ex e5 hF2
      generalize hmany : manyP u st'.1 (n :: o) = many at hH
      have hnext : oneP u st' (n :: o) = if 0 < many then (subL many st'.1 (n :: o), st'.2 ++ [(n :: o, many)]) else st' := by
        unfold oneP
        rw [hmany]
      have hfold : ((othersL o4 n).take (j + 1)).foldl (fun st o => oneP u st (n :: o)) st = oneP u st' (n :: o) := by
        rw [take_app ho, List.foldl_append, hst']
        rfl
      refine sxWhen (ttGt (xV 8 rfl (.int _) (pv 8)) xI) (fun hc H6 e6 => ?_) fun hc H6 e6 => sxNil ?_
      · have hp : 0 < many := of_decide_eq_true hc
        rw [if_pos hp] at hnext
        have hy6 := hy.ex e6
        refine sxAppend (erV 4 rfl (pv 4)) (e6 _ _ hF1) (by rw [dpAll_len hF2, List.length_map, sizeLine_eq]; omega) (xTup (aCons (ET.ex (EY.et (yV 7 rfl hy6 (pv 7)))) (aCons (xV 8 rfl (.int _) (pv 8)) aNil)) (by first | (rw [sizeLine_eq]; simp; done) | (rw [sizeLine_eq]; simp; omega) | assumption)) fun z H7 e7 dz => ?_
        have hF7 : H7 F = some (.lst fs) := (e6.trans e7) _ _ hF1
        have mx7 : Mx H7 (upd H7 F (.lst (fs ++ [z]))) := Mx.upd hF7 (fun _ => by simp) (fun _ _ => by simp)
        have hy7 := (hy6.ex e7).mx mx7
        have hH8 : PkH K H L F S od (st'.1, st'.2 ++ [(n :: o, many)]) (upd H7 F (.lst (fs ++ [z]))) := by
          have hH := hH.mono (e6.trans e7)
          refine ⟨ex_lst hH.ex hF, by rw [upd_ne hLF]; exact hH.left, ⟨_, upd_same, ?_⟩, by rw [upd_ne hSF]; exact hH.keys⟩
          rw [List.map_append]
          exact app_all hF7 (dpAll_ex (e6.trans e7) hF2) dz (flat_laps _) (by
            show (flatD (tI (n :: o)) && (true && true)) = true
            rw [flat_tI]
            rfl)
        refine sxForF (xs := n :: o) (Dd := PyData.int) rfl rfl (ET.ex (EY.et (yV 7 rfl hy7 (pv 7)))) (fun _ _ => rfl) (pg_name scPacked.nd (i := 9) rfl (.inl rfl)) fun H8 e8 => ?_
        refine ⟨fun i σ' H' => ∃ e, σ' = [some (.int u), some (.ref pb), some v3, some (.ref L), some (.ref F), some (.int n), some x, some v7, some (.int many), e] ∧ PkH K H L F S od (subL many st'.1 ((n :: o).take i), st'.2 ++ [(n :: o, many)]) H', ⟨_, rfl, hH8.mono e8⟩, ?_, ?_⟩
        · rintro i b y σ' H' hb mx ⟨e, rfl, hH⟩ db
          obtain rfl := dp_int db
          refine g1_run (i := 9) ?_
          have hsome : (getI (subL many st'.1 ((n :: o).take i)) b).isSome = true := has_sub (many_pos (by rw [hmany]; exact hp) (List.mem_of_getElem? hb))
          obtain ⟨g, hg⟩ := Option.isSome_iff_exists.mp hsome
          have hlen : (subL many st'.1 ((n :: o).take i)).length ≤ 60 := by
            rw [subL_len fun s hs => many_pos (by rw [hmany]; exact hp) (List.mem_of_mem_take hs)]
            exact hl1
          refine sxSubD (m := g) (hu_of hr) (erV 3 rfl (pv 3)) hH.left (Nat.lt_of_le_of_lt hlen (by decide)) (xV 9 rfl (.int b) (pv 9)) hg (xV 8 rfl (.int _) (pv 8)) fun H9 e9 => sxNil ?_
          have hH9 := hH.mono e9
          have mx9 : Mx H9 (upd H9 L (dKV (putI (subL many st'.1 ((n :: o).take i)) b (g - many)))) := Mx.upd hH9.left (fun _ => by simp) (fun _ _ => by simp)
          refine ⟨mx.trans ((Mx.of e9).trans mx9), _, rfl, ?_⟩
          obtain ⟨gs, hg1, hg2⟩ := hH9.found
          refine ⟨ex_lst hH9.ex hL, ?_, ⟨gs, by rw [upd_ne hLF.symm]; exact hg1, dpAll_mx mx9 (flat_laps _) hg2⟩, by rw [upd_ne hSL]; exact hH9.keys⟩
          rw [upd_same, subL_take hb, hg]
          rfl
        · rintro σ' H' mx ⟨e, rfl, hH⟩
          rw [List.take_length] at hH
          refine sxNil (sxNil ?_)
          refine ⟨m.trans ((Mx.of (e4.trans (e5.trans (e6.trans e7)))).trans (mx7.trans ((Mx.of e8).trans mx))), _, _, _, _, rfl, ?_⟩
          rw [hfold, hnext]
          exact hH
      · have hp : ¬ 0 < many := of_decide_eq_false hc
        rw [if_neg hp] at hnext
        refine ⟨m.trans (Mx.of (e4.trans (e5.trans e6))), _, _, _, _, rfl, ?_⟩
        rw [hfold, hnext]
        exact hH.mono e6
    · rintro σ' H' m ⟨b, c, d, e, rfl, hH⟩
      rw [List.take_length] at hH
      refine sxNil ⟨_, _, _, _, _, rfl, ?_⟩
      rw [take_app hx, List.foldl_append, hst]
      exact hH
  · rintro σ' H' ⟨a, b, c, d, e, rfl, hH⟩
    rw [List.length_map, List.take_length] at hH
    obtain ⟨vs, hv, da⟩ := hH.found
    refine sxRet (erV 4 rfl (pv 4)) fun v H2 e2 ev => ?_
    subst ev
    refine k F H2 (hH.ex.trans e2) hF ⟨vs, e2 _ _ hv, ?_⟩
    unfold packedP packedS
    rw [hord]
    exact dpAll_ex e2 da
end
end GX
end SGFn4
section SGMin
set_option linter.all false
set_option maxRecDepth 100000
set_option maxHeartbeats 4000000
/-! min([a, b], key=f), f a def of the module -/
namespace GX
open PySem PySem.Spec PyProof.Rows L2
open Evl StX
/-- within a built-in -/
abbrev inX (X : Cx) : Cx := { X with A := X.A.in1, xe := fun _ _ => False }
section
variable {X : Cx} {pins : List (Addr × Obj)} {σ : L2.St} {H : Hp} {s : Shared}
theorem inv_in (I : Inv X pins σ H s) : Inv (inX X) pins σ H s :=
  ⟨⟨I.ok.mod, I.ok.kind, I.ok.glob, I.ok.blt, I.ok.above, I.ok.inj, I.ok.has, I.ok.cab, fun h => I.ok.hd h, I.ok.frames, I.ok.stk, I.ok.exf, I.ok.bs, I.ok.bsz, I.ok.noex, I.ok.exfs, I.ok.funs, I.ok.frf⟩, I.os, I.bare, I.base, I.loc, I.cell, I.free, I.freeC, I.pin, I.hok, I.len⟩
theorem inv_out (I : Inv (inX X) pins σ H s) (J : X.Ok) : Inv X pins σ H s :=
  ⟨J, I.os, I.bare, I.base, I.loc, I.cell, I.free, I.freeC, I.pin, I.hok, I.len⟩
/-- in the midst of min: S what was best, I the iterator over l -/
structure Mn2 (X : Cx) (pins : List (Addr × Obj)) (σ : L2.St) (S It l : Addr) (H : Hp) (arr : Array Value) (i : Nat) (s : Shared) : Prop where
  inv : Inv (inX X) pins σ H s
  best : ∃ c, s.heap.get? S = some (seqObj "list" arr c)
  iter : s.heap.IsListIter It l i
  fS : FpOk (inX X) pins H S
  fI : FpOk (inX X) pins H It
  ne : S ≠ It
theorem mn_next {S It l : Addr} {arr : Array Value} {i : Nat} {xs : List V} {x : V} {E : Value → Shared → Prop} {Q : Option Value → Shared → Prop} (m : Mn2 X pins σ S It l H arr i s) (hl : SqL X.K H l xs) (hx : xs[i]? = some x)
    (q : ∀ v s', RelV x v → Mn2 X pins σ S It l H arr (i + 1) s' → Q (some v) s') : wpAny (model X.prog X.w) X.A.in1 (pyNext (.ref It)) Q E s := by
  obtain ⟨its, rv, p, hz⟩ := m.inv.list hl
  obtain ⟨u, hu, ru⟩ := rv.get hx
  refine wpAny_pyNext_list_item m.iter p.isList (x := u) (by simpa using hu) fun h' st' sb => ?_
  obtain ⟨f0, f1, f2, f3, f4, f5⟩ := m.fI
  obtain ⟨c, hc⟩ := m.best
  exact q u _ ru ⟨m.inv.turned (t' := s.toks) (fun b o hb e => (sb.2 b hb).trans e) f0 f1 f3 f4 f5, ⟨c, (sb.2 _ m.ne).trans hc⟩, st', m.fS, ⟨f0, f1, f2, f3, f4, f5⟩, m.ne⟩
theorem mn_end {S It l : Addr} {arr : Array Value} {i : Nat} {xs : List V} {E : Value → Shared → Prop} {Q : Option Value → Shared → Prop} (hh : X.A.handled = none) (m : Mn2 X pins σ S It l H arr i s) (hl : SqL X.K H l xs) (hx : xs.length ≤ i)
    (q : ∀ s', (∃ c, s'.heap.get? S = some (seqObj "list" arr c)) → Inv (inX X) pins σ H s' → Q none s') : wpAny (model X.prog X.w) X.A.in1 (pyNext (.ref It)) Q E s := by
  obtain ⟨its, rv, p, hz⟩ := m.inv.list hl
  have hlen := rv.length
  obtain ⟨f0, f1, f2, f3, f4, f5⟩ := m.fI
  obtain ⟨c, hc⟩ := m.best
  exact wpAny_pyNext_list_end hh m.iter p.isList (by simp; omega) fun h' eb => q _ ⟨c, eb _ _ m.ne hc⟩ (m.inv.turned (t' := s.toks) (fun b o hb e => eb b o hb e) f0 f1 f3 f4 f5)
theorem mn_set {S It l : Addr} {arr arr' : Array Value} {i : Nat} {E : Value → Shared → Prop} {Q : Unit → Shared → Prop} (m : Mn2 X pins σ S It l H arr i s) (hz : arr.size ≤ 2) (hz' : arr'.size ≤ 2)
    (q : ∀ s', Mn2 X pins σ S It l H arr' i s' → Q () s') : wpAny (model X.prog X.w) X.A.in1 (updateSeq S fun _ => arr') Q E s := by
  obtain ⟨c, hc⟩ := m.best
  obtain ⟨f0, f1, f2, f3, f4, f5⟩ := m.fS
  have sb := Heap.SameBut.update s.heap S (Obj.mapSeq fun _ => arr')
  obtain ⟨oI, hI, hI2⟩ := m.iter
  refine wpAny_updateSeq hc rfl (q _ ⟨m.inv.turned (t' := s.toks) (fun b o hb e => (sb.2 b hb).trans e) f0 f1 f3 f4 f5, ⟨_, get?_update_seq hc fun _ => arr'⟩, ⟨oI, (sb.2 _ m.ne.symm).trans hI, hI2⟩, ⟨f0, f1, f2, f3, f4, f5⟩, m.fI, m.ne⟩) (by rw [sizeLine_eq]; omega) (by rw [sizeLine_eq]; omega)
/-- the key of one -/
theorem mn_key {S It l f : Addr} {fd : FuncData} {ps : List Str} {k : Nat} {arr : Array Value} {i : Nat} {x : V} {v : Value} {q0 : Dv} {n : Int} {pre : List Dv → Dv → Prop} {Q : Value → Shared → Prop} (F : FnOk X.prog X.w X.K X.mg X.base CX0 k f fd ps (SpD X.K pre)) (hr : Room (k + 1) X.A) (hb : Binds X.K fd ps [])
    (m : Mn2 X pins σ S It l H arr i s) (rx : RelV x v) (hd : Dq X.K H x q0) (hp : pre [q0] (.dat (.int n)))
    (q : ∀ H' s' t, Ex H H' → Mn2 X pins σ S It l H' arr i s' → Q (.int n t) s') : wpAny (model X.prog X.w) X.A.in1 (call (.ref f) [v]) Q (fun _ _ => False) s := by
  obtain ⟨c, hc⟩ := m.best
  obtain ⟨oI, hI, hI2, hI3⟩ := m.iter
  have fS := m.fS
  have fI := m.fI
  have I2 : Inv (inX X) (pins ++ [(S, seqObj "list" arr c), (It, oI)]) σ H s := m.inv.pins_of fun p hp => by
    rcases List.mem_append.mp hp with z | z
    · exact m.inv.pin p (List.mem_append_right _ z)
    · rcases List.mem_cons.mp z with rfl | z
      · exact ⟨hc, fS.1, fS.2.1, fS.2.2.1, fun v z => by cases z⟩
      · rw [List.mem_singleton.mp z]
        exact ⟨hI, fI.1, fI.2.1, fI.2.2.1, fun v z => by rw [hI3] at z; cases z⟩
  have run := run_fn (X := inX X) (E := E0) (Q := fun v H' => Ex H H' ∧ Dq X.K H' v (.dat (.int n))) F hr.in1 hb .nil pass0 I2 (.cons rx .nil) ⟨[q0], _, .cons hd .nil, hp, fun v H' e d => ⟨e, d⟩⟩
  refine wpAny_mono run (fun u s' ⟨v', H', I', rv, e, d⟩ => ?_) fun _ _ z => z
  have d : Dp X.K H' v' (.int n) := d
  obtain rfl := dp_int d
  obtain ⟨t, rfl⟩ := rv
  have pS := I'.pin (S, seqObj "list" arr c) (by simp)
  have pI := I'.pin (It, oI) (by simp)
  refine q H' s' t e ⟨I'.unpinned, ⟨c, pS.1⟩, ⟨oI, pI.1, hI2, hI3⟩, ⟨pS.2.1, fS.2⟩, ⟨pI.2.1, fI.2⟩, m.ne⟩

theorem ints_lt {prog : Program} {w : World} {A : Around} {E : Value → Shared → Prop} {s : Shared} {i j : Int} {t u : Tok} {Q : Value → Shared → Prop} (q : Q (.bool (decide (i < j))) s) : wpAny (model prog w) A (richCompare .Lt (.int i t) (.int j u)) Q E s :=
  CmpOf.ints_lt (P := fun (k : Nat) v => ∃ t, v = .int (if k = 0 then i else j) t) (fun k : Nat => if k = 0 then i else j) (fun _ _ h => h) 0 1 _ _ _ _ _ ⟨t, rfl⟩ ⟨u, rfl⟩ q
/-- min(l, key=f), l of two items -/
theorem min_two {l f : Addr} {fd : FuncData} {ps : List Str} {k : Nat} {va vb : V} {da db : Dv} {i j : Int} {pre : List Dv → Dv → Prop} {Q : VK} (hcalm : X.calm = true) (F : FnOk X.prog X.w X.K X.mg X.base CX0 k f fd ps (SpD X.K pre)) (hr : Room (k + 1) X.A) (hb : Binds X.K fd ps [])
    (I : Inv X pins σ H s) (hl : H l = some (.lst [va, vb])) (hda : Dq X.K H va da) (hdb : Dq X.K H vb db) (hpa : pre [da] (.dat (.int i))) (hpb : pre [db] (.dat (.int j))) (q : ∀ H', Ex H H' → Q (if j < i then vb else va) H') :
    wpAny (model X.prog X.w) X.A (call (.builtin "min") [.ref l] [(Str.ofString "key", .ref f)]) (EP X pins σ Q) X.xe s := by
  have hname : (toString "min" ++ toString ".loop" : String) = "min.loop" := by decide
  have hh : X.A.handled = none := I.ok.hd hcalm
  obtain ⟨its, rv, pl, hz⟩ := I.list (.inl (.inl hl) : SqL X.K H l [va, vb])
  obtain ⟨ol, hol, _⟩ := id pl.isList
  have hll : l < s.heap.objs.size := Heap.lt_size hol
  refine kmk_tree PySem.F.kind_min PySem.F.plain_min PySem.F.entry_min (kmk_min_key _ _) ?_
  show wpAny _ X.A.in1 (Builtin.Builtins.bindParams "min" ["key", "default"] 0 ⟨[], [(Str.ofString "key", .ref f)]⟩ >>= _) _ _ s
  refine wpAny_bind (wpAny_of_eq (show Builtin.Builtins.bindParams "min" ["key", "default"] 0 ⟨[], [(Str.ofString "key", .ref f)]⟩ = pure [some (.ref f), none] from rfl) ?_)
  refine wpAny_bind (wpAny_pure ?_)
  refine wpAny_bind (wpAny_pyIter_list pl.isList ?_)
  refine wpAny_bind (wpAny_newList ?_ (Nat.zero_le _))
  rw [hname]
  have hS : (s.heap.push { cls := .type "list_iterator", data := .fields #[.ref l, .int 0 0] }).objs.size = s.heap.objs.size + 1 := size_push' ..
  refine wpAny_pure ⟨plainId_quiet PySem.F.plain_min_loop _, ?_⟩
  have nI : H s.heap.objs.size = none := I.hok.fresh (Nat.le_refl _)
  have nS : H (s.heap.push { cls := .type "list_iterator", data := .fields #[.ref l, .int 0 0] }).objs.size = none := I.hok.fresh (by rw [hS]; exact Nat.le_succ _)
  have I1 : Inv (inX X) pins σ H { s with heap := (s.heap.push { cls := .type "list_iterator", data := .fields #[.ref l, .int 0 0] }).push (seqObj "list" #[] 0) } := inv_in (I.kept (t' := s.toks) fun b o e => Heap.get?_push_of_some _ (Heap.get?_push_of_some _ e))
  have m0 : Mn2 X pins σ (s.heap.push { cls := .type "list_iterator", data := .fields #[.ref l, .int 0 0] }).objs.size s.heap.objs.size l H #[] 0 { s with heap := (s.heap.push { cls := .type "list_iterator", data := .fields #[.ref l, .int 0 0] }).push (seqObj "list" #[] 0) } :=
    ⟨I1, ⟨0, Heap.get?_push_size _ rfl⟩, ⟨_, Heap.get?_push_of_some _ (Heap.get?_push_size _ rfl), rfl, rfl⟩, (inv_in I).fpOk (by rw [hS]; exact Nat.le_succ _) nS, (inv_in I).fpOk (Nat.le_refl _) nI, by rw [hS]; exact Nat.ne_of_gt (Nat.lt_succ_self _)⟩
  generalize (s.heap.push { cls := .type "list_iterator", data := .fields #[.ref l, .int 0 0] }).objs.size = S at m0 ⊢
  generalize s.heap.objs.size = It at m0 ⊢
  generalize ({ s with heap := (s.heap.push { cls := .type "list_iterator", data := .fields #[.ref l, .int 0 0] }).push (seqObj "list" #[] 0) } : Shared) = s0 at m0 ⊢
  -- the first
  refine codeAny_builtin PySem.F.entry_min_loop ?_
  rw [Around.under_plainId PySem.F.plain_min_loop _]
  obtain ⟨c0, hc0⟩ := m0.best
  show wpAny _ X.A.in1 (seqItems? (.ref S) >>= _) _ _ _
  refine wpAny_bind (wpAny_seqItems hc0 rfl ?_)
  show wpAny _ X.A.in1 (tryCatch (pyNext (.ref It)) _ >>= _) _ _ _
  refine wpAny_bind (wpAny_tryCatch (mn_next m0 (.inl (.inl hl)) (x := va) rfl fun a s1 ra m1 => ?_))
  show wpAny _ X.A.in1 (tryCatch (holding [a] (call (.ref f) [a])) _ >>= _) _ _ _
  refine wpAny_bind (wpAny_tryCatch (wpAny_holding (wpAny_mono (mn_key F hr hb m1 ra hda hpa fun H1 s2 t e1 m2 => ?_) (fun _ _ z => z) fun _ _ z => z.elim)))
  show wpAny _ X.A.in1 (updateSeq S (fun _ => #[a, .int i t]) >>= _) _ _ _
  refine wpAny_bind (mn_set m2 (by simp) (by simp) fun s3 m3 => ?_)
  rw [hname]
  refine wpAny_pure ⟨plainId_quiet PySem.F.plain_min_loop _, ?_⟩
  -- the second
  refine codeAny_builtin PySem.F.entry_min_loop ?_
  rw [Around.under_plainId PySem.F.plain_min_loop _]
  obtain ⟨c3, hc3⟩ := m3.best
  have hl1 : H1 l = some (.lst [va, vb]) := e1 _ _ hl
  show wpAny _ X.A.in1 (seqItems? (.ref S) >>= _) _ _ _
  refine wpAny_bind (wpAny_seqItems hc3 rfl ?_)
  show wpAny _ X.A.in1 (tryCatch (pyNext (.ref It)) _ >>= _) _ _ _
  refine wpAny_bind (wpAny_tryCatch (mn_next m3 (.inl (.inl hl1)) (x := vb) rfl fun b s4 rb m4 => ?_))
  show wpAny _ X.A.in1 (tryCatch (holding [b] (call (.ref f) [b])) _ >>= _) _ _ _
  refine wpAny_bind (wpAny_tryCatch (wpAny_holding (wpAny_mono (mn_key F hr hb m4 rb (hdb.ex e1) hpb fun H2 s5 t2 e2 m5 => ?_) (fun _ _ z => z) fun _ _ z => z.elim)))
  show wpAny _ X.A.in1 (tryCatch (holding [b, .int j t2] (richCompare .Lt (.int j t2) (.int i t) >>= _)) _ >>= _) _ _ _
  refine wpAny_bind (wpAny_tryCatch (wpAny_holding (wpAny_bind (ints_lt ?_))))
  refine wpAny_bind (wpAny_holding (wpAny_truthy_bool ?_))
  refine wpAny_bind (wpAny_letGo (wpAny_pure ?_))
  -- the end
  have fin : ∀ {u : V} {z : Value} {n : Int} {t : Tok} {s6 : Shared}, RelV u z → Mn2 X pins σ S It l H2 #[z, .int n t] 2 s6 → Q u H2 →
      codeAny (model X.prog X.w) X.A (.builtin "min.loop" ⟨[.ref It, .ref f, .ref S], []⟩) (fun r s' => match r with | .ok (.ret v) => EP X pins σ Q v s' | .ok _ => False | .error e => X.xe e s') s6 := fun {u z n t s6} ru m6 qu => by
    refine codeAny_builtin PySem.F.entry_min_loop ?_
    rw [Around.under_plainId PySem.F.plain_min_loop _]
    obtain ⟨c6, hc6⟩ := m6.best
    show wpAny _ X.A.in1 (seqItems? (.ref S) >>= _) _ _ _
    refine wpAny_bind (wpAny_seqItems hc6 rfl ?_)
    show wpAny _ X.A.in1 (tryCatch (pyNext (.ref It)) _ >>= _) _ _ _
    refine wpAny_bind (wpAny_tryCatch (mn_end hh m6 (.inl (.inl ((e1.trans e2) _ _ hl))) (Nat.le_refl _) fun s7 ⟨c7, hc7⟩ I7 => ?_))
    show wpAny _ X.A.in1 (updateSeq S (fun _ => #[]) >>= _) _ _ _
    have sb := Heap.SameBut.update s7.heap S (Obj.mapSeq fun _ => (#[] : Array Value))
    obtain ⟨f0, f1, f2, f3, f4, f5⟩ := m6.fS
    refine wpAny_bind (wpAny_updateSeq hc7 rfl (wpAny_bind (wpAny_letGo (wpAny_pure ?_))) (by simp [sizeLine_eq]) (by simp))
    exact ⟨u, H2, inv_out (I7.turned (t' := s7.toks) (fun b o hb e => (sb.2 b hb).trans e) f0 f1 f3 f4 f5) I.ok, ru, qu⟩
  by_cases hij : j < i
  · simp only [hij, decide_true, if_true]
    refine wpAny_bind (mn_set m5 (by simp) (by simp) fun s6 m6 => wpAny_bind (wpAny_letGo ?_))
    rw [hname]
    have q2 := q H2 (e1.trans e2)
    rw [if_pos hij] at q2
    exact wpAny_pure ⟨plainId_quiet PySem.F.plain_min_loop _, fin rb m6 q2⟩
  · simp only [hij, decide_false, Bool.false_eq_true, if_false]
    refine wpAny_bind (wpAny_letGo ?_)
    rw [hname]
    have q2 := q H2 (e1.trans e2)
    rw [if_neg hij] at q2
    exact wpAny_pure ⟨plainId_quiet PySem.F.plain_min_loop _, fin ra m5 q2⟩
end
end GX
end SGMin
section SGFn5
set_option linter.all false
set_option maxRecDepth 100000
set_option maxHeartbeats 1000000
/-! fewest_packed -/
namespace GX
open PySem PySem.Spec PyProof.Rows L2
open Evl StX OL
inductive LsAll (K : PySem.W.Frag) (H0 H : Hp) (D : Addr) : List V → List (List PyData) → Prop
  | nil : LsAll K H0 H D [] []
  | cons {a : Addr} {vs : List V} {ds : List PyData} {dss : List (List PyData)} : a ≠ D → H0 a = none → LsAt K H a ds → LsAll K H0 H D vs dss → LsAll K H0 H D (.ref a :: vs) (ds :: dss)
theorem LsAll.ex {K : PySem.W.Frag} {H0 H H' : Hp} {D : Addr} (e : Ex H H') : ∀ {vs : List V} {dss : List (List PyData)}, LsAll K H0 H D vs dss → LsAll K H0 H' D vs dss
  | _, _, .nil => .nil
  | _, _, .cons h1 h0 h2 t => .cons h1 h0 (h2.ex e) (LsAll.ex e t)
theorem LsAll.put {K : PySem.W.Frag} {H0 H : Hp} {D : Addr} {xs zs : List V} (hD : H D = some (.lst xs)) : ∀ {vs : List V} {dss : List (List PyData)}, (∀ ds ∈ dss, flatD.flatDs ds = true) → LsAll K H0 H D vs dss → LsAll K H0 (upd H D (.lst zs)) D vs dss
  | _, _, _, .nil => .nil
  | _, _, hf, .cons h1 h0 h2 t => .cons h1 h0 (by
      obtain ⟨us, h3, h4⟩ := h2
      exact ⟨us, by rw [upd_ne h1]; exact h3, dpAll_mx (Mx.upd hD (fun _ => by simp) (fun _ _ => by simp)) (hf _ (by simp)) h4⟩) (LsAll.put hD (fun ds h => hf ds (by simp [h])) t)
theorem LsAll.app {K : PySem.W.Frag} {H0 H : Hp} {D : Addr} : ∀ {vs us : List V} {dss ess : List (List PyData)}, LsAll K H0 H D vs dss → LsAll K H0 H D us ess → LsAll K H0 H D (vs ++ us) (dss ++ ess)
  | _, _, _, _, .nil, h => h
  | _, _, _, _, .cons h1 h0 h2 t, h => .cons h1 h0 h2 (t.app h)
theorem LsAll.len {K : PySem.W.Frag} {H0 H : Hp} {D : Addr} : ∀ {vs : List V} {dss : List (List PyData)}, LsAll K H0 H D vs dss → vs.length = dss.length
  | _, _, .nil => rfl
  | _, _, .cons _ _ _ t => congrArg Nat.succ t.len
section
variable {X : Cx} {σ : L2.St} {H : Hp} {tg it elt : Expr} {pos : Pos}
/-- a list comprehension whose items are new lists -/
theorem nLcN {α : Type} {xs : List α} {Dd : α → PyData} {E : α → List PyData} {scope : Scope} {own : List (Str × Nat)} {g : TG} (hc : X.calm = true) (hN : X.N.Nodup) (src : Src X σ H tg it (xs.map Dd)) (ok : BlkOk X.N X.env.scope scope own)
    (hg : Blk X scope fun B => PG B tg g) (hz : xs.length ≤ sizeLine) (hf : ∀ a ∈ xs, flatD.flatDs (E a) = true)
    (step : ∀ a ∈ xs, ∀ v H2, Ex H H2 → Dp X.K H2 v (Dd a) → ∀ Q : L2.St → Hp → Prop, (∀ σ2, wipe σ2 (own.map (·.2)) = wipe σ (own.map (·.2)) → ∀ H3, Ex H2 H3 → (Blk X scope fun B => EN B σ2 H3 elt (E a)) → Q σ2 H3) → g v (wipe σ (own.map (·.2))) H2 Q)
    (hs : ∀ x, foldedSetIterable it X.env x = pure x := by intro _; rfl) : ER X σ H (.ListComp elt [⟨tg, it, [], 0⟩] scope pos) fun v H' => ∃ D vs, v = .ref D ∧ H D = none ∧ H' D = some (.lst vs) ∧ LsAll X.K H H' D vs (xs.map E) := by
  obtain ⟨wi, pi, hwi⟩ := src.run
  refine .of (pe_lc (tt := tBlkT X scope []) (te := tBlk X scope elt) hc hN pi ok hg (fun s H0 C cl fp => ⟨fun pins s1 σ' H' Q I q => q s H0 C cl fp pins s1 I⟩) (fun s H0 C cl fp => ⟨fun pins s1 σ' H' Q I q => q s H0 C cl fp pins s1 I⟩) hs) fun H1 e1 Q q => ?_
  refine hwi H1 e1 _ fun J H2 Gd Y e2 W hG0 hGs hY D hD => ?_
  refine lc_it W (fun i H' => Ex H2 H' ∧ ∃ vs, H' D = some (.lst vs) ∧ LsAll X.K H H' D vs ((xs.take i).map E)) ⟨Ex.new hD, [], upd_same, .nil⟩ (fun i H' _ ⟨e3, _⟩ => hGs _ _ e3 hG0) ?_ ?_
  · rintro i x H3 H4 hi ⟨e3, vs, hv, dvs⟩ y
    obtain ⟨e4, d, hd, dx⟩ := hY i H3 x H4 (hGs _ _ e3 hG0) y
    rw [List.getElem?_map] at hd
    cases ha : xs[i]? with
    | none => rw [ha] at hd; cases hd
    | some a0 =>
      rw [ha] at hd
      cases hd
      have hmem : a0 ∈ xs := List.mem_of_getElem? ha
      have htake : xs.take (i + 1) = xs.take i ++ [a0] := by rw [List.take_succ, ha]; rfl
      have e04 : Ex H H4 := e1.trans (e2.trans (e3.trans e4))
      refine step a0 hmem x H4 e04 dx _ fun σ2 hw H5 e5 hel => ⟨hw, tBlkT_nil ?_⟩
      have hv5 : H5 D = some (.lst vs) := (e4.trans e5) D _ hv
      rw [if_pos rfl]
      refine tBlk_of (R := fun v H' => ∃ p, v = .ref p ∧ H5 p = none ∧ LsAt X.K H' p (E a0)) (fun s H0 C cl fp => hel s H0 C cl fp) fun w H7 e7 ⟨p, ew, hn, hl⟩ => ?_
      subst ew
      have e37 : Ex H3 H7 := e4.trans (e5.trans e7)
      have hv7 : H7 D = some (.lst vs) := e37 D _ hv
      have hpD : p ≠ D := fun z => by subst z; rw [hv5] at hn; cases hn
      have hf2 : ∀ ds ∈ ((xs.take (i + 1)).map E), flatD.flatDs ds = true := fun ds h => by
        obtain ⟨a, ha, rfl⟩ := List.mem_map.mp h
        exact hf a (List.mem_of_mem_take ha)
      refine ⟨vs, hv7, ?_, ex_lst (e3.trans e37) hD, vs ++ [.ref p], upd_same, ?_⟩
      · have h1 := dvs.len
        rw [List.length_map] at h1 hi
        have h2 := List.length_take_le i xs
        omega
      · rw [htake] at hf2 ⊢
        rw [List.map_append] at hf2 ⊢
        exact LsAll.put hv7 hf2 ((dvs.ex e37).app (.cons hpD (fresh_back (e04.trans e5) hn) hl .nil))
  · rintro H' ⟨e3, vs, hv, dvs⟩
    rw [List.length_map, List.take_length] at dvs
    exact q (.ref D) H' (e2.trans e3) ⟨D, vs, rfl, Evl.fresh_back (e1.trans e2) hD, hv, dvs⟩
variable {e : Expr}
theorem nMinKey {k j n : Nat} {a b : Int} {pre : List Dv → Dv → Prop} {ds1 ds2 : List PyData} {x : Str} {p pk kpos : Pos} (hcalm : X.calm = true) (hg : Gl X "min") (hm : X.mg "min" = none) (he : ER X σ H e fun v H' => ∃ D vs, v = .ref D ∧ H D = none ∧ H' D = some (.lst vs) ∧ LsAll X.K H H' D vs [ds1, ds2]) (C : Cl X.prog X.w X.K X.mg X.base j x n (SpD X.K pre)) (hr : Room (k + 1) X.A) (hj : j ≤ k) (hgx : Gl X x)
    (hp1 : pre [.dat (.list ds1)] (.dat (.int a))) (hp2 : pre [.dat (.list ds2)] (.dat (.int b))) (hdb : (x == ("__debug__" : Str)) = false := by decide) (hs : starEach [e] X.env = (false, eval e X.env) :: starEach [] X.env := by rfl)
    (h1 : backTo pos (starEach [e] X.env) = (false, eval e X.env) :: backTo pos (starEach [] X.env) := by rfl) (hpl : (backTo pos (starEach [e] X.env)).any (·.1) = false := by rfl)
    (hall : (backToKw pos (keywordEach [⟨some "key", .Name x pk, kpos⟩] X.env)).all (·.1.isSome) = true := by rfl) (hnone : (backToKw pos (keywordEach [⟨some "key", .Name x pk, kpos⟩] X.env)).any (·.1.isNone) = false := by rfl) (hks : (backToKw pos (keywordEach [⟨some "key", .Name x pk, kpos⟩] X.env)).filterMap (·.1) = [Str.ofString "key"] := by rfl) :
    EN X σ H (.Call (.Name "min" p) [e] [⟨some "key", .Name x pk, kpos⟩] pos) (if b < a then ds2 else ds1) := by
  obtain ⟨f, fd, ps, _, F, hmx, hk, hb⟩ := C.ex
  refine .of (pe_callBK (r := fun vs zs H' Q => ∃ D q1 q2, vs = [V.ref D] ∧ zs = [V.ref f] ∧ H' D = some (.lst [.ref q1, .ref q2]) ∧ LsAt X.K H' q1 ds1 ∧ LsAt X.K H' q2 ds2 ∧ ∀ H2, Ex H' H2 → Q (if b < a then .ref q2 else .ref q1) H2) ?_ hg hm PyProof.Rows.boot_min (pa_cons he pa_nil hs) (pk_cons (pe_glob hgx hmx (show RelV (.ref f) (.ref f) from rfl) hdb) pk_nil) (by decide) (by decide) h1 hpl hall hnone hks) ?_
  · intro pins s σ H' xs zs us ws Q I r rz h
    obtain ⟨D, q1, q2, rfl, rfl, hD, ⟨u1, g1, g2⟩, ⟨u2, g3, g4⟩, q⟩ := h
    obtain rfl := Vals.ref1 r
    obtain rfl := Vals.ref1 rz
    exact min_two hcalm (F) (hr.mono (Nat.succ_le_succ hj)) hb I hD (da := .dat (.list ds1)) (db := .dat (.list ds2)) (show Dp _ _ _ _ from .lst (.inl (.inl g1)) g2) (show Dp _ _ _ _ from .lst (.inl (.inl g3)) g4) hp1 hp2 q
  · refine fun H1 e1 Q q => ⟨rfl, e1, fun v H2 e2 ⟨D, vs, ev, hn, hD, la⟩ => ?_⟩
    subst ev
    cases la with
    | cons n1 f1 l1 la =>
      cases la with
      | cons n2 f2 l2 la =>
        cases la
        refine ⟨D, _, _, rfl, rfl, hD, l1, l2, fun H3 e3 => ?_⟩
        by_cases hba : b < a
        · rw [if_pos hba] at q ⊢
          exact q _ H3 (e2.trans e3) ⟨_, rfl, f2, l2.ex e3⟩
        · rw [if_neg hba] at q ⊢
          exact q _ H3 (e2.trans e3) ⟨_, rfl, f1, l1.ex e3⟩
end
def fewestP (u : Int) (kvs : List (Int × Int)) : List Lap := if lapsP (packedP u kvs ffL) < lapsP (packedP u kvs (compL 4)) then packedP u kvs ffL else packedP u kvs (compL 4)
section
variable {P : Program} {w : World} {K : PySem.W.Frag} {mg : Str → Option Value} {base : Heap}
theorem packedP_len {u : Int} {kvs : List (Int × Int)} {o4 : List (List Int)} (h : kvs.length ≤ 60) (h4 : o4.length ≤ 4) : (packedP u kvs o4).length ≤ 300 := by
  have h1 := sizes_len (u := u) h4 (ord true (kvs.map (·.1))) (kvs, [])
  rw [ord_len, List.length_map] at h1
  simp only [List.length_nil] at h1
  show (packedS u kvs o4).2.length ≤ 300
  unfold packedS
  omega
inductive preFewestPacked : List Dv → List PyData → Prop
  | mk (u : Int) (kvs : List (Int × Int)) : kvs.length ≤ 60 → (∀ p ∈ kvs, 2 ≤ p.1 ∧ p.1 ≤ 7) → preFewestPacked [.dat (.int u), .dic kvs] ((fewestP u kvs).map dLap)
theorem cl_fewest_packed (B : BM mg) (C : MC mg) (hK : KDI K mg "COMPANIONS" (fun k => dLs (compL k)) compDom) (hO : ∃ a, mg "OTHERS_FOR_FOUR" = some (.ref a) ∧ ∀ H', Dp K H' (.ref a) (dLs ffL)) (c_packed : Cl P w K mg base 2 "packed" 3 (SpN K prePacked)) (c_lap_count : Cl P w K mg base 1 "lap_count" 1 (SpD K preLapCount)) (F : Df K mg "fewest_packed" sFewestPacked pFewestPacked) : Cl P w K mg base 3 "fewest_packed" 2 (SpN K preFewestPacked) := by
  refine clL F scFewestPacked (fun qs r h => by cases h; rfl) rfl fun f cdv A outer s H vs qs r Q E hr hp hq k => ?_
  obtain ⟨u, kvs, hz, hkv⟩ := hp
  obtain ⟨v1, v2, rfl, h1, ⟨pb, rfl, h2⟩⟩ := hq.two
  refine sxRet (nMinKey (a := lapsP (packedP u kvs (compL 4))) (b := lapsP (packedP u kvs ffL)) (ds1 := (packedP u kvs (compL 4)).map dLap) (ds2 := (packedP u kvs ffL).map dLap) rfl rfl B.min ?_ c_lap_count hr (by decide) rfl (.mk _ ?_) (.mk _ ?_)) fun v H2 e2 ⟨p, ev, hn, hl⟩ => ?_
  · refine nLcN (xs := [compL 4, ffL]) (Dd := dLs) (E := fun o => (packedP u kvs o).map dLap) (own := [("some", 2)]) (g := gName 2) rfl scFewestPacked.nd (srT (EX.is (xTup (aCons (xKD hK (xGlobI C.four) (show compDom 4 from ⟨by decide, by decide⟩)) (aCons (xGlobD hO) aNil)) (by decide)) rfl)) (blkOk_by (N := nFewestPacked) (sc := defScope sFewestPacked) (by decide +kernel)) (fun _ _ _ _ _ => pg_name scFewestPacked.nd (i := 2) rfl (.inl rfl)) (by decide) (fun o _ => flat_laps _) fun o ho v H2 e2 dv Q q => g1_run (i := 2) (q _ (by rfl) H2 (Ex.refl _) fun _ _ _ _ _ => ?_)
    have h1 := dp_ex e2 h1
    have h2 := ex_rd e2 h2
    refine xClL c_packed hr (aqCons (EX.toQ (xV 0 rfl h1 (pv 0))) (aqCons (ED.toQ (dV 1 rfl rfl h2 (pv 1))) (aqCons (EX.toQ (xV 2 rfl dv (pv 2))) aqNil))) (.mk u kvs o hz hkv ?_ ?_)
    · rcases List.mem_cons.mp ho with rfl | ho
      · decide
      · rw [List.mem_singleton.mp ho]; decide
    · rcases List.mem_cons.mp ho with rfl | ho
      · decide
      · rw [List.mem_singleton.mp ho]; decide
  · exact Nat.le_trans (packedP_len hz (by decide)) (by decide)
  · exact Nat.le_trans (packedP_len hz (by decide)) (by decide)
  · subst ev
    refine k p H2 e2 hn ?_
    have e : (fewestP u kvs).map dLap = if lapsP (packedP u kvs ffL) < lapsP (packedP u kvs (compL 4)) then (packedP u kvs ffL).map dLap else (packedP u kvs (compL 4)).map dLap := by
      unfold fewestP
      split <;> rfl
    rw [e]
    exact hl
theorem fewestP_len {u : Int} {kvs : List (Int × Int)} (h : kvs.length ≤ 60) : (fewestP u kvs).length ≤ 300 := by
  unfold fewestP
  split
  · exact packedP_len h (by decide)
  · exact packedP_len h (by decide)
end
end GX
end SGFn5
section SGDEq
set_option linter.all false
set_option maxRecDepth 100000
set_option maxHeartbeats 1000000
/-! dicts of ints compared -/
namespace GX
open PySem PySem.Spec PyProof.Rows L2
open Evl StX
def hitB (ls : List (Int × Int)) (p : Int × Int) : Bool := match getI ls p.1 with
  | none => false
  | some m => decide (p.2 = m)
def dEq (ks ls : List (Int × Int)) : Bool := ks.length == ls.length && ks.all (hitB ls)
theorem eqAt_int {A : Around} {s : Shared} {i j : Int} {t u : Tok} : SeqAt.EqAt A s (.int i t) (.int j u) (decide (i = j)) := fun prog w E Q hq => wpAny_eqBool_int hq
theorem hits_kv {A : Around} {s : Shared} {ls : List (Int × Int)} {vb : List (Key × Value)} (rb : KV (ls.map kvD) vb) : ∀ {ks : List (Int × Int)} {va : List (Key × Value)}, KV (ks.map kvD) va → PySem.W.KeqHits A s vb va (ks.all (hitB ls))
  | [], va, ra => by cases ra; exact .nil
  | (k, v) :: ks, va, ra => by
    cases ra with
    | cons h t =>
      rename_i q qs
      obtain ⟨h1, h2⟩ := h
      obtain ⟨qk, qv⟩ := q
      have h1 : (Sum.inl k : Key) = qk := h1
      subst h1
      obtain ⟨tk, rfl⟩ := (show ∃ t, qv = Value.int v t from h2)
      have rr : RelO ((getI ls k).map V.int) (valueAt vb (Sum.inl k)) := by rw [← getI_kv]; exact rb.val _
      have ih := hits_kv (A := A) (s := s) rb (ks := ks) t
      rw [List.all_cons]
      unfold hitB
      cases hg : getI ls k with
      | none =>
        rw [hg] at rr
        have : valueAt vb (Sum.inl k) = none := by
          cases hv : valueAt vb (Sum.inl k) with
          | none => rfl
          | some y => rw [hv] at rr; cases rr
        exact .miss this
      | some m =>
        rw [hg] at rr
        obtain ⟨y, hy, ry⟩ := rr.some_of
        obtain ⟨ty, rfl⟩ := (show ∃ t, y = Value.int m t from ry)
        exact .hit hy eqAt_int ih
section
variable {X : Cx} {σ : L2.St} {H : Hp} {a b : Expr} {pos : Pos} {ks ls : List (Int × Int)}
theorem op_eq_kv (hu : X.A.units < cLine) : OpR X (compareOp .Eq) (fun x y H Q => ∃ a b ks ls, x = .ref a ∧ y = .ref b ∧ Rd H a (dKV ks) ∧ Rd H b (dKV ls) ∧ Q (.bl (dEq ks ls)) H) := by
  intro pins s σ H x y v u Q I rx ry h
  obtain ⟨a, b, ks, ls, rfl, rfl, ea, eb, q⟩ := h
  obtain rfl : v = Value.ref a := rx
  obtain rfl : u = Value.ref b := ry
  obtain ⟨_, ya, va, ra, da⟩ := dk_rd I.hok ea
  obtain ⟨_, yb, vb, rb, db⟩ := dk_rd I.hok eb
  refine PySem.W.keq_eq (knd := mixKind X.prog X.w) (r := ks.all (hitB ls)) ya yb da db hu (fun _ => hits_kv rb ra) ?_
  have e : (va.length == vb.length && ks.all (hitB ls)) = dEq ks ls := by
    rw [← ra.length, ← rb.length, List.length_map, List.length_map]
    rfl
  rw [e]
  exact ⟨.bl _, H, I, rfl, q⟩
theorem op_ne_kv (hu : X.A.units < cLine) : OpR X (compareOp .NotEq) (fun x y H Q => ∃ a b ks ls, x = .ref a ∧ y = .ref b ∧ Rd H a (dKV ks) ∧ Rd H b (dKV ls) ∧ Q (.bl (!dEq ks ls)) H) := by
  intro pins s σ H x y v u Q I rx ry h
  obtain ⟨a, b, ks, ls, rfl, rfl, ea, eb, q⟩ := h
  obtain rfl : v = Value.ref a := rx
  obtain rfl : u = Value.ref b := ry
  obtain ⟨_, ya, va, ra, da⟩ := dk_rd I.hok ea
  obtain ⟨_, yb, vb, rb, db⟩ := dk_rd I.hok eb
  refine PySem.W.keq_ne (knd := mixKind X.prog X.w) (r := ks.all (hitB ls)) ya yb da db hu (fun _ => hits_kv rb ra) ?_
  have e : (va.length == vb.length && ks.all (hitB ls)) = dEq ks ls := by
    rw [← ra.length, ← rb.length, List.length_map, List.length_map]
    rfl
  rw [e]
  exact ⟨.bl _, H, I, rfl, q⟩
/-- a == b of dicts -/
theorem xEqD (hu : X.A.units < cLine) (ha : ED X σ H a ks) (hb : ED X σ H b ls) : EX X σ H (.Compare a [.Eq] [b] pos) (.bool (dEq ks ls)) :=
  .of (pe_cmpR (op_eq_kv hu) ha hb (nomark b)) fun H1 e1 Q k => ⟨rfl, e1, fun v H2 e2 ⟨p, ev, rp⟩ => ⟨rfl, e1.trans e2, fun u H3 e3 ⟨q, eu, rq⟩ => ⟨p, q, ks, ls, ev, eu, ex_rd e3 rp, rq, k _ H3 (e2.trans e3) (.bl _)⟩⟩⟩
theorem ttEqD (hu : X.A.units < cLine) (ha : ED X σ H a ks) (hb : ED X σ H b ls) : TX X σ H (.Compare a [.Eq] [b] pos) (dEq ks ls) :=
  .of (pt_cmpR (op_eq_kv hu) ha hb (nomark b)) fun H1 e1 Q k => ⟨rfl, e1, fun v H2 e2 ⟨p, ev, rp⟩ => ⟨rfl, e1.trans e2, fun u H3 e3 ⟨q, eu, rq⟩ => ⟨p, q, ks, ls, ev, eu, ex_rd e3 rp, rq, _, rfl, k H3 (e2.trans e3)⟩⟩⟩
theorem ttNeD (hu : X.A.units < cLine) (ha : ED X σ H a ks) (hb : ED X σ H b ls) : TX X σ H (.Compare a [.NotEq] [b] pos) (!dEq ks ls) :=
  .of (pt_cmpR (op_ne_kv hu) ha hb (nomark b)) fun H1 e1 Q k => ⟨rfl, e1, fun v H2 e2 ⟨p, ev, rp⟩ => ⟨rfl, e1.trans e2, fun u H3 e3 ⟨q, eu, rq⟩ => ⟨p, q, ks, ls, ev, eu, ex_rd e3 rp, rq, _, rfl, k H3 (e2.trans e3)⟩⟩⟩
/-- {} -/
theorem nDict : END X σ H (.Dict [] [] pos) [] := .of pe_dnewK fun H1 e1 Q q p hp => q _ _ (Ex.new hp) ⟨p, rfl, fresh_back e1 hp, upd_same⟩
end
end GX
end SGDEq
section SGFn6
set_option linter.all false
set_option maxRecDepth 100000
set_option maxHeartbeats 1000000
/-! fewest_laps, is_lap, is_plan -/
namespace GX
open PySem PySem.Spec PyProof.Rows L2
open Evl StX OL
/-- counts that a reader may be asked for -/
structure OkR (u c : Int) (cs : List (Int × Int)) : Prop where
  u0 : 0 < u
  u1 : u < 100
  len : cs.length ≤ 60
  ok : okCs u c cs
  box : ∀ p ∈ boxesP u c cs, 2 ≤ p.1 ∧ p.1 ≤ 7
theorem fold_put_len {α : Type} (f g : α → Int) : ∀ (xs : List α) (m : List (Int × Int)), (xs.foldl (fun m p => putI m (f p) (g p)) m).length ≤ m.length + xs.length
  | [], m => Nat.le_refl _
  | x :: xs, m => by
    have h1 := fold_put_len f g xs (putI m (f x) (g x))
    have h2 := putI_len m (f x) (g x)
    simp only [List.foldl_cons, List.length_cons]
    omega
theorem boxesP_len (u c : Int) (cs : List (Int × Int)) : (boxesP u c cs).length ≤ cs.length := by
  have h1 := fold_put_len (fun p : Int × Int => (stepP u c p.1).2) (fun p => p.2) (cs.filter (isBox u c)) []
  have h2 := List.length_filter_le (isBox u c) cs
  simp only [List.length_nil] at h1
  unfold boxesP
  omega
theorem OkR.bl {u c : Int} {cs : List (Int × Int)} (h : OkR u c cs) : (boxesP u c cs).length ≤ 60 := Nat.le_trans (boxesP_len u c cs) h.len
section
variable {P : Program} {w : World} {K : PySem.W.Frag} {mg : Str → Option Value} {base : Heap}
inductive preFewestLaps : List Dv → Dv → Prop
  | mk (u c : Int) (cs : List (Int × Int)) : OkR u c cs → preFewestLaps [.dat (dPr u c), .dat (.tuple (cs.map dPp))] (.dat (.int (lapsP (fewestP u (boxesP u c cs)))))
theorem cl_fewest_laps (c_lap_count : Cl P w K mg base 1 "lap_count" 1 (SpD K preLapCount)) (c_fewest_packed : Cl P w K mg base 3 "fewest_packed" 2 (SpN K preFewestPacked)) (c_boxes_in : Cl P w K mg base 5 "boxes_in" 2 (SpD K preBoxesIn)) (F : Df K mg "fewest_laps" sFewestLaps pFewestLaps) : Cl P w K mg base 6 "fewest_laps" 2 (SpD K preFewestLaps) := by
  refine clD F scFewestLaps (fun qs r h => by cases h; rfl) rfl fun f cdv A outer s H vs qs r Q E hr hp hq k => ?_
  obtain ⟨u, c, cs, ok⟩ := hp
  obtain ⟨v1, v2, rfl, h1, h2⟩ := hq.two
  refine sxRet (xClD c_lap_count hr (aqCons (EX.toQ (EN.ex (xClL c_fewest_packed hr (aqCons (EX.toQ (xIxA (xV 0 rfl h1 (pv 0)) xI)) (aqCons (EQ.new (xCl c_boxes_in hr (aqCons (EX.toQ (xV 0 rfl h1 (pv 0))) (aqCons (EX.toQ (xV 1 rfl h2 (pv 1))) aqNil)) (.mk u c cs ok.u0 ok.u1 (Nat.le_trans ok.len (by decide)) ok.ok))) aqNil)) (.mk u _ ok.bl ok.box)))) aqNil) (.mk (fewestP u (boxesP u c cs)) (Nat.le_trans (fewestP_len ok.bl) (by decide)))) fun v H2 e2 d => k v H2 e2 d
/-! is_lap -/
def isLapP (u : Int) (l : Lap) : Bool := decide (1 ≤ l.2) && decide (l.1 ≠ []) && l.1.all (fun s => isIntP s 2 (some (u - 1))) && decide (l.1 = desc l.1) && decide (l.1.sum ≤ u)
inductive preIsLap : List Dv → Dv → Prop
  | mk (u : Int) (l : Lap) : l.1.length ≤ 1000 → preIsLap [.dat (.int u), .dat (dLap l)] (.dat (.bool (isLapP u l)))
theorem cl_is_lap (B : BM mg) (C : MC mg) (c_is_integer : ClN P w K mg base 1 "is_integer" (SpD K preIsInteger)) (F : Df K mg "is_lap" sIsLap pIsLap) : Cl P w K mg base 2 "is_lap" 2 (SpD K preIsLap) := by
  refine clD F scIsLap (fun qs r h => by cases h; rfl) rfl fun f cdv A outer s H vs qs r Q E hr hp hq k => ?_
  obtain ⟨u, l, hz⟩ := hp
  obtain ⟨v1, v2, rfl, h1, h2⟩ := hq.two
  have fals : isLapP u l = false → ∀ v H2, Ex H H2 → Dp K H2 v (.bool false) → Q v H2 := fun hb v H2 e2 d => k v H2 e2 (by rw [hb]; exact d)
  refine sxWhen (c0 := !decide (1 ≤ l.2)) (TX.is (WX.tx (wOr (tNotX (tBool (xIsTup rfl B.isinstance rfl B.tuple (xV 1 rfl h2 (pv 1))))) fun _ => wOr (ttNe hr.units (xLenA B.len rfl (xV 1 rfl h2 (pv 1))) (xGlobI C.pair) (by first | rfl | decide +kernel | exact shaped_tI _ | exact shaped_lI _ | exact shaped_word _ | exact shaped_wi _ _ | assumption) (by first | rfl | decide +kernel | exact shaped_tI _ | exact shaped_lI _ | exact shaped_word _ | exact shaped_wi _ _ | assumption)) fun _ => wOr1 (tNotX (tBool (xClN1 c_is_integer hr (aqCons (EX.toQ (xIxA (xV 1 rfl h2 (pv 1)) xI)) (aqCons (EX.toQ xI) aqNil)) (.mk l.2 1 none)))))) ?_) (fun hc H1 e1 => ?_) fun hc H1 e1 => ?_
  · show (!true || (!PyData.eqv (.int 2) (.int 2) || !isIntP l.2 1 none)) = _
    rw [eqv_int]
    unfold isIntP
    by_cases h : l.2 < 1
    · (simp [h]; try omega)
    · (simp [h]; try omega)
  · refine sxRet xB fun v H2 e2 d => fals ?_ v H2 (e1.trans e2) d
    unfold isLapP
    rw [Bool.not_eq_true'] at hc
    rw [hc]; simp
  · have hl2 : decide (1 ≤ l.2) = true := by simpa using hc
    have h1 := dp_ex e1 h1
    have h2 := dp_ex e1 h2
    refine sxSet (i := 2) (xIxA (xV 1 rfl h2 (pv 1)) xI) (fun w3 H2 e2 d3 => ?_) scIsLap.nd
    have h1 := dp_ex e2 h1
    have h2 := dp_ex e2 h2
    refine sxWhen (c0 := decide (l.1 = [])) (TX.is (WX.tx (wOr (tNotX (tBool (xIsTup rfl B.isinstance rfl B.tuple (xV 2 rfl d3 (pv 2))))) fun _ => (wOr1 (ttEq hr.units (xV 2 rfl d3 (pv 2)) (xTup aNil (by first | (rw [sizeLine_eq]; simp; done) | (rw [sizeLine_eq]; simp; omega) | assumption)) (by first | rfl | decide +kernel | exact shaped_tI _ | exact shaped_lI _ | exact shaped_word _ | exact shaped_wi _ _ | assumption) (by first | rfl | decide +kernel | exact shaped_tI _ | exact shaped_lI _ | exact shaped_word _ | exact shaped_wi _ _ | assumption))))) ?_) (fun hc H3 e3 => ?_) fun hc H3 e3 => ?_
    · show (!true || PyData.eqv (tI l.1) (tI [])) = _
      rw [eqv_tI]
      rfl
    · refine sxRet xB fun v H4 e4 d => fals ?_ v H4 (e1.trans (e2.trans (e3.trans e4))) d
      have h : l.1 = [] := of_decide_eq_true hc
      unfold isLapP
      simp [h]
    have h1 := dp_ex e3 h1
    have h2 := dp_ex e3 h2
    have d3 := dp_ex e3 d3
    have hne : l.1 ≠ [] := of_decide_eq_false hc
    refine sxWhen (c0 := !l.1.all fun s => isIntP s 2 (some (u - 1))) (TX.is (tNotX (tBool (xAll (bs := l.1.map fun s => isIntP s 2 (some (u - 1))) rfl rfl B.all (EX.is (EN.ex (nLcA (xs := l.1) (Dd := PyData.int) (E := fun s => .bool (isIntP s 2 (some (u - 1)))) (own := [("size", 3)]) (g := gName 3) rfl scIsLap.nd (srT (xV 2 rfl d3 (pv 2))) (blkOk_by (N := nIsLap) (sc := defScope sIsLap) (by decide +kernel)) (fun _ _ _ _ _ => (pg_name scIsLap.nd (i := 3) rfl (by first | exact .inl rfl | exact .inr rfl))) (Nat.le_of_lt (small1000 hz)) (fun _ _ => rfl) (fun a ha v H2 e2 dv Q q => g1_run (i := 3) (q _ (by rfl) H2 (Ex.refl _) (fun _ _ _ _ _ => rfl) (fun hT _ _ _ _ _ => (xClN c_is_integer hr (aqCons (EX.toQ (xV 3 rfl dv (pv 3))) (aqCons (EX.toQ (xGlobI C.least)) (aqCons (EX.toQ (xSub (xV 0 rfl (dp_ex e2 h1) (pv 0)) xI)) aqNil))) (.mk a 2 (some (u - 1))))))))) (by rw [List.map_map]; rfl))))) (by rw [List.all_map]; rfl)) (fun hc H4 e4 => ?_) fun hc H4 e4 => ?_
    · refine sxRet xB fun v H5 e5 d => fals ?_ v H5 (e1.trans (e2.trans (e3.trans (e4.trans e5)))) d
      unfold isLapP
      rw [Bool.not_eq_true'] at hc
      rw [hc]; simp
    have h1 := dp_ex e4 h1
    have h2 := dp_ex e4 h2
    have d3 := dp_ex e4 d3
    have hall : (l.1.all fun s => isIntP s 2 (some (u - 1))) = true := by simpa using hc
    refine sxRet (xAnd (xEq hr.units (xV 2 rfl d3 (pv 2)) (xTupOf rfl B.tuple (EN.ex (nSortR rfl B.sorted (xV 2 rfl d3 (pv 2)) (pk_cons pe_bl pk_nil)))) (shaped_tI _) (shaped_tI _)) fun _ => xOne (xLe (xSumA B.sum rfl rfl (xV 2 rfl d3 (pv 2))) (xV 0 rfl h1 (pv 0)))) fun v H5 e5 d => k v H5 (e1.trans (e2.trans (e3.trans (e4.trans e5)))) (dpIs d ?_)
    show PyData.bool (PyData.eqv (tI l.1) (tI (ord true l.1)) && decide (l.1.sum ≤ u)) = _
    rw [eqv_tI]
    unfold isLapP
    rw [hl2, hall, decide_eq_true hne]
    simp [ord]
end
end GX
end SGFn6
section SGFn7
set_option linter.all false
set_option maxRecDepth 100000
set_option maxHeartbeats 1000000
/-! boxes_of_plan, is_plan -/
namespace GX
open PySem PySem.Spec PyProof.Rows L2
open Evl StX OL
def addL (n : Int) (m : List (Int × Int)) (ss : List Int) : List (Int × Int) := ss.foldl (fun m s => putI m s ((getI m s).getD 0 + n)) m
def boxOf (ls : List Lap) : List (Int × Int) := ls.foldl (fun m l => addL l.2 m l.1) []
theorem addL_len (n : Int) : ∀ (ss : List Int) (m : List (Int × Int)), (addL n m ss).length ≤ m.length + ss.length
  | [], m => Nat.le_refl _
  | s :: ss, m => by
    have h1 := addL_len n ss (putI m s ((getI m s).getD 0 + n))
    have h2 := putI_len m s ((getI m s).getD 0 + n)
    show (addL n (putI m s ((getI m s).getD 0 + n)) ss).length ≤ m.length + (ss.length + 1)
    omega
theorem boxOf_len {z : Nat} : ∀ (ls : List Lap) (m : List (Int × Int)), (∀ l ∈ ls, l.1.length ≤ z) → (ls.foldl (fun m l => addL l.2 m l.1) m).length ≤ m.length + z * ls.length
  | [], m, _ => Nat.le_refl _
  | l :: ls, m, h => by
    have h1 := boxOf_len ls (addL l.2 m l.1) fun x hx => h x (by simp [hx])
    have h2 := addL_len l.2 l.1 m
    have h3 := h l (by simp)
    rw [List.foldl_cons, List.length_cons, Nat.mul_succ]
    omega
theorem addL_take {n : Int} {m : List (Int × Int)} {ss : List Int} {i : Nat} {s : Int} (h : ss[i]? = some s) : addL n m (ss.take (i + 1)) = putI (addL n m (ss.take i)) s ((getI (addL n m (ss.take i)) s).getD 0 + n) := by
  unfold addL
  rw [take_app h, List.foldl_append]
  rfl
/-- a plan that is not too long -/
def PlanZ (ls : List Lap) : Prop := ls.length ≤ 1000 ∧ ∀ l ∈ ls, l.1.length ≤ 1000
theorem flat_dLap (l : Lap) : flatD (dLap l) = true := by
  show (flatD (tI l.1) && (true && true)) = true
  rw [flat_tI]
  rfl
theorem canLay_laps : ∀ ls : List Lap, PyData.canLayAll0 (ls.map dLap) = true
  | [] => rfl
  | l :: ls => by
    show ((PyData.canLayAll0 (l.1.map .int) && true) && PyData.canLayAll0 (ls.map dLap)) = true
    rw [canLay_laps ls, canLay_ints]
    rfl
theorem depth_laps : ∀ ls : List Lap, PyData.depthAll (ls.map dLap) ≤ 2
  | [] => Nat.zero_le _
  | l :: ls => by
    show max (max (PyData.depthAll (l.1.map .int) + 1) (max 0 0) + 1) (PyData.depthAll (ls.map dLap)) ≤ 2
    have := depth_laps ls
    rw [depth_ints]
    omega
theorem shaped_plan (ls : List Lap) : SeqAt.shaped (.tuple (ls.map dLap)) = true := by
  unfold SeqAt.shaped
  show (PyData.canLayAll0 (ls.map dLap) && decide (PyData.depthAll (ls.map dLap) + 1 ≤ 64)) = true
  rw [canLay_laps]
  have := depth_laps ls
  simp
  omega
theorem eqv_nil (ls : List Lap) : PyData.eqv (.tuple (ls.map dLap)) (.tuple []) = decide (ls = []) := by
  cases ls with
  | nil => rfl
  | cons l ls =>
    show false = _
    simp
theorem atI_last {α : Type} (xs : List α) : atI xs (-1) = xs.getLast? := by
  unfold atI ixN
  rw [if_neg (by decide)]
  cases xs with
  | nil => rfl
  | cons x xs =>
    rw [if_pos (by simp; omega)]
    rw [List.getLast?_eq_getElem?]
    show (x :: xs)[((-1 : Int) + ((x :: xs).length : Nat)).toNat]? = _
    congr 1
    simp
    omega
def lastOne (ls : List Lap) : Bool := match ls.getLast? with
  | none => true
  | some l => decide (l.2 = 1)
def isPlanP (u : Int) (kvs : List (Int × Int)) (ls : List Lap) : Bool := ls.all (isLapP u) && (dEq (boxOf ls) kvs && lastOne ls)
section
variable {P : Program} {w : World} {K : PySem.W.Frag} {mg : Str → Option Value} {base : Heap}
inductive preBoxesOfPlan : List Dv → Dv → Prop
  | mk (ls : List Lap) : PlanZ ls → preBoxesOfPlan [.dat (.tuple (ls.map dLap))] (.new (boxOf ls))
theorem cl_boxes_of_plan (F : Df K mg "boxes_of_plan" sBoxesOfPlan pBoxesOfPlan) : Cl P w K mg base 1 "boxes_of_plan" 1 (SpD K preBoxesOfPlan) := by
  refine clD F scBoxesOfPlan (fun qs r h => by cases h; rfl) rfl fun f cdv A outer s H vs qs r Q E hr hp hq k => ?_
  obtain ⟨ls, hz, hz2⟩ := hp
  obtain ⟨v1, rfl, h1⟩ := hq.one
  refine sxSet (i := 1) nDict (fun v H1 e1 ⟨q, ev, hn, hq1⟩ => ?_) scBoxesOfPlan.nd
  subst ev
  refine sxForE rfl rfl (erV 0 rfl (pv 0)) (B := H) h1 (pg_tup rfl (pgs_cons (pg_name scBoxesOfPlan.nd (i := 2) rfl (.inl rfl)) (pgs_cons (pg_name scBoxesOfPlan.nd (i := 3) rfl (.inl rfl)) pgs_nil))) fun H2 e2 => ?_
  refine ⟨fun i σ' H' => ∃ a b c, σ' = [some v1, some (.ref q), a, b, c] ∧ Ex H H' ∧ H' q = some (dKV ((ls.take i).foldl (fun m l => addL l.2 m l.1) [])), ⟨none, none, none, rfl, e1.trans e2, e2 _ _ hq1⟩, fun i σ' H' ⟨_, _, _, _, e, _⟩ => e, ?_, ?_⟩
  · rintro i l x σ' H' hi ⟨a, b, c, rfl, e3, hv⟩ dx
    refine g2_run dx fun w1 w2 d1 d2 => ?_
    have hm : l ∈ ls := List.mem_of_getElem? hi
    obtain rfl := dp_int d2
    generalize hm0 : (ls.take i).foldl (fun m l => addL l.2 m l.1) [] = m0 at hv
    have hm0l : m0.length ≤ 1000 * 1000 := by
      have h1 := boxOf_len (ls.take i) [] fun l hl => hz2 l (List.mem_of_mem_take hl)
      have h2 := List.length_take_le' i ls
      rw [hm0] at h1
      simp only [List.length_nil] at h1
      have h3 : 1000 * (ls.take i).length ≤ 1000 * 1000 := Nat.mul_le_mul_left _ (Nat.le_trans h2 hz)
      omega
    refine sxForF (xs := l.1) (Dd := PyData.int) rfl rfl (xV 2 rfl d1 (pv 2)) (fun _ _ => rfl) (pg_name scBoxesOfPlan.nd (i := 4) rfl (.inl rfl)) fun H4 e4 => ?_
    refine ⟨fun j σ' H' => ∃ c, σ' = [some v1, some (.ref q), some w1, some (.int l.2), c] ∧ Ex H H' ∧ H' q = some (dKV (addL l.2 m0 (l.1.take j))), ⟨_, rfl, e3.trans e4, e4 _ _ hv⟩, ?_, ?_⟩
    · rintro j s' y σ' H' hj mx ⟨c, rfl, e5, hv5⟩ ds
      obtain rfl := dp_int ds
      refine g1_run (i := 4) ?_
      have hl5 : (addL l.2 m0 (l.1.take j)).length < sizeLine := by
        have h1 := addL_len l.2 (l.1.take j) m0
        have h2 := List.length_take_le' j l.1
        have h3 := hz2 l hm
        rw [sizeLine_eq]
        omega
      refine sxSetD (hu_of hr) (erV 1 rfl (pv 1)) hv5 hl5 (xV 4 rfl (.int s') (pv 4)) (xAdd (xGet (hu_of hr) (dV 1 rfl rfl (.inl hv5) (pv 1)) (xV 4 rfl (.int s') (pv 4)) xI ⟨rfl, rfl, rfl, rfl⟩) (xV 3 rfl (.int l.2) (pv 3))) (fun H6 e6 => sxNil ?_) rfl
      refine ⟨mx.trans ((Mx.of e6).trans (Mx.upd (e6 _ _ hv5) (fun _ => by simp) (fun _ _ => by simp))), _, rfl, ex_lst (e5.trans e6) hn, ?_⟩
      rw [upd_same, addL_take hj]
    · rintro σ' H' mx ⟨c, rfl, e5, hv5⟩
      refine sxNil ⟨_, _, _, rfl, e5, ?_⟩
      rw [List.take_length] at hv5
      rw [take_app hi, List.foldl_append, hm0]
      exact hv5
  · rintro σ' H' ⟨a, b, c, rfl, e3, hv⟩
    refine sxRet (erV 1 rfl (pv 1)) fun v H2 e2 ev => ?_
    subst ev
    rw [List.take_length] at hv
    exact k _ H2 (e3.trans e2) ⟨q, rfl, e2 _ _ hv⟩
inductive preIsPlan : List Dv → Dv → Prop
  | mk (u : Int) (kvs : List (Int × Int)) (ls : List Lap) : PlanZ ls → preIsPlan [.dat (.int u), .dic kvs, .dat (.tuple (ls.map dLap))] (.dat (.bool (isPlanP u kvs ls)))
theorem cl_is_plan (B : BM mg) (c_is_lap : Cl P w K mg base 2 "is_lap" 2 (SpD K preIsLap)) (c_boxes_of_plan : Cl P w K mg base 1 "boxes_of_plan" 1 (SpD K preBoxesOfPlan)) (F : Df K mg "is_plan" sIsPlan pIsPlan) : Cl P w K mg base 3 "is_plan" 3 (SpD K preIsPlan) := by
  refine clD F scIsPlan (fun qs r h => by cases h; rfl) rfl fun f cdv A outer s H vs qs r Q E hr hp hq k => ?_
  obtain ⟨u, kvs, ls, hz⟩ := hp
  obtain ⟨v1, v2, v3, rfl, h1, ⟨pb, rfl, h2⟩, h3⟩ := hq.three
  refine sxWhen (c0 := !ls.all (isLapP u)) (TX.is (WX.tx (wOr (tNotX (tBool (xIsTup rfl B.isinstance rfl B.tuple (xV 2 rfl h3 (pv 2))))) fun _ => wOr1 (tNotX (tBool (xAll (bs := ls.map (isLapP u)) rfl rfl B.all (EX.is (EN.ex (nLcA (xs := ls) (Dd := dLap) (E := fun l => .bool (isLapP u l)) (own := [("lap", 3)]) (g := gName 3) rfl scIsPlan.nd (srT (xV 2 rfl h3 (pv 2))) (blkOk_by (N := nIsPlan) (sc := defScope sIsPlan) (by decide +kernel)) (fun _ _ _ _ _ => (pg_name scIsPlan.nd (i := 3) rfl (by first | exact .inl rfl | exact .inr rfl))) (Nat.le_of_lt (small1000 hz.1)) (fun _ _ => rfl) (fun a ha v H2 e2 dv Q q => g1_run (i := 3) (q _ (by rfl) H2 (Ex.refl _) (fun _ _ _ _ _ => rfl) (fun hT _ _ _ _ _ => (xClD c_is_lap hr (aqCons (EX.toQ (xV 0 rfl (dp_ex e2 h1) (pv 0))) (aqCons (EX.toQ (xV 3 rfl dv (pv 3))) aqNil)) (.mk u a (hz.2 a ha)))))))) (by rw [List.map_map]; rfl))))))) (by rw [List.all_map]; rfl)) (fun hc H1 e1 => ?_) fun hc H1 e1 => ?_
  · refine sxRet xB fun v H2 e2 d => k v H2 (e1.trans e2) (dpIs d ?_)
    unfold isPlanP
    rw [Bool.not_eq_true'] at hc
    rw [hc]; rfl
  · have hall : ls.all (isLapP u) = true := by simpa using hc
    have h1 := dp_ex e1 h1
    have h2 := ex_rd e1 h2
    have h3 := dp_ex e1 h3
    refine sxRet (xAnd (c2 := lastOne ls) (xEqD hr.units0 (EQ.ed (EQ.new (xCl c_boxes_of_plan hr (aqCons (EX.toQ (xV 2 rfl h3 (pv 2))) aqNil) (.mk ls hz)))) (dV 1 rfl rfl h2 (pv 1))) fun _ => xOne (EX.is (xOr (c2 := lastOne ls) (xEq hr.units (xV 2 rfl h3 (pv 2)) (xTup aNil (by first | (rw [sizeLine_eq]; simp; done) | (rw [sizeLine_eq]; simp; omega) | assumption)) (shaped_plan ls) rfl) fun hn => ?_) ?_)) fun v H2 e2 d => k v H2 (e1.trans e2) (dpIs d ?_)
    · have hne : ls ≠ [] := of_decide_eq_false (by rw [← eqv_nil]; exact hn)
      obtain ⟨l, hl⟩ : ∃ l, ls.getLast? = some l := by
        cases h : ls.getLast? with
        | none => exact absurd (List.getLast?_eq_none_iff.mp h) hne
        | some l => exact ⟨l, rfl⟩
      refine xOne (EX.is (xEq hr.units (xIxA (xIxA (xV 2 rfl h3 (pv 2)) (xNeg xI) (.inl rfl) (show atI (ls.map dLap) (-1) = some (dLap l) by rw [atI_last, List.getLast?_map, hl]; rfl)) xI) xI rfl rfl) ?_)
      rw [eqv_int]
      unfold lastOne
      rw [hl]
    · rw [eqv_nil]
      cases h : decide (ls = []) with
      | false => rfl
      | true =>
        have := of_decide_eq_true h
        subst this
        rfl
    · unfold isPlanP
      rw [hall]
      rfl
end
end GX
end SGFn7
section SGFn8
set_option linter.all false
set_option maxRecDepth 100000
set_option maxHeartbeats 1000000
/-! the law's own: steps, laps -/
namespace GX
open PySem PySem.Spec PyProof.Rows L2
open Evl StX OL
section
variable {P : Program} {w : World} {K : PySem.W.Frag} {mg : Str → Option Value} {base : Heap}
/-! _law_step -/
theorem cl_law_step (F : Df K mg "_law_step" sLawStep pLawStep) : Cl P w K mg base 1 "_law_step" 2 (SpD K preStepOf) := by
  refine clD F scLawStep (fun qs r h => by cases h; rfl) rfl fun f cdv A outer s H vs qs r Q E hr hp hq k => ?_
  obtain ⟨u, c, x, hu1, hu2⟩ := hp
  obtain ⟨v1, v2, rfl, h1, h2⟩ := hq.two
  refine sxPar (i := 2) (j := 3) rfl scLawStep.nd (xIxA (xV 0 rfl h1 (pv 0)) xI) (xSub (xMul (xIxA (xV 0 rfl h1 (pv 0)) xI) (xIxA (xV 0 rfl h1 (pv 0)) xI) (by first | exact .inl ⟨by omega, by omega⟩ | exact .inr ⟨by omega, by omega⟩ | assumption)) (xV 1 rfl h2 (pv 1))) (fun _ _ _ e d => dp_ex e d) (fun u1 u2 H1 e1 d1 d2 => ?_)
  · have h1 := dp_ex e1 h1
    have h2 := dp_ex e1 h2
    unfold stepP at k
    by_cases h : u - 1 ≤ u * c - x
    · rw [if_pos h] at k
      refine sxRet (xIfT (ttGe (xV 3 rfl d2 (pv 3)) (xSub (xV 2 rfl d1 (pv 2)) xI)) (fun _ => (xTup (aCons xS (aCons (xMod (xV 1 rfl h2 (pv 1)) (xV 2 rfl d1 (pv 2)) (by omega)) aNil)) (by first | (rw [sizeLine_eq]; simp; done) | (rw [sizeLine_eq]; simp; omega) | assumption))) fun z => absurd h (by simpa using z)) fun v H2 e2 d => k v H2 (e1.trans e2) d
    · rw [if_neg h] at k
      refine sxRet (xIfT (ttGe (xV 3 rfl d2 (pv 3)) (xSub (xV 2 rfl d1 (pv 2)) xI)) (fun z => absurd (by simpa using z) h) fun _ => (xTup (aCons xS (aCons (xSub (xV 2 rfl d1 (pv 2)) (xV 3 rfl d2 (pv 3))) aNil)) (by first | (rw [sizeLine_eq]; simp; done) | (rw [sizeLine_eq]; simp; omega) | assumption))) fun v H2 e2 d => k v H2 (e1.trans e2) d
/-! _law_small_laps -/
def smallP (t w : Int) : Int := t / 2 + t % 2 + (max 0 (w - t / 2 - 2 * (t % 2)) + 3) / 4
inductive preSmall : List Dv → Dv → Prop
  | mk (t w : Int) : preSmall [.dat (.int t), .dat (.int w)] (.dat (.int (smallP t w)))
theorem cl_law_small_laps (B : BM mg) (F : Df K mg "_law_small_laps" sLawSmallLaps pLawSmallLaps) : Cl P w K mg base 1 "_law_small_laps" 2 (SpD K preSmall) := by
  refine clD F scLawSmallLaps (fun qs r h => by cases h; rfl) rfl fun f cdv A outer s H vs qs r Q E hr hp hq k => ?_
  obtain ⟨t, w'⟩ := hp
  obtain ⟨v1, v2, rfl, h1, h2⟩ := hq.two
  refine sxPar (i := 2) (j := 3) rfl scLawSmallLaps.nd (xDiv (xV 0 rfl h1 (pv 0)) xI (by first | exact ⟨by omega, by omega⟩ | assumption)) (xMod (xV 0 rfl h1 (pv 0)) xI (by omega)) (fun _ _ _ e d => dp_ex e d) (fun u1 u2 H1 e1 d1 d2 => ?_)
  have h1 := dp_ex e1 h1
  have h2 := dp_ex e1 h2
  refine sxSet (i := 4) (xMax2 rfl rfl B.max xI (xSub (xSub (xV 1 rfl h2 (pv 1)) (xV 2 rfl d1 (pv 2))) (xMul xI (xV 3 rfl d2 (pv 3)) (by first | exact .inl ⟨by omega, by omega⟩ | exact .inr ⟨by omega, by omega⟩ | assumption)))) (fun v3 H2 e2 d3 => ?_) scLawSmallLaps.nd
  have h1 := dp_ex e2 h1
  have h2 := dp_ex e2 h2
  have d1 := dp_ex e2 d1
  have d2 := dp_ex e2 d2
  refine sxRet (xAdd (xAdd (xV 2 rfl d1 (pv 2)) (xV 3 rfl d2 (pv 3))) (xDiv (xAdd (xV 4 rfl d3 (pv 4)) xI) xI (by first | exact ⟨by omega, by omega⟩ | assumption))) fun v H3 e3 d => k v H3 (e1.trans (e2.trans e3)) d
/-! _law_laps -/
/-- boxes by size -/
structure Bx where
  b0 : Int
  b1 : Int
  b2 : Int
  b3 : Int
  b4 : Int
  b5 : Int
  b6 : Int
  b7 : Int
  b8 : Int
abbrev Bx.l (b : Bx) : List Int := [b.b0, b.b1, b.b2, b.b3, b.b4, b.b5, b.b6, b.b7, b.b8]
abbrev Bx.d (b : Bx) : PyData := .list (b.l.map .int)
def lawLapsP (u : Int) (b : Bx) : Int :=
  if u < 8 then b.b3 + (b.b2 + 1) / 2 else
    let lone := max 0 (b.b5 - b.b3)
    let threes := max 0 (b.b3 - b.b5)
    let twos := max 0 (b.b2 - b.b6 - lone)
    let laps := b.b7 + b.b6 + b.b5 + b.b4 / 2
    if b.b4 % 2 = 0 then laps + smallP threes twos else laps + 1 + min (smallP threes (max 0 (twos - 2))) (smallP (max 0 (threes - 1)) twos)
inductive preLaps : List Dv → Dv → Prop
  | mk (u : Int) (b : Bx) : preLaps [.dat (.int u), .dat b.d] (.dat (.int (lawLapsP u b)))
theorem cl_law_laps (B : BM mg) (c_law_small_laps : Cl P w K mg base 1 "_law_small_laps" 2 (SpD K preSmall)) (F : Df K mg "_law_laps" sLawLaps pLawLaps) : Cl P w K mg base 2 "_law_laps" 2 (SpD K preLaps) := by
  refine clD F scLawLaps (fun qs r h => by cases h; rfl) rfl fun f cdv A outer s H vs qs r Q E hr hp hq k => ?_
  obtain ⟨u, b⟩ := hp
  obtain ⟨v1, v2, rfl, h1, h2⟩ := hq.two
  unfold lawLapsP at k
  refine sxWhen (ttLt (xV 0 rfl h1 (pv 0)) xI) (fun hc H1 e1 => ?_) fun hc H1 e1 => ?_
  · rw [if_pos (of_decide_eq_true hc)] at k
    have h1 := dp_ex e1 h1
    have h2 := dp_ex e1 h2
    refine sxRet (xAdd (xIxA (xV 1 rfl h2 (pv 1)) xI) (xDiv (xAdd (xIxA (xV 1 rfl h2 (pv 1)) xI) xI) xI (by first | exact ⟨by omega, by omega⟩ | assumption))) fun v H2 e2 d => k v H2 (e1.trans e2) d
  rw [if_neg (of_decide_eq_false hc)] at k
  have h1 := dp_ex e1 h1
  have h2 := dp_ex e1 h2
  refine sxSet (i := 2) (xMax2 rfl rfl B.max xI (xSub (xIxA (xV 1 rfl h2 (pv 1)) xI) (xIxA (xV 1 rfl h2 (pv 1)) xI))) (fun v3 H2 e2 d3 => ?_) scLawLaps.nd
  have h1 := dp_ex e2 h1
  have h2 := dp_ex e2 h2
  refine sxSet (i := 3) (xMax2 rfl rfl B.max xI (xSub (xIxA (xV 1 rfl h2 (pv 1)) xI) (xIxA (xV 1 rfl h2 (pv 1)) xI))) (fun v4 H3 e3 d4 => ?_) scLawLaps.nd
  have h1 := dp_ex e3 h1
  have h2 := dp_ex e3 h2
  have d3 := dp_ex e3 d3
  refine sxSet (i := 4) (xMax2 rfl rfl B.max xI (xSub (xSub (xIxA (xV 1 rfl h2 (pv 1)) xI) (xIxA (xV 1 rfl h2 (pv 1)) xI)) (xV 2 rfl d3 (pv 2)))) (fun v5 H4 e4 d5 => ?_) scLawLaps.nd
  have h1 := dp_ex e4 h1
  have h2 := dp_ex e4 h2
  have d3 := dp_ex e4 d3
  have d4 := dp_ex e4 d4
  refine sxSet (i := 5) (xAdd (xAdd (xAdd (xIxA (xV 1 rfl h2 (pv 1)) xI) (xIxA (xV 1 rfl h2 (pv 1)) xI)) (xIxA (xV 1 rfl h2 (pv 1)) xI)) (xDiv (xIxA (xV 1 rfl h2 (pv 1)) xI) xI (by first | exact ⟨by omega, by omega⟩ | assumption))) (fun v6 H5 e5 d6 => ?_) scLawLaps.nd
  have h1 := dp_ex e5 h1
  have h2 := dp_ex e5 h2
  have d3 := dp_ex e5 d3
  have d4 := dp_ex e5 d4
  have d5 := dp_ex e5 d5
  have eh : Ex H H5 := e1.trans (e2.trans (e3.trans (e4.trans e5)))
  refine sxWhen (TX.is (ttEq hr.units (xMod (xIxA (xV 1 rfl h2 (pv 1)) xI) xI (by omega)) xI (by first | rfl | decide +kernel | exact shaped_tI _ | exact shaped_lI _ | exact shaped_word _ | exact shaped_wi _ _ | assumption) (by first | rfl | decide +kernel | exact shaped_tI _ | exact shaped_lI _ | exact shaped_word _ | exact shaped_wi _ _ | assumption)) (eqv_int _ _)) (fun hc H6 e6 => ?_) fun hc H6 e6 => ?_
  · rw [if_pos (of_decide_eq_true hc)] at k
    have h1 := dp_ex e6 h1
    have h2 := dp_ex e6 h2
    have d3 := dp_ex e6 d3
    have d4 := dp_ex e6 d4
    have d5 := dp_ex e6 d5
    have d6 := dp_ex e6 d6
    refine sxRet (xAdd (xV 5 rfl d6 (pv 5)) (xClD c_law_small_laps hr (aqCons (EX.toQ (xV 3 rfl d4 (pv 3))) (aqCons (EX.toQ (xV 4 rfl d5 (pv 4))) aqNil)) (.mk _ _))) fun v H7 e7 d => k v H7 (eh.trans (e6.trans e7)) d
  rw [if_neg (of_decide_eq_false hc)] at k
  have h1 := dp_ex e6 h1
  have h2 := dp_ex e6 h2
  have d3 := dp_ex e6 d3
  have d4 := dp_ex e6 d4
  have d5 := dp_ex e6 d5
  have d6 := dp_ex e6 d6
  refine sxSet (i := 6) (nLst (aCons (xClD c_law_small_laps hr (aqCons (EX.toQ (xV 3 rfl d4 (pv 3))) (aqCons (EX.toQ (xMax2 rfl rfl B.max xI (xSub (xV 4 rfl d5 (pv 4)) xI))) aqNil)) (.mk _ _)) aNil) (by simp [sizeLine_eq])) (fun v7 H7 e7 ⟨q, ev, hn, xs, hq1, hq2⟩ => ?_) scLawLaps.nd
  subst ev
  have h1 := dp_ex e7 h1
  have h2 := dp_ex e7 h2
  have d3 := dp_ex e7 d3
  have d4 := dp_ex e7 d4
  have d5 := dp_ex e7 d5
  have d6 := dp_ex e7 d6
  refine sxAppend (erV 6 rfl (pv 6)) hq1 (by rw [dpAll_len hq2]; simp [sizeLine_eq]) (xClD c_law_small_laps hr (aqCons (EX.toQ (xMax2 rfl rfl B.max xI (xSub (xV 3 rfl d4 (pv 3)) xI))) (aqCons (EX.toQ (xV 4 rfl d5 (pv 4))) aqNil)) (.mk _ _)) fun z H8 e8 dz => ?_
  have hq8 := e8 _ _ hq1
  have hall := app_all hq8 (dpAll_ex e8 hq2) dz rfl rfl
  refine sxRet (xAdd (xAdd (xV 5 rfl (show Dp K _ v6 (.int _) by rw [dp_int d6]; exact .int _) (pv 5)) xI) (xMinL (ns := [smallP _ _, smallP _ _]) rfl rfl B.min (EL.ex (lV 6 rfl rfl ⟨_, upd_same, hall⟩ (pv 6))) (by simp))) fun v H9 e9 d => k v H9 ((ex_lst (eh.trans (e6.trans (e7.trans e8))) (fresh_back (eh.trans e6) hn)).trans e9) (dpIs d ?_)
  rfl
end
end GX
end SGFn8
section SGFn9
set_option linter.all false
set_option maxRecDepth 100000
set_option maxHeartbeats 1000000
/-! the law's own: boxes -/
namespace GX
open PySem PySem.Spec PyProof.Rows L2
open Evl StX OL
def addV (v : List Int) (s n : Int) : List Int := v.set s.toNat (v.getD s.toNat 0 + n)
theorem addV_len (v : List Int) (s n : Int) : (addV v s n).length = v.length := List.length_set
def vecP (u c : Int) (cs : List (Int × Int)) : List Int := cs.foldl (fun v p => if isBox u c p = true then addV v (stepP u c p.1).2 p.2 else v) (List.replicate 9 0)
theorem vec_len (u c : Int) : ∀ (cs : List (Int × Int)) (v : List Int), (cs.foldl (fun v p => if isBox u c p = true then addV v (stepP u c p.1).2 p.2 else v) v).length = v.length
  | [], v => rfl
  | p :: cs, v => by
    rw [List.foldl_cons, vec_len u c cs]
    split
    · exact addV_len _ _ _
    · rfl
def Bx.of (v : List Int) : Bx := ⟨v.getD 0 0, v.getD 1 0, v.getD 2 0, v.getD 3 0, v.getD 4 0, v.getD 5 0, v.getD 6 0, v.getD 7 0, v.getD 8 0⟩
theorem Bx.of_l {v : List Int} (h : v.length = 9) : (Bx.of v).l = v := by
  match v, h with
  | [_, _, _, _, _, _, _, _, _], _ => rfl
def bxP (u c : Int) (cs : List (Int × Int)) : Bx := Bx.of (vecP u c cs)
theorem bxP_l (u c : Int) (cs : List (Int × Int)) : (bxP u c cs).l = vecP u c cs := Bx.of_l (by unfold vecP; rw [vec_len]; rfl)
theorem ixN_pos {n : Nat} {i : Int} (h : 0 ≤ i) (h2 : i < n) : ixN n i = some i.toNat := by
  unfold ixN
  rw [if_pos h, if_pos h2]
theorem atI_pos {α : Type} {xs : List α} {i : Int} (h : 0 ≤ i) (h2 : i < xs.length) : atI xs i = xs[i.toNat]? := by
  unfold atI
  rw [ixN_pos h h2]
  rfl
theorem atI_ints {v : List Int} {i : Int} (h : 0 ≤ i) (h2 : i < v.length) : atI (v.map PyData.int) i = some (.int (v.getD i.toNat 0)) := by
  rw [atI_pos h (by rw [List.length_map]; exact h2), List.getElem?_map, List.getD_eq_getElem?_getD]
  have : i.toNat < v.length := by omega
  rw [List.getElem?_eq_getElem this]
  rfl
theorem box_size {u c : Int} {p : Int × Int} (h : isBox u c p = true) : 2 ≤ (stepP u c p.1).2 ∧ (stepP u c p.1).2 < u := by
  unfold isBox at h
  rw [Bool.and_eq_true] at h
  have h2 := of_decide_eq_true h.2
  refine ⟨?_, h2⟩
  have h1 := h.1
  unfold stepP at h1 ⊢
  split at h1
  · cases h1
  · rename_i hh
    rw [if_neg hh]
    show 2 ≤ u - (u * c - p.1)
    omega
theorem singles_cons (u c : Int) (cs : List (Int × Int)) (p : Int × Int) : singlesP u c (cs ++ [p]) = singlesP u c cs + (if isOne u c p = true then p.2 else 0) := by
  unfold singlesP
  rw [List.filter_append, List.map_append, List.sum_append]
  cases h : isOne u c p with
  | true => simp [List.filter_cons, h]
  | false => simp [List.filter_cons, h]
section
variable {P : Program} {w : World} {K : PySem.W.Frag} {mg : Str → Option Value} {base : Heap}
inductive preLawBoxes : List Dv → Dv → Prop
  | mk (u c : Int) (cs : List (Int × Int)) : OkR u c cs → u ≤ 8 → preLawBoxes [.dat (dPr u c), .dat (.tuple (cs.map dPp))] (.dat (.tuple [(bxP u c cs).d, .int (singlesP u c cs)]))
theorem cl_law_boxes (B : BM mg) (c_law_step : Cl P w K mg base 1 "_law_step" 2 (SpD K preStepOf)) (F : Df K mg "_law_boxes" sLawBoxes pLawBoxes) : Cl P w K mg base 2 "_law_boxes" 2 (SpD K preLawBoxes) := by
  refine clD F scLawBoxes (fun qs r h => by cases h; rfl) rfl fun f cdv A outer s H vs qs r Q E hr hp hq k => ?_
  obtain ⟨u, c, cs, ok, hu8⟩ := hp
  obtain ⟨v1, v2, rfl, h1, h2⟩ := hq.two
  refine sxPar (i := 2) (j := 3) rfl scLawBoxes.nd (nRep (EN.el (nLst (aCons xI aNil) (by simp [sizeLine_eq]))) xI (by decide) (by decide) (by simp [sizeLine_eq])) xI (fun v H1 H2 e ⟨p, e1, e2, e3⟩ => ⟨p, e1, e2, e3.ex e⟩) fun w1 w2 H1 e1 ⟨q, ew, hn, vs, hq1, hq2⟩ d2 => ?_
  subst ew
  obtain rfl := dp_int d2
  have hvs := dpAll_ints (ns := List.replicate 9 0) hq2
  subst hvs
  refine sxForE rfl rfl (erV 1 rfl (pv 1)) (B := H) h2 (pg_tup rfl (pgs_cons (pg_name scLawBoxes.nd (i := 4) rfl (.inl rfl)) (pgs_cons (pg_name scLawBoxes.nd (i := 5) rfl (.inl rfl)) pgs_nil))) fun H2 e2 => ?_
  refine ⟨fun i σ' H' => ∃ a b c' d, σ' = [some v1, some v2, some (.ref q), some (.int (singlesP u c (cs.take i))), a, b, c', d] ∧ Ex H H' ∧ H' q = some (.lst ((vecP u c (cs.take i)).map V.int)), ⟨none, none, none, none, rfl, e1.trans e2, e2 _ _ hq1⟩, fun i σ' H' ⟨_, _, _, _, _, e, _⟩ => e, ?_, ?_⟩
  · rintro i p x σ' H' hi ⟨a, b, c', d, rfl, e3, hv⟩ dx
    refine g2_run dx fun w1 w2 d1 d2 => ?_
    have hm : p ∈ cs := List.mem_of_getElem? hi
    have h1 := dp_ex e3 h1
    have hlen : (vecP u c (cs.take i)).length = 9 := by unfold vecP; rw [vec_len]; rfl
    have hnext : vecP u c (cs.take (i + 1)) = if isBox u c p = true then addV (vecP u c (cs.take i)) (stepP u c p.1).2 p.2 else vecP u c (cs.take i) := by
      unfold vecP
      rw [take_app hi, List.foldl_append]
      rfl
    have hsing : singlesP u c (cs.take (i + 1)) = singlesP u c (cs.take i) + (if isOne u c p = true then p.2 else 0) := by rw [take_app hi, singles_cons]
    obtain rfl := dp_int d2
    refine sxUn2 (i := 6) (j := 7) rfl scLawBoxes.nd (xClD c_law_step hr (aqCons (EX.toQ (xV 0 rfl h1 (pv 0))) (aqCons (EX.toQ (xV 4 rfl d1 (pv 4))) aqNil)) (.mk u c p.1 ok.u0 ok.u1)) fun w3 w4 H4 e4 d3 d4 => ?_
    have h1 := dp_ex e4 h1
    refine sxIf (TX.is (WX.tx (wAnd (ttEq hr.units (xV 6 rfl d3 (pv 6)) xS (by first | rfl | decide +kernel | exact shaped_tI _ | exact shaped_lI _ | exact shaped_word _ | exact shaped_wi _ _ | assumption) (by first | rfl | decide +kernel | exact shaped_tI _ | exact shaped_lI _ | exact shaped_word _ | exact shaped_wi _ _ | assumption)) fun _ => (wAnd1 (ttLt (xV 7 rfl d4 (pv 7)) (xIxA (xV 0 rfl h1 (pv 0)) xI))))) (c' := isBox u c p) (by rw [eqv_tight]; rfl)) fun H5 e5 => ⟨fun hb => ?_, fun hb => ?_⟩
    · have hs := box_size hb
      rw [if_pos hb] at hnext
      have hv5 := (e4.trans e5) _ _ hv
      have d4 := dp_ex e5 d4
      have hone : isOne u c p = false := by
        unfold isBox at hb
        unfold isOne
        cases h : (stepP u c p.1).1 with
        | true => rw [h] at hb; cases hb
        | false => rfl
      rw [hone] at hsing
      refine sxSetL (erV 2 rfl (pv 2)) hv5 (xV 7 rfl d4 (pv 7)) (by rw [List.length_map, hlen]; exact ixN_pos (by omega) (by omega)) (R := fun v _ => v = .int ((vecP u c (cs.take i)).getD (stepP u c p.1).2.toNat 0 + p.2)) (ER.imp (R := fun v H' => Dp K H' v (.int ((vecP u c (cs.take i)).getD (stepP u c p.1).2.toNat 0 + p.2))) (xAdd (xIxA (EL.ex (lV 2 rfl rfl ⟨_, hv5, ints_dpAll (vecP u c (cs.take i))⟩ (pv 2))) (xV 7 rfl d4 (pv 7)) (.inr rfl) (atI_ints (by omega) (by rw [hlen]; omega))) (xV 5 rfl (.int p.2) (pv 5))) fun v H' _ d => dp_int d) (fun v H6 e6 ev => sxNil (sxNil ?_)) (hm1 := fun _ _ _ _ h => h)
      subst ev
      refine ⟨some w1, some (.int p.2), some w3, some w4, ?_, ex_lst (e3.trans (e4.trans (e5.trans e6))) hn, ?_⟩
      · rw [hsing]; simp
      · rw [upd_same, hnext]
        unfold addV
        rw [List.map_set]
    · rw [if_neg (by rw [hb]; decide)] at hnext
      have hv5 := (e4.trans e5) _ _ hv
      have d3 := dp_ex e5 d3
      have d4 := dp_ex e5 d4
      refine sxWhen (TX.is (WX.tx (wAnd (ttEq hr.units (xV 6 rfl d3 (pv 6)) xS (by first | rfl | decide +kernel | exact shaped_tI _ | exact shaped_lI _ | exact shaped_word _ | exact shaped_wi _ _ | assumption) (by first | rfl | decide +kernel | exact shaped_tI _ | exact shaped_lI _ | exact shaped_word _ | exact shaped_wi _ _ | assumption)) fun _ => (wAnd1 (ttEq hr.units (xV 7 rfl d4 (pv 7)) xI (by first | rfl | decide +kernel | exact shaped_tI _ | exact shaped_lI _ | exact shaped_word _ | exact shaped_wi _ _ | assumption) (by first | rfl | decide +kernel | exact shaped_tI _ | exact shaped_lI _ | exact shaped_word _ | exact shaped_wi _ _ | assumption))))) (c' := isOne u c p) (by rw [eqv_free, eqv_int]; rfl)) (fun ho H6 e6 => ?_) fun ho H6 e6 => sxNil (sxNil ?_)
      · rw [if_pos ho] at hsing
        refine sxSet (i := 3) (xAdd (xV 3 rfl (.int _) (pv 3)) (xV 5 rfl (.int p.2) (pv 5))) (fun v H7 e7 dv => sxNil (sxNil (sxNil ?_))) scLawBoxes.nd
        obtain rfl := dp_int dv
        refine ⟨some w1, some (.int p.2), some w3, some w4, by rw [hsing]; rfl, e3.trans (e4.trans (e5.trans (e6.trans e7))), ?_⟩
        rw [hnext]
        exact (e6.trans e7) _ _ hv5
      · rw [ho] at hsing
        refine ⟨some w1, some (.int p.2), some w3, some w4, by rw [hsing]; simp, e3.trans (e4.trans (e5.trans e6)), ?_⟩
        rw [hnext]
        exact e6 _ _ hv5
  · rintro σ' H' ⟨a, b, c', d, rfl, e3, hv⟩
    rw [List.take_length] at hv ⊢
    refine sxRet (xTup (aCons (EL.ex (lV 2 rfl rfl ⟨_, hv, ints_dpAll (vecP u c cs)⟩ (pv 2))) (aCons (xV 3 rfl (.int _) (pv 3)) aNil)) (by simp [sizeLine_eq])) fun v H2 e2 d => k v H2 (e3.trans e2) (dpIs d ?_)
    unfold Bx.d
    rw [bxP_l]
end
end GX
end SGFn9
section SGFn10
set_option linter.all false
set_option maxRecDepth 100000
set_option maxHeartbeats 1000000
/-! the law's own: plans -/
namespace GX
open PySem PySem.Spec PyProof.Rows L2
open Evl StX OL
section
variable {P : Program} {w : World} {K : PySem.W.Frag} {mg : Str → Option Value} {base : Heap}
/-! _law_is_whole -/
inductive preWhole : List Dv → Dv → Prop
  | mk (n : Int) : preWhole [.dat (.int n)] (.dat (.bool true))
theorem cl_law_is_whole (B : BM mg) (F : Df K mg "_law_is_whole" sLawIsWhole pLawIsWhole) : Cl P w K mg base 1 "_law_is_whole" 1 (SpD K preWhole) := by
  refine clD F scLawIsWhole (fun qs r h => by cases h; rfl) rfl fun f cdv A outer s H vs qs r Q E hr hp hq k => ?_
  obtain ⟨n⟩ := hp
  obtain ⟨v1, rfl, h1⟩ := hq.one
  refine sxRet (xAnd (xIsInt rfl B.isinstance rfl B.int (xV 0 rfl h1 (pv 0))) fun _ => (xOne (xNot (xIsBool rfl B.isinstance rfl B.bool (xV 0 rfl h1 (pv 0)))))) fun v H2 e2 d => k v H2 e2 d
/-! _law_plan_waste -/
theorem cl_law_plan_waste (B : BM mg) (F : Df K mg "_law_plan_waste" sLawPlanWaste pLawPlanWaste) : Cl P w K mg base 1 "_law_plan_waste" 2 (SpD K preWasteOf) := by
  refine clD F scLawPlanWaste (fun qs r h => by cases h; rfl) rfl fun f cdv A outer s H vs qs r Q E hr hp hq k => ?_
  obtain ⟨u, ls, hu1, hu2, hz, hls⟩ := hp
  obtain ⟨v1, v2, rfl, h1, h2⟩ := hq.two
  refine sxRet (xSumA (ns := ls.dropLast.map fun l : Lap => l.2 * (u - l.1.sum)) B.sum rfl rfl (EN.ex (nLcA (xs := ls.dropLast) (Dd := dLap) (E := fun l => .int (l.2 * (u - l.1.sum))) (own := [("_law_sizes", 2), ("_law_number_here", 3)]) (g := gTup _ 2 (gCons (gName 2) (gCons (gName 3) gNil))) rfl scLawPlanWaste.nd (srT (EX.is (xSlT (xV 1 rfl h2 (pv 1)) oNone (oSome (xNeg xI))) (by rw [cutA_map, cutA_init]))) (blkOk_by (N := nLawPlanWaste) (sc := defScope sLawPlanWaste) (by decide +kernel)) (fun _ _ _ _ _ => (pg_tup rfl (pgs_cons (pg_name scLawPlanWaste.nd (i := 2) rfl (by first | exact .inl rfl | exact .inr rfl)) (pgs_cons (pg_name scLawPlanWaste.nd (i := 3) rfl (by first | exact .inl rfl | exact .inr rfl)) pgs_nil)))) (by rw [List.length_dropLast, sizeLine_eq]; omega) (fun _ _ => rfl) (fun a ha v H2 e2 dv Q q => by
    have hb := hls a (List.dropLast_subset _ ha)
    exact g2_run dv fun u__law_sizes u__law_number_here d__law_sizes d__law_number_here => q _ (by rfl) H2 (Ex.refl _) (fun _ _ _ _ _ => rfl) (fun hT _ _ _ _ _ => (xMul (xV 3 rfl d__law_number_here (pv 3)) (xSub (xV 0 rfl (dp_ex e2 h1) (pv 0)) (xSumA B.sum rfl rfl (xV 2 rfl d__law_sizes (pv 2)))) (by first | exact .inl ⟨by omega, by omega⟩ | exact .inr ⟨by omega, by omega⟩ | assumption)))))) (.inr (by rw [List.map_map]; rfl))) fun v H2 e2 d => k v H2 e2 d
/-! _law_is_lap -/
theorem cl_law_is_lap (B : BM mg) (c_law_is_whole : Cl P w K mg base 1 "_law_is_whole" 1 (SpD K preWhole)) (F : Df K mg "_law_is_lap" sLawIsLap pLawIsLap) : Cl P w K mg base 2 "_law_is_lap" 2 (SpD K preIsLap) := by
  refine clD F scLawIsLap (fun qs r h => by cases h; rfl) rfl fun f cdv A outer s H vs qs r Q E hr hp hq k => ?_
  obtain ⟨u, l, hz⟩ := hp
  obtain ⟨v1, v2, rfl, h1, h2⟩ := hq.two
  have fals : isLapP u l = false → ∀ v H2, Ex H H2 → Dp K H2 v (.bool false) → Q v H2 := fun hb v H2 e2 d => k v H2 e2 (by rw [hb]; exact d)
  refine sxWhen (c0 := false) (TX.is (WX.tx (wOr (tNotX (tBool (xIsTup rfl B.isinstance rfl B.tuple (xV 1 rfl h2 (pv 1))))) fun _ => (wOr1 (ttNe hr.units (xLenA B.len rfl (xV 1 rfl h2 (pv 1))) xI (by first | rfl | decide +kernel | exact shaped_tI _ | exact shaped_lI _ | exact shaped_word _ | exact shaped_wi _ _ | assumption) (by first | rfl | decide +kernel | exact shaped_tI _ | exact shaped_lI _ | exact shaped_word _ | exact shaped_wi _ _ | assumption))))) ?_) (fun hc _ _ => by cases hc) fun _ H1 e1 => ?_
  · show (!true || !PyData.eqv (.int 2) (.int 2)) = _
    rw [eqv_int]; rfl
  have h1 := dp_ex e1 h1
  have h2 := dp_ex e1 h2
  refine sxWhen (c0 := decide (l.1 = [])) (TX.is (WX.tx (wOr (tNotX (tBool (xIsTup rfl B.isinstance rfl B.tuple (xIxA (xV 1 rfl h2 (pv 1)) xI)))) fun _ => (wOr1 (ttEq hr.units (xIxA (xV 1 rfl h2 (pv 1)) xI) (xTup aNil (by first | (rw [sizeLine_eq]; simp; done) | (rw [sizeLine_eq]; simp; omega) | assumption)) (by first | rfl | decide +kernel | exact shaped_tI _ | exact shaped_lI _ | exact shaped_word _ | exact shaped_wi _ _ | assumption) (by first | rfl | decide +kernel | exact shaped_tI _ | exact shaped_lI _ | exact shaped_word _ | exact shaped_wi _ _ | assumption))))) ?_) (fun hc H2 e2 => ?_) fun hc H2 e2 => ?_
  · show (!true || PyData.eqv (tI l.1) (tI [])) = _
    rw [eqv_tI]; rfl
  · refine sxRet xB fun v H3 e3 d => fals ?_ v H3 (e1.trans (e2.trans e3)) d
    have h : l.1 = [] := of_decide_eq_true hc
    unfold isLapP
    simp [h]
  have hne : l.1 ≠ [] := of_decide_eq_false hc
  have h1 := dp_ex e2 h1
  have h2 := dp_ex e2 h2
  refine sxWhen (c0 := false) (TX.is (tNotX (tBool (xAll (bs := l.1.map fun s => true) rfl rfl B.all (EX.is (EN.ex (nLcA (xs := l.1) (Dd := PyData.int) (E := fun s => .bool true) (own := [("_law_size_here", 2)]) (g := gName 2) rfl scLawIsLap.nd (srT (xIxA (ds := [tI l.1, .int l.2]) (xV 1 rfl h2 (pv 1)) xI (.inl rfl))) (blkOk_by (N := nLawIsLap) (sc := defScope sLawIsLap) (by decide +kernel)) (fun _ _ _ _ _ => (pg_name scLawIsLap.nd (i := 2) rfl (by first | exact .inl rfl | exact .inr rfl))) (Nat.le_of_lt (small1000 hz)) (fun _ _ => rfl) (fun a ha v H2 e2 dv Q q => g1_run (i := 2) (q _ (by rfl) H2 (Ex.refl _) (fun _ _ _ _ _ => rfl) (fun hT _ _ _ _ _ => (xClD c_law_is_whole hr (aqCons (EX.toQ (xV 2 rfl dv (pv 2))) aqNil) (.mk _))))))) (by rw [List.map_map]; rfl))))) (by rw [List.all_map]; simp)) (fun hc _ _ => by cases hc) fun _ H3 e3 => ?_
  have h1 := dp_ex e3 h1
  have h2 := dp_ex e3 h2
  refine sxWhen (c0 := decide (l.2 < 1)) (TX.is (WX.tx (wOr (tNotX (tBool (xClD c_law_is_whole hr (aqCons (EX.toQ (xIxA (xV 1 rfl h2 (pv 1)) xI)) aqNil) (.mk _)))) fun _ => (wOr1 (ttLt (xIxA (xV 1 rfl h2 (pv 1)) xI) xI)))) rfl) (fun hc H4 e4 => ?_) fun hc H4 e4 => ?_
  · refine sxRet xB fun v H5 e5 d => fals ?_ v H5 (e1.trans (e2.trans (e3.trans (e4.trans e5)))) d
    have h : l.2 < 1 := of_decide_eq_true hc
    have h2 : decide (1 ≤ l.2) = false := by simp; omega
    unfold isLapP
    rw [h2]; simp
  have hl2 : decide (1 ≤ l.2) = true := by
    have h : ¬ l.2 < 1 := of_decide_eq_false hc
    simp; omega
  have h1 := dp_ex e4 h1
  have h2 := dp_ex e4 h2
  refine sxWhen (c0 := (!l.1.all fun s => isIntP s 2 (some (u - 1))) || !decide (l.1.sum ≤ u)) (TX.is (WX.tx (wOr (tNotX (tBool (xAll (bs := l.1.map fun s => decide (1 < s) && decide (s < u)) rfl rfl B.all (EX.is (EN.ex (nLcA (xs := l.1) (Dd := PyData.int) (E := fun s => .bool (decide (1 < s) && decide (s < u))) (own := [("_law_size_here", 2)]) (g := gName 2) rfl scLawIsLap.nd (srT (xIxA (ds := [tI l.1, .int l.2]) (xV 1 rfl h2 (pv 1)) xI (.inl rfl))) (blkOk_by (N := nLawIsLap) (sc := defScope sLawIsLap) (by decide +kernel)) (fun _ _ _ _ _ => (pg_name scLawIsLap.nd (i := 2) rfl (by first | exact .inl rfl | exact .inr rfl))) (Nat.le_of_lt (small1000 hz)) (fun _ _ => rfl) (fun a ha v H2 e2 dv Q q => g1_run (i := 2) (q _ (by rfl) H2 (Ex.refl _) (fun _ _ _ _ _ => rfl) (fun hT _ _ _ _ _ => (xLtLt xI (xV 2 rfl dv (pv 2)) (xV 0 rfl (dp_ex e2 h1) (pv 0)))))))) (by rw [List.map_map]; rfl))))) fun _ => wOr1 (ttGt (xSumA B.sum rfl rfl (xIxA (xV 1 rfl h2 (pv 1)) xI)) (xV 0 rfl h1 (pv 0))))) ?_) (fun hc H5 e5 => ?_) fun hc H5 e5 => ?_
  · rw [List.all_map]
    have e : (l.1.all (id ∘ fun s => decide (1 < s) && decide (s < u))) = l.1.all fun s => isIntP s 2 (some (u - 1)) := by
      congr 1
      funext s
      unfold isIntP
      by_cases h1 : 1 < s <;> by_cases h2 : s < u <;> simp [h1, h2] <;> omega
    have e2 : decide (u < l.1.sum) = !decide (l.1.sum ≤ u) := by
      by_cases h : l.1.sum ≤ u
      · have h2 : ¬ u < l.1.sum := by omega
        rw [decide_eq_true h, decide_eq_false h2]; rfl
      · have h2 : u < l.1.sum := by omega
        rw [decide_eq_false h, decide_eq_true h2]; rfl
    rw [e, e2]
  · refine sxRet xB fun v H6 e6 d => fals ?_ v H6 (e1.trans (e2.trans (e3.trans (e4.trans (e5.trans e6))))) d
    unfold isLapP
    rw [Bool.or_eq_true] at hc
    rcases hc with hc | hc
    · rw [Bool.not_eq_true'] at hc
      rw [hc]; simp
    · rw [Bool.not_eq_true'] at hc
      rw [hc]; simp
  rw [Bool.or_eq_false_iff] at hc
  have hall : (l.1.all fun s => isIntP s 2 (some (u - 1))) = true := by simpa using hc.1
  have hsum : decide (l.1.sum ≤ u) = true := by simpa using hc.2
  have h1 := dp_ex e5 h1
  have h2 := dp_ex e5 h2
  refine sxRet (xEq (d := .list (l.1.map .int)) (d' := .list ((desc l.1).map .int)) hr.units (EN.ex (nListOf (ts := []) rfl B.list (xIxA (xV 1 rfl h2 (pv 1)) xI) (.inr rfl))) (EX.is (EN.ex (xRevL (EN.ex (nSortT (ns := l.1) rfl B.sorted (xIxA (xV 1 rfl h2 (pv 1)) xI))))) (by rw [← List.map_reverse, desc_asc])) (shaped_lI _) (shaped_lI _)) fun v H6 e6 d => k v H6 (e1.trans (e2.trans (e3.trans (e4.trans (e5.trans e6))))) (dpIs d ?_)
  rw [eqv_lI]
  unfold isLapP
  rw [hl2, hall, decide_eq_true hne, hsum]
  simp
/-! _law_is_plan -/
def lawVec (ls : List Lap) : List Int := ls.foldl (fun v l => l.1.foldl (fun v s => addV v s l.2) v) (List.replicate 9 0)
theorem lawVec_len : ∀ (ls : List Lap) (v : List Int), (ls.foldl (fun v l => l.1.foldl (fun v s => addV v s l.2) v) v).length = v.length
  | [], v => rfl
  | l :: ls, v => by
    rw [List.foldl_cons, lawVec_len ls]
    have h : ∀ (ss : List Int) (v : List Int), (ss.foldl (fun v s => addV v s l.2) v).length = v.length := fun ss => by
      induction ss with
      | nil => intro v; rfl
      | cons s ss ih => intro v; rw [List.foldl_cons, ih, addV_len]
    exact h l.1 v
def lawPlanP (u : Int) (b : Bx) (ls : List Lap) : Bool := ls.all (isLapP u) && (decide (lawVec ls = b.l) && lastOne ls)
inductive preLawPlan : List Dv → Dv → Prop
  | mk (u : Int) (b : Bx) (ls : List Lap) : u ≤ 8 → PlanZ ls → preLawPlan [.dat (.int u), .dat b.d, .dat (.tuple (ls.map dLap))] (.dat (.bool (lawPlanP u b ls)))
theorem cl_law_is_plan (B : BM mg) (c_law_is_lap : Cl P w K mg base 2 "_law_is_lap" 2 (SpD K preIsLap)) (F : Df K mg "_law_is_plan" sLawIsPlan pLawIsPlan) : Cl P w K mg base 3 "_law_is_plan" 3 (SpD K preLawPlan) := by
  refine clD F scLawIsPlan (fun qs r h => by cases h; rfl) rfl fun f cdv A outer s H vs qs r Q E hr hp hq k => ?_
  obtain ⟨u, b, ls, hu8, hz⟩ := hp
  obtain ⟨v1, v2, v3, rfl, h1, h2, h3⟩ := hq.three
  refine sxWhen (c0 := !ls.all (isLapP u)) (TX.is (WX.tx (wOr (tNotX (tBool (xIsTup rfl B.isinstance rfl B.tuple (xV 2 rfl h3 (pv 2))))) fun _ => wOr1 (tNotX (tBool (xAll (bs := ls.map (isLapP u)) rfl rfl B.all (EX.is (EN.ex (nLcA (xs := ls) (Dd := dLap) (E := fun l => .bool (isLapP u l)) (own := [("_law_lap", 7)]) (g := gName 7) rfl scLawIsPlan.nd (srT (xV 2 rfl h3 (pv 2))) (blkOk_by (N := nLawIsPlan) (sc := defScope sLawIsPlan) (by decide +kernel)) (fun _ _ _ _ _ => (pg_name scLawIsPlan.nd (i := 7) rfl (by first | exact .inl rfl | exact .inr rfl))) (Nat.le_of_lt (small1000 hz.1)) (fun _ _ => rfl) (fun a ha v H2 e2 dv Q q => g1_run (i := 7) (q _ (by rfl) H2 (Ex.refl _) (fun _ _ _ _ _ => rfl) (fun hT _ _ _ _ _ => (xClD c_law_is_lap hr (aqCons (EX.toQ (xV 0 rfl (dp_ex e2 h1) (pv 0))) (aqCons (EX.toQ (xV 7 rfl dv (pv 7))) aqNil)) (.mk u a (hz.2 a ha)))))))) (by rw [List.map_map]; rfl))))))) (by rw [List.all_map]; rfl)) (fun hc H1 e1 => ?_) fun hc H1 e1 => ?_
  · refine sxRet xB fun v H2 e2 d => k v H2 (e1.trans e2) (dpIs d ?_)
    unfold lawPlanP
    rw [Bool.not_eq_true'] at hc
    rw [hc]; rfl
  have hall : ls.all (isLapP u) = true := by simpa using hc
  have hsz : ∀ l ∈ ls, ∀ s ∈ l.1, 2 ≤ s ∧ s ≤ u - 1 := fun l hl s hs => by
    have h := List.all_eq_true.mp hall l hl
    unfold isLapP at h
    simp only [Bool.and_eq_true] at h
    have h2 := List.all_eq_true.mp h.1.1.2 s hs
    unfold isIntP at h2
    simp only [Bool.and_eq_true, Bool.not_eq_true', decide_eq_true_eq, decide_eq_false_iff_not] at h2
    omega
  refine sxSet (i := 3) (nRep (EN.el (nLst (aCons xI aNil) (by simp [sizeLine_eq]))) xI (by decide) (by decide) (by simp [sizeLine_eq])) (fun v H2 e2 ⟨q, ev, hn, vs, hq1, hq2⟩ => ?_) scLawIsPlan.nd
  subst ev
  have hvs := dpAll_ints (ns := List.replicate 9 0) hq2
  subst hvs
  have hn0 := fresh_back e1 hn
  refine sxForE rfl rfl (erV 2 rfl (pv 2)) (B := H) h3 (pg_tup rfl (pgs_cons (pg_name scLawIsPlan.nd (i := 4) rfl (.inl rfl)) (pgs_cons (pg_name scLawIsPlan.nd (i := 5) rfl (.inl rfl)) pgs_nil))) fun H3 e3 => ?_
  refine ⟨fun i σ' H' => ∃ a b c d, σ' = [some v1, some v2, some v3, some (.ref q), a, b, c, d] ∧ Ex H H' ∧ H' q = some (.lst ((lawVec (ls.take i)).map V.int)), ⟨none, none, none, none, rfl, e1.trans (e2.trans e3), e3 _ _ hq1⟩, fun i σ' H' ⟨_, _, _, _, _, e, _⟩ => e, ?_, ?_⟩
  · rintro i l x σ' H' hi ⟨a, b', c, d, rfl, e3, hv⟩ dx
    refine g2_run dx fun w1 w2 d1 d2 => ?_
    have hm : l ∈ ls := List.mem_of_getElem? hi
    obtain rfl := dp_int d2
    generalize hm0 : lawVec (ls.take i) = m0 at hv
    have hm0l : m0.length = 9 := by rw [← hm0]; unfold lawVec; rw [lawVec_len]; rfl
    refine sxForF (xs := l.1) (Dd := PyData.int) rfl rfl (xV 4 rfl d1 (pv 4)) (fun _ _ => rfl) (pg_name scLawIsPlan.nd (i := 6) rfl (.inl rfl)) fun H4 e4 => ?_
    refine ⟨fun j σ' H' => ∃ c, σ' = [some v1, some v2, some v3, some (.ref q), some w1, some (.int l.2), c, d] ∧ Ex H H' ∧ H' q = some (.lst (((l.1.take j).foldl (fun v s => addV v s l.2) m0).map V.int)), ⟨_, rfl, e3.trans e4, e4 _ _ hv⟩, ?_, ?_⟩
    · rintro j s' y σ' H' hj mx ⟨c, rfl, e5, hv5⟩ ds
      obtain rfl := dp_int ds
      refine g1_run (i := 6) ?_
      have hs := hsz l hm s' (List.mem_of_getElem? hj)
      generalize hmj : (l.1.take j).foldl (fun v s => addV v s l.2) m0 = mj at hv5
      have hmjl : mj.length = 9 := by
        rw [← hmj]
        have h : ∀ (ss : List Int) (v : List Int), (ss.foldl (fun v s => addV v s l.2) v).length = v.length := fun ss => by
          induction ss with
          | nil => intro v; rfl
          | cons s ss ih => intro v; rw [List.foldl_cons, ih, addV_len]
        rw [h, hm0l]
      refine sxSetL (erV 3 rfl (pv 3)) hv5 (xV 6 rfl (.int s') (pv 6)) (by rw [List.length_map, hmjl]; exact ixN_pos (by omega) (by omega)) (R := fun v _ => v = .int (mj.getD s'.toNat 0 + l.2)) (ER.imp (R := fun v H' => Dp K H' v (.int (mj.getD s'.toNat 0 + l.2))) (xAdd (xIxA (EL.ex (lV 3 rfl rfl ⟨_, hv5, ints_dpAll mj⟩ (pv 3))) (xV 6 rfl (.int s') (pv 6)) (.inr rfl) (atI_ints (by omega) (by rw [hmjl]; omega))) (xV 5 rfl (.int l.2) (pv 5))) fun v H' _ d => dp_int d) (fun v H6 e6 ev => sxNil ?_) (hm1 := fun _ _ _ _ h => h)
      subst ev
      refine ⟨mx.trans ((Mx.of e6).trans (Mx.upd (e6 _ _ hv5) (fun _ => by simp) (fun _ _ => by simp))), _, rfl, ex_lst (e5.trans e6) hn0, ?_⟩
      rw [upd_same, take_app hj, List.foldl_append, hmj]
      show _ = some (HO.lst ((addV mj s' l.2).map V.int))
      unfold addV
      rw [List.map_set]
    · rintro σ' H' mx ⟨c, rfl, e5, hv5⟩
      refine sxNil ⟨_, _, _, _, rfl, e5, ?_⟩
      rw [List.take_length] at hv5
      unfold lawVec at hm0 ⊢
      rw [take_app hi, List.foldl_append, hm0]
      exact hv5
  · rintro σ' H' ⟨a, b', c, d, rfl, e3, hv⟩
    rw [List.take_length] at hv
    have h2 := dp_ex e3 h2
    have h3 := dp_ex e3 h3
    refine sxRet (xAnd (c1 := decide (lawVec ls = b.l)) (c2 := lastOne ls) (EX.is (xEq (d := .list ((lawVec ls).map .int)) (d' := .list (b.l.map .int)) hr.units (EL.ex (lV 3 rfl rfl ⟨_, hv, ints_dpAll (lawVec ls)⟩ (pv 3))) (xV 1 rfl h2 (pv 1)) (shaped_lI _) (shaped_lI _)) (by rw [eqv_lI])) fun _ => xOne (EX.is (xOr (c2 := lastOne ls) (xEq hr.units (xV 2 rfl h3 (pv 2)) (xTup aNil (by first | (rw [sizeLine_eq]; simp; done) | (rw [sizeLine_eq]; simp; omega) | assumption)) (shaped_plan ls) rfl) fun hn => ?_) ?_)) fun v H2 e2 d => k v H2 (e3.trans e2) (dpIs d ?_)
    · have hne : ls ≠ [] := of_decide_eq_false (by rw [← eqv_nil]; exact hn)
      obtain ⟨l, hl⟩ : ∃ l, ls.getLast? = some l := by
        cases h : ls.getLast? with
        | none => exact absurd (List.getLast?_eq_none_iff.mp h) hne
        | some l => exact ⟨l, rfl⟩
      refine xOne (EX.is (xEq hr.units (xIxA (xIxA (xV 2 rfl h3 (pv 2)) (xNeg xI) (.inl rfl) (show atI (ls.map dLap) (-1) = some (dLap l) by rw [atI_last, List.getLast?_map, hl]; rfl)) xI) xI rfl rfl) ?_)
      rw [eqv_int]
      unfold lastOne
      rw [hl]
    · rw [eqv_nil]
      cases h : decide (ls = []) with
      | false => rfl
      | true =>
        have := of_decide_eq_true h
        subst this
        rfl
    · unfold lawPlanP
      rw [hall]
      rfl
end
end GX
end SGFn10
section SGNum
set_option linter.all false
set_option maxRecDepth 100000
set_option maxHeartbeats 1000000
/-! the law's source of numbers -/
namespace GX
open PySem PySem.Spec PyProof.Rows L2
open Evl StX OL
/-- a source with m numbers to come -/
structure SrcOk (m : Nat) (a b c : Int) : Prop where
  a0 : 0 ≤ a
  b0 : 0 ≤ b
  b1 : b < 2 ^ 61
  c0 : 0 ≤ c
  c1 : c + m ≤ 2 ^ 40
def SrcAt (m : Nat) (H : Hp) (q : Addr) : Prop := ∃ a b c, H q = some (.lst [.int a, .int b, .int c]) ∧ SrcOk m a b c
/-- all stands but for q -/
def Sx (q : Addr) (H H' : Hp) : Prop := ∀ b o, b ≠ q → H b = some o → H' b = some o
theorem Sx.of {q : Addr} {H H' : Hp} (e : Ex H H') : Sx q H H' := fun b o _ h => e b o h
theorem Sx.refl {q : Addr} {H : Hp} : Sx q H H := fun _ _ _ h => h
theorem Sx.trans {q : Addr} {H H1 H2 : Hp} (a : Sx q H H1) (b : Sx q H1 H2) : Sx q H H2 := fun x o n h => b x o n (a x o n h)
theorem Sx.upd {q : Addr} {H : Hp} {u : HO} : Sx q H (upd H q u) := fun b o n h => by rw [upd_ne n]; exact h
/-- _law_number's promise -/
def SpNum : Sp := fun vs H Q _ => ∃ q n m, vs = [.ref q, .int n] ∧ SrcAt (m + 1) H q ∧ 0 < n ∧ n < 2 ^ 64 ∧ ∀ r H', 0 ≤ r → r < n → Sx q H H' → SrcAt m H' q → Q (.int r) H'
section
variable {P : Program} {w : World} {K : PySem.W.Frag} {mg : Str → Option Value} {base : Heap}
theorem pow_bits {i : Int} (h0 : 0 ≤ i) (h1 : i < 2 ^ 200) : (Builtin.Int.intBits i : Int) * 3 ≤ 2 ^ 27 := by
  have h : Builtin.Int.intBits i ≤ 201 := by
    unfold Builtin.Int.intBits
    split
    · omega
    · have : i.natAbs.log2 < 200 := PySem.Flt.log2_lt_of (by decide) (by omega)
      omega
  omega
theorem cl_law_number (F : Df K mg "_law_number" sLawNumber pLawNumber) : Cl P w K mg base 1 "_law_number" 2 SpNum := by
  refine clG F scLawNumber (fun vs H Q E h => ?_) rfl fun f cdv A outer s H vs Q E hr h => ?_
  · obtain ⟨q, n, m, rfl, _⟩ := h
    rfl
  obtain ⟨q, n, m, rfl, ⟨a, b, c, hq, ok⟩, hn0, hn1, k⟩ := h
  obtain ⟨ha, hb0, hb1, hc0, hc1⟩ := ok
  have hdw : CDivW a n := wide_div (b := 64) hn0 (by omega) (by decide) (by decide)
  have src : LsAt K H q [.int a, .int b, .int c] := ⟨_, hq, ints_dpAll [a, b, c]⟩
  refine sxWhen (ttGt (xIxA (EL.ex (lV 0 rfl rfl src (pv 0))) xI) xI) (fun hc H1 e1 => ?_) fun hc H1 e1 => ?_
  · --
    have src := src.ex e1
    refine sxSet (i := 2) (xMod (xIxA (EL.ex (lV 0 rfl rfl src (pv 0))) xI) (xV 1 rfl (.int n) (pv 1)) (by omega)) (fun v H2 e2 dv => ?_) scLawNumber.nd
    obtain rfl := dp_int dv
    have src := src.ex e2
    refine sxSetL (erV 0 rfl (pv 0)) ((e1.trans e2) _ _ hq) xI (n := 0) rfl (R := fun v _ => v = .int (a / n)) (ER.imp (R := fun v H' => Dp K H' v (.int (a / n))) (xDivW (xIxA (EL.ex (lV 0 rfl rfl src (pv 0))) xI) (xV 1 rfl (.int n) (pv 1)) hdw) fun v H' _ d => dp_int d) (fun v H3 e3 ev => ?_) (hm1 := fun _ _ _ _ h => h)
    subst ev
    refine sxRet (erV 2 rfl (pv 2)) fun v H4 e4 ev => ?_
    subst ev
    refine k _ H4 (Int.emod_nonneg _ (by omega)) (Int.emod_lt_of_pos _ hn0) ((Sx.of (e1.trans (e2.trans e3))).trans (Sx.upd.trans (Sx.of e4))) ⟨a / n, b, c, e4 _ _ upd_same, Int.ediv_nonneg ha (by omega), hb0, hb1, hc0, by omega⟩
  · --
    have src := src.ex e1
    refine sxSetL (erV 0 rfl (pv 0)) (e1 _ _ hq) xI (n := 2) rfl (R := fun v _ => v = .int (c + 1)) (ER.imp (R := fun v H' => Dp K H' v (.int (c + 1))) (xAdd (xIxA (EL.ex (lV 0 rfl rfl src (pv 0))) xI) xI) fun v H' _ d => dp_int d) (fun v H2 e2 ev => ?_) (hm1 := fun _ _ _ _ h => h)
    subst ev
    have hq2 : upd H2 q (.lst [.int a, .int b, .int (c + 1)]) q = some (.lst [.int a, .int b, .int (c + 1)]) := upd_same
    have src2 : LsAt K (upd H2 q (.lst [.int a, .int b, .int (c + 1)])) q [.int a, .int b, .int (c + 1)] := ⟨_, hq2, ints_dpAll [a, b, c + 1]⟩
    have s2 : Sx q H (upd H2 q (.lst [.int a, .int b, .int (c + 1)])) := (Sx.of (e1.trans e2)).trans Sx.upd
    change SX _ _ (upd H2 q (.lst [.int a, .int b, .int (c + 1)])) _ _
    generalize upd H2 q (.lst [.int a, .int b, .int (c + 1)]) = H3 at hq2 src2 s2 ⊢
    refine sxSet (i := 3) (xIxA (EL.ex (lV 0 rfl rfl src2 (pv 0))) xI) (fun v H4 e4 dv => ?_) scLawNumber.nd
    obtain rfl := dp_int dv
    have src2 := src2.ex e4
    have h2c : (c + 1) * (c + 1) ≤ 2 ^ 40 * 2 ^ 40 := Int.mul_le_mul (by omega) (by omega) (by omega) (by decide)
    have h2n : 0 ≤ (c + 1) * (c + 1) := Int.mul_nonneg (by omega) (by omega)
    have hbase : 0 ≤ b + 104651 * (c + 1) * (c + 1) + 43 ∧ b + 104651 * (c + 1) * (c + 1) + 43 < 2 ^ 200 := by
      rw [Int.mul_assoc]
      omega
    refine sxSet (i := 4) (xMod (xPow (xAdd (xAdd (xIxA (EL.ex (lV 0 rfl rfl src2 (pv 0))) xI) (xMul (xMul xI (xV 3 rfl (.int (c+1)) (pv 3)) (by first | exact .inl ⟨by omega, by omega⟩ | exact .inr ⟨by omega, by omega⟩ | assumption)) (xV 3 rfl (.int (c+1)) (pv 3)) (by first | exact .inl ⟨by omega, by omega⟩ | exact .inr ⟨by omega, by omega⟩ | assumption))) xI) xI (by decide) (pow_bits hbase.1 hbase.2)) xI (by decide)) (fun v H5 e5 dv => ?_) scLawNumber.nd
    obtain rfl := dp_int dv
    have src2 := src2.ex e5
    generalize hmx : (b + 104651 * (c + 1) * (c + 1) + 43) ^ Int.toNat 3 % 2305843009213693907 = mx
    have hm0 : 0 ≤ mx ∧ mx < 2305843009213693907 := by
      rw [← hmx]
      exact ⟨Int.emod_nonneg _ (by decide), Int.emod_lt_of_pos _ (by decide)⟩
    refine sxSet (i := 4) (xMod (xMul (xV 4 rfl (.int mx) (pv 4)) (xAdd (xMod (xV 4 rfl (.int mx) (pv 4)) xI (by omega)) (xMul xI (xIxA (EL.ex (lV 0 rfl rfl src2 (pv 0))) xI) (by first | exact .inl ⟨by omega, by omega⟩ | exact .inr ⟨by omega, by omega⟩ | assumption))) (by first | exact .inl ⟨by omega, by omega⟩ | exact .inr ⟨by omega, by omega⟩ | assumption)) xI (by omega)) (fun v H6 e6 dv => ?_) scLawNumber.nd
    obtain rfl := dp_int dv
    refine sxRet (xMod (xDiv (xV 4 rfl (.int _) (pv 4)) xI (by first | exact ⟨by omega, by omega⟩ | assumption)) (xV 1 rfl (.int n) (pv 1)) (by omega)) fun v H7 e7 dv => ?_
    obtain rfl := dp_int dv
    refine k _ H7 (Int.emod_nonneg _ (by omega)) (Int.emod_lt_of_pos _ hn0) (s2.trans (Sx.of (e4.trans (e5.trans (e6.trans e7))))) ⟨a, b, c + 1, (e4.trans (e5.trans (e6.trans e7))) _ _ hq2, ha, hb0, hb1, by omega, by omega⟩
end
end GX
end SGNum
section SGLast
set_option linter.all false
/-! the contents that a last lap may have, plainly -/
namespace GX
/-- t with s behind it may stand -/
def okc (u : Int) (b : List Int) (l : List Int) (s : Int) : Bool := decide (l = desc l) && (decide (l.sum ≤ u) && decide ((l.count s : Int) ≤ b.getD s.toNat 0))
inductive Reach (u : Int) (b : List Int) : List Int → Prop
  | nil : Reach u b []
  | more {t : List Int} {s : Int} : Reach u b t → 2 ≤ s → s < u → okc u b (t ++ [s]) s = true → Reach u b (t ++ [s])
/-- those that come behind t, up to the i-th size -/
def kids (u : Int) (b : List Int) (t : List Int) (i : Nat) : List (List Int) := (((upto i).map fun k => 2 + k).filter fun s => okc u b (t ++ [s]) s).map fun s => t ++ [s]
theorem kids_succ (u : Int) (b t : List Int) (i : Nat) : kids u b t (i + 1) = kids u b t i ++ (if okc u b (t ++ [2 + (i : Int)]) (2 + (i : Int)) = true then [t ++ [2 + (i : Int)]] else []) := by
  unfold kids upto
  rw [List.range_succ, List.map_append, List.map_append, List.filter_append, List.map_append]
  congr 1
  simp only [List.map_cons, List.map_nil, List.filter_cons, List.filter_nil]
  split <;> rfl
theorem mem_kids {u : Int} {b t : List Int} {i : Nat} {x : List Int} : x ∈ kids u b t i ↔ ∃ s : Int, 2 ≤ s ∧ s < 2 + i ∧ okc u b (t ++ [s]) s = true ∧ x = t ++ [s] := by
  unfold kids upto
  simp only [List.mem_map, List.mem_filter, List.mem_range]
  constructor
  · rintro ⟨s, ⟨⟨k, ⟨j, hj, rfl⟩, rfl⟩, h⟩, rfl⟩
    exact ⟨_, by omega, by omega, h, rfl⟩
  · rintro ⟨s, h1, h2, h3, rfl⟩
    exact ⟨s, ⟨⟨s - 2, ⟨(s - 2).toNat, by omega, by omega⟩, by omega⟩, h3⟩, rfl⟩
theorem okc_sum {u : Int} {b l : List Int} {s : Int} (h : okc u b l s = true) : l.sum ≤ u := by
  unfold okc at h
  simp only [Bool.and_eq_true, decide_eq_true_eq] at h
  exact h.2.1
theorem Reach.sum {u : Int} {b t : List Int} (hu : 0 ≤ u) (h : Reach u b t) : t.sum ≤ u := by
  cases h with
  | nil => exact hu
  | more _ _ _ h => exact okc_sum h
theorem Reach.pos {u : Int} {b t : List Int} (h : Reach u b t) : ∀ s ∈ t, 2 ≤ s ∧ s < u := by
  induction h with
  | nil => simp
  | more _ h1 h2 _ ih =>
    intro s hs
    rcases List.mem_append.mp hs with hs | hs
    · exact ih s hs
    · rw [List.mem_singleton.mp hs]; exact ⟨h1, h2⟩
theorem sum_ge {t : List Int} (h : ∀ s ∈ t, 2 ≤ s) : 2 * (t.length : Int) ≤ t.sum := by
  induction t with
  | nil => simp
  | cons x t ih =>
    have := ih fun s hs => h s (by simp [hs])
    have := h x (by simp)
    simp only [List.sum_cons, List.length_cons]
    omega
theorem Reach.len {u : Int} {b t : List Int} (hu : 0 ≤ u) (hu8 : u ≤ 8) (h : Reach u b t) : t.length ≤ 4 := by
  have h1 := h.sum hu
  have h2 := sum_ge fun s hs => (h.pos s hs).1
  omega
/-- weights -/
def wt (u : Int) (t : List Int) : Nat := 4 ^ (u - t.sum).toNat
def wts (u : Int) (W : List (List Int)) : Nat := (W.map (wt u)).sum
theorem wts_app (u : Int) (A B : List (List Int)) : wts u (A ++ B) = wts u A + wts u B := by
  unfold wts
  rw [List.map_append, List.sum_append_nat]
theorem wt_pos (u : Int) (t : List Int) : 1 ≤ wt u t := Nat.pos_of_ne_zero (by unfold wt; exact Nat.ne_of_gt (Nat.pow_pos (by decide)))
theorem kid_wt {u : Int} {b t : List Int} {s : Int} (hs : 2 ≤ s) (h : okc u b (t ++ [s]) s = true) : 16 * wt u (t ++ [s]) ≤ wt u t := by
  have h1 := okc_sum h
  unfold wt
  rw [List.sum_append] at h1 ⊢
  simp only [List.sum_cons, List.sum_nil] at h1 ⊢
  have e : (16 : Nat) = 4 ^ 2 := rfl
  rw [e, ← Nat.pow_add]
  exact Nat.pow_le_pow_right (by decide) (by omega)
theorem kids_wts {u : Int} {b t : List Int} : ∀ i : Nat, 16 * wts u (kids u b t i) ≤ i * wt u t ∧ (kids u b t i).length ≤ i ∧ (kids u b t i ≠ [] → 16 ≤ wt u t)
  | 0 => by
    have e : kids u b t 0 = [] := rfl
    rw [e]
    exact ⟨by simp [wts], by simp, fun h => absurd rfl h⟩
  | i + 1 => by
    obtain ⟨h1, h2, h3⟩ := kids_wts (u := u) (b := b) (t := t) i
    rw [kids_succ, wts_app, List.length_append]
    split
    · rename_i h
      have h4 := kid_wt (by omega) h
      have h5 := wt_pos u (t ++ [2 + (i : Int)])
      have e : wts u [t ++ [2 + (i : Int)]] = wt u (t ++ [2 + (i : Int)]) := by simp [wts]
      rw [e, Nat.add_mul]
      refine ⟨by omega, by simp; omega, fun _ => by omega⟩
    · have e : wts u [] = 0 := rfl
      rw [e, Nat.add_mul]
      refine ⟨by omega, by simp; omega, fun h => h3 (by simpa using h)⟩
/-- what holds between two turns -/
structure LastI (u : Int) (b : List Int) (F W : List (List Int)) : Prop where
  f : ∀ t ∈ F, Reach u b t ∧ t ≠ []
  w : ∀ t ∈ W, Reach u b t
  c : ∀ t, t ∈ F ∨ t = [] → t ∈ W ∨ ∀ x ∈ kids u b t (u - 2).toNat, x ∈ F
  n : F.length + wts u W ≤ 65536
theorem LastI.init {u : Int} {b : List Int} (hu : u ≤ 8) : LastI u b [] [[]] := by
  refine ⟨by simp, fun t h => by rw [List.mem_singleton.mp h]; exact .nil, fun t h => ?_, ?_⟩
  · rcases h with h | h
    · cases h
    · exact .inl (by rw [h]; simp)
  · have : wt u [] ≤ 4 ^ 8 := Nat.pow_le_pow_right (by decide) (by simp; omega)
    simp [wts] at this ⊢
    omega
theorem LastI.step {u : Int} {b : List Int} {F W : List (List Int)} {t : List Int} (hu8 : u ≤ 8) (h : LastI u b F (W ++ [t])) : LastI u b (F ++ kids u b t (u - 2).toNat) (W ++ kids u b t (u - 2).toNat) := by
  have ht : Reach u b t := h.w t (by simp)
  have hk : ∀ x ∈ kids u b t (u - 2).toNat, Reach u b x ∧ x ≠ [] := fun x hx => by
    obtain ⟨s, h1, h2, h3, rfl⟩ := mem_kids.mp hx
    exact ⟨.more ht h1 (by omega) h3, by simp⟩
  refine ⟨fun x hx => ?_, fun x hx => ?_, fun x hx => ?_, ?_⟩
  · rcases List.mem_append.mp hx with hx | hx
    · exact h.f x hx
    · exact hk x hx
  · rcases List.mem_append.mp hx with hx | hx
    · exact h.w x (List.mem_append_left _ hx)
    · exact (hk x hx).1
  · by_cases hxt : x = t
    · subst hxt
      exact .inr fun y hy => List.mem_append_right _ hy
    · by_cases hxk : x ∈ kids u b t (u - 2).toNat
      · exact .inl (List.mem_append_right _ hxk)
      · have hx' : x ∈ F ∨ x = [] := by
          rcases hx with hx | hx
          · rcases List.mem_append.mp hx with hx | hx
            · exact .inl hx
            · exact absurd hx hxk
          · exact .inr hx
        rcases h.c x hx' with g | g
        · rcases List.mem_append.mp g with g | g
          · exact .inl (List.mem_append_left _ g)
          · exact absurd (List.mem_singleton.mp g) hxt
        · exact .inr fun y hy => List.mem_append_left _ (g y hy)
  · obtain ⟨h1, h2, h3⟩ := kids_wts (u := u) (b := b) (t := t) (u - 2).toNat
    have hn := h.n
    rw [wts_app] at hn ⊢
    have e : wts u [t] = wt u t := by simp [wts]
    rw [e] at hn
    rw [List.length_append]
    have hi : (u - 2).toNat ≤ 6 := by omega
    have h4 : (u - 2).toNat * wt u t ≤ 6 * wt u t := Nat.mul_le_mul_right _ hi
    by_cases hne : kids u b t (u - 2).toNat = []
    · rw [hne]
      simp [wts] at hn ⊢
      omega
    · have := h3 hne
      omega
theorem step_lt {u : Int} {b : List Int} {W : List (List Int)} {t : List Int} (hu8 : u ≤ 8) : wts u (W ++ kids u b t (u - 2).toNat) < wts u (W ++ [t]) := by
  obtain ⟨h1, h2, h3⟩ := kids_wts (u := u) (b := b) (t := t) (u - 2).toNat
  rw [wts_app, wts_app]
  have e : wts u [t] = wt u t := by simp [wts]
  rw [e]
  have hi : (u - 2).toNat ≤ 6 := by omega
  have h4 : (u - 2).toNat * wt u t ≤ 6 * wt u t := Nat.mul_le_mul_right _ hi
  have := wt_pos u t
  omega
theorem LastI.all {u : Int} {b : List Int} {F : List (List Int)} (h : LastI u b F []) {t : List Int} (ht : Reach u b t) : t = [] ∨ t ∈ F := by
  induction ht with
  | nil => exact .inl rfl
  | @more t s _ h1 h2 h3 ih =>
    right
    rcases h.c t ih.symm with g | g
    · cases g
    · exact g _ (mem_kids.mpr ⟨s, h1, by omega, h3, rfl⟩)
theorem LastI.iff {u : Int} {b : List Int} {F : List (List Int)} (h : LastI u b F []) (t : List Int) : t ∈ F ↔ Reach u b t ∧ t ≠ [] := by
  refine ⟨fun ht => h.f t ht, fun ⟨h1, h2⟩ => ?_⟩
  rcases h.all h1 with e | e
  · exact absurd e h2
  · exact e
end GX
end SGLast
section SGFn11
set_option linter.all false
set_option maxRecDepth 100000
set_option maxHeartbeats 1000000
/-! _law_lasts -/
namespace GX
open PySem PySem.Spec PyProof.Rows L2
open Evl StX OL
/-- plain tuples of ints -/
inductive YAll (H : Hp) : List V → List (List Int) → Prop
  | nil : YAll H [] []
  | cons {v : V} {vs : List V} {ns : List Int} {nss : List (List Int)} : YdV H ns v → YAll H vs nss → YAll H (v :: vs) (ns :: nss)
theorem YAll.mx {H H' : Hp} (e : Mx H H') : ∀ {vs : List V} {nss : List (List Int)}, YAll H vs nss → YAll H' vs nss
  | _, _, .nil => .nil
  | _, _, .cons h t => .cons (h.mx e) (YAll.mx e t)
theorem YAll.ex {H H' : Hp} (e : Ex H H') {vs : List V} {nss : List (List Int)} (h : YAll H vs nss) : YAll H' vs nss := h.mx (Mx.of e)
theorem YAll.app {H : Hp} : ∀ {vs us : List V} {nss mss : List (List Int)}, YAll H vs nss → YAll H us mss → YAll H (vs ++ us) (nss ++ mss)
  | _, _, _, _, .nil, h => h
  | _, _, _, _, .cons h t, g => .cons h (t.app g)
theorem YAll.len {H : Hp} : ∀ {vs : List V} {nss : List (List Int)}, YAll H vs nss → vs.length = nss.length
  | _, _, .nil => rfl
  | _, _, .cons _ t => congrArg Nat.succ t.len
theorem YAll.dp {K : PySem.W.Frag} {H : Hp} : ∀ {vs : List V} {nss : List (List Int)}, YAll H vs nss → DpAll K H vs (nss.map tI)
  | _, _, .nil => .nil
  | _, _, .cons h t => .cons h.dp t.dp
theorem YAll.split {H : Hp} {A : List (List Int)} {t : List Int} : ∀ {vs : List V}, YAll H vs (A ++ [t]) → ∃ us v, vs = us ++ [v] ∧ YAll H us A ∧ YdV H t v := by
  induction A with
  | nil =>
    intro vs h
    cases h with
    | cons h1 h2 => cases h2; exact ⟨[], _, rfl, .nil, h1⟩
  | cons a A ih =>
    intro vs h
    cases h with
    | cons h1 h2 =>
      obtain ⟨us, v, rfl, h3, h4⟩ := ih h2
      exact ⟨_ :: us, v, rfl, .cons h1 h3, h4⟩
theorem YAll.at' {H : Hp} : ∀ {vs : List V} {nss : List (List Int)}, YAll H vs nss → ∀ {i : Nat} {v : V}, vs[i]? = some v → ∃ ns, nss[i]? = some ns ∧ YdV H ns v
  | _, _, .nil, i, v, e => by simp at e
  | _, _, .cons h t, 0, v, e => by simp at e; subst e; exact ⟨_, rfl, h⟩
  | _, _, .cons h t, i + 1, v, e => by
    obtain ⟨ns, h1, h2⟩ := t.at' (i := i) (by simpa using e)
    exact ⟨ns, by simpa using h1, h2⟩
theorem canLay_tups : ∀ nss : List (List Int), PyData.canLayAll0 (nss.map tI) = true
  | [] => rfl
  | l :: ls => by
    show (PyData.canLayAll0 (l.map .int) && PyData.canLayAll0 (ls.map tI)) = true
    rw [canLay_tups ls, canLay_ints]
    rfl
theorem depth_tups : ∀ nss : List (List Int), PyData.depthAll (nss.map tI) ≤ 1
  | [] => Nat.zero_le _
  | l :: ls => by
    show max (PyData.depthAll (l.map .int) + 1) (PyData.depthAll (ls.map tI)) ≤ 1
    have := depth_tups ls
    rw [depth_ints]
    omega
theorem shaped_tups (nss : List (List Int)) : SeqAt.shaped (.list (nss.map tI)) = true := by
  unfold SeqAt.shaped
  show (PyData.canLayAll0 (nss.map tI) && decide (PyData.depthAll (nss.map tI) + 1 ≤ 64)) = true
  rw [canLay_tups]
  have := depth_tups nss
  simp
  omega
theorem eqv_tups_nil (nss : List (List Int)) : PyData.eqv (.list (nss.map tI)) (.list []) = decide (nss = []) := by
  cases nss with
  | nil => rfl
  | cons l ls =>
    show false = _
    simp
section
variable {X : Cx} {σ : L2.St} {H : Hp} {a b : Expr} {pos : Pos} {ns ms : List Int}
/-- + of plain tuples of ints -/
theorem op_catY : OpR X (binaryOp .Add) (fun x y H Q => ∃ ns ms : List Int, YdV H ns x ∧ YdV H ms y ∧ ns.length + ms.length ≤ sizeLine ∧ ms ≠ [] ∧ ∀ v H', Ex H H' → YdV H' (ns ++ ms) v → Q v H') := by
  intro pins s σ H x y v u Q I rx ry h
  obtain ⟨ns, ms, ⟨ta, oa, rfl, ha, ha2, ha3⟩, ⟨tb, ob, rfl, hb, hb2, hb3⟩, hz, hne, q⟩ := h
  cases rx
  cases ry
  have sa : SqT X.K H ta (ns.map V.int) := .inl (.inr ⟨oa, ha⟩)
  have sb : SqT X.K H tb (ms.map V.int) := .inl (.inr ⟨ob, hb⟩)
  obtain ⟨its, r1, p1, _⟩ := I.tuple sa
  obtain ⟨its2, r2, p2, _⟩ := I.tuple sb
  by_cases hx : ns = []
  · subst hx
    cases r1
    exact cat_tup0 p1 p2 ⟨.ref tb, H, I, rfl, q _ H (Ex.refl _) ⟨tb, ob, rfl, hb, hb2, hb3⟩⟩
  · refine HT.cat_tup p1 p2 (fun z => hx (by have := r1.nil_iff.mp z; simpa using this)) (fun z => absurd (by have := r2.nil_iff.mp z; simpa using this) hne) (fun z => ?_) (by rw [← r1.length, ← r2.length, List.length_map, List.length_map]; exact hz)
    have hf : H s.heap.objs.size = none := I.hok.fresh (Nat.le_refl _)
    have hg : (s.heap.push { cls := .type "tuple", data := .seq (its ++ its2).toArray }).get? s.heap.objs.size = some { cls := .type "tuple", data := .seq (its ++ its2).toArray } := Heap.get?_push_size _ rfl
    refine ⟨.ref s.heap.objs.size, upd H s.heap.objs.size (.frz { cls := .type "tuple", data := .seq (its ++ its2).toArray } (.tup ((ns ++ ms).map V.int))), I.laid (t' := s.toks) (fun b u e => Heap.get?_push_of_some _ e) (Nat.le_refl _) ?_, rfl, q _ _ (Ex.new hf) ⟨_, _, rfl, upd_same, rfl, rfl⟩⟩
    exact ⟨hg, by rw [List.length_map, List.length_append]; exact hz, its ++ its2, by rw [List.map_append]; exact r1.append r2, ⟨_, hg, rfl, _, rfl⟩⟩
theorem yCat (ha : EY X σ H a ns) (hb : EY X σ H b ms) (hne : ms ≠ []) (hz : ns.length + ms.length ≤ sizeLine) : EY X σ H (.BinOp a .Add b pos) (ns ++ ms) :=
  .of (pe_op op_catY ha hb) fun H1 e1 Q k => ⟨rfl, e1, fun v H2 e2 y1 => ⟨rfl, e1.trans e2, fun u H3 e3 y2 => ⟨ns, ms, y1.ex e3, y2, hz, hne, fun w H4 e4 y => k w H4 (e2.trans (e3.trans e4)) y⟩⟩⟩
end
/-- a new list of plain tuples -/
def LyAt (H : Hp) (p : Addr) (nss : List (List Int)) : Prop := ∃ vs, H p = some (.lst vs) ∧ YAll H vs nss
def SpLasts (K : PySem.W.Frag) : Sp := fun vs H Q _ => ∃ (u : Int) (b : Bx), 2 ≤ u ∧ u ≤ 8 ∧ DqAll K H vs [.dat (.int u), .dat b.d] ∧ ∀ p H' F, Ex H H' → H p = none → LyAt H' p F → (∀ t, t ∈ F ↔ Reach u b.l t ∧ t ≠ []) → F.length ≤ 65536 → Q (.ref p) H'
section
variable {X : Cx} {σ : L2.St} {H : Hp} {es : List Expr} {qs : List Dv} {pos : Pos}
/-- a new list, its items as names may hold them -/
theorem nLstQ (h : AQ X σ H es qs) (hz : qs.length ≤ sizeLine) : ER X σ H (.List es pos) fun v H' => ∃ p vs, v = .ref p ∧ H p = none ∧ H' p = some (.lst vs) ∧ DqAll X.K H' vs qs :=
  .of (pe_lst h) fun H1 e1 Q q => ⟨rfl, e1, fun vs H2 e2 dv => ⟨by rw [dv.len]; exact hz, fun p hp => q _ _ (e2.trans (Ex.new hp)) ⟨p, vs, rfl, Evl.fresh_back (e1.trans e2) hp, upd_same, dv.ex (Ex.new hp)⟩⟩⟩
end
theorem len_wts (u : Int) (W : List (List Int)) : W.length ≤ wts u W := by
  induction W with
  | nil => exact Nat.zero_le _
  | cons t W ih =>
    have := wt_pos u t
    unfold wts at ih ⊢
    rw [List.map_cons, List.sum_cons, List.length_cons]
    omega
theorem LyAt.ex {H H' : Hp} {p : Addr} {nss : List (List Int)} (e : Ex H H') (h : LyAt H p nss) : LyAt H' p nss := let ⟨vs, h1, h2⟩ := h; ⟨vs, e _ _ h1, h2.ex e⟩
theorem mx_lst {H : Hp} {q : Addr} {vs us : List V} (h : H q = some (.lst vs)) : Mx H (upd H q (.lst us)) := Mx.upd h (fun _ => by simp) (fun _ _ => by simp)
theorem LyAt.ne {H : Hp} {p q : Addr} {vs us : List V} {nss : List (List Int)} (hpq : p ≠ q) (hq : H q = some (.lst vs)) (h : LyAt H p nss) : LyAt (upd H q (.lst us)) p nss := by
  obtain ⟨ws, h1, h2⟩ := h
  exact ⟨ws, by rw [upd_ne hpq]; exact h1, h2.mx (mx_lst hq)⟩
theorem ly_app {H : Hp} {q : Addr} {vs : List V} {v : V} {nss : List (List Int)} {t : List Int} (hq : H q = some (.lst vs)) (h : YAll H vs nss) (hv : YdV H t v) : LyAt (upd H q (.lst (vs ++ [v]))) q (nss ++ [t]) :=
  ⟨_, upd_same, (h.app (.cons hv .nil)).mx (mx_lst hq)⟩
section
variable {P : Program} {w : World} {K : PySem.W.Frag} {mg : Str → Option Value} {base : Heap}
theorem cl_law_lasts (B : BM mg) (F : Df K mg "_law_lasts" sLawLasts pLawLasts) : Cl P w K mg base 1 "_law_lasts" 2 (SpLasts K) := by
  refine clG F scLawLasts (fun vs H Q E h => ?_) rfl fun f cdv A outer s H vs Q E hr h => ?_
  · obtain ⟨u, b, _, _, hd, _⟩ := h
    rw [hd.len]; rfl
  obtain ⟨u, b, hu2, hu8, hq, k⟩ := h
  obtain ⟨v1, v2, rfl, h1, h2⟩ := hq.two
  obtain rfl := dp_int h1
  refine sxPar (i := 2) (j := 3) rfl scLawLasts.nd (nLst aNil (Nat.zero_le _)) (nLstQ (qs := [.pt []]) (aqCons (EY.toQ (yTup aNil (Nat.zero_le _))) aqNil) (by simp [sizeLine_eq])) (fun v H1 H2 e ⟨p, e1, e2, e3⟩ => ⟨p, e1, e2, e3.ex e⟩) fun w1 w2 H1 e1 ⟨Fp, ew1, hF, fs, hF1, hF2⟩ ⟨Wp, ws, ew2, hW, hW1, hW2⟩ => ?_
  subst ew1 ew2
  cases hF2
  obtain ⟨y0, rfl, hy0⟩ := hW2.one
  have hFW : Fp ≠ Wp := fun z => by subst z; rw [hF1] at hW1; cases hW1
  refine sxWhile rfl (fun m σ' H' => ∃ a b' c d FL WL, σ' = [some (.int u), some v2, some (.ref Fp), some (.ref Wp), a, b', c, d] ∧ Ex H H' ∧ LyAt H' Fp FL ∧ LyAt H' Wp WL ∧ LastI u b.l FL WL ∧ m = wts u WL) (wts u [[]]) ⟨none, none, none, none, [], [[]], rfl, e1, ⟨_, hF1, .nil⟩, ⟨_, hW1, .cons hy0 .nil⟩, LastI.init hu8, rfl⟩ fun m σ' H' ⟨a, b', c, d, FL, WL, eσ, e2, hFL, hWL, hI, hm⟩ => ?_
  subst eσ
  obtain ⟨ws, hW3, hW4⟩ := hWL
  refine ⟨decide (WL ≠ []), TX.is (ttNe (d := .list (WL.map tI)) (d' := .list []) hr.units (EL.ex (lV 3 rfl rfl ⟨ws, hW3, hW4.dp⟩ (pv 3))) (EN.ex (nLst aNil (by simp [sizeLine_eq]))) (shaped_tups WL) rfl) ?_, fun H3 e3 => ⟨fun hc => ?_, fun hc => ?_⟩⟩
  · rw [eqv_tups_nil]
    by_cases h : WL = [] <;> simp [h]
  · have hne : WL ≠ [] := of_decide_eq_true hc
    obtain ⟨W', t, rfl⟩ : ∃ W' t, WL = W' ++ [t] := ⟨_, _, (List.dropLast_concat_getLast hne).symm⟩
    obtain ⟨us, v, rfl, hU, hv⟩ := hW4.split
    have ht : Reach u b.l t := hI.w t (by simp)
    have htl := ht.len (by omega) hu8
    refine sxPop (n := 4) (y := v) (erV 3 rfl (pv 3)) (e3 _ _ hW3) (by simp) (fun H4 e4 => ?_) scLawLasts.nd
    have hW5 := e4 _ _ (e3 _ _ hW3)
    have mx5 : Mx H4 (upd H4 Wp (.lst us)) := mx_lst hW5
    have e5 : Ex H (upd H4 Wp (.lst us)) := ex_lst (e2.trans (e3.trans e4)) hW
    have hv5 := (hv.ex (e3.trans e4)).mx mx5
    have hU5 : LyAt (upd H4 Wp (.lst us)) Wp W' := ⟨us, upd_same, (hU.ex (e3.trans e4)).mx mx5⟩
    have hF5 : LyAt (upd H4 Wp (.lst us)) Fp FL := LyAt.ne hFW hW5 (hFL.ex (e3.trans e4))
    have ed : (us ++ [v]).dropLast = us := by simp
    rw [ed]
    change SX _ _ (upd H4 Wp (.lst us)) _ _
    generalize upd H4 Wp (.lst us) = H5 at e5 hv5 hU5 hF5 ⊢
    refine sxForR2 rfl rfl rfl B.range xI (xV 0 rfl (.int u) (pv 0)) (by omega) (pg_name scLawLasts.nd (i := 5) rfl (.inl rfl)) fun H6 e6 => ?_
    refine ⟨fun i σ' H' => ∃ b' c d, σ' = [some (.int u), some v2, some (.ref Fp), some (.ref Wp), some v, b', c, d] ∧ Ex H H' ∧ YdV H' t v ∧ LyAt H' Fp (FL ++ kids u b.l t i) ∧ LyAt H' Wp (W' ++ kids u b.l t i), ⟨b', c, d, rfl, e5.trans e6, hv5.ex e6, by rw [show kids u b.l t 0 = [] from rfl, List.append_nil]; exact hF5.ex e6, by rw [show kids u b.l t 0 = [] from rfl, List.append_nil]; exact hU5.ex e6⟩, ?_, ?_⟩
    · rintro i σ' H' hi ⟨b', c, d, rfl, e7, hv7, hF7, hW7⟩
      refine g1_run (i := 5) ?_
      have h2 := dp_ex e7 h2
      have hsu : 2 + (i : Int) < u := by omega
      refine sxSet (i := 6) (yCat (ns := t) (ms := [2 + (i : Int)]) (yV 4 rfl hv7 (pv 4)) (yTup (aCons (xV 5 rfl (.int _) (pv 5)) aNil) (by first | (rw [sizeLine_eq]; simp; done) | (rw [sizeLine_eq]; simp; omega) | assumption)) (by simp) (by rw [sizeLine_eq]; simp; omega)) (fun v6 H8 e8 hy => ?_) scLawLasts.nd
      refine sxSet (i := 7) (xEq (d := .list ((t ++ [2 + (i : Int)]).map .int)) (d' := .list ((desc (t ++ [2 + (i : Int)])).map .int)) hr.units (EN.ex (nListOf (ts := []) rfl B.list (ET.ex (EY.et (yV 6 rfl hy (pv 6)))) (.inr rfl))) (EX.is (EN.ex (xRevL (EN.ex (nSortT (ns := t ++ [2 + (i : Int)]) rfl B.sorted (ET.ex (EY.et (yV 6 rfl hy (pv 6)))))))) (by rw [← List.map_reverse, desc_asc])) (shaped_lI _) (shaped_lI _)) (fun v7 H9 e9 d7 => ?_) scLawLasts.nd
      have d7 := dpIs d7 (congrArg PyData.bool (eqv_lI _ _))
      have hy := hy.ex e9
      have h2 := dp_ex (e8.trans e9) h2
      have hat : atI (b.l.map PyData.int) (2 + (i : Int)) = some (.int (b.l.getD (2 + (i : Int)).toNat 0)) := atI_ints (by omega) (by rw [show b.l.length = 9 from rfl]; omega)
      refine sxWhen (c0 := okc u b.l (t ++ [2 + (i : Int)]) (2 + (i : Int))) (TX.is (WX.tx (wAnd (tBool (xV 7 rfl d7 (pv 7))) fun _ => wAnd (ttLe (xSumA B.sum rfl rfl (ET.ex (EY.et (yV 6 rfl hy (pv 6))))) (xV 0 rfl (.int u) (pv 0))) fun _ => wAnd1 (ttLe (xCountT (EY.et (yV 6 rfl hy (pv 6))) (xV 5 rfl (.int _) (pv 5))) (xIxA (xV 1 rfl h2 (pv 1)) (xV 5 rfl (.int _) (pv 5)) (.inr rfl) hat)))) rfl) (fun hk H10 e10 => ?_) fun hk H10 e10 => sxNil ?_
      · obtain ⟨fs, hFa, hFb⟩ := hF7.ex (e8.trans (e9.trans e10))
        have hn := hI.n
        have hkl := (kids_wts (u := u) (b := b.l) (t := t) i).2.1
        have hlen : fs.length < sizeLine := by
          rw [hFb.len, List.length_append, sizeLine_eq]
          omega
        have hy := hy.ex e10
        refine sxAppend (erV 2 rfl (pv 2)) hFa hlen (erV 6 rfl (pv 6)) fun vv H11 e11 ev => ?_
        subst ev
        have hFc := ly_app (e11 _ _ hFa) (hFb.ex e11) (hy.ex e11)
        have mx := mx_lst (us := fs ++ [vv]) (e11 _ _ hFa)
        obtain ⟨ws, hWa, hWb⟩ := LyAt.ne (us := fs ++ [vv]) hFW.symm (e11 _ _ hFa) (hW7.ex ((e8.trans (e9.trans e10)).trans e11))
        have ex11 : Ex H (upd H11 Fp (.lst (fs ++ [vv]))) := ex_lst (e7.trans ((e8.trans (e9.trans e10)).trans e11)) hF
        have hy11 := (hy.ex e11).mx mx
        have hv11 := (hv7.ex ((e8.trans (e9.trans e10)).trans e11)).mx mx
        change SX _ _ (upd H11 Fp (.lst (fs ++ [vv]))) _ _
        generalize upd H11 Fp (.lst (fs ++ [vv])) = H12 at hFc hWa hWb ex11 hy11 hv11 ⊢
        have hlen2 : ws.length < sizeLine := by
          have hl := len_wts u (W' ++ [t])
          rw [List.length_append] at hl
          rw [hWb.len, List.length_append, sizeLine_eq]
          omega
        refine sxAppend (erV 3 rfl (pv 3)) hWa hlen2 (erV 6 rfl (pv 6)) fun vw H13 e13 ev => sxNil (sxNil ?_)
        subst ev
        refine ⟨_, _, _, rfl, ex_lst (ex11.trans e13) hW, (hv11.ex e13).mx (mx_lst (e13 _ _ hWa)), ?_, ?_⟩
        · rw [kids_succ, if_pos hk, ← List.append_assoc]
          exact LyAt.ne hFW (e13 _ _ hWa) (hFc.ex e13)
        · rw [kids_succ, if_pos hk, ← List.append_assoc]
          exact ly_app (e13 _ _ hWa) (hWb.ex e13) (hy11.ex e13)
      · have hk2 : kids u b.l t (i + 1) = kids u b.l t i := by rw [kids_succ, if_neg (by rw [hk]; decide), List.append_nil]
        show ∃ b' c d, _
        rw [hk2]
        exact ⟨_, _, _, rfl, e7.trans (e8.trans (e9.trans e10)), hv7.ex (e8.trans (e9.trans e10)), hF7.ex (e8.trans (e9.trans e10)), hW7.ex (e8.trans (e9.trans e10))⟩
    · rintro σ' H' ⟨b', c, d, rfl, e7, hv7, hF7, hW7⟩
      refine sxNil ⟨wts u (W' ++ kids u b.l t (u - 2).toNat), by rw [hm]; exact step_lt hu8, _, _, _, _, _, _, rfl, e7, hF7, hW7, hI.step hu8, rfl⟩
  · have he : WL = [] := by
      have := of_decide_eq_false hc
      exact Classical.byContradiction this
    subst he
    refine sxRet (erV 2 rfl (pv 2)) fun v H4 e4 ev => ?_
    subst ev
    refine k Fp H4 FL (e2.trans (e3.trans e4)) hF (hFL.ex (e3.trans e4)) hI.iff ?_
    have := hI.n
    omega
end
end GX
end SGFn11
section SGM1
set_option linter.all false
set_option maxHeartbeats 400000
/-! packing on numbers alone (printed by gm1.py) -/
namespace GX
def gv (left : List (Int × Int)) (s : Int) : Int := (getI left s).getD 0
theorem gv_put (m : List (Int × Int)) (k v j : Int) : gv (putI m k v) j = if j = k then v else gv m j := by
  unfold gv
  rw [getI_put]
  split <;> rfl
theorem gv_sub (many s : Int) : ∀ (sizes : List Int) (left : List (Int × Int)), gv (subL many left sizes) s = gv left s - many * (sizes.count s : Nat)
  | [], left => by simp [subL]
  | b :: bs, left => by
    show gv (subL many (putI left b (gv left b - many)) bs) s = _
    rw [gv_sub many s bs, gv_put]
    by_cases h : s = b
    · subst h
      rw [if_pos rfl, List.count_cons_self, Int.natCast_add, Int.mul_add]
      omega
    · rw [if_neg h, List.count_cons_of_ne (fun z => h z.symm)]
theorem lapsP_app (a b : List Lap) : lapsP (a ++ b) = lapsP a + lapsP b := by
  unfold lapsP
  rw [List.map_append, List.sum_append]
theorem one_gv (u : Int) (st : PkS) (sizes : List Int) (s : Int) : gv (oneP u st sizes).1 s = gv st.1 s - max 0 (manyP u st.1 sizes) * (sizes.count s : Nat) := by
  unfold oneP
  by_cases h : 0 < manyP u st.1 sizes
  · rw [if_pos h, gv_sub]
    rw [Int.max_eq_right (Int.le_of_lt h)]
  · rw [if_neg h, Int.max_eq_left (by omega)]
    omega
theorem one_laps (u : Int) (st : PkS) (sizes : List Int) : lapsP (oneP u st sizes).2 = lapsP st.2 + max 0 (manyP u st.1 sizes) := by
  unfold oneP
  by_cases h : 0 < manyP u st.1 sizes
  · rw [if_pos h, lapsP_app, Int.max_eq_right (Int.le_of_lt h)]
    simp [lapsP]
  · rw [if_neg h, Int.max_eq_left (by omega)]
    omega
theorem many_le {u : Int} {left : List (Int × Int)} {sizes : List Int} (h : sizes.sum ≤ u) : manyP u left sizes = oftenP left sizes := if_pos h
theorem one_gt {u : Int} {st : PkS} {sizes : List Int} (h : ¬ sizes.sum ≤ u) : oneP u st sizes = st := by
  unfold oneP
  rw [if_neg (by unfold manyP; rw [if_neg h]; decide)]
theorem z7_n (n0 a2 a3 a4 a5 a6 a7 m1 : Int) (h7 : 0 ≤ a7) (hm1 : m1 = max 0 ((a7) / 1)) : n0 + m1 = n0 + a7 ∧ a2 - m1 * 0 = a2 ∧ a3 - m1 * 0 = a3 ∧ a4 - m1 * 0 = a4 ∧ a5 - m1 * 0 = a5 ∧ a6 - m1 * 0 = a6 ∧ a7 - m1 * 1 = 0 := by
  have v1 : a7 = m1 := by omega
  clear hm1
  subst v1
  refine ⟨?_, ?_, ?_, ?_, ?_, ?_, ?_⟩ <;> omega
theorem z7 (o4 : List (List Int)) (st : PkS) (h7 : 0 ≤ gv st.1 7) : lapsP (sizeP 8 o4 st 7).2 = lapsP st.2 + gv st.1 7 ∧ gv (sizeP 8 o4 st 7).1 2 = gv st.1 2 ∧ gv (sizeP 8 o4 st 7).1 3 = gv st.1 3 ∧ gv (sizeP 8 o4 st 7).1 4 = gv st.1 4 ∧ gv (sizeP 8 o4 st 7).1 5 = gv st.1 5 ∧ gv (sizeP 8 o4 st 7).1 6 = gv st.1 6 ∧ gv (sizeP 8 o4 st 7).1 7 = 0 := by
  have e : sizeP 8 o4 st 7 = oneP 8 st [7] := rfl
  rw [e]
  obtain ⟨m1, hm1⟩ : ∃ m, m = max 0 (oftenP st.1 [7]) := ⟨_, rfl⟩
  have hn1 := one_laps 8 st [7]
  rw [many_le (by decide), ← hm1] at hn1
  have g1_2 := one_gv 8 st [7] 2
  rw [many_le (by decide), ← hm1, show List.count (2 : Int) [7] = 0 from rfl] at g1_2
  have g1_3 := one_gv 8 st [7] 3
  rw [many_le (by decide), ← hm1, show List.count (3 : Int) [7] = 0 from rfl] at g1_3
  have g1_4 := one_gv 8 st [7] 4
  rw [many_le (by decide), ← hm1, show List.count (4 : Int) [7] = 0 from rfl] at g1_4
  have g1_5 := one_gv 8 st [7] 5
  rw [many_le (by decide), ← hm1, show List.count (5 : Int) [7] = 0 from rfl] at g1_5
  have g1_6 := one_gv 8 st [7] 6
  rw [many_le (by decide), ← hm1, show List.count (6 : Int) [7] = 0 from rfl] at g1_6
  have g1_7 := one_gv 8 st [7] 7
  rw [many_le (by decide), ← hm1, show List.count (7 : Int) [7] = 1 from rfl] at g1_7
  rw [show oftenP st.1 [7] = gv st.1 7 / 1 from rfl] at hm1
  generalize (oneP 8 st [7]) = st1 at hn1 g1_2 g1_3 g1_4 g1_5 g1_6 g1_7 ⊢
  rw [hn1, g1_2, g1_3, g1_4, g1_5, g1_6, g1_7]
  exact z7_n _ _ _ _ _ _ _ m1 h7 hm1
theorem z6_n (n0 a2 a3 a4 a5 a6 a7 m1 m2 : Int) (h6 : 0 ≤ a6) (h2 : 0 ≤ a2) (hm1 : m1 = max 0 (min ((a6) / 1) ((a2) / 1))) (hm2 : m2 = max 0 ((a6 - m1 * 1) / 1)) : n0 + m1 + m2 = n0 + a6 ∧ a2 - m1 * 1 - m2 * 0 = max 0 (a2 - a6) ∧ a3 - m1 * 0 - m2 * 0 = a3 ∧ a4 - m1 * 0 - m2 * 0 = a4 ∧ a5 - m1 * 0 - m2 * 0 = a5 ∧ a6 - m1 * 1 - m2 * 1 = 0 ∧ a7 - m1 * 0 - m2 * 0 = a7 := by
  by_cases c0 : a6 ≤ a2
  · skip
    have v1 : a6 = m1 := by clear hm2; omega
    clear hm1
    subst v1
    have v2 : 0 = m2 := by omega
    clear hm2
    subst v2
    refine ⟨?_, ?_, ?_, ?_, ?_, ?_, ?_⟩ <;> omega
  · skip
    have v1 : a2 = m1 := by clear hm2; omega
    clear hm1
    subst v1
    have v2 : a6 - a2 = m2 := by omega
    clear hm2
    subst v2
    refine ⟨?_, ?_, ?_, ?_, ?_, ?_, ?_⟩ <;> omega
theorem z6 (o4 : List (List Int)) (st : PkS) (h6 : 0 ≤ gv st.1 6) (h2 : 0 ≤ gv st.1 2) : lapsP (sizeP 8 o4 st 6).2 = lapsP st.2 + gv st.1 6 ∧ gv (sizeP 8 o4 st 6).1 2 = max 0 (gv st.1 2 - gv st.1 6) ∧ gv (sizeP 8 o4 st 6).1 3 = gv st.1 3 ∧ gv (sizeP 8 o4 st 6).1 4 = gv st.1 4 ∧ gv (sizeP 8 o4 st 6).1 5 = gv st.1 5 ∧ gv (sizeP 8 o4 st 6).1 6 = 0 ∧ gv (sizeP 8 o4 st 6).1 7 = gv st.1 7 := by
  have e : sizeP 8 o4 st 6 = oneP 8 (oneP 8 st [6, 2]) [6] := rfl
  rw [e]
  obtain ⟨m1, hm1⟩ : ∃ m, m = max 0 (oftenP st.1 [6, 2]) := ⟨_, rfl⟩
  have hn1 := one_laps 8 st [6, 2]
  rw [many_le (by decide), ← hm1] at hn1
  have g1_2 := one_gv 8 st [6, 2] 2
  rw [many_le (by decide), ← hm1, show List.count (2 : Int) [6, 2] = 1 from rfl] at g1_2
  have g1_3 := one_gv 8 st [6, 2] 3
  rw [many_le (by decide), ← hm1, show List.count (3 : Int) [6, 2] = 0 from rfl] at g1_3
  have g1_4 := one_gv 8 st [6, 2] 4
  rw [many_le (by decide), ← hm1, show List.count (4 : Int) [6, 2] = 0 from rfl] at g1_4
  have g1_5 := one_gv 8 st [6, 2] 5
  rw [many_le (by decide), ← hm1, show List.count (5 : Int) [6, 2] = 0 from rfl] at g1_5
  have g1_6 := one_gv 8 st [6, 2] 6
  rw [many_le (by decide), ← hm1, show List.count (6 : Int) [6, 2] = 1 from rfl] at g1_6
  have g1_7 := one_gv 8 st [6, 2] 7
  rw [many_le (by decide), ← hm1, show List.count (7 : Int) [6, 2] = 0 from rfl] at g1_7
  rw [show oftenP st.1 [6, 2] = min (gv st.1 6 / 1) (gv st.1 2 / 1) from rfl] at hm1
  generalize (oneP 8 st [6, 2]) = st1 at hn1 g1_2 g1_3 g1_4 g1_5 g1_6 g1_7 ⊢
  obtain ⟨m2, hm2⟩ : ∃ m, m = max 0 (oftenP st1.1 [6]) := ⟨_, rfl⟩
  have hn2 := one_laps 8 st1 [6]
  rw [many_le (by decide), ← hm2, hn1] at hn2
  have g2_2 := one_gv 8 st1 [6] 2
  rw [many_le (by decide), ← hm2, show List.count (2 : Int) [6] = 0 from rfl, g1_2] at g2_2
  have g2_3 := one_gv 8 st1 [6] 3
  rw [many_le (by decide), ← hm2, show List.count (3 : Int) [6] = 0 from rfl, g1_3] at g2_3
  have g2_4 := one_gv 8 st1 [6] 4
  rw [many_le (by decide), ← hm2, show List.count (4 : Int) [6] = 0 from rfl, g1_4] at g2_4
  have g2_5 := one_gv 8 st1 [6] 5
  rw [many_le (by decide), ← hm2, show List.count (5 : Int) [6] = 0 from rfl, g1_5] at g2_5
  have g2_6 := one_gv 8 st1 [6] 6
  rw [many_le (by decide), ← hm2, show List.count (6 : Int) [6] = 1 from rfl, g1_6] at g2_6
  have g2_7 := one_gv 8 st1 [6] 7
  rw [many_le (by decide), ← hm2, show List.count (7 : Int) [6] = 0 from rfl, g1_7] at g2_7
  rw [show oftenP st1.1 [6] = gv st1.1 6 / 1 from rfl, g1_6] at hm2
  generalize (oneP 8 st1 [6]) = st2 at hn2 g2_2 g2_3 g2_4 g2_5 g2_6 g2_7 ⊢
  rw [hn2, g2_2, g2_3, g2_4, g2_5, g2_6, g2_7]
  exact z6_n _ _ _ _ _ _ _ m1 m2 h6 h2 hm1 hm2
theorem z5_n (n0 a2 a3 a4 a5 a6 a7 m1 m2 m3 : Int) (h5 : 0 ≤ a5) (h3 : 0 ≤ a3) (h2 : 0 ≤ a2) (hm1 : m1 = max 0 (min ((a5) / 1) ((a3) / 1))) (hm2 : m2 = max 0 (min ((a5 - m1 * 1) / 1) ((a2 - m1 * 0) / 1))) (hm3 : m3 = max 0 ((a5 - m1 * 1 - m2 * 1) / 1)) : n0 + m1 + m2 + m3 = n0 + a5 ∧ a2 - m1 * 0 - m2 * 1 - m3 * 0 = max 0 (a2 - max 0 (a5 - a3)) ∧ a3 - m1 * 1 - m2 * 0 - m3 * 0 = max 0 (a3 - a5) ∧ a4 - m1 * 0 - m2 * 0 - m3 * 0 = a4 ∧ a5 - m1 * 1 - m2 * 1 - m3 * 1 = 0 ∧ a6 - m1 * 0 - m2 * 0 - m3 * 0 = a6 ∧ a7 - m1 * 0 - m2 * 0 - m3 * 0 = a7 := by
  by_cases c0 : a5 ≤ a3
  · skip
    have v1 : a5 = m1 := by clear hm2 hm3; omega
    clear hm1
    subst v1
    have v2 : 0 = m2 := by clear hm3; omega
    clear hm2
    subst v2
    have v3 : 0 = m3 := by omega
    clear hm3
    subst v3
    refine ⟨?_, ?_, ?_, ?_, ?_, ?_, ?_⟩ <;> omega
  · skip
    by_cases c1 : a5 - a3 ≤ a2
    · skip
      have v1 : a3 = m1 := by clear hm2 hm3; omega
      clear hm1
      subst v1
      have v2 : a5 - a3 = m2 := by clear hm3; omega
      clear hm2
      subst v2
      have v3 : 0 = m3 := by omega
      clear hm3
      subst v3
      refine ⟨?_, ?_, ?_, ?_, ?_, ?_, ?_⟩ <;> omega
    · skip
      have v1 : a3 = m1 := by clear hm2 hm3; omega
      clear hm1
      subst v1
      have v2 : a2 = m2 := by clear hm3; omega
      clear hm2
      subst v2
      have v3 : a5 - a3 - a2 = m3 := by omega
      clear hm3
      subst v3
      refine ⟨?_, ?_, ?_, ?_, ?_, ?_, ?_⟩ <;> omega
theorem z5 (o4 : List (List Int)) (st : PkS) (h5 : 0 ≤ gv st.1 5) (h3 : 0 ≤ gv st.1 3) (h2 : 0 ≤ gv st.1 2) : lapsP (sizeP 8 o4 st 5).2 = lapsP st.2 + gv st.1 5 ∧ gv (sizeP 8 o4 st 5).1 2 = max 0 (gv st.1 2 - max 0 (gv st.1 5 - gv st.1 3)) ∧ gv (sizeP 8 o4 st 5).1 3 = max 0 (gv st.1 3 - gv st.1 5) ∧ gv (sizeP 8 o4 st 5).1 4 = gv st.1 4 ∧ gv (sizeP 8 o4 st 5).1 5 = 0 ∧ gv (sizeP 8 o4 st 5).1 6 = gv st.1 6 ∧ gv (sizeP 8 o4 st 5).1 7 = gv st.1 7 := by
  have e : sizeP 8 o4 st 5 = oneP 8 (oneP 8 (oneP 8 st [5, 3]) [5, 2]) [5] := rfl
  rw [e]
  obtain ⟨m1, hm1⟩ : ∃ m, m = max 0 (oftenP st.1 [5, 3]) := ⟨_, rfl⟩
  have hn1 := one_laps 8 st [5, 3]
  rw [many_le (by decide), ← hm1] at hn1
  have g1_2 := one_gv 8 st [5, 3] 2
  rw [many_le (by decide), ← hm1, show List.count (2 : Int) [5, 3] = 0 from rfl] at g1_2
  have g1_3 := one_gv 8 st [5, 3] 3
  rw [many_le (by decide), ← hm1, show List.count (3 : Int) [5, 3] = 1 from rfl] at g1_3
  have g1_4 := one_gv 8 st [5, 3] 4
  rw [many_le (by decide), ← hm1, show List.count (4 : Int) [5, 3] = 0 from rfl] at g1_4
  have g1_5 := one_gv 8 st [5, 3] 5
  rw [many_le (by decide), ← hm1, show List.count (5 : Int) [5, 3] = 1 from rfl] at g1_5
  have g1_6 := one_gv 8 st [5, 3] 6
  rw [many_le (by decide), ← hm1, show List.count (6 : Int) [5, 3] = 0 from rfl] at g1_6
  have g1_7 := one_gv 8 st [5, 3] 7
  rw [many_le (by decide), ← hm1, show List.count (7 : Int) [5, 3] = 0 from rfl] at g1_7
  rw [show oftenP st.1 [5, 3] = min (gv st.1 5 / 1) (gv st.1 3 / 1) from rfl] at hm1
  generalize (oneP 8 st [5, 3]) = st1 at hn1 g1_2 g1_3 g1_4 g1_5 g1_6 g1_7 ⊢
  obtain ⟨m2, hm2⟩ : ∃ m, m = max 0 (oftenP st1.1 [5, 2]) := ⟨_, rfl⟩
  have hn2 := one_laps 8 st1 [5, 2]
  rw [many_le (by decide), ← hm2, hn1] at hn2
  have g2_2 := one_gv 8 st1 [5, 2] 2
  rw [many_le (by decide), ← hm2, show List.count (2 : Int) [5, 2] = 1 from rfl, g1_2] at g2_2
  have g2_3 := one_gv 8 st1 [5, 2] 3
  rw [many_le (by decide), ← hm2, show List.count (3 : Int) [5, 2] = 0 from rfl, g1_3] at g2_3
  have g2_4 := one_gv 8 st1 [5, 2] 4
  rw [many_le (by decide), ← hm2, show List.count (4 : Int) [5, 2] = 0 from rfl, g1_4] at g2_4
  have g2_5 := one_gv 8 st1 [5, 2] 5
  rw [many_le (by decide), ← hm2, show List.count (5 : Int) [5, 2] = 1 from rfl, g1_5] at g2_5
  have g2_6 := one_gv 8 st1 [5, 2] 6
  rw [many_le (by decide), ← hm2, show List.count (6 : Int) [5, 2] = 0 from rfl, g1_6] at g2_6
  have g2_7 := one_gv 8 st1 [5, 2] 7
  rw [many_le (by decide), ← hm2, show List.count (7 : Int) [5, 2] = 0 from rfl, g1_7] at g2_7
  rw [show oftenP st1.1 [5, 2] = min (gv st1.1 5 / 1) (gv st1.1 2 / 1) from rfl, g1_5, g1_2] at hm2
  generalize (oneP 8 st1 [5, 2]) = st2 at hn2 g2_2 g2_3 g2_4 g2_5 g2_6 g2_7 ⊢
  obtain ⟨m3, hm3⟩ : ∃ m, m = max 0 (oftenP st2.1 [5]) := ⟨_, rfl⟩
  have hn3 := one_laps 8 st2 [5]
  rw [many_le (by decide), ← hm3, hn2] at hn3
  have g3_2 := one_gv 8 st2 [5] 2
  rw [many_le (by decide), ← hm3, show List.count (2 : Int) [5] = 0 from rfl, g2_2] at g3_2
  have g3_3 := one_gv 8 st2 [5] 3
  rw [many_le (by decide), ← hm3, show List.count (3 : Int) [5] = 0 from rfl, g2_3] at g3_3
  have g3_4 := one_gv 8 st2 [5] 4
  rw [many_le (by decide), ← hm3, show List.count (4 : Int) [5] = 0 from rfl, g2_4] at g3_4
  have g3_5 := one_gv 8 st2 [5] 5
  rw [many_le (by decide), ← hm3, show List.count (5 : Int) [5] = 1 from rfl, g2_5] at g3_5
  have g3_6 := one_gv 8 st2 [5] 6
  rw [many_le (by decide), ← hm3, show List.count (6 : Int) [5] = 0 from rfl, g2_6] at g3_6
  have g3_7 := one_gv 8 st2 [5] 7
  rw [many_le (by decide), ← hm3, show List.count (7 : Int) [5] = 0 from rfl, g2_7] at g3_7
  rw [show oftenP st2.1 [5] = gv st2.1 5 / 1 from rfl, g2_5] at hm3
  generalize (oneP 8 st2 [5]) = st3 at hn3 g3_2 g3_3 g3_4 g3_5 g3_6 g3_7 ⊢
  rw [hn3, g3_2, g3_3, g3_4, g3_5, g3_6, g3_7]
  exact z5_n _ _ _ _ _ _ _ m1 m2 m3 h5 h3 h2 hm1 hm2 hm3
theorem z4c_n (n0 a2 a3 a4 a5 a6 a7 m1 m2 m3 m4 m5 : Int) (h4 : 0 ≤ a4) (h3 : 0 ≤ a3) (h2 : 0 ≤ a2) (hm1 : m1 = max 0 (min ((a4) / 2) ((a4) / 2))) (hm2 : m2 = max 0 (min (min ((a4 - m1 * 2) / 1) ((a2 - m1 * 0) / 2)) ((a2 - m1 * 0) / 2))) (hm3 : m3 = max 0 (min ((a4 - m1 * 2 - m2 * 1) / 1) ((a3 - m1 * 0 - m2 * 0) / 1))) (hm4 : m4 = max 0 (min ((a4 - m1 * 2 - m2 * 1 - m3 * 1) / 1) ((a2 - m1 * 0 - m2 * 2 - m3 * 0) / 1))) (hm5 : m5 = max 0 ((a4 - m1 * 2 - m2 * 1 - m3 * 1 - m4 * 1) / 1)) : n0 + m1 + m2 + m3 + m4 + m5 = n0 + a4 / 2 + a4 % 2 ∧ a2 - m1 * 0 - m2 * 2 - m3 * 0 - m4 * 1 - m5 * 0 = (if a4 % 2 = 1 then (if 2 ≤ a2 then a2 - 2 else if 1 ≤ a3 then a2 else 0) else a2) ∧ a3 - m1 * 0 - m2 * 0 - m3 * 1 - m4 * 0 - m5 * 0 = (if a4 % 2 = 1 then (if 2 ≤ a2 then a3 else max 0 (a3 - 1)) else a3) ∧ a4 - m1 * 2 - m2 * 1 - m3 * 1 - m4 * 1 - m5 * 1 = 0 ∧ a5 - m1 * 0 - m2 * 0 - m3 * 0 - m4 * 0 - m5 * 0 = a5 ∧ a6 - m1 * 0 - m2 * 0 - m3 * 0 - m4 * 0 - m5 * 0 = a6 ∧ a7 - m1 * 0 - m2 * 0 - m3 * 0 - m4 * 0 - m5 * 0 = a7 := by
  by_cases c0 : a4 % 2 = 0
  · skip
    have v1 : a4 / 2 = m1 := by clear hm2 hm3 hm4 hm5; omega
    clear hm1
    subst v1
    have v2 : 0 = m2 := by clear hm3 hm4 hm5; omega
    clear hm2
    subst v2
    have v3 : 0 = m3 := by clear hm4 hm5; omega
    clear hm3
    subst v3
    have v4 : 0 = m4 := by clear hm5; omega
    clear hm4
    subst v4
    have v5 : 0 = m5 := by omega
    clear hm5
    subst v5
    refine ⟨?_, ?_, ?_, ?_, ?_, ?_, ?_⟩ <;> omega
  · skip
    by_cases c1 : 2 ≤ a2
    · skip
      have v1 : a4 / 2 = m1 := by clear hm2 hm3 hm4 hm5; omega
      clear hm1
      subst v1
      have v2 : 1 = m2 := by clear hm3 hm4 hm5; omega
      clear hm2
      subst v2
      have v3 : 0 = m3 := by clear hm4 hm5; omega
      clear hm3
      subst v3
      have v4 : 0 = m4 := by clear hm5; omega
      clear hm4
      subst v4
      have v5 : 0 = m5 := by omega
      clear hm5
      subst v5
      refine ⟨?_, ?_, ?_, ?_, ?_, ?_, ?_⟩ <;> omega
    · skip
      by_cases c2 : 1 ≤ a3
      · skip
        have v1 : a4 / 2 = m1 := by clear hm2 hm3 hm4 hm5; omega
        clear hm1
        subst v1
        have v2 : 0 = m2 := by clear hm3 hm4 hm5; omega
        clear hm2
        subst v2
        have v3 : 1 = m3 := by clear hm4 hm5; omega
        clear hm3
        subst v3
        have v4 : 0 = m4 := by clear hm5; omega
        clear hm4
        subst v4
        have v5 : 0 = m5 := by omega
        clear hm5
        subst v5
        refine ⟨?_, ?_, ?_, ?_, ?_, ?_, ?_⟩ <;> omega
      · skip
        by_cases c3 : a2 = 1
        · skip
          have v1 : a4 / 2 = m1 := by clear hm2 hm3 hm4 hm5; omega
          clear hm1
          subst v1
          have v2 : 0 = m2 := by clear hm3 hm4 hm5; omega
          clear hm2
          subst v2
          have v3 : 0 = m3 := by clear hm4 hm5; omega
          clear hm3
          subst v3
          have v4 : 1 = m4 := by clear hm5; omega
          clear hm4
          subst v4
          have v5 : 0 = m5 := by omega
          clear hm5
          subst v5
          refine ⟨?_, ?_, ?_, ?_, ?_, ?_, ?_⟩ <;> omega
        · skip
          have v1 : a4 / 2 = m1 := by clear hm2 hm3 hm4 hm5; omega
          clear hm1
          subst v1
          have v2 : 0 = m2 := by clear hm3 hm4 hm5; omega
          clear hm2
          subst v2
          have v3 : 0 = m3 := by clear hm4 hm5; omega
          clear hm3
          subst v3
          have v4 : 0 = m4 := by clear hm5; omega
          clear hm4
          subst v4
          have v5 : 1 = m5 := by omega
          clear hm5
          subst v5
          refine ⟨?_, ?_, ?_, ?_, ?_, ?_, ?_⟩ <;> omega
theorem z4c (st : PkS) (h4 : 0 ≤ gv st.1 4) (h3 : 0 ≤ gv st.1 3) (h2 : 0 ≤ gv st.1 2) : lapsP (sizeP 8 (compL 4) st 4).2 = lapsP st.2 + gv st.1 4 / 2 + gv st.1 4 % 2 ∧ gv (sizeP 8 (compL 4) st 4).1 2 = (if gv st.1 4 % 2 = 1 then (if 2 ≤ gv st.1 2 then gv st.1 2 - 2 else if 1 ≤ gv st.1 3 then gv st.1 2 else 0) else gv st.1 2) ∧ gv (sizeP 8 (compL 4) st 4).1 3 = (if gv st.1 4 % 2 = 1 then (if 2 ≤ gv st.1 2 then gv st.1 3 else max 0 (gv st.1 3 - 1)) else gv st.1 3) ∧ gv (sizeP 8 (compL 4) st 4).1 4 = 0 ∧ gv (sizeP 8 (compL 4) st 4).1 5 = gv st.1 5 ∧ gv (sizeP 8 (compL 4) st 4).1 6 = gv st.1 6 ∧ gv (sizeP 8 (compL 4) st 4).1 7 = gv st.1 7 := by
  have e : sizeP 8 (compL 4) st 4 = oneP 8 (oneP 8 (oneP 8 (oneP 8 (oneP 8 st [4, 4]) [4, 2, 2]) [4, 3]) [4, 2]) [4] := rfl
  rw [e]
  obtain ⟨m1, hm1⟩ : ∃ m, m = max 0 (oftenP st.1 [4, 4]) := ⟨_, rfl⟩
  have hn1 := one_laps 8 st [4, 4]
  rw [many_le (by decide), ← hm1] at hn1
  have g1_2 := one_gv 8 st [4, 4] 2
  rw [many_le (by decide), ← hm1, show List.count (2 : Int) [4, 4] = 0 from rfl] at g1_2
  have g1_3 := one_gv 8 st [4, 4] 3
  rw [many_le (by decide), ← hm1, show List.count (3 : Int) [4, 4] = 0 from rfl] at g1_3
  have g1_4 := one_gv 8 st [4, 4] 4
  rw [many_le (by decide), ← hm1, show List.count (4 : Int) [4, 4] = 2 from rfl] at g1_4
  have g1_5 := one_gv 8 st [4, 4] 5
  rw [many_le (by decide), ← hm1, show List.count (5 : Int) [4, 4] = 0 from rfl] at g1_5
  have g1_6 := one_gv 8 st [4, 4] 6
  rw [many_le (by decide), ← hm1, show List.count (6 : Int) [4, 4] = 0 from rfl] at g1_6
  have g1_7 := one_gv 8 st [4, 4] 7
  rw [many_le (by decide), ← hm1, show List.count (7 : Int) [4, 4] = 0 from rfl] at g1_7
  rw [show oftenP st.1 [4, 4] = min (gv st.1 4 / 2) (gv st.1 4 / 2) from rfl] at hm1
  generalize (oneP 8 st [4, 4]) = st1 at hn1 g1_2 g1_3 g1_4 g1_5 g1_6 g1_7 ⊢
  obtain ⟨m2, hm2⟩ : ∃ m, m = max 0 (oftenP st1.1 [4, 2, 2]) := ⟨_, rfl⟩
  have hn2 := one_laps 8 st1 [4, 2, 2]
  rw [many_le (by decide), ← hm2, hn1] at hn2
  have g2_2 := one_gv 8 st1 [4, 2, 2] 2
  rw [many_le (by decide), ← hm2, show List.count (2 : Int) [4, 2, 2] = 2 from rfl, g1_2] at g2_2
  have g2_3 := one_gv 8 st1 [4, 2, 2] 3
  rw [many_le (by decide), ← hm2, show List.count (3 : Int) [4, 2, 2] = 0 from rfl, g1_3] at g2_3
  have g2_4 := one_gv 8 st1 [4, 2, 2] 4
  rw [many_le (by decide), ← hm2, show List.count (4 : Int) [4, 2, 2] = 1 from rfl, g1_4] at g2_4
  have g2_5 := one_gv 8 st1 [4, 2, 2] 5
  rw [many_le (by decide), ← hm2, show List.count (5 : Int) [4, 2, 2] = 0 from rfl, g1_5] at g2_5
  have g2_6 := one_gv 8 st1 [4, 2, 2] 6
  rw [many_le (by decide), ← hm2, show List.count (6 : Int) [4, 2, 2] = 0 from rfl, g1_6] at g2_6
  have g2_7 := one_gv 8 st1 [4, 2, 2] 7
  rw [many_le (by decide), ← hm2, show List.count (7 : Int) [4, 2, 2] = 0 from rfl, g1_7] at g2_7
  rw [show oftenP st1.1 [4, 2, 2] = min (min (gv st1.1 4 / 1) (gv st1.1 2 / 2)) (gv st1.1 2 / 2) from rfl, g1_4, g1_2] at hm2
  generalize (oneP 8 st1 [4, 2, 2]) = st2 at hn2 g2_2 g2_3 g2_4 g2_5 g2_6 g2_7 ⊢
  obtain ⟨m3, hm3⟩ : ∃ m, m = max 0 (oftenP st2.1 [4, 3]) := ⟨_, rfl⟩
  have hn3 := one_laps 8 st2 [4, 3]
  rw [many_le (by decide), ← hm3, hn2] at hn3
  have g3_2 := one_gv 8 st2 [4, 3] 2
  rw [many_le (by decide), ← hm3, show List.count (2 : Int) [4, 3] = 0 from rfl, g2_2] at g3_2
  have g3_3 := one_gv 8 st2 [4, 3] 3
  rw [many_le (by decide), ← hm3, show List.count (3 : Int) [4, 3] = 1 from rfl, g2_3] at g3_3
  have g3_4 := one_gv 8 st2 [4, 3] 4
  rw [many_le (by decide), ← hm3, show List.count (4 : Int) [4, 3] = 1 from rfl, g2_4] at g3_4
  have g3_5 := one_gv 8 st2 [4, 3] 5
  rw [many_le (by decide), ← hm3, show List.count (5 : Int) [4, 3] = 0 from rfl, g2_5] at g3_5
  have g3_6 := one_gv 8 st2 [4, 3] 6
  rw [many_le (by decide), ← hm3, show List.count (6 : Int) [4, 3] = 0 from rfl, g2_6] at g3_6
  have g3_7 := one_gv 8 st2 [4, 3] 7
  rw [many_le (by decide), ← hm3, show List.count (7 : Int) [4, 3] = 0 from rfl, g2_7] at g3_7
  rw [show oftenP st2.1 [4, 3] = min (gv st2.1 4 / 1) (gv st2.1 3 / 1) from rfl, g2_4, g2_3] at hm3
  generalize (oneP 8 st2 [4, 3]) = st3 at hn3 g3_2 g3_3 g3_4 g3_5 g3_6 g3_7 ⊢
  obtain ⟨m4, hm4⟩ : ∃ m, m = max 0 (oftenP st3.1 [4, 2]) := ⟨_, rfl⟩
  have hn4 := one_laps 8 st3 [4, 2]
  rw [many_le (by decide), ← hm4, hn3] at hn4
  have g4_2 := one_gv 8 st3 [4, 2] 2
  rw [many_le (by decide), ← hm4, show List.count (2 : Int) [4, 2] = 1 from rfl, g3_2] at g4_2
  have g4_3 := one_gv 8 st3 [4, 2] 3
  rw [many_le (by decide), ← hm4, show List.count (3 : Int) [4, 2] = 0 from rfl, g3_3] at g4_3
  have g4_4 := one_gv 8 st3 [4, 2] 4
  rw [many_le (by decide), ← hm4, show List.count (4 : Int) [4, 2] = 1 from rfl, g3_4] at g4_4
  have g4_5 := one_gv 8 st3 [4, 2] 5
  rw [many_le (by decide), ← hm4, show List.count (5 : Int) [4, 2] = 0 from rfl, g3_5] at g4_5
  have g4_6 := one_gv 8 st3 [4, 2] 6
  rw [many_le (by decide), ← hm4, show List.count (6 : Int) [4, 2] = 0 from rfl, g3_6] at g4_6
  have g4_7 := one_gv 8 st3 [4, 2] 7
  rw [many_le (by decide), ← hm4, show List.count (7 : Int) [4, 2] = 0 from rfl, g3_7] at g4_7
  rw [show oftenP st3.1 [4, 2] = min (gv st3.1 4 / 1) (gv st3.1 2 / 1) from rfl, g3_4, g3_2] at hm4
  generalize (oneP 8 st3 [4, 2]) = st4 at hn4 g4_2 g4_3 g4_4 g4_5 g4_6 g4_7 ⊢
  obtain ⟨m5, hm5⟩ : ∃ m, m = max 0 (oftenP st4.1 [4]) := ⟨_, rfl⟩
  have hn5 := one_laps 8 st4 [4]
  rw [many_le (by decide), ← hm5, hn4] at hn5
  have g5_2 := one_gv 8 st4 [4] 2
  rw [many_le (by decide), ← hm5, show List.count (2 : Int) [4] = 0 from rfl, g4_2] at g5_2
  have g5_3 := one_gv 8 st4 [4] 3
  rw [many_le (by decide), ← hm5, show List.count (3 : Int) [4] = 0 from rfl, g4_3] at g5_3
  have g5_4 := one_gv 8 st4 [4] 4
  rw [many_le (by decide), ← hm5, show List.count (4 : Int) [4] = 1 from rfl, g4_4] at g5_4
  have g5_5 := one_gv 8 st4 [4] 5
  rw [many_le (by decide), ← hm5, show List.count (5 : Int) [4] = 0 from rfl, g4_5] at g5_5
  have g5_6 := one_gv 8 st4 [4] 6
  rw [many_le (by decide), ← hm5, show List.count (6 : Int) [4] = 0 from rfl, g4_6] at g5_6
  have g5_7 := one_gv 8 st4 [4] 7
  rw [many_le (by decide), ← hm5, show List.count (7 : Int) [4] = 0 from rfl, g4_7] at g5_7
  rw [show oftenP st4.1 [4] = gv st4.1 4 / 1 from rfl, g4_4] at hm5
  generalize (oneP 8 st4 [4]) = st5 at hn5 g5_2 g5_3 g5_4 g5_5 g5_6 g5_7 ⊢
  rw [hn5, g5_2, g5_3, g5_4, g5_5, g5_6, g5_7]
  exact z4c_n _ _ _ _ _ _ _ m1 m2 m3 m4 m5 h4 h3 h2 hm1 hm2 hm3 hm4 hm5
theorem z4f_n (n0 a2 a3 a4 a5 a6 a7 m1 m2 m3 m4 m5 : Int) (h4 : 0 ≤ a4) (h3 : 0 ≤ a3) (h2 : 0 ≤ a2) (hm1 : m1 = max 0 (min ((a4) / 2) ((a4) / 2))) (hm2 : m2 = max 0 (min ((a4 - m1 * 2) / 1) ((a3 - m1 * 0) / 1))) (hm3 : m3 = max 0 (min (min ((a4 - m1 * 2 - m2 * 1) / 1) ((a2 - m1 * 0 - m2 * 0) / 2)) ((a2 - m1 * 0 - m2 * 0) / 2))) (hm4 : m4 = max 0 (min ((a4 - m1 * 2 - m2 * 1 - m3 * 1) / 1) ((a2 - m1 * 0 - m2 * 0 - m3 * 2) / 1))) (hm5 : m5 = max 0 ((a4 - m1 * 2 - m2 * 1 - m3 * 1 - m4 * 1) / 1)) : n0 + m1 + m2 + m3 + m4 + m5 = n0 + a4 / 2 + a4 % 2 ∧ a2 - m1 * 0 - m2 * 0 - m3 * 2 - m4 * 1 - m5 * 0 = (if a4 % 2 = 1 then (if 1 ≤ a3 then a2 else max 0 (a2 - 2)) else a2) ∧ a3 - m1 * 0 - m2 * 1 - m3 * 0 - m4 * 0 - m5 * 0 = (if a4 % 2 = 1 then max 0 (a3 - 1) else a3) ∧ a4 - m1 * 2 - m2 * 1 - m3 * 1 - m4 * 1 - m5 * 1 = 0 ∧ a5 - m1 * 0 - m2 * 0 - m3 * 0 - m4 * 0 - m5 * 0 = a5 ∧ a6 - m1 * 0 - m2 * 0 - m3 * 0 - m4 * 0 - m5 * 0 = a6 ∧ a7 - m1 * 0 - m2 * 0 - m3 * 0 - m4 * 0 - m5 * 0 = a7 := by
  by_cases c0 : a4 % 2 = 0
  · skip
    have v1 : a4 / 2 = m1 := by clear hm2 hm3 hm4 hm5; omega
    clear hm1
    subst v1
    have v2 : 0 = m2 := by clear hm3 hm4 hm5; omega
    clear hm2
    subst v2
    have v3 : 0 = m3 := by clear hm4 hm5; omega
    clear hm3
    subst v3
    have v4 : 0 = m4 := by clear hm5; omega
    clear hm4
    subst v4
    have v5 : 0 = m5 := by omega
    clear hm5
    subst v5
    refine ⟨?_, ?_, ?_, ?_, ?_, ?_, ?_⟩ <;> omega
  · skip
    by_cases c1 : 1 ≤ a3
    · skip
      have v1 : a4 / 2 = m1 := by clear hm2 hm3 hm4 hm5; omega
      clear hm1
      subst v1
      have v2 : 1 = m2 := by clear hm3 hm4 hm5; omega
      clear hm2
      subst v2
      have v3 : 0 = m3 := by clear hm4 hm5; omega
      clear hm3
      subst v3
      have v4 : 0 = m4 := by clear hm5; omega
      clear hm4
      subst v4
      have v5 : 0 = m5 := by omega
      clear hm5
      subst v5
      refine ⟨?_, ?_, ?_, ?_, ?_, ?_, ?_⟩ <;> omega
    · skip
      by_cases c2 : 2 ≤ a2
      · skip
        have v1 : a4 / 2 = m1 := by clear hm2 hm3 hm4 hm5; omega
        clear hm1
        subst v1
        have v2 : 0 = m2 := by clear hm3 hm4 hm5; omega
        clear hm2
        subst v2
        have v3 : 1 = m3 := by clear hm4 hm5; omega
        clear hm3
        subst v3
        have v4 : 0 = m4 := by clear hm5; omega
        clear hm4
        subst v4
        have v5 : 0 = m5 := by omega
        clear hm5
        subst v5
        refine ⟨?_, ?_, ?_, ?_, ?_, ?_, ?_⟩ <;> omega
      · skip
        by_cases c3 : a2 = 1
        · skip
          have v1 : a4 / 2 = m1 := by clear hm2 hm3 hm4 hm5; omega
          clear hm1
          subst v1
          have v2 : 0 = m2 := by clear hm3 hm4 hm5; omega
          clear hm2
          subst v2
          have v3 : 0 = m3 := by clear hm4 hm5; omega
          clear hm3
          subst v3
          have v4 : 1 = m4 := by clear hm5; omega
          clear hm4
          subst v4
          have v5 : 0 = m5 := by omega
          clear hm5
          subst v5
          refine ⟨?_, ?_, ?_, ?_, ?_, ?_, ?_⟩ <;> omega
        · skip
          have v1 : a4 / 2 = m1 := by clear hm2 hm3 hm4 hm5; omega
          clear hm1
          subst v1
          have v2 : 0 = m2 := by clear hm3 hm4 hm5; omega
          clear hm2
          subst v2
          have v3 : 0 = m3 := by clear hm4 hm5; omega
          clear hm3
          subst v3
          have v4 : 0 = m4 := by clear hm5; omega
          clear hm4
          subst v4
          have v5 : 1 = m5 := by omega
          clear hm5
          subst v5
          refine ⟨?_, ?_, ?_, ?_, ?_, ?_, ?_⟩ <;> omega
theorem z4f (st : PkS) (h4 : 0 ≤ gv st.1 4) (h3 : 0 ≤ gv st.1 3) (h2 : 0 ≤ gv st.1 2) : lapsP (sizeP 8 ffL st 4).2 = lapsP st.2 + gv st.1 4 / 2 + gv st.1 4 % 2 ∧ gv (sizeP 8 ffL st 4).1 2 = (if gv st.1 4 % 2 = 1 then (if 1 ≤ gv st.1 3 then gv st.1 2 else max 0 (gv st.1 2 - 2)) else gv st.1 2) ∧ gv (sizeP 8 ffL st 4).1 3 = (if gv st.1 4 % 2 = 1 then max 0 (gv st.1 3 - 1) else gv st.1 3) ∧ gv (sizeP 8 ffL st 4).1 4 = 0 ∧ gv (sizeP 8 ffL st 4).1 5 = gv st.1 5 ∧ gv (sizeP 8 ffL st 4).1 6 = gv st.1 6 ∧ gv (sizeP 8 ffL st 4).1 7 = gv st.1 7 := by
  have e : sizeP 8 ffL st 4 = oneP 8 (oneP 8 (oneP 8 (oneP 8 (oneP 8 st [4, 4]) [4, 3]) [4, 2, 2]) [4, 2]) [4] := rfl
  rw [e]
  obtain ⟨m1, hm1⟩ : ∃ m, m = max 0 (oftenP st.1 [4, 4]) := ⟨_, rfl⟩
  have hn1 := one_laps 8 st [4, 4]
  rw [many_le (by decide), ← hm1] at hn1
  have g1_2 := one_gv 8 st [4, 4] 2
  rw [many_le (by decide), ← hm1, show List.count (2 : Int) [4, 4] = 0 from rfl] at g1_2
  have g1_3 := one_gv 8 st [4, 4] 3
  rw [many_le (by decide), ← hm1, show List.count (3 : Int) [4, 4] = 0 from rfl] at g1_3
  have g1_4 := one_gv 8 st [4, 4] 4
  rw [many_le (by decide), ← hm1, show List.count (4 : Int) [4, 4] = 2 from rfl] at g1_4
  have g1_5 := one_gv 8 st [4, 4] 5
  rw [many_le (by decide), ← hm1, show List.count (5 : Int) [4, 4] = 0 from rfl] at g1_5
  have g1_6 := one_gv 8 st [4, 4] 6
  rw [many_le (by decide), ← hm1, show List.count (6 : Int) [4, 4] = 0 from rfl] at g1_6
  have g1_7 := one_gv 8 st [4, 4] 7
  rw [many_le (by decide), ← hm1, show List.count (7 : Int) [4, 4] = 0 from rfl] at g1_7
  rw [show oftenP st.1 [4, 4] = min (gv st.1 4 / 2) (gv st.1 4 / 2) from rfl] at hm1
  generalize (oneP 8 st [4, 4]) = st1 at hn1 g1_2 g1_3 g1_4 g1_5 g1_6 g1_7 ⊢
  obtain ⟨m2, hm2⟩ : ∃ m, m = max 0 (oftenP st1.1 [4, 3]) := ⟨_, rfl⟩
  have hn2 := one_laps 8 st1 [4, 3]
  rw [many_le (by decide), ← hm2, hn1] at hn2
  have g2_2 := one_gv 8 st1 [4, 3] 2
  rw [many_le (by decide), ← hm2, show List.count (2 : Int) [4, 3] = 0 from rfl, g1_2] at g2_2
  have g2_3 := one_gv 8 st1 [4, 3] 3
  rw [many_le (by decide), ← hm2, show List.count (3 : Int) [4, 3] = 1 from rfl, g1_3] at g2_3
  have g2_4 := one_gv 8 st1 [4, 3] 4
  rw [many_le (by decide), ← hm2, show List.count (4 : Int) [4, 3] = 1 from rfl, g1_4] at g2_4
  have g2_5 := one_gv 8 st1 [4, 3] 5
  rw [many_le (by decide), ← hm2, show List.count (5 : Int) [4, 3] = 0 from rfl, g1_5] at g2_5
  have g2_6 := one_gv 8 st1 [4, 3] 6
  rw [many_le (by decide), ← hm2, show List.count (6 : Int) [4, 3] = 0 from rfl, g1_6] at g2_6
  have g2_7 := one_gv 8 st1 [4, 3] 7
  rw [many_le (by decide), ← hm2, show List.count (7 : Int) [4, 3] = 0 from rfl, g1_7] at g2_7
  rw [show oftenP st1.1 [4, 3] = min (gv st1.1 4 / 1) (gv st1.1 3 / 1) from rfl, g1_4, g1_3] at hm2
  generalize (oneP 8 st1 [4, 3]) = st2 at hn2 g2_2 g2_3 g2_4 g2_5 g2_6 g2_7 ⊢
  obtain ⟨m3, hm3⟩ : ∃ m, m = max 0 (oftenP st2.1 [4, 2, 2]) := ⟨_, rfl⟩
  have hn3 := one_laps 8 st2 [4, 2, 2]
  rw [many_le (by decide), ← hm3, hn2] at hn3
  have g3_2 := one_gv 8 st2 [4, 2, 2] 2
  rw [many_le (by decide), ← hm3, show List.count (2 : Int) [4, 2, 2] = 2 from rfl, g2_2] at g3_2
  have g3_3 := one_gv 8 st2 [4, 2, 2] 3
  rw [many_le (by decide), ← hm3, show List.count (3 : Int) [4, 2, 2] = 0 from rfl, g2_3] at g3_3
  have g3_4 := one_gv 8 st2 [4, 2, 2] 4
  rw [many_le (by decide), ← hm3, show List.count (4 : Int) [4, 2, 2] = 1 from rfl, g2_4] at g3_4
  have g3_5 := one_gv 8 st2 [4, 2, 2] 5
  rw [many_le (by decide), ← hm3, show List.count (5 : Int) [4, 2, 2] = 0 from rfl, g2_5] at g3_5
  have g3_6 := one_gv 8 st2 [4, 2, 2] 6
  rw [many_le (by decide), ← hm3, show List.count (6 : Int) [4, 2, 2] = 0 from rfl, g2_6] at g3_6
  have g3_7 := one_gv 8 st2 [4, 2, 2] 7
  rw [many_le (by decide), ← hm3, show List.count (7 : Int) [4, 2, 2] = 0 from rfl, g2_7] at g3_7
  rw [show oftenP st2.1 [4, 2, 2] = min (min (gv st2.1 4 / 1) (gv st2.1 2 / 2)) (gv st2.1 2 / 2) from rfl, g2_4, g2_2] at hm3
  generalize (oneP 8 st2 [4, 2, 2]) = st3 at hn3 g3_2 g3_3 g3_4 g3_5 g3_6 g3_7 ⊢
  obtain ⟨m4, hm4⟩ : ∃ m, m = max 0 (oftenP st3.1 [4, 2]) := ⟨_, rfl⟩
  have hn4 := one_laps 8 st3 [4, 2]
  rw [many_le (by decide), ← hm4, hn3] at hn4
  have g4_2 := one_gv 8 st3 [4, 2] 2
  rw [many_le (by decide), ← hm4, show List.count (2 : Int) [4, 2] = 1 from rfl, g3_2] at g4_2
  have g4_3 := one_gv 8 st3 [4, 2] 3
  rw [many_le (by decide), ← hm4, show List.count (3 : Int) [4, 2] = 0 from rfl, g3_3] at g4_3
  have g4_4 := one_gv 8 st3 [4, 2] 4
  rw [many_le (by decide), ← hm4, show List.count (4 : Int) [4, 2] = 1 from rfl, g3_4] at g4_4
  have g4_5 := one_gv 8 st3 [4, 2] 5
  rw [many_le (by decide), ← hm4, show List.count (5 : Int) [4, 2] = 0 from rfl, g3_5] at g4_5
  have g4_6 := one_gv 8 st3 [4, 2] 6
  rw [many_le (by decide), ← hm4, show List.count (6 : Int) [4, 2] = 0 from rfl, g3_6] at g4_6
  have g4_7 := one_gv 8 st3 [4, 2] 7
  rw [many_le (by decide), ← hm4, show List.count (7 : Int) [4, 2] = 0 from rfl, g3_7] at g4_7
  rw [show oftenP st3.1 [4, 2] = min (gv st3.1 4 / 1) (gv st3.1 2 / 1) from rfl, g3_4, g3_2] at hm4
  generalize (oneP 8 st3 [4, 2]) = st4 at hn4 g4_2 g4_3 g4_4 g4_5 g4_6 g4_7 ⊢
  obtain ⟨m5, hm5⟩ : ∃ m, m = max 0 (oftenP st4.1 [4]) := ⟨_, rfl⟩
  have hn5 := one_laps 8 st4 [4]
  rw [many_le (by decide), ← hm5, hn4] at hn5
  have g5_2 := one_gv 8 st4 [4] 2
  rw [many_le (by decide), ← hm5, show List.count (2 : Int) [4] = 0 from rfl, g4_2] at g5_2
  have g5_3 := one_gv 8 st4 [4] 3
  rw [many_le (by decide), ← hm5, show List.count (3 : Int) [4] = 0 from rfl, g4_3] at g5_3
  have g5_4 := one_gv 8 st4 [4] 4
  rw [many_le (by decide), ← hm5, show List.count (4 : Int) [4] = 1 from rfl, g4_4] at g5_4
  have g5_5 := one_gv 8 st4 [4] 5
  rw [many_le (by decide), ← hm5, show List.count (5 : Int) [4] = 0 from rfl, g4_5] at g5_5
  have g5_6 := one_gv 8 st4 [4] 6
  rw [many_le (by decide), ← hm5, show List.count (6 : Int) [4] = 0 from rfl, g4_6] at g5_6
  have g5_7 := one_gv 8 st4 [4] 7
  rw [many_le (by decide), ← hm5, show List.count (7 : Int) [4] = 0 from rfl, g4_7] at g5_7
  rw [show oftenP st4.1 [4] = gv st4.1 4 / 1 from rfl, g4_4] at hm5
  generalize (oneP 8 st4 [4]) = st5 at hn5 g5_2 g5_3 g5_4 g5_5 g5_6 g5_7 ⊢
  rw [hn5, g5_2, g5_3, g5_4, g5_5, g5_6, g5_7]
  exact z4f_n _ _ _ _ _ _ _ m1 m2 m3 m4 m5 h4 h3 h2 hm1 hm2 hm3 hm4 hm5
theorem z3_n (n0 a2 a3 a4 a5 a6 a7 m1 m2 m3 m4 m5 : Int) (h3 : 0 ≤ a3) (h2 : 0 ≤ a2) (hm1 : m1 = max 0 (min (min ((a3) / 2) ((a3) / 2)) ((a2) / 1))) (hm2 : m2 = max 0 (min ((a3 - m1 * 2) / 2) ((a3 - m1 * 2) / 2))) (hm3 : m3 = max 0 (min (min ((a3 - m1 * 2 - m2 * 2) / 1) ((a2 - m1 * 1 - m2 * 0) / 2)) ((a2 - m1 * 1 - m2 * 0) / 2))) (hm4 : m4 = max 0 (min ((a3 - m1 * 2 - m2 * 2 - m3 * 1) / 1) ((a2 - m1 * 1 - m2 * 0 - m3 * 2) / 1))) (hm5 : m5 = max 0 ((a3 - m1 * 2 - m2 * 2 - m3 * 1 - m4 * 1) / 1)) : n0 + m1 + m2 + m3 + m4 + m5 = n0 + a3 / 2 + a3 % 2 ∧ a2 - m1 * 1 - m2 * 0 - m3 * 2 - m4 * 1 - m5 * 0 = max 0 (a2 - a3 / 2 - 2 * (a3 % 2)) ∧ a3 - m1 * 2 - m2 * 2 - m3 * 1 - m4 * 1 - m5 * 1 = 0 ∧ a4 - m1 * 0 - m2 * 0 - m3 * 0 - m4 * 0 - m5 * 0 = a4 ∧ a5 - m1 * 0 - m2 * 0 - m3 * 0 - m4 * 0 - m5 * 0 = a5 ∧ a6 - m1 * 0 - m2 * 0 - m3 * 0 - m4 * 0 - m5 * 0 = a6 ∧ a7 - m1 * 0 - m2 * 0 - m3 * 0 - m4 * 0 - m5 * 0 = a7 := by
  by_cases c0 : a3 / 2 ≤ a2
  · skip
    by_cases c1 : a3 % 2 = 0
    · skip
      have v1 : a3 / 2 = m1 := by clear hm2 hm3 hm4 hm5; omega
      clear hm1
      subst v1
      have v2 : 0 = m2 := by clear hm3 hm4 hm5; omega
      clear hm2
      subst v2
      have v3 : 0 = m3 := by clear hm4 hm5; omega
      clear hm3
      subst v3
      have v4 : 0 = m4 := by clear hm5; omega
      clear hm4
      subst v4
      have v5 : 0 = m5 := by omega
      clear hm5
      subst v5
      refine ⟨?_, ?_, ?_, ?_, ?_, ?_, ?_⟩ <;> omega
    · skip
      by_cases c2 : 2 ≤ a2 - a3 / 2
      · skip
        have v1 : a3 / 2 = m1 := by clear hm2 hm3 hm4 hm5; omega
        clear hm1
        subst v1
        have v2 : 0 = m2 := by clear hm3 hm4 hm5; omega
        clear hm2
        subst v2
        have v3 : 1 = m3 := by clear hm4 hm5; omega
        clear hm3
        subst v3
        have v4 : 0 = m4 := by clear hm5; omega
        clear hm4
        subst v4
        have v5 : 0 = m5 := by omega
        clear hm5
        subst v5
        refine ⟨?_, ?_, ?_, ?_, ?_, ?_, ?_⟩ <;> omega
      · skip
        by_cases c3 : a2 - a3 / 2 = 1
        · skip
          have v1 : a3 / 2 = m1 := by clear hm2 hm3 hm4 hm5; omega
          clear hm1
          subst v1
          have v2 : 0 = m2 := by clear hm3 hm4 hm5; omega
          clear hm2
          subst v2
          have v3 : 0 = m3 := by clear hm4 hm5; omega
          clear hm3
          subst v3
          have v4 : 1 = m4 := by clear hm5; omega
          clear hm4
          subst v4
          have v5 : 0 = m5 := by omega
          clear hm5
          subst v5
          refine ⟨?_, ?_, ?_, ?_, ?_, ?_, ?_⟩ <;> omega
        · skip
          have v1 : a3 / 2 = m1 := by clear hm2 hm3 hm4 hm5; omega
          clear hm1
          subst v1
          have v2 : 0 = m2 := by clear hm3 hm4 hm5; omega
          clear hm2
          subst v2
          have v3 : 0 = m3 := by clear hm4 hm5; omega
          clear hm3
          subst v3
          have v4 : 0 = m4 := by clear hm5; omega
          clear hm4
          subst v4
          have v5 : 1 = m5 := by omega
          clear hm5
          subst v5
          refine ⟨?_, ?_, ?_, ?_, ?_, ?_, ?_⟩ <;> omega
  · skip
    have v1 : a2 = m1 := by clear hm2 hm3 hm4 hm5; omega
    clear hm1
    subst v1
    have v2 : a3 / 2 - a2 = m2 := by clear hm3 hm4 hm5; omega
    clear hm2
    subst v2
    have v3 : 0 = m3 := by clear hm4 hm5; omega
    clear hm3
    subst v3
    have v4 : 0 = m4 := by clear hm5; omega
    clear hm4
    subst v4
    have v5 : a3 % 2 = m5 := by omega
    clear hm5
    subst v5
    refine ⟨?_, ?_, ?_, ?_, ?_, ?_, ?_⟩ <;> omega
theorem z3 (o4 : List (List Int)) (st : PkS) (h3 : 0 ≤ gv st.1 3) (h2 : 0 ≤ gv st.1 2) : lapsP (sizeP 8 o4 st 3).2 = lapsP st.2 + gv st.1 3 / 2 + gv st.1 3 % 2 ∧ gv (sizeP 8 o4 st 3).1 2 = max 0 (gv st.1 2 - gv st.1 3 / 2 - 2 * (gv st.1 3 % 2)) ∧ gv (sizeP 8 o4 st 3).1 3 = 0 ∧ gv (sizeP 8 o4 st 3).1 4 = gv st.1 4 ∧ gv (sizeP 8 o4 st 3).1 5 = gv st.1 5 ∧ gv (sizeP 8 o4 st 3).1 6 = gv st.1 6 ∧ gv (sizeP 8 o4 st 3).1 7 = gv st.1 7 := by
  have e : sizeP 8 o4 st 3 = oneP 8 (oneP 8 (oneP 8 (oneP 8 (oneP 8 st [3, 3, 2]) [3, 3]) [3, 2, 2]) [3, 2]) [3] := rfl
  rw [e]
  obtain ⟨m1, hm1⟩ : ∃ m, m = max 0 (oftenP st.1 [3, 3, 2]) := ⟨_, rfl⟩
  have hn1 := one_laps 8 st [3, 3, 2]
  rw [many_le (by decide), ← hm1] at hn1
  have g1_2 := one_gv 8 st [3, 3, 2] 2
  rw [many_le (by decide), ← hm1, show List.count (2 : Int) [3, 3, 2] = 1 from rfl] at g1_2
  have g1_3 := one_gv 8 st [3, 3, 2] 3
  rw [many_le (by decide), ← hm1, show List.count (3 : Int) [3, 3, 2] = 2 from rfl] at g1_3
  have g1_4 := one_gv 8 st [3, 3, 2] 4
  rw [many_le (by decide), ← hm1, show List.count (4 : Int) [3, 3, 2] = 0 from rfl] at g1_4
  have g1_5 := one_gv 8 st [3, 3, 2] 5
  rw [many_le (by decide), ← hm1, show List.count (5 : Int) [3, 3, 2] = 0 from rfl] at g1_5
  have g1_6 := one_gv 8 st [3, 3, 2] 6
  rw [many_le (by decide), ← hm1, show List.count (6 : Int) [3, 3, 2] = 0 from rfl] at g1_6
  have g1_7 := one_gv 8 st [3, 3, 2] 7
  rw [many_le (by decide), ← hm1, show List.count (7 : Int) [3, 3, 2] = 0 from rfl] at g1_7
  rw [show oftenP st.1 [3, 3, 2] = min (min (gv st.1 3 / 2) (gv st.1 3 / 2)) (gv st.1 2 / 1) from rfl] at hm1
  generalize (oneP 8 st [3, 3, 2]) = st1 at hn1 g1_2 g1_3 g1_4 g1_5 g1_6 g1_7 ⊢
  obtain ⟨m2, hm2⟩ : ∃ m, m = max 0 (oftenP st1.1 [3, 3]) := ⟨_, rfl⟩
  have hn2 := one_laps 8 st1 [3, 3]
  rw [many_le (by decide), ← hm2, hn1] at hn2
  have g2_2 := one_gv 8 st1 [3, 3] 2
  rw [many_le (by decide), ← hm2, show List.count (2 : Int) [3, 3] = 0 from rfl, g1_2] at g2_2
  have g2_3 := one_gv 8 st1 [3, 3] 3
  rw [many_le (by decide), ← hm2, show List.count (3 : Int) [3, 3] = 2 from rfl, g1_3] at g2_3
  have g2_4 := one_gv 8 st1 [3, 3] 4
  rw [many_le (by decide), ← hm2, show List.count (4 : Int) [3, 3] = 0 from rfl, g1_4] at g2_4
  have g2_5 := one_gv 8 st1 [3, 3] 5
  rw [many_le (by decide), ← hm2, show List.count (5 : Int) [3, 3] = 0 from rfl, g1_5] at g2_5
  have g2_6 := one_gv 8 st1 [3, 3] 6
  rw [many_le (by decide), ← hm2, show List.count (6 : Int) [3, 3] = 0 from rfl, g1_6] at g2_6
  have g2_7 := one_gv 8 st1 [3, 3] 7
  rw [many_le (by decide), ← hm2, show List.count (7 : Int) [3, 3] = 0 from rfl, g1_7] at g2_7
  rw [show oftenP st1.1 [3, 3] = min (gv st1.1 3 / 2) (gv st1.1 3 / 2) from rfl, g1_3] at hm2
  generalize (oneP 8 st1 [3, 3]) = st2 at hn2 g2_2 g2_3 g2_4 g2_5 g2_6 g2_7 ⊢
  obtain ⟨m3, hm3⟩ : ∃ m, m = max 0 (oftenP st2.1 [3, 2, 2]) := ⟨_, rfl⟩
  have hn3 := one_laps 8 st2 [3, 2, 2]
  rw [many_le (by decide), ← hm3, hn2] at hn3
  have g3_2 := one_gv 8 st2 [3, 2, 2] 2
  rw [many_le (by decide), ← hm3, show List.count (2 : Int) [3, 2, 2] = 2 from rfl, g2_2] at g3_2
  have g3_3 := one_gv 8 st2 [3, 2, 2] 3
  rw [many_le (by decide), ← hm3, show List.count (3 : Int) [3, 2, 2] = 1 from rfl, g2_3] at g3_3
  have g3_4 := one_gv 8 st2 [3, 2, 2] 4
  rw [many_le (by decide), ← hm3, show List.count (4 : Int) [3, 2, 2] = 0 from rfl, g2_4] at g3_4
  have g3_5 := one_gv 8 st2 [3, 2, 2] 5
  rw [many_le (by decide), ← hm3, show List.count (5 : Int) [3, 2, 2] = 0 from rfl, g2_5] at g3_5
  have g3_6 := one_gv 8 st2 [3, 2, 2] 6
  rw [many_le (by decide), ← hm3, show List.count (6 : Int) [3, 2, 2] = 0 from rfl, g2_6] at g3_6
  have g3_7 := one_gv 8 st2 [3, 2, 2] 7
  rw [many_le (by decide), ← hm3, show List.count (7 : Int) [3, 2, 2] = 0 from rfl, g2_7] at g3_7
  rw [show oftenP st2.1 [3, 2, 2] = min (min (gv st2.1 3 / 1) (gv st2.1 2 / 2)) (gv st2.1 2 / 2) from rfl, g2_3, g2_2] at hm3
  generalize (oneP 8 st2 [3, 2, 2]) = st3 at hn3 g3_2 g3_3 g3_4 g3_5 g3_6 g3_7 ⊢
  obtain ⟨m4, hm4⟩ : ∃ m, m = max 0 (oftenP st3.1 [3, 2]) := ⟨_, rfl⟩
  have hn4 := one_laps 8 st3 [3, 2]
  rw [many_le (by decide), ← hm4, hn3] at hn4
  have g4_2 := one_gv 8 st3 [3, 2] 2
  rw [many_le (by decide), ← hm4, show List.count (2 : Int) [3, 2] = 1 from rfl, g3_2] at g4_2
  have g4_3 := one_gv 8 st3 [3, 2] 3
  rw [many_le (by decide), ← hm4, show List.count (3 : Int) [3, 2] = 1 from rfl, g3_3] at g4_3
  have g4_4 := one_gv 8 st3 [3, 2] 4
  rw [many_le (by decide), ← hm4, show List.count (4 : Int) [3, 2] = 0 from rfl, g3_4] at g4_4
  have g4_5 := one_gv 8 st3 [3, 2] 5
  rw [many_le (by decide), ← hm4, show List.count (5 : Int) [3, 2] = 0 from rfl, g3_5] at g4_5
  have g4_6 := one_gv 8 st3 [3, 2] 6
  rw [many_le (by decide), ← hm4, show List.count (6 : Int) [3, 2] = 0 from rfl, g3_6] at g4_6
  have g4_7 := one_gv 8 st3 [3, 2] 7
  rw [many_le (by decide), ← hm4, show List.count (7 : Int) [3, 2] = 0 from rfl, g3_7] at g4_7
  rw [show oftenP st3.1 [3, 2] = min (gv st3.1 3 / 1) (gv st3.1 2 / 1) from rfl, g3_3, g3_2] at hm4
  generalize (oneP 8 st3 [3, 2]) = st4 at hn4 g4_2 g4_3 g4_4 g4_5 g4_6 g4_7 ⊢
  obtain ⟨m5, hm5⟩ : ∃ m, m = max 0 (oftenP st4.1 [3]) := ⟨_, rfl⟩
  have hn5 := one_laps 8 st4 [3]
  rw [many_le (by decide), ← hm5, hn4] at hn5
  have g5_2 := one_gv 8 st4 [3] 2
  rw [many_le (by decide), ← hm5, show List.count (2 : Int) [3] = 0 from rfl, g4_2] at g5_2
  have g5_3 := one_gv 8 st4 [3] 3
  rw [many_le (by decide), ← hm5, show List.count (3 : Int) [3] = 1 from rfl, g4_3] at g5_3
  have g5_4 := one_gv 8 st4 [3] 4
  rw [many_le (by decide), ← hm5, show List.count (4 : Int) [3] = 0 from rfl, g4_4] at g5_4
  have g5_5 := one_gv 8 st4 [3] 5
  rw [many_le (by decide), ← hm5, show List.count (5 : Int) [3] = 0 from rfl, g4_5] at g5_5
  have g5_6 := one_gv 8 st4 [3] 6
  rw [many_le (by decide), ← hm5, show List.count (6 : Int) [3] = 0 from rfl, g4_6] at g5_6
  have g5_7 := one_gv 8 st4 [3] 7
  rw [many_le (by decide), ← hm5, show List.count (7 : Int) [3] = 0 from rfl, g4_7] at g5_7
  rw [show oftenP st4.1 [3] = gv st4.1 3 / 1 from rfl, g4_3] at hm5
  generalize (oneP 8 st4 [3]) = st5 at hn5 g5_2 g5_3 g5_4 g5_5 g5_6 g5_7 ⊢
  rw [hn5, g5_2, g5_3, g5_4, g5_5, g5_6, g5_7]
  exact z3_n _ _ _ _ _ _ _ m1 m2 m3 m4 m5 h3 h2 hm1 hm2 hm3 hm4 hm5
theorem z2_n (n0 a2 a3 a4 a5 a6 a7 m1 m2 m3 m4 : Int) (h2 : 0 ≤ a2) (hm1 : m1 = max 0 (min (min (min ((a2) / 4) ((a2) / 4)) ((a2) / 4)) ((a2) / 4))) (hm2 : m2 = max 0 (min (min ((a2 - m1 * 4) / 3) ((a2 - m1 * 4) / 3)) ((a2 - m1 * 4) / 3))) (hm3 : m3 = max 0 (min ((a2 - m1 * 4 - m2 * 3) / 2) ((a2 - m1 * 4 - m2 * 3) / 2))) (hm4 : m4 = max 0 ((a2 - m1 * 4 - m2 * 3 - m3 * 2) / 1)) : n0 + m1 + m2 + m3 + m4 = n0 + (a2 + 3) / 4 ∧ a2 - m1 * 4 - m2 * 3 - m3 * 2 - m4 * 1 = 0 ∧ a3 - m1 * 0 - m2 * 0 - m3 * 0 - m4 * 0 = a3 ∧ a4 - m1 * 0 - m2 * 0 - m3 * 0 - m4 * 0 = a4 ∧ a5 - m1 * 0 - m2 * 0 - m3 * 0 - m4 * 0 = a5 ∧ a6 - m1 * 0 - m2 * 0 - m3 * 0 - m4 * 0 = a6 ∧ a7 - m1 * 0 - m2 * 0 - m3 * 0 - m4 * 0 = a7 := by
  by_cases c0 : a2 % 4 = 0
  · skip
    have v1 : a2 / 4 = m1 := by clear hm2 hm3 hm4; omega
    clear hm1
    subst v1
    have v2 : 0 = m2 := by clear hm3 hm4; omega
    clear hm2
    subst v2
    have v3 : 0 = m3 := by clear hm4; omega
    clear hm3
    subst v3
    have v4 : 0 = m4 := by omega
    clear hm4
    subst v4
    refine ⟨?_, ?_, ?_, ?_, ?_, ?_, ?_⟩ <;> omega
  · skip
    by_cases c1 : a2 % 4 = 1
    · skip
      have v1 : a2 / 4 = m1 := by clear hm2 hm3 hm4; omega
      clear hm1
      subst v1
      have v2 : 0 = m2 := by clear hm3 hm4; omega
      clear hm2
      subst v2
      have v3 : 0 = m3 := by clear hm4; omega
      clear hm3
      subst v3
      have v4 : 1 = m4 := by omega
      clear hm4
      subst v4
      refine ⟨?_, ?_, ?_, ?_, ?_, ?_, ?_⟩ <;> omega
    · skip
      by_cases c2 : a2 % 4 = 2
      · skip
        have v1 : a2 / 4 = m1 := by clear hm2 hm3 hm4; omega
        clear hm1
        subst v1
        have v2 : 0 = m2 := by clear hm3 hm4; omega
        clear hm2
        subst v2
        have v3 : 1 = m3 := by clear hm4; omega
        clear hm3
        subst v3
        have v4 : 0 = m4 := by omega
        clear hm4
        subst v4
        refine ⟨?_, ?_, ?_, ?_, ?_, ?_, ?_⟩ <;> omega
      · skip
        have v1 : a2 / 4 = m1 := by clear hm2 hm3 hm4; omega
        clear hm1
        subst v1
        have v2 : 1 = m2 := by clear hm3 hm4; omega
        clear hm2
        subst v2
        have v3 : 0 = m3 := by clear hm4; omega
        clear hm3
        subst v3
        have v4 : 0 = m4 := by omega
        clear hm4
        subst v4
        refine ⟨?_, ?_, ?_, ?_, ?_, ?_, ?_⟩ <;> omega
theorem z2 (o4 : List (List Int)) (st : PkS) (h2 : 0 ≤ gv st.1 2) : lapsP (sizeP 8 o4 st 2).2 = lapsP st.2 + (gv st.1 2 + 3) / 4 ∧ gv (sizeP 8 o4 st 2).1 2 = 0 ∧ gv (sizeP 8 o4 st 2).1 3 = gv st.1 3 ∧ gv (sizeP 8 o4 st 2).1 4 = gv st.1 4 ∧ gv (sizeP 8 o4 st 2).1 5 = gv st.1 5 ∧ gv (sizeP 8 o4 st 2).1 6 = gv st.1 6 ∧ gv (sizeP 8 o4 st 2).1 7 = gv st.1 7 := by
  have e : sizeP 8 o4 st 2 = oneP 8 (oneP 8 (oneP 8 (oneP 8 st [2, 2, 2, 2]) [2, 2, 2]) [2, 2]) [2] := rfl
  rw [e]
  obtain ⟨m1, hm1⟩ : ∃ m, m = max 0 (oftenP st.1 [2, 2, 2, 2]) := ⟨_, rfl⟩
  have hn1 := one_laps 8 st [2, 2, 2, 2]
  rw [many_le (by decide), ← hm1] at hn1
  have g1_2 := one_gv 8 st [2, 2, 2, 2] 2
  rw [many_le (by decide), ← hm1, show List.count (2 : Int) [2, 2, 2, 2] = 4 from rfl] at g1_2
  have g1_3 := one_gv 8 st [2, 2, 2, 2] 3
  rw [many_le (by decide), ← hm1, show List.count (3 : Int) [2, 2, 2, 2] = 0 from rfl] at g1_3
  have g1_4 := one_gv 8 st [2, 2, 2, 2] 4
  rw [many_le (by decide), ← hm1, show List.count (4 : Int) [2, 2, 2, 2] = 0 from rfl] at g1_4
  have g1_5 := one_gv 8 st [2, 2, 2, 2] 5
  rw [many_le (by decide), ← hm1, show List.count (5 : Int) [2, 2, 2, 2] = 0 from rfl] at g1_5
  have g1_6 := one_gv 8 st [2, 2, 2, 2] 6
  rw [many_le (by decide), ← hm1, show List.count (6 : Int) [2, 2, 2, 2] = 0 from rfl] at g1_6
  have g1_7 := one_gv 8 st [2, 2, 2, 2] 7
  rw [many_le (by decide), ← hm1, show List.count (7 : Int) [2, 2, 2, 2] = 0 from rfl] at g1_7
  rw [show oftenP st.1 [2, 2, 2, 2] = min (min (min (gv st.1 2 / 4) (gv st.1 2 / 4)) (gv st.1 2 / 4)) (gv st.1 2 / 4) from rfl] at hm1
  generalize (oneP 8 st [2, 2, 2, 2]) = st1 at hn1 g1_2 g1_3 g1_4 g1_5 g1_6 g1_7 ⊢
  obtain ⟨m2, hm2⟩ : ∃ m, m = max 0 (oftenP st1.1 [2, 2, 2]) := ⟨_, rfl⟩
  have hn2 := one_laps 8 st1 [2, 2, 2]
  rw [many_le (by decide), ← hm2, hn1] at hn2
  have g2_2 := one_gv 8 st1 [2, 2, 2] 2
  rw [many_le (by decide), ← hm2, show List.count (2 : Int) [2, 2, 2] = 3 from rfl, g1_2] at g2_2
  have g2_3 := one_gv 8 st1 [2, 2, 2] 3
  rw [many_le (by decide), ← hm2, show List.count (3 : Int) [2, 2, 2] = 0 from rfl, g1_3] at g2_3
  have g2_4 := one_gv 8 st1 [2, 2, 2] 4
  rw [many_le (by decide), ← hm2, show List.count (4 : Int) [2, 2, 2] = 0 from rfl, g1_4] at g2_4
  have g2_5 := one_gv 8 st1 [2, 2, 2] 5
  rw [many_le (by decide), ← hm2, show List.count (5 : Int) [2, 2, 2] = 0 from rfl, g1_5] at g2_5
  have g2_6 := one_gv 8 st1 [2, 2, 2] 6
  rw [many_le (by decide), ← hm2, show List.count (6 : Int) [2, 2, 2] = 0 from rfl, g1_6] at g2_6
  have g2_7 := one_gv 8 st1 [2, 2, 2] 7
  rw [many_le (by decide), ← hm2, show List.count (7 : Int) [2, 2, 2] = 0 from rfl, g1_7] at g2_7
  rw [show oftenP st1.1 [2, 2, 2] = min (min (gv st1.1 2 / 3) (gv st1.1 2 / 3)) (gv st1.1 2 / 3) from rfl, g1_2] at hm2
  generalize (oneP 8 st1 [2, 2, 2]) = st2 at hn2 g2_2 g2_3 g2_4 g2_5 g2_6 g2_7 ⊢
  obtain ⟨m3, hm3⟩ : ∃ m, m = max 0 (oftenP st2.1 [2, 2]) := ⟨_, rfl⟩
  have hn3 := one_laps 8 st2 [2, 2]
  rw [many_le (by decide), ← hm3, hn2] at hn3
  have g3_2 := one_gv 8 st2 [2, 2] 2
  rw [many_le (by decide), ← hm3, show List.count (2 : Int) [2, 2] = 2 from rfl, g2_2] at g3_2
  have g3_3 := one_gv 8 st2 [2, 2] 3
  rw [many_le (by decide), ← hm3, show List.count (3 : Int) [2, 2] = 0 from rfl, g2_3] at g3_3
  have g3_4 := one_gv 8 st2 [2, 2] 4
  rw [many_le (by decide), ← hm3, show List.count (4 : Int) [2, 2] = 0 from rfl, g2_4] at g3_4
  have g3_5 := one_gv 8 st2 [2, 2] 5
  rw [many_le (by decide), ← hm3, show List.count (5 : Int) [2, 2] = 0 from rfl, g2_5] at g3_5
  have g3_6 := one_gv 8 st2 [2, 2] 6
  rw [many_le (by decide), ← hm3, show List.count (6 : Int) [2, 2] = 0 from rfl, g2_6] at g3_6
  have g3_7 := one_gv 8 st2 [2, 2] 7
  rw [many_le (by decide), ← hm3, show List.count (7 : Int) [2, 2] = 0 from rfl, g2_7] at g3_7
  rw [show oftenP st2.1 [2, 2] = min (gv st2.1 2 / 2) (gv st2.1 2 / 2) from rfl, g2_2] at hm3
  generalize (oneP 8 st2 [2, 2]) = st3 at hn3 g3_2 g3_3 g3_4 g3_5 g3_6 g3_7 ⊢
  obtain ⟨m4, hm4⟩ : ∃ m, m = max 0 (oftenP st3.1 [2]) := ⟨_, rfl⟩
  have hn4 := one_laps 8 st3 [2]
  rw [many_le (by decide), ← hm4, hn3] at hn4
  have g4_2 := one_gv 8 st3 [2] 2
  rw [many_le (by decide), ← hm4, show List.count (2 : Int) [2] = 1 from rfl, g3_2] at g4_2
  have g4_3 := one_gv 8 st3 [2] 3
  rw [many_le (by decide), ← hm4, show List.count (3 : Int) [2] = 0 from rfl, g3_3] at g4_3
  have g4_4 := one_gv 8 st3 [2] 4
  rw [many_le (by decide), ← hm4, show List.count (4 : Int) [2] = 0 from rfl, g3_4] at g4_4
  have g4_5 := one_gv 8 st3 [2] 5
  rw [many_le (by decide), ← hm4, show List.count (5 : Int) [2] = 0 from rfl, g3_5] at g4_5
  have g4_6 := one_gv 8 st3 [2] 6
  rw [many_le (by decide), ← hm4, show List.count (6 : Int) [2] = 0 from rfl, g3_6] at g4_6
  have g4_7 := one_gv 8 st3 [2] 7
  rw [many_le (by decide), ← hm4, show List.count (7 : Int) [2] = 0 from rfl, g3_7] at g4_7
  rw [show oftenP st3.1 [2] = gv st3.1 2 / 1 from rfl, g3_2] at hm4
  generalize (oneP 8 st3 [2]) = st4 at hn4 g4_2 g4_3 g4_4 g4_5 g4_6 g4_7 ⊢
  rw [hn4, g4_2, g4_3, g4_4, g4_5, g4_6, g4_7]
  exact z2_n _ _ _ _ _ _ _ m1 m2 m3 m4 h2 hm1 hm2 hm3 hm4
theorem y3_n (n0 a2 a3 a4 a5 a6 a7 m1 : Int) (h3 : 0 ≤ a3) (h2 : 0 ≤ a2) (hm1 : m1 = max 0 ((a3) / 1)) : n0 + m1 = n0 + a3 ∧ a2 - m1 * 0 = a2 ∧ a3 - m1 * 1 = 0 ∧ a4 - m1 * 0 = a4 ∧ a5 - m1 * 0 = a5 ∧ a6 - m1 * 0 = a6 ∧ a7 - m1 * 0 = a7 := by
  have v1 : a3 = m1 := by omega
  clear hm1
  subst v1
  refine ⟨?_, ?_, ?_, ?_, ?_, ?_, ?_⟩ <;> omega
theorem y3 (o4 : List (List Int)) (st : PkS) (h3 : 0 ≤ gv st.1 3) (h2 : 0 ≤ gv st.1 2) : lapsP (sizeP 4 o4 st 3).2 = lapsP st.2 + gv st.1 3 ∧ gv (sizeP 4 o4 st 3).1 2 = gv st.1 2 ∧ gv (sizeP 4 o4 st 3).1 3 = 0 ∧ gv (sizeP 4 o4 st 3).1 4 = gv st.1 4 ∧ gv (sizeP 4 o4 st 3).1 5 = gv st.1 5 ∧ gv (sizeP 4 o4 st 3).1 6 = gv st.1 6 ∧ gv (sizeP 4 o4 st 3).1 7 = gv st.1 7 := by
  have e : sizeP 4 o4 st 3 = oneP 4 (oneP 4 (oneP 4 (oneP 4 (oneP 4 st [3, 3, 2]) [3, 3]) [3, 2, 2]) [3, 2]) [3] := rfl
  rw [e]
  rw [show (oneP 4 st [3, 3, 2]) = st from one_gt (by decide)]
  rw [show (oneP 4 st [3, 3]) = st from one_gt (by decide)]
  rw [show (oneP 4 st [3, 2, 2]) = st from one_gt (by decide)]
  rw [show (oneP 4 st [3, 2]) = st from one_gt (by decide)]
  obtain ⟨m1, hm1⟩ : ∃ m, m = max 0 (oftenP st.1 [3]) := ⟨_, rfl⟩
  have hn1 := one_laps 4 st [3]
  rw [many_le (by decide), ← hm1] at hn1
  have g1_2 := one_gv 4 st [3] 2
  rw [many_le (by decide), ← hm1, show List.count (2 : Int) [3] = 0 from rfl] at g1_2
  have g1_3 := one_gv 4 st [3] 3
  rw [many_le (by decide), ← hm1, show List.count (3 : Int) [3] = 1 from rfl] at g1_3
  have g1_4 := one_gv 4 st [3] 4
  rw [many_le (by decide), ← hm1, show List.count (4 : Int) [3] = 0 from rfl] at g1_4
  have g1_5 := one_gv 4 st [3] 5
  rw [many_le (by decide), ← hm1, show List.count (5 : Int) [3] = 0 from rfl] at g1_5
  have g1_6 := one_gv 4 st [3] 6
  rw [many_le (by decide), ← hm1, show List.count (6 : Int) [3] = 0 from rfl] at g1_6
  have g1_7 := one_gv 4 st [3] 7
  rw [many_le (by decide), ← hm1, show List.count (7 : Int) [3] = 0 from rfl] at g1_7
  rw [show oftenP st.1 [3] = gv st.1 3 / 1 from rfl] at hm1
  generalize (oneP 4 st [3]) = st1 at hn1 g1_2 g1_3 g1_4 g1_5 g1_6 g1_7 ⊢
  rw [hn1, g1_2, g1_3, g1_4, g1_5, g1_6, g1_7]
  exact y3_n _ _ _ _ _ _ _ m1 h3 h2 hm1
theorem y2_n (n0 a2 a3 a4 a5 a6 a7 m1 m2 : Int) (h2 : 0 ≤ a2) (hm1 : m1 = max 0 (min ((a2) / 2) ((a2) / 2))) (hm2 : m2 = max 0 ((a2 - m1 * 2) / 1)) : n0 + m1 + m2 = n0 + (a2 + 1) / 2 ∧ a2 - m1 * 2 - m2 * 1 = 0 ∧ a3 - m1 * 0 - m2 * 0 = a3 ∧ a4 - m1 * 0 - m2 * 0 = a4 ∧ a5 - m1 * 0 - m2 * 0 = a5 ∧ a6 - m1 * 0 - m2 * 0 = a6 ∧ a7 - m1 * 0 - m2 * 0 = a7 := by
  have v1 : a2 / 2 = m1 := by clear hm2; omega
  clear hm1
  subst v1
  have v2 : a2 % 2 = m2 := by omega
  clear hm2
  subst v2
  refine ⟨?_, ?_, ?_, ?_, ?_, ?_, ?_⟩ <;> omega
theorem y2 (o4 : List (List Int)) (st : PkS) (h2 : 0 ≤ gv st.1 2) : lapsP (sizeP 4 o4 st 2).2 = lapsP st.2 + (gv st.1 2 + 1) / 2 ∧ gv (sizeP 4 o4 st 2).1 2 = 0 ∧ gv (sizeP 4 o4 st 2).1 3 = gv st.1 3 ∧ gv (sizeP 4 o4 st 2).1 4 = gv st.1 4 ∧ gv (sizeP 4 o4 st 2).1 5 = gv st.1 5 ∧ gv (sizeP 4 o4 st 2).1 6 = gv st.1 6 ∧ gv (sizeP 4 o4 st 2).1 7 = gv st.1 7 := by
  have e : sizeP 4 o4 st 2 = oneP 4 (oneP 4 (oneP 4 (oneP 4 st [2, 2, 2, 2]) [2, 2, 2]) [2, 2]) [2] := rfl
  rw [e]
  rw [show (oneP 4 st [2, 2, 2, 2]) = st from one_gt (by decide)]
  rw [show (oneP 4 st [2, 2, 2]) = st from one_gt (by decide)]
  obtain ⟨m1, hm1⟩ : ∃ m, m = max 0 (oftenP st.1 [2, 2]) := ⟨_, rfl⟩
  have hn1 := one_laps 4 st [2, 2]
  rw [many_le (by decide), ← hm1] at hn1
  have g1_2 := one_gv 4 st [2, 2] 2
  rw [many_le (by decide), ← hm1, show List.count (2 : Int) [2, 2] = 2 from rfl] at g1_2
  have g1_3 := one_gv 4 st [2, 2] 3
  rw [many_le (by decide), ← hm1, show List.count (3 : Int) [2, 2] = 0 from rfl] at g1_3
  have g1_4 := one_gv 4 st [2, 2] 4
  rw [many_le (by decide), ← hm1, show List.count (4 : Int) [2, 2] = 0 from rfl] at g1_4
  have g1_5 := one_gv 4 st [2, 2] 5
  rw [many_le (by decide), ← hm1, show List.count (5 : Int) [2, 2] = 0 from rfl] at g1_5
  have g1_6 := one_gv 4 st [2, 2] 6
  rw [many_le (by decide), ← hm1, show List.count (6 : Int) [2, 2] = 0 from rfl] at g1_6
  have g1_7 := one_gv 4 st [2, 2] 7
  rw [many_le (by decide), ← hm1, show List.count (7 : Int) [2, 2] = 0 from rfl] at g1_7
  rw [show oftenP st.1 [2, 2] = min (gv st.1 2 / 2) (gv st.1 2 / 2) from rfl] at hm1
  generalize (oneP 4 st [2, 2]) = st1 at hn1 g1_2 g1_3 g1_4 g1_5 g1_6 g1_7 ⊢
  obtain ⟨m2, hm2⟩ : ∃ m, m = max 0 (oftenP st1.1 [2]) := ⟨_, rfl⟩
  have hn2 := one_laps 4 st1 [2]
  rw [many_le (by decide), ← hm2, hn1] at hn2
  have g2_2 := one_gv 4 st1 [2] 2
  rw [many_le (by decide), ← hm2, show List.count (2 : Int) [2] = 1 from rfl, g1_2] at g2_2
  have g2_3 := one_gv 4 st1 [2] 3
  rw [many_le (by decide), ← hm2, show List.count (3 : Int) [2] = 0 from rfl, g1_3] at g2_3
  have g2_4 := one_gv 4 st1 [2] 4
  rw [many_le (by decide), ← hm2, show List.count (4 : Int) [2] = 0 from rfl, g1_4] at g2_4
  have g2_5 := one_gv 4 st1 [2] 5
  rw [many_le (by decide), ← hm2, show List.count (5 : Int) [2] = 0 from rfl, g1_5] at g2_5
  have g2_6 := one_gv 4 st1 [2] 6
  rw [many_le (by decide), ← hm2, show List.count (6 : Int) [2] = 0 from rfl, g1_6] at g2_6
  have g2_7 := one_gv 4 st1 [2] 7
  rw [many_le (by decide), ← hm2, show List.count (7 : Int) [2] = 0 from rfl, g1_7] at g2_7
  rw [show oftenP st1.1 [2] = gv st1.1 2 / 1 from rfl, g1_2] at hm2
  generalize (oneP 4 st1 [2]) = st2 at hn2 g2_2 g2_3 g2_4 g2_5 g2_6 g2_7 ⊢
  rw [hn2, g2_2, g2_3, g2_4, g2_5, g2_6, g2_7]
  exact y2_n _ _ _ _ _ _ _ m1 m2 h2 hm1 hm2
end GX
end SGM1
section SGM2
set_option linter.all false
set_option maxHeartbeats 1000000
/-! packing: what is left, what the laps are, how many -/
namespace GX
theorem one_mono {u : Int} {st : PkS} {sizes : List Int} (h : ∀ s, 0 ≤ gv st.1 s) (s : Int) : 0 ≤ gv (oneP u st sizes).1 s ∧ gv (oneP u st sizes).1 s ≤ gv st.1 s := by
  rw [one_gv]
  by_cases hs : s ∈ sizes
  · have hc : 0 < sizes.count s := List.count_pos_iff.mpr hs
    have hm : manyP u st.1 sizes ≤ gv st.1 s / (sizes.count s : Nat) := by
      unfold manyP
      split
      · exact minL_le (List.mem_map.mpr ⟨s, hs, rfl⟩)
      · exact Int.ediv_nonneg (h s) (by omega)
    have h2 : max 0 (manyP u st.1 sizes) ≤ gv st.1 s / (sizes.count s : Nat) := Int.max_le.mpr ⟨Int.ediv_nonneg (h s) (by omega), hm⟩
    have h3 : max 0 (manyP u st.1 sizes) * (sizes.count s : Nat) ≤ gv st.1 s / (sizes.count s : Nat) * (sizes.count s : Nat) := Int.mul_le_mul_of_nonneg_right h2 (by omega)
    have h4 : gv st.1 s / (sizes.count s : Nat) * (sizes.count s : Nat) ≤ gv st.1 s := Int.ediv_mul_le _ (by omega)
    have h5 : 0 ≤ max 0 (manyP u st.1 sizes) * (sizes.count s : Nat) := Int.mul_nonneg (by omega) (by omega)
    omega
  · rw [List.count_eq_zero.mpr hs]
    have := h s
    simp
    exact this
theorem one_zero {u : Int} {st : PkS} {sizes : List Int} {k : Int} (hk : k ∈ sizes) (h : gv st.1 k = 0) : oneP u st sizes = st := by
  unfold oneP
  rw [if_neg]
  intro hm
  unfold manyP at hm
  split at hm
  · have h1 : oftenP st.1 sizes ≤ gv st.1 k / (sizes.count k : Nat) := minL_le (List.mem_map.mpr ⟨k, hk, rfl⟩)
    rw [h, Int.zero_ediv] at h1
    omega
  · omega
/-- contents and numbers that may be packed -/
structure KOk (u : Int) (kvs : List (Int × Int)) : Prop where
  uu : u = 8 ∨ u = 4
  nd : (kvs.map (·.1)).Nodup
  ok : ∀ p ∈ kvs, 2 ≤ p.1 ∧ p.1 < u ∧ 0 ≤ p.2
theorem getI_mem {kvs : List (Int × Int)} {s v : Int} (h : getI kvs s = some v) : (s, v) ∈ kvs := by
  unfold getI at h
  cases q : kvs.find? fun kv => decide (kv.1 = s) with
  | none => rw [q] at h; cases h
  | some p =>
    rw [q] at h
    cases h
    have h1 := List.mem_of_find?_eq_some q
    have h2 : p.1 = s := of_decide_eq_true (List.find?_some (p := fun kv : Int × Int => decide (kv.1 = s)) q)
    rw [← h2]
    exact h1
theorem getI_none {kvs : List (Int × Int)} {s : Int} (h : s ∉ kvs.map (·.1)) : getI kvs s = none := by
  cases q : getI kvs s with
  | none => rfl
  | some v => exact absurd (List.mem_map.mpr ⟨_, getI_mem q, rfl⟩) h
theorem gv_absent {kvs : List (Int × Int)} {s : Int} (h : s ∉ kvs.map (·.1)) : gv kvs s = 0 := by unfold gv; rw [getI_none h]; rfl
theorem getI_of {kvs : List (Int × Int)} (nd : (kvs.map (·.1)).Nodup) {s v : Int} (h : (s, v) ∈ kvs) : getI kvs s = some v := by
  induction kvs with
  | nil => cases h
  | cons p kvs ih =>
    rw [List.map_cons, List.nodup_cons] at nd
    unfold getI
    rw [List.find?_cons]
    rcases List.mem_cons.mp h with e | e
    · subst e
      simp
    · have hne : p.1 ≠ s := fun z => nd.1 (List.mem_map.mpr ⟨_, e, z.symm⟩)
      rw [decide_eq_false hne]
      exact ih nd.2 e
theorem KOk.gv0 {u : Int} {kvs : List (Int × Int)} (h : KOk u kvs) (s : Int) : 0 ≤ gv kvs s := by
  unfold gv
  cases q : getI kvs s with
  | none => exact Int.le_refl _
  | some v => exact (h.ok _ (getI_mem q)).2.2
theorem KOk.pos {u : Int} {kvs : List (Int × Int)} (h : KOk u kvs) {s : Int} (hs : 0 < gv kvs s) : 2 ≤ s ∧ s < u := by
  unfold gv at hs
  cases q : getI kvs s with
  | none => rw [q] at hs; simp at hs
  | some v => have := h.ok _ (getI_mem q); exact ⟨this.1, this.2.1⟩
/-- a state on the way -/
structure PkI (u : Int) (kvs : List (Int × Int)) (st : PkS) : Prop where
  lo : ∀ s, 0 ≤ gv st.1 s
  hi : ∀ s, gv st.1 s ≤ gv kvs s
  laps : ∀ l ∈ st.2, isLapP u l = true
  acc : ∀ s, (st.2.map fun l : Lap => l.2 * ((l.1.count s : Nat) : Int)).sum + gv st.1 s = gv kvs s
theorem many_sum {u : Int} {left : List (Int × Int)} {sizes : List Int} (h : 0 < manyP u left sizes) : sizes.sum ≤ u ∧ manyP u left sizes = oftenP left sizes := by
  unfold manyP at h ⊢
  split at h
  · rename_i hs
    exact ⟨hs, if_pos hs⟩
  · omega
theorem PkI.one {u : Int} {kvs : List (Int × Int)} {st : PkS} {sizes : List Int} (hk : KOk u kvs) (h : PkI u kvs st) (hne : sizes ≠ []) (hd : sizes.Pairwise (· ≥ ·)) : PkI u kvs (oneP u st sizes) := by
  refine ⟨fun s => (one_mono h.lo s).1, fun s => Int.le_trans (one_mono h.lo s).2 (h.hi s), fun l hl => ?_, fun s => ?_⟩
  · unfold oneP at hl
    split at hl
    · rename_i hm
      rcases List.mem_append.mp hl with hl | hl
      · exact h.laps l hl
      · rw [List.mem_singleton.mp hl]
        obtain ⟨hs, ho⟩ := many_sum hm
        have hp : ∀ s ∈ sizes, 2 ≤ s ∧ s < u := fun s hs => by
          refine hk.pos (Int.lt_of_lt_of_le ?_ (h.hi s))
          have h1 : oftenP st.1 sizes ≤ gv st.1 s / (sizes.count s : Nat) := minL_le (List.mem_map.mpr ⟨s, hs, rfl⟩)
          have h2 := h.lo s
          have h3 : gv st.1 s ≠ 0 := fun z => by rw [z, Int.zero_ediv] at h1; omega
          omega
        have e1 : sizes = desc sizes := desc_of (List.Perm.refl _) hd
        have e2 : (sizes.all fun s => isIntP s 2 (some (u - 1))) = true := List.all_eq_true.mpr fun s hs => by
          have := hp s hs
          unfold isIntP
          simp
          omega
        unfold isLapP
        simp only [e2, decide_eq_true hne, decide_eq_true hs, decide_eq_true e1, Bool.and_true, Bool.and_eq_true, decide_eq_true_eq]
        omega
    · exact h.laps l hl
  · have ha := h.acc s
    rw [one_gv]
    unfold oneP
    split
    · rename_i hm
      rw [List.map_append, List.sum_append, Int.max_eq_right (Int.le_of_lt hm)]
      simp only [List.map_cons, List.map_nil, List.sum_cons, List.sum_nil]
      omega
    · rename_i hm
      rw [Int.max_eq_left (by omega)]
      omega
theorem PkI.fold {u k : Int} {kvs : List (Int × Int)} (hk : KOk u kvs) : ∀ (os : List (List Int)) {st : PkS}, (∀ o ∈ os, (k :: o).Pairwise (· ≥ ·)) → PkI u kvs st → PkI u kvs (os.foldl (fun st o => oneP u st (k :: o)) st)
  | [], _, _, h => h
  | o :: os, st, hd, h => PkI.fold hk os (fun x hx => hd x (by simp [hx])) (h.one hk (by simp) (hd o (by simp)))
/-- for 4 one of the two -/
def Four (o4 : List (List Int)) : Prop := o4 = compL 4 ∨ o4 = ffL
theorem others_desc {o4 : List (List Int)} (h4 : Four o4) {k : Int} (hk : 2 ≤ k ∧ k ≤ 7) : ∀ o ∈ othersL o4 k, (k :: o).Pairwise (· ≥ ·) := by
  have e : ((othersL o4 k).all fun o => decide ((k :: o).Pairwise (· ≥ ·))) = true := by
    rcases (by omega : k = 2 ∨ k = 3 ∨ k = 4 ∨ k = 5 ∨ k = 6 ∨ k = 7) with rfl | rfl | rfl | rfl | rfl | rfl
    · rfl
    · rfl
    · rcases h4 with rfl | rfl <;> rfl
    · rfl
    · rfl
    · rfl
  exact fun o ho => of_decide_eq_true (List.all_eq_true.mp e o ho)
theorem PkI.size {u k : Int} {kvs : List (Int × Int)} {o4 : List (List Int)} (hk : KOk u kvs) (h4 : Four o4) (hkk : 2 ≤ k ∧ k ≤ 7) {st : PkS} (h : PkI u kvs st) : PkI u kvs (sizeP u o4 st k) := PkI.fold hk _ (others_desc h4 hkk) h
theorem fold_zero {u k : Int} : ∀ (os : List (List Int)) {st : PkS}, gv st.1 k = 0 → os.foldl (fun st o => oneP u st (k :: o)) st = st
  | [], _, _ => rfl
  | o :: os, st, h => by
    rw [List.foldl_cons, one_zero (k := k) (by simp) h]
    exact fold_zero os h
theorem size_zero {u k : Int} {o4 : List (List Int)} {st : PkS} (h : gv st.1 k = 0) : sizeP u o4 st k = st := fold_zero _ h
theorem fold_keys {u : Int} {kvs : List (Int × Int)} {o4 : List (List Int)} (hk : KOk u kvs) (h4 : Four o4) : ∀ (l : List Int) {st : PkS}, (∀ k ∈ l, 2 ≤ k ∧ k ≤ 7) → PkI u kvs st →
    (l.filter fun k => decide (k ∈ kvs.map (·.1))).foldl (sizeP u o4) st = l.foldl (sizeP u o4) st ∧ PkI u kvs (l.foldl (sizeP u o4) st)
  | [], _, _, h => ⟨rfl, h⟩
  | k :: l, st, hl, h => by
    have h2 := h.size hk h4 (hl k (by simp))
    have ih := fold_keys hk h4 l (fun x hx => hl x (by simp [hx])) h2
    rw [List.filter_cons]
    split
    · exact ih
    · rename_i hn
      have hz : gv st.1 k = 0 := by
        have h0 : gv kvs k = 0 := gv_absent (by simpa using hn)
        have h1 := h.lo k
        have h2 := h.hi k
        omega
      rw [List.foldl_cons]
      rw [size_zero hz] at ih ⊢
      exact ih
theorem PkI.init {u : Int} {kvs : List (Int × Int)} (hk : KOk u kvs) : PkI u kvs (kvs, []) := ⟨hk.gv0, fun s => Int.le_refl _, fun l h => by simp at h, fun s => by simp⟩
theorem desc_keys {u : Int} {kvs : List (Int × Int)} (hk : KOk u kvs) : ord true (kvs.map (·.1)) = [7, 6, 5, 4, 3, 2].filter fun k => decide (k ∈ kvs.map (·.1)) := by
  refine (desc_of ?_ ?_).symm
  · refine (List.perm_ext_iff_of_nodup (List.Pairwise.filter _ (by decide)) hk.nd).mpr fun k => ?_
    rw [List.mem_filter]
    constructor
    · rintro ⟨_, h⟩
      exact of_decide_eq_true h
    · intro h
      refine ⟨?_, decide_eq_true h⟩
      obtain ⟨p, hp, rfl⟩ := List.mem_map.mp h
      have := hk.ok p hp
      have hu := hk.uu
      rcases (by omega : p.1 = 2 ∨ p.1 = 3 ∨ p.1 = 4 ∨ p.1 = 5 ∨ p.1 = 6 ∨ p.1 = 7) with h | h | h | h | h | h <;> rw [h] <;> decide
  · exact List.Pairwise.filter _ (by decide)
theorem packedS_all {u : Int} {kvs : List (Int × Int)} {o4 : List (List Int)} (hk : KOk u kvs) (h4 : Four o4) : packedS u kvs o4 = [7, 6, 5, 4, 3, 2].foldl (sizeP u o4) (kvs, []) ∧ PkI u kvs (packedS u kvs o4) := by
  have h := fold_keys hk h4 [7, 6, 5, 4, 3, 2] (by decide) (PkI.init hk)
  unfold packedS
  rw [desc_keys hk, h.1]
  exact ⟨rfl, h.2⟩
/-- the numbers of boxes, nine of them -/
def bxK (kvs : List (Int × Int)) : Bx := ⟨0, 0, gv kvs 2, gv kvs 3, gv kvs 4, gv kvs 5, gv kvs 6, gv kvs 7, 0⟩
theorem KOk.big {u : Int} {kvs : List (Int × Int)} (hk : KOk u kvs) {s : Int} (h : u ≤ s) : gv kvs s = 0 := by
  have h0 := hk.gv0 s
  by_cases hp : 0 < gv kvs s
  · have := hk.pos hp; omega
  · omega
end GX
end SGM2
section SGM3
set_option linter.all false
set_option maxHeartbeats 1000000
set_option maxRecDepth 100000
/-! packing counts as the law counts (printed by gm3.py) -/
namespace GX
theorem pk8c {kvs : List (Int × Int)} (hk : KOk 8 kvs) (tw th : Int) (htw : tw = max 0 (gv kvs 2 - gv kvs 6 - max 0 (gv kvs 5 - gv kvs 3))) (hth : th = max 0 (gv kvs 3 - gv kvs 5)) : lapsP (packedP 8 kvs (compL 4)) = gv kvs 7 + gv kvs 6 + gv kvs 5 + gv kvs 4 / 2 + gv kvs 4 % 2 + smallP (if gv kvs 4 % 2 = 1 then (if 2 ≤ tw then th else max 0 (th - 1)) else th) (if gv kvs 4 % 2 = 1 then (if 2 ≤ tw then tw - 2 else if 1 ≤ th then tw else 0) else tw) ∧ (gv (packedS 8 kvs (compL 4)).1 2 = 0 ∧ gv (packedS 8 kvs (compL 4)).1 3 = 0 ∧ gv (packedS 8 kvs (compL 4)).1 4 = 0 ∧ gv (packedS 8 kvs (compL 4)).1 5 = 0 ∧ gv (packedS 8 kvs (compL 4)).1 6 = 0 ∧ gv (packedS 8 kvs (compL 4)).1 7 = 0) := by
  have e : packedS 8 kvs (compL 4) = (sizeP 8 (compL 4) (sizeP 8 (compL 4) (sizeP 8 (compL 4) (sizeP 8 (compL 4) (sizeP 8 (compL 4) (sizeP 8 (compL 4) (kvs, []) 7) 6) 5) 4) 3) 2) := by rw [(packedS_all hk (.inl rfl)).1]; simp only [List.foldl_cons, List.foldl_nil]
  unfold packedP
  rw [e]
  have h2 := hk.gv0 2
  have h3 := hk.gv0 3
  have h4 := hk.gv0 4
  have h5 := hk.gv0 5
  have h6 := hk.gv0 6
  have h7 := hk.gv0 7
  obtain ⟨s0, hs0, n0, a0_2, a0_3, a0_4, a0_5, a0_6, a0_7⟩ : ∃ s0 : PkS, s0 = (kvs, []) ∧ lapsP s0.2 = 0 ∧ gv s0.1 2 = gv kvs 2 ∧ gv s0.1 3 = gv kvs 3 ∧ gv s0.1 4 = gv kvs 4 ∧ gv s0.1 5 = gv kvs 5 ∧ gv s0.1 6 = gv kvs 6 ∧ gv s0.1 7 = gv kvs 7 := ⟨_, rfl, rfl, rfl, rfl, rfl, rfl, rfl, rfl⟩
  rw [← hs0]
  obtain ⟨n7, a7_2, a7_3, a7_4, a7_5, a7_6, a7_7⟩ := z7 (compL 4) s0 (by omega)
  generalize sizeP 8 (compL 4) s0 7 = s7 at n7 a7_2 a7_3 a7_4 a7_5 a7_6 a7_7 ⊢
  obtain ⟨n6, a6_2, a6_3, a6_4, a6_5, a6_6, a6_7⟩ := z6 (compL 4) s7 (by omega) (by omega)
  generalize sizeP 8 (compL 4) s7 6 = s6 at n6 a6_2 a6_3 a6_4 a6_5 a6_6 a6_7 ⊢
  obtain ⟨n5, a5_2, a5_3, a5_4, a5_5, a5_6, a5_7⟩ := z5 (compL 4) s6 (by omega) (by omega) (by omega)
  generalize sizeP 8 (compL 4) s6 5 = s5 at n5 a5_2 a5_3 a5_4 a5_5 a5_6 a5_7 ⊢
  obtain ⟨n4, a4_2, a4_3, a4_4, a4_5, a4_6, a4_7⟩ := z4c s5 (by omega) (by omega) (by omega)
  generalize sizeP 8 (compL 4) s5 4 = s4 at n4 a4_2 a4_3 a4_4 a4_5 a4_6 a4_7 ⊢
  obtain ⟨n3, a3_2, a3_3, a3_4, a3_5, a3_6, a3_7⟩ := z3 (compL 4) s4 (by omega) (by omega)
  generalize sizeP 8 (compL 4) s4 3 = s3 at n3 a3_2 a3_3 a3_4 a3_5 a3_6 a3_7 ⊢
  obtain ⟨n2, a2_2, a2_3, a2_4, a2_5, a2_6, a2_7⟩ := z2 (compL 4) s3 (by omega)
  generalize sizeP 8 (compL 4) s3 2 = s2 at n2 a2_2 a2_3 a2_4 a2_5 a2_6 a2_7 ⊢
  have e2 : gv s5.1 2 = tw := by omega
  have e3 : gv s5.1 3 = th := by omega
  have e4 : gv s5.1 4 = gv kvs 4 := by omega
  rw [e2, e3, e4] at a4_2
  rw [e2, e3, e4] at a4_3
  rw [e4] at n4
  refine ⟨?_, by omega, by omega, by omega, by omega, by omega, by omega⟩
  rw [← a4_2, ← a4_3]
  unfold smallP
  omega
theorem pk8f {kvs : List (Int × Int)} (hk : KOk 8 kvs) (tw th : Int) (htw : tw = max 0 (gv kvs 2 - gv kvs 6 - max 0 (gv kvs 5 - gv kvs 3))) (hth : th = max 0 (gv kvs 3 - gv kvs 5)) : lapsP (packedP 8 kvs ffL) = gv kvs 7 + gv kvs 6 + gv kvs 5 + gv kvs 4 / 2 + gv kvs 4 % 2 + smallP (if gv kvs 4 % 2 = 1 then max 0 (th - 1) else th) (if gv kvs 4 % 2 = 1 then (if 1 ≤ th then tw else max 0 (tw - 2)) else tw) ∧ (gv (packedS 8 kvs ffL).1 2 = 0 ∧ gv (packedS 8 kvs ffL).1 3 = 0 ∧ gv (packedS 8 kvs ffL).1 4 = 0 ∧ gv (packedS 8 kvs ffL).1 5 = 0 ∧ gv (packedS 8 kvs ffL).1 6 = 0 ∧ gv (packedS 8 kvs ffL).1 7 = 0) := by
  have e : packedS 8 kvs ffL = (sizeP 8 ffL (sizeP 8 ffL (sizeP 8 ffL (sizeP 8 ffL (sizeP 8 ffL (sizeP 8 ffL (kvs, []) 7) 6) 5) 4) 3) 2) := by rw [(packedS_all hk (.inr rfl)).1]; simp only [List.foldl_cons, List.foldl_nil]
  unfold packedP
  rw [e]
  have h2 := hk.gv0 2
  have h3 := hk.gv0 3
  have h4 := hk.gv0 4
  have h5 := hk.gv0 5
  have h6 := hk.gv0 6
  have h7 := hk.gv0 7
  obtain ⟨s0, hs0, n0, a0_2, a0_3, a0_4, a0_5, a0_6, a0_7⟩ : ∃ s0 : PkS, s0 = (kvs, []) ∧ lapsP s0.2 = 0 ∧ gv s0.1 2 = gv kvs 2 ∧ gv s0.1 3 = gv kvs 3 ∧ gv s0.1 4 = gv kvs 4 ∧ gv s0.1 5 = gv kvs 5 ∧ gv s0.1 6 = gv kvs 6 ∧ gv s0.1 7 = gv kvs 7 := ⟨_, rfl, rfl, rfl, rfl, rfl, rfl, rfl, rfl⟩
  rw [← hs0]
  obtain ⟨n7, a7_2, a7_3, a7_4, a7_5, a7_6, a7_7⟩ := z7 ffL s0 (by omega)
  generalize sizeP 8 ffL s0 7 = s7 at n7 a7_2 a7_3 a7_4 a7_5 a7_6 a7_7 ⊢
  obtain ⟨n6, a6_2, a6_3, a6_4, a6_5, a6_6, a6_7⟩ := z6 ffL s7 (by omega) (by omega)
  generalize sizeP 8 ffL s7 6 = s6 at n6 a6_2 a6_3 a6_4 a6_5 a6_6 a6_7 ⊢
  obtain ⟨n5, a5_2, a5_3, a5_4, a5_5, a5_6, a5_7⟩ := z5 ffL s6 (by omega) (by omega) (by omega)
  generalize sizeP 8 ffL s6 5 = s5 at n5 a5_2 a5_3 a5_4 a5_5 a5_6 a5_7 ⊢
  obtain ⟨n4, a4_2, a4_3, a4_4, a4_5, a4_6, a4_7⟩ := z4f s5 (by omega) (by omega) (by omega)
  generalize sizeP 8 ffL s5 4 = s4 at n4 a4_2 a4_3 a4_4 a4_5 a4_6 a4_7 ⊢
  obtain ⟨n3, a3_2, a3_3, a3_4, a3_5, a3_6, a3_7⟩ := z3 ffL s4 (by omega) (by omega)
  generalize sizeP 8 ffL s4 3 = s3 at n3 a3_2 a3_3 a3_4 a3_5 a3_6 a3_7 ⊢
  obtain ⟨n2, a2_2, a2_3, a2_4, a2_5, a2_6, a2_7⟩ := z2 ffL s3 (by omega)
  generalize sizeP 8 ffL s3 2 = s2 at n2 a2_2 a2_3 a2_4 a2_5 a2_6 a2_7 ⊢
  have e2 : gv s5.1 2 = tw := by omega
  have e3 : gv s5.1 3 = th := by omega
  have e4 : gv s5.1 4 = gv kvs 4 := by omega
  rw [e2, e3, e4] at a4_2
  rw [e3, e4] at a4_3
  rw [e4] at n4
  refine ⟨?_, by omega, by omega, by omega, by omega, by omega, by omega⟩
  rw [← a4_2, ← a4_3]
  unfold smallP
  omega
theorem pk4c {kvs : List (Int × Int)} (hk : KOk 4 kvs) : lapsP (packedP 4 kvs (compL 4)) = gv kvs 3 + (gv kvs 2 + 1) / 2 ∧ (gv (packedS 4 kvs (compL 4)).1 2 = 0 ∧ gv (packedS 4 kvs (compL 4)).1 3 = 0 ∧ gv (packedS 4 kvs (compL 4)).1 4 = 0 ∧ gv (packedS 4 kvs (compL 4)).1 5 = 0 ∧ gv (packedS 4 kvs (compL 4)).1 6 = 0 ∧ gv (packedS 4 kvs (compL 4)).1 7 = 0) := by
  have e : packedS 4 kvs (compL 4) = (sizeP 4 (compL 4) (sizeP 4 (compL 4) (sizeP 4 (compL 4) (sizeP 4 (compL 4) (sizeP 4 (compL 4) (sizeP 4 (compL 4) (kvs, []) 7) 6) 5) 4) 3) 2) := by rw [(packedS_all hk (.inl rfl)).1]; simp only [List.foldl_cons, List.foldl_nil]
  unfold packedP
  rw [e]
  have h2 := hk.gv0 2
  have h3 := hk.gv0 3
  have h4 := hk.gv0 4
  have h5 := hk.gv0 5
  have h6 := hk.gv0 6
  have h7 := hk.gv0 7
  obtain ⟨s0, hs0, n0, a0_2, a0_3, a0_4, a0_5, a0_6, a0_7⟩ : ∃ s0 : PkS, s0 = (kvs, []) ∧ lapsP s0.2 = 0 ∧ gv s0.1 2 = gv kvs 2 ∧ gv s0.1 3 = gv kvs 3 ∧ gv s0.1 4 = gv kvs 4 ∧ gv s0.1 5 = gv kvs 5 ∧ gv s0.1 6 = gv kvs 6 ∧ gv s0.1 7 = gv kvs 7 := ⟨_, rfl, rfl, rfl, rfl, rfl, rfl, rfl, rfl⟩
  rw [← hs0]
  rw [show sizeP 4 (compL 4) s0 7 = s0 from size_zero (by first | omega | (have := hk.big (s := 7) (by decide); omega))]
  rw [show sizeP 4 (compL 4) s0 6 = s0 from size_zero (by first | omega | (have := hk.big (s := 6) (by decide); omega))]
  rw [show sizeP 4 (compL 4) s0 5 = s0 from size_zero (by first | omega | (have := hk.big (s := 5) (by decide); omega))]
  rw [show sizeP 4 (compL 4) s0 4 = s0 from size_zero (by first | omega | (have := hk.big (s := 4) (by decide); omega))]
  obtain ⟨n3, a3_2, a3_3, a3_4, a3_5, a3_6, a3_7⟩ := y3 (compL 4) s0 (by omega) (by omega)
  generalize sizeP 4 (compL 4) s0 3 = s3 at n3 a3_2 a3_3 a3_4 a3_5 a3_6 a3_7 ⊢
  obtain ⟨n2, a2_2, a2_3, a2_4, a2_5, a2_6, a2_7⟩ := y2 (compL 4) s3 (by omega)
  generalize sizeP 4 (compL 4) s3 2 = s2 at n2 a2_2 a2_3 a2_4 a2_5 a2_6 a2_7 ⊢
  have b4 := hk.big (s := 4) (by decide)
  have b5 := hk.big (s := 5) (by decide)
  have b6 := hk.big (s := 6) (by decide)
  have b7 := hk.big (s := 7) (by decide)
  refine ⟨?_, ?_, ?_, ?_, ?_, ?_, ?_⟩ <;> omega
theorem pk4f {kvs : List (Int × Int)} (hk : KOk 4 kvs) : lapsP (packedP 4 kvs ffL) = gv kvs 3 + (gv kvs 2 + 1) / 2 ∧ (gv (packedS 4 kvs ffL).1 2 = 0 ∧ gv (packedS 4 kvs ffL).1 3 = 0 ∧ gv (packedS 4 kvs ffL).1 4 = 0 ∧ gv (packedS 4 kvs ffL).1 5 = 0 ∧ gv (packedS 4 kvs ffL).1 6 = 0 ∧ gv (packedS 4 kvs ffL).1 7 = 0) := by
  have e : packedS 4 kvs ffL = (sizeP 4 ffL (sizeP 4 ffL (sizeP 4 ffL (sizeP 4 ffL (sizeP 4 ffL (sizeP 4 ffL (kvs, []) 7) 6) 5) 4) 3) 2) := by rw [(packedS_all hk (.inr rfl)).1]; simp only [List.foldl_cons, List.foldl_nil]
  unfold packedP
  rw [e]
  have h2 := hk.gv0 2
  have h3 := hk.gv0 3
  have h4 := hk.gv0 4
  have h5 := hk.gv0 5
  have h6 := hk.gv0 6
  have h7 := hk.gv0 7
  obtain ⟨s0, hs0, n0, a0_2, a0_3, a0_4, a0_5, a0_6, a0_7⟩ : ∃ s0 : PkS, s0 = (kvs, []) ∧ lapsP s0.2 = 0 ∧ gv s0.1 2 = gv kvs 2 ∧ gv s0.1 3 = gv kvs 3 ∧ gv s0.1 4 = gv kvs 4 ∧ gv s0.1 5 = gv kvs 5 ∧ gv s0.1 6 = gv kvs 6 ∧ gv s0.1 7 = gv kvs 7 := ⟨_, rfl, rfl, rfl, rfl, rfl, rfl, rfl, rfl⟩
  rw [← hs0]
  rw [show sizeP 4 ffL s0 7 = s0 from size_zero (by first | omega | (have := hk.big (s := 7) (by decide); omega))]
  rw [show sizeP 4 ffL s0 6 = s0 from size_zero (by first | omega | (have := hk.big (s := 6) (by decide); omega))]
  rw [show sizeP 4 ffL s0 5 = s0 from size_zero (by first | omega | (have := hk.big (s := 5) (by decide); omega))]
  rw [show sizeP 4 ffL s0 4 = s0 from size_zero (by first | omega | (have := hk.big (s := 4) (by decide); omega))]
  obtain ⟨n3, a3_2, a3_3, a3_4, a3_5, a3_6, a3_7⟩ := y3 ffL s0 (by omega) (by omega)
  generalize sizeP 4 ffL s0 3 = s3 at n3 a3_2 a3_3 a3_4 a3_5 a3_6 a3_7 ⊢
  obtain ⟨n2, a2_2, a2_3, a2_4, a2_5, a2_6, a2_7⟩ := y2 ffL s3 (by omega)
  generalize sizeP 4 ffL s3 2 = s2 at n2 a2_2 a2_3 a2_4 a2_5 a2_6 a2_7 ⊢
  have b4 := hk.big (s := 4) (by decide)
  have b5 := hk.big (s := 5) (by decide)
  have b6 := hk.big (s := 6) (by decide)
  have b7 := hk.big (s := 7) (by decide)
  refine ⟨?_, ?_, ?_, ?_, ?_, ?_, ?_⟩ <;> omega
theorem fewest8 {kvs : List (Int × Int)} (hk : KOk 8 kvs) : lapsP (fewestP 8 kvs) = lawLapsP 8 (bxK kvs) := by
  have hc := (pk8c hk _ _ rfl rfl).1
  have hf := (pk8f hk _ _ rfl rfl).1
  have e : lawLapsP 8 (bxK kvs) = (if gv kvs 4 % 2 = 0 then gv kvs 7 + gv kvs 6 + gv kvs 5 + gv kvs 4 / 2 + smallP (max 0 (gv kvs 3 - gv kvs 5)) (max 0 (gv kvs 2 - gv kvs 6 - max 0 (gv kvs 5 - gv kvs 3))) else gv kvs 7 + gv kvs 6 + gv kvs 5 + gv kvs 4 / 2 + 1 + min (smallP (max 0 (gv kvs 3 - gv kvs 5)) (max 0 (max 0 (gv kvs 2 - gv kvs 6 - max 0 (gv kvs 5 - gv kvs 3)) - 2))) (smallP (max 0 (max 0 (gv kvs 3 - gv kvs 5) - 1)) (max 0 (gv kvs 2 - gv kvs 6 - max 0 (gv kvs 5 - gv kvs 3))))) := rfl
  rw [e]
  have ht : 0 ≤ max 0 (gv kvs 3 - gv kvs 5) := by omega
  have hw : 0 ≤ max 0 (gv kvs 2 - gv kvs 6 - max 0 (gv kvs 5 - gv kvs 3)) := by omega
  generalize max 0 (gv kvs 3 - gv kvs 5) = th at hc hf ht ⊢
  generalize max 0 (gv kvs 2 - gv kvs 6 - max 0 (gv kvs 5 - gv kvs 3)) = tw at hc hf hw ⊢
  have e2 : lapsP (fewestP 8 kvs) = min (lapsP (packedP 8 kvs (compL 4))) (lapsP (packedP 8 kvs ffL)) := by
    unfold fewestP
    split <;> omega
  rw [e2, hc, hf]
  generalize gv kvs 7 = a7
  generalize gv kvs 6 = a6
  generalize gv kvs 5 = a5
  generalize gv kvs 4 = a4
  by_cases h4 : a4 % 2 = 0
  · have h4' : ¬ a4 % 2 = 1 := by omega
    rw [if_pos h4, if_neg h4', if_neg h4', if_neg h4', if_neg h4']
    omega
  · have h4' : a4 % 2 = 1 := by omega
    rw [if_neg h4, if_pos h4', if_pos h4', if_pos h4', if_pos h4']
    by_cases h2 : 2 ≤ tw
    · rw [if_pos h2, if_pos h2]
      by_cases h1 : 1 ≤ th
      · rw [if_pos h1, show max 0 (tw - 2) = tw - 2 by omega]
        omega
      · rw [if_neg h1, show max 0 (tw - 2) = tw - 2 by omega, show max 0 (th - 1) = th by omega]
        unfold smallP
        omega
    · rw [if_neg h2, if_neg h2]
      by_cases h1 : 1 ≤ th
      · rw [if_pos h1, if_pos h1]
        unfold smallP
        omega
      · rw [if_neg h1, if_neg h1, show max 0 (tw - 2) = 0 by omega, show max 0 (th - 1) = th by omega]
        unfold smallP
        omega
theorem fewest4 {kvs : List (Int × Int)} (hk : KOk 4 kvs) : lapsP (fewestP 4 kvs) = lawLapsP 4 (bxK kvs) := by
  have hc := (pk4c hk).1
  have hf := (pk4f hk).1
  have e : lawLapsP 4 (bxK kvs) = gv kvs 3 + (gv kvs 2 + 1) / 2 := rfl
  unfold fewestP
  split <;> omega
end GX
end SGM3
section SGM4
set_option linter.all false
set_option maxHeartbeats 1000000
/-! the contents of a last lap: the program's are the law's -/
namespace GX
theorem KOk.val {u : Int} {kvs : List (Int × Int)} (hk : KOk u kvs) {p : Int × Int} (hp : p ∈ kvs) : gv kvs p.1 = p.2 := by
  unfold gv
  rw [getI_of hk.nd (v := p.2) hp]
  rfl
theorem KOk.key {u : Int} {kvs : List (Int × Int)} (hk : KOk u kvs) {s : Int} (h : 0 < gv kvs s) : (s, gv kvs s) ∈ kvs := by
  cases q : getI kvs s with
  | none => unfold gv at h; rw [q] at h; simp at h
  | some v =>
    have e : gv kvs s = v := by unfold gv; rw [q]; rfl
    rw [e]
    exact getI_mem q
theorem bxK_at {u : Int} {kvs : List (Int × Int)} (hk : KOk u kvs) {s : Int} (h : 2 ≤ s) (h2 : s < u) : (bxK kvs).l.getD s.toNat 0 = gv kvs s := by
  have hu := hk.uu
  rcases (by omega : s = 2 ∨ s = 3 ∨ s = 4 ∨ s = 5 ∨ s = 6 ∨ s = 7) with rfl | rfl | rfl | rfl | rfl | rfl <;> rfl
theorem ok_okc {u : Int} {kvs : List (Int × Int)} (hk : KOk u kvs) {p : Int × Int} (hp : p ∈ kvs) (l : List Int) : stepOk u l p.1 p.2 = okc u (bxK kvs).l l p.1 := by
  have h := hk.ok p hp
  unfold stepOk okc
  rw [bxK_at hk h.1 h.2.1, hk.val hp]
theorem cont_sub {u : Int} {kvs : List (Int × Int)} (hk : KOk u kvs) : ∀ (n : Nat) (a : List Int), Reach u (bxK kvs).l a → ∀ t ∈ contF n u kvs a, Reach u (bxK kvs).l t ∧ t ≠ []
  | 0, _, _, _, h => by cases h
  | n + 1, a, ha, t, h => by
    unfold contF at h
    obtain ⟨p, hp, ht⟩ := List.mem_flatMap.mp h
    split at ht
    · rename_i hok
      rw [ok_okc hk hp] at hok
      have h2 := hk.ok p hp
      have hr : Reach u (bxK kvs).l (a ++ [p.1]) := .more ha h2.1 h2.2.1 hok
      rcases List.mem_cons.mp ht with e | e
      · rw [e]
        exact ⟨hr, by simp⟩
      · exact cont_sub hk n _ hr t e
    · cases ht
theorem cont_mono {u : Int} {kvs : List (Int × Int)} : ∀ (n : Nat) (a t : List Int), t ∈ contF n u kvs a → t ∈ contF (n + 1) u kvs a
  | 0, _, _, h => by cases h
  | n + 1, a, t, h => by
    unfold contF at h ⊢
    obtain ⟨p, hp, ht⟩ := List.mem_flatMap.mp h
    refine List.mem_flatMap.mpr ⟨p, hp, ?_⟩
    split at ht
    · rename_i hok
      rw [if_pos hok]
      rcases List.mem_cons.mp ht with e | e
      · exact List.mem_cons.mpr (.inl e)
      · exact List.mem_cons.mpr (.inr (cont_mono n _ t e))
    · cases ht
theorem cont_more {u : Int} {kvs : List (Int × Int)} {p : Int × Int} (hp : p ∈ kvs) : ∀ (n : Nat) (a t : List Int), stepOk u (t ++ [p.1]) p.1 p.2 = true → t ∈ contF n u kvs a → t ++ [p.1] ∈ contF (n + 1) u kvs a
  | 0, _, _, _, h => by cases h
  | n + 1, a, t, hok, h => by
    unfold contF at h
    obtain ⟨q, hq, ht⟩ := List.mem_flatMap.mp h
    rw [contF]
    refine List.mem_flatMap.mpr ⟨q, hq, ?_⟩
    split at ht
    · rename_i hok2
      rw [if_pos hok2]
      rcases List.mem_cons.mp ht with e | e
      · subst e
        refine List.mem_cons.mpr (.inr ?_)
        rw [contF]
        refine List.mem_flatMap.mpr ⟨p, hp, ?_⟩
        rw [if_pos hok]
        exact List.mem_cons.mpr (.inl rfl)
      · exact List.mem_cons.mpr (.inr (cont_more hp n _ t hok e))
    · cases ht
theorem Reach.cont {u : Int} {kvs : List (Int × Int)} (hk : KOk u kvs) {t : List Int} (h : Reach u (bxK kvs).l t) : t = [] ∨ t ∈ contF t.length u kvs [] := by
  induction h with
  | nil => exact .inl rfl
  | @more t s ht h1 h2 hok ih =>
    right
    have hc : ((t ++ [s]).count s : Int) ≤ gv kvs s := by
      unfold okc at hok
      simp only [Bool.and_eq_true, decide_eq_true_eq] at hok
      rw [← bxK_at hk h1 h2]
      exact hok.2.2
    have hp : 0 < (t ++ [s]).count s := List.count_pos_iff.mpr (by simp)
    have hm := hk.key (s := s) (by omega)
    rw [List.length_append, List.length_singleton]
    have hok2 : stepOk u (t ++ [s]) s (gv kvs s) = true := by rw [ok_okc hk hm]; exact hok
    rcases ih with e | e
    · subst e
      show [] ++ [s] ∈ contF 1 u kvs []
      rw [contF]
      refine List.mem_flatMap.mpr ⟨_, hm, ?_⟩
      rw [if_pos hok2]
      exact List.mem_cons.mpr (.inl rfl)
    · exact cont_more hm _ _ _ hok2 e
theorem cont_le {u : Int} {kvs : List (Int × Int)} {a t : List Int} {n : Nat} (h : t ∈ contF n u kvs a) : ∀ m : Nat, t ∈ contF (n + m) u kvs a
  | 0 => h
  | m + 1 => cont_mono _ _ _ (cont_le h m)
theorem cont_iff {u : Int} {kvs : List (Int × Int)} (hk : KOk u kvs) (t : List Int) : t ∈ contF 5 u kvs [] ↔ Reach u (bxK kvs).l t ∧ t ≠ [] := by
  constructor
  · exact cont_sub hk 5 [] .nil t
  · rintro ⟨h1, h2⟩
    have hu := hk.uu
    have hl := h1.len (by omega) (by omega)
    rcases h1.cont hk with e | e
    · exact absurd e h2
    · have := cont_le e (5 - t.length)
      rw [show t.length + (5 - t.length) = 5 by omega] at this
      exact this
/-- no size more often than its boxes -/
theorem Reach.few {u : Int} {kvs : List (Int × Int)} (hk : KOk u kvs) {t : List Int} (h : Reach u (bxK kvs).l t) : ∀ s, (t.count s : Int) ≤ gv kvs s := by
  induction h with
  | nil => intro s; exact hk.gv0 s
  | @more t s ht h1 h2 hok ih =>
    intro x
    by_cases e : x = s
    · subst e
      unfold okc at hok
      simp only [Bool.and_eq_true, decide_eq_true_eq] at hok
      rw [← bxK_at hk h1 h2]
      exact hok.2.2
    · rw [List.count_append, List.count_singleton]
      have : (s == x) = false := by simpa using fun z => e z.symm
      rw [this]
      exact ih x
theorem Reach.desc {u : Int} {b t : List Int} (h : Reach u b t) : t = desc t := by
  cases h with
  | nil => exact desc_of (List.Perm.refl _) List.Pairwise.nil
  | more _ _ _ hok =>
    unfold okc at hok
    simp only [Bool.and_eq_true, decide_eq_true_eq] at hok
    exact hok.1
/-! without -/
def subD (sizes : List Int) (p : Int × Int) : Int × Int := (p.1, p.2 - ((sizes.count p.1 : Nat) : Int))
theorem without_map (sizes : List Int) : ∀ (kvs m : List (Int × Int)), (kvs.map (·.1)).Nodup → (∀ p ∈ kvs, p.1 ∉ m.map (·.1)) → kvs.foldl (fun m p => putI m p.1 (p.2 - (sizes.count p.1 : Nat))) m = m ++ kvs.map (subD sizes)
  | [], m, _, _ => by simp
  | p :: kvs, m, nd, h => by
    rw [List.map_cons, List.nodup_cons] at nd
    rw [List.foldl_cons, putI_new (h p (by simp)), without_map sizes kvs _ nd.2]
    · rw [List.append_assoc]; rfl
    · intro q hq
      rw [List.map_append, List.mem_append]
      rintro (z | z)
      · exact h q (by simp [hq]) z
      · rw [List.map_singleton, List.mem_singleton] at z
        exact nd.1 (List.mem_map.mpr ⟨q, hq, z⟩)
theorem withoutP_eq {u : Int} {kvs : List (Int × Int)} (hk : KOk u kvs) (sizes : List Int) : withoutP kvs sizes = kvs.map (subD sizes) := by
  unfold withoutP
  rw [without_map sizes kvs [] hk.nd (by simp)]
  rfl
theorem without_ok {u : Int} {kvs : List (Int × Int)} (hk : KOk u kvs) {t : List Int} (hf : ∀ s, (t.count s : Int) ≤ gv kvs s) : KOk u (withoutP kvs t) := by
  rw [withoutP_eq hk]
  refine ⟨hk.uu, by rw [List.map_map]; exact hk.nd, fun p hp => ?_⟩
  obtain ⟨q, hq, rfl⟩ := List.mem_map.mp hp
  have h1 := hk.ok q hq
  have h2 := hf q.1
  rw [hk.val hq] at h2
  exact ⟨h1.1, h1.2.1, by show 0 ≤ q.2 - _; omega⟩
theorem without_gv {u : Int} {kvs : List (Int × Int)} (hk : KOk u kvs) {t : List Int} (hf : ∀ s, (t.count s : Int) ≤ gv kvs s) (s : Int) : gv (withoutP kvs t) s = gv kvs s - (t.count s : Nat) := by
  by_cases hs : s ∈ kvs.map (·.1)
  · obtain ⟨p, hp, rfl⟩ := List.mem_map.mp hs
    have hm : (p.1, p.2 - (t.count p.1 : Nat)) ∈ withoutP kvs t := by
      rw [withoutP_eq hk]
      exact List.mem_map.mpr ⟨p, hp, rfl⟩
    have := (without_ok hk hf).val hm
    rw [hk.val hp]
    exact this
  · have h2 : s ∉ (withoutP kvs t).map (·.1) := by
      rw [withoutP_eq hk, List.map_map]
      exact hs
    have := hf s
    rw [gv_absent h2, gv_absent hs] at *
    omega
end GX
end SGM4
section SGM5
set_option linter.all false
set_option maxHeartbeats 1000000
/-! the best plan's waste is the law's -/
namespace GX
theorem fewest_four (u : Int) (kvs : List (Int × Int)) : ∃ o4, Four o4 ∧ fewestP u kvs = packedP u kvs o4 := by
  unfold fewestP
  split
  · exact ⟨_, .inr rfl, rfl⟩
  · exact ⟨_, .inl rfl, rfl⟩
theorem fewest_law {u : Int} {kvs : List (Int × Int)} (hk : KOk u kvs) : lapsP (fewestP u kvs) = lawLapsP u (bxK kvs) := by
  rcases hk.uu with h | h
  · subst h; exact fewest8 hk
  · subst h; exact fewest4 hk
theorem packed_zero {u : Int} {kvs : List (Int × Int)} {o4 : List (List Int)} (hk : KOk u kvs) (h4 : Four o4) (s : Int) : gv (packedS u kvs o4).1 s = 0 := by
  have hI := (packedS_all hk h4).2
  have h1 := hI.lo s
  have h2 := hI.hi s
  have h0 := hk.gv0 s
  by_cases hs : 2 ≤ s ∧ s ≤ 7
  · have hz : gv (packedS u kvs o4).1 2 = 0 ∧ gv (packedS u kvs o4).1 3 = 0 ∧ gv (packedS u kvs o4).1 4 = 0 ∧ gv (packedS u kvs o4).1 5 = 0 ∧ gv (packedS u kvs o4).1 6 = 0 ∧ gv (packedS u kvs o4).1 7 = 0 := by
      rcases hk.uu with h | h
      · subst h
        rcases h4 with rfl | rfl
        · exact (pk8c hk _ _ rfl rfl).2
        · exact (pk8f hk _ _ rfl rfl).2
      · subst h
        rcases h4 with rfl | rfl
        · exact (pk4c hk).2
        · exact (pk4f hk).2
    rcases (by omega : s = 2 ∨ s = 3 ∨ s = 4 ∨ s = 5 ∨ s = 6 ∨ s = 7) with rfl | rfl | rfl | rfl | rfl | rfl
    · exact hz.1
    · exact hz.2.1
    · exact hz.2.2.1
    · exact hz.2.2.2.1
    · exact hz.2.2.2.2.1
    · exact hz.2.2.2.2.2
  · by_cases hp : 0 < gv kvs s
    · have := hk.pos hp
      have := hk.uu
      omega
    · omega
/-- how often size s is in the laps -/
def cntL (s : Int) (ls : List Lap) : Int := (ls.map fun l : Lap => l.2 * ((l.1.count s : Nat) : Int)).sum
theorem cntL_app (s : Int) (a b : List Lap) : cntL s (a ++ b) = cntL s a + cntL s b := by
  unfold cntL
  rw [List.map_append, List.sum_append]
theorem fewest_ok {u : Int} {kvs : List (Int × Int)} (hk : KOk u kvs) : (∀ l ∈ fewestP u kvs, isLapP u l = true) ∧ ∀ s, cntL s (fewestP u kvs) = gv kvs s := by
  obtain ⟨o4, h4, e⟩ := fewest_four u kvs
  rw [e]
  have hI := (packedS_all hk h4).2
  refine ⟨hI.laps, fun s => ?_⟩
  have := hI.acc s
  rw [packed_zero hk h4] at this
  unfold packedP cntL
  omega
theorem isLap_size {u : Int} {l : Lap} (h : isLapP u l = true) : ∀ s ∈ l.1, 2 ≤ s ∧ s < u := fun s hs => by
  unfold isLapP at h
  simp only [Bool.and_eq_true] at h
  have h2 := List.all_eq_true.mp h.1.1.2 s hs
  unfold isIntP at h2
  simp only [Bool.and_eq_true, Bool.not_eq_true', decide_eq_true_eq, decide_eq_false_iff_not] at h2
  omega
theorem sum_counts : ∀ t : List Int, (∀ s ∈ t, 2 ≤ s ∧ s < 8) → t.sum = 2 * (t.count 2 : Nat) + 3 * (t.count 3 : Nat) + 4 * (t.count 4 : Nat) + 5 * (t.count 5 : Nat) + 6 * (t.count 6 : Nat) + 7 * (t.count 7 : Nat)
  | [], _ => by simp
  | x :: t, h => by
    have ih := sum_counts t fun s hs => h s (by simp [hs])
    have hx := h x (by simp)
    rw [List.sum_cons, ih]
    simp only [List.count_cons]
    rcases (by omega : x = 2 ∨ x = 3 ∨ x = 4 ∨ x = 5 ∨ x = 6 ∨ x = 7) with rfl | rfl | rfl | rfl | rfl | rfl <;> simp <;> omega
def sumL (ls : List Lap) : Int := (ls.map fun l : Lap => l.2 * l.1.sum).sum
theorem sumL_cnt : ∀ ls : List Lap, (∀ l ∈ ls, ∀ s ∈ l.1, 2 ≤ s ∧ s < 8) → sumL ls = 2 * cntL 2 ls + 3 * cntL 3 ls + 4 * cntL 4 ls + 5 * cntL 5 ls + 6 * cntL 6 ls + 7 * cntL 7 ls
  | [], _ => rfl
  | l :: ls, h => by
    have ih := sumL_cnt ls fun x hx => h x (by simp [hx])
    have hl := sum_counts l.1 (h l (by simp))
    unfold sumL cntL at ih ⊢
    simp only [List.map_cons, List.sum_cons]
    rw [ih, hl]
    simp only [Int.mul_add, Int.mul_left_comm l.2]
    omega
theorem waste_app (u : Int) (x : Lap) (ls : List Lap) : wasteP u (ls ++ [x]) = u * lapsP ls - sumL ls := by
  unfold wasteP
  rw [List.dropLast_concat]
  induction ls with
  | nil => simp [lapsP, sumL]
  | cons l ls ih =>
    unfold lapsP sumL at *
    simp only [List.map_cons, List.sum_cons]
    rw [ih, Int.mul_add, Int.mul_sub, Int.mul_comm l.2 u]
    omega
/-! the best plan -/
def spanP (u : Int) (kvs : List (Int × Int)) (t : List Int) : Int := u * lapsP (fewestP u (withoutP kvs t)) + t.sum
def planP (u : Int) (kvs : List (Int × Int)) (t : List Int) : List Lap := fewestP u (withoutP kvs t) ++ [(t, 1)]
def bestS (u : Int) (kvs : List (Int × Int)) (st : List Lap × Option Int) (t : List Int) : List Lap × Option Int := match st.2 with
  | none => (planP u kvs t, some (spanP u kvs t))
  | some m => if spanP u kvs t < m then (planP u kvs t, some (spanP u kvs t)) else st
def bestP (u : Int) (kvs : List (Int × Int)) : List Lap := ((contF 5 u kvs []).foldl (bestS u kvs) ([], none)).1
def BestI (u : Int) (kvs : List (Int × Int)) (l : List (List Int)) (st : List Lap × Option Int) : Prop := (l = [] ∧ st = ([], none)) ∨ ∃ t ∈ l, st = (planP u kvs t, some (spanP u kvs t)) ∧ ∀ x ∈ l, spanP u kvs t ≤ spanP u kvs x
theorem best_step {u : Int} {kvs : List (Int × Int)} {l : List (List Int)} {st : List Lap × Option Int} {t : List Int} (h : BestI u kvs l st) : BestI u kvs (l ++ [t]) (bestS u kvs st t) := by
  right
  rcases h with ⟨rfl, rfl⟩ | ⟨x, hx, rfl, hm⟩
  · exact ⟨t, by simp, rfl, fun y hy => by rw [List.nil_append] at hy; rw [List.mem_singleton.mp hy]; exact Int.le_refl _⟩
  · unfold bestS
    dsimp only
    split
    · rename_i hlt
      refine ⟨t, by simp, rfl, fun y hy => ?_⟩
      rcases List.mem_append.mp hy with hy | hy
      · have := hm y hy; omega
      · rw [List.mem_singleton.mp hy]; exact Int.le_refl _
    · rename_i hlt
      refine ⟨x, by simp [hx], rfl, fun y hy => ?_⟩
      rcases List.mem_append.mp hy with hy | hy
      · exact hm y hy
      · rw [List.mem_singleton.mp hy]; omega
theorem best_fold {u : Int} {kvs : List (Int × Int)} : ∀ (l2 l : List (List Int)) (st : List Lap × Option Int), BestI u kvs l st → BestI u kvs (l ++ l2) (l2.foldl (bestS u kvs) st)
  | [], l, st, h => by rw [List.append_nil]; exact h
  | t :: l2, l, st, h => by
    have := best_fold l2 (l ++ [t]) _ (best_step (t := t) h)
    rw [List.append_assoc] at this
    exact this
theorem best_spec (u : Int) (kvs : List (Int × Int)) : (contF 5 u kvs [] = [] ∧ bestP u kvs = []) ∨ ∃ t ∈ contF 5 u kvs [], bestP u kvs = planP u kvs t ∧ ∀ x ∈ contF 5 u kvs [], spanP u kvs t ≤ spanP u kvs x := by
  have h := best_fold (u := u) (kvs := kvs) (contF 5 u kvs []) [] ([], none) (.inl ⟨rfl, rfl⟩)
  rw [List.nil_append] at h
  unfold bestP
  rcases h with ⟨h1, h2⟩ | ⟨t, h1, h2, h3⟩
  · exact .inl ⟨h1, by rw [h2]⟩
  · exact .inr ⟨t, h1, by rw [h2], h3⟩
/-! the law's waste -/
def subB (b : Bx) (t : List Int) : Bx := ⟨b.b0 - (t.count 0 : Nat), b.b1 - (t.count 1 : Nat), b.b2 - (t.count 2 : Nat), b.b3 - (t.count 3 : Nat), b.b4 - (t.count 4 : Nat), b.b5 - (t.count 5 : Nat), b.b6 - (t.count 6 : Nat), b.b7 - (t.count 7 : Nat), b.b8 - (t.count 8 : Nat)⟩
def totB (b : Bx) : Int := b.b1 + 2 * b.b2 + 3 * b.b3 + 4 * b.b4 + 5 * b.b5 + 6 * b.b6 + 7 * b.b7 + 8 * b.b8
def lawSpan (u : Int) (b : Bx) (t : List Int) : Int := u * lawLapsP u (subB b t) + t.sum - totB b
def LawWaste (u : Int) (b : Bx) (r : Int) : Prop := ((∀ t, Reach u b.l t → t = []) ∧ r = 0) ∨ ∃ t, Reach u b.l t ∧ t ≠ [] ∧ r = lawSpan u b t ∧ ∀ x, Reach u b.l x → x ≠ [] → r ≤ lawSpan u b x
theorem sub_bxK {u : Int} {kvs : List (Int × Int)} (hk : KOk u kvs) {t : List Int} (h : Reach u (bxK kvs).l t) : subB (bxK kvs) t = bxK (withoutP kvs t) := by
  have hf := h.few hk
  have hp := h.pos
  have hu := hk.uu
  have hz : ∀ s : Int, s < 2 ∨ 8 ≤ s → t.count s = 0 := fun s hs => List.count_eq_zero.mpr fun hm => by have := hp s hm; omega
  unfold subB bxK
  rw [hz 0 (by omega), hz 1 (by omega), hz 8 (by omega)]
  simp only [without_gv hk hf]
  rfl
theorem span_law {u : Int} {kvs : List (Int × Int)} (hk : KOk u kvs) {t : List Int} (h : Reach u (bxK kvs).l t) : spanP u kvs t - totB (bxK kvs) = lawSpan u (bxK kvs) t := by
  unfold spanP lawSpan
  rw [fewest_law (without_ok hk (h.few hk)), sub_bxK hk h]
theorem plan_waste {u : Int} {kvs : List (Int × Int)} (hk : KOk u kvs) {t : List Int} (h : Reach u (bxK kvs).l t) : wasteP u (planP u kvs t) = lawSpan u (bxK kvs) t := by
  rw [← span_law hk h]
  unfold planP
  rw [waste_app]
  have hu := hk.uu
  obtain ⟨h1, h2⟩ := fewest_ok (without_ok hk (h.few hk))
  rw [sumL_cnt _ fun l hl s hs => by have := isLap_size (h1 l hl) s hs; omega]
  simp only [h2, without_gv hk (h.few hk)]
  have h3 := sum_counts t fun s hs => by have := h.pos s hs; omega
  unfold spanP totB bxK
  dsimp only
  omega
theorem waste_law {u : Int} {kvs : List (Int × Int)} (hk : KOk u kvs) : LawWaste u (bxK kvs) (wasteP u (bestP u kvs)) := by
  rcases best_spec u kvs with ⟨h1, h2⟩ | ⟨t, h1, h2, h3⟩
  · refine .inl ⟨fun t ht => Classical.byContradiction fun hn => ?_, by rw [h2]; rfl⟩
    have := (cont_iff hk t).mpr ⟨ht, hn⟩
    rw [h1] at this
    cases this
  · obtain ⟨h4, h5⟩ := (cont_iff hk t).mp h1
    refine .inr ⟨t, h4, h5, by rw [h2, plan_waste hk h4], fun x hx hn => ?_⟩
    have := h3 x ((cont_iff hk x).mpr ⟨hx, hn⟩)
    have e1 := span_law hk h4
    have e2 := span_law hk hx
    rw [h2, plan_waste hk h4]
    omega
theorem LawWaste.uniq {u : Int} {b : Bx} {r r' : Int} (h : LawWaste u b r) (h' : LawWaste u b r') : r = r' := by
  rcases h with ⟨h1, rfl⟩ | ⟨t, h1, h2, h3, h4⟩
  · rcases h' with ⟨g1, rfl⟩ | ⟨t', g1, g2, g3, g4⟩
    · rfl
    · exact absurd (h1 _ g1) g2
  · rcases h' with ⟨g1, rfl⟩ | ⟨t', g1, g2, g3, g4⟩
    · exact absurd (g1 _ h1) h2
    · have := h4 _ g1 g2
      have := g4 _ h1 h2
      omega
end GX
end SGM5
section SGM6
set_option linter.all false
set_option maxHeartbeats 1000000
/-! the program's look at a plan is the law's -/
namespace GX
theorem keys_put {m : List (Int × Int)} {k v : Int} (nd : (m.map (·.1)).Nodup) : ((putI m k v).map (·.1)).Nodup := by
  unfold putI
  split
  · rw [List.map_map]
    have e : ((fun x : Int × Int => x.1) ∘ fun kv : Int × Int => if kv.1 = k then (kv.1, v) else kv) = fun x => x.1 := by
      funext x
      simp only [Function.comp]
      split <;> rfl
    rw [e]
    exact nd
  · rename_i h
    rw [List.map_append, List.nodup_append]
    refine ⟨nd, by simp, fun a ha b hb hab => ?_⟩
    rw [List.map_singleton, List.mem_singleton] at hb
    subst hb hab
    obtain ⟨p, hp, hpk⟩ := List.mem_map.mp ha
    exact h (List.any_eq_true.mpr ⟨p, hp, decide_eq_true hpk⟩)
theorem put_pos {m : List (Int × Int)} {k v : Int} (hm : ∀ p ∈ m, 0 < p.2) (hv : 0 < v) : ∀ p ∈ putI m k v, 0 < p.2 := by
  unfold putI
  intro p hp
  split at hp
  · obtain ⟨q, hq, rfl⟩ := List.mem_map.mp hp
    split
    · exact hv
    · exact hm q hq
  · rcases List.mem_append.mp hp with h | h
    · exact hm p h
    · rw [List.mem_singleton.mp h]; exact hv
theorem gv_nn {m : List (Int × Int)} (hm : ∀ p ∈ m, 0 < p.2) (s : Int) : 0 ≤ gv m s := by
  unfold gv
  cases q : getI m s with
  | none => exact Int.le_refl _
  | some v => exact Int.le_of_lt (hm _ (getI_mem q))
/-- a dict of positive numbers -/
structure PosD (m : List (Int × Int)) : Prop where
  nd : (m.map (·.1)).Nodup
  pos : ∀ p ∈ m, 0 < p.2
theorem add_ok {n : Int} (hn : 1 ≤ n) : ∀ (ss : List Int) {m : List (Int × Int)}, PosD m → PosD (addL n m ss) ∧ ∀ s, gv (addL n m ss) s = gv m s + n * ((ss.count s : Nat) : Int)
  | [], m, h => ⟨h, fun s => by simp [addL]⟩
  | x :: ss, m, h => by
    have h0 := gv_nn h.pos x
    have h1 : PosD (putI m x (gv m x + n)) := ⟨keys_put h.nd, put_pos h.pos (by omega)⟩
    obtain ⟨g1, g2⟩ := add_ok hn ss h1
    refine ⟨g1, fun s => ?_⟩
    show gv (addL n (putI m x (gv m x + n)) ss) s = _
    rw [g2, gv_put]
    by_cases e : s = x
    · subst e
      rw [if_pos rfl, List.count_cons_self, Int.natCast_add, Int.mul_add]
      omega
    · rw [if_neg e, List.count_cons_of_ne fun z => e z.symm]
theorem boxOf_all : ∀ (ls : List Lap) {m : List (Int × Int)}, (∀ l ∈ ls, 1 ≤ l.2) → PosD m → PosD (ls.foldl (fun m l => addL l.2 m l.1) m) ∧ ∀ s, gv (ls.foldl (fun m l => addL l.2 m l.1) m) s = gv m s + cntL s ls
  | [], m, _, h => ⟨h, fun s => by simp [cntL]⟩
  | l :: ls, m, hl, h => by
    obtain ⟨h1, h2⟩ := add_ok (hl l (by simp)) l.1 h
    obtain ⟨g1, g2⟩ := boxOf_all ls (fun x hx => hl x (by simp [hx])) h1
    refine ⟨g1, fun s => ?_⟩
    rw [List.foldl_cons, g2, h2]
    unfold cntL
    rw [List.map_cons, List.sum_cons]
    omega
theorem isLap_num {u : Int} {l : Lap} (h : isLapP u l = true) : 1 ≤ l.2 := by
  unfold isLapP at h
  simp only [Bool.and_eq_true, decide_eq_true_eq] at h
  exact h.1.1.1.1
theorem boxOf_ok {u : Int} {ls : List Lap} (h : ∀ l ∈ ls, isLapP u l = true) : PosD (boxOf ls) ∧ ∀ s, gv (boxOf ls) s = cntL s ls := by
  obtain ⟨h1, h2⟩ := boxOf_all ls (m := []) (fun l hl => isLap_num (h l hl)) ⟨by simp, by simp⟩
  refine ⟨h1, fun s => ?_⟩
  unfold boxOf
  rw [h2]
  show (0 : Int) + _ = _
  omega
theorem PosD.mem {m : List (Int × Int)} (h : PosD m) (s v : Int) : (s, v) ∈ m ↔ 0 < v ∧ gv m s = v := by
  constructor
  · intro hm
    refine ⟨h.pos _ hm, ?_⟩
    unfold gv
    rw [getI_of h.nd hm]
    rfl
  · rintro ⟨h1, h2⟩
    unfold gv at h2
    cases q : getI m s with
    | none => rw [q] at h2; simp at h2; omega
    | some w =>
      rw [q] at h2
      have : w = v := h2
      subst this
      exact getI_mem q
theorem PosD.key {m : List (Int × Int)} (h : PosD m) (s : Int) : s ∈ m.map (·.1) ↔ 0 < gv m s := by
  constructor
  · intro hs
    obtain ⟨p, hp, rfl⟩ := List.mem_map.mp hs
    have := (h.mem p.1 p.2).mp hp
    omega
  · intro hs
    exact List.mem_map.mpr ⟨_, (h.mem s _).mpr ⟨hs, rfl⟩, rfl⟩
theorem dEq_iff {m k : List (Int × Int)} (hm : PosD m) (hk : PosD k) : dEq m k = true ↔ ∀ s, gv m s = gv k s := by
  unfold dEq
  rw [Bool.and_eq_true, beq_iff_eq, List.all_eq_true]
  constructor
  · rintro ⟨hl, hh⟩ s
    have hit : ∀ s, 0 < gv m s → gv k s = gv m s := fun s hs => by
      have h1 := hh _ ((hm.mem s _).mpr ⟨hs, rfl⟩)
      unfold hitB at h1
      dsimp only at h1
      unfold gv at *
      cases q : getI k s with
      | none => rw [q] at h1; cases h1
      | some v => rw [q] at h1; rw [← of_decide_eq_true h1]; rfl
    have n1 := gv_nn hm.pos s
    have n2 := gv_nn hk.pos s
    by_cases hs : 0 < gv m s
    · exact (hit s hs).symm
    · by_cases hs2 : 0 < gv k s
      · exfalso
        have hnd : (s :: m.map (·.1)).Nodup := List.nodup_cons.mpr ⟨fun z => hs ((hm.key s).mp z), hm.nd⟩
        have := List.Nodup.length_le_of_subset (l₂ := k.map (·.1)) hnd fun x hx => by
          rcases List.mem_cons.mp hx with e | e
          · rw [e]; exact (hk.key s).mpr hs2
          · have := (hm.key x).mp e
            refine (hk.key x).mpr ?_
            rw [hit x this]
            exact this
        rw [List.length_cons, List.length_map, List.length_map] at this
        omega
      · omega
  · intro h
    refine ⟨?_, fun p hp => ?_⟩
    · have e : (m.map (·.1)).Perm (k.map (·.1)) := (List.perm_ext_iff_of_nodup hm.nd hk.nd).mpr fun s => by rw [hm.key, hk.key, h]
      have := e.length_eq
      rwa [List.length_map, List.length_map] at this
    · have h1 := (hm.mem p.1 p.2).mp hp
      rw [h] at h1
      have h2 := (hk.mem p.1 p.2).mpr h1
      unfold hitB
      rw [getI_of hk.nd h2]
      exact decide_eq_true rfl
/-! the law's numbers -/
theorem addV_get {v : List Int} {s n : Int} {i : Nat} (h : 0 ≤ s) (hs : s.toNat < v.length) : (addV v s n).getD i 0 = v.getD i 0 + if (i : Int) = s then n else 0 := by
  unfold addV
  rw [List.getD_eq_getElem?_getD, List.getElem?_set, List.getD_eq_getElem?_getD, List.getD_eq_getElem?_getD]
  by_cases e : s.toNat = i
  · subst e
    rw [if_pos rfl, if_pos hs, if_pos (by omega)]
    rfl
  · rw [if_neg e, if_neg (by omega)]
    omega
theorem addVs_get {n : Int} {i : Nat} : ∀ (ss : List Int) (v : List Int), v.length = 9 → (∀ s ∈ ss, 2 ≤ s ∧ s < 8) → (ss.foldl (fun v s => addV v s n) v).length = 9 ∧ (ss.foldl (fun v s => addV v s n) v).getD i 0 = v.getD i 0 + n * ((ss.count (i : Int) : Nat) : Int)
  | [], v, h, _ => ⟨h, by simp⟩
  | s :: ss, v, h, hs => by
    have h1 := hs s (by simp)
    obtain ⟨g1, g2⟩ := addVs_get (n := n) (i := i) ss (addV v s n) (by rw [addV_len]; exact h) fun x hx => hs x (by simp [hx])
    refine ⟨g1, ?_⟩
    rw [List.foldl_cons, g2, addV_get (by omega) (by omega)]
    by_cases e : (i : Int) = s
    · rw [if_pos e, e, List.count_cons_self, Int.natCast_add, Int.mul_add]
      omega
    · rw [if_neg e, List.count_cons_of_ne fun z => e z.symm]
      omega
theorem vecs_get {i : Nat} : ∀ (ls : List Lap) (v : List Int), v.length = 9 → (∀ l ∈ ls, ∀ s ∈ l.1, 2 ≤ s ∧ s < 8) → (ls.foldl (fun v l => l.1.foldl (fun v s => addV v s l.2) v) v).length = 9 ∧ (ls.foldl (fun v l => l.1.foldl (fun v s => addV v s l.2) v) v).getD i 0 = v.getD i 0 + cntL (i : Int) ls
  | [], v, h, _ => ⟨h, by simp [cntL]⟩
  | l :: ls, v, h, hs => by
    obtain ⟨h1, h2⟩ := addVs_get (n := l.2) (i := i) l.1 v h (hs l (by simp))
    obtain ⟨g1, g2⟩ := vecs_get (i := i) ls _ h1 fun x hx => hs x (by simp [hx])
    refine ⟨g1, ?_⟩
    rw [List.foldl_cons, g2, h2]
    unfold cntL
    rw [List.map_cons, List.sum_cons]
    omega
theorem nine_ext {v w : List Int} (hv : v.length = 9) (hw : w.length = 9) (h : ∀ i : Nat, i < 9 → v.getD i 0 = w.getD i 0) : v = w := by
  refine List.ext_getElem? fun i => ?_
  by_cases hi : i < 9
  · have := h i hi
    rw [List.getD_eq_getElem?_getD, List.getD_eq_getElem?_getD, List.getElem?_eq_getElem (by omega), List.getElem?_eq_getElem (by omega)] at this
    rw [List.getElem?_eq_getElem (by omega), List.getElem?_eq_getElem (by omega)]
    exact congrArg some this
  · rw [List.getElem?_eq_none (by omega), List.getElem?_eq_none (by omega)]
theorem lawVec_iff {u : Int} {kvs : List (Int × Int)} (hk : KOk u kvs) {ls : List Lap} (h : ∀ l ∈ ls, isLapP u l = true) : lawVec ls = (bxK kvs).l ↔ ∀ s, cntL s ls = gv kvs s := by
  have hu := hk.uu
  have hs : ∀ l ∈ ls, ∀ s ∈ l.1, 2 ≤ s ∧ s < 8 := fun l hl s hs => by have := isLap_size (h l hl) s hs; omega
  have hg : ∀ i : Nat, (lawVec ls).getD i 0 = cntL (i : Int) ls := fun i => by
    unfold lawVec
    rw [(vecs_get (i := i) ls (List.replicate 9 0) rfl hs).2]
    have : (List.replicate 9 (0 : Int)).getD i 0 = 0 := by
      rw [List.getD_eq_getElem?_getD, List.getElem?_replicate]
      split <;> rfl
    omega
  have hlen : (lawVec ls).length = 9 := (vecs_get (i := 0) ls (List.replicate 9 0) rfl hs).1
  have hout : ∀ s : Int, s < 2 ∨ 8 ≤ s → cntL s ls = 0 := fun s ho => by
    unfold cntL
    have : ∀ ls : List Lap, (∀ l ∈ ls, ∀ s ∈ l.1, 2 ≤ s ∧ s < 8) → (ls.map fun l : Lap => l.2 * ((l.1.count s : Nat) : Int)).sum = 0 := fun ls => by
      induction ls with
      | nil => intro _; rfl
      | cons l ls ih =>
        intro hh
        rw [List.map_cons, List.sum_cons, ih fun x hx => hh x (by simp [hx]), List.count_eq_zero.mpr fun hm => by have := hh l (by simp) s hm; omega]
        simp
    exact this ls hs
  have hbx : ∀ i : Nat, i < 9 → (bxK kvs).l.getD i 0 = gv kvs (i : Int) := fun i hi => by
    have h0 : gv kvs 0 = 0 := by have := hk.gv0 0; by_cases hp : 0 < gv kvs 0; (have := hk.pos hp; omega); omega
    have h1 : gv kvs 1 = 0 := by have := hk.gv0 1; by_cases hp : 0 < gv kvs 1; (have := hk.pos hp; omega); omega
    have h8 : gv kvs 8 = 0 := hk.big (by omega)
    rcases (by omega : i = 0 ∨ i = 1 ∨ i = 2 ∨ i = 3 ∨ i = 4 ∨ i = 5 ∨ i = 6 ∨ i = 7 ∨ i = 8) with rfl | rfl | rfl | rfl | rfl | rfl | rfl | rfl | rfl
    · exact h0.symm
    · exact h1.symm
    · rfl
    · rfl
    · rfl
    · rfl
    · rfl
    · rfl
    · exact h8.symm
  constructor
  · intro e s
    by_cases ho : s < 2 ∨ 8 ≤ s
    · rw [hout s ho]
      by_cases hp : 0 < gv kvs s
      · have := hk.pos hp; omega
      · have := hk.gv0 s; omega
    · have h1 := hg s.toNat
      rw [e, hbx s.toNat (by omega), show ((s.toNat : Nat) : Int) = s by omega] at h1
      exact h1.symm
  · intro e
    refine nine_ext hlen rfl fun i hi => ?_
    rw [hg, hbx i hi, e]
theorem plan_eq {u : Int} {kvs : List (Int × Int)} (hk : KOk u kvs) (hp : ∀ p ∈ kvs, 0 < p.2) (ls : List Lap) : isPlanP u kvs ls = lawPlanP u (bxK kvs) ls := by
  unfold isPlanP lawPlanP
  cases ha : ls.all (isLapP u) with
  | false => rfl
  | true =>
    have hl := List.all_eq_true.mp ha
    obtain ⟨h1, h2⟩ := boxOf_ok hl
    have e : dEq (boxOf ls) kvs = decide (lawVec ls = (bxK kvs).l) := by
      rw [Bool.eq_iff_iff, dEq_iff h1 ⟨hk.nd, hp⟩, decide_eq_true_eq, lawVec_iff hk hl]
      constructor
      · intro h s; rw [← h2, h]
      · intro h s; rw [h2, h]
    rw [e]
end GX
end SGM6
section SGM7
set_option linter.all false
set_option maxHeartbeats 1000000
/-! the law's formula: laps taken away; doubled numbers -/
namespace GX
theorem s_mono {t t' w w' : Int} (h : 0 ≤ t) (h1 : t ≤ t') (h2 : w ≤ w') : smallP t w ≤ smallP t' w' := by
  have e : smallP t w ≤ smallP t w' := by unfold smallP; omega
  have e2 : ∀ d : Nat, smallP t w' ≤ smallP (t + d) w' := fun d => by
    induction d with
    | zero => simp
    | succ d ih =>
      refine Int.le_trans ih ?_
      unfold smallP
      omega
  have := e2 (t' - t).toNat
  rw [show t + ((t' - t).toNat : Nat) = t' by omega] at this
  omega
theorem s_add {t w i j : Int} (ht : 0 ≤ t) (hw : 0 ≤ w) (hi : 0 ≤ i) (hj : 0 ≤ j) (h : 3 * i + 2 * j ≤ 8) : smallP (t + i) (w + j) ≤ smallP t w + 1 := by
  rcases (by omega : i = 0 ∨ i = 1 ∨ i = 2) with rfl | rfl | rfl
  · refine Int.le_trans (s_mono (w' := w + 4) (by omega) (Int.le_refl _) (by omega)) ?_
    unfold smallP
    omega
  · refine Int.le_trans (s_mono (w' := w + 2) (by omega) (Int.le_refl _) (by omega)) ?_
    unfold smallP
    omega
  · refine Int.le_trans (s_mono (w' := w + 1) (by omega) (Int.le_refl _) (by omega)) ?_
    unfold smallP
    omega
theorem s_swap {t w : Int} (ht : 0 ≤ t) (hw : 0 ≤ w) : smallP t (w + 1) ≤ smallP (t + 1) w := by
  unfold smallP
  omega
def oddP (t w : Int) : Int := min (smallP t (max 0 (w - 2))) (smallP (max 0 (t - 1)) w)
theorem h_mono {t t' w w' : Int} (h : 0 ≤ t) (h1 : t ≤ t') (h2 : w ≤ w') : oddP t w ≤ oddP t' w' := by
  have e1 : smallP t (max 0 (w - 2)) ≤ smallP t' (max 0 (w' - 2)) := s_mono h h1 (by omega)
  have e2 : smallP (max 0 (t - 1)) w ≤ smallP (max 0 (t' - 1)) w' := s_mono (by omega) (by omega) h2
  unfold oddP
  omega
theorem h_add {t w i j : Int} (ht : 0 ≤ t) (hw : 0 ≤ w) (hi : 0 ≤ i) (hj : 0 ≤ j) (h : 3 * i + 2 * j ≤ 8) : oddP (t + i) (w + j) ≤ oddP t w + 1 := by
  have e1 : smallP (t + i) (max 0 (w + j - 2)) ≤ smallP t (max 0 (w - 2)) + 1 := Int.le_trans (s_mono (w' := max 0 (w - 2) + j) (by omega) (Int.le_refl _) (by omega)) (s_add ht (by omega) hi hj h)
  have e2 : smallP (max 0 (t + i - 1)) (w + j) ≤ smallP (max 0 (t - 1)) w + 1 := Int.le_trans (s_mono (t' := max 0 (t - 1) + i) (by omega) (by omega) (Int.le_refl _)) (s_add (by omega) hw hi hj h)
  unfold oddP
  omega
theorem h_swap {t w : Int} (ht : 0 ≤ t) (hw : 0 ≤ w) : oddP t (w + 1) ≤ oddP (t + 1) w := by
  have e1 : smallP t (max 0 (w + 1 - 2)) ≤ smallP (t + 1) (max 0 (w - 2)) := Int.le_trans (s_mono (w' := max 0 (w - 2) + 1) ht (Int.le_refl _) (by omega)) (s_swap ht (by omega))
  have e2 : smallP t (max 0 (w + 1 - 2)) ≤ smallP (max 0 (t + 1 - 1)) w := s_mono ht (by omega) (by omega)
  unfold oddP
  omega
/-- with a4 fours -/
def restP (a t w : Int) : Int := a / 2 + if a % 2 = 0 then smallP t w else 1 + oddP t w
theorem g_mono {a t t' w w' : Int} (h : 0 ≤ t) (h1 : t ≤ t') (h2 : w ≤ w') : restP a t w ≤ restP a t' w' := by
  have e1 := s_mono (w := w) (w' := w') h h1 h2
  have e2 := h_mono (w := w) (w' := w') h h1 h2
  unfold restP
  split <;> omega
theorem g_add {a t w t' w' i j : Int} (ht : 0 ≤ t) (hw : 0 ≤ w) (hi : 0 ≤ i) (hj : 0 ≤ j) (h : 3 * i + 2 * j ≤ 8) (ht0 : 0 ≤ t') (ht' : t' ≤ t + i) (hw' : w' ≤ w + j) : restP a t' w' ≤ restP a t w + 1 := by
  refine Int.le_trans (g_mono ht0 ht' hw') ?_
  have e1 := s_add ht hw hi hj h
  have e2 := h_add ht hw hi hj h
  unfold restP
  split <;> omega
theorem g_swap {a t w : Int} (ht : 0 ≤ t) (hw : 0 ≤ w) : restP a t (w + 1) ≤ restP a (t + 1) w := by
  have e1 := s_swap ht hw
  have e2 := h_swap ht hw
  unfold restP
  split <;> omega
theorem g_four {a t w t' w' i j : Int} (ht : 0 ≤ t) (hw : 0 ≤ w) (hi : 0 ≤ i) (hj : 0 ≤ j) (h : 3 * i + 2 * j ≤ 4) (ht0 : 0 ≤ t') (ht' : t' ≤ t + i) (hw' : w' ≤ w + j) : restP (a + 1) t' w' ≤ restP a t w + 1 := by
  refine Int.le_trans (g_mono ht0 ht' hw') ?_
  have a1 : oddP (t + i) (w + j) ≤ smallP t w := by
    rcases (by omega : i = 0 ∨ i = 1) with rfl | rfl
    · have := s_mono (t := t + 0) (t' := t) (w := max 0 (w + j - 2)) (w' := w) (by omega) (by omega) (by omega)
      unfold oddP
      omega
    · have := s_mono (t := max 0 (t + 1 - 1)) (t' := t) (w := w + j) (w' := w) (by omega) (by omega) (by omega)
      unfold oddP
      omega
  have a2 : smallP (t + i) (w + j) ≤ smallP t (max 0 (w - 2)) + 1 := Int.le_trans (s_mono (w' := max 0 (w - 2) + (j + 2)) (by omega) (Int.le_refl _) (by omega)) (s_add ht (by omega) hi (by omega) (by omega))
  have a3 : smallP (t + i) (w + j) ≤ smallP (max 0 (t - 1)) w + 1 := by
    have h1 := s_mono (t := t + i) (t' := max 0 (t - 1) + (i + 1)) (w := w + j) (w' := w + j) (by omega) (by omega) (Int.le_refl _)
    have h2 := s_add (t := max 0 (t - 1)) (w := w) (i := i + 1) (j := j) (by omega) hw (by omega) hj (by omega)
    omega
  unfold restP
  by_cases hp : a % 2 = 0
  · rw [if_pos hp, if_neg (by omega)]
    omega
  · rw [if_neg hp, if_pos (by omega)]
    unfold oddP
    omega
/-- the formula of eight -/
def f8 (a2 a3 a4 a5 a6 a7 : Int) : Int := a7 + a6 + a5 + restP a4 (max 0 (a3 - a5)) (max 0 (a2 - a6 - max 0 (a5 - a3)))
theorem laps8 (b : Bx) : lawLapsP 8 b = f8 b.b2 b.b3 b.b4 b.b5 b.b6 b.b7 := by
  have e : lawLapsP 8 b = (if b.b4 % 2 = 0 then b.b7 + b.b6 + b.b5 + b.b4 / 2 + smallP (max 0 (b.b3 - b.b5)) (max 0 (b.b2 - b.b6 - max 0 (b.b5 - b.b3))) else b.b7 + b.b6 + b.b5 + b.b4 / 2 + 1 + min (smallP (max 0 (b.b3 - b.b5)) (max 0 (max 0 (b.b2 - b.b6 - max 0 (b.b5 - b.b3)) - 2))) (smallP (max 0 (max 0 (b.b3 - b.b5) - 1)) (max 0 (b.b2 - b.b6 - max 0 (b.b5 - b.b3))))) := rfl
  rw [e]
  unfold f8 restP oddP
  split <;> omega
theorem f8_take {a2 a3 a4 a5 a6 a7 c2 c3 c4 c5 c6 c7 : Int} (h2 : 0 ≤ c2) (h3 : 0 ≤ c3) (h4 : 0 ≤ c4) (h5 : 0 ≤ c5) (h6 : 0 ≤ c6) (h7 : 0 ≤ c7) (hc : 2 * c2 + 3 * c3 + 4 * c4 + 5 * c5 + 6 * c6 + 7 * c7 ≤ 8) :
    f8 (a2 + c2) (a3 + c3) (a4 + c4) (a5 + c5) (a6 + c6) (a7 + c7) ≤ f8 a2 a3 a4 a5 a6 a7 + 1 := by
  unfold f8
  by_cases k7 : c7 = 0
  · by_cases k6 : c6 = 0
    · by_cases k5 : c5 = 0
      · by_cases k4 : c4 = 0
        · subst k4 k5 k6 k7
          have := g_add (a := a4) (t := max 0 (a3 - a5)) (w := max 0 (a2 - a6 - max 0 (a5 - a3))) (t' := max 0 (a3 + c3 - a5)) (w' := max 0 (a2 + c2 - a6 - max 0 (a5 - (a3 + c3)))) (i := max 0 (a3 + c3 - a5) - max 0 (a3 - a5)) (j := c2 + c3 - (max 0 (a3 + c3 - a5) - max 0 (a3 - a5))) (by omega) (by omega) (by omega) (by omega) (by omega) (by omega) (by omega) (by omega)
          simp only [Int.add_zero]
          omega
        · by_cases k8 : c4 = 1
          · subst k5 k6 k7 k8
            have := g_four (a := a4) (t := max 0 (a3 - a5)) (w := max 0 (a2 - a6 - max 0 (a5 - a3))) (t' := max 0 (a3 + c3 - a5)) (w' := max 0 (a2 + c2 - a6 - max 0 (a5 - (a3 + c3)))) (i := max 0 (a3 + c3 - a5) - max 0 (a3 - a5)) (j := c2 + c3 - (max 0 (a3 + c3 - a5) - max 0 (a3 - a5))) (by omega) (by omega) (by omega) (by omega) (by omega) (by omega) (by omega) (by omega)
            simp only [Int.add_zero]
            omega
          · have k9 : c4 = 2 ∧ c2 = 0 ∧ c3 = 0 := by omega
            obtain ⟨k9, k10, k11⟩ := k9
            subst k5 k6 k7 k9 k10 k11
            simp only [Int.add_zero]
            have : restP (a4 + 2) (max 0 (a3 - a5)) (max 0 (a2 - a6 - max 0 (a5 - a3))) = restP a4 (max 0 (a3 - a5)) (max 0 (a2 - a6 - max 0 (a5 - a3))) + 1 := by
              unfold restP
              rw [show (a4 + 2) % 2 = a4 % 2 by omega]
              omega
            omega
      · have k8 : c5 = 1 ∧ c4 = 0 ∧ c6 = 0 ∧ c7 = 0 ∧ (c3 = 0 ∧ (c2 = 0 ∨ c2 = 1) ∨ c3 = 1 ∧ c2 = 0) := by omega
        obtain ⟨k8, k9, k10, k11, k12⟩ := k8
        subst k8 k9 k10 k11
        simp only [Int.add_zero]
        rcases k12 with ⟨rfl, rfl | rfl⟩ | ⟨rfl, rfl⟩
        · have := g_mono (a := a4) (t := max 0 (a3 + 0 - (a5 + 1))) (t' := max 0 (a3 - a5)) (w := max 0 (a2 + 0 - a6 - max 0 (a5 + 1 - (a3 + 0)))) (w' := max 0 (a2 - a6 - max 0 (a5 - a3))) (by omega) (by omega) (by omega)
          simp only [Int.add_zero] at this ⊢
          omega
        · by_cases hT : 1 ≤ a3 - a5
          · have h1 := g_swap (a := a4) (t := a3 - a5 - 1) (w := max 0 (a2 - a6 - max 0 (a5 - a3))) (by omega) (by omega)
            have h2 := g_mono (a := a4) (t := max 0 (a3 + 0 - (a5 + 1))) (t' := a3 - a5 - 1) (w := max 0 (a2 + 1 - a6 - max 0 (a5 + 1 - (a3 + 0)))) (w' := max 0 (a2 - a6 - max 0 (a5 - a3)) + 1) (by omega) (by omega) (by omega)
            have h3 := g_mono (a := a4) (t := a3 - a5 - 1 + 1) (t' := max 0 (a3 - a5)) (w := max 0 (a2 - a6 - max 0 (a5 - a3))) (w' := max 0 (a2 - a6 - max 0 (a5 - a3))) (by omega) (by omega) (Int.le_refl _)
            simp only [Int.add_zero] at h2 ⊢
            omega
          · have := g_mono (a := a4) (t := max 0 (a3 + 0 - (a5 + 1))) (t' := max 0 (a3 - a5)) (w := max 0 (a2 + 1 - a6 - max 0 (a5 + 1 - (a3 + 0)))) (w' := max 0 (a2 - a6 - max 0 (a5 - a3))) (by omega) (by omega) (by omega)
            simp only [Int.add_zero] at this ⊢
            omega
        · have := g_mono (a := a4) (t := max 0 (a3 + 1 - (a5 + 1))) (t' := max 0 (a3 - a5)) (w := max 0 (a2 + 0 - a6 - max 0 (a5 + 1 - (a3 + 1)))) (w' := max 0 (a2 - a6 - max 0 (a5 - a3))) (by omega) (by omega) (by omega)
          simp only [Int.add_zero] at this ⊢
          omega
    · have k8 : c6 = 1 ∧ c3 = 0 ∧ c4 = 0 ∧ c5 = 0 ∧ c7 = 0 ∧ c2 ≤ 1 := by omega
      obtain ⟨k8, k9, k10, k11, k12, k13⟩ := k8
      subst k8 k9 k10 k11 k12
      have := g_mono (a := a4) (t := max 0 (a3 - a5)) (t' := max 0 (a3 - a5)) (w := max 0 (a2 + c2 - (a6 + 1) - max 0 (a5 - a3))) (w' := max 0 (a2 - a6 - max 0 (a5 - a3))) (by omega) (by omega) (by omega)
      simp only [Int.add_zero]
      omega
  · have k8 : c7 = 1 ∧ c2 = 0 ∧ c3 = 0 ∧ c4 = 0 ∧ c5 = 0 ∧ c6 = 0 := by omega
    obtain ⟨k8, k9, k10, k11, k12, k13⟩ := k8
    subst k8 k9 k10 k11 k12 k13
    simp only [Int.add_zero]
    omega
theorem f8_takes {c2 c3 c4 c5 c6 c7 : Int} (h2 : 0 ≤ c2) (h3 : 0 ≤ c3) (h4 : 0 ≤ c4) (h5 : 0 ≤ c5) (h6 : 0 ≤ c6) (h7 : 0 ≤ c7) (hc : 2 * c2 + 3 * c3 + 4 * c4 + 5 * c5 + 6 * c6 + 7 * c7 ≤ 8) : ∀ (m : Nat) {a2 a3 a4 a5 a6 a7 : Int},
    f8 a2 a3 a4 a5 a6 a7 ≤ f8 (a2 - m * c2) (a3 - m * c3) (a4 - m * c4) (a5 - m * c5) (a6 - m * c6) (a7 - m * c7) + m
  | 0, a2, a3, a4, a5, a6, a7 => by simp
  | m + 1, a2, a3, a4, a5, a6, a7 => by
    have ih := f8_takes h2 h3 h4 h5 h6 h7 hc m (a2 := a2) (a3 := a3) (a4 := a4) (a5 := a5) (a6 := a6) (a7 := a7)
    have h := f8_take (a2 := a2 - (m + 1 : Nat) * c2) (a3 := a3 - (m + 1 : Nat) * c3) (a4 := a4 - (m + 1 : Nat) * c4) (a5 := a5 - (m + 1 : Nat) * c5) (a6 := a6 - (m + 1 : Nat) * c6) (a7 := a7 - (m + 1 : Nat) * c7) h2 h3 h4 h5 h6 h7 hc
    have e : ∀ a c : Int, a - (m + 1 : Nat) * c + c = a - m * c := fun a c => by
      rw [Int.natCast_add, Int.add_mul]
      omega
    simp only [e] at h
    omega
/-! more boxes need no fewer laps; doubled numbers -/
theorem s_lipw {t w d : Int} (hd : 0 ≤ d) : smallP t (w + d) ≤ smallP t w + d := by
  unfold smallP
  omega
theorem s_lipt {t w d : Int} (ht : 0 ≤ t) (hd : 0 ≤ d) : smallP (t + d) w ≤ smallP t w + d := by
  unfold smallP
  omega
theorem h_lip {t w d e : Int} (ht : 0 ≤ t) (hd : 0 ≤ d) (he : 0 ≤ e) : oddP (t + d) (w + e) ≤ oddP t w + d + e := by
  have a1 := s_lipt (w := max 0 (w + e - 2)) ht hd
  have a2 := s_mono (t := t) (t' := t) (w := max 0 (w + e - 2)) (w' := max 0 (w - 2) + e) ht (Int.le_refl _) (by omega)
  have a3 := s_lipw (t := t) (w := max 0 (w - 2)) he
  have b1 := s_mono (t := max 0 (t + d - 1)) (t' := max 0 (t - 1) + d) (w := w + e) (w' := w + e) (by omega) (by omega) (Int.le_refl _)
  have b2 := s_lipt (t := max 0 (t - 1)) (w := w + e) (by omega) hd
  have b3 := s_lipw (t := max 0 (t - 1)) (w := w) he
  unfold oddP
  omega
theorem g_lip {a t w d e t' w' : Int} (ht : 0 ≤ t) (hd : 0 ≤ d) (he : 0 ≤ e) (ht0 : 0 ≤ t') (ht' : t' ≤ t + d) (hw' : w' ≤ w + e) : restP a t' w' ≤ restP a t w + d + e := by
  refine Int.le_trans (g_mono ht0 ht' hw') ?_
  have a1 := h_lip (w := w) ht hd he
  have a2 := s_lipt (w := w + e) ht hd
  have a3 := s_lipw (t := t) (w := w) he
  unfold restP
  split <;> omega
theorem g_a {a a' t w : Int} (ht : 0 ≤ t) (hw : 0 ≤ w) (h : a ≤ a') : restP a t w ≤ restP a' t w := by
  have a1 : oddP t w ≤ smallP t w := by
    have := s_mono (t := t) (t' := t) (w := max 0 (w - 2)) (w' := w) ht (Int.le_refl _) (by omega)
    unfold oddP
    omega
  have a2 : smallP t w ≤ oddP t w + 1 := by
    have h1 := s_mono (t := t) (t' := t) (w := w) (w' := max 0 (w - 2) + 2) ht (Int.le_refl _) (by omega)
    have h2 := s_add (t := t) (w := max 0 (w - 2)) (i := 0) (j := 2) ht (by omega) (by decide) (by decide) (by decide)
    have h3 := s_mono (t := t) (t' := max 0 (t - 1) + 1) (w := w) (w' := w) ht (by omega) (Int.le_refl _)
    have h4 := s_add (t := max 0 (t - 1)) (w := w) (i := 1) (j := 0) (by omega) hw (by decide) (by decide) (by decide)
    rw [Int.add_zero] at h2 h4
    unfold oddP
    omega
  unfold restP
  generalize smallP t w = x at *
  generalize oddP t w = y at *
  split <;> split <;> omega
theorem f8_mono {a2 a3 a4 a5 a6 a7 b2 b3 b4 b5 b6 b7 : Int} (h2 : a2 ≤ b2) (h3 : a3 ≤ b3) (h4 : a4 ≤ b4) (h5 : a5 ≤ b5) (h6 : a6 ≤ b6) (h7 : a7 ≤ b7) : f8 a2 a3 a4 a5 a6 a7 ≤ f8 b2 b3 b4 b5 b6 b7 := by
  have e1 : f8 a2 a3 a4 a5 a6 a7 ≤ f8 b2 a3 a4 a5 a6 a7 := by
    have := g_mono (a := a4) (t := max 0 (a3 - a5)) (t' := max 0 (a3 - a5)) (w := max 0 (a2 - a6 - max 0 (a5 - a3))) (w' := max 0 (b2 - a6 - max 0 (a5 - a3))) (by omega) (by omega) (by omega)
    unfold f8
    omega
  have e2 : f8 b2 a3 a4 a5 a6 a7 ≤ f8 b2 b3 a4 a5 a6 a7 := by
    have := g_mono (a := a4) (t := max 0 (a3 - a5)) (t' := max 0 (b3 - a5)) (w := max 0 (b2 - a6 - max 0 (a5 - a3))) (w' := max 0 (b2 - a6 - max 0 (a5 - b3))) (by omega) (by omega) (by omega)
    unfold f8
    omega
  have e3 : f8 b2 b3 a4 a5 a6 a7 ≤ f8 b2 b3 b4 a5 a6 a7 := by
    have := g_a (a := a4) (a' := b4) (t := max 0 (b3 - a5)) (w := max 0 (b2 - a6 - max 0 (a5 - b3))) (by omega) (by omega) h4
    unfold f8
    omega
  have e4 : f8 b2 b3 b4 a5 a6 a7 ≤ f8 b2 b3 b4 b5 a6 a7 := by
    have := g_lip (a := b4) (t := max 0 (b3 - b5)) (w := max 0 (b2 - a6 - max 0 (b5 - b3))) (d := max 0 (b3 - a5) - max 0 (b3 - b5)) (e := max 0 (b5 - b3) - max 0 (a5 - b3)) (t' := max 0 (b3 - a5)) (w' := max 0 (b2 - a6 - max 0 (a5 - b3))) (by omega) (by omega) (by omega) (by omega) (by omega) (by omega)
    unfold f8
    omega
  have e5 : f8 b2 b3 b4 b5 a6 a7 ≤ f8 b2 b3 b4 b5 b6 a7 := by
    have := g_lip (a := b4) (t := max 0 (b3 - b5)) (w := max 0 (b2 - b6 - max 0 (b5 - b3))) (d := 0) (e := b6 - a6) (t' := max 0 (b3 - b5)) (w' := max 0 (b2 - a6 - max 0 (b5 - b3))) (by omega) (by omega) (by omega) (by omega) (by omega) (by omega)
    unfold f8
    omega
  have e6 : f8 b2 b3 b4 b5 b6 a7 ≤ f8 b2 b3 b4 b5 b6 b7 := by
    unfold f8
    omega
  omega
theorem s_two {t w : Int} (ht : 0 ≤ t) (hw : 0 ≤ w) : smallP (2 * t) (2 * w) ≤ 2 * smallP t w := by
  unfold smallP
  omega
theorem f8_two (a2 a3 a4 a5 a6 a7 : Int) : f8 (2 * a2) (2 * a3) (2 * a4) (2 * a5) (2 * a6) (2 * a7) ≤ 2 * f8 a2 a3 a4 a5 a6 a7 := by
  have e1 : max 0 (2 * a3 - 2 * a5) = 2 * max 0 (a3 - a5) := by omega
  have e2 : max 0 (2 * a2 - 2 * a6 - max 0 (2 * a5 - 2 * a3)) = 2 * max 0 (a2 - a6 - max 0 (a5 - a3)) := by omega
  unfold f8
  rw [e1, e2]
  have ht : 0 ≤ max 0 (a3 - a5) := by omega
  have hw : 0 ≤ max 0 (a2 - a6 - max 0 (a5 - a3)) := by omega
  generalize max 0 (a3 - a5) = t at ht ⊢
  generalize max 0 (a2 - a6 - max 0 (a5 - a3)) = w at hw ⊢
  have k1 := s_two ht hw
  have k2 : smallP (2 * t) (2 * w) ≤ 2 * oddP t w + 1 := by
    have h1 := s_mono (t := 2 * t) (t' := 2 * t) (w := 2 * w) (w' := 2 * max 0 (w - 2) + 4) (by omega) (Int.le_refl _) (by omega)
    have h2 := s_add (t := 2 * t) (w := 2 * max 0 (w - 2)) (i := 0) (j := 4) (by omega) (by omega) (by decide) (by decide) (by decide)
    rw [Int.add_zero] at h2
    have h3 := s_two (t := t) (w := max 0 (w - 2)) ht (by omega)
    have g1 := s_mono (t := 2 * t) (t' := 2 * max 0 (t - 1) + 2) (w := 2 * w) (w' := 2 * w) (by omega) (by omega) (Int.le_refl _)
    have g2 := s_add (t := 2 * max 0 (t - 1)) (w := 2 * w) (i := 2) (j := 0) (by omega) (by omega) (by decide) (by decide) (by decide)
    rw [Int.add_zero] at g2
    have g3 := s_two (t := max 0 (t - 1)) (w := w) (by omega) hw
    unfold oddP
    omega
  have k3 : restP (2 * a4) (2 * t) (2 * w) = a4 + smallP (2 * t) (2 * w) := by
    unfold restP
    rw [if_pos (by omega)]
    omega
  rw [k3]
  unfold restP
  generalize smallP (2 * t) (2 * w) = x at *
  generalize smallP t w = y at *
  generalize oddP t w = z at *
  split <;> omega
/-- laps of the same content taken away -/
theorem laps_take {u : Int} (hu : u = 8 ∨ u = 4) {b b' : Bx} {t : List Int} (ht : ∀ s ∈ t, 2 ≤ s ∧ s < u) (hs : t.sum ≤ u) {m : Int} (hm : 0 ≤ m)
    (e2 : b'.b2 = b.b2 - m * (t.count 2 : Nat)) (e3 : b'.b3 = b.b3 - m * (t.count 3 : Nat)) (e4 : b'.b4 = b.b4 - m * (t.count 4 : Nat)) (e5 : b'.b5 = b.b5 - m * (t.count 5 : Nat)) (e6 : b'.b6 = b.b6 - m * (t.count 6 : Nat)) (e7 : b'.b7 = b.b7 - m * (t.count 7 : Nat)) :
    lawLapsP u b ≤ lawLapsP u b' + m := by
  have hc := sum_counts t fun s h => by have := ht s h; omega
  obtain ⟨n, rfl⟩ : ∃ n : Nat, m = n := ⟨m.toNat, by omega⟩
  rcases hu with rfl | rfl
  · rw [laps8, laps8, e2, e3, e4, e5, e6, e7]
    exact f8_takes (by omega) (by omega) (by omega) (by omega) (by omega) (by omega) (by omega) n
  · show b.b3 + (b.b2 + 1) / 2 ≤ b'.b3 + (b'.b2 + 1) / 2 + n
    rw [e2, e3]
    have hcase : t.count 3 = 0 ∧ t.count 2 ≤ 2 ∨ t.count 3 = 1 ∧ t.count 2 = 0 := by omega
    rcases hcase with ⟨h3, h2⟩ | ⟨h3, h2⟩
    · rw [h3]
      rcases (by omega : t.count 2 = 0 ∨ t.count 2 = 1 ∨ t.count 2 = 2) with h | h | h <;> rw [h] <;> simp <;> omega
    · rw [h3, h2]
      simp
      omega
theorem laps_two {u : Int} (hu : u = 8 ∨ u = 4) {b b' : Bx} (e2 : b'.b2 ≤ 2 * b.b2) (e3 : b'.b3 ≤ 2 * b.b3) (e4 : b'.b4 ≤ 2 * b.b4) (e5 : b'.b5 ≤ 2 * b.b5) (e6 : b'.b6 ≤ 2 * b.b6) (e7 : b'.b7 ≤ 2 * b.b7) : lawLapsP u b' ≤ 2 * lawLapsP u b := by
  rcases hu with rfl | rfl
  · rw [laps8, laps8]
    exact Int.le_trans (f8_mono e2 e3 e4 e5 e6 e7) (f8_two ..)
  · show b'.b3 + (b'.b2 + 1) / 2 ≤ 2 * (b.b3 + (b.b2 + 1) / 2)
    omega
end GX
end SGM7
section SGFn12
set_option linter.all false
set_option maxRecDepth 100000
set_option maxHeartbeats 1000000
/-! _law_waste -/
namespace GX
open PySem PySem.Spec PyProof.Rows L2
open Evl StX OL
section
variable {X : Cx} {σ : L2.St} {H : Hp} {e tg it : Expr} {es : List Expr} {ds ds' : List PyData} {qs : List Dv} {pos p : Pos}
theorem Src.is (h : Src X σ H tg it ds) (e : ds = ds') : Src X σ H tg it ds' := e ▸ h
theorem xLasts {k j n : Nat} {u : Int} {b : Bx} {x : Str} (C : Cl X.prog X.w X.K X.mg X.base j x n (SpLasts X.K)) (hr : Room k X.A) (ha : AQ X σ H (e :: es) [.dat (.int u), .dat b.d]) (hu2 : 2 ≤ u) (hu8 : u ≤ 8) (hj : j ≤ k := by decide)
    (hg : Gl X x := by rfl) (hdb : (x == ("__debug__" : Str)) = false := by decide) (he : starEach (e :: es) X.env = (false, eval e X.env) :: starEach es X.env := by rfl) (hpl : (backTo pos (starEach es X.env)).any (·.1) = false := by rfl) :
    ER X σ H (.Call (.Name x p) (e :: es) [] pos) fun v H' => ∃ q F, v = .ref q ∧ H q = none ∧ LyAt H' q F ∧ (∀ t, t ∈ F ↔ Reach u b.l t ∧ t ≠ []) ∧ F.length ≤ 65536 := by
  obtain ⟨f, fd, ps, _, F, hm, hk, hb⟩ := C.ex
  exact .of (pe_call (E := fun _ _ _ => False) F (hr.mono hj) hg hm hk hb .nil (fun _ _ _ _ _ _ _ z => False.elim z) ha hdb he hpl) fun H1 e1 Q k => ⟨rfl, e1, fun vs H2 e2 dvs => by
    refine ⟨u, b, hu2, hu8, by rw [List.append_nil]; exact dvs, fun p H' F e' hn hl hF hz => k _ H' (e2.trans e') ⟨p, F, rfl, fresh_back (e1.trans e2) hn, hl, hF, hz⟩⟩⟩
end
section
variable {X : Cx} {σ : L2.St} {H : Hp} {tg it elt : Expr} {pos spos py : Pos} {rest : List Stmt} {D0 : Ends}
/-- x = a list comprehension -/
theorem sxSetLc {i : Nat} {y : Str} {α : Type} {xs : List α} {Dd : α → PyData} {T : α → Bool} {E : α → PyData} {ifs : List Expr} {scope : Scope} {own : List (Str × Nat)} {g : TG} (hc : X.calm = true) (hN : X.N.Nodup) (src : Src X σ H tg it (xs.map Dd)) (ok : BlkOk X.N X.env.scope scope own)
    (hg : Blk X scope fun B => PG B tg g) (hz : xs.length ≤ sizeLine) (hf : ∀ a ∈ xs, flatD (E a) = true)
    (step : ∀ a ∈ xs, ∀ v H2, Ex H H2 → Dp X.K H2 v (Dd a) → ∀ Q : L2.St → Hp → Prop, (∀ σ2, wipe σ2 (own.map (·.2)) = wipe σ (own.map (·.2)) → ∀ H3, Ex H2 H3 → (Blk X scope fun B => TXs B σ2 H3 ifs (T a)) → (T a = true → Blk X scope fun B => EX B σ2 H3 elt (E a)) → Q σ2 H3) → g v (wipe σ (own.map (·.2))) H2 Q)
    (k : ∀ v H2, Ex H H2 → (∃ p, v = .ref p ∧ H p = none ∧ LsAt X.K H2 p ((xs.filter T).map E)) → SX X (σ.set i (some v)) H2 rest D0)
    (hs : ∀ x, foldedSetIterable it X.env x = pure x := by intro _; rfl) (hy : X.N[i]? = some y := by rfl) (hyl : X.env.scope.names.lookup y = some .local := by rfl) (hsw : swapsWith (.ListComp elt [⟨tg, it, ifs, 0⟩] scope pos) (some (.Name y py)) spos.line X.env = pure true := by rfl) : SX X σ H (.Assign [.Name y py] (.ListComp elt [⟨tg, it, ifs, 0⟩] scope pos) spos :: rest) D0 := by
  obtain ⟨wi, pi, hwi⟩ := src.run
  refine sxOf (ps_setLc (tt := tBlkT X scope ifs) (te := tBlk X scope elt) hc hN hy hyl hsw pi ok hg (fun s H0 C cl fp => ⟨fun pins s1 σ' H' Q I q => q s H0 C cl fp pins s1 I⟩) (fun s H0 C cl fp => ⟨fun pins s1 σ' H' Q I q => q s H0 C cl fp pins s1 I⟩) hs) ?_
  refine hwi H (Ex.refl _) _ fun J H2 Gd Y e2 W hG0 hGs hY D hD => ?_
  -- the list so far
  refine lc_it W (fun i H' => ∃ H'', Ex H2 H'' ∧ H' = H'' ∧ ∃ vs, H' D = some (.lst vs) ∧ DpAll X.K H' vs (((xs.take i).filter T).map E) ∧ vs.length ≤ i) ⟨_, Ex.new hD, rfl, [], upd_same, .nil, Nat.le_refl _⟩ (fun i H' _ ⟨H'', e3, eh, _⟩ => by subst eh; exact hGs _ _ e3 hG0) ?_ ?_
  · rintro i x H3 H4 hi ⟨_, e3, rfl, vs, hv, dvs, hl⟩ y
    obtain ⟨e4, d, hd, dx⟩ := hY i H3 x H4 (hGs _ _ e3 hG0) y
    rw [List.getElem?_map] at hd
    cases ha : xs[i]? with
    | none => rw [ha] at hd; cases hd
    | some a0 =>
      rw [ha] at hd
      cases hd
      have hmem : a0 ∈ xs := List.mem_of_getElem? ha
      have htake : xs.take (i + 1) = xs.take i ++ [a0] := by rw [List.take_succ, ha]; rfl
      have e04 : Ex H H4 := e2.trans (e3.trans e4)
      refine step a0 hmem x H4 e04 dx _ fun σ2 hw H5 e5 ht hel => ⟨hw, tBlkT_of ht ⟨True, trivial⟩ fun H6 e6 => ?_⟩
      have e26 : Ex H2 H6 := e3.trans (e4.trans (e5.trans e6))
      cases hT : T a0 with
      | false =>
        refine ⟨H6, e26, rfl, vs, (e4.trans (e5.trans e6)) D _ hv, ?_, Nat.le_succ_of_le hl⟩
        rw [htake, List.filter_append, List.filter_cons, hT]
        simp only [Bool.false_eq_true, if_false, List.filter_nil, List.append_nil]
        exact dpAll_ex (e4.trans (e5.trans e6)) dvs
      | true =>
        refine tBlk_of (R := fun v H' => Dp X.K H' v (E a0)) (fun s H0 C cl fp => ER.mono e6 (hel hT s H0 C cl fp)) fun w H7 e7 dw => ?_
        have e37 : Ex H3 H7 := e4.trans (e5.trans (e6.trans e7))
        have hv7 : H7 D = some (.lst vs) := e37 D _ hv
        have mx : Mx H7 (upd H7 D (.lst (vs ++ [w]))) := Mx.upd hv7 (fun _ => by simp) (fun _ _ => by simp)
        refine ⟨vs, hv7, by rw [List.length_map] at hi; omega, _, ex_lst (e3.trans e37) hD, rfl, vs ++ [w], upd_same, ?_, by rw [List.length_append]; simp; omega⟩
        rw [htake, List.filter_append, List.filter_cons, hT]
        simp only [if_true, List.filter_nil, List.map_append, List.map_cons, List.map_nil]
        refine dpAll_app (dpAll_mx mx (flat_all fun a ha => hf a (List.mem_of_mem_take (List.mem_filter.mp ha).1)) (dpAll_ex e37 dvs)) (.cons (dp_mx mx (hf a0 hmem) dw) .nil)
  · rintro H' ⟨_, e3, rfl, vs, hv, dvs, hl⟩
    refine k (.ref D) H' (e2.trans e3) ⟨D, rfl, Evl.fresh_back e2 hD, vs, hv, ?_⟩
    rw [List.length_map, List.take_length] at dvs
    exact dvs
theorem sxSetLcA {i : Nat} {y : Str} {α : Type} {xs : List α} {Dd : α → PyData} {E : α → PyData} {ifs : List Expr} {scope : Scope} {own : List (Str × Nat)} {g : TG} (hc : X.calm = true) (hN : X.N.Nodup) (src : Src X σ H tg it (xs.map Dd)) (ok : BlkOk X.N X.env.scope scope own)
    (hg : Blk X scope fun B => PG B tg g) (hz : xs.length ≤ sizeLine) (hf : ∀ a ∈ xs, flatD (E a) = true)
    (step : ∀ a ∈ xs, ∀ v H2, Ex H H2 → Dp X.K H2 v (Dd a) → ∀ Q : L2.St → Hp → Prop, (∀ σ2, wipe σ2 (own.map (·.2)) = wipe σ (own.map (·.2)) → ∀ H3, Ex H2 H3 → (Blk X scope fun B => TXs B σ2 H3 ifs true) → (True → Blk X scope fun B => EX B σ2 H3 elt (E a)) → Q σ2 H3) → g v (wipe σ (own.map (·.2))) H2 Q)
    (k : ∀ v H2, Ex H H2 → (∃ p, v = .ref p ∧ H p = none ∧ LsAt X.K H2 p (xs.map E)) → SX X (σ.set i (some v)) H2 rest D0)
    (hs : ∀ x, foldedSetIterable it X.env x = pure x := by intro _; rfl) (hy : X.N[i]? = some y := by rfl) (hyl : X.env.scope.names.lookup y = some .local := by rfl) (hsw : swapsWith (.ListComp elt [⟨tg, it, ifs, 0⟩] scope pos) (some (.Name y py)) spos.line X.env = pure true := by rfl) : SX X σ H (.Assign [.Name y py] (.ListComp elt [⟨tg, it, ifs, 0⟩] scope pos) spos :: rest) D0 :=
  sxSetLc (T := fun _ => true) (E := E) hc hN src ok hg hz hf (fun a ha v H2 e2 dv Q q => step a ha v H2 e2 dv Q fun σ2 hw H3 e3 ht he => q σ2 hw H3 e3 ht fun _ => he trivial) (fun v H2 e2 ⟨p, h1, h2, h3⟩ => k v H2 e2 ⟨p, h1, h2, by rw [List.filter_eq_self.mpr (fun _ _ => rfl)] at h3; exact h3⟩) hs hy hyl hsw
end
def enB (b : Bx) (i : Nat) : PyData := .tuple [.int (i : Int), .int (b.l.getD i 0)]
theorem enum_b (b : Bx) : enumD (b.l.map .int) = (List.range 9).map (enB b) := rfl
theorem tot_sum (b : Bx) : ((List.range 9).map fun i : Nat => (i : Int) * b.l.getD i 0).sum = totB b := by
  show (0 : Int) * b.b0 + (1 * b.b1 + (2 * b.b2 + (3 * b.b3 + (4 * b.b4 + (5 * b.b5 + (6 * b.b6 + (7 * b.b7 + (8 * b.b8 + 0)))))))) = _
  unfold totB
  omega
theorem left_sub (b : Bx) (t : List Int) : ((List.range 9).map fun i : Nat => PyData.int (b.l.getD i 0 - (t.count (i : Int) : Nat))) = (subB b t).l.map .int := rfl
section
variable {P : Program} {w : World} {K : PySem.W.Frag} {mg : Str → Option Value} {base : Heap}
inductive preLawWaste : List Dv → Dv → Prop
  | mk (u : Int) (b : Bx) (r : Int) : 2 ≤ u → u ≤ 8 → LawWaste u b r → preLawWaste [.dat (.int u), .dat b.d] (.dat (.int r))
theorem cl_law_waste (B : BM mg) (c_law_laps : Cl P w K mg base 2 "_law_laps" 2 (SpD K preLaps)) (c_law_lasts : Cl P w K mg base 1 "_law_lasts" 2 (SpLasts K)) (F : Df K mg "_law_waste" sLawWaste pLawWaste) : Cl P w K mg base 3 "_law_waste" 2 (SpD K preLawWaste) := by
  refine clD F scLawWaste (fun qs r h => by cases h; rfl) rfl fun f cdv A outer s H vs qs r Q E hr hp hq k => ?_
  obtain ⟨u, b, r, hu2, hu8, hr0⟩ := hp
  obtain ⟨v1, v2, rfl, h1, h2⟩ := hq.two
  obtain rfl := dp_int h1
  refine sxPar (i := 2) (j := 3) rfl scLawWaste.nd (xSumA (ns := (List.range 9).map fun i : Nat => (i : Int) * b.l.getD i 0) B.sum rfl rfl (EN.ex (nLcA (xs := List.range 9) (Dd := enB b) (E := fun i => .int ((i : Int) * b.l.getD i 0)) (own := [("_law_size_here", 6), ("_law_number_here", 7)]) (g := gTup _ 2 (gCons (gName 6) (gCons (gName 7) gNil))) rfl scLawWaste.nd (Src.is (srE rfl B.enumerate (xV 1 rfl h2 (pv 1))) (enum_b b)) (blkOk_by (N := nLawWaste) (sc := defScope sLawWaste) (by decide +kernel)) (fun _ _ _ _ _ => (pg_tup rfl (pgs_cons (pg_name scLawWaste.nd (i := 6) rfl (by first | exact .inl rfl | exact .inr rfl)) (pgs_cons (pg_name scLawWaste.nd (i := 7) rfl (by first | exact .inl rfl | exact .inr rfl)) pgs_nil)))) (by simp [sizeLine_eq]) (fun _ _ => rfl) (fun a ha v H2 e2 dv Q q => by
    have hb := List.mem_range.mp ha
    exact g2_run dv fun u__law_size_here u__law_number_here d__law_size_here d__law_number_here => q _ (by rfl) H2 (Ex.refl _) (fun _ _ _ _ _ => rfl) (fun hT _ _ _ _ _ => (xMul (xV 6 rfl d__law_size_here (pv 6)) (xV 7 rfl d__law_number_here (pv 7)) (by first | exact .inl ⟨by omega, by omega⟩ | exact .inr ⟨by omega, by omega⟩ | assumption)))))) (.inr (by rw [List.map_map]; rfl))) (nLst aNil (Nat.zero_le _)) (fun v H1 H2 e d => dp_ex e d) fun w1 w2 H1 e1 d1 ⟨q, ew, hq, fs, hf1, hf2⟩ => ?_
  rw [tot_sum] at d1
  obtain rfl := dp_int d1
  subst ew
  cases hf2
  have h2' := dp_ex e1 h2
  refine sxForL rfl rfl (xLasts c_law_lasts hr (aqCons (EX.toQ (xV 0 rfl (.int u) (pv 0))) (aqCons (EX.toQ (xV 1 rfl h2' (pv 1))) aqNil)) hu2 hu8) (pg_name scLawWaste.nd (i := 4) rfl (.inr rfl)) fun v H2 e2 ⟨p, F, ev, hp, ⟨vs, hp1, hp2⟩, hF, hz⟩ => ?_
  subst ev
  have hpq : p ≠ q := fun z => by subst z; rw [hf1] at hp; cases hp
  refine ⟨p, vs, fun i σ' H' => ∃ a b' c d, σ' = [some (.int u), some v2, some (.int (totB b)), some (.ref q), a, b', c, d] ∧ Ex H H' ∧ H' p = some (.lst vs) ∧ YAll H' vs F ∧ H' q = some (.lst (((F.take i).map (lawSpan u b)).map V.int)), rfl, ⟨none, none, none, none, rfl, e1.trans e2, hp1, hp2, e2 _ _ hf1⟩, ?_, ?_, ?_⟩
  · rintro i σ' H' _ ⟨_, _, _, _, _, _, h, _⟩
    exact .inl (.inl h)
  · rintro i x σ' H' hi ⟨a, b', c, d, rfl, e3, hp3, hp4, hq3⟩
    refine g1_run (i := 4) ?_
    obtain ⟨t, ht, hy⟩ := hp4.at' hi
    have h2 := dp_ex e3 h2
    refine sxSetLcA (i := 5) (xs := List.range 9) (Dd := enB b) (E := fun i => .int (b.l.getD i 0 - (t.count (i : Int) : Nat))) (own := [("_law_size_here", 6), ("_law_number_here", 7)]) (g := gTup _ 2 (gCons (gName 6) (gCons (gName 7) gNil))) rfl scLawWaste.nd (Src.is (srE rfl B.enumerate (xV 1 rfl h2 (pv 1))) (enum_b b)) (blkOk_by (N := nLawWaste) (sc := defScope sLawWaste) (by decide +kernel)) (fun _ _ _ _ _ => (pg_tup rfl (pgs_cons (pg_name scLawWaste.nd (i := 6) rfl (by first | exact .inl rfl | exact .inr rfl)) (pgs_cons (pg_name scLawWaste.nd (i := 7) rfl (by first | exact .inl rfl | exact .inr rfl)) pgs_nil)))) (by simp [sizeLine_eq]) (fun _ _ => rfl) (fun a ha v H2 e2 dv Q q => by
    have hb := List.mem_range.mp ha
    exact g2_run dv fun u__law_size_here u__law_number_here d__law_size_here d__law_number_here => q _ (by rfl) H2 (Ex.refl _) (fun _ _ _ _ _ => rfl) (fun hT _ _ _ _ _ => (xSub (xV 7 rfl d__law_number_here (pv 7)) (xCountT (EY.et (yV 4 rfl (YdV.ex e2 hy) (pv 4))) (xV 6 rfl d__law_size_here (pv 6)))))) (fun v5 H4 e4 ⟨l, ev, hl, hl2⟩ => ?_)
    subst ev
    rw [left_sub] at hl2
    have hy := hy.ex e4
    have hlen : (((F.take i).map (lawSpan u b)).map V.int).length < sizeLine := by
      have := List.length_take_le' i F
      rw [List.length_map, List.length_map, sizeLine_eq]
      omega
    refine sxAppend (erV 3 rfl (pv 3)) (e4 _ _ hq3) hlen (R := fun v _ => v = .int (lawSpan u b t)) (ER.imp (R := fun v H' => Dp K H' v (.int (lawSpan u b t))) (xSub (xAdd (xMul (xV 0 rfl (.int u) (pv 0)) (xClD c_law_laps hr (aqCons (EX.toQ (xV 0 rfl (.int u) (pv 0))) (aqCons (EX.toQ (EL.ex (lV 5 rfl rfl hl2 (pv 5)))) aqNil)) (.mk u (subB b t))) (by first | exact .inl ⟨by omega, by omega⟩ | exact .inr ⟨by omega, by omega⟩ | assumption)) (xSumA B.sum rfl rfl (ET.ex (EY.et (yV 4 rfl hy (pv 4)))))) (xV 2 rfl (.int _) (pv 2))) fun v H' _ d => dp_int d) fun v6 H5 e5 ev => sxNil ?_
    subst ev
    have mx := mx_lst (us := ((F.take i).map (lawSpan u b)).map V.int ++ [V.int (lawSpan u b t)]) ((e4.trans e5) _ _ hq3)
    refine ⟨_, _, _, _, rfl, ex_lst (e3.trans (e4.trans e5)) hq, by rw [upd_ne hpq]; exact (e4.trans e5) _ _ hp3, (hp4.ex (e4.trans e5)).mx mx, ?_⟩
    rw [upd_same, take_app ht, List.map_append, List.map_append]
    rfl
  · rintro σ' H' ⟨a, b', c, d, rfl, e3, hp3, hp4, hq3⟩
    rw [hp4.len, List.take_length] at hq3
    have hfd : LsAt K H' q ((F.map (lawSpan u b)).map .int) := ⟨_, hq3, ints_dpAll _⟩
    refine sxRet (R := fun v H' => Dp K H' v (.int r)) (xIfT (c0 := decide (F ≠ [])) (TX.is (ttNe hr.units (EL.ex (lV 3 rfl rfl hfd (pv 3))) (EN.ex (nLst aNil (by simp [sizeLine_eq]))) (shaped_lI _) rfl) ?_) (fun hc => EX.is (xMinL rfl rfl B.min (EL.ex (lV 3 rfl rfl hfd (pv 3))) (by simpa using of_decide_eq_true hc)) ?_) fun hc => EX.is xI ?_) fun v H2 e2 d => k v H2 (e3.trans e2) d
    · rw [show PyData.list [] = PyData.list (([] : List Int).map .int) from rfl, eqv_lI]
      cases F <;> simp
    · have hne : F ≠ [] := of_decide_eq_true hc
      refine congrArg PyData.int (LawWaste.uniq (.inr ?_) hr0)
      obtain ⟨t, ht, he⟩ := List.mem_map.mp (minL_mem (ns := F.map (lawSpan u b)) (by simpa using hne))
      obtain ⟨g1, g2⟩ := (hF t).mp ht
      exact ⟨t, g1, g2, he.symm, fun x hx hn => minL_le (List.mem_map.mpr ⟨x, (hF x).mpr ⟨hx, hn⟩, rfl⟩)⟩
    · have he : F = [] := Classical.byContradiction fun h => (of_decide_eq_false hc) h
      refine congrArg PyData.int (LawWaste.uniq (.inl ⟨fun t ht => Classical.byContradiction fun hn => ?_, rfl⟩) hr0)
      have := (hF t).mpr ⟨ht, hn⟩
      rw [he] at this
      cases this
end
end GX
end SGFn12
section SGFn13
set_option linter.all false
set_option maxRecDepth 100000
set_option maxHeartbeats 1000000
/-! _law_filled -/
namespace GX
open PySem PySem.Spec PyProof.Rows L2
open Evl StX OL
section
variable {X : Cx} {σ : L2.St} {H : Hp} {a b : Expr} {rest : List Stmt} {D : Ends} {pos : Pos}
/-- a, b = x, y, by a tuple -/
theorem sxParU {i j : Nat} {x y : Str} {px py pt pt2 : Pos} {kt k2} {R1 R2 : V → Hp → Prop} (hc : X.calm = true) (hN : X.N.Nodup) (ha : ER X σ H a R1) (hb : ER X σ H b R2) (m1 : ∀ v H1 H2, Ex H1 H2 → R1 v H1 → R1 v H2) (m2 : ∀ v H1 H2, Ex H1 H2 → R2 v H1 → R2 v H2) (k : ∀ v u H2, Ex H H2 → R1 v H2 → R2 u H2 → SX X ((σ.set i (some v)).set j (some u)) H2 rest D)
    (hi : X.N[i]? = some x := by rfl) (hj : X.N[j]? = some y := by rfl) (hx : Loc X.env.scope x := by first | exact .inl rfl | exact .inr rfl) (hy : Loc X.env.scope y := by first | exact .inl rfl | exact .inr rfl) (h1 : starEach [a, b] X.env = (false, eval a X.env) :: starEach [b] X.env := by rfl) (h2 : starEach [b] X.env = (false, eval b X.env) :: starEach [] X.env := by rfl)
    (hs : swapsWithSole [.Tuple [.Name x px, .Name y py] kt pt] (.Tuple [a, b] k2 pt2) pos.line X.env = pure false := by rfl) (hw : swappedStores [.Tuple [.Name x px, .Name y py] kt pt] (.Tuple [a, b] k2 pt2) X.env = pure none := by rfl) (hfx : X.fn x = true ∨ X.env.scope.names.lookup x = some .local := by first | exact .inl rfl | exact .inr rfl) (hfy : X.fn y = true ∨ X.env.scope.names.lookup y = some .local := by first | exact .inl rfl | exact .inr rfl) :
    SX X σ H (.Assign [.Tuple [.Name x px, .Name y py] kt pt] (.Tuple [a, b] k2 pt2) pos :: rest) D :=
  sxOf (ps_asg (pe_tup (aR2 ha hb m1 h1 h2)) (pg_tup hc (pgs_cons (pg_name hN hi hx hfx) (pgs_cons (pg_name hN hj hy hfy) pgs_nil))) hs hw rfl) ⟨rfl, Ex.refl _, fun v u H2 e2 r1 r2 => ⟨by simp [sizeLine_eq], fun p hp => ⟨p, [v, u], rfl, .inl (.inl upd_same), rfl, _, _, rfl, _, _, rfl, rfl, k v u _ (e2.trans (Ex.new hp)) (m1 _ _ _ (Ex.new hp) r1) (m2 _ _ _ (Ex.new hp) r2)⟩⟩⟩
end
theorem lsNew {K : PySem.W.Frag} {H : Hp} {ds : List PyData} : ∀ (v : V) (H1 H2 : Hp), Ex H1 H2 → (∃ p, v = .ref p ∧ H p = none ∧ LsAt K H1 p ds) → ∃ p, v = .ref p ∧ H p = none ∧ LsAt K H2 p ds := fun v H1 H2 e ⟨p, h1, h2, h3⟩ => ⟨p, h1, h2, h3.ex e⟩
/-- what stands while laps are filled -/
structure FiH (K : PySem.W.Frag) (H : Hp) (L Fd : Addr) (v : List Int) (ls : List Lap) (H' : Hp) : Prop where
  ex : Ex H H'
  left : H' L = some (.lst (v.map V.int))
  found : ∃ vs, H' Fd = some (.lst vs) ∧ DpAll K H' vs (ls.map dLap)
theorem FiH.mono {K : PySem.W.Frag} {H H1 H2 : Hp} {L Fd : Addr} {v : List Int} {ls : List Lap} (h : FiH K H L Fd v ls H1) (e : Ex H1 H2) : FiH K H L Fd v ls H2 :=
  ⟨h.ex.trans e, e _ _ h.left, let ⟨vs, h1, h2⟩ := h.found; ⟨vs, e _ _ h1, dpAll_ex e h2⟩⟩
theorem FiH.other {K : PySem.W.Frag} {H H1 : Hp} {L Fd R : Addr} {v : List Int} {ls : List Lap} {xs ys : List V} (h : FiH K H L Fd v ls H1) (hR : H1 R = some (.lst xs)) (h1 : L ≠ R) (h2 : Fd ≠ R) (h3 : H R = none) : FiH K H L Fd v ls (upd H1 R (.lst ys)) := by
  obtain ⟨vs, hf1, hf2⟩ := h.found
  exact ⟨ex_lst h.ex h3, by rw [upd_ne h1]; exact h.left, vs, by rw [upd_ne h2]; exact hf1, dpAll_mx (mx_lst hR) (flat_laps ls) hf2⟩
/-- the numbers so far -/
structure FiI (u : Int) (b : Bx) (v : List Int) (ls : List Lap) : Prop where
  len : v.length = 9
  nn : ∀ i : Nat, 0 ≤ v.getD i 0
  law : lawLapsP u b ≤ lapsP ls + lawLapsP u (Bx.of v)
/-- the content that is being filled -/
structure HereI (u : Int) (hs : List Int) : Prop where
  ne : hs ≠ []
  ok : ∀ s ∈ hs, 2 ≤ s ∧ s < u
  sum : hs.sum ≤ u
def lastI (hs : List Int) : Int := hs.getLast?.getD 0
theorem lastI_at {hs : List Int} (h : hs ≠ []) : atI (hs.map PyData.int) (-1) = some (.int (lastI hs)) := by
  rw [atI_last, List.getLast?_map]
  unfold lastI
  cases e : hs.getLast? with
  | none => exact absurd (List.getLast?_eq_none_iff.mp e) h
  | some x => rfl
theorem HereI.len {u : Int} (hu8 : u ≤ 8) {hs : List Int} (h : HereI u hs) : hs.length ≤ 4 := by
  have h2 := sum_ge fun s hs => (h.ok s hs).1
  have := h.sum
  omega
def manyF (v hs : List Int) : Int := minL (hs.map fun s => v.getD s.toNat 0 / (hs.count s : Nat))
theorem FiI.take {u : Int} (hu : u = 8 ∨ u = 4) {b : Bx} {v : List Int} {ls : List Lap} {hs : List Int} (h : FiI u b v ls) (hh : HereI u hs) (hm : 0 < manyF v hs) : FiI u b (hs.foldl (fun v' s => addV v' s (-manyF v hs)) v) (ls ++ [(hs, manyF v hs)]) := by
  have hg := fun i : Nat => addVs_get (n := -manyF v hs) (i := i) hs v h.len fun s hs' => by have := hh.ok s hs'; omega
  generalize hv' : hs.foldl (fun v' s => addV v' s (-manyF v hs)) v = v' at hg ⊢
  refine ⟨(hg 0).1, fun i => ?_, ?_⟩
  · rw [(hg i).2]
    have h0 := h.nn i
    by_cases hi : (i : Int) ∈ hs
    · have hc : 0 < hs.count (i : Int) := List.count_pos_iff.mpr hi
      have h1 : manyF v hs ≤ v.getD (i : Int).toNat 0 / (hs.count (i : Int) : Nat) := minL_le (List.mem_map.mpr ⟨_, hi, rfl⟩)
      rw [show (i : Int).toNat = i by omega] at h1
      have h3 : manyF v hs * (hs.count (i : Int) : Nat) ≤ v.getD i 0 / (hs.count (i : Int) : Nat) * (hs.count (i : Int) : Nat) := Int.mul_le_mul_of_nonneg_right h1 (by omega)
      have h4 : v.getD i 0 / (hs.count (i : Int) : Nat) * (hs.count (i : Int) : Nat) ≤ v.getD i 0 := Int.ediv_mul_le _ (by omega)
      rw [Int.neg_mul]
      omega
    · rw [List.count_eq_zero.mpr hi]
      simp
      exact h0
  · have hl := h.law
    have ht := laps_take hu (b := Bx.of v) (b' := Bx.of v') (t := hs) (m := manyF v hs) hh.ok hh.sum (by omega)
    have e : ∀ i : Nat, v'.getD i 0 = v.getD i 0 - manyF v hs * ((hs.count (i : Int) : Nat) : Int) := fun i => by rw [(hg i).2, Int.neg_mul]; omega
    have ht := ht (e 2) (e 3) (e 4) (e 5) (e 6) (e 7)
    rw [lapsP_app]
    show _ ≤ lapsP ls + (manyF v hs + 0) + _
    omega
theorem sum_zero : ∀ {v : List Int}, (∀ i : Nat, 0 ≤ v.getD i 0) → 0 ≤ v.sum ∧ (v.sum = 0 → ∀ i : Nat, v.getD i 0 = 0)
  | [], _ => ⟨Int.le_refl _, fun _ i => rfl⟩
  | x :: v, h => by
    obtain ⟨h1, h2⟩ := sum_zero (v := v) fun i => h (i + 1)
    have h0 : 0 ≤ x := h 0
    rw [List.sum_cons]
    refine ⟨by omega, fun hz i => ?_⟩
    cases i with
    | zero => show x = 0; omega
    | succ i => exact h2 (by omega) i
theorem FiI.done {u : Int} (hu : u = 8 ∨ u = 4) {b : Bx} {v : List Int} {ls : List Lap} (h : FiI u b v ls) (hz : v.sum = 0) : lawLapsP u b ≤ lapsP ls := by
  have h0 := (sum_zero h.nn).2 hz
  have hl := h.law
  have e : Bx.of v = ⟨0, 0, 0, 0, 0, 0, 0, 0, 0⟩ := by unfold Bx.of; simp only [h0]
  have e2 : lawLapsP u (Bx.of v) = 0 := by rw [e]; rcases hu with rfl | rfl <;> decide
  omega
def SpFilled (K : PySem.W.Frag) : Sp := fun vs H Q _ => ∃ (u : Int) (b : Bx) (ss : List Int), (u = 8 ∨ u = 4) ∧ (∀ i : Nat, 0 ≤ b.l.getD i 0) ∧ (∀ s ∈ ss, 2 ≤ s ∧ s < u) ∧ ss.length ≤ 10 ∧ DqAll K H vs [.dat (.int u), .dat b.d, .dat (.list (ss.map .int))] ∧
  ∀ v H' d, Ex H H' → Dp K H' v d → (d = .none ∨ ∃ ls : List Lap, d = .list (ls.map dLap) ∧ lawLapsP u b ≤ lapsP ls ∧ ls.length ≤ 100) → Q v H'
section
variable {P : Program} {w : World} {K : PySem.W.Frag} {mg : Str → Option Value} {base : Heap}
theorem cl_law_filled (B : BM mg) (F : Df K mg "_law_filled" sLawFilled pLawFilled) : Cl P w K mg base 1 "_law_filled" 3 (SpFilled K) := by
  refine clG F scLawFilled (fun vs H Q E h => ?_) rfl fun f cdv A outer s H vs Q E hr h => ?_
  · obtain ⟨u, b, ss, _, _, _, _, hd, _⟩ := h
    rw [hd.len]; rfl
  obtain ⟨u, b, ss, hu, hb, hss, hsl, hq, k⟩ := h
  have hu8 : u ≤ 8 := by omega
  have hu4 : 4 ≤ u := by omega
  obtain ⟨v1, v2, v3, rfl, h1, h2, h3⟩ := hq.three
  obtain rfl := dp_int h1
  refine sxParU (i := 3) (j := 4) rfl scLawFilled.nd (nListOf (ts := []) rfl B.list (xV 1 rfl h2 (pv 1)) (.inl rfl)) (nLst aNil (Nat.zero_le _)) lsNew lsNew fun w1 w2 H1 e1 ⟨L, ew1, hL, lv, hL1, hL2⟩ ⟨Fd, ew2, hF, fs, hF1, hF2⟩ => ?_
  subst ew1 ew2
  cases hF2
  have hlv := dpAll_ints (ns := b.l) hL2
  subst hlv
  have hLF : L ≠ Fd := fun z => by subst z; rw [hL1] at hF1; have := congrArg (fun o : Option HO => match o with | some (.lst l) => l.length | _ => 0) hF1; simp at this
  refine sxForEL (xs := ss) (Dd := PyData.int) rfl rfl (erV 2 rfl (pv 2)) (B := H) h3 (pg_name scLawFilled.nd (i := 5) rfl (.inl rfl)) fun H2 e2 => ?_
  refine ⟨fun i σ' H' => ∃ a5 a6 a7 a8 a9 a10 a11 a12 v ls, σ' = [some (.int u), some v2, some v3, some (.ref L), some (.ref Fd), a5, a6, a7, a8, a9, a10, a11, a12] ∧ FiH K H L Fd v ls H' ∧ FiI u b v ls ∧ ls.length ≤ i * 9, ⟨none, none, none, none, none, none, none, none, b.l, [], rfl, ⟨e1.trans e2, e2 _ _ hL1, [], e2 _ _ hF1, .nil⟩, ⟨rfl, hb, by rw [show Bx.of b.l = b from rfl]; show _ ≤ (0 : Int) + _; omega⟩, Nat.zero_le _⟩, fun i σ' H' ⟨_, _, _, _, _, _, _, _, _, _, _, h, _⟩ => h.ex, ?_, ?_⟩
  · rintro i s0 x σ' H' hi ⟨a5, a6, a7, a8, a9, a10, a11, a12, v, ls, rfl, hH, hI, hl⟩ dx
    obtain rfl := dp_int dx
    refine g1_run (i := 5) ?_
    have hs0 := hss s0 (List.mem_of_getElem? hi)
    have hil : i < ss.length := (List.getElem?_eq_some_iff.mp hi).1
    refine sxForR rfl rfl rfl B.range xI (by decide) (by decide) (pg_name scLawFilled.nd (i := 6) rfl (.inl rfl)) fun H3 e3 => ?_
    refine ⟨fun j σ' H' => ∃ a6 a7 a8 a9 a10 a11 a12 v ls, σ' = [some (.int u), some v2, some v3, some (.ref L), some (.ref Fd), some (.int s0), a6, a7, a8, a9, a10, a11, a12] ∧ FiH K H L Fd v ls H' ∧ FiI u b v ls ∧ ls.length ≤ i * 9 + j, ⟨a6, a7, a8, a9, a10, a11, a12, v, ls, rfl, hH.mono e3, hI, hl⟩, ?_, ?_⟩
    · rintro j σ' H' hj ⟨a6, a7, a8, a9, a10, a11, a12, v, ls, rfl, hH, hI, hl⟩
      refine g1_run (i := 6) ?_
      have hj9 : j < 9 := hj
      have hleft : LsAt K H' L (v.map .int) := ⟨_, hH.left, ints_dpAll v⟩
      refine sxParU (i := 7) (j := 8) (R1 := fun x H' => YdV H' [s0] x) rfl scLawFilled.nd (yTup (ns := [s0]) (aCons (xV 5 rfl (.int s0) (pv 5)) aNil) (by simp [sizeLine_eq])) (nListOf (ts := []) rfl B.list (EL.ex (lV 3 rfl rfl hleft (pv 3))) (.inl rfl)) (fun x H1 H2 e h => h.ex e) lsNew fun w7 w8 H4 e4 hy7 ⟨R, ew8, hR, rv, hR1, hR2⟩ => ?_
      subst ew8
      have hrv := dpAll_ints (ns := v) hR2
      subst hrv
      have hLR : L ≠ R := fun z => by subst z; rw [hH.left] at hR; cases hR
      have hFR : Fd ≠ R := fun z => by subst z; obtain ⟨vs, hf, _⟩ := hH.found; rw [hf] at hR; cases hR
      have hHR : H R = none := fresh_back hH.ex hR
      have hrest : LsAt K H4 R (v.map .int) := ⟨_, hR1, ints_dpAll v⟩
      have hix : ixN (v.map V.int).length s0 = some s0.toNat := by rw [List.length_map, hI.len]; exact ixN_pos (by omega) (by omega)
      refine sxSetL (erV 8 rfl (pv 8)) hR1 (xV 5 rfl (.int s0) (pv 5)) hix (R := fun x _ => x = .int (v.getD s0.toNat 0 - 1)) (ER.imp (R := fun x H' => Dp K H' x (.int (v.getD s0.toNat 0 - 1))) (xSub (xIxA (EL.ex (lV 8 rfl rfl hrest (pv 8))) (xV 5 rfl (.int s0) (pv 5)) (.inr rfl) (atI_ints (by omega) (by rw [hI.len]; omega))) xI) fun x H' _ d => dp_int d) (fun x H5 e5 ev => ?_) (hm1 := fun _ _ _ _ h => h)
      subst ev
      rw [← List.map_set]
      have hH := (hH.mono (e4.trans e5)).other (ys := (v.set s0.toNat (v.getD s0.toNat 0 - 1)).map V.int) (e5 _ _ hR1) hLR hFR hHR
      have hy7 := (hy7.ex e5).mx (mx_lst (us := (v.set s0.toNat (v.getD s0.toNat 0 - 1)).map V.int) (e5 _ _ hR1))
      have hR3 : (upd H5 R (.lst ((v.set s0.toNat (v.getD s0.toNat 0 - 1)).map V.int))) R = some (.lst ((v.set s0.toNat (v.getD s0.toNat 0 - 1)).map V.int)) := upd_same
      have hrl : (v.set s0.toNat (v.getD s0.toNat 0 - 1)).length = 9 := by rw [List.length_set]; exact hI.len
      change SX _ _ (upd H5 R (.lst ((v.set s0.toNat (v.getD s0.toNat 0 - 1)).map V.int))) _ _
      generalize v.set s0.toNat (v.getD s0.toNat 0 - 1) = r0 at hH hy7 hR3 hrl ⊢
      generalize upd H5 R (.lst (r0.map V.int)) = H6 at hH hy7 hR3 ⊢
      have hh0 : HereI u [s0] := ⟨by simp, by simpa using hs0, by simp; omega⟩
      refine sxForR3 rfl rfl rfl B.range (xSub (xV 0 rfl (.int u) (pv 0)) xI) xI (xNeg xI) (by omega) (pg_name scLawFilled.nd (i := 9) rfl (.inl rfl)) fun H7 e7 => ?_
      refine ⟨fun n σ' H' => ∃ x7 a9 a10 hs r, σ' = [some (.int u), some v2, some v3, some (.ref L), some (.ref Fd), some (.int s0), some (.int j), some x7, some (.ref R), a9, a10, a11, a12] ∧ FiH K H L Fd v ls H' ∧ YdV H' hs x7 ∧ HereI u hs ∧ H' R = some (.lst (r.map V.int)) ∧ r.length = 9, ⟨w7, a9, a10, [s0], r0, rfl, hH.mono e7, hy7.ex e7, hh0, e7 _ _ hR3, hrl⟩, ?_, ?_⟩
      · rintro n σ' H' hn ⟨x7, a9, a10, hs, r, rfl, hH, hy, hh, hR, hrl⟩
        refine g1_run (i := 9) ?_
        have hob : 2 ≤ u - 1 - (n : Int) ∧ u - 1 - (n : Int) < u := by omega
        generalize u - 1 - (n : Int) = o at hob ⊢
        refine sxSet (i := 10) (R := fun x _ => x = .int (min (lastI hs) (u - hs.sum))) (ER.imp (R := fun x H' => Dp K H' x (.int (min (lastI hs) (u - hs.sum)))) (xMin2 rfl rfl B.min (xIxA (ET.ex (EY.et (yV 7 rfl hy (pv 7)))) (xNeg xI) (.inl rfl) (lastI_at hh.ne)) (xSub (xV 0 rfl (.int u) (pv 0)) (xSumA B.sum rfl rfl (ET.ex (EY.et (yV 7 rfl hy (pv 7))))))) fun x H' _ d => dp_int d) (fun x H8 e8 ev => ?_) scLawFilled.nd
        subst ev
        refine sxWhile rfl (fun m σ' H' => ∃ x7 hs r, σ' = [some (.int u), some v2, some v3, some (.ref L), some (.ref Fd), some (.int s0), some (.int j), some x7, some (.ref R), some (.int o), some (.int (min (lastI hs) (u - hs.sum))), a11, a12] ∧ FiH K H L Fd v ls H' ∧ YdV H' hs x7 ∧ HereI u hs ∧ H' R = some (.lst (r.map V.int)) ∧ r.length = 9 ∧ m = (u - hs.sum).toNat) (u - hs.sum).toNat ⟨x7, hs, r, rfl, hH.mono e8, hy.ex e8, hh, e8 _ _ hR, hrl, rfl⟩ fun m σ' H' ⟨x7, hs, r, eσ, hH, hy, hh, hR, hrl, hm⟩ => ?_
        subst eσ
        have hrest : LsAt K H' R (r.map .int) := ⟨_, hR, ints_dpAll r⟩
        refine ⟨decide (0 < r.getD o.toNat 0) && decide (o ≤ min (lastI hs) (u - hs.sum)), WX.tx (wAnd (ttGt (xIxA (EL.ex (lV 8 rfl rfl hrest (pv 8))) (xV 9 rfl (.int o) (pv 9)) (.inr rfl) (atI_ints (by omega) (by rw [hrl]; omega))) xI) fun _ => wAnd1 (ttLe (xV 9 rfl (.int o) (pv 9)) (xV 10 rfl (.int _) (pv 10)))), fun H9 e9 => ⟨fun hc => ?_, fun hc => ?_⟩⟩
        · rw [Bool.and_eq_true] at hc
          have hc2 : o ≤ min (lastI hs) (u - hs.sum) := of_decide_eq_true hc.2
          have hy := hy.ex e9
          have hhl := hh.len hu8
          refine sxSet (i := 7) (yCat (ns := hs) (ms := [o]) (yV 7 rfl hy (pv 7)) (yTup (aCons (xV 9 rfl (.int o) (pv 9)) aNil) (by first | (rw [sizeLine_eq]; simp; done) | (rw [sizeLine_eq]; simp; omega) | assumption)) (by simp) (by rw [sizeLine_eq]; simp; omega)) (fun y7 H10 e10 hy' => ?_) scLawFilled.nd
          have hrest := hrest.ex (e9.trans e10)
          have hix : ixN (r.map V.int).length o = some o.toNat := by rw [List.length_map, hrl]; exact ixN_pos (by omega) (by omega)
          refine sxSetL (erV 8 rfl (pv 8)) ((e9.trans e10) _ _ hR) (xV 9 rfl (.int o) (pv 9)) hix (R := fun x _ => x = .int (r.getD o.toNat 0 - 1)) (ER.imp (R := fun x H' => Dp K H' x (.int (r.getD o.toNat 0 - 1))) (xSub (xIxA (EL.ex (lV 8 rfl rfl hrest (pv 8))) (xV 9 rfl (.int o) (pv 9)) (.inr rfl) (atI_ints (by omega) (by rw [hrl]; omega))) xI) fun x H' _ d => dp_int d) (fun x H11 e11 ev => ?_) (hm1 := fun _ _ _ _ h => h)
          subst ev
          rw [← List.map_set]
          have hR11 := (e9.trans (e10.trans e11)) _ _ hR
          have hH := (hH.mono (e9.trans (e10.trans e11))).other (ys := (r.set o.toNat (r.getD o.toNat 0 - 1)).map V.int) hR11 hLR hFR hHR
          have hy' := (hy'.ex e11).mx (mx_lst (us := (r.set o.toNat (r.getD o.toNat 0 - 1)).map V.int) hR11)
          have hR3 : (upd H11 R (.lst ((r.set o.toNat (r.getD o.toNat 0 - 1)).map V.int))) R = some (.lst ((r.set o.toNat (r.getD o.toNat 0 - 1)).map V.int)) := upd_same
          have hrl' : (r.set o.toNat (r.getD o.toNat 0 - 1)).length = 9 := by rw [List.length_set]; exact hrl
          change SX _ _ (upd H11 R (.lst ((r.set o.toNat (r.getD o.toNat 0 - 1)).map V.int))) _ _
          generalize r.set o.toNat (r.getD o.toNat 0 - 1) = r1 at hH hy' hR3 hrl' ⊢
          generalize upd H11 R (.lst (r1.map V.int)) = H12 at hH hy' hR3 ⊢
          have hh' : HereI u (hs ++ [o]) := ⟨by simp, fun s hs' => by
            rcases List.mem_append.mp hs' with h | h
            · exact hh.ok s h
            · rw [List.mem_singleton.mp h]; exact hob, by rw [List.sum_append]; simp; omega⟩
          refine sxSet (i := 10) (R := fun x _ => x = .int (min (lastI (hs ++ [o])) (u - (hs ++ [o]).sum))) (ER.imp (R := fun x H' => Dp K H' x (.int (min (lastI (hs ++ [o])) (u - (hs ++ [o]).sum)))) (xMin2 rfl rfl B.min (xIxA (ET.ex (EY.et (yV 7 rfl hy' (pv 7)))) (xNeg xI) (.inl rfl) (lastI_at hh'.ne)) (xSub (xV 0 rfl (.int u) (pv 0)) (xSumA B.sum rfl rfl (ET.ex (EY.et (yV 7 rfl hy' (pv 7))))))) fun x H' _ d => dp_int d) (fun x H13 e13 ev => sxNil ?_) scLawFilled.nd
          subst ev
          refine ⟨(u - (hs ++ [o]).sum).toNat, ?_, y7, hs ++ [o], r1, rfl, hH.mono e13, hy'.ex e13, hh', e13 _ _ hR3, hrl', rfl⟩
          have := hh.sum
          rw [hm, List.sum_append]
          simp
          omega
        · exact sxNil ⟨x7, _, _, hs, r, rfl, hH.mono e9, hy.ex e9, hh, e9 _ _ hR, hrl⟩
      · rintro σ' H' ⟨x7, a9, a10, hs, r, rfl, hH, hy, hh, hR, hrl⟩
        have hhl := hh.len hu8
        have hleft : LsAt K H' L (v.map .int) := ⟨_, hH.left, ints_dpAll v⟩
        refine sxSet (i := 11) (R := fun x _ => x = .int (manyF v hs)) (ER.imp (R := fun x H' => Dp K H' x (.int (manyF v hs))) (xMinL (ns := hs.map fun s => v.getD s.toNat 0 / (hs.count s : Nat)) rfl rfl B.min (EX.is (EN.ex (nLcA (xs := hs) (Dd := PyData.int) (E := fun s => .int (v.getD s.toNat 0 / (hs.count s : Nat))) (own := [("_law_one", 12)]) (g := gName 12) rfl scLawFilled.nd (srT (ET.ex (EY.et (yV 7 rfl hy (pv 7))))) (blkOk_by (N := nLawFilled) (sc := defScope sLawFilled) (by decide +kernel)) (fun _ _ _ _ _ => (pg_name scLawFilled.nd (i := 12) rfl (by first | exact .inl rfl | exact .inr rfl))) (by rw [sizeLine_eq]; omega) (fun _ _ => rfl) (fun a ha v H2 e2 dv Q q => by
    have hb := hh.ok a ha; have hcp := List.count_pos_iff.mpr ha; have hcl := List.count_le_length (a := a) (l := hs)
    exact g1_run (i := 12) (q _ (by rfl) H2 (Ex.refl _) (fun _ _ _ _ _ => rfl) (fun hT _ _ _ _ _ => (xDiv (xIxA (EL.ex (lV 3 rfl rfl (LsAt.ex e2 hleft) (pv 3))) (xV 12 rfl dv (pv 12)) (.inr rfl) (atI_ints (by omega) (by rw [hI.len]; omega))) (xCountT (EY.et (yV 7 rfl (YdV.ex e2 hy) (pv 7))) (xV 12 rfl dv (pv 12))) ⟨by omega, by omega⟩)))))) (by rw [List.map_map]; rfl)) (by simpa using hh.ne)) fun x H' _ d => dp_int d) (fun x H8 e8 ev => ?_) scLawFilled.nd
        subst ev
        have hH := hH.mono e8
        have hy := hy.ex e8
        have hleft := hleft.ex e8
        refine sxWhen (c0 := decide (0 < v.getD s0.toNat 0) && decide (0 < manyF v hs)) (WX.tx (wAnd (ttGt (xIxA (EL.ex (lV 3 rfl rfl hleft (pv 3))) (xV 5 rfl (.int s0) (pv 5)) (.inr rfl) (atI_ints (by omega) (by rw [hI.len]; omega))) xI) fun _ => wAnd1 (ttGt (xV 11 rfl (.int _) (pv 11)) xI))) (fun hc H9 e9 => ?_) fun hc H9 e9 => sxNil ?_
        · rw [Bool.and_eq_true] at hc
          have hm : 0 < manyF v hs := of_decide_eq_true hc.2
          have hH := hH.mono e9
          have hy := hy.ex e9
          obtain ⟨fs, hf1, hf2⟩ := hH.found
          refine sxAppend (erV 4 rfl (pv 4)) hf1 (by rw [dpAll_len hf2, List.length_map, sizeLine_eq]; omega) (xTup (aCons (ET.ex (EY.et (yV 7 rfl hy (pv 7)))) (aCons (xV 11 rfl (.int _) (pv 11)) aNil)) (by first | (rw [sizeLine_eq]; simp; done) | (rw [sizeLine_eq]; simp; omega) | assumption)) fun z H10 e10 dz => ?_
          have mx := mx_lst (us := fs ++ [z]) (e10 _ _ hf1)
          have hy := (hy.ex e10).mx mx
          have hH2 : FiH K H L Fd v (ls ++ [(hs, manyF v hs)]) (upd H10 Fd (.lst (fs ++ [z]))) := by
            refine ⟨ex_lst (hH.ex.trans e10) hF, by rw [upd_ne hLF]; exact e10 _ _ hH.left, _, upd_same, ?_⟩
            rw [List.map_append]
            exact app_all (e10 _ _ hf1) (dpAll_ex e10 hf2) dz (flat_laps ls) (flat_dLap _)
          change SX _ _ (upd H10 Fd (.lst (fs ++ [z]))) _ _
          generalize upd H10 Fd (.lst (fs ++ [z])) = H11 at hy hH2 ⊢
          refine sxForF (xs := hs) (Dd := PyData.int) rfl rfl (ET.ex (EY.et (yV 7 rfl hy (pv 7)))) (fun _ _ => rfl) (pg_name scLawFilled.nd (i := 12) rfl (.inl rfl)) fun H12 e12 => ?_
          refine ⟨fun n σ' H' => ∃ a12, σ' = [some (.int u), some v2, some v3, some (.ref L), some (.ref Fd), some (.int s0), some (.int j), some x7, some (.ref R), a9, a10, some (.int (manyF v hs)), a12] ∧ FiH K H L Fd ((hs.take n).foldl (fun v' s => addV v' s (-manyF v hs)) v) (ls ++ [(hs, manyF v hs)]) H', ⟨a12, rfl, hH2.mono e12⟩, ?_, ?_⟩
          · rintro n o x σ' H' hn mx ⟨a12, rfl, hH⟩ dx
            obtain rfl := dp_int dx
            refine g1_run (i := 12) ?_
            have ho := hh.ok o (List.mem_of_getElem? hn)
            have hvl : ((hs.take n).foldl (fun v' s => addV v' s (-manyF v hs)) v).length = 9 := (addVs_get (n := -manyF v hs) (i := 0) (hs.take n) v hI.len fun s h => by have := hh.ok s (List.mem_of_mem_take h); omega).1
            generalize hv' : (hs.take n).foldl (fun v' s => addV v' s (-manyF v hs)) v = v' at hH hvl
            have hleft : LsAt K H' L (v'.map .int) := ⟨_, hH.left, ints_dpAll v'⟩
            have hix : ixN (v'.map V.int).length o = some o.toNat := by rw [List.length_map, hvl]; exact ixN_pos (by omega) (by omega)
            refine sxSetL (erV 3 rfl (pv 3)) hH.left (xV 12 rfl (.int o) (pv 12)) hix (R := fun x _ => x = .int (v'.getD o.toNat 0 - manyF v hs)) (ER.imp (R := fun x H' => Dp K H' x (.int (v'.getD o.toNat 0 - manyF v hs))) (xSub (xIxA (EL.ex (lV 3 rfl rfl hleft (pv 3))) (xV 12 rfl (.int o) (pv 12)) (.inr rfl) (atI_ints (by omega) (by rw [hvl]; omega))) (xV 11 rfl (.int _) (pv 11))) fun x H' _ d => dp_int d) (fun x H13 e13 ev => sxNil ?_) (hm1 := fun _ _ _ _ h => h)
            subst ev
            have hH := hH.mono e13
            have mx13 := mx_lst (us := (v'.map V.int).set o.toNat (.int (v'.getD o.toNat 0 - manyF v hs))) hH.left
            obtain ⟨fs, hf1, hf2⟩ := hH.found
            refine ⟨mx.trans ((Mx.of e13).trans mx13), _, rfl, ex_lst hH.ex hL, ?_, fs, by rw [upd_ne hLF.symm]; exact hf1, dpAll_mx mx13 (flat_laps _) hf2⟩
            rw [upd_same, take_app hn, List.foldl_append, hv']
            show _ = some (HO.lst ((addV v' o (-manyF v hs)).map V.int))
            unfold addV
            rw [List.map_set, Int.sub_eq_add_neg]
          · rintro σ' H' mx ⟨a12, rfl, hH⟩
            rw [List.take_length] at hH
            refine sxNil (sxNil ⟨_, _, _, _, _, _, _, _, _, rfl, hH, hI.take hu hh hm, ?_⟩)
            rw [List.length_append, List.length_singleton]
            omega
        · exact ⟨_, _, _, _, _, _, _, _, _, rfl, hH.mono e9, hI, by omega⟩
    · rintro σ' H' ⟨a6, a7, a8, a9, a10, a11, a12, v, ls, rfl, hH, hI, hl⟩
      refine sxNil ⟨_, _, _, _, _, _, _, _, v, ls, rfl, hH, hI, ?_⟩
      have : (9 : Int).toNat = 9 := rfl
      rw [this] at hl
      omega
  · rintro σ' H' ⟨a5, a6, a7, a8, a9, a10, a11, a12, v, ls, rfl, hH, hI, hl⟩
    obtain ⟨fs, hf1, hf2⟩ := hH.found
    have hleft : LsAt K H' L (v.map .int) := ⟨_, hH.left, ints_dpAll v⟩
    have hfound : LsAt K H' Fd (ls.map dLap) := ⟨fs, hf1, hf2⟩
    refine sxRet (R := fun x H' => ∃ d, Dp K H' x d ∧ (d = .none ∨ ∃ ls : List Lap, d = .list (ls.map dLap) ∧ lawLapsP u b ≤ lapsP ls ∧ ls.length ≤ 100)) (xIfT (c0 := decide (v.sum = 0)) (TX.is (ttEq hr.units (xSumA B.sum rfl rfl (EL.ex (lV 3 rfl rfl hleft (pv 3)))) xI (by first | rfl | decide +kernel | exact shaped_tI _ | exact shaped_lI _ | exact shaped_word _ | exact shaped_wi _ _ | assumption) (by first | rfl | decide +kernel | exact shaped_tI _ | exact shaped_lI _ | exact shaped_word _ | exact shaped_wi _ _ | assumption)) (eqv_int _ _)) (fun hc => ER.imp (EL.ex (lV 4 rfl rfl hfound (pv 4))) fun x H' _ d => ⟨_, d, .inr ⟨ls, rfl, hI.done hu (of_decide_eq_true hc), by omega⟩⟩) fun hc => ER.imp xN fun x H' _ d => ⟨_, d, .inl rfl⟩) fun x H2 e2 ⟨d, hd, ho⟩ => k x H2 d (hH.ex.trans e2) hd ho
end
end GX
end SGFn13
section SGItems
set_option linter.all false
set_option maxRecDepth 100000
set_option maxHeartbeats 1000000
/-! sorted(d.items()) of a dict of ints -/
namespace GX
open PySem PySem.Spec PyProof.Rows L2
open Evl StX
open L2.DX (itemsO itemsO_ok takeT pget)
section
variable {X : Cx}
def rItemsK : V → List V → Hp → VK → Prop := fun x xs H Q => ∃ (a : Addr) (kvs : List (Int × Int)), x = .ref a ∧ xs = [] ∧ H a = some (dKV kvs) ∧ ∀ p, H p = none → Q (.ref p) (upd H p (itemsO p a))
theorem mt_itemsK : MtR X "dict.items" rItemsK := by
  intro pins s σ H x xs v us Q I rx rxs h
  obtain ⟨a, kvs, rfl, rfl, ha, q⟩ := h
  cases rx
  cases rxs
  obtain ⟨z, hd, vs, rel, o, es, ep, ho, hx, hdat, _⟩ := dk_of I.hok ha
  refine DT.callItems (es := es) (ep := ep) hd ⟨o, ho, hx, hdat⟩ ?_
  have hf : H s.heap.objs.size = none := I.hok.fresh (Nat.le_refl _)
  exact ⟨.ref s.heap.objs.size, upd H s.heap.objs.size (itemsO s.heap.objs.size a), I.laid (t' := s.toks) (fun b u e => Heap.get?_push_of_some _ e) (Nat.le_refl _) (itemsO_ok (Heap.get?_push_size _ rfl)), rfl, q _ hf⟩
/-- the pair that lies at a value -/
def pairAt (h : Heap) : Value → Int × Int
  | .ref b => (match h.get? b with
    | some o => (match o.data with
      | .seq xs _ => (match xs.toList with
        | [.int i _, .int j _] => (i, j)
        | _ => (0, 0))
      | _ => (0, 0))
    | none => (0, 0))
  | _ => (0, 0)
theorem pairAt_of {h : Heap} {b : Addr} {o : Obj} {i j : Int} {t u : Tok} {n : Nat} (ho : h.get? b = some o) (hd : o.data = .seq #[.int i t, .int j u] n) : pairAt h (.ref b) = (i, j) := by
  simp only [pairAt, ho, hd]
def rSortItK (K : PySem.W.Frag) : List V → Hp → VK → Prop := fun vs H Q => ∃ (p a : Addr) (kvs : List (Int × Int)), vs = [.ref p] ∧ H p = some (itemsO p a) ∧ H a = some (dKV kvs) ∧
  ∀ (H' : Hp) (l : Addr) (zs : List (Int × Int)), Ex H H' → H l = none → zs.Perm kvs → zs.Pairwise (fun e f => e.1 ≤ f.1) → LsAt K H' l (zs.map dPp) → Q (.ref l) H'
theorem cr_sortedItK (hc : X.calm = true) : CallR X (.builtin "sorted") (rSortItK X.K) := by
  intro pins s σ H vs us Q I r h
  obtain ⟨p, a, kvs, rfl, hp, ha, q⟩ := h
  obtain rfl := Vals.ref1 r
  have view : s.heap.IsItemsView p a := (show ObjOk X.prog X.w H s.heap p (itemsO p a) from I.hok p _ hp).1
  obtain ⟨z, hd, vs, rel, o, es, ep, ho, hx, hdat, _, hpr, hn⟩ := dk_of I.hok ha
  have l1 : (kvs.map kvD).length = vs.length := Paired.length rel
  rw [List.length_map] at l1 z
  have l2 : es.size = vs.length := by have := hpr.length; rw [Array.length_toList] at this; exact this
  have hh : X.A.handled = none := I.ok.hd hc
  refine DT.sortedI (es := es) (ep := ep) hh view ⟨o, ho, hx, hdat⟩ (by omega) fun h' tk as hk hlt hl hG => ?_
  have lak : as.length = kvs.length := by omega
  have nd : as.Nodup := List.Pairwise.imp (fun h => Nat.ne_of_lt h) hG.rise
  -- the pairs that were made
  have pr : ∀ (j : Nat) (b : Addr), as[j]? = some b → ∃ (e : Int × Int) (t u : Tok), kvs[j]? = some e ∧ h'.get? b = some { cls := .type "tuple", data := .seq #[Value.int e.1 t, Value.int e.2 u] } := by
    intro j b hj
    obtain ⟨en, he, hg⟩ := hG.pairs j b hj
    have hjl : j < kvs.length := by have := (List.getElem?_eq_some_iff.mp hj).1; omega
    have hv : vs[j]? = some vs[j] := List.getElem?_eq_getElem (by omega)
    obtain ⟨g1, g2⟩ := hpr.get? (i := j) (e := en) (by rw [Array.getElem?_toList]; exact he) (k := vs[j].1) (v := vs[j].2) hv
    obtain ⟨e0, he0, r1, r2⟩ := pget rel hv
    rw [List.getElem?_map, List.getElem?_eq_getElem hjl] at he0
    have ee : kvD kvs[j] = e0 := Option.some.inj he0
    subst ee
    rw [← r1] at g1
    obtain ⟨t, et⟩ : ∃ t, en.key = Value.int kvs[j].1 t := by
      rcases keyIs_shape (show keyIs (Sum.inl kvs[j].1) en.key = true from g1) with ⟨i, t, ek, ev⟩ | ⟨z, t, ek, ev⟩
      · cases ek
        exact ⟨t, ev⟩
      · cases ek
    obtain ⟨u, eu⟩ : ∃ u, vs[j].2 = Value.int kvs[j].2 u := r2
    refine ⟨kvs[j], t, u, List.getElem?_eq_getElem hjl, ?_⟩
    rw [hg, et, g2, eu]
  have hob : (h'.push { cls := .type "list", data := .seq (as.map Value.ref).toArray }).get? h'.objs.size = some (seqObj "list" (as.map Value.ref).toArray 0) := Heap.get?_push_size _ rfl
  have kb : ∀ b o, s.heap.get? b = some o → (h'.push { cls := .type "list", data := .seq (as.map Value.ref).toArray }).get? b = some o := fun b o e => Heap.get?_push_of_some _ (hk b o e)
  have ne0 : ∀ b o, h'.get? b = some o → b ≠ h'.objs.size := fun b o e => Nat.ne_of_lt (Heap.lt_size e)
  generalize hh2 : h'.push { cls := .type "list", data := .seq (as.map Value.ref).toArray } = h2 at hob kb ⊢
  have ka : ∀ b o, h'.get? b = some o → h2.get? b = some o := fun b o e => by rw [← hh2]; exact Heap.get?_push_of_some _ e
  have at_ : ∀ v ∈ as.map Value.ref, ∃ (j : Nat) (b : Addr), v = .ref b ∧ as[j]? = some b := by
    intro v hv'
    obtain ⟨b, hb, rfl⟩ := List.mem_map.mp hv'
    obtain ⟨j, hj⟩ := List.mem_iff_getElem?.mp hb
    exact ⟨j, b, rfl, hj⟩
  have pa : ∀ (j : Nat) (b : Addr), as[j]? = some b → ∃ e : Int × Int, kvs[j]? = some e ∧ pairAt h2 (.ref b) = e := by
    intro j b hj
    obtain ⟨e, t, u, he, hg⟩ := pr j b hj
    exact ⟨e, he, pairAt_of (ka _ _ hg) rfl⟩
  have hmap : (as.map Value.ref).map (pairAt h2) = kvs := by
    refine List.ext_getElem? fun j => ?_
    rw [List.map_map, List.getElem?_map]
    cases hj : as[j]? with
    | none =>
      have := List.getElem?_eq_none_iff.mp hj
      rw [List.getElem?_eq_none (by omega)]
      rfl
    | some b =>
      obtain ⟨e, he, hp⟩ := pa j b hj
      rw [he]
      exact congrArg some hp
  refine wpAny_call_entry PyProof.Rows.slot_list_sort ⟨_, hob, rfl⟩ PyProof.Rows.entry_list_sort
    (SrtO.list_sort_ord (s := { s with heap := h2, toks := tk }) (SrtO.swo_lex (pairAt h2)) hob (by rw [List.length_map, lak]; exact z) (fun h2' => SrtO.pairs_sortableO (s := { s with heap := h2, toks := tk }) (by omega) (fun v hv => ?_) fun o e => ?_) fun out o1 o2 => ⟨.none, rfl, ?_⟩) (PyProof.Rows.args_list_sort _)
  · obtain ⟨j, b, rfl, hj⟩ := at_ v hv
    obtain ⟨e, t, u, he, hg⟩ := pr j b hj
    rw [pairAt_of (ka _ _ hg) rfl]
    exact ⟨b, _, t, u, 0, rfl, ka _ _ hg, rfl, rfl⟩
  · have e' : some o = some _ := e.symm.trans hob
    cases e'
    intro c
    exact absurd (Value.type.inj c) (by decide)
  · have href : ∀ u ∈ out, ∃ a, u = Value.ref a := fun u hu => by
      obtain ⟨j, b, e, _⟩ := at_ u (o2.perm.mem_iff.mp hu)
      exact ⟨b, e⟩
    have kF : ∀ b o, b ≠ h'.objs.size → h2.get? b = some o → (sortedHeap h2 h'.objs.size (as.map Value.ref) out.toArray).get? b = some o := fun b o hb e => (PyProof.Rows.sortedHeap_old hb (Heap.lt_size e)).trans e
    have kS : ∀ b o, s.heap.get? b = some o → (sortedHeap h2 h'.objs.size (as.map Value.ref) out.toArray).get? b = some o := fun b o e => kF b o (ne0 _ _ (hk b o e)) (kb b o e)
    obtain ⟨eF, heF⟩ := PyProof.Rows.sortedHeap_at (vs := as.map Value.ref) (out := out.toArray) hob
    have I1 : Inv X pins σ H { s with heap := sortedHeap h2 h'.objs.size (as.map Value.ref) out.toArray, toks := tk } := I.kept (t' := tk) kS
    have hn0 : H h'.objs.size = none := I.hok.fresh (Nat.le_of_lt hlt)
    have hlen : (out.map backV).length ≤ sizeLine := by
      have e := o2.perm.length_eq
      rw [List.length_map] at e ⊢
      rw [e, lak]
      exact z
    have I2 : Inv X pins σ (upd H h'.objs.size (.lst (out.map backV))) { s with heap := sortedHeap h2 h'.objs.size (as.map Value.ref) out.toArray, toks := tk } :=
      I1.take (h' := sortedHeap h2 h'.objs.size (as.map Value.ref) out.toArray) (t' := tk) (fun b ob _ e => e) (I.fpOk (Nat.le_of_lt hlt) hn0) ⟨hlen, out, eF, vals_back href, heF⟩
    obtain ⟨H2, I3, g, qt⟩ := takeT (P := fun b vs => vs = [.int (pairAt h2 (.ref b)).1, .int (pairAt h2 (.ref b)).2]) I as _ I2 nd fun b hb => by
      obtain ⟨j, hj⟩ := List.mem_iff_getElem?.mp hb
      obtain ⟨e, t, u, he, hg⟩ := pr j b hj
      have hbl : s.heap.objs.size ≤ b := Nat.le_of_lt (hG.above b hb)
      refine ⟨hbl, ?_, _, rfl, fun H3 => ⟨(by rw [sizeLine_eq]; show 2 ≤ 16777216; omega), [Value.int e.1 t, Value.int e.2 u], ?_, ⟨_, kF _ _ (ne0 _ _ hg) (ka _ _ hg), rfl, 0, rfl⟩⟩⟩
      · rw [upd_ne (ne0 _ _ hg)]
        exact I.hok.fresh hbl
      · rw [pairAt_of (ka _ _ hg) rfl]
        exact .cons ⟨t, rfl⟩ (.cons ⟨u, rfl⟩ .nil)
    have gr : Ex H H2 := fun b o e => g b o (by rw [upd_ne (ne_of_none e hn0)]; exact e)
    have hperm : (out.map (pairAt h2)).Perm kvs := by
      rw [← hmap]
      exact o2.perm.map _
    refine ⟨.ref h'.objs.size, H2, I3, rfl, q H2 h'.objs.size (out.map (pairAt h2)) gr hn0 hperm ?_ ⟨out.map backV, g _ _ upd_same, ?_⟩⟩
    · rw [List.pairwise_map]
      refine List.Pairwise.imp (fun {x y} h => ?_) o1
      have := SrtO.lexB_no.mp h
      omega
    · have : ∀ l : List Value, (∀ u ∈ l, u ∈ out) → DpAll X.K H2 (l.map backV) ((l.map (pairAt h2)).map dPp) := fun l => by
        induction l with
        | nil => intro _; exact .nil
        | cons u l ih =>
          intro hl
          obtain ⟨j, b, eb, hj⟩ := at_ u (o2.perm.mem_iff.mp (hl u (by simp)))
          subst eb
          obtain ⟨vs, ev, hb⟩ := qt b (List.mem_of_getElem? hj)
          subst ev
          exact .cons (.tup (.inl (.inl hb)) (.cons (.int _) (.cons (.int _) .nil))) (ih fun x hx => hl x (by simp [hx]))
      exact this out fun _ h => h
variable {σ : L2.St} {H : Hp} {e : Expr} {kvs : List (Int × Int)} {pos p cpos apos : Pos}
/-- sorted(d.items()) -/
theorem nSortIt {q : Addr} (hc : X.calm = true) (hg : Gl X "sorted") (hm : X.mg "sorted" = none) (ha : ER X σ H e fun v _ => v = .ref q) (hq : H q = some (dKV kvs)) (hbase : attributeBase e "items" X.env (eval e X.env) = eval e X.env := by rfl) (hline : (apos.endLine == cpos.line) = true := by rfl)
    (hs : starEach [.Call (.Attribute e "items" apos) [] [] cpos] X.env = (false, eval (.Call (.Attribute e "items" apos) [] [] cpos) X.env) :: starEach [] X.env := by rfl) (hpl : (backTo pos (starEach [] X.env)).any (·.1) = false := by rfl) :
    ER X σ H (.Call (.Name "sorted" p) [.Call (.Attribute e "items" apos) [] [] cpos] [] pos) fun v H' => ∃ (l : Addr) (zs : List (Int × Int)), v = .ref l ∧ H l = none ∧ zs.Perm kvs ∧ zs.Pairwise (fun e f => e.1 ≤ f.1) ∧ LsAt X.K H' l (zs.map dPp) :=
  .of (pe_callB (cr_sortedItK hc) hg hm PyProof.Rows.boot_sorted (pa_cons (pe_bm0 PySem.F.plainAttrs_dict PySem.F.slot_dict_items PySem.F.type_dict_items mt_itemsK ha hbase hline) pa_nil hs) (by decide) (by decide) hs hpl) fun H1 e1 Q k => ⟨rfl, e1, fun v H2 e2 ev => by
    subst ev
    have hq2 := (e1.trans e2) _ _ hq
    refine ⟨?_, q, kvs, rfl, rfl, hq2, fun p hp => ⟨p, q, kvs, rfl, upd_same, by rw [upd_ne (ne_of_none hq2 hp)]; exact hq2, fun H' l zs e3 hl h1 h2 h3 => k _ H' (e2.trans ((Ex.new hp).trans e3)) ⟨l, zs, rfl, ?_, h1, h2, h3⟩⟩⟩
    · exact .inr (.inr (.inl ⟨rfl, .inl ⟨_, hq2⟩⟩))
    · exact fresh_back (e1.trans (e2.trans (Ex.new hp))) hl⟩
end
end GX
end SGItems
section SGSrc
set_option linter.all false
set_option maxRecDepth 100000
set_option maxHeartbeats 1000000
/-! expressions that take numbers from the source -/
namespace GX
open PySem PySem.Spec PyProof.Rows L2
open Evl StX OL
theorem SrcOk.le {m m' : Nat} {a b c : Int} (h : SrcOk m a b c) (e : m' ≤ m) : SrcOk m' a b c := ⟨h.a0, h.b0, h.b1, h.c0, by have := h.c1; omega⟩
theorem SrcAt.le {m m' : Nat} {H : Hp} {q : Addr} (h : SrcAt m H q) (e : m' ≤ m) : SrcAt m' H q := let ⟨a, b, c, h1, h2⟩ := h; ⟨a, b, c, h1, h2.le e⟩
theorem SrcAt.ex {m : Nat} {H H' : Hp} {q : Addr} (e : Ex H H') (h : SrcAt m H q) : SrcAt m H' q := let ⟨a, b, c, h1, h2⟩ := h; ⟨a, b, c, e _ _ h1, h2⟩
theorem SrcAt.ne {m : Nat} {H : Hp} {q p : Addr} {o : HO} (hp : p ≠ q) (h : SrcAt m H q) : SrcAt m (upd H p o) q := let ⟨a, b, c, h1, h2⟩ := h; ⟨a, b, c, by rw [upd_ne hp.symm]; exact h1, h2⟩
theorem SrcAt.at' {m : Nat} {H : Hp} {q : Addr} (h : SrcAt m H q) : ∃ vs, H q = some (.lst vs) := let ⟨a, b, c, h1, _⟩ := h; ⟨_, h1⟩
/-- all stands but for the source: what is flat stays -/
theorem Sx.mx {m : Nat} {q : Addr} {H H' : Hp} (e : Sx q H H') (h : SrcAt m H q) : Mx H H' := by
  obtain ⟨vs, hq⟩ := h.at'
  exact ⟨fun b xs hb => e b _ (fun z => by subst z; rw [hq] at hb; cases hb) hb, fun b o u hb => e b _ (fun z => by subst z; rw [hq] at hb; cases hb) hb⟩
/-- the judgement: from m numbers to come to m' -/
def tM (σ : L2.St) (q : Addr) (H : Hp) (m m' : Nat) (R : V → Hp → Prop) : TE := fun σ' H' Q => σ' = σ ∧ Sx q H H' ∧ SrcAt m H' q ∧ ∀ v H2, Sx q H' H2 → SrcAt m' H2 q → R v H2 → Q v H2
abbrev EM (X : Cx) (σ : L2.St) (q : Addr) (H : Hp) (m m' : Nat) (e : Expr) (R : V → Hp → Prop) : Prop := PE X e (tM σ q H m m' R)
def tMA (σ : L2.St) (q : Addr) (H : Hp) (m m' : Nat) (R : List V → Hp → Prop) : TA := fun σ' H' Q => σ' = σ ∧ Sx q H H' ∧ SrcAt m H' q ∧ ∀ vs H2, Sx q H' H2 → SrcAt m' H2 q → R vs H2 → Q vs H2
abbrev AM (X : Cx) (σ : L2.St) (q : Addr) (H : Hp) (m m' : Nat) (es : List Expr) (R : List V → Hp → Prop) : Prop := PA X es (tMA σ q H m m' R)
/-- an int such that -/
def IM (P : Int → Prop) : V → Hp → Prop := fun v _ => ∃ i, v = .int i ∧ P i
/-- ints such that -/
def LM (P : List Int → Prop) : List V → Hp → Prop := fun vs _ => ∃ ns : List Int, vs = ns.map .int ∧ P ns
/-- a list of ints of the program's own, not the source -/
def NM (q : Addr) (H : Hp) (P : List Int → Prop) : V → Hp → Prop := fun v H' => ∃ p ns, v = .ref p ∧ p ≠ q ∧ H p = none ∧ H' p = some (.lst (ns.map .int)) ∧ P ns
section
variable {X : Cx} {σ : L2.St} {q : Addr} {H : Hp} {m m' m1 m2 : Nat} {e a b : Expr} {es : List Expr} {R R' R1 R2 : V → Hp → Prop} {RA : List V → Hp → Prop} {pos p : Pos} {rest : List Stmt} {D : Ends}
theorem EM.of {t : TE} (h : PE X e t) (k : ∀ H1, Sx q H H1 → SrcAt m H1 q → ∀ Q : VK, (∀ v H2, Sx q H1 H2 → SrcAt m' H2 q → R v H2 → Q v H2) → t σ H1 Q) : EM X σ q H m m' e R := ⟨fun pins s σ' H' Q I q' => by
  obtain ⟨rfl, e1, sr, q'⟩ := q'
  exact h.run pins s _ H' Q I (k H' e1 sr Q q')⟩
theorem EM.imp (h : EM X σ q H m m' e R) (k : ∀ v H', Sx q H H' → SrcAt m' H' q → R v H' → R' v H') : EM X σ q H m m' e R' := .of h fun H1 e1 sr Q q' => ⟨rfl, e1, sr, fun v H2 e2 sr2 r => q' v H2 e2 sr2 (k v H2 (e1.trans e2) sr2 r)⟩
/-- what takes no number -/
theorem emX (h : ∀ H1, Sx q H H1 → SrcAt m H1 q → ER X σ H1 e R) : EM X σ q H m m e R := ⟨fun pins s σ' H' Q I q' => by
  obtain ⟨rfl, e1, sr, q'⟩ := q'
  exact (h H' e1 sr).run pins s _ H' Q I ⟨rfl, Ex.refl _, fun v H2 e2 r => q' v H2 (Sx.of e2) (sr.ex e2) r⟩⟩
theorem emI {i : Int} {P : Int → Prop} (h : ∀ H1, Sx q H H1 → SrcAt m H1 q → EX X σ H1 e (.int i)) (hP : P i) : EM X σ q H m m e (IM P) := emX fun H1 e1 sr => ER.imp (h H1 e1 sr) fun v H' _ d => ⟨i, dp_int d, hP⟩
theorem emAdd {P Q R : Int → Prop} (ha : EM X σ q H m m1 a (IM P)) (hb : EM X σ q H m1 m' b (IM Q)) (h : ∀ i j, P i → Q j → R (i + j)) : EM X σ q H m m' (.BinOp a .Add b pos) (IM R) :=
  .of (pe_op op_add ha hb) fun H1 e1 sr Q k => ⟨rfl, e1, sr, fun v H2 e2 sr2 ⟨i, ev, hi⟩ => ⟨rfl, e1.trans e2, sr2, fun u H3 e3 sr3 ⟨j, eu, hj⟩ => ⟨i, j, ev, eu, k _ H3 (e2.trans e3) sr3 ⟨_, rfl, h i j hi hj⟩⟩⟩⟩
theorem AM.of {t : TA} (h : PA X es t) (k : ∀ H1, Sx q H H1 → SrcAt m H1 q → ∀ Q : List V → Hp → Prop, (∀ v H2, Sx q H1 H2 → SrcAt m' H2 q → RA v H2 → Q v H2) → t σ H1 Q) : AM X σ q H m m' es RA := ⟨fun pos pins s σ' H' Q I q' => by
  obtain ⟨rfl, e1, sr, q'⟩ := q'
  exact h.run pos pins s _ H' Q I (k H' e1 sr Q q')⟩
theorem amNil : AM X σ q H m m [] (LM fun ns => ns = []) := .of pa_nil fun H1 e1 sr Q k => k [] H1 Sx.refl sr ⟨[], rfl, rfl⟩
theorem amCons {P : Int → Prop} {PL : List Int → Prop} (ha : EM X σ q H m m1 e (IM P)) (hr : AM X σ q H m1 m' es (LM PL)) (hs : starEach (e :: es) X.env = (false, eval e X.env) :: starEach es X.env := by rfl) : AM X σ q H m m' (e :: es) (LM fun ns => ∃ i ms, ns = i :: ms ∧ P i ∧ PL ms) :=
  .of (pa_cons ha hr hs) fun H1 e1 sr Q k => ⟨rfl, e1, sr, fun v H2 e2 sr2 ⟨i, ev, hi⟩ => ⟨rfl, e1.trans e2, sr2, fun vs H3 e3 sr3 ⟨ns, evs, hn⟩ => k _ H3 (e2.trans e3) sr3 ⟨i :: ns, by rw [ev, evs]; rfl, i, ns, rfl, hi, hn⟩⟩⟩
theorem Sx.fresh {H H' : Hp} {p : Addr} (e : Sx q H H') (hp : p ≠ q) (h : H' p = none) : H p = none := by
  cases ho : H p with
  | none => rfl
  | some o => rw [e p o hp ho] at h; cases h
theorem SrcAt.fresh {H : Hp} {p : Addr} (h : SrcAt m H q) (hp : H p = none) : p ≠ q := fun z => by
  obtain ⟨vs, hq⟩ := h.at'
  rw [z, hq] at hp; cases hp
/-- a list display -/
theorem emList {PL : List Int → Prop} (h : AM X σ q H m m' es (LM PL)) (hz : ∀ ns, PL ns → ns.length ≤ sizeLine) : EM X σ q H m m' (.List es pos) (NM q H PL) :=
  .of (pe_lst h) fun H1 e1 sr Q k => ⟨rfl, e1, sr, fun vs H2 e2 sr2 ⟨ns, ev, hn⟩ => by
    subst ev
    refine ⟨by rw [List.length_map]; exact hz ns hn, fun p hp => ?_⟩
    have hpq := sr2.fresh hp
    exact k _ _ (e2.trans (Sx.of (Ex.new hp))) (sr2.ex (Ex.new hp)) ⟨p, ns, rfl, hpq, (e1.trans e2).fresh hpq hp, upd_same, hn⟩⟩
/-- + of lists -/
theorem emCat {p1 : Addr} {ns : List Int} {PL PR : List Int → Prop} (hp1 : p1 ≠ q) (hH : H p1 = some (.lst (ns.map .int))) (ha : ∀ H1, Sx q H H1 → SrcAt m H1 q → ER X σ H1 a fun v _ => v = .ref p1) (hb : EM X σ q H m m' b (NM q H PL)) (hR : ∀ ms, PL ms → PR (ns ++ ms) ∧ ns.length + ms.length ≤ sizeLine) : EM X σ q H m m' (.BinOp a .Add b pos) (NM q H PR) :=
  .of (pe_op op_cat (emX ha) hb) fun H1 e1 sr Q k => ⟨rfl, e1, sr, fun v H2 e2 sr2 ev => ⟨rfl, e1.trans e2, sr2, fun u H3 e3 sr3 ⟨p2, ms, eu, hp2, hn, hH2, hm⟩ => by
    refine ⟨p1, p2, ns.map .int, ms.map .int, ev, eu, (e1.trans (e2.trans e3)) _ _ hp1 hH, hH2, by rw [List.length_map, List.length_map]; exact (hR ms hm).2, fun p hp => ?_⟩
    have hpq := sr3.fresh hp
    exact k _ _ ((e2.trans e3).trans (Sx.of (Ex.new hp))) (sr3.ex (Ex.new hp)) ⟨p, ns ++ ms, rfl, hpq, (e1.trans (e2.trans e3)).fresh hpq hp, by rw [upd_same, List.map_append], (hR ms hm).1⟩⟩⟩
/-- two arguments, the first the source -/
theorem amSrc (ha : ∀ H1, Sx q H H1 → SrcAt m H1 q → ER X σ H1 a fun v _ => v = .ref q) (hb : EM X σ q H m m' b R) (h1 : starEach [a, b] X.env = (false, eval a X.env) :: starEach [b] X.env := by rfl) (h2 : starEach [b] X.env = (false, eval b X.env) :: starEach [] X.env := by rfl) : AM X σ q H m m' [a, b] fun vs H' => ∃ u, vs = [.ref q, u] ∧ R u H' :=
  .of (pa_cons (emX ha) (pa_cons hb pa_nil h2) h1) fun H1 e1 sr Q k => ⟨rfl, e1, sr, fun v H2 e2 sr2 ev => ⟨rfl, e1.trans e2, sr2, fun u H3 e3 sr3 r => k _ H3 (e2.trans e3) sr3 ⟨u, by rw [ev], r⟩⟩⟩
/-- _law_number(source, e) -/
theorem emNum {k j n : Nat} {i : Int} {x : Str} {P : Int → Prop} (C : Cl X.prog X.w X.K X.mg X.base j x n SpNum) (hr : Room k X.A) (ha : ∀ H1, Sx q H H1 → SrcAt (m + 1) H1 q → ER X σ H1 a fun v _ => v = .ref q) (hb : ∀ H1, Sx q H H1 → SrcAt (m + 1) H1 q → EX X σ H1 b (.int i)) (h0 : 0 < i) (h1 : i < 2 ^ 64) (hP : ∀ r, 0 ≤ r → r < i → P r) (hj : j ≤ k := by decide)
    (hg : Gl X x := by rfl) (hdb : (x == ("__debug__" : Str)) = false := by decide) (he : starEach [a, b] X.env = (false, eval a X.env) :: starEach [b] X.env := by rfl) (he2 : starEach [b] X.env = (false, eval b X.env) :: starEach [] X.env := by rfl) (hpl : (backTo pos (starEach [b] X.env)).any (·.1) = false := by rfl) :
    EM X σ q H (m + 1) m (.Call (.Name x p) [a, b] [] pos) (IM P) := by
  obtain ⟨f, fd, ps, _, F, hm, hk, hbd⟩ := C.ex
  exact .of (pe_call (E := fun _ _ _ => False) F (hr.mono hj) hg hm hk hbd .nil (fun _ _ _ _ _ _ _ z => False.elim z) (amSrc ha (emI (P := fun z => z = i) hb rfl) he he2) hdb he hpl) fun H1 e1 sr Q k => ⟨rfl, e1, sr, fun vs H2 e2 sr2 ⟨u, ev, z, eu, hz⟩ => by
    subst hz eu ev
    exact ⟨q, z, m, rfl, sr2, h0, h1, fun r H' r0 r1 sx sr' => k _ H' (e2.trans sx) sr' ⟨r, rfl, hP r r0 r1⟩⟩⟩
end
/-- _law_choice's promise -/
def SpChoice : Sp := fun vs H Q _ => ∃ (q p : Addr) (ns : List Int) (m : Nat), vs = [.ref q, .ref p] ∧ SrcAt (m + 1) H q ∧ p ≠ q ∧ H p = some (.lst (ns.map .int)) ∧ ns ≠ [] ∧ ns.length ≤ 100 ∧ ∀ r H', r ∈ ns → Sx q H H' → SrcAt m H' q → Q (.int r) H'
section
variable {X : Cx} {σ : L2.St} {q : Addr} {H : Hp} {m m' m1 m2 : Nat} {e a b : Expr} {es : List Expr} {R R' R1 R2 : V → Hp → Prop} {RA : List V → Hp → Prop} {pos p : Pos} {rest : List Stmt} {D : Ends}
/-- _law_choice(source, e) -/
theorem emChoice {k j n : Nat} {x : Str} {PL : List Int → Prop} {P : Int → Prop} (C : Cl X.prog X.w X.K X.mg X.base j x n SpChoice) (hr : Room k X.A) (ha : ∀ H1, Sx q H H1 → SrcAt m H1 q → ER X σ H1 a fun v _ => v = .ref q) (hb : EM X σ q H m (m' + 1) b (NM q H PL)) (hne : ∀ ns, PL ns → ns ≠ [] ∧ ns.length ≤ 100) (hP : ∀ ns, PL ns → ∀ r ∈ ns, P r) (hj : j ≤ k := by decide)
    (hg : Gl X x := by rfl) (hdb : (x == ("__debug__" : Str)) = false := by decide) (he : starEach [a, b] X.env = (false, eval a X.env) :: starEach [b] X.env := by rfl) (he2 : starEach [b] X.env = (false, eval b X.env) :: starEach [] X.env := by rfl) (hpl : (backTo pos (starEach [b] X.env)).any (·.1) = false := by rfl) :
    EM X σ q H m m' (.Call (.Name x p) [a, b] [] pos) (IM P) := by
  obtain ⟨f, fd, ps, _, F, hm, hk, hbd⟩ := C.ex
  exact .of (pe_call (E := fun _ _ _ => False) F (hr.mono hj) hg hm hk hbd .nil (fun _ _ _ _ _ _ _ z => False.elim z) (amSrc ha hb he he2) hdb he hpl) fun H1 e1 sr Q k => ⟨rfl, e1, sr, fun vs H2 e2 sr2 ⟨u, ev, p, ns, eu, hpq, hn, hH, hl⟩ => by
    subst eu ev
    exact ⟨q, p, ns, m', rfl, sr2, hpq, hH, (hne ns hl).1, (hne ns hl).2, fun r H' hr sx sr' => k _ H' (e2.trans sx) sr' ⟨r, rfl, hP ns hl r hr⟩⟩⟩
/-- x = e -/
theorem sxSetM {i : Nat} {x : Str} {pos' : Pos} (sr : SrcAt m H q) (he : EM X σ q H m m' e R) (k : ∀ v H2, Sx q H H2 → SrcAt m' H2 q → R v H2 → SX X (σ.set i (some v)) H2 rest D) (hN : X.N.Nodup) (hi : X.N[i]? = some x := by rfl) (hx : Loc X.env.scope x := by first | exact .inl rfl | exact .inr rfl) (hs : swapsWith e (some (.Name x pos')) pos.line X.env = pure false := by rfl)
    (hf : X.fn x = true ∨ X.env.scope.names.lookup x = some .local := by first | exact .inl rfl | exact .inr rfl | assumption) : SX X σ H (.Assign [.Name x pos'] e pos :: rest) D :=
  sxOf (ps_set hN hi hx he hs hf) ⟨rfl, Sx.refl, sr, fun v H2 e2 sr2 r => k v H2 e2 sr2 r⟩
/-- return e -/
theorem sxRetM (sr : SrcAt m H q) (he : EM X σ q H m m' e R) (k : ∀ v H2, Sx q H H2 → SrcAt m' H2 q → R v H2 → D.rt v H2) : SX X σ H (.Return (some e) pos :: rest) D := sxOf (ps_ret he) ⟨rfl, Sx.refl, sr, fun v H2 e2 sr2 r => k v H2 e2 sr2 r⟩
end
section
variable {P : Program} {w : World} {K : PySem.W.Frag} {mg : Str → Option Value} {base : Heap}
theorem cl_law_choice (B : BM mg) (c_law_number : Cl P w K mg base 1 "_law_number" 2 SpNum) (F : Df K mg "_law_choice" sLawChoice pLawChoice) : Cl P w K mg base 2 "_law_choice" 2 SpChoice := by
  refine clG F scLawChoice (fun vs H Q E h => ?_) rfl fun f cdv A outer s H vs Q E hr h => ?_
  · obtain ⟨q, p, ns, m, rfl, _⟩ := h
    rfl
  obtain ⟨q, p, ns, m, rfl, sr, hpq, hp, hne, hl, k⟩ := h
  have hlen : 0 < ns.length := by cases ns with | nil => exact absurd rfl hne | cons _ _ => simp
  refine sxRetM (m := m + 1) (m' := m) (R := fun v _ => ∃ r, v = .int r ∧ r ∈ ns) sr (.of (pe_ix ix_list (emX (q := q) (H := H) (m := m + 1) (R := fun v _ => v = .ref p) fun H1 e1 sr1 => erV 1 rfl (pv 1)) (emNum (m := m) (i := (ns.length : Nat)) (P := fun r => 0 ≤ r ∧ r < ns.length) c_law_number hr (fun H1 e1 sr1 => erV 0 rfl (pv 0)) (fun H1 e1 sr1 => EX.is (xLenA (ds := ns.map .int) B.len rfl (EL.ex (lV 1 rfl rfl ⟨_, e1 _ _ hpq hp, ints_dpAll ns⟩ (pv 1)))) (by rw [List.length_map])) (by omega) (by omega) (fun r h0 h1 => ⟨h0, h1⟩)) (fun _ _ => rfl)) fun H1 e1 sr1 Q k => ⟨rfl, e1, sr1, fun v H2 e2 sr2 ev => ⟨rfl, e1.trans e2, sr2, fun u H3 e3 sr3 ⟨i, eu, h0, h1⟩ => ?_⟩⟩) fun v H2 e2 sr2 ⟨r, ev, hm⟩ => by subst ev; exact k r H2 hm e2 sr2
  have hat : atI (ns.map V.int) i = some (.int (ns[i.toNat]'(by omega))) := by
    rw [atI_pos h0 (by rw [List.length_map]; exact h1), List.getElem?_map, List.getElem?_eq_getElem (by omega)]
    rfl
  exact ⟨p, ns.map V.int, i, _, ev, eu, .inl (.inl ((e1.trans (e2.trans e3)) _ _ hpq hp)), hat, k _ H3 (e2.trans e3) sr3 ⟨_, rfl, List.getElem_mem _⟩⟩
end
end GX
end SGSrc
section SGFn14
set_option linter.all false
set_option maxRecDepth 100000
set_option maxHeartbeats 1000000
/-! _law_source, _law_far -/
namespace GX
open PySem PySem.Spec PyProof.Rows L2
open Evl StX OL
theorem bit_ok (c : Bool) : -(2 ^ 64) < (if c = true then (1 : Int) else 0) ∧ (if c = true then (1 : Int) else 0) < 2 ^ 64 := by cases c <;> decide
theorem bit_nn (c : Bool) : 0 ≤ (if c = true then (1 : Int) else 0) := by cases c <;> decide
section
variable {X : Cx} {σ : L2.St} {q : Addr} {H : Hp} {m m' m1 m2 : Nat} {e a b : Expr} {es : List Expr} {R R' R1 R2 : V → Hp → Prop} {pos p : Pos} {rest : List Stmt} {D : Ends} {P : Int → Prop}
/-- lists of n ints, each such that -/
def AllI (P : Int → Prop) (n : Nat) (ns : List Int) : Prop := ns.length = n ∧ ∀ x ∈ ns, P x
theorem amAll0 : AM X σ q H m m [] (LM (AllI P 0)) := .of pa_nil fun H1 e1 sr Q k => k [] H1 Sx.refl sr ⟨[], rfl, rfl, by simp⟩
theorem amAll {n : Nat} (ha : EM X σ q H m m1 e (IM P)) (hr : AM X σ q H m1 m' es (LM (AllI P n))) (hs : starEach (e :: es) X.env = (false, eval e X.env) :: starEach es X.env := by rfl) : AM X σ q H m m' (e :: es) (LM (AllI P (n + 1))) :=
  .of (pa_cons ha hr hs) fun H1 e1 sr Q k => ⟨rfl, e1, sr, fun v H2 e2 sr2 ⟨i, ev, hi⟩ => ⟨rfl, e1.trans e2, sr2, fun vs H3 e3 sr3 ⟨ns, evs, hn, hp⟩ => k _ H3 (e2.trans e3) sr3 ⟨i :: ns, by rw [ev, evs]; rfl, by rw [List.length_cons, hn], fun x hx => by
    rcases List.mem_cons.mp hx with h | h
    · rw [h]; exact hi
    · exact hp x h⟩⟩⟩
theorem all_z {n : Nat} (h : n ≤ 100) : ∀ ns, AllI P n ns → ns.length ≤ sizeLine := fun ns a => by rw [a.1, sizeLine_eq]; omega
theorem all_ne {n : Nat} (h : 1 ≤ n) (h2 : n ≤ 100) : ∀ ns, AllI P n ns → ns ≠ [] ∧ ns.length ≤ 100 := fun ns a => ⟨fun z => by subst z; have := a.1; simp at this; omega, by rw [a.1]; exact h2⟩
theorem all_p {n : Nat} : ∀ ns, AllI P n ns → ∀ r ∈ ns, P r := fun ns a => a.2
/-- an if without else, both ways to the same -/
theorem sxWhen2 {c : Expr} {c0 : Bool} {body : List Stmt} (W : Hp → Prop) (ht : TX X σ H c c0) (h1 : c0 = true → ∀ H2, Ex H H2 → ∀ D' : Ends, (∀ H3, W H3 → D'.nx σ H3) → SX X σ H2 body D') (h2 : c0 = false → ∀ H2, Ex H H2 → W H2) (k : ∀ H2, W H2 → SX X σ H2 rest D) : SX X σ H (.If c body [] pos :: rest) D :=
  sxWhen ht (fun hc H2 e2 => h1 hc H2 e2 _ fun H3 w => k H3 w) fun hc H2 e2 => k H2 (h2 hc H2 e2)
/-- x, y = e, what takes no number -/
theorem sxParM {i j : Nat} {x y : Str} {px py pt pt2 : Pos} {kt k2} (hc : X.calm = true) (hN : X.N.Nodup) (sr : SrcAt m H q) (ha : EM X σ q H m m' a (IM P)) (hb : ∀ H1, Sx q H H1 → SrcAt m' H1 q → ER X σ H1 b R2) (k : ∀ r u H2, P r → Sx q H H2 → SrcAt m' H2 q → R2 u H2 → SX X ((σ.set i (some (.int r))).set j (some u)) H2 rest D) (hij : i ≠ j := by decide)
    (hi : X.N[i]? = some x := by rfl) (hj : X.N[j]? = some y := by rfl) (hx : X.env.scope.names.lookup x = some .local := by rfl) (hy : X.env.scope.names.lookup y = some .local := by rfl) (h1 : starEach [a, b] X.env = (false, eval a X.env) :: starEach [b] X.env := by rfl) (h2 : starEach [b] X.env = (false, eval b X.env) :: starEach [] X.env := by rfl)
    (hw : swappedStores [.Tuple [.Name x px, .Name y py] kt pt] (.Tuple [a, b] k2 pt2) X.env = pure (some [x, y]) := by rfl) (hs : swapsWithSole [.Tuple [.Name x px, .Name y py] kt pt] (.Tuple [a, b] k2 pt2) pos.line X.env = pure false := by rfl) :
    SX X σ H (.Assign [.Tuple [.Name x px, .Name y py] kt pt] (.Tuple [a, b] k2 pt2) pos :: rest) D := by
  have h : AM X σ q H m m' [a, b] fun vs H' => ∃ r u, vs = [.int r, u] ∧ P r ∧ R2 u H' := .of (pa_cons ha (pa_cons (emX hb) pa_nil h2) h1) fun H1 e1 sr Q k => ⟨rfl, e1, sr, fun v H2 e2 sr2 ⟨r, ev, hr⟩ => ⟨rfl, e1.trans e2, sr2, fun u H3 e3 sr3 hu => k _ H3 (e2.trans e3) sr3 ⟨r, u, by rw [ev], hr, hu⟩⟩⟩
  exact sxOf (ps_par hc hN hi hj hij hx hy h hw hs) ⟨rfl, Sx.refl, sr, fun vs H2 e2 sr2 ⟨r, u, ev, hr, hu⟩ => ⟨.int r, u, ev, k r u H2 hr e2 sr2 hu⟩⟩
theorem NM.imp {PL PR : List Int → Prop} {v : V} {H' : Hp} (h : NM q H PL v H') (k : ∀ ns, PL ns → PR ns) : NM q H PR v H' := let ⟨p, ns, h1, h2, h3, h4, h5⟩ := h; ⟨p, ns, h1, h2, h3, h4, k ns h5⟩
theorem sx_upd {H H' : Hp} {D : Addr} {o : HO} (e : Sx q H H') (h : H D = none) : Sx q H (upd H' D o) := fun b u n e1 => by
  by_cases hb : b = D
  · subst hb; rw [h] at e1; cases e1
  · rw [upd_ne hb]; exact e b u n e1
end
/-! the numbers of the boxes -/
structure FarN (i : Nat) (N : List (Int × Int)) : Prop where
  asc : N.Pairwise fun p q => p.1 < q.1
  ok : ∀ p ∈ N, 2 ≤ p.1 ∧ p.1 < 2 + i ∧ 1 ≤ p.2 ∧ p.2 ≤ 10 ^ 18
def shiftP (d : Int) (p : Int × Int) : Int × Int := (d + p.1, p.2)
/-- the counts that _law_far makes -/
def FarOk (u c : Int) (cs : List (Int × Int)) : Prop := (∃ N f, FarN (u - 2).toNat N ∧ 0 ≤ f ∧ f ≤ 10 ^ 18 ∧ cs = (if 0 < f then [(1, f)] else []) ++ N.map (shiftP (u * c - u))) ∨ ∃ b, 1 ≤ b ∧ b ≤ 10 ^ 18 ∧ cs = [(u * c, b)]
theorem FarN.add {i : Nat} {N : List (Int × Int)} (h : FarN i N) {n : Int} (h1 : 1 ≤ n) (h2 : n ≤ 10 ^ 18) : FarN (i + 1) (N ++ [(2 + (i : Int), n)]) := by
  refine ⟨List.pairwise_append.mpr ⟨h.asc, by simp, fun p hp q hq => ?_⟩, fun p hp => ?_⟩
  · rw [List.mem_singleton.mp hq]
    have := h.ok p hp
    show p.1 < 2 + (i : Int)
    omega
  · rcases List.mem_append.mp hp with hp | hp
    · have := h.ok p hp; omega
    · rw [List.mem_singleton.mp hp]
      show 2 ≤ 2 + (i : Int) ∧ 2 + (i : Int) < 2 + ((i + 1 : Nat) : Int) ∧ 1 ≤ n ∧ n ≤ 10 ^ 18
      omega
theorem FarN.keep {i : Nat} {N : List (Int × Int)} (h : FarN i N) : FarN (i + 1) N := ⟨h.asc, fun p hp => by have := h.ok p hp; omega⟩
theorem FarN.len {i : Nat} : ∀ {N : List (Int × Int)}, FarN i N → N.length ≤ i := by
  induction i with
  | zero =>
    intro N h
    cases N with
    | nil => simp
    | cons p N => have := h.ok p (by simp); omega
  | succ i ih =>
    intro N h
    rcases List.eq_nil_or_concat N with e | ⟨M, p, e⟩
    · subst e; simp
    · subst e
      rw [List.concat_eq_append] at h ⊢
      have ha := List.pairwise_append.mp h.asc
      have hp := h.ok p (by simp)
      have hM : FarN i M := ⟨ha.1, fun x hx => by
        have h1 := h.ok x (by simp [hx])
        have h2 := ha.2.2 x hx p (by simp)
        omega⟩
      have := ih hM
      rw [List.length_append]
      simp
      omega
theorem asc_inj {L : List (Int × Int)} (h : L.Pairwise fun p q => p.1 < q.1) {a b : Int × Int} (ha : a ∈ L) (hb : b ∈ L) (e : a.1 = b.1) : a = b := by
  induction L with
  | nil => cases ha
  | cons x L ih =>
    obtain ⟨h1, h2⟩ := List.pairwise_cons.mp h
    rcases List.mem_cons.mp ha with ha | ha
    · rcases List.mem_cons.mp hb with hb | hb
      · rw [ha, hb]
      · have h5 := h1 b hb; rw [← ha] at h5; omega
    · rcases List.mem_cons.mp hb with hb | hb
      · have h5 := h1 a ha; rw [← hb] at h5; omega
      · exact ih h2 ha hb
theorem asc_uniq {zs kvs srt : List (Int × Int)} (h1 : zs.Perm kvs) (h2 : zs.Pairwise fun e f => e.1 ≤ f.1) (h3 : srt.Perm kvs) (h4 : srt.Pairwise fun p q => p.1 < q.1) : zs = srt :=
  List.Perm.eq_of_pairwise (le := fun e f : Int × Int => e.1 ≤ f.1) (fun a b ha hb g1 g2 => asc_inj h4 (h3.mem_iff.mpr (h1.mem_iff.mp ha)) hb (Int.le_antisymm g1 g2)) h2 (h4.imp fun h => Int.le_of_lt h) (h1.trans h3.symm)
section
variable {P : Program} {w : World} {K : PySem.W.Frag} {mg : Str → Option Value} {base : Heap}
def SpSource (K : PySem.W.Frag) : Sp := fun vs H Q _ => ∃ (ns : List Int) (k : Int) (vr : V), vs = [vr, .int k] ∧ Dp K H vr (.list (ns.map .int)) ∧ 0 ≤ k ∧ k < 2 ∧ ∀ p H', Ex H H' → H p = none → SrcAt (2 ^ 39) H' p → Q (.ref p) H'
theorem cl_law_source (B : BM mg) (F : Df K mg "_law_source" sLawSource pLawSource) : Cl P w K mg base 1 "_law_source" 2 (SpSource K) := by
  refine clG F scLawSource (fun vs H Q E h => ?_) rfl fun f cdv A outer s H vs Q E hr h => ?_
  · obtain ⟨ns, k, vr, rfl, _⟩ := h
    rfl
  obtain ⟨ns, k, vr, rfl, hs, hk0, hk2, kk⟩ := h
  refine sxSet (i := 2) (R := fun v _ => ∃ c : Int, v = .int c) (xIfT (c0 := decide (k < ns.length)) (TX.is (ttLt (xV 1 rfl (.int k) (pv 1)) (xLenA (ds := ns.map .int) B.len rfl (xV 0 rfl hs (pv 0)))) (by rw [List.length_map])) (fun hc => ER.imp (xIxA (xV 0 rfl hs (pv 0)) (xV 1 rfl (.int k) (pv 1)) (.inr rfl) (atI_ints hk0 (of_decide_eq_true hc))) fun v H' _ d => ⟨_, dp_int d⟩) fun hc => ER.imp (xAdd (xMul xI (xV 1 rfl (.int k) (pv 1)) (by first | exact .inl ⟨by omega, by omega⟩ | exact .inr ⟨by omega, by omega⟩ | assumption)) xI) fun v H' _ d => ⟨_, dp_int d⟩) (fun v H2 e2 ⟨c, ev⟩ => ?_) scLawSource.nd
  subst ev
  have hp1 : (Builtin.Int.intBits 10 : Int) * 60 ≤ 2 ^ 27 := by decide +kernel
  have hp2 : (Builtin.Int.intBits (10 ^ 60) : Int) * 5 ≤ 2 ^ 27 := by decide +kernel
  have hp3 : (Builtin.Int.intBits 10 : Int) * 18 ≤ 2 ^ 27 := by decide +kernel
  refine sxSet (i := 3) (R := fun v _ => ∃ o : Int, v = .int o ∧ 0 ≤ o) (ER.imp (xMul (i := (if c < 0 then -c else c) % (10 ^ 60) ^ 5) (j := if decide (10 ^ 18 ≤ (if c < 0 then -c else c)) = true then 1 else 0) (xMod (xAbs rfl B.abs (xV 2 rfl (.int c) (pv 2))) (xPow (n := 5) (xPow (n := 60) xI xI (by decide) hp1) xI (by decide) hp2) (by decide +kernel)) (xIntB rfl B.int (xGe (xAbs rfl B.abs (xV 2 rfl (.int c) (pv 2))) (xPow (n := 18) xI xI (by decide) hp3))) (.inr (bit_ok _))) fun v H' _ d => ⟨_, dp_int d, by
    exact Int.mul_nonneg (Int.emod_nonneg _ (by decide +kernel)) (bit_nn _)⟩) (fun v H3 e3 ⟨o, ev, ho⟩ => ?_) scLawSource.nd
  subst ev
  refine sxRet (nLst (ds := [o, (c % 2305843009213693951 * 1000133 + 8111 * k + 29) % 2305843009213693921, 0].map .int) (aCons (xV 3 rfl (.int o) (pv 3)) (aCons (xMod (xAdd (xAdd (xMul (xMod (xV 2 rfl (.int c) (pv 2)) xI (by omega)) xI (by first | exact .inl ⟨by omega, by omega⟩ | exact .inr ⟨by omega, by omega⟩ | assumption)) (xMul xI (xV 1 rfl (.int k) (pv 1)) (by first | exact .inl ⟨by omega, by omega⟩ | exact .inr ⟨by omega, by omega⟩ | assumption))) xI) xI (by omega)) (aCons xI aNil))) (by simp [sizeLine_eq])) fun v H4 e4 ⟨p, ev, hn, vs, h1, h2⟩ => ?_
  subst ev
  have := dpAll_ints h2
  subst this
  have hn0 := fresh_back (e2.trans e3) hn
  refine kk p H4 (e2.trans (e3.trans e4)) hn0 ⟨o, _, 0, h1, ho, Int.emod_nonneg _ (by decide), Int.lt_of_lt_of_le (Int.emod_lt_of_pos _ (by decide)) (by decide), by decide, by decide⟩
/-- _law_far's promise -/
def SpFar (K : PySem.W.Frag) : Sp := fun vs H Q _ => ∃ (q : Addr) (vr : V) (u c : Int) (m : Nat), vs = [.ref q, vr] ∧ Dp K H vr (dPr u c) ∧ (u = 8 ∨ u = 4) ∧ 2 ≤ c ∧ c ≤ 16 ∧ SrcAt (m + 22) H q ∧ ∀ v H' cs, Sx q H H' → SrcAt m H' q → Dp K H' v (.tuple (cs.map dPp)) → FarOk u c cs → Q v H'
theorem cl_law_far (B : BM mg) (c_law_number : Cl P w K mg base 1 "_law_number" 2 SpNum) (c_law_choice : Cl P w K mg base 2 "_law_choice" 2 SpChoice) (F : Df K mg "_law_far" sLawFar pLawFar) : Cl P w K mg base 3 "_law_far" 2 (SpFar K) := by
  refine clG F scLawFar (fun vs H Q E h => ?_) rfl fun f cdv A outer s H vs Q E hr h => ?_
  · obtain ⟨q, vr, u, c, m, rfl, _⟩ := h
    rfl
  obtain ⟨q, vr, u, c, m, rfl, hd, hu, hc2, hc16, sr, k⟩ := h
  have hp17 : (Builtin.Int.intBits 10 : Int) * 17 ≤ 2 ^ 27 := by decide +kernel
  have hp18 : (Builtin.Int.intBits 10 : Int) * 18 ≤ 2 ^ 27 := by decide +kernel
  refine sxPar (i := 2) (j := 3) rfl scLawFar.nd (xIxA (xV 1 rfl hd (pv 1)) xI) (EX.is (xMul (xIxA (xV 1 rfl hd (pv 1)) xI) (xIxA (xV 1 rfl hd (pv 1)) xI) (by first | exact .inl ⟨by omega, by omega⟩ | exact .inr ⟨by omega, by omega⟩ | assumption)) rfl) (fun _ _ _ e d => dp_ex e d) fun w1 w2 H1 e1 d1 d2 => ?_
  obtain rfl := dp_int d1
  obtain rfl := dp_int d2
  have sr := sr.ex e1
  refine sxParM (i := 4) (j := 5) (q := q) (m := m + 22) (m' := m + 20) (P := fun b => 1 ≤ b ∧ b ≤ 10 ^ 17) (R2 := fun v H' => ∃ p, v = .ref p ∧ p ≠ q ∧ H p = none ∧ H' p = some (dKV [])) rfl scLawFar.nd sr (emChoice (PL := AllI (fun b => 1 ≤ b ∧ b ≤ 10 ^ 17) 4) c_law_choice hr (fun H1 e1 sr1 => erV 0 rfl (pv 0)) (emList (amAll (emI (i := 1) (fun _ _ _ => xI) (by decide)) (amAll (emI (i := 3) (fun _ _ _ => xI) (by decide)) (amAll (emI (fun _ _ _ => xPow (n := 17) xI xI (by decide) hp17) (by decide)) (amAll (emAdd (P := fun x => x = 1) (Q := fun r => 0 ≤ r ∧ r < 10 ^ 17) (emI (fun _ _ _ => xI) rfl) (emNum (m := m + 21) c_law_number hr (fun H1 e1 sr1 => erV 0 rfl (pv 0)) (fun _ _ _ => xPow (n := 17) xI xI (by decide) hp17) (by decide) (by decide) (fun r h0 h1 => ⟨h0, h1⟩)) (fun i j hi hj => by omega)) amAll0)))) (all_z (by decide))) (all_ne (by decide) (by decide)) all_p) (fun H1' e1' sr1 => ER.imp nDict fun v H' e ⟨p, ev, hn, hp⟩ => ⟨p, ev, sr1.fresh hn, Sx.fresh ((Sx.of e1).trans e1') (sr1.fresh hn) hn, hp⟩) fun bs wD H2 hb e2 sr2 ⟨Dd, eD, hDq, hDn, hD⟩ => ?_
  subst eD
  have e2 : Sx q H H2 := (Sx.of e1).trans e2
  have hu8 : 4 ≤ u ∧ u ≤ 8 := by omega
  refine sxForR2 rfl rfl rfl B.range xI (xV 2 rfl (.int u) (pv 2)) (by omega) (pg_name scLawFar.nd (i := 6) rfl (.inl rfl)) fun H3 e3 => ?_
  have hn6 : (u - 2).toNat ≤ 6 := by omega
  refine ⟨fun i σ' H' => ∃ a b' c' d N, σ' = [some (.ref q), some vr, some (.int u), some (.int (u * c)), some (.int bs), some (.ref Dd), a, b', c', d] ∧ Sx q H H' ∧ SrcAt (m + 2 + 3 * ((u - 2).toNat - i)) H' q ∧ H' Dd = some (dKV (N.map (shiftP (u * c - u)))) ∧ FarN i N, ⟨none, none, none, none, [], rfl, e2.trans (Sx.of e3), (sr2.ex e3).le (by omega), e3 _ _ hD, ⟨.nil, by simp⟩⟩, ?_, ?_⟩
  · rintro i σ' H' hi ⟨a, b', c', d, N, rfl, eH, sr, hD, hN⟩
    refine g1_run (i := 6) ?_
    have hrem : m + 2 + 3 * ((u - 2).toNat - i) = m + 2 + 3 * ((u - 2).toNat - (i + 1)) + 3 := by omega
    rw [hrem] at sr
    obtain ⟨m1, hm1⟩ : ∃ m1, m + 2 + 3 * ((u - 2).toNat - (i + 1)) = m1 := ⟨_, rfl⟩
    rw [hm1] at sr
    refine sxSetM (q := q) (m := m1 + 3) (m' := m1 + 2) (i := 7) sr (emList (PL := AllI (fun x => 0 ≤ x ∧ x ≤ 10 ^ 18) 4) (amAll (emI (i := 0) (fun _ _ _ => xI) (by decide)) (amAll (emI (fun _ _ _ => (xV 4 rfl (.int bs) (pv 4))) (by omega)) (amAll (emI (fun _ _ _ => (xMul xI (xV 4 rfl (.int bs) (pv 4)) (by first | exact .inl ⟨by omega, by omega⟩ | exact .inr ⟨by omega, by omega⟩ | assumption))) (by omega)) (amAll (emAdd (P := fun x => x = bs) (Q := fun r => 0 ≤ r ∧ r < 3) (emI (fun _ _ _ => (xV 4 rfl (.int bs) (pv 4))) rfl) (emNum (m := m1 + 2) c_law_number hr (fun H1 e1 sr1 => erV 0 rfl (pv 0)) (fun _ _ _ => xI) (by decide) (by decide) (fun r h0 h1 => ⟨h0, h1⟩)) (fun i j hi hj => by omega)) amAll0)))) (all_z (by decide))) (fun v H4 e4 sr4 ⟨p, ns, ev, hpq, hpn, hp, hall⟩ => ?_) scLawFar.nd
    subst ev
    refine sxSetM (q := q) (m := m1 + 2) (m' := m1) (i := 8) sr4 (emChoice (P := fun x => 0 ≤ x ∧ x ≤ 10 ^ 18) (PL := AllI (fun x => 0 ≤ x ∧ x ≤ 10 ^ 18) 5) c_law_choice hr (fun H1 e1 sr1 => erV 0 rfl (pv 0)) (emCat (p1 := p) (ns := ns) (PL := AllI (fun x => 0 ≤ x ∧ x ≤ 10 ^ 18) 1) hpq hp (fun H1 e1 sr1 => erV 7 rfl (pv 7)) (emList (amAll (emNum (m := m1 + 1) c_law_number hr (fun H1 e1 sr1 => erV 0 rfl (pv 0)) (fun _ _ _ => xPow (n := 18) xI xI (by decide) hp18) (by decide) (by decide) (fun r h0 h1 => ⟨h0, Int.le_of_lt h1⟩)) amAll0) (all_z (by decide))) (fun ms h => ⟨⟨by rw [List.length_append, hall.1, h.1], fun x hx => by
      rcases List.mem_append.mp hx with hx | hx
      · exact hall.2 x hx
      · exact h.2 x hx⟩, by rw [hall.1, h.1, sizeLine_eq]; decide⟩)) (all_ne (by decide) (by decide)) all_p) (fun v H5 e5 sr5 ⟨n, ev, hn⟩ => ?_) scLawFar.nd
    subst ev
    have hD5 := (e4.trans e5) _ _ hDq hD
    refine sxWhen (ttGt (xV 8 rfl (.int n) (pv 8)) xI) (fun hc H6 e6 => ?_) fun hc H6 e6 => sxNil ?_
    · have hn1 : 0 < n := of_decide_eq_true hc
      have hNl := hN.len
      refine sxSetD (hu_of hr) (erV 5 rfl (pv 5)) (e6 _ _ hD5) (by rw [List.length_map, sizeLine_eq]; omega) (xAdd (xSub (xV 3 rfl (.int _) (pv 3)) (xV 2 rfl (.int u) (pv 2))) (xV 6 rfl (.int _) (pv 6))) (xV 8 rfl (.int n) (pv 8)) fun H7 e7 => sxNil (sxNil ?_)
      refine ⟨_, _, _, _, N ++ [(2 + (i : Int), n)], rfl, sx_upd (eH.trans (e4.trans (e5.trans (Sx.of (e6.trans e7))))) hDn, SrcAt.ne hDq (by rw [hm1]; exact sr5.ex (e6.trans e7)), ?_, hN.add (by omega) hn.2⟩
      rw [upd_same, putI_new ?_, List.map_append]
      · rfl
      · intro hm
        rw [List.map_map] at hm
        obtain ⟨p, hp, he⟩ := List.mem_map.mp hm
        have := hN.ok p hp
        have : u * c - u + p.1 = u * c - u + (2 + (i : Int)) := he
        omega
    · exact ⟨_, _, _, _, N, rfl, eH.trans (e4.trans (e5.trans (Sx.of e6))), by rw [hm1]; exact sr5.ex e6, e6 _ _ hD5, hN.keep⟩
  · rintro σ' H' ⟨a, b', c', d, N, rfl, eH, sr, hD, hN⟩
    rw [show m + 2 + 3 * ((u - 2).toNat - (u - 2).toNat) = m + 2 by omega] at sr
    refine sxSetM (q := q) (m := m + 2) (m' := m) (i := 9) sr (emChoice (P := fun x => 0 ≤ x ∧ x ≤ 10 ^ 18) (PL := AllI (fun x => 0 ≤ x ∧ x ≤ 10 ^ 18) 5) c_law_choice hr (fun H1 e1 sr1 => erV 0 rfl (pv 0)) (emList (amAll (emI (i := 0) (fun _ _ _ => xI) (by decide)) (amAll (emI (i := 0) (fun _ _ _ => xI) (by decide)) (amAll (emI (i := 1) (fun _ _ _ => xI) (by decide)) (amAll (emI (fun _ _ _ => (xV 4 rfl (.int bs) (pv 4))) (by omega)) (amAll (emNum (m := m + 1) c_law_number hr (fun H1 e1 sr1 => erV 0 rfl (pv 0)) (fun _ _ _ => xPow (n := 18) xI xI (by decide) hp18) (by decide) (by decide) (fun r h0 h1 => ⟨h0, Int.le_of_lt h1⟩)) amAll0))))) (all_z (by decide))) (all_ne (by decide) (by decide)) all_p) (fun v H5 e5 sr5 ⟨g, ev, hf⟩ => ?_) scLawFar.nd
    subst ev
    have hNl := hN.len
    have hD5 := e5 _ _ hDq hD
    have eH := eH.trans e5
    have big : 2 < u * c - u + 2 := by
      rcases hu with rfl | rfl <;> omega
    have hasc : (N.map (shiftP (u * c - u))).Pairwise fun p q => p.1 < q.1 := List.pairwise_map.mpr (hN.asc.imp fun h => by show _ + _ < _ + _; omega)
    generalize hsrt : (if 0 < g then [(1, g)] else []) ++ N.map (shiftP (u * c - u)) = srt
    have hfar : FarOk u c srt := .inl ⟨N, g, hN, hf.1, hf.2, hsrt.symm⟩
    have hsasc : srt.Pairwise fun p q => p.1 < q.1 := by
      rw [← hsrt]
      refine List.pairwise_append.mpr ⟨by split <;> simp, hasc, fun p hp q hq => ?_⟩
      have e1 : p.1 = 1 := by
        split at hp
        · rw [List.mem_singleton.mp hp]
        · cases hp
      obtain ⟨r, hr, rfl⟩ := List.mem_map.mp hq
      have := hN.ok r hr
      show p.1 < u * c - u + r.1
      omega
    refine sxWhen2 (fun H6 => ∃ kvs, Sx q H H6 ∧ SrcAt m H6 q ∧ H6 Dd = some (dKV kvs) ∧ srt.Perm kvs) (ttGt (xV 9 rfl (.int g) (pv 9)) xI) (fun hc H6 e6 D' kD => ?_) (fun hc H6 e6 => ?_) fun H6 ⟨kvs, eH6, sr6, hD6, hperm⟩ => ?_
    · have hg : 0 < g := of_decide_eq_true hc
      rw [if_pos hg] at hsrt
      refine sxSetD (hu_of hr) (erV 5 rfl (pv 5)) (e6 _ _ hD5) (by rw [List.length_map, sizeLine_eq]; omega) xI (xV 9 rfl (.int g) (pv 9)) fun H7 e7 => sxNil (kD _ ⟨_, sx_upd (eH.trans (Sx.of (e6.trans e7))) hDn, SrcAt.ne hDq (sr5.ex (e6.trans e7)), upd_same, ?_⟩)
      rw [putI_new ?_, ← hsrt]
      · exact List.perm_append_comm
      · intro hm
        rw [List.map_map] at hm
        obtain ⟨p, hp, he⟩ := List.mem_map.mp hm
        have := hN.ok p hp
        have : u * c - u + p.1 = 1 := he
        omega
    · have hg : ¬ 0 < g := of_decide_eq_false hc
      rw [if_neg hg, List.nil_append] at hsrt
      exact ⟨_, eH.trans (Sx.of e6), sr5.ex e6, e6 _ _ hD5, by rw [← hsrt]⟩
    · skip
      refine sxRet (R := fun v H' => ∃ cs, Dp K H' v (.tuple (cs.map dPp)) ∧ FarOk u c cs) (xIfT (ttNeD (Nat.lt_of_succ_lt (hu_of hr)) (dV 5 rfl rfl (.inl hD6) (pv 5)) (END.ed nDict)) (fun hc => ER.imp (xTupOf (ds := srt.map dPp) rfl B.tuple (ER.imp (nSortIt rfl rfl B.sorted (erV 5 rfl (pv 5)) hD6) fun v H' _ ⟨l, zs, ev, hn, h1, h2, h3⟩ => ?_)) fun v H' _ d => ⟨srt, d, hfar⟩) fun hc => ER.imp (EX.is (d' := .tuple ([(u * c, bs)].map dPp)) (xTup (aCons (xTup (aCons (xV 3 rfl (.int _) (pv 3)) (aCons (xV 4 rfl (.int bs) (pv 4)) aNil)) (by first | (rw [sizeLine_eq]; simp; done) | (rw [sizeLine_eq]; simp; omega) | assumption)) aNil) (by first | (rw [sizeLine_eq]; simp; done) | (rw [sizeLine_eq]; simp; omega) | assumption)) rfl) fun v H' _ d => ⟨_, d, .inr ⟨bs, hb.1, by omega, rfl⟩⟩) fun v H2 e2 ⟨cs, d, ho⟩ => k v H2 cs (eH6.trans (Sx.of e2)) (sr6.ex e2) d ho
      rw [asc_uniq h1 h2 hperm hsasc] at h3
      obtain ⟨vs, h4, h5⟩ := h3
      rw [ev]
      exact .lst (.inl (.inl h4)) h5
end
end GX
end SGFn14
section SGRX
set_option linter.all false
set_option maxRecDepth 100000
set_option maxHeartbeats 1000000
/-! statements and expressions on the machine, by data -/
namespace GX
open PySem PySem.Spec PyProof.Rows L2
open Evl StX
def SO (X : Cx) (σ : L2.St) (H : Hp) (st : List Stmt) (D : Ends) : Prop := ∀ pins s, Inv X pins σ H s → RX (model X.prog X.w) X.A (execs st X.env) (SP X pins D) X.xe s
abbrev RO (X : Cx) (σ : L2.St) (H : Hp) (e : Expr) (R : V → Hp → Prop) : Prop := PEO X e (tR σ H R)
abbrev TOX (X : Cx) (σ : L2.St) (H : Hp) (e : Expr) (b : Bool) : Prop := PTO X e (tTR σ H b)
abbrev AOX (X : Cx) (σ : L2.St) (H : Hp) (es : List Expr) (qs : List Dv) : Prop := PAO X es (tAQ X.K σ H qs)
/-- the def named x keeps its promise on the machine, within k calls -/
structure ClX (P : Program) (w : World) (K : PySem.W.Frag) (mg : Str → Option Value) (base : Heap) (k : Nat) (x : Str) (n : Nat) (sp : Sp) : Prop where
  ex : ∃ (f : Addr) (fd : FuncData) (ps : List Str), ps.length = n ∧ FnX P w K mg base k f fd ps sp ∧ mg x = some (.ref f) ∧ PySem.W.keepIn K (.ref f) = true ∧ Binds K fd ps []
theorem ClX.of {P : Program} {w : World} {K : PySem.W.Frag} {mg : Str → Option Value} {base : Heap} {k : Nat} {x : Str} {n : Nat} {sp : Sp} (h : Cl P w K mg base k x n sp) : ClX P w K mg base k x n sp := by
  obtain ⟨f, fd, ps, h1, h2, h3, h4, h5⟩ := h.ex
  exact ⟨f, fd, ps, h1, FnX.of h2, h3, h4, h5⟩
section
variable {P : Program} {w : World} {K : PySem.W.Frag} {mg : Str → Option Value} {base : Heap}
theorem clX {x : Str} {st : Stmt} {N ps : List Str} {k n : Nat} {sp : Sp} (F : Df K mg x st ps) (S : FnScope N ps (defScope st)) (len : ∀ vs H Q E, sp vs H Q E → vs.length = ps.length) (hps : ps.length = n)
    (hbody : ∀ (f : Addr) (cdv : Value) (A : Around) (outer : List Env) (s : Shared) (H : Hp) (vs : List V) (Q : VK) (E : XK), Room k (A.deeper (envOfC x (defScope st) s.heap.objs.size f cdv)) → sp vs H Q E →
      SO (cxOf CX0 P w K mg base N x (defScope st) f cdv A outer s H E).nox (L2.start N vs) H (defBody st) { nx := fun _ H' => Q .non H', rt := Q }) : ClX P w K mg base (k + 1) x n sp := by
  obtain ⟨f, fd, F, hm, hb⟩ := F
  exact ⟨f, fd, ps, hps, fun_okX F S len fun cdv A outer s H vs Q E hr h => ⟨_, soO, hbody f cdv A outer s H vs Q E hr h⟩, hm, F.kp, hb⟩
theorem clDX {x : Str} {st : Stmt} {N ps : List Str} {k n : Nat} {pre : List Dv → Dv → Prop} (F : Df K mg x st ps) (S : FnScope N ps (defScope st)) (hlen : ∀ qs r, pre qs r → qs.length = n) (hps : ps.length = n)
    (hbody : ∀ (f : Addr) (cdv : Value) (A : Around) (outer : List Env) (s : Shared) (H : Hp) (vs : List V) (qs : List Dv) (r : Dv) (Q : VK) (E : XK), Room k (A.deeper (envOfC x (defScope st) s.heap.objs.size f cdv)) → pre qs r → DqAll K H vs qs → (∀ v H', Ex H H' → Dq K H' v r → Q v H') →
      SO (cxOf CX0 P w K mg base N x (defScope st) f cdv A outer s H E).nox (L2.start N vs) H (defBody st) { nx := fun _ H' => Q .non H', rt := Q }) : ClX P w K mg base (k + 1) x n (SpD K pre) := by
  refine clX F S (fun vs H Q E h => ?_) hps fun f cdv A outer s H vs Q E hr h => ?_
  · obtain ⟨qs, r, h1, h2, _⟩ := h
    rw [h1.len, hlen qs r h2, hps]
  · obtain ⟨qs, r, h1, h2, h3⟩ := h
    exact hbody f cdv A outer s H vs qs r Q E hr h2 h1 h3
end
theorem execs_one (st : Stmt) (env : Env) : execs [st] env = exec st env := by
  have e : execs [st] env = (do match ← exec st env with | .next => execs [] env | f => pure f) := rfl
  rw [e]
  have : (fun f : Flow => (match f with | .next => execs [] env | f => pure f : Sem Flow)) = pure := by
    funext f
    cases f <;> rfl
  exact (congrArg (exec st env >>= ·) this).trans (bind_pure _)
section
variable {X : Cx} {σ : L2.St} {H : Hp} {e a b c : Expr} {es : List Expr} {R R' R1 R2 : V → Hp → Prop} {d d' : PyData} {q : Dv} {qs : List Dv} {st : Stmt} {rest body : List Stmt} {D : Ends} {pos p : Pos}
theorem SO.of (h : SX X σ H rest D) : SO X σ H rest D := fun pins s I => RX.of (h pins s I)
theorem soNil (h : D.nx σ H) : SO X σ H [] D := SO.of (sxNil h)
theorem soCons {t : TS} (h : PSO X st t) (k : t { D with nx := fun σ' H' => SO X σ' H' rest D } σ H) : SO X σ H (st :: rest) D := fun pins s I => (sconsO h soO).run pins s σ H D I k
/-- a statement by the rules of the layer -/
theorem soOne (h : SX X σ H [st] { D with nx := fun σ' H' => SO X σ' H' rest D }) : SO X σ H (st :: rest) D := fun pins s I => by
  rw [execs_cons]
  have h1 := h pins s I
  rw [execs_one] at h1
  refine rx_then (RX.of h1) fun f s1 q => ?_
  cases f with
  | next =>
    obtain ⟨σ', H', I', q⟩ := q
    exact q pins s1 I'
  | ret v => exact RX.pure q
  | brk => exact RX.pure q
  | cont => exact RX.pure q
/-! expressions -/
theorem RO.mk {t : TE} (h : PEO X e t) (k : ∀ H1, Ex H H1 → ∀ Q : VK, (∀ v H2, Ex H1 H2 → R v H2 → Q v H2) → t σ H1 Q) : RO X σ H e R := ⟨fun pins s σ' H' Q I q => by
  obtain ⟨rfl, e2, q⟩ := q
  exact h.run pins s _ H' Q I (k H' e2 Q q)⟩
theorem TOX.mk {t : TT} {c0 : Bool} (h : PTO X e t) (k : ∀ H1, Ex H H1 → ∀ Q : Bool → Hp → Prop, (∀ H2, Ex H1 H2 → Q c0 H2) → t σ H1 Q) : TOX X σ H e c0 := ⟨fun pins s σ' H' Q I q => by
  obtain ⟨rfl, e2, q⟩ := q
  exact h.run pins s _ H' Q I (k H' e2 Q q)⟩
theorem AOX.mk {t : TA} (h : PAO X es t) (k : ∀ H1, Ex H H1 → ∀ Q : List V → Hp → Prop, (∀ vs H2, Ex H1 H2 → DqAll X.K H2 vs qs → Q vs H2) → t σ H1 Q) : AOX X σ H es qs := ⟨fun pos pins s σ' H' Q I q => by
  obtain ⟨rfl, e2, q⟩ := q
  exact h.run pos pins s _ H' Q I (k H' e2 Q q)⟩
theorem RO.of (h : ER X σ H e R) : RO X σ H e R := PEO.of h
theorem RO.imp (h : RO X σ H e R) (k : ∀ v H', Ex H H' → R v H' → R' v H') : RO X σ H e R' := .mk h fun H1 e1 Q q => ⟨rfl, e1, fun v H2 e2 r => q v H2 e2 (k v H2 (e1.trans e2) r)⟩
theorem TOX.of {c0 : Bool} (h : TX X σ H e c0) : TOX X σ H e c0 := PTO.of h
theorem aoNil : AOX X σ H [] [] := PAO.of aqNil
theorem aoCons (ha : RO X σ H e fun v H' => Dq X.K H' v q) (hr : AOX X σ H es qs) (hs : starEach (e :: es) X.env = (false, eval e X.env) :: starEach es X.env := by rfl) : AOX X σ H (e :: es) (q :: qs) :=
  .mk (aconsO ha hr hs) fun H1 e1 Q k => ⟨rfl, e1, fun v H2 e2 dv => ⟨rfl, e1.trans e2, fun vs H3 e3 dvs => k _ H3 (e2.trans e3) (.cons (dv.ex e3) dvs)⟩⟩
/-- a def is called -/
theorem roCl {k j n : Nat} {pre : List Dv → Dv → Prop} {r : Dv} {x : Str} (C : ClX X.prog X.w X.K X.mg X.base j x n (SpD X.K pre)) (hr : Room k X.A) (ha : AOX X σ H (e :: es) qs) (hp : pre qs r) (hj : j ≤ k := by decide)
    (hg : Gl X x := by rfl) (hdb : (x == ("__debug__" : Str)) = false := by decide) (he : starEach (e :: es) X.env = (false, eval e X.env) :: starEach es X.env := by rfl) (hpl : (backTo pos (starEach es X.env)).any (·.1) = false := by rfl) : RO X σ H (.Call (.Name x p) (e :: es) [] pos) fun v H' => Dq X.K H' v r := by
  obtain ⟨f, fd, ps, _, F, hm, hk, hb⟩ := C.ex
  exact .mk (callO (E := fun _ _ _ => False) F (hr.mono hj) hg hm hk hb .nil ha hdb he hpl) fun H1 e1 Q k => ⟨rfl, e1, fun vs H2 e2 dvs => by
    refine ⟨qs, r, ?_, hp, fun v H' e' dv => k v H' (e2.trans e') dv⟩
    rw [List.append_nil]
    exact dvs⟩
theorem roSub {i j : Int} (ha : RO X σ H a fun v _ => v = .int i) (hb : RO X σ H b fun v _ => v = .int j) : RO X σ H (.BinOp a .Sub b pos) fun v _ => v = .int (i - j) :=
  .mk (opO op_sub ha hb) fun H1 e1 Q k => ⟨rfl, e1, fun v H2 e2 ev => ⟨rfl, e1.trans e2, fun u H3 e3 eu => ⟨i, j, ev, eu, k _ H3 (e2.trans e3) rfl⟩⟩⟩
theorem roInt {i : Int} (h : EX X σ H e (.int i)) : RO X σ H e fun v _ => v = .int i := RO.of (ER.imp h fun v H' _ d => dp_int d)
theorem roIntQ {i : Int} (h : RO X σ H e fun v H' => Dq X.K H' v (.dat (.int i))) : RO X σ H e fun v _ => v = .int i := RO.imp h fun v H' _ d => dp_int d
theorem roMax2 {i j : Int} (hc : X.calm = true) (hg : Gl X "max") (hm : X.mg "max" = none) (ha : RO X σ H a fun v _ => v = .int i) (hb : RO X σ H b fun v _ => v = .int j) (h1 : starEach [a, b] X.env = (false, eval a X.env) :: starEach [b] X.env := by rfl) (h2 : starEach [b] X.env = (false, eval b X.env) :: starEach [] X.env := by rfl) :
    RO X σ H (.Call (.Name "max" p) [a, b] [] pos) fun v _ => v = .int (max i j) :=
  .mk (callBO (call_max2 hc) hg hm PyProof.Rows.boot_max (aconsO ha (aconsO hb anilO h2) h1) (by decide) (by decide) h1 (by rw [h2]; rfl)) fun H1 e1 Q k => ⟨rfl, e1, fun v H2 e2 ev => ⟨rfl, e1.trans e2, fun u H3 e3 eu => ⟨i, j, by rw [ev, eu], k _ H3 (e2.trans e3) (congrArg V.int (by split <;> omega))⟩⟩⟩
/-! statements -/
theorem soSet {i : Nat} {x : Str} {pos' : Pos} (he : RO X σ H e R) (k : ∀ v H2, Ex H H2 → R v H2 → SO X (σ.set i (some v)) H2 rest D) (hN : X.N.Nodup) (hi : X.N[i]? = some x := by rfl) (hx : Loc X.env.scope x := by first | exact .inl rfl | exact .inr rfl) (hs : swapsWith e (some (.Name x pos')) pos.line X.env = pure false := by rfl)
    (hf : X.fn x = true ∨ X.env.scope.names.lookup x = some .local := by first | exact .inl rfl | exact .inr rfl | assumption) : SO X σ H (.Assign [.Name x pos'] e pos :: rest) D :=
  soCons (setO hN hi hx he hs hf) ⟨rfl, Ex.refl _, fun v H2 e2 r => k v H2 e2 r⟩
theorem soRet (he : RO X σ H e R) (k : ∀ v H2, Ex H H2 → R v H2 → D.rt v H2) : SO X σ H (.Return (some e) pos :: rest) D := soCons (retO he) ⟨rfl, Ex.refl _, fun v H2 e2 r => k v H2 e2 r⟩
theorem soWhen {c0 : Bool} (ht : TOX X σ H c c0) (h1 : c0 = true → ∀ H2, Ex H H2 → SO X σ H2 body { D with nx := fun σ' H' => SO X σ' H' rest D }) (h2 : c0 = false → ∀ H2, Ex H H2 → SO X σ H2 rest D) : SO X σ H (.If c body [] pos :: rest) D := by
  refine soCons (ifO (t := tSX X body) (u := tNext) ht soO snilO) ⟨rfl, Ex.refl _, fun H2 e2 => ?_⟩
  cases c0 with
  | true => exact iteT (h1 rfl H2 e2)
  | false => exact iteF (h2 rfl H2 e2)
end
/-! a dict unlocked: flat data stays -/
def Mt (H H' : Hp) : Prop := (∀ b xs, H b = some (.tup xs) → H' b = some (.tup xs)) ∧ ∀ b o xs, H b = some (.frz o (.tup xs)) → H' b = some (.frz o (.tup xs))
theorem Mt.of {H H' : Hp} (e : Mx H H') : Mt H H' := ⟨e.1, fun b o xs h => e.2 b o _ h⟩
section
variable {K : PySem.W.Frag} {H H' : Hp}
theorem sqT_mt (e : Mt H H') {a : Addr} {xs : List V} (h : SqT K H a xs) : SqT K H' a xs := by
  rcases h with (h | ⟨o, h⟩) | h
  · exact .inl (.inl (e.1 _ _ h))
  · exact .inl (.inr ⟨o, e.2 _ _ _ h⟩)
  · exact .inr h
mutual
theorem dp_mt (e : Mt H H') : ∀ {d : PyData} {v : V}, flatD d = true → Dp K H v d → Dp K H' v d
  | .none, _, _, .non => .non
  | .bool _, _, _, .bl b => .bl b
  | .int _, _, _, .int i => .int i
  | .str _, _, _, .str x => .str x
  | .tuple _, _, f, .tup h a => .tup (sqT_mt e h) (dpAll_mt e f a)
theorem dpAll_mt (e : Mt H H') : ∀ {ds : List PyData} {vs : List V}, flatD.flatDs ds = true → DpAll K H vs ds → DpAll K H' vs ds
  | [], _, _, .nil => .nil
  | d :: ds, _, f, .cons h t => by
    have f : (flatD d && flatD.flatDs ds) = true := f
    rw [Bool.and_eq_true] at f
    exact .cons (dp_mt e f.1 h) (dpAll_mt e f.2 t)
end
theorem mt_unlock {q : Addr} {od : Obj} {kvs : List (Int × Int)} {o : HO} (h : H q = some (.frz od (dKV kvs))) : Mt H (upd H q o) := by
  refine ⟨fun b xs e => ?_, fun b o' xs e => ?_⟩
  · rw [upd_ne (ne_of e h (by simp))]; exact e
  · rw [upd_ne (ne_of e h (by simp))]; exact e
end
end GX
end SGRX
section SGFn15
set_option linter.all false
set_option maxRecDepth 100000
set_option maxHeartbeats 1000000
/-! best_plan and those that call it -/
namespace GX
open PySem PySem.Spec PyProof.Rows L2
open Evl StX OL
theorem KOk.len {u : Int} {kvs : List (Int × Int)} (hk : KOk u kvs) : kvs.length ≤ 6 := by
  have h := congrArg List.length (desc_keys hk)
  rw [ord_len, List.length_map] at h
  rw [h]
  exact List.length_filter_le _ _
theorem fewest_len {u : Int} {kvs : List (Int × Int)} (hk : KOk u kvs) : (fewestP u kvs).length ≤ 300 := by
  obtain ⟨o4, h4, e⟩ := fewest_four u kvs
  rw [e]
  refine packedP_len (by have := hk.len; omega) ?_
  rcases h4 with rfl | rfl <;> decide
def optV : Option Int → V
  | none => .non
  | some m => .int m
def bestC (u : Int) (kvs : List (Int × Int)) (t : List Int) (st : List Lap × Option Int) : Bool := match st.2 with
  | none => true
  | some m => decide (spanP u kvs t < m)
theorem bestS_eq (u : Int) (kvs : List (Int × Int)) (t : List Int) (st : List Lap × Option Int) : bestS u kvs st t = if bestC u kvs t st = true then (planP u kvs t, some (spanP u kvs t)) else st := by
  unfold bestS bestC
  obtain ⟨a, b⟩ := st
  cases b with
  | none => rfl
  | some m =>
    dsimp only
    by_cases h : spanP u kvs t < m
    · rw [if_pos h, if_pos (decide_eq_true h)]
    · rw [if_neg h, if_neg (by rw [decide_eq_false h]; decide)]
section
variable {P : Program} {w : World} {K : PySem.W.Frag} {mg : Str → Option Value} {base : Heap}
inductive preBest : List Dv → Dv → Prop
  | mk (u : Int) (kvs : List (Int × Int)) : KOk u kvs → preBest [.dat (.int u), .new kvs] (.dat (.tuple ((bestP u kvs).map dLap)))
theorem clX_best_plan (B : BM mg) (cd : ∃ f cdv, CD K mg f cdv) (c_fewest_packed : Cl P w K mg base 3 "fewest_packed" 2 (SpN K preFewestPacked)) (c_without : Cl P w K mg base 1 "without" 2 (SpD K preWithout)) (c_lap_count : Cl P w K mg base 1 "lap_count" 1 (SpD K preLapCount)) (F : Df K mg "best_plan" sBestPlan pBestPlan) : ClX P w K mg base 22 "best_plan" 2 (SpD K preBest) := by
  refine clDX F scBestPlan (fun qs r h => by cases h; rfl) rfl fun f cdv A outer s H vs qs r Q E hr hp hq k => ?_
  obtain ⟨u, kvs, hk⟩ := hp
  obtain ⟨v1, v2, rfl, h1, ⟨pb, rfl, h2⟩⟩ := hq.two
  obtain rfl := dp_int h1
  have hu := hk.uu
  refine soOne (sxUn2 (i := 2) (j := 3) rfl scBestPlan.nd (xTup (aCons (xTup aNil (by first | (rw [sizeLine_eq]; simp; done) | (rw [sizeLine_eq]; simp; omega) | assumption)) (aCons xN aNil)) (by first | (rw [sizeLine_eq]; simp; done) | (rw [sizeLine_eq]; simp; omega) | assumption)) fun w1 w2 H1 e1 d1 d2 => sxNil ?_)
  obtain rfl := dp_non d2
  obtain ⟨fc, cdvc, hcd⟩ := cd
  refine soCons (ps_forC (x := "") (i := 4) (tb := fun D σ H => SX _ σ H _ D) rfl hcd hr ⟨rfl, rfl⟩ rfl rfl (aR2 (σ := [some (.int u), some (.ref pb), some w1, some .non, none, none, none]) (H := H1) (erV 0 rfl (pv 0)) (erV 1 rfl (pv 1)) (fun _ _ _ _ h => h)) scBestPlan.nd rfl rfl SX.pss) ?_
  refine ⟨rfl, Ex.refl _, fun v u' H2 e2 ev eu => ⟨u, pb, kvs, 5, by rw [ev, eu], (e1.trans e2) _ _ h2, fun p hp => (hk.ok p hp).1, by omega, by decide, fun od => ?_⟩⟩
  refine ⟨fun ys σ' H' => ∃ dn vb a4 a5 a6, dn ++ ys = contF 5 u kvs [] ∧ σ' = [some (.int u), some (.ref pb), some vb, some (optV (dn.foldl (bestS u kvs) ([], none)).2), a4, a5, a6] ∧ Dp K H' vb (.tuple ((dn.foldl (bestS u kvs) ([], none)).1.map dLap)) ∧ H' pb = some (.frz od (dKV kvs)) ∧ Sx pb H H', ⟨[], w1, none, none, none, rfl, rfl, ?_, upd_same, (Sx.of (e1.trans e2)).trans Sx.upd⟩, ?_, ?_, ?_⟩
  · refine dp_mx (Mx.upd ((e1.trans e2) _ _ h2) (fun _ => by simp) (fun _ _ => by simp)) rfl (dp_ex e2 d1)
  · rintro ys σ' H3 H4 e ⟨dn, vb, a4, a5, a6, h1, rfl, h3, h4, h5⟩
    exact ⟨dn, vb, a4, a5, a6, h1, rfl, dp_ex e h3, e _ _ h4, h5.trans (Sx.of e)⟩
  · rintro x ys σ' H3 v ⟨dn, vb, a4, a5, a6, hdn, rfl, hb, hd, hS⟩ hy
    have hx : x ∈ contF 5 u kvs [] := by rw [← hdn]; simp
    have hfold : (dn ++ [x]).foldl (bestS u kvs) ([], none) = bestS u kvs (dn.foldl (bestS u kvs) ([], none)) x := by rw [List.foldl_append]; rfl
    generalize hst : dn.foldl (bestS u kvs) ([], none) = st at hb hfold ⊢
    obtain ⟨hr1, hr2⟩ := (cont_iff hk x).mp hx
    have hkw := without_ok hk (hr1.few hk)
    have hlw := hkw.len
    have hll := fewest_len hkw
    have hxl := hr1.len (by omega) (by omega)
    have hsum := hr1.sum (by omega)
    refine sxSet (i := 5) (xClL (ds := (fewestP u (withoutP kvs x)).map dLap) c_fewest_packed hr (aqCons (EX.toQ (xV 0 rfl (.int u) (pv 0))) (aqCons (EQ.new (xCl c_without hr (aqCons (ED.toQ (dV 1 rfl rfl (.inr ⟨od, hd⟩) (pv 1))) (aqCons (EY.toQ (yV 4 rfl hy (pv 4))) aqNil)) (.mk kvs x (by have := hk.len; omega)))) aqNil)) (.mk u (withoutP kvs x) (by omega) (fun p hp => by have := hkw.ok p hp; omega))) (fun v5 H4 e4 ⟨pl, ev, hn, hl⟩ => ?_) scBestPlan.nd
    subst ev
    have hy := hy.ex e4
    refine sxSet (i := 6) (R := fun v _ => v = .int (spanP u kvs x)) (ER.imp (R := fun v H' => Dp K H' v (.int (spanP u kvs x))) (xAdd (xMul (xV 0 rfl (.int u) (pv 0)) (xClD c_lap_count hr (aqCons (EX.toQ (EL.ex (lV 5 rfl rfl hl (pv 5)))) aqNil) (.mk _ (by omega))) (by first | exact .inl ⟨by omega, by omega⟩ | exact .inr ⟨by omega, by omega⟩ | assumption)) (xSumA B.sum rfl rfl (ET.ex (EY.et (yV 4 rfl hy (pv 4)))))) fun v H' _ d => dp_int d) (fun v6 H5 e5 ev => ?_) scBestPlan.nd
    subst ev
    have hy := hy.ex e5
    have hl := hl.ex e5
    have hb := dp_ex (e4.trans e5) hb
    have hd5 := (e4.trans e5) _ _ hd
    refine sxWhen (c0 := bestC u kvs x st) ?_ (fun hc H6 e6 => ?_) fun hc H6 e6 => sxNil ?_
    · obtain ⟨sp, sl⟩ := st
      cases sl with
      | none =>
        exact WX.tx (wOr (c' := true) (ttIsNone (xV 3 rfl .non (pv 3))) fun z => by cases z)
      | some m =>
        exact WX.tx (wOr (ttIsNone (xV 3 rfl (.int m) (pv 3))) fun _ => wOr1 (ttLt (xV 6 rfl (.int _) (pv 6)) (xV 3 rfl (.int m) (pv 3))))
    · have hbs : bestS u kvs st x = (planP u kvs x, some (spanP u kvs x)) := by rw [bestS_eq, if_pos hc]
      have hy := hy.ex e6
      have hl := hl.ex e6
      refine sxPar (i := 2) (j := 3) (R1 := fun v H' => Dp K H' v (.tuple ((planP u kvs x).map dLap))) (R2 := fun v _ => v = .int (spanP u kvs x)) rfl scBestPlan.nd (EX.is (xTup (aStarL (EL.ex (lV 5 rfl rfl hl (pv 5))) (aCons (xTup (aCons (ET.ex (EY.et (yV 4 rfl hy (pv 4)))) (aCons xI aNil)) (by first | (rw [sizeLine_eq]; simp; done) | (rw [sizeLine_eq]; simp; omega) | assumption)) aNil)) (by first | (rw [sizeLine_eq]; simp; done) | (rw [sizeLine_eq]; simp; omega) | assumption)) (by unfold planP; rw [List.map_append]; rfl)) (ER.imp (xV 6 rfl (.int _) (pv 6)) fun v H' _ d => dp_int d) (fun _ _ _ e d => dp_ex e d) fun y1 y2 H7 e7 g1 g2 => sxNil (sxNil ?_)
      subst g2
      refine ⟨⟨dn ++ [x], y1, some v, some (.ref pl), some (.int (spanP u kvs x)), by rw [List.append_assoc]; exact hdn, ?_, ?_, (e6.trans e7) _ _ hd5, hS.trans (Sx.of ((e4.trans e5).trans (e6.trans e7)))⟩, Mx.of ((e4.trans e5).trans (e6.trans e7))⟩
      · rw [hfold, hbs]; rfl
      · rw [hfold, hbs]; exact g1
    · have hbs : bestS u kvs st x = st := by rw [bestS_eq, if_neg (by rw [hc]; decide)]
      refine ⟨⟨dn ++ [x], vb, some v, some (.ref pl), some (.int (spanP u kvs x)), by rw [List.append_assoc]; exact hdn, ?_, ?_, e6 _ _ hd5, hS.trans (Sx.of ((e4.trans e5).trans e6))⟩, Mx.of ((e4.trans e5).trans e6)⟩
      · rw [hfold, hbs]; rfl
      · rw [hfold, hbs]; exact dp_ex e6 hb
  · rintro σ' H' ⟨dn, vb, a4, a5, a6, hdn, rfl, hb, hd, hS⟩
    rw [List.append_nil] at hdn
    refine ⟨hd, SO.of ?_⟩
    have hb := dp_mt (mt_unlock (o := dKV kvs) hd) (show flatD (.tuple _) = true from flat_laps _) hb
    have hex : Ex H (upd H' pb (dKV kvs)) := fun b o e => by
      by_cases hbp : b = pb
      · subst hbp; rw [h2] at e; cases e; exact upd_same
      · rw [upd_ne hbp]; exact hS b o hbp e
    refine sxRet (xV 2 rfl hb (pv 2)) fun v H2 e2 d => k v H2 (hex.trans e2) (dpIs d ?_)
    unfold bestP
    rw [hdn]
end
end GX
end SGFn15
section SGM8
set_option linter.all false
set_option maxHeartbeats 1000000
/-! the best plan is a plan; plans in other sequences, parted; the counts -/
namespace GX
structure PlanI (u : Int) (kvs : List (Int × Int)) (ls : List Lap) : Prop where
  laps : ∀ l ∈ ls, isLapP u l = true
  cnt : ∀ s, cntL s ls = gv kvs s
theorem lap_of_reach {u : Int} {b t : List Int} (hu : 0 ≤ u) (h : Reach u b t) (hn : t ≠ []) : isLapP u (t, 1) = true := by
  have hp := h.pos
  have e2 : (t.all fun s => isIntP s 2 (some (u - 1))) = true := List.all_eq_true.mpr fun s hs => by
    have := hp s hs
    unfold isIntP
    simp
    omega
  unfold isLapP
  dsimp only
  rw [e2, decide_eq_true hn, decide_eq_true (h.sum hu), decide_eq_true h.desc]
  rfl
theorem best_ok {u : Int} {kvs : List (Int × Int)} (hk : KOk u kvs) : PlanI u kvs (bestP u kvs) ∧ lastOne (bestP u kvs) = true ∧ (bestP u kvs).length ≤ 301 := by
  have hu := hk.uu
  rcases best_spec u kvs with ⟨h1, h2⟩ | ⟨t, h1, h2, h3⟩
  · rw [h2]
    refine ⟨⟨by simp, fun s => ?_⟩, rfl, by simp⟩
    have h0 := hk.gv0 s
    by_cases hs : 0 < gv kvs s
    · exfalso
      have hr := hk.pos hs
      have ho : okc u (bxK kvs).l ([] ++ [s]) s = true := by
        unfold okc
        rw [bxK_at hk hr.1 hr.2]
        have e : [] ++ [s] = desc ([] ++ [s]) := desc_of (List.Perm.refl _) (by simp)
        rw [decide_eq_true e]
        simp
        omega
      have := (cont_iff hk ([] ++ [s])).mpr ⟨.more .nil hr.1 hr.2 ho, by simp⟩
      rw [h1] at this
      cases this
    · show (0 : Int) = _
      omega
  · obtain ⟨g1, g2⟩ := (cont_iff hk t).mp h1
    have hkw := without_ok hk (g1.few hk)
    obtain ⟨f1, f2⟩ := fewest_ok hkw
    rw [h2]
    unfold planP
    refine ⟨⟨fun l hl => ?_, fun s => ?_⟩, ?_, ?_⟩
    · rcases List.mem_append.mp hl with hl | hl
      · exact f1 l hl
      · rw [List.mem_singleton.mp hl]; exact lap_of_reach (by omega) g1 g2
    · rw [cntL_app, f2, without_gv hk (g1.few hk)]
      show _ + (1 * _ + 0) = _
      dsimp only
      omega
    · unfold lastOne
      rw [List.getLast?_concat]
      rfl
    · obtain ⟨o4, h4, e⟩ := fewest_four u (withoutP kvs t)
      have := packedP_len (u := u) (kvs := withoutP kvs t) (o4 := o4) (by
        have h := congrArg List.length (desc_keys hkw)
        rw [ord_len, List.length_map] at h
        rw [h]
        exact Nat.le_trans (List.length_filter_le _ _) (by decide)) (by rcases h4 with rfl | rfl <;> decide)
      rw [List.length_append, e, List.length_singleton]
      omega
theorem PlanI.law {u : Int} {kvs : List (Int × Int)} (hk : KOk u kvs) {ls : List Lap} (h : PlanI u kvs ls) (hl : lastOne ls = true) : lawPlanP u (bxK kvs) ls = true := by
  unfold lawPlanP
  rw [List.all_eq_true.mpr h.laps, hl, decide_eq_true ((lawVec_iff hk h.laps).mpr h.cnt)]
  rfl
/-- what shows_plan tells -/
def showsP (u : Int) (kvs : List (Int × Int)) (singles : Int) (ls : List Lap) : Bool := isPlanP u kvs ls && decide (max 0 (wasteP u ls - singles) = max 0 (wasteP u (bestP u kvs) - singles))
theorem shows_of {u : Int} {kvs : List (Int × Int)} (hk : KOk u kvs) (hp : ∀ p ∈ kvs, 0 < p.2) {singles : Int} {ls : List Lap} (h : PlanI u kvs ls) (hl : lastOne ls = true) (hw : wasteP u ls = wasteP u (bestP u kvs)) : showsP u kvs singles ls = true := by
  unfold showsP
  rw [plan_eq hk hp, h.law hk hl, hw]
  simp
/-! other sequences, parted laps -/
def wsum (u : Int) (ls : List Lap) : Int := (ls.map fun l : Lap => l.2 * (u - l.1.sum)).sum
theorem wasteP_app (u : Int) (A : List Lap) (x : Lap) : wasteP u (A ++ [x]) = wsum u A := by
  unfold wasteP wsum
  rw [List.dropLast_concat]
theorem lastOne_app (A : List Lap) (x : Lap) : lastOne (A ++ [x]) = decide (x.2 = 1) := by
  unfold lastOne
  rw [List.getLast?_concat]
theorem perm_sum {a b : List Int} (h : a.Perm b) : a.sum = b.sum := by
  induction h with
  | nil => rfl
  | cons x _ ih => rw [List.sum_cons, List.sum_cons, ih]
  | swap x y l => simp only [List.sum_cons]; omega
  | trans _ _ h1 h2 => rw [h1, h2]
theorem cntL_perm {s : Int} {a b : List Lap} (h : a.Perm b) : cntL s a = cntL s b := by
  unfold cntL
  exact perm_sum (h.map _)
theorem wsum_perm {u : Int} {a b : List Lap} (h : a.Perm b) : wsum u a = wsum u b := by
  unfold wsum
  exact perm_sum (h.map _)
/-- each lap in two -/
def partL (l : Lap) : List Lap := (l.1, l.2 - l.2 / 2) :: if 1 < l.2 then [(l.1, l.2 / 2)] else []
def partsL (ls : List Lap) : List Lap := ls.flatMap partL
theorem cntL_cons (s : Int) (l : Lap) (ls : List Lap) : cntL s (l :: ls) = l.2 * ((l.1.count s : Nat) : Int) + cntL s ls := rfl
theorem half {n : Int} (h : ¬ 1 < n) (h1 : 1 ≤ n) : n / 2 = 0 := by omega
theorem parts_ok {u : Int} : ∀ (ls : List Lap), (∀ l ∈ ls, isLapP u l = true) → (∀ l ∈ partsL ls, isLapP u l = true) ∧ (∀ s, cntL s (partsL ls) = cntL s ls) ∧ wsum u (partsL ls) = wsum u ls
  | [], _ => ⟨by simp [partsL], fun s => rfl, rfl⟩
  | l :: ls, h => by
    obtain ⟨h1, h2, h3⟩ := parts_ok ls fun x hx => h x (by simp [hx])
    have hl := h l (by simp)
    have hn := isLap_num hl
    have part : ∀ n : Int, 1 ≤ n → isLapP u (l.1, n) = true := fun n hn => by
      unfold isLapP at hl ⊢
      simp only [Bool.and_eq_true, decide_eq_true_eq] at hl ⊢
      exact ⟨⟨⟨⟨hn, hl.1.1.1.2⟩, hl.1.1.2⟩, hl.1.2⟩, hl.2⟩
    have e : partsL (l :: ls) = partL l ++ partsL ls := rfl
    rw [e]
    refine ⟨fun x hx => ?_, fun s => ?_, ?_⟩
    · rcases List.mem_append.mp hx with hx | hx
      · unfold partL at hx
        rcases List.mem_cons.mp hx with hx | hx
        · rw [hx]; exact part _ (by omega)
        · split at hx
          · rw [List.mem_singleton.mp hx]; exact part _ (by omega)
          · cases hx
      · exact h1 x hx
    · rw [cntL_app, h2, cntL_cons]
      unfold partL
      split
      · show (l.2 - l.2 / 2) * ((l.1.count s : Nat) : Int) + (l.2 / 2 * ((l.1.count s : Nat) : Int) + 0) + _ = _
        rw [Int.sub_mul]
        omega
      · rename_i hh
        show (l.2 - l.2 / 2) * ((l.1.count s : Nat) : Int) + 0 + _ = _
        rw [half hh hn]
        simp
    · have : ∀ a b : List Lap, wsum u (a ++ b) = wsum u a + wsum u b := fun a b => by unfold wsum; rw [List.map_append, List.sum_append]
      rw [this, h3]
      show _ = l.2 * (u - l.1.sum) + wsum u ls
      unfold partL
      split
      · show (l.2 - l.2 / 2) * (u - l.1.sum) + (l.2 / 2 * (u - l.1.sum) + 0) + _ = _
        rw [Int.sub_mul]
        omega
      · rename_i hh
        show (l.2 - l.2 / 2) * (u - l.1.sum) + 0 + _ = _
        rw [half hh hn]
        simp
theorem parts_len (ls : List Lap) : (partsL ls).length ≤ 2 * ls.length := by
  induction ls with
  | nil => simp [partsL]
  | cons l ls ih =>
    have e : partsL (l :: ls) = partL l ++ partsL ls := rfl
    rw [e, List.length_append, List.length_cons]
    have : (partL l).length ≤ 2 := by unfold partL; split <;> simp
    omega
/-- laps in another sequence, the last as it was -/
theorem shows_seq {u : Int} {kvs : List (Int × Int)} (hk : KOk u kvs) (hp : ∀ p ∈ kvs, 0 < p.2) {singles : Int} {A B : List Lap} {x : Lap} (hb : bestP u kvs = A ++ [x]) (hB : ∃ C, B.Perm C ∧ (∀ l ∈ C, isLapP u l = true) ∧ (∀ s, cntL s C = cntL s A) ∧ wsum u C = wsum u A) : showsP u kvs singles (B ++ [x]) = true := by
  obtain ⟨h1, h2, _⟩ := best_ok hk
  obtain ⟨C, c1, c2, c3, c4⟩ := hB
  refine shows_of hk hp ⟨fun l hl => ?_, fun s => ?_⟩ ?_ ?_
  · rcases List.mem_append.mp hl with hl | hl
    · exact c2 l (c1.mem_iff.mp hl)
    · rw [List.mem_singleton.mp hl]; exact h1.laps x (by rw [hb]; simp)
  · rw [← h1.cnt s, hb, cntL_app, cntL_app, cntL_perm c1, c3]
  · rw [hb, lastOne_app] at h2
    rw [lastOne_app]; exact h2
  · rw [hb, wasteP_app, wasteP_app, wsum_perm c1, c4]
end GX
end SGM8
section SGM9
set_option linter.all false
set_option maxHeartbeats 1000000
/-! the counts that the law makes -/
namespace GX
structure CsOk (u c : Int) (cs : List (Int × Int)) : Prop where
  r : OkR u c cs
  k : KOk u (boxesP u c cs)
  pos : ∀ p ∈ boxesP u c cs, 0 < p.2
  bx : bxP u c cs = bxK (boxesP u c cs)
  le : ∀ s, gv (boxesP u c cs) s ≤ 10 ^ 18
  w : ∀ p ∈ cs, 0 ≤ p.1 ∧ p.1 ≤ 1000 ∧ 1 ≤ p.2 ∧ p.2 ≤ 10 ^ 18
theorem step_box {u c s : Int} (h2 : 2 ≤ s) (hu : s < u) : stepP u c (u * c - u + s) = (false, s) := by
  unfold stepP
  rw [if_neg (by omega)]
  exact congrArg (Prod.mk false) (by omega)
theorem step_one {u c : Int} (hu : 2 ≤ u) (hc : u ≤ u * c) : stepP u c 1 = (true, 1) := by
  unfold stepP
  rw [if_pos (by omega), Int.emod_eq_of_lt (by decide) (by omega)]
theorem step_all' {u c : Int} (hu : 2 ≤ u) : stepP u c (u * c) = (false, u) := by
  unfold stepP
  rw [if_neg (by omega)]
  exact congrArg (Prod.mk false) (by omega)
/-- the boxes that a list of numbers makes -/
theorem put_all : ∀ (N m : List (Int × Int)), (N.Pairwise fun p q => p.1 < q.1) → (∀ p ∈ N, p.1 ∉ m.map (·.1)) → N.foldl (fun m p => putI m p.1 p.2) m = m ++ N
  | [], m, _, _ => by simp
  | p :: N, m, h, hm => by
    obtain ⟨h1, h2⟩ := List.pairwise_cons.mp h
    rw [List.foldl_cons, putI_new (hm p (by simp)), put_all N _ h2, List.append_assoc]
    · rfl
    · intro q hq
      rw [List.map_append, List.mem_append]
      rintro (z | z)
      · exact hm q (by simp [hq]) z
      · rw [List.map_singleton, List.mem_singleton] at z
        have := h1 q hq
        omega
def isBoxF (u c : Int) (N : List (Int × Int)) : Prop := ∀ p ∈ N, 2 ≤ p.1 ∧ p.1 < u
theorem isBox_shift {u c : Int} {p : Int × Int} (h : 2 ≤ p.1 ∧ p.1 < u) : isBox u c (shiftP (u * c - u) p) = true := by
  unfold isBox shiftP
  rw [step_box h.1 h.2]
  simp
  exact h.2
theorem boxes_far {u c f : Int} {N : List (Int × Int)} (hu : 2 ≤ u) (hc : u ≤ u * c) (hN : ∀ p ∈ N, 2 ≤ p.1 ∧ p.1 < u) (ha : N.Pairwise fun p q => p.1 < q.1) : boxesP u c ((if 0 < f then [(1, f)] else []) ++ N.map (shiftP (u * c - u))) = N := by
  unfold boxesP
  have e1 : ((if 0 < f then [((1 : Int), f)] else []).filter (isBox u c)) = [] := by
    split
    · rw [List.filter_cons]
      have : isBox u c (1, f) = false := by unfold isBox; rw [step_one hu hc]; rfl
      rw [this]
      rfl
    · rfl
  have e2 : (N.map (shiftP (u * c - u))).filter (isBox u c) = N.map (shiftP (u * c - u)) := List.filter_eq_self.mpr fun p hp => by
    obtain ⟨q, hq, rfl⟩ := List.mem_map.mp hp
    exact isBox_shift (hN q hq)
  rw [List.filter_append, e1, e2, List.nil_append, List.foldl_map]
  have e3 : ∀ (M m : List (Int × Int)), (∀ p ∈ M, 2 ≤ p.1 ∧ p.1 < u) → M.foldl (fun m p => putI m (stepP u c (shiftP (u * c - u) p).1).2 (shiftP (u * c - u) p).2) m = M.foldl (fun m p => putI m p.1 p.2) m := fun M => by
    induction M with
    | nil => intro m _; rfl
    | cons p M ih =>
      intro m h
      rw [List.foldl_cons, List.foldl_cons]
      have e : (stepP u c (shiftP (u * c - u) p).1).2 = p.1 := by
        show (stepP u c (u * c - u + p.1)).2 = p.1
        rw [step_box (h p (by simp)).1 (h p (by simp)).2]
      rw [e]
      exact ih _ fun x hx => h x (by simp [hx])
  rw [e3 N [] hN, put_all N [] ha (by simp)]
  rfl
theorem asc_nodup {N : List (Int × Int)} (ha : N.Pairwise fun p q => p.1 < q.1) : (N.map (·.1)).Nodup := List.pairwise_map.mpr (ha.imp fun h => by show _ ≠ _; omega)
/-- the law's numbers of the boxes -/
theorem vec_far {u c : Int} (hu8 : u ≤ 8) : ∀ (N : List (Int × Int)) (v : List Int), v.length = 9 → (∀ p ∈ N, 2 ≤ p.1 ∧ p.1 < u) → (N.map (·.1)).Nodup → ∀ i : Nat, i < 9 →
    ((N.map (shiftP (u * c - u))).foldl (fun v p => if isBox u c p = true then addV v (stepP u c p.1).2 p.2 else v) v).getD i 0 = v.getD i 0 + gv N i
  | [], v, _, _, _, i, _ => by simp [gv, getI]
  | p :: N, v, hv, hN, hnd, i, hi => by
    have h1 := hN p (by simp)
    rw [List.map_cons, List.nodup_cons] at hnd
    rw [List.map_cons, List.foldl_cons, if_pos (isBox_shift h1)]
    have e : (stepP u c (shiftP (u * c - u) p).1).2 = p.1 := by
      show (stepP u c (u * c - u + p.1)).2 = p.1
      rw [step_box h1.1 h1.2]
    rw [e, vec_far hu8 N _ (by rw [addV_len]; exact hv) (fun x hx => hN x (by simp [hx])) hnd.2 i hi, addV_get (by omega) (by omega)]
    have e2 : gv (p :: N) i = if (i : Int) = p.1 then p.2 else gv N i := by
      unfold gv getI
      rw [List.find?_cons]
      by_cases h : p.1 = (i : Int)
      · rw [decide_eq_true h, if_pos h.symm]; rfl
      · rw [decide_eq_false h, if_neg fun z => h z.symm]
    rw [e2]
    by_cases h : (i : Int) = p.1
    · rw [if_pos h, if_pos h]
      have : gv N i = 0 := gv_absent (by rw [h]; exact hnd.1)
      show _ + p.2 + _ = _
      omega
    · rw [if_neg h, if_neg h]
      omega
theorem zero9 (i : Nat) : (List.replicate 9 (0 : Int)).getD i 0 = 0 := by
  rw [List.getD_eq_getElem?_getD, List.getElem?_replicate]
  split <;> rfl
theorem kok_far {u : Int} {N : List (Int × Int)} (hu : u = 8 ∨ u = 4) (hN : FarN (u - 2).toNat N) : KOk u N ∧ (∀ p ∈ N, 0 < p.2) ∧ ∀ s, gv N s ≤ 10 ^ 18 := by
  refine ⟨⟨hu, asc_nodup hN.asc, fun p hp => ?_⟩, fun p hp => ?_, fun s => ?_⟩
  · have := hN.ok p hp; omega
  · have := hN.ok p hp; omega
  · unfold gv
    cases q : getI N s with
    | none => decide
    | some v =>
      have := hN.ok _ (getI_mem q)
      exact this.2.2.2
theorem bx_ext {v : List Int} {N : List (Int × Int)} (h : ∀ i : Nat, i < 9 → v.getD i 0 = gv N i) (h0 : gv N 0 = 0) (h1 : gv N 1 = 0) (h8 : gv N 8 = 0) : Bx.of v = bxK N := by
  have e0 := h 0 (by decide)
  have e1 := h 1 (by decide)
  have e2 := h 2 (by decide)
  have e3 := h 3 (by decide)
  have e4 := h 4 (by decide)
  have e5 := h 5 (by decide)
  have e6 := h 6 (by decide)
  have e7 := h 7 (by decide)
  have e8 := h 8 (by decide)
  unfold Bx.of bxK
  rw [e0, e1, e2, e3, e4, e5, e6, e7, e8]
  show Bx.mk (gv N 0) (gv N 1) _ _ _ _ _ _ (gv N 8) = _
  rw [h0, h1, h8]
  rfl
theorem far_ok {u c : Int} {cs : List (Int × Int)} (hu : u = 8 ∨ u = 4) (hc : 2 ≤ c) (hc16 : c ≤ 16) (h : FarOk u c cs) : CsOk u c cs := by
  have hu2 : 2 ≤ u ∧ u ≤ 8 := by omega
  have huc : 2 * u ≤ u * c ∧ u * c ≤ 1000 := by rcases hu with rfl | rfl <;> omega
  rcases h with ⟨N, f, hN, hf0, hf1, rfl⟩ | ⟨b, hb1, hb2, rfl⟩
  · have hNu : ∀ p ∈ N, 2 ≤ p.1 ∧ p.1 < u := fun p hp => by have := hN.ok p hp; omega
    have hbx := boxes_far (c := c) (f := f) hu2.1 (by omega) hNu hN.asc
    obtain ⟨k1, k2, k3⟩ := kok_far hu hN
    refine ⟨⟨by omega, by omega, ?_, ?_, ?_⟩, by rw [hbx]; exact k1, by rw [hbx]; exact k2, ?_, by rw [hbx]; exact k3, ?_⟩
    · have := hN.len
      rw [List.length_append, List.length_map]
      split <;> simp <;> omega
    · intro p hp hfree
      rcases List.mem_append.mp hp with hp | hp
      · split at hp
        · rw [List.mem_singleton.mp hp]
          dsimp only
          rw [step_one (c := c) hu2.1 (by omega)]
          decide
        · cases hp
      · obtain ⟨q, hq, rfl⟩ := List.mem_map.mp hp
        have e : stepP u c (shiftP (u * c - u) q).1 = (false, q.1) := step_box (hNu q hq).1 (hNu q hq).2
        rw [e] at hfree
        cases hfree
    · rw [hbx]
      intro p hp
      have := hNu p hp
      omega
    · rw [hbx]
      unfold bxP vecP
      rw [List.foldl_append]
      have e1 : (if 0 < f then [((1 : Int), f)] else []).foldl (fun v p => if isBox u c p = true then addV v (stepP u c p.1).2 p.2 else v) (List.replicate 9 0) = List.replicate 9 0 := by
        split
        · have : isBox u c (1, f) = false := by unfold isBox; rw [step_one (c := c) hu2.1 (by omega)]; rfl
          rw [List.foldl_cons, this]
          rfl
        · rfl
      rw [e1]
      have z : ∀ s : Int, s < 2 ∨ u ≤ s → gv N s = 0 := fun s hs => by
        have h0 := k1.gv0 s
        by_cases hp : 0 < gv N s
        · have := k1.pos hp; omega
        · omega
      refine bx_ext (fun i hi => ?_) (z 0 (by omega)) (z 1 (by omega)) (z 8 (by omega))
      rw [vec_far hu2.2 N _ (by rfl) hNu (asc_nodup hN.asc) i hi, zero9]
      omega
    · intro p hp
      rcases List.mem_append.mp hp with hp | hp
      · split at hp
        · rw [List.mem_singleton.mp hp]
          dsimp only
          omega
        · cases hp
      · obtain ⟨q, hq, rfl⟩ := List.mem_map.mp hp
        have := hN.ok q hq
        unfold shiftP
        dsimp only
        omega
  · have e : boxesP u c [(u * c, b)] = [] := by
      unfold boxesP
      have : isBox u c (u * c, b) = false := by unfold isBox; rw [step_all' hu2.1]; simp
      rw [List.filter_cons, this]
      rfl
    refine ⟨⟨by omega, by omega, by simp, ?_, by rw [e]; simp⟩, by rw [e]; exact ⟨hu, by simp, by simp⟩, by rw [e]; simp, ?_, by rw [e]; intro s; simp [gv, getI], ?_⟩
    · intro p hp hfree
      rw [List.mem_singleton.mp hp] at hfree
      dsimp only at hfree
      rw [step_all' hu2.1] at hfree
      cases hfree
    · rw [e]
      have : isBox u c (u * c, b) = false := by unfold isBox; rw [step_all' hu2.1]; simp
      unfold bxP vecP
      rw [List.foldl_cons, this]
      rfl
    · intro p hp
      rw [List.mem_singleton.mp hp]
      dsimp only
      omega
/-- doubled numbers -/
def dblP (p : Int × Int) : Int × Int := (p.1, min (10 ^ 18) (2 * p.2))
theorem far_dbl {u c : Int} {cs : List (Int × Int)} (hu : u = 8 ∨ u = 4) (hc : 2 ≤ c) (h : FarOk u c cs) : FarOk u c (cs.map dblP) ∧ ∀ s, gv (boxesP u c (cs.map dblP)) s ≤ 2 * gv (boxesP u c cs) s := by
  have hu2 : 2 ≤ u ∧ u ≤ 8 := by omega
  have huc : 2 * u ≤ u * c := by rcases hu with rfl | rfl <;> omega
  rcases h with ⟨N, f, hN, hf0, hf1, rfl⟩ | ⟨b, hb1, hb2, rfl⟩
  · have hN2 : FarN (u - 2).toNat (N.map dblP) := by
      refine ⟨List.pairwise_map.mpr (hN.asc.imp fun h => h), fun p hp => ?_⟩
      obtain ⟨q, hq, rfl⟩ := List.mem_map.mp hp
      have := hN.ok q hq
      unfold dblP
      dsimp only
      omega
    have e : ((if 0 < f then [((1 : Int), f)] else []) ++ N.map (shiftP (u * c - u))).map dblP = (if 0 < min (10 ^ 18) (2 * f) then [(1, min (10 ^ 18) (2 * f))] else []) ++ (N.map dblP).map (shiftP (u * c - u)) := by
      rw [List.map_append, List.map_map, List.map_map]
      congr 1
      by_cases h : 0 < f
      · rw [if_pos h, if_pos (by omega)]; rfl
      · rw [if_neg h, if_neg (by omega)]; rfl
    rw [e]
    refine ⟨.inl ⟨_, _, hN2, by omega, by omega, rfl⟩, fun s => ?_⟩
    have hNu : ∀ p ∈ N, 2 ≤ p.1 ∧ p.1 < u := fun p hp => by have := hN.ok p hp; omega
    have hNu2 : ∀ p ∈ N.map dblP, 2 ≤ p.1 ∧ p.1 < u := fun p hp => by have := hN2.ok p hp; omega
    rw [boxes_far hu2.1 (by omega) hNu hN.asc, boxes_far hu2.1 (by omega) hNu2 hN2.asc]
    have hg : ∀ M : List (Int × Int), gv (M.map dblP) s = (getI M s).elim 0 fun v => min (10 ^ 18) (2 * v) := fun M => by
      induction M with
      | nil => rfl
      | cons p M ih =>
        unfold gv getI at ih ⊢
        rw [List.map_cons, List.find?_cons, List.find?_cons]
        by_cases h : p.1 = s
        · have h' : (dblP p).1 = s := h
          rw [decide_eq_true h, decide_eq_true h']
          rfl
        · have h' : ¬ (dblP p).1 = s := h
          rw [decide_eq_false h, decide_eq_false h']
          exact ih
    rw [hg N]
    unfold gv
    cases q : getI N s with
    | none => decide
    | some v =>
      have := hN.ok _ (getI_mem q)
      show min (10 ^ 18) (2 * v) ≤ 2 * v
      omega
  · refine ⟨.inr ⟨min (10 ^ 18) (2 * b), by omega, by omega, rfl⟩, fun s => ?_⟩
    have e : ∀ x, boxesP u c [(u * c, x)] = [] := fun x => by
      unfold boxesP
      have : isBox u c (u * c, x) = false := by unfold isBox; rw [step_all' hu2.1]; simp
      rw [List.filter_cons, this]
      rfl
    show gv (boxesP u c [(u * c, min (10 ^ 18) (2 * b))]) s ≤ _
    rw [e, e]
    simp [gv, getI]
end GX
end SGM9
section SGFn16
set_option linter.all false
set_option maxRecDepth 100000
set_option maxHeartbeats 1000000
/-! least_waste, least_length_of, lap_plan, shows_plan -/
namespace GX
open PySem PySem.Spec PyProof.Rows L2
open Evl StX OL
theorem lap_sum {u : Int} {l : Lap} (h : isLapP u l = true) : 0 ≤ l.1.sum ∧ l.1.sum ≤ u ∧ l.1.length ≤ u := by
  have h1 := sum_ge fun s hs => (isLap_size h s hs).1
  unfold isLapP at h
  simp only [Bool.and_eq_true, decide_eq_true_eq] at h
  have := h.2
  omega
section
variable {X : Cx} {σ : L2.St} {H : Hp} {a b c : Expr} {rest : List Stmt} {D : Ends} {pos : Pos} {q1 q2 q3 : Dv}
/-- x, y, z = a, b, c -/
theorem sxPar3 {i j l : Nat} {x y z : Str} {px py pz pt pt2 : Pos} {kt k2} (hc : X.calm = true) (hN : X.N.Nodup) (ha : AQ X σ H [a, b, c] [q1, q2, q3]) (k : ∀ v1 v2 v3 H2, Ex H H2 → Dq X.K H2 v1 q1 → Dq X.K H2 v2 q2 → Dq X.K H2 v3 q3 → SX X (((σ.set i (some v1)).set j (some v2)).set l (some v3)) H2 rest D) (hij : i ≠ j := by decide) (hil : i ≠ l := by decide) (hjl : j ≠ l := by decide)
    (hi : X.N[i]? = some x := by rfl) (hj : X.N[j]? = some y := by rfl) (hl : X.N[l]? = some z := by rfl) (hx : X.env.scope.names.lookup x = some .local := by rfl) (hy : X.env.scope.names.lookup y = some .local := by rfl) (hz : X.env.scope.names.lookup z = some .local := by rfl)
    (hw : swappedStores [.Tuple [.Name x px, .Name y py, .Name z pz] kt pt] (.Tuple [a, b, c] k2 pt2) X.env = pure (some [x, y, z]) := by rfl) (hs : swapsWithSole [.Tuple [.Name x px, .Name y py, .Name z pz] kt pt] (.Tuple [a, b, c] k2 pt2) pos.line X.env = pure false := by rfl) :
    SX X σ H (.Assign [.Tuple [.Name x px, .Name y py, .Name z pz] kt pt] (.Tuple [a, b, c] k2 pt2) pos :: rest) D :=
  sxOf (ps_par3 hc hN hi hj hl hij hil hjl hx hy hz ha hw hs) ⟨rfl, Ex.refl _, fun vs H2 e2 h => by
    obtain ⟨v1, v2, v3, rfl, h1, h2, h3⟩ := h.three
    exact ⟨v1, v2, v3, rfl, k v1 v2 v3 H2 e2 h1 h2 h3⟩⟩
end
section
variable {P : Program} {w : World} {K : PySem.W.Frag} {mg : Str → Option Value} {base : Heap}
inductive preLeastWaste : List Dv → Dv → Prop
  | mk (u c : Int) (cs : List (Int × Int)) : CsOk u c cs → preLeastWaste [.dat (dPr u c), .dat (.tuple (cs.map dPp))] (.dat (.int (wasteP u (bestP u (boxesP u c cs)))))
theorem wasteOk {u : Int} {kvs : List (Int × Int)} (hk : KOk u kvs) : preWasteOf [.dat (.int u), .dat (.tuple ((bestP u kvs).map dLap))] (.dat (.int (wasteP u (bestP u kvs)))) := by
  have hu := hk.uu
  obtain ⟨h1, _, h3⟩ := best_ok hk
  exact .mk u _ (by omega) (by omega) (by omega) fun l hl => by have := lap_sum (h1.laps l hl); omega
theorem clX_least_waste (cX_best_plan : ClX P w K mg base 22 "best_plan" 2 (SpD K preBest)) (c_waste_of : Cl P w K mg base 1 "waste_of" 2 (SpD K preWasteOf)) (c_boxes_in : Cl P w K mg base 5 "boxes_in" 2 (SpD K preBoxesIn)) (F : Df K mg "least_waste" sLeastWaste pLeastWaste) : ClX P w K mg base 23 "least_waste" 2 (SpD K preLeastWaste) := by
  refine clDX F scLeastWaste (fun qs r h => by cases h; rfl) rfl fun f cdv A outer s H vs qs r Q E hr hp hq k => ?_
  obtain ⟨u, c, cs, ok⟩ := hp
  obtain ⟨v1, v2, rfl, h1, h2⟩ := hq.two
  have hu := ok.k.uu
  refine soRet (roCl (ClX.of c_waste_of) hr (aoCons (q := .dat (.int u)) (RO.of (xIxA (xV 0 rfl h1 (pv 0)) xI)) (aoCons (q := .dat (.tuple ((bestP u (boxesP u c cs)).map dLap))) (roCl cX_best_plan hr (aoCons (q := .dat (.int u)) (RO.of (xIxA (xV 0 rfl h1 (pv 0)) xI)) (aoCons (q := .new (boxesP u c cs)) (RO.of (xCl c_boxes_in hr (aqCons (EX.toQ (xV 0 rfl h1 (pv 0))) (aqCons (EX.toQ (xV 1 rfl h2 (pv 1))) aqNil)) (.mk u c cs ok.r.u0 ok.r.u1 (by have := ok.r.len; omega) ok.r.ok))) aoNil)) (.mk u _ ok.k)) aoNil)) (wasteOk ok.k)) fun v H2 e2 d => k v H2 e2 d
inductive preLapPlan : List Dv → Dv → Prop
  | mk (u c : Int) (cs : List (Int × Int)) : CsOk u c cs → preLapPlan [.dat (dPr u c), .dat (.tuple (cs.map dPp))] (.dat (.tuple ((bestP u (boxesP u c cs)).map dLap)))
theorem clX_lap_plan (cX_best_plan : ClX P w K mg base 22 "best_plan" 2 (SpD K preBest)) (c_boxes_in : Cl P w K mg base 5 "boxes_in" 2 (SpD K preBoxesIn)) (F : Df K mg "lap_plan" sLapPlan pLapPlan) : ClX P w K mg base 23 "lap_plan" 2 (SpD K preLapPlan) := by
  refine clDX F scLapPlan (fun qs r h => by cases h; rfl) rfl fun f cdv A outer s H vs qs r Q E hr hp hq k => ?_
  obtain ⟨u, c, cs, ok⟩ := hp
  obtain ⟨v1, v2, rfl, h1, h2⟩ := hq.two
  refine soRet (roCl cX_best_plan hr (aoCons (q := .dat (.int u)) (RO.of (xIxA (xV 0 rfl h1 (pv 0)) xI)) (aoCons (q := .new (boxesP u c cs)) (RO.of (xCl c_boxes_in hr (aqCons (EX.toQ (xV 0 rfl h1 (pv 0))) (aqCons (EX.toQ (xV 1 rfl h2 (pv 1))) aqNil)) (.mk u c cs ok.r.u0 ok.r.u1 (by have := ok.r.len; omega) ok.r.ok))) aoNil)) (.mk u _ ok.k)) fun v H2 e2 d => k v H2 e2 d
def lengthP (cs : List (Int × Int)) : Int := (cs.map fun p : Int × Int => p.1 * p.2).sum
inductive preLength : List Dv → Dv → Prop
  | mk (u c : Int) (cs : List (Int × Int)) : CsOk u c cs → preLength [.dat (dPr u c), .dat (.tuple (cs.map dPp))] (.dat (.int (lengthP cs + max 0 (wasteP u (bestP u (boxesP u c cs)) - singlesP u c cs))))
theorem clX_least_length_of (B : BM mg) (cX_least_waste : ClX P w K mg base 23 "least_waste" 2 (SpD K preLeastWaste)) (c_singles_in : Cl P w K mg base 5 "singles_in" 2 (SpD K preSinglesIn)) (F : Df K mg "least_length_of" sLeastLengthOf pLeastLengthOf) : ClX P w K mg base 24 "least_length_of" 2 (SpD K preLength) := by
  refine clDX F scLeastLengthOf (fun qs r h => by cases h; rfl) rfl fun f cdv A outer s H vs qs r Q E hr hp hq k => ?_
  obtain ⟨u, c, cs, ok⟩ := hp
  obtain ⟨v1, v2, rfl, h1, h2⟩ := hq.two
  refine soSet (i := 2) (roMax2 rfl rfl B.max (roInt xI) (roSub (roIntQ (roCl cX_least_waste hr (aoCons (q := .dat (dPr u c)) (RO.of (xV 0 rfl h1 (pv 0))) (aoCons (q := .dat (.tuple (cs.map dPp))) (RO.of (xV 1 rfl h2 (pv 1))) aoNil)) (.mk u c cs ok))) (roInt (xClD c_singles_in hr (aqCons (EX.toQ (xV 0 rfl h1 (pv 0))) (aqCons (EX.toQ (xV 1 rfl h2 (pv 1))) aqNil)) (.mk u c cs ok.r.u0 ok.r.u1 (by have := ok.r.len; omega) ok.r.ok))))) (fun v H2 e2 ev => SO.of ?_) scLeastLengthOf.nd
  subst ev
  have h1 := dp_ex e2 h1
  have h2 := dp_ex e2 h2
  refine sxRet (xAdd (xSumA (ns := cs.map fun p : Int × Int => p.1 * p.2) B.sum rfl rfl (EN.ex (nLcA (xs := cs) (Dd := dPp) (E := fun p => .int (p.1 * p.2)) (own := [("width", 3), ("number", 4)]) (g := gTup _ 2 (gCons (gName 3) (gCons (gName 4) gNil))) rfl scLeastLengthOf.nd (srT (xV 1 rfl h2 (pv 1))) (blkOk_by (N := nLeastLengthOf) (sc := defScope sLeastLengthOf) (by decide +kernel)) (fun _ _ _ _ _ => (pg_tup rfl (pgs_cons (pg_name scLeastLengthOf.nd (i := 3) rfl (by first | exact .inl rfl | exact .inr rfl)) (pgs_cons (pg_name scLeastLengthOf.nd (i := 4) rfl (by first | exact .inl rfl | exact .inr rfl)) pgs_nil)))) (by have := ok.r.len; rw [sizeLine_eq]; omega) (fun _ _ => rfl) (fun a ha v H2 e2 dv Q q => by
    have hb := ok.w a ha
    exact g2_run dv fun u_width u_number d_width d_number => q _ (by rfl) H2 (Ex.refl _) (fun _ _ _ _ _ => rfl) (fun hT _ _ _ _ _ => (xMul (xV 3 rfl d_width (pv 3)) (xV 4 rfl d_number (pv 4)) (by first | exact .inl ⟨by omega, by omega⟩ | exact .inr ⟨by omega, by omega⟩ | assumption)))))) (.inr (by rw [List.map_map]; rfl))) (xV 2 rfl (.int _) (pv 2))) fun v H3 e3 d => k v H3 (e2.trans e3) d
inductive preShows : List Dv → Dv → Prop
  | mk (u c : Int) (cs : List (Int × Int)) (ls : List Lap) : CsOk u c cs → PlanZ ls → preShows [.dat (dPr u c), .dat (.tuple (cs.map dPp)), .dat (.tuple (ls.map dLap))] (.dat (.bool (showsP u (boxesP u c cs) (singlesP u c cs) ls)))
theorem clX_shows_plan (B : BM mg) (cX_least_waste : ClX P w K mg base 23 "least_waste" 2 (SpD K preLeastWaste)) (c_singles_in : Cl P w K mg base 5 "singles_in" 2 (SpD K preSinglesIn)) (c_boxes_in : Cl P w K mg base 5 "boxes_in" 2 (SpD K preBoxesIn)) (c_is_plan : Cl P w K mg base 3 "is_plan" 3 (SpD K preIsPlan)) (c_waste_of : Cl P w K mg base 1 "waste_of" 2 (SpD K preWasteOf)) (F : Df K mg "shows_plan" sShowsPlan pShowsPlan) : ClX P w K mg base 24 "shows_plan" 3 (SpD K preShows) := by
  refine clDX F scShowsPlan (fun qs r h => by cases h; rfl) rfl fun f cdv A outer s H vs qs r Q E hr hp hq k => ?_
  obtain ⟨u, c, cs, ls, ok, hz⟩ := hp
  obtain ⟨v1, v2, v3, rfl, h1, h2, h3⟩ := hq.three
  have hu := ok.k.uu
  refine soOne (sxPar3 (i := 3) (j := 4) (l := 5) (q1 := .dat (.int u)) (q2 := .dic (boxesP u c cs)) (q3 := .dat (.int (singlesP u c cs))) rfl scShowsPlan.nd (aqCons (EX.toQ (xIxA (xV 0 rfl h1 (pv 0)) xI)) (aqCons (EQ.new (xCl c_boxes_in hr (aqCons (EX.toQ (xV 0 rfl h1 (pv 0))) (aqCons (EX.toQ (xV 1 rfl h2 (pv 1))) aqNil)) (.mk u c cs ok.r.u0 ok.r.u1 (by have := ok.r.len; omega) ok.r.ok))) (aqCons (EX.toQ (xClD c_singles_in hr (aqCons (EX.toQ (xV 0 rfl h1 (pv 0))) (aqCons (EX.toQ (xV 1 rfl h2 (pv 1))) aqNil)) (.mk u c cs ok.r.u0 ok.r.u1 (by have := ok.r.len; omega) ok.r.ok))) aqNil))) fun w1 w2 w3 H1 e1 d1 d2 d3 => sxNil ?_)
  obtain ⟨pb, rfl, hb⟩ := d2
  obtain rfl := dp_int d1
  obtain rfl := dp_int d3
  have h1 := dp_ex e1 h1
  have h2 := dp_ex e1 h2
  have h3 := dp_ex e1 h3
  refine soWhen (c0 := !isPlanP u (boxesP u c cs) ls) (TOX.of (tNotX (tBool (xClD c_is_plan hr (aqCons (EX.toQ (xV 3 rfl (.int u) (pv 3))) (aqCons (ED.toQ (dV 4 rfl rfl hb (pv 4))) (aqCons (EX.toQ (xV 2 rfl h3 (pv 2))) aqNil))) (.mk u _ ls hz))))) (fun hc H2 e2 => SO.of (sxRet xB fun v H3 e3 d => k v H3 (e1.trans (e2.trans e3)) (dpIs d ?_))) fun hc H2 e2 => ?_
  · rw [Bool.not_eq_true'] at hc
    unfold showsP
    rw [hc]
    rfl
  have hpl : isPlanP u (boxesP u c cs) ls = true := by simpa using hc
  have hlaps : ∀ l ∈ ls, isLapP u l = true := by
    unfold isPlanP at hpl
    rw [Bool.and_eq_true] at hpl
    exact List.all_eq_true.mp hpl.1
  have hb := ex_rd e2 hb
  have h1 := dp_ex e2 h1
  have h2 := dp_ex e2 h2
  have h3 := dp_ex e2 h3
  refine soRet (R := fun v H' => v = .bl (decide (max 0 (wasteP u ls - singlesP u c cs) = max 0 (wasteP u (bestP u (boxesP u c cs)) - singlesP u c cs)))) ?_ fun v H3 e3 ev => k v H3 (e1.trans (e2.trans e3)) ?_
  · refine .mk (cmpO (op_eqD hr.units) (RO.of (R := fun v _ => v = .int (max 0 (wasteP u ls - singlesP u c cs))) (ER.imp (xMax2 rfl rfl B.max xI (xSub (xClD c_waste_of hr (aqCons (EX.toQ (xV 3 rfl (.int u) (pv 3))) (aqCons (EX.toQ (xV 2 rfl h3 (pv 2))) aqNil)) (.mk u ls (by omega) (by omega) hz.1 fun l hl => by have := lap_sum (hlaps l hl); omega)) (xV 5 rfl (.int _) (pv 5)))) fun v H' _ d => dp_int d)) (roMax2 rfl rfl B.max (roInt xI) (roSub (roIntQ (roCl cX_least_waste hr (aoCons (q := .dat (dPr u c)) (RO.of (xV 0 rfl h1 (pv 0))) (aoCons (q := .dat (.tuple (cs.map dPp))) (RO.of (xV 1 rfl h2 (pv 1))) aoNil)) (.mk u c cs ok))) (roInt (xV 5 rfl (.int _) (pv 5))))) (nomark _)) fun H1 e1 Q q => ⟨rfl, e1, fun v H2 e2 ev => ⟨rfl, e1.trans e2, fun y H3 e3 ey => ?_⟩⟩
    subst ev ey
    exact ⟨.int _, .int _, .int _, .int _, rfl, rfl, q _ H3 (e2.trans e3) (by rw [eqv_int])⟩
  · subst ev
    refine dpIs (.bl _) ?_
    unfold showsP
    rw [hpl]
    rfl
end
end GX
end SGFn16
section SGSetL
set_option linter.all false
set_option maxRecDepth 100000
set_option maxHeartbeats 3200000
/-! set(l) of a list of intl; sorted(set(l)) -/
namespace GX
open PySem PySem.Spec PyProof.Rows L2
open Evl StX
/-- a set just made -/
abbrev newS (w : World) : Obj := { cls := .type "set", dict := none, data := .set #[] 0 (.fresh 0 0 (!w.params.followText "set-order")) }
section
variable {P : Program} {w : World} {A : Around} {E : Value → Shared → Prop} {s : Shared}
/-- set(l) calls set.__new__, then set.__init__ -/
theorem setL_call {l : Addr} {its : Array Value} (ns : List Int) {Q : Value → Shared → Prop} (quiet : A.handled = none) (isl : s.heap.IsList l its) (hin : IntsAre its.toList ns) (few : ns.length + 1 < scanBound)
    (fin : ∀ (h' : Heap) (tk c : Nat), SetR w h' s.heap.objs.size (fun j => decide (j ∈ ns)) c → c ≤ ns.length → (∀ b o, s.heap.get? b = some o → h'.get? b = some o) → Q (.ref s.heap.objs.size) { s with heap := h', toks := tk }) :
    wpAny (model P w) A (call (.type "set") [.ref l]) Q E s := by
  have size_ns : its.size = ns.length := by rw [← Array.length_toList]; exact IntsAre.length hin
  obtain ⟨_, _, mro⟩ := F.called_set.mro
  have made := F.called_set.made
  have sub := F.called_set.sub
  refine wpAny_call (codeAny_of_tree (?_ : wpAny _ _ (callAny (.type "set") _) _ _ _))
  refine wpAny_pure ⟨Code.quiet_builtin _ (by decide +kernel), codeAny_builtin F.entry_type_call ?_⟩
  rw [Around.under_plain (weight_type_call_type "set" [.ref l] []) rfl]
  have nt := F.called_set.notType
  have cc := F.called_set.canCreate
  have tc := F.typeCall_set_1 (.ref l)
  repeat (any_goals (first | assumption | wp_step))
  refine codeAny_mono (code_set_led1 (.ref l) (E := E) (Q₁ := fun ob t => ob = .ref s.heap.objs.size ∧ t = { s with heap := s.heap.push (newS w) }) ⟨rfl, rfl⟩) fun r t hr => ?_
  rcases r with e | fl
  · exact hr
  cases fl with
  | next => exact hr.elim
  | brk => exact hr.elim
  | cont => exact hr.elim
  | ret ob =>
    obtain ⟨rfl, rfl⟩ := hr
    have at0 : (s.heap.push (newS w)).get? s.heap.objs.size = some (newS w) := Heap.get?_push_size _ rfl
    have ty0 : Shared.TypeIs { s with heap := s.heap.push (newS w) } (.ref s.heap.objs.size) "set" := ⟨_, at0, rfl⟩
    have lk := F.called_set.init.lookup
    have bd := F.called_set.init.bind (.ref s.heap.objs.size)
    repeat (any_goals (first | assumption | wp_step))
    refine codeAny_mono (codeAny_call_builtin (R := wants (fun r t => r = .none ∧ ∃ h' tk c, t = { s with heap := h', toks := tk } ∧ SetR w h' s.heap.objs.size (fun j => decide (j ∈ ns)) c ∧ c ≤ ns.length ∧ ∀ b o, s.heap.get? b = some o → h'.get? b = some o) E) F.called_set.init.plain F.entry_set_init (check_set_init_1 ty0 ?_)) fun r t hr => ?_
    · obtain ⟨⟨kl, dl, al, sl⟩, ol, cl, nl, el⟩ := isl
      simp only at cl el
      subst cl el
      have ol0 : (s.heap.push (newS w)).get? l = some { cls := .type "list", dict := dl, data := .seq its nl, slots := sl } := Heap.get?_push_of_some _ ol
      have il0 : (s.heap.push (newS w)).IsList l its := ⟨_, ol0, rfl, nl, rfl⟩
      have sub1 := F.sub_list_set
      have sub2 := F.sub_list_frozenset
      have nd : (Value.type "list" == Value.type "dict") = false := by decide
      unfold Builtin.«set.__init__» noKeywords Builtin.Frozenset.updateFrom
      generalize itq : pyIter = PI
      wp_walk
      subst itq
      refine wpAny_pyIter_list il0 (wpAny_bind (wpAny_runValue ?_))
      have ltl : l < s.heap.objs.size := Heap.lt_size ol
      have quiet3 : A.in1.in1.in1.handled = none := by simp [quiet]
      have sz1 : (s.heap.push (newS w)).objs.size = s.heap.objs.size + 1 := Heap.size_push ..
      refine set_update_ints ((Walks.list quiet3 _ l (by rw [sz1]; exact Nat.ne_of_lt (Nat.lt_succ_of_lt ltl)) its).toS) s.heap.objs.size (by rw [sz1]; simp only [List.mem_cons, List.not_mem_nil, or_false, not_or]; exact ⟨Nat.ne_of_lt (Nat.lt_succ_self _), Nat.ne_of_gt ltl⟩) ns size_ns few (fun i v hv => ?_) (its.size - 0) 0 _ (by omega) (Nat.zero_le _) ⟨⟨_, Heap.get?_push_size _ rfl, rfl, rfl⟩, il0.push _⟩ ⟨0, Nat.le_refl 0, setR_new_at (Heap.get?_push_of_some _ at0)⟩ fun t' c' mv hc st => ?_
      · have hi : i < ns.length := by rw [← size_ns]; exact (Array.getElem?_eq_some_iff.mp hv).1
        obtain ⟨tk, e⟩ := PyProof.Rows.IntsAre.int_at hin i v (by rw [Array.getElem?_toList]; exact hv)
        refine ⟨ns[i], tk, List.getElem?_eq_getElem hi, ?_⟩
        rw [e, List.getD_eq_getElem?_getD, List.getElem?_eq_getElem hi] <;> rfl
      · obtain ⟨h', g', d', tk', os'⟩ := t'
        obtain rfl : g' = s.gens := mv.gens
        obtain rfl : d' = s.drawn := mv.drawn
        obtain rfl : os' = s.os := mv.os
        refine (wpAny_pure ?_ : wpAny _ _ _ _ _ _)
        show wpAny _ _ (ret Value.none) _ _ _
        refine wpAny_pure ⟨rfl, h', tk', c', rfl, st, by rw [← size_ns]; exact hc, fun b o e => ?_⟩
        have lb : b < s.heap.objs.size := Heap.lt_size e
        exact mv.heap b o (by rw [sz1]; simp only [List.mem_cons, List.not_mem_nil, or_false, not_or]; exact ⟨Nat.ne_of_lt lb, Nat.ne_of_lt (Nat.lt_succ_of_lt lb)⟩) (Heap.get?_push_of_some _ (Heap.get?_push_of_some _ e))
    · rcases r with e | fl
      · exact hr
      cases fl with
      | next => exact hr.elim
      | brk => exact hr.elim
      | cont => exact hr.elim
      | ret r =>
        obtain ⟨rfl, h', tk, c', rfl, st, hc, kp⟩ := hr
        repeat (any_goals (first | assumption | wp_step))
        exact fin _ _ _ st hc kp
end
section
variable {X : Cx} {σ : L2.St} {H : Hp} {e : Expr} {ns : List Int} {pos p p2 cpos : Pos}
/-- set(l), a set of intl -/
theorem cr_setL (hc : X.calm = true) : CallR X (.type "set") (fun vs H Q => ∃ (l : Addr) (ns : List Int), vs = [V.ref l] ∧ SqL X.K H l (ns.map V.int) ∧ ns.length ≤ 60 ∧ ∀ a n, n ≤ ns.length → H a = none → Q (.ref a) (upd H a (SetO X.w a (fun j => decide (j ∈ ns)) n))) := by
  intro pins s σ H vs us Q I r h
  obtain ⟨l, ns, rfl, hl, hz, q⟩ := h
  obtain rfl := Vals.ref1 r
  obtain ⟨its, rv, pl, _⟩ := I.list hl
  refine setL_call ns (I.ok.hd hc) pl.isList (by simpa using ints_of_vals rv) (by unfold scanBound; omega) fun h' tk c st hcn kp => ?_
  have hn : H s.heap.objs.size = none := I.hok.fresh (Nat.le_refl _)
  have I1 : Inv X pins σ H { s with heap := h', toks := tk } := I.kept (t' := tk) kp
  have I2 : Inv X pins σ (upd H s.heap.objs.size (SetO X.w s.heap.objs.size (fun j => decide (j ∈ ns)) c)) { s with heap := h', toks := tk } := I1.take (h' := h') (t' := tk) (fun b ob _ e => e) (I.fpOk (Nat.le_refl _) hn) (setO_new st)
  exact ⟨.ref _, _, I2, rfl, q _ c hcn hn⟩
/-- sorted(set(l)) -/
theorem nSortSet (hc : X.calm = true) (hg : Gl X "sorted") (hm : X.mg "sorted" = none) (hg2 : Gl X "set") (hm2 : X.mg "set" = none) (ha : EX X σ H e (.list (ns.map .int))) (hz : ns.length ≤ 60) (hs : starEach [e] X.env = (false, eval e X.env) :: starEach [] X.env := by rfl) (hs2 : starEach [.Call (.Name "set" p2) [e] [] cpos] X.env = (false, eval (.Call (.Name "set" p2) [e] [] cpos) X.env) :: starEach [] X.env := by rfl) :
    ER X σ H (.Call (.Name "sorted" p) [.Call (.Name "set" p2) [e] [] cpos] [] pos) fun v H' => ∃ (l : Addr) (ms : List Int), v = .ref l ∧ H l = none ∧ ms.length ≤ ns.length ∧ (∀ k, k ∈ ms ↔ k ∈ ns) ∧ LsAt X.K H' l (ms.map .int) :=
  .of (pe_callB (cr_sortedSet hc) hg hm PyProof.Rows.boot_sorted (pa_cons (pe_callTy (cr_setL hc) hg2 hm2 PyProof.Rows.boot_set (pa_cons ha pa_nil hs) (by decide) (by decide) hs (by rfl)) pa_nil hs2) (by decide) (by decide) hs2 (by rfl)) fun H1 e1 Q k => ⟨rfl, e1, fun v H2 e2 dv => by
    obtain ⟨l, us, rfl, hl, du⟩ := dp_lst dv
    obtain rfl := dpAll_ints du
    refine ⟨l, ns, rfl, hl, hz, fun a n hn ha' => ⟨a, _, n, rfl, upd_same, by omega, fun ms p h1 h2 h3 hp => k _ _ (e2.trans ((Ex.new ha').trans (Ex.new hp))) ⟨p, ms, rfl, fresh_back (e1.trans (e2.trans (Ex.new ha'))) hp, by omega, fun j => by rw [h2]; simp, _, upd_same, ints_dpAll ms⟩⟩⟩⟩
end
end GX
end SGSetL
section SGRX2
set_option linter.all false
set_option maxRecDepth 100000
set_option maxHeartbeats 1000000
/-! loops on the machine, by data -/
namespace GX
open PySem PySem.Spec PyProof.Rows L2
open Evl StX
theorem Sx.mxl {q : Addr} {H H' : Hp} {vs : List V} (e : Sx q H H') (hq : H q = some (.lst vs)) : Mx H H' := ⟨fun b xs hb => e b _ (fun z => by subst z; rw [hq] at hb; cases hb) hb, fun b o u hb => e b _ (fun z => by subst z; rw [hq] at hb; cases hb) hb⟩
section
variable {X : Cx} {σ : L2.St} {H : Hp} {e a b c it tg : Expr} {R R' R1 R2 R3 : V → Hp → Prop} {d : PyData} {st : Stmt} {rest body : List Stmt} {D : Ends} {pos p p2 : Pos} {i j : Int} {g : TG}
/-- an if without else, both ways on, whatever the names hold -/
theorem sxWhenS {c0 : Bool} (W : L2.St → Hp → Prop) (ht : TX X σ H c c0) (h1 : c0 = true → ∀ H2, Ex H H2 → ∀ D' : Ends, (∀ σ3 H3, W σ3 H3 → D'.nx σ3 H3) → SX X σ H2 body D') (h2 : c0 = false → ∀ H2, Ex H H2 → W σ H2) (k : ∀ σ2 H2, W σ2 H2 → SX X σ2 H2 rest D) : SX X σ H (.If c body [] pos :: rest) D :=
  sxWhen ht (fun hc H2 e2 => h1 hc H2 e2 _ fun σ3 H3 w => k σ3 H3 w) fun hc H2 e2 => k σ H2 (h2 hc H2 e2)
/-- x, y, z = a, b, c -/
theorem sxPar3R {i j l : Nat} {x y z : Str} {px py pz pt pt2 : Pos} {kt k2} (hc : X.calm = true) (hN : X.N.Nodup) (ha : ER X σ H a R1) (hb : ER X σ H b R2) (hcc : ER X σ H c R3) (m1 : ∀ v H1 H2, Ex H1 H2 → R1 v H1 → R1 v H2) (m2 : ∀ v H1 H2, Ex H1 H2 → R2 v H1 → R2 v H2) (k : ∀ v1 v2 v3 H2, Ex H H2 → R1 v1 H2 → R2 v2 H2 → R3 v3 H2 → SX X (((σ.set i (some v1)).set j (some v2)).set l (some v3)) H2 rest D) (hij : i ≠ j := by decide) (hil : i ≠ l := by decide) (hjl : j ≠ l := by decide)
    (hi : X.N[i]? = some x := by rfl) (hj : X.N[j]? = some y := by rfl) (hl : X.N[l]? = some z := by rfl) (hx : X.env.scope.names.lookup x = some .local := by rfl) (hy : X.env.scope.names.lookup y = some .local := by rfl) (hz : X.env.scope.names.lookup z = some .local := by rfl) (h1 : starEach [a, b, c] X.env = (false, eval a X.env) :: starEach [b, c] X.env := by rfl) (h2 : starEach [b, c] X.env = (false, eval b X.env) :: starEach [c] X.env := by rfl) (h3 : starEach [c] X.env = (false, eval c X.env) :: starEach [] X.env := by rfl)
    (hw : swappedStores [.Tuple [.Name x px, .Name y py, .Name z pz] kt pt] (.Tuple [a, b, c] k2 pt2) X.env = pure (some [x, y, z]) := by rfl) (hs : swapsWithSole [.Tuple [.Name x px, .Name y py, .Name z pz] kt pt] (.Tuple [a, b, c] k2 pt2) pos.line X.env = pure false := by rfl) :
    SX X σ H (.Assign [.Tuple [.Name x px, .Name y py, .Name z pz] kt pt] (.Tuple [a, b, c] k2 pt2) pos :: rest) D := by
  have ht : PA X [a, b, c] (fun σ' H' Q => σ' = σ ∧ Ex H H' ∧ ∀ v1 v2 v3 H2, Ex H' H2 → R1 v1 H2 → R2 v2 H2 → R3 v3 H2 → Q [v1, v2, v3] H2) := ⟨fun pos pins s σ' H' Q I k => by
    obtain ⟨rfl, e2, k⟩ := k
    exact (pa_cons ha (pa_cons hb (pa_cons hcc pa_nil h3) h2) h1).run pos pins s _ H' Q I ⟨rfl, e2, fun v1 H2 e3 d1 => ⟨rfl, e2.trans e3, fun v2 H3 e4 d2 => ⟨rfl, (e2.trans e3).trans e4, fun v3 H4 e5 d3 => k v1 v2 v3 H4 (e3.trans (e4.trans e5)) (m1 _ _ _ (e4.trans e5) d1) (m2 _ _ _ e5 d2) d3⟩⟩⟩⟩
  exact sxOf (ps_par3 hc hN hi hj hl hij hil hjl hx hy hz ht hw hs) ⟨rfl, Ex.refl _, fun v1 v2 v3 H2 e2 d1 d2 d3 => ⟨v1, v2, v3, rfl, k v1 v2 v3 H2 e2 d1 d2 d3⟩⟩
theorem soForG {wi : TI} (hxe : X.xe = fun _ _ => False) (hc : X.calm = true) (hi : PI X tg it wi) (hg : PG X tg g)
    (k : wi σ H fun J H2 => ∃ (n : Nat) (Gd : Hp → Prop) (Y : Nat → Hp → V → Hp → Prop) (Pv : Nat → L2.St → Hp → Prop), Walk J n Gd Y ∧ Pv 0 σ H2 ∧ (∀ i σ' H', i ≤ n → Pv i σ' H' → Gd H') ∧
      (∀ i x σ' H3 H4, i < n → Pv i σ' H3 → Y i H3 x H4 → g x σ' H4 fun σ2 H5 => SO X σ2 H5 body (LpE D (Pv (i + 1)) fun σ' H' => SO X σ' H' rest D)) ∧ ∀ σ' H', Pv n σ' H' → SO X σ' H' rest D)
    (hmono : ∀ (Q Q' : It → Hp → Prop), (∀ J H2, Q J H2 → Q' J H2) → wi σ H Q → wi σ H Q') (hs : ∀ x, foldedSetIterable it X.env x = pure x := by intro _; rfl) : SO X σ H (.For tg it body [] pos :: rest) D := by
  refine soCons (forO hxe hc hi hg (soO (X := X) (rest := body)) hs) (hmono _ _ (fun J H2 h => ?_) k)
  obtain ⟨n, Gd, Y, Pv, w, h0, hG, hstep, hend⟩ := h
  exact for_it (D := { D with nx := fun σ' H' => SO X σ' H' rest D }) (g := g) (tb := fun D σ H => SO X σ H body D) w Pv h0 hG hstep hend
/-- over a list or a tuple, the heap growing -/
theorem soForX {α : Type} {xs : List α} {Dd : α → PyData} (hxe : X.xe = fun _ _ => False) (hc : X.calm = true) (he : EX X σ H it d) (hd : d = .list (xs.map Dd) ∨ d = .tuple (xs.map Dd)) (hg : PG X tg g) (Pv : Nat → L2.St → Prop) (h0 : Pv 0 σ)
    (step : ∀ H2, Ex H H2 → ∀ i a x σ' H', xs[i]? = some a → Ex H2 H' → Pv i σ' → Dp X.K H' x (Dd a) → g x σ' H' fun σ2 H3 => SO X σ2 H3 body (LpE D (fun σ4 H4 => Ex H2 H4 ∧ Pv (i + 1) σ4) fun σ' H' => SO X σ' H' rest D))
    (hend : ∀ σ' H', Ex H H' → Pv xs.length σ' → SO X σ' H' rest D) (hs : ∀ x, foldedSetIterable it X.env x = pure x := by intro _; rfl) : SO X σ H (.For tg it body [] pos :: rest) D := by
  have item : ∀ {vs : List V} {H3 : Hp} {i : Nat} {x : V}, DpAll X.K H3 vs (xs.map Dd) → vs[i]? = some x → ∃ a, xs[i]? = some a ∧ Dp X.K H3 x (Dd a) := fun da hx => by
    obtain ⟨d0, hd0, dx⟩ := dpAll_at da hx
    rw [List.getElem?_map] at hd0
    rename_i i _
    cases ha : xs[i]? with
    | none => rw [ha] at hd0; cases hd0
    | some a => rw [ha] at hd0; cases hd0; exact ⟨a, rfl, dx⟩
  rcases hd with rfl | rfl
  · refine soForG hxe hc (pi_list he) hg ⟨rfl, Ex.refl _, fun v H2 e2 dv => ?_⟩ (fun Q Q' h ⟨h1, h2, h3⟩ => ⟨h1, h2, fun v H2 e2 r => let ⟨a, b, c, d⟩ := h3 v H2 e2 r; ⟨a, b, c, h _ _ d⟩⟩) hs
    obtain ⟨t, vs, rfl, ht, da⟩ := dp_lst dv
    have hl : vs.length = xs.length := by rw [dpAll_len da, List.length_map]
    refine ⟨t, rfl, ⟨vs, ht⟩, vs.length, _, _, fun i σ' H' => Ex H2 H' ∧ Pv i σ', walk_list, ⟨Ex.refl _, h0⟩, fun i σ' H' _ hp => sqL_ex hp.1 ht, fun i x σ' H3 H4 hi hp ⟨e4, hx⟩ => ?_, fun σ' H' hp => hend σ' H' (e2.trans hp.1) (by rw [← hl]; exact hp.2)⟩
    subst e4
    obtain ⟨a, ha, dx⟩ := item (dpAll_ex hp.1 da) hx
    exact step H2 e2 i a x σ' _ ha hp.1 hp.2 dx
  · refine soForG hxe hc (pi_tup he) hg ⟨rfl, Ex.refl _, fun v H2 e2 dv => ?_⟩ (fun Q Q' h ⟨h1, h2, h3⟩ => ⟨h1, h2, fun v H2 e2 r => let ⟨a, b, c, d⟩ := h3 v H2 e2 r; ⟨a, b, c, h _ _ d⟩⟩) hs
    obtain ⟨t, vs, rfl, ht, da⟩ := dp_tup dv
    have hl : vs.length = xs.length := by rw [dpAll_len da, List.length_map]
    refine ⟨t, rfl, ⟨vs, ht⟩, vs.length, _, _, fun i σ' H' => Ex H2 H' ∧ Pv i σ', walk_tup, ⟨Ex.refl _, h0⟩, fun i σ' H' _ hp => sqT_ex hp.1 ht, fun i x σ' H3 H4 hi hp ⟨e4, hx⟩ => ?_, fun σ' H' hp => hend σ' H' (e2.trans hp.1) (by rw [← hl]; exact hp.2)⟩
    subst e4
    obtain ⟨a, ha, dx⟩ := item (dpAll_ex hp.1 da) hx
    exact step H2 e2 i a x σ' _ ha hp.1 hp.2 dx
/-! repr, != -/
theorem roRepr {b0 : Bool} (hg : Gl X "repr") (hm : X.mg "repr" = none) (ha : RO X σ H a fun v _ => v = .bl b0) (hs : starEach [a] X.env = (false, eval a X.env) :: starEach [] X.env := by rfl) : RO X σ H (.Call (.Name "repr" p) [a] [] pos) fun v _ => v = .str (if b0 then "True" else "False") :=
  .mk (callBO call_repr_bl hg hm PyProof.Rows.boot_repr (aconsO ha anilO hs) (by decide) (by decide) hs (by rfl)) fun H1 e1 Q k => ⟨rfl, e1, fun v H2 e2 ev => ⟨b0, by rw [ev], k _ H2 e2 rfl⟩⟩
/-- a != b of data -/
theorem toNe {d d' : PyData} {u v : V} (hu : X.A.units + 64 < cLine) (ha : RO X σ H a fun w _ => w = u) (hb : RO X σ H b fun w _ => w = v) (du : ∀ H', Dp X.K H' u d) (dv : ∀ H', Dp X.K H' v d') (sa : SeqAt.shaped d = true) (sb : SeqAt.shaped d' = true) : TOX X σ H (.Compare a [.NotEq] [b] pos) (!PyData.eqv d d') :=
  .mk (tcmpO (op_neD hu) ha hb (nomark b)) fun H1 e1 Q k => ⟨rfl, e1, fun x H2 e2 ex => ⟨rfl, e1.trans e2, fun y H3 e3 ey => ⟨d, d', by rw [ex]; exact du H3, by rw [ey]; exact dv H3, sa, sb, _, rfl, k H3 (e2.trans e3)⟩⟩⟩
end
end GX
end SGRX2
section SGFn17
set_option linter.all false
set_option maxRecDepth 100000
set_option maxHeartbeats 2000000
/-! _law_spoilt_right -/
namespace GX
open PySem PySem.Spec PyProof.Rows L2
open Evl StX OL
abbrev dPlan (ls : List Lap) : PyData := .tuple (ls.map dLap)
def PZ (ls : List Lap) : Prop := ls.length ≤ 900 ∧ ∀ l ∈ ls, l.1.length ≤ 20
theorem PZ.z {ls : List Lap} (h : PZ ls) : PlanZ ls := ⟨by have := h.1; omega, fun l hl => by have := h.2 l hl; omega⟩
theorem flat_plans (ps : List (List Lap)) : flatD.flatDs (ps.map dPlan) = true := flat_all fun ls _ => by
  show flatD (.tuple _) = true
  exact flat_laps ls
theorem TOX.is {X : Cx} {σ : L2.St} {H : Hp} {e : Expr} {b b' : Bool} (h : TOX X σ H e b) (k : b = b') : TOX X σ H e b' := k ▸ h
theorem EN_is {X : Cx} {σ : L2.St} {H : Hp} {e : Expr} {ds ds' : List PyData} (h : EN X σ H e ds) (k : ds = ds') : EN X σ H e ds' := k ▸ h
/-- the plans so far -/
structure SpH (K : PySem.W.Frag) (B : Hp) (q : Addr) (n : Nat) (H' : Hp) : Prop where
  ex : ∃ (vs : List V) (ps : List (List Lap)), H' q = some (.lst vs) ∧ DpAll K H' vs (ps.map dPlan) ∧ (∀ p ∈ ps, PZ p) ∧ ps.length ≤ n
  base : Ex B H'
theorem SpH.mono {K : PySem.W.Frag} {B H H' : Hp} {q : Addr} {n m : Nat} (h : SpH K B q n H) (e : Ex H H') (hn : n ≤ m) : SpH K B q m H' := by
  obtain ⟨⟨vs, ps, h1, h2, h3, h4⟩, hb⟩ := h
  exact ⟨⟨vs, ps, e _ _ h1, dpAll_ex e h2, h3, by omega⟩, hb.trans e⟩
theorem SpH.other {K : PySem.W.Frag} {B H : Hp} {q p : Addr} {n : Nat} {xs ys : List V} (h : SpH K B q n H) (hp : H p = some (.lst xs)) (hpq : q ≠ p) (hb : B p = none) : SpH K B q n (upd H p (.lst ys)) := by
  obtain ⟨⟨vs, ps, h1, h2, h3, h4⟩, hB⟩ := h
  exact ⟨⟨vs, ps, by rw [upd_ne hpq]; exact h1, dpAll_mx (mx_lst hp) (flat_plans ps) h2, h3, h4⟩, ex_lst hB hb⟩
theorem SpH.push {K : PySem.W.Frag} {B H : Hp} {q : Addr} {n : Nat} {vs : List V} {ps : List (List Lap)} {v : V} {p : List Lap} (h1 : H q = some (.lst vs)) (h2 : DpAll K H vs (ps.map dPlan)) (h3 : ∀ p ∈ ps, PZ p) (h4 : ps.length ≤ n) (hB : Ex B H) (hb : B q = none) (hv : Dp K H v (dPlan p)) (hp : PZ p) : SpH K B q (n + 1) (upd H q (.lst (vs ++ [v]))) := by
  refine ⟨⟨_, ps ++ [p], upd_same, ?_, fun x hx => ?_, by rw [List.length_append]; simp; omega⟩, ex_lst hB hb⟩
  · rw [List.map_append]
    exact app_all h1 h2 hv (flat_plans ps) (flat_laps p)
  · rcases List.mem_append.mp hx with hx | hx
    · exact h3 x hx
    · rw [List.mem_singleton.mp hx]; exact hp
/-- told with the laps at k put in another's place -/
theorem PZ.put {told : List Lap} (h : told.length ≤ 301) (h2 : ∀ l ∈ told, l.1.length ≤ 8) {k : Nat} {mid : List Lap} (hm : mid.length ≤ 1) (hm2 : ∀ l ∈ mid, l.1.length ≤ 20) : PZ (told.take k ++ mid ++ told.drop (k + 1)) := by
  refine ⟨?_, fun l hl => ?_⟩
  · rw [List.length_append, List.length_append, List.length_take, List.length_drop]
    omega
  · rcases List.mem_append.mp hl with hl | hl
    · rcases List.mem_append.mp hl with hl | hl
      · have := h2 l (List.mem_of_mem_take hl); omega
      · exact hm2 l hl
    · have := h2 l (List.mem_of_mem_drop hl); omega
section
variable {P : Program} {w : World} {K : PySem.W.Frag} {mg : Str → Option Value} {base : Heap}
inductive preSpoilt : List Dv → Dv → Prop
  | mk (u c : Int) (cs : List (Int × Int)) (told : List Lap) : CsOk u c cs → told.length ≤ 301 → (∀ l ∈ told, isLapP u l = true) → preSpoilt [.dat (dPr u c), .dat (.tuple (cs.map dPp)), .dat (.tuple (told.map dLap))] (.dat (.bool true))
theorem clX_law_spoilt_right (B : BM mg) (cX_shows_plan : ClX P w K mg base 24 "shows_plan" 3 (SpD K preShows)) (c_law_boxes : Cl P w K mg base 2 "_law_boxes" 2 (SpD K preLawBoxes)) (c_law_waste : Cl P w K mg base 3 "_law_waste" 2 (SpD K preLawWaste)) (c_law_is_plan : Cl P w K mg base 3 "_law_is_plan" 3 (SpD K preLawPlan)) (c_law_plan_waste : Cl P w K mg base 1 "_law_plan_waste" 2 (SpD K preWasteOf)) (F : Df K mg "_law_spoilt_right" sLawSpoiltRight pLawSpoiltRight) : ClX P w K mg base 25 "_law_spoilt_right" 3 (SpD K preSpoilt) := by
  refine clDX F scLawSpoiltRight (fun qs r h => by cases h; rfl) rfl fun f cdv A outer s H vs qs r Q E hr hp hq k => ?_
  obtain ⟨u, c, cs, told, ok, hz, hlaps⟩ := hp
  obtain ⟨v1, v2, v3, rfl, h1, h2, h3⟩ := hq.three
  have hu := ok.k.uu
  have hsz : ∀ l ∈ told, 1 ≤ l.1.length ∧ l.1.length ≤ 8 := fun l hl => by
    have h1 := (lap_sum (hlaps l hl)).2.2
    have h2 : l.1 ≠ [] := by
      have := hlaps l hl
      unfold isLapP at this
      simp only [Bool.and_eq_true, decide_eq_true_eq] at this
      exact this.1.1.1.2
    have := List.length_pos_iff.mpr h2
    omega
  refine soOne (sxUn2 (i := 3) (j := 4) rfl scLawSpoiltRight.nd (xClD c_law_boxes hr (aqCons (EX.toQ (xV 0 rfl h1 (pv 0))) (aqCons (EX.toQ (xV 1 rfl h2 (pv 1))) aqNil)) (.mk u c cs ok.r (by omega))) fun w3 w4 H1 e1 d3 d4 => sxNil ?_)
  obtain rfl := dp_int d4
  rw [ok.bx] at d3
  generalize hkv : boxesP u c cs = kvs at d3
  have hk : KOk u kvs := by rw [← hkv]; exact ok.k
  have hpos : ∀ p ∈ kvs, 0 < p.2 := by rw [← hkv]; exact ok.pos
  generalize hS : singlesP u c cs = S
  generalize hW : wasteP u (bestP u kvs) = W
  have h1 := dp_ex e1 h1
  have h2 := dp_ex e1 h2
  have h3 := dp_ex e1 h3
  refine soOne (sxPar3R (i := 5) (j := 6) (l := 7) (R1 := fun v _ => v = .int u) (R2 := fun v _ => v = .int (max 0 (W - S))) rfl scLawSpoiltRight.nd (ER.imp (xIxA (xV 0 rfl h1 (pv 0)) xI) fun v H' _ d => dp_int d) (ER.imp (R := fun v H' => Dp K H' v (.int (max 0 (W - S)))) (xMax2 rfl rfl B.max xI (xSub (xClD c_law_waste hr (aqCons (EX.toQ (xIxA (xV 0 rfl h1 (pv 0)) xI)) (aqCons (EX.toQ (xV 3 rfl d3 (pv 3))) aqNil)) (.mk u (bxK kvs) W (by omega) (by omega) (by rw [← hW]; exact waste_law hk))) (xV 4 rfl (.int S) (pv 4)))) fun v H' _ d => dp_int d) (nLst aNil (Nat.zero_le _)) (fun _ _ _ _ h => h) (fun _ _ _ _ h => h) fun w5 w6 w7 H2 e2 ev5 ev6 ⟨Sm, ev7, hSn, vs7, hS1, hS2⟩ => sxNil ?_)
  subst ev5 ev6 ev7
  cases hS2
  have hn2 : (told.length : Int) / 2 ≤ told.length := by omega
  refine soOne (sxForL rfl rfl (R := fun v H' => ∃ (l : Addr) (ats : List Int), v = .ref l ∧ H2 l = none ∧ LsAt K H' l (ats.map .int) ∧ (∀ a ∈ ats, 0 ≤ a ∧ a < told.length) ∧ ats.length ≤ 2) (xIfT (c0 := decide (told ≠ [])) (TX.is (ttNe hr.units (xV 2 rfl (dp_ex e2 h3) (pv 2)) (xTup aNil (by first | (rw [sizeLine_eq]; simp; done) | (rw [sizeLine_eq]; simp; omega) | assumption)) (shaped_plan told) rfl) ?_) (fun hc => ER.imp (nSortSet (ns := [0, (told.length : Int) / 2]) rfl rfl B.sorted rfl B.set (EN.ex (nLst (ds := [PyData.int 0, .int ((told.length : Int) / 2)]) (aCons xI (aCons (xDiv (EX.is (xLenA (ds := told.map dLap) B.len rfl (xV 2 rfl (dp_ex e2 h3) (pv 2))) (by rw [List.length_map])) xI ⟨by decide, by decide⟩) aNil)) (by simp [sizeLine_eq]))) (by simp)) fun v H' e ⟨l, ms, ev, hn, hm1, hm2, hl⟩ => ⟨l, ms, ev, hn, hl, fun a ha => ?_, hm1⟩) fun hc => ER.imp (nLst aNil (Nat.zero_le _)) fun v H' e ⟨l, ev, hn, hl⟩ => ⟨l, [], ev, hn, hl, by simp, by simp⟩) (pg_name scLawSpoiltRight.nd (i := 8) rfl (.inl rfl)) fun v H3 e3 ⟨Al, ats, ev, hAn, ⟨avs, hA1, hA2⟩, hats, hatl⟩ => ?_)
  · rw [eqv_nil]
    cases told <;> simp
  · have hne : told ≠ [] := of_decide_eq_true hc
    have hpos : 0 < told.length := List.length_pos_iff.mpr hne
    have := (hm2 a).mp ha
    simp at this
    omega
  subst ev
  have havs := dpAll_ints hA2
  subst havs
  have hAS : Al ≠ Sm := fun z => by subst z; rw [hS1] at hAn; cases hAn
  refine ⟨Al, ats.map V.int, fun i σ' H' => ∃ a8 a9 a10 a11 a12 a13 a14 a15 a16, σ' = [some v1, some v2, some v3, some w3, some (.int S), some (.int u), some (.int (max 0 (W - S))), some (.ref Sm), a8, a9, a10, a11, a12, a13, a14, a15, a16] ∧ SpH K H1 Sm (i * 8) H' ∧ H' Al = some (.lst (ats.map V.int)), rfl, ⟨none, none, none, none, none, none, none, none, none, rfl, ⟨⟨[], [], e3 _ _ hS1, .nil, by simp, by simp⟩, e2.trans e3⟩, hA1⟩, ?_, ?_, ?_⟩
  · rintro i σ' H' _ ⟨_, _, _, _, _, _, _, _, _, _, _, h⟩
    exact .inl (.inl h)
  · rintro i x σ' H' hi ⟨a8, a9, a10, a11, a12, a13, a14, a15, a16, rfl, hH, hAl⟩
    rw [List.getElem?_map] at hi
    cases hat : ats[i]? with
    | none => rw [hat] at hi; cases hi
    | some at0 =>
    rw [hat] at hi
    cases hi
    refine g1_run (i := 8) ?_
    have hil : i < ats.length := (List.getElem?_eq_some_iff.mp hat).1
    have hA := hats at0 (List.mem_of_getElem? hat)
    obtain ⟨kk, rfl⟩ : ∃ kk : Nat, at0 = kk := ⟨at0.toNat, by omega⟩
    have hkk : kk < told.length := by omega
    obtain ⟨x, hx⟩ : ∃ x, told[kk]? = some x := ⟨_, List.getElem?_eq_getElem hkk⟩
    have hxm := List.mem_of_getElem? hx
    have hxz := hsz x hxm
    obtain ⟨x0, xr, hxe⟩ : ∃ x0 xr, x.1 = x0 :: xr := by
      cases h : x.1 with
      | nil => rw [h] at hxz; simp at hxz
      | cons a b => exact ⟨a, b, rfl⟩
    have g3 := dp_ex hH.base h3
    have hatD : atI (told.map dLap) (kk : Int) = some (dLap x) := by
      rw [atI_pos (by omega) (by rw [List.length_map]; omega), List.getElem?_map]
      show (told[kk]?).map dLap = _
      rw [hx]; rfl
    refine sxUn2 (i := 9) (j := 10) rfl scLawSpoiltRight.nd (xIxA (xV 2 rfl g3 (pv 2)) (xV 8 rfl (.int (kk : Int)) (pv 8)) (.inl rfl) hatD) fun w9 w10 H4 e4 d9 d10 => ?_
    obtain rfl := dp_int d10
    have hH := hH.mono e4 (Nat.le_refl _)
    have hAl := e4 _ _ hAl
    have hx0 : atI (x.1.map PyData.int) 0 = some (.int x0) := by rw [hxe, atI_pos (by decide) (by simp)]; rfl
    refine sxSet (i := 11) (R := fun v H' => ∃ les : List Int, les.length ≤ 20 ∧ Dp K H' v (tI les)) (ER.imp (xTupOf (ds := ((asc (x.1.drop 1 ++ [x0 - 1])).reverse).map .int) rfl B.tuple (EN.ex (EN_is (xRevL (EN.ex (nSortT (ns := x.1.drop 1 ++ [x0 - 1]) rfl B.sorted (EX.is (xCatT (ds := (x.1.drop 1).map .int) (fs := [PyData.int (x0 - 1)]) (EX.is (xSlT (xV 9 rfl d9 (pv 9)) (oSome xI) oNone) (by rw [cutA_map]; exact congrArg (fun l => PyData.tuple (l.map .int)) (cutA_from x.1 1))) (xTup (aCons (xSub (xIxA (xV 9 rfl d9 (pv 9)) xI (.inl rfl) hx0) xI) aNil) (by simp [sizeLine_eq])) (by rw [List.length_map, List.length_drop, sizeLine_eq]; simp; omega)) (congrArg PyData.tuple (List.map_append (f := PyData.int) (l₁ := x.1.drop 1) (l₂ := [x0 - 1])).symm))))) (by rw [← List.map_reverse])))) fun v H' _ d => ⟨_, by rw [List.length_reverse, (asc_perm _).length_eq, List.length_append, List.length_drop]; simp; omega, d⟩) (fun w11 H5 e5 ⟨les, hles, d11⟩ => ?_) scLawSpoiltRight.nd
    have d9 := dp_ex e5 d9
    have hH := hH.mono e5 (Nat.le_refl _)
    have hAl := e5 _ _ hAl
    have cInit : cutA (x.1.map PyData.int) none (some (-1)) = (x.1.dropLast).map .int := by rw [cutA_map, cutA_init]
    refine sxSet (i := 12) (nLst (ds := [dLap (x.1, x.2 + 1), dLap (x.1.dropLast, x.2)]) (aCons (xTup (aCons (xV 9 rfl d9 (pv 9)) (aCons (xAdd (xV 10 rfl (.int x.2) (pv 10)) xI) aNil)) (by simp [sizeLine_eq])) (aCons (xTup (aCons (EX.is (xSlT (xV 9 rfl d9 (pv 9)) oNone (oSome (xNeg xI))) (congrArg PyData.tuple cInit)) (aCons (xV 10 rfl (.int x.2) (pv 10)) aNil)) (by simp [sizeLine_eq])) aNil)) (by simp [sizeLine_eq])) (fun w12 H6 e6 ⟨La, ev, hLn, lvs, hL1, hL2⟩ => ?_) scLawSpoiltRight.nd
    subst ev
    have d9 := dp_ex e6 d9
    have d11 := dp_ex e6 d11
    have hLa1 : H1 La = none := fresh_back hH.base hLn
    have hLS : Sm ≠ La := fun z => by subst z; obtain ⟨vs, ps, h1, _⟩ := hH.ex; rw [h1] at hLn; cases hLn
    have hLA : Al ≠ La := fun z => by subst z; rw [hAl] at hLn; cases hLn
    have hH := hH.mono e6 (Nat.le_refl _)
    have hAl := e6 _ _ hAl
    have hLl : LsAt K H6 La ([dLap (x.1, x.2 + 1), dLap (x.1.dropLast, x.2)]) := ⟨_, hL1, hL2⟩
    refine sxWhenS (fun σ' H' => ∃ (a13 : Option V) (ex : List Lap), σ' = [some v1, some v2, some v3, some w3, some (.int S), some (.int u), some (.int (max 0 (W - S))), some (.ref Sm), some (.int (kk : Int)), some w9, some (.int x.2), some w11, some (.ref La), a13, a14, a15, a16] ∧ SpH K H1 Sm (i * 8) H' ∧ H' Al = some (.lst (ats.map V.int)) ∧ LsAt K H' La (ex.map dLap) ∧ (∀ l ∈ ex, l.1.length ≤ 20) ∧ ex.length ≤ 3 ∧ Dp K H' w9 (tI x.1) ∧ Dp K H' w11 (tI les)) (TX.is (ttGt (xLenA (ds := x.1.map .int) B.len rfl (xV 9 rfl d9 (pv 9))) xI) (by rw [List.length_map])) (fun hc H7 e7 D' kD => ?_) (fun hc H7 e7 => ?_) fun σ7 H7 hW7 => ?_
    · have hc2 : 1 < (x.1.length : Int) := of_decide_eq_true hc
      obtain ⟨x1, xr2, hxe2⟩ : ∃ x1 xr2, x.1 = x0 :: x1 :: xr2 := by
        cases xr with
        | nil => rw [hxe] at hc2; exact absurd hc2 (by simp)
        | cons a b => exact ⟨a, b, hxe⟩
      have hx1 : atI (x.1.map PyData.int) 1 = some (.int x1) := by rw [hxe2, atI_pos (by decide) (by simp; omega)]; rfl
      have d9 := dp_ex e7 d9
      refine sxSet (i := 13) (EX.is (d' := tI ([x0 - 1, x1 + 1] ++ x.1.drop 2)) (xCatT (ds := [PyData.int (x0 - 1), .int (x1 + 1)]) (fs := (x.1.drop 2).map .int) (xTup (aCons (xSub (xIxA (xV 9 rfl d9 (pv 9)) xI (.inl rfl) hx0) xI) (aCons (xAdd (xIxA (xV 9 rfl d9 (pv 9)) xI (.inl rfl) hx1) xI) aNil)) (by simp [sizeLine_eq])) (EX.is (xSlT (xV 9 rfl d9 (pv 9)) (oSome xI) oNone) (by rw [cutA_map]; exact congrArg (fun l => PyData.tuple (l.map .int)) (cutA_from x.1 2))) (by rw [List.length_map, List.length_drop, sizeLine_eq]; simp; omega)) rfl) (fun w13 H8 e8 d13 => ?_) scLawSpoiltRight.nd
      have hLl := hLl.ex (e7.trans e8)
      obtain ⟨lvs, hl1, hl2⟩ := hLl
      have hother : (([x0 - 1, x1 + 1] ++ x.1.drop 2)).length ≤ 20 := by rw [List.length_append, List.length_drop]; simp; omega
      refine sxAppend (R := fun v H' => Dp K H' v (dLap ((asc ([x0 - 1, x1 + 1] ++ x.1.drop 2)).reverse, x.2))) (erV 12 rfl (pv 12)) hl1 (by rw [dpAll_len hl2, sizeLine_eq]; simp) (xTup (aCons (EX.is (xTupOf rfl B.tuple (EN.ex (EN_is (xRevL (EN.ex (nSortT (ns := [x0 - 1, x1 + 1] ++ x.1.drop 2) rfl B.sorted (xV 13 rfl d13 (pv 13))))) (by rw [← List.map_reverse])))) rfl) (aCons (xV 10 rfl (.int x.2) (pv 10)) aNil)) (by simp [sizeLine_eq])) fun z H9 e9 dz => sxNil (kD _ _ ?_)
      have mx := mx_lst (us := lvs ++ [z]) (e9 _ _ hl1)
      have d9' := dp_ex (e8.trans e9) d9
      have d11' := dp_ex (e7.trans (e8.trans e9)) d11
      refine ⟨some w13, [(x.1, x.2 + 1), (x.1.dropLast, x.2)] ++ [((asc ([x0 - 1, x1 + 1] ++ x.1.drop 2)).reverse, x.2)], rfl, (hH.mono (e7.trans (e8.trans e9)) (Nat.le_refl _)).other (e9 _ _ hl1) hLS hLa1, by rw [upd_ne hLA]; exact (e7.trans (e8.trans e9)) _ _ hAl, ⟨_, upd_same, ?_⟩, ?_, by simp, dp_mx mx (flat_tI _) d9', dp_mx mx (flat_tI _) d11'⟩
      · rw [List.map_append]
        exact app_all (ds := [(x.1, x.2 + 1), (x.1.dropLast, x.2)].map dLap) (e9 _ _ hl1) (dpAll_ex e9 hl2) dz (flat_laps [(x.1, x.2 + 1), (x.1.dropLast, x.2)]) (flat_dLap _)
      · intro l hl
        simp only [List.cons_append, List.nil_append, List.mem_cons, List.not_mem_nil, or_false] at hl
        rcases hl with rfl | rfl | rfl
        · show x.1.length ≤ 20; omega
        · show x.1.dropLast.length ≤ 20; rw [List.length_dropLast]; omega
        · show (asc _).reverse.length ≤ 20; rw [List.length_reverse, (asc_perm _).length_eq]; exact hother
    · refine ⟨a13, [(x.1, x.2 + 1), (x.1.dropLast, x.2)], rfl, hH.mono e7 (Nat.le_refl _), e7 _ _ hAl, hLl.ex e7, ?_, by simp, dp_ex e7 d9, dp_ex e7 d11⟩
      intro l hl
      simp only [List.mem_cons, List.not_mem_nil, or_false] at hl
      rcases hl with rfl | rfl
      · show x.1.length ≤ 20; omega
      · show x.1.dropLast.length ≤ 20; rw [List.length_dropLast]; omega
    obtain ⟨a13, ex, rfl, hH, hAl, hLl, hexl, hexn, d9, d11⟩ := hW7
    refine sxForL rfl rfl (nCatL (ds := ex.map dLap) (fs := [dLap (x.1 ++ [2], x.2), dLap (les, x.2)]) (lV 12 rfl rfl hLl (pv 12)) (EN.el (nLst (aCons (xTup (aCons (EX.is (d' := tI (x.1 ++ [2])) (xCatT (ds := x.1.map .int) (fs := [PyData.int 2]) (xV 9 rfl d9 (pv 9)) (xTup (aCons xI aNil) (by simp [sizeLine_eq])) (by rw [List.length_map, sizeLine_eq]; simp; omega)) (congrArg PyData.tuple (List.map_append (f := PyData.int) (l₁ := x.1) (l₂ := [2])).symm)) (aCons (xV 10 rfl (.int x.2) (pv 10)) aNil)) (by simp [sizeLine_eq])) (aCons (xTup (aCons (xV 11 rfl d11 (pv 11)) (aCons (xV 10 rfl (.int x.2) (pv 10)) aNil)) (by simp [sizeLine_eq])) aNil)) (by simp [sizeLine_eq]))) (by rw [List.length_map, sizeLine_eq]; simp; omega)) (pg_name scLawSpoiltRight.nd (i := 14) rfl (.inl rfl)) fun v H8 e8 ⟨Lq, ev, hQn, qvs, hQ1, hQ2⟩ => ?_
    subst ev
    have eall : ex.map dLap ++ [dLap (x.1 ++ [2], x.2), dLap (les, x.2)] = (ex ++ [(x.1 ++ [2], x.2), (les, x.2)]).map dLap := by rw [List.map_append]; rfl
    rw [eall] at hQ2
    have hall : ∀ l ∈ ex ++ [(x.1 ++ [2], x.2), (les, x.2)], l.1.length ≤ 20 := fun l hl => by
      rcases List.mem_append.mp hl with hl | hl
      · exact hexl l hl
      · simp only [List.mem_cons, List.not_mem_nil, or_false] at hl
        rcases hl with rfl | rfl
        · show (x.1 ++ [2]).length ≤ 20; rw [List.length_append]; simp; omega
        · exact hles
    have hall5 : (ex ++ [(x.1 ++ [2], x.2), (les, x.2)]).length ≤ 5 := by rw [List.length_append]; simp; omega
    generalize ex ++ [(x.1 ++ [2], x.2), (les, x.2)] = al at hQ2 hall hall5
    have hQS : Lq ≠ Sm := fun z => by subst z; obtain ⟨vs, ps, h1, _⟩ := hH.ex; rw [h1] at hQn; cases hQn
    have hQl : qvs.length = al.length := by rw [dpAll_len hQ2, List.length_map]
    have hSm1 : H1 Sm = none := hSn
    have hH := hH.mono e8 (Nat.le_refl _)
    have hAl := e8 _ _ hAl
    have hsm : ∀ H', SpH K H1 Sm (i * 8 + 6) H' → ∃ vs ps, H' Sm = some (.lst vs) ∧ DpAll K H' vs ((ps : List (List Lap)).map dPlan) ∧ (∀ p ∈ ps, PZ p) ∧ ps.length ≤ i * 8 + 6 := fun H' h => h.ex
    refine ⟨Lq, qvs, fun j σ' H' => ∃ a14, σ' = [some v1, some v2, some v3, some w3, some (.int S), some (.int u), some (.int (max 0 (W - S))), some (.ref Sm), some (.int (kk : Int)), some w9, some (.int x.2), some w11, some (.ref La), a13, a14, a15, a16] ∧ SpH K H1 Sm (i * 8 + j) H' ∧ H' Al = some (.lst (ats.map V.int)) ∧ H' Lq = some (.lst qvs) ∧ DpAll K H' qvs (al.map dLap), rfl, ⟨a14, rfl, hH, hAl, hQ1, hQ2⟩, ?_, ?_, ?_⟩
    · rintro j σ' H' _ ⟨_, _, _, _, h, _⟩
      exact .inl (.inl h)
    · rintro j y σ' H' hj ⟨a14, rfl, hH, hAl, hQ1, hQ2⟩
      refine g1_run (i := 14) ?_
      obtain ⟨d0, hd0, dy⟩ := dpAll_at hQ2 hj
      rw [List.getElem?_map] at hd0
      have hjl : j < al.length := by rw [← hQl]; exact (List.getElem?_eq_some_iff.mp hj).1
      cases hal : al[j]? with
      | none => rw [hal] at hd0; cases hd0
      | some lp =>
      rw [hal] at hd0
      cases hd0
      have hlp := hall lp (List.mem_of_getElem? hal)
      obtain ⟨vs, ps, hs1, hs2, hs3, hs4⟩ := hH.ex
      have g3 := dp_ex hH.base h3
      refine sxAppend (R := fun v H' => Dp K H' v (dPlan (told.take kk ++ [lp] ++ told.drop (kk + 1)))) (erV 7 rfl (pv 7)) hs1 (by rw [dpAll_len hs2, List.length_map, sizeLine_eq]; omega) (EX.is (xCatT (ds := (told.take kk).map dLap ++ [dLap lp]) (fs := (told.drop (kk + 1)).map dLap) (xCatT (ds := (told.take kk).map dLap) (fs := [dLap lp]) (EX.is (xSlT (xV 2 rfl g3 (pv 2)) oNone (oSome (xV 8 rfl (.int (kk : Int)) (pv 8)))) (by rw [cutA_map, cutA_to])) (xTup (aCons (xV 14 rfl dy (pv 14)) aNil) (by simp [sizeLine_eq])) (by rw [List.length_map, List.length_take, sizeLine_eq]; simp; omega)) (EX.is (xSlT (xV 2 rfl g3 (pv 2)) (oSome (EX.is (d' := .int ((kk + 1 : Nat) : Int)) (xAdd (xV 8 rfl (.int (kk : Int)) (pv 8)) xI) (congrArg PyData.int (by omega)))) oNone) (by rw [cutA_map, cutA_from])) (by rw [List.length_append, List.length_map, List.length_map, List.length_take, List.length_drop, sizeLine_eq]; simp; omega)) (congrArg PyData.tuple (by rw [List.map_append, List.map_append]; rfl))) fun z H9 e9 dz => sxNil ?_
      have mx := mx_lst (us := vs ++ [z]) (e9 _ _ hs1)
      exact ⟨some y, rfl, SpH.push (e9 _ _ hs1) (dpAll_ex e9 hs2) hs3 hs4 (hH.base.trans e9) hSm1 dz (PZ.put hz (fun l hl => (hsz l hl).2) (by simp) (by simpa using hlp)), by rw [upd_ne hAS]; exact e9 _ _ hAl, by rw [upd_ne hQS]; exact e9 _ _ hQ1, dpAll_mx mx (flat_laps al) (dpAll_ex e9 hQ2)⟩
    · rintro σ' H' ⟨a14, rfl, hH, hAl, hQ1, hQ2⟩
      obtain ⟨vs, ps, hs1, hs2, hs3, hs4⟩ := hH.ex
      have g3 := dp_ex hH.base h3
      refine sxAppend (R := fun v H' => Dp K H' v (dPlan (told.take kk ++ [] ++ told.drop (kk + 1)))) (erV 7 rfl (pv 7)) hs1 (by rw [dpAll_len hs2, List.length_map, sizeLine_eq]; omega) (EX.is (xCatT (ds := (told.take kk).map dLap) (fs := (told.drop (kk + 1)).map dLap) (EX.is (xSlT (xV 2 rfl g3 (pv 2)) oNone (oSome (xV 8 rfl (.int (kk : Int)) (pv 8)))) (by rw [cutA_map, cutA_to])) (EX.is (xSlT (xV 2 rfl g3 (pv 2)) (oSome (EX.is (d' := .int ((kk + 1 : Nat) : Int)) (xAdd (xV 8 rfl (.int (kk : Int)) (pv 8)) xI) (congrArg PyData.int (by omega)))) oNone) (by rw [cutA_map, cutA_from])) (by rw [List.length_map, List.length_map, List.length_take, List.length_drop, sizeLine_eq]; omega)) (congrArg PyData.tuple (by rw [List.append_nil, List.map_append]))) fun z H9 e9 dz => sxNil ?_
      refine ⟨some (.int (kk : Int)), some w9, some (.int x.2), some w11, some (.ref La), a13, a14, a15, a16, rfl, ?_, by rw [upd_ne hAS]; exact e9 _ _ hAl⟩
      obtain ⟨⟨vs', ps', g1, g2, g3', g4⟩, gb⟩ := SpH.push (e9 _ _ hs1) (dpAll_ex e9 hs2) hs3 hs4 (hH.base.trans e9) hSm1 dz (PZ.put hz (fun l hl => (hsz l hl).2) (by simp) (by simp))
      exact ⟨⟨vs', ps', g1, g2, g3', by omega⟩, gb⟩
  · rintro σ' H' ⟨a8, a9, a10, a11, a12, a13, a14, a15, a16, rfl, hH, hAl⟩
    refine sxNil ?_
    obtain ⟨⟨vs, ps, hs1, hs2, hs3, hs4⟩, hB⟩ := hH
    rw [List.length_map] at hs4
    have g1 := dp_ex hB h1
    have g2 := dp_ex hB h2
    have g3 := dp_ex hB h3
    have gB := dp_ex hB d3
    have hsl : LsAt K H' Sm (ps.map dPlan) := ⟨vs, hs1, hs2⟩
    have hps : ∀ p ∈ ps ++ [told ++ told.drop (told.length - 1), [([2], 1)]], PZ p := fun p hp => by
      rcases List.mem_append.mp hp with hp | hp
      · exact hs3 p hp
      · simp only [List.mem_cons, List.not_mem_nil, or_false] at hp
        rcases hp with rfl | rfl
        · refine ⟨by rw [List.length_append, List.length_drop]; omega, fun l hl => ?_⟩
          rcases List.mem_append.mp hl with hl | hl
          · have := (hsz l hl).2; omega
          · have := (hsz l (List.mem_of_mem_drop hl)).2; omega
        · exact ⟨by simp, by simp⟩
    refine soForX (xs := ps ++ [told ++ told.drop (told.length - 1), [([2], 1)]]) (Dd := dPlan) (d := .list (ps.map dPlan ++ [dPlan (told ++ told.drop (told.length - 1)), dPlan [([2], 1)]])) rfl rfl (EN.ex (nCatL (lV 7 rfl rfl hsl (pv 7)) (EN.el (nLst (aCons (EX.is (xCatT (ds := told.map dLap) (fs := (told.drop (told.length - 1)).map dLap) (xV 2 rfl g3 (pv 2)) (EX.is (xSlT (xV 2 rfl g3 (pv 2)) (oSome (xNeg xI)) oNone) (by rw [cutA_map, cutA_last])) (by rw [List.length_map, List.length_map, List.length_drop, sizeLine_eq]; omega)) (congrArg PyData.tuple (List.map_append (f := dLap)).symm)) (aCons (EX.is (xTup (aCons (xTup (aCons (xTup (aCons xI aNil) (by first | (rw [sizeLine_eq]; simp; done) | (rw [sizeLine_eq]; simp; omega) | assumption)) (aCons xI aNil)) (by first | (rw [sizeLine_eq]; simp; done) | (rw [sizeLine_eq]; simp; omega) | assumption)) aNil) (by first | (rw [sizeLine_eq]; simp; done) | (rw [sizeLine_eq]; simp; omega) | assumption)) rfl) aNil)) (by simp [sizeLine_eq]))) (by rw [List.length_map, sizeLine_eq]; simp; omega))) (.inl (by rw [List.map_append]; rfl)) (pg_name scLawSpoiltRight.nd (i := 15) rfl (.inl rfl)) (fun i σ' => ∃ a8 a9 a10 a11 a12 a13 a14 a15 a16, σ' = [some v1, some v2, some v3, some w3, some (.int S), some (.int u), some (.int (max 0 (W - S))), some (.ref Sm), a8, a9, a10, a11, a12, a13, a14, a15, a16]) ⟨_, _, _, _, _, _, _, _, _, rfl⟩ ?_ ?_
    · rintro H2 e2 i p y σ' H3 hi e3 ⟨a8, a9, a10, a11, a12, a13, a14, a15, a16, rfl⟩ dy
      refine g1_run (i := 15) ?_
      have hpz := (hps p (List.mem_of_getElem? hi)).z
      have f1 := dp_ex (e2.trans e3) g1
      have f2 := dp_ex (e2.trans e3) g2
      have fB := dp_ex (e2.trans e3) gB
      refine soOne (sxSet (i := 16) (xClD c_law_is_plan hr (aqCons (EX.toQ (xV 5 rfl (.int u) (pv 5))) (aqCons (EX.toQ (xV 3 rfl fB (pv 3))) (aqCons (EX.toQ (xV 15 rfl dy (pv 15))) aqNil))) (.mk u (bxK kvs) p (by omega) hpz)) (fun w16 H4 e4 d16 => sxNil ?_) scLawSpoiltRight.nd)
      obtain rfl := dp_bl d16
      have dy := dp_ex e4 dy
      refine soOne (sxSet (i := 16) (xAnd (c1 := lawPlanP u (bxK kvs) p) (c2 := decide (max 0 (wasteP u p - S) = max 0 (W - S))) (xV 16 rfl (.bl _) (pv 16)) fun hd => ?_) (fun w17 H5 e5 d17 => sxNil ?_) scLawSpoiltRight.nd)
      · have hl : ∀ l ∈ p, isLapP u l = true := by
          unfold lawPlanP at hd
          rw [Bool.and_eq_true] at hd
          exact List.all_eq_true.mp hd.1
        exact xOne (EX.is (xEq hr.units (xMax2 rfl rfl B.max xI (xSub (xClD c_law_plan_waste hr (aqCons (EX.toQ (xV 5 rfl (.int u) (pv 5))) (aqCons (EX.toQ (xV 15 rfl dy (pv 15))) aqNil)) (.mk u p (by omega) (by omega) hpz.1 fun l hm => by have := lap_sum (hl l hm); omega)) (xV 4 rfl (.int S) (pv 4)))) (xV 6 rfl (.int _) (pv 6)) (by first | rfl | decide +kernel | exact shaped_tI _ | exact shaped_lI _ | exact shaped_word _ | exact shaped_wi _ _ | assumption) (by first | rfl | decide +kernel | exact shaped_tI _ | exact shaped_lI _ | exact shaped_word _ | exact shaped_wi _ _ | assumption)) (by rw [eqv_int]))
      obtain rfl := dp_bl d17
      have dy := dp_ex e5 dy
      have f1 := dp_ex (e4.trans e5) f1
      have f2 := dp_ex (e4.trans e5) f2
      have hsh : showsP u (boxesP u c cs) (singlesP u c cs) p = (lawPlanP u (bxK kvs) p && decide (max 0 (wasteP u p - S) = max 0 (W - S))) := by
        unfold showsP
        rw [hkv, plan_eq hk hpos, hS, hW]
      refine soWhen (c0 := false) ?_ (fun hc => by cases hc) fun _ H6 e6 => soNil ⟨e3.trans (e4.trans (e5.trans e6)), _, _, _, _, _, _, _, _, _, rfl⟩
      generalize (lawPlanP u (bxK kvs) p && decide (max 0 (wasteP u p - S) = max 0 (W - S))) = due at hsh ⊢
      exact TOX.is (toNe (d := .str (if due then "True" else "False")) (d' := .str (if due then "True" else "False")) hr.units (roRepr (b0 := due) rfl B.repr (RO.imp (roCl cX_shows_plan hr (aoCons (q := .dat (dPr u c)) (RO.of (xV 0 rfl f1 (pv 0))) (aoCons (q := .dat (.tuple (cs.map dPp))) (RO.of (xV 1 rfl f2 (pv 1))) (aoCons (q := .dat (.tuple (p.map dLap))) (RO.of (xV 15 rfl dy (pv 15))) aoNil))) (.mk u c cs p ok hpz)) fun v H' _ d => by rw [← hsh]; exact dp_bl d)) (RO.of (ER.imp (xRepr rfl B.repr (xV 16 rfl (.bl _) (pv 16))) fun v H' _ d => dp_str d)) (fun _ => .str _) (fun _ => .str _) (by cases due <;> decide +kernel) (by cases due <;> decide +kernel)) (by cases due <;> decide +kernel)
    · rintro σ' H2 e2 ⟨a8, a9, a10, a11, a12, a13, a14, a15, a16, rfl⟩
      refine SO.of (sxRet xB fun v H3 e3 d => k v H3 (e1.trans (hB.trans (e2.trans e3))) d)
end
end GX
end SGFn17
section SGTup
set_option linter.all false
set_option maxRecDepth 100000
set_option maxHeartbeats 1000000
/-! t[::-1]; list(range(a, b, -1)) -/
namespace GX
open PySem PySem.Spec PyProof.Rows L2
open Evl StX
/-- places of a slice the other way round -/
theorem back_adjust (n : Nat) : Builtin.Slice.sliceAdjust none none (-1) (n : Int) = ((n : Int) - 1, -1) := by
  unfold Builtin.Slice.sliceAdjust
  rfl
theorem back_places (n : Nat) : Builtin.Slice.slicePlaces ((n : Int) - 1) (-1) (-1) = n := by
  unfold Builtin.Slice.slicePlaces
  rw [if_neg (by decide)]
  have e : ((n : Int) - 1 - -1 - 1) / - -1 = (n : Int) - 1 := by rw [show (- -1 : Int) = 1 from rfl, Int.ediv_one]; omega
  rw [e]
  split <;> omega
theorem back_pick (xs : Array Value) : (List.range xs.size).filterMap (fun (k : Nat) => xs[(((xs.size : Int) - 1) + (k : Int) * (-1)).toNat]?) = xs.toList.reverse := by
  refine List.ext_getElem? fun i => ?_
  have h : ∀ m, m ≤ xs.size → ((List.range m).filterMap fun (k : Nat) => xs[(((xs.size : Int) - 1) + (k : Int) * (-1)).toNat]?) = xs.toList.reverse.take m := fun m => by
    induction m with
    | zero => intro _; rfl
    | succ m ih =>
      intro hm
      rw [List.range_succ, List.filterMap_append, ih (by omega), List.take_succ]
      congr 1
      have e : (((xs.size : Int) - 1) + (m : Int) * (-1)).toNat = xs.size - 1 - m := by omega
      have g : xs.toList.reverse[m]? = xs[xs.size - 1 - m]? := by
        rw [List.getElem?_reverse (by rw [Array.length_toList]; omega), Array.length_toList, Array.getElem?_toList]
      rw [g]
      simp only [List.filterMap_cons, List.filterMap_nil, e]
      cases xs[xs.size - 1 - m]? <;> rfl
  rw [h xs.size (Nat.le_refl _), List.take_of_length_le (by rw [List.length_reverse, Array.length_toList]; exact Nat.le_refl _)]
section
variable {P : Program} {w : World} {A : Around} {E : Value → Shared → Prop} {s : Shared}
/-- t[::-1] of a tuple -/
theorem tup_back {t sl : Addr} {its : Array Value} {k : Tok} {Q : Value → Shared → Prop} (ht : IsTup s.heap t its) (hs : s.heap.IsSliceOf sl .none .none (.int (-1) k)) (hz : its.size ≤ sizeLine)
    (h : Q (.ref s.heap.objs.size) { s with heap := s.heap.push { cls := .type "tuple", data := .seq its.toList.reverse.toArray } }) : wpAny (model P w) A (getItem (.ref t) (.ref sl)) Q E s := by
  obtain ⟨os, gs, cs, ds⟩ := hs
  have isS : s.TypeIs (.ref sl) "slice" := ⟨os, gs, cs⟩
  unfold getItem
  try with_reducible refine wpAny_holding ?_
  first | refine wpAny_bind (wpAny_pure ?_) | skip
  refine wpAny_bind (wpAny_sequenceKey ht.typeIs (by decide) (wpAny_bind (wpAny_callSpecial?_slot (name := Str.ofString "__getitem__") ht.typeIs PyProof.Rows.slot_tuple_getitem (wpAny_call_entry PyProof.Rows.slot_tuple_getitem ht.typeIs entry_tuple_getitem ?_ (args_tuple_getitem _ _)))))
  refine (wpAny_bind (tupleItemsOf_ ht ?_) : wpAny _ _ (Builtin.Tuple.tupleItemsOf (.ref t) >>= _) _ _ s)
  refine wpAny_bind (wpAny_typeOf isS ?_)
  rw [if_pos (by decide)]
  refine wpAny_bind ?_
  unfold Builtin.Slice.sliceApplied Builtin.Slice.sliceFields
  refine wpAny_bind (wpAny_bind (wpAny_field gs ds (x := .none) rfl (wpAny_bind (wpAny_field gs ds (x := .none) rfl (wpAny_bind (wpAny_field gs ds (x := .int (-1) k) rfl (wpAny_pure ?_)))))))
  refine wpAny_bind (slicePart_int ?_)
  refine ((?_ : wpAny _ _ (if ((-1 : Int) == 0) = true then _ else _) _ _ s))
  rw [if_neg (by decide)]
  refine wpAny_bind (slicePart_none (wpAny_bind (slicePart_none (wpAny_bind (wpAny_pure ?_)))))
  refine ((?_ : wpAny _ _ (match Builtin.Slice.sliceAdjust none none (-1) (its.size : Int) with | (lo, hi) => pure (lo, (-1 : Int), Builtin.Slice.slicePlaces lo hi (-1))) _ _ s))
  rw [back_adjust]
  refine ((?_ : wpAny _ _ (pure ((its.size : Int) - 1, (-1 : Int), Builtin.Slice.slicePlaces ((its.size : Int) - 1) (-1) (-1))) _ _ s))
  rw [back_places]
  refine wpAny_pure ?_
  have no : ¬ ((((its.size : Int) - 1) == 0 && (-1 : Int) == 1 && its.size == its.size) = true) := by
    rw [Bool.and_eq_true, Bool.and_eq_true]
    rintro ⟨⟨_, z⟩, _⟩
    exact absurd (eq_of_beq z) (by decide)
  refine ((?_ : wpAny _ _ (if (((its.size : Int) - 1) == 0 && (-1 : Int) == 1 && its.size == its.size) = true then _ else _) _ _ s))
  rw [if_neg no, back_pick]
  have fits : sizeOk (.seq its.toList.reverse.toArray) := by
    show its.toList.reverse.toArray.size ≤ sizeLine
    rw [List.size_toArray, List.length_reverse, Array.length_toList]
    exact hz
  first
    | exact wpAny_bind (m := Builtin.Tuple.tupleExact _) (wpAny_newObj_type (wpAny_pure ⟨_, rfl, wpAny_pure h⟩) fits)
    | exact wpAny_bind (m := Builtin.Tuple.tupleExact _) (wpAny_newObj_type (wpAny_bind (wpAny_pure (wpAny_pure ⟨_, rfl, wpAny_pure h⟩))) fits)
    | exact wpAny_bind (wpAny_bind (m := Builtin.Tuple.tupleExact _) (wpAny_newObj_type (wpAny_pure (wpAny_pure ⟨_, rfl, wpAny_pure h⟩)) fits))
    | exact wpAny_bind (wpAny_bind (m := Builtin.Tuple.tupleExact _) (wpAny_newObj_type (wpAny_pure ⟨_, rfl, wpAny_pure h⟩) fits))
end
section
variable {X : Cx} {σ : L2.St} {H : Hp} {a b c e : Expr} {te : TE} {ds : List PyData} {pos p p2 p3 : Pos} {k0 : Nat}
def tBackT (K : PySem.W.Frag) (te : TE) : TE := fun σ H Q => te σ H fun x H1 => ∃ t xs, x = .ref t ∧ SqT K H1 t xs ∧ ∀ p, H1 p = none → Q (.ref p) (upd H1 p (.tup xs.reverse))
theorem pe_backT {p1 : Pos} (he : PE X e te) : PE X (.Subscript e (.Slice none none (some (.UnaryOp .USub (.Constant (.int 1) k0 p1) p2)) p3) pos) (tBackT X.K te) := by
  refine ⟨fun pins s σ H Q I h => Subscript_ (thn (he.run pins s σ H _ I h) fun v s1 ⟨x, H1, I1, r1, t, xs, ex, hx, q⟩ => ?_)⟩
  subst ex
  cases r1
  have step : PO X (some (.UnaryOp .USub (.Constant (.int 1) k0 p1) p2)) (tPart (tUn (rU fun i => .int (-i)) (tC (.int 1)))) := po_some (pe_un un_neg pe_int)
  refine wpAny_Slice (thn (po_none.run pins s1 σ H1 (fun o H2 => o = none ∧ H2 = H1) I1 ⟨rfl, rfl⟩) fun vl s2 ⟨l, H2, I2, pl, el, e2⟩ => ?_)
  subst el e2
  refine thn (po_none.run pins s2 σ H2 (fun o H3 => o = none ∧ H3 = H2) I2 ⟨rfl, rfl⟩) fun vu s3 ⟨u, H3, I3, pu, eu, e3⟩ => ?_
  subst eu e3
  refine thn (step.run pins s3 σ H3 (fun o H4 => o = some (-1) ∧ H4 = H3) I3 ⟨1, rfl, -1, rfl, rfl, rfl⟩) fun vs s4 ⟨o, H4, I4, ps, eo, e4⟩ => ?_
  subst eo e4
  cases pl
  cases pu
  cases ps with
  | int _ tk =>
  have I5 : Inv X pins σ H4 { s4 with heap := s4.heap.push { cls := .type "slice", data := .fields #[.none, .none, .int (-1) tk] } } := I4.kept (t' := s4.toks) fun b ob q => Heap.get?_push_of_some _ q
  obtain ⟨its, r, ht, hz⟩ := I5.tuple hx
  refine ((?_ : wpAny (model X.prog X.w) X.A (subscriptTail e (.Slice none none (some (.UnaryOp .USub (.Constant (.int 1) k0 p1) p2)) p3) (.ref t) (.ref s4.heap.objs.size)) (EP X pins σ Q) X.xe { s4 with heap := s4.heap.push { cls := .type "slice", data := .fields #[.none, .none, .int (-1) tk] } }))
  refine tail_any (ops := [.ref t, .ref s4.heap.objs.size]) ht.typeIs (PyProof.Rows.slot_tuple_getitem.lookup) ?_ (by with_unfolding_all rfl)
  refine tup_back ht (Heap.IsSliceOf.new ..) (by rw [List.size_toArray, ← r.length]; exact hz) ?_
  refine ⟨.ref _, _, I5.laid (t' := s4.toks) (o := .tup xs.reverse) (fun b ob q => Heap.get?_push_of_some _ q) (Nat.le_refl _) ⟨by rw [List.length_reverse]; exact hz, its.reverse, r.reverse, ?_⟩, rfl, q _ (I5.hok.fresh (Nat.le_refl _))⟩
  exact ⟨_, Heap.get?_push_size _ rfl, rfl, 0, rfl⟩
theorem xRevT {p1 : Pos} (ha : EX X σ H a (.tuple ds)) : EX X σ H (.Subscript a (.Slice none none (some (.UnaryOp .USub (.Constant (.int 1) k0 p1) p2)) p3) pos) (.tuple ds.reverse) :=
  .of (pe_backT ha) fun H1 e1 Q k => ⟨rfl, e1, fun v H2 e2 dv => by
    obtain ⟨t, vs, rfl, ht, da⟩ := dp_tup dv
    exact ⟨t, vs, rfl, ht, fun q hq => k _ _ (e2.trans (Ex.new hq)) (dp_new_tup hq (dpAll_rev da))⟩⟩
/-! list(range(m, n, -1)) -/
/-- a range object -/
def rngO (p : Addr) (i j : Int) : HO := .ext fun h => ∃ t u v, IsRange h p i j (-1) t u v
/-- the ints of range(m, n, -1) -/
def downto (m n : Int) : List Int := (List.range (m - n).toNat).map fun k : Nat => m - k
theorem cr_range3 : CallR X (.type "range") (fun vs H Q => ∃ i j, vs = [V.int i, V.int j, V.int (-1)] ∧ ∀ p, H p = none → Q (.ref p) (upd H p (rngO p i j))) := by
  intro pins s σ H vs us Q I r h
  obtain ⟨i, j, rfl, q⟩ := h
  cases r with | cons r1 r => cases r with | cons r2 r => cases r with | cons r3 r =>
  cases r
  obtain ⟨t, rfl⟩ := r1
  obtain ⟨u, rfl⟩ := r2
  obtain ⟨v, rfl⟩ := r3
  refine call_range_3 (by decide) ⟨.ref s.heap.objs.size, upd H s.heap.objs.size (rngO s.heap.objs.size i j), I.laid (t' := s.toks) (fun b o e => Heap.get?_push_of_some _ e) (Nat.le_refl _) ?_, rfl, q _ (I.hok.fresh (Nat.le_refl _))⟩ (.inl (PyProof.noPylong_small (by decide)))
  exact ⟨⟨t, u, v, IsRange.new ..⟩, ⟨_, Heap.get?_push_size _ rfl⟩, fun h1 h2 ⟨t, u, v, x⟩ k => ⟨t, u, v, k _ x⟩⟩
theorem cr_listRng (hc : X.calm = true) : CallR X (.type "list") (fun vs H Q => ∃ p i j, vs = [V.ref p] ∧ H p = some (rngO p i j) ∧ (-(2 ^ 62) ≤ i ∧ i < 2 ^ 62 ∧ -(2 ^ 62) ≤ j ∧ j < 2 ^ 62) ∧ (i - j).toNat ≤ 1000 ∧ ∀ l, H l = none → Q (.ref l) (upd H l (.lst ((downto i j).map .int)))) := by
  intro pins s σ H vs us Q I r h
  obtain ⟨p, i, j, rfl, hp, hb, hz, q⟩ := h
  obtain rfl := Vals.ref1 r
  obtain ⟨t, u, v, hr⟩ : ∃ t u v, IsRange s.heap p i j (-1) t u v := (show ObjOk X.prog X.w H s.heap p (rngO p i j) from I.hok p _ hp).1
  obtain ⟨_, _, c2, c3⟩ := RgC.neg hb.1 hb.2.1 hb.2.2.1 hb.2.2.2
  refine call_list_range (n := (i - j).toNat) (I.ok.hd hc) hr c2 c3 (by omega) fun h' tk acc c kp at0 its => ?_
  have hn : H s.heap.objs.size = none := I.hok.fresh (Nat.le_refl _)
  have I1 : Inv X pins σ H { s with heap := h', toks := tk } := I.kept (t' := tk) kp
  have len : acc.size = (i - j).toNat := its.1
  have rv : Vals ((downto i j).map .int) acc.toList := by
    refine vals_of_ints (ints_each (by rw [Array.length_toList, len]; unfold downto; rw [List.length_map, List.length_range]) fun k x hx => ?_)
    rw [Array.getElem?_toList] at hx
    obtain ⟨tk', e⟩ := its.2 k x hx
    have hk : k < (i - j).toNat := by rw [← len]; exact (Array.getElem?_eq_some_iff.mp hx).1
    refine ⟨i - k, tk', ?_, by rw [e, show i + (k : Int) * (-1) = i - k by omega]⟩
    unfold downto
    rw [List.getElem?_map, List.getElem?_range hk]
    rfl
  have I2 : Inv X pins σ (upd H s.heap.objs.size (.lst ((downto i j).map .int))) { s with heap := h', toks := tk } :=
    I1.take (h' := h') (t' := tk) (fun b ob _ e => e) (I.fpOk (Nat.le_refl _) hn) ⟨by rw [List.length_map]; unfold downto; rw [List.length_map, List.length_range, sizeLine_eq]; omega, acc.toList, c, rv, at0⟩
  exact ⟨.ref _, _, I2, rfl, q _ hn⟩
theorem nListRng {i j : Int} (hc : X.calm = true) (hg : Gl X "list") (hm : X.mg "list" = none) (hg2 : Gl X "range") (hm2 : X.mg "range" = none) (ha : EX X σ H a (.int i)) (hb : EX X σ H b (.int j)) (hcc : EX X σ H c (.int (-1))) (hb4 : -(2 ^ 62) ≤ i ∧ i < 2 ^ 62 ∧ -(2 ^ 62) ≤ j ∧ j < 2 ^ 62) (hz : (i - j).toNat ≤ 1000)
    (hs : starEach [a, b, c] X.env = (false, eval a X.env) :: starEach [b, c] X.env := by rfl) (hs2 : starEach [b, c] X.env = (false, eval b X.env) :: starEach [c] X.env := by rfl) (hs3 : starEach [c] X.env = (false, eval c X.env) :: starEach [] X.env := by rfl) (hs4 : starEach [.Call (.Name "range" p2) [a, b, c] [] p3] X.env = (false, eval (.Call (.Name "range" p2) [a, b, c] [] p3) X.env) :: starEach [] X.env := by rfl) (hpl : (backTo p3 (starEach [b, c] X.env)).any (·.1) = false := by rfl) :
    EN X σ H (.Call (.Name "list" p) [.Call (.Name "range" p2) [a, b, c] [] p3] [] pos) ((downto i j).map .int) :=
  .of (pe_callTy (cr_listRng hc) hg hm PyProof.Rows.boot_list (pa_cons (pe_callTy cr_range3 hg2 hm2 PyProof.Rows.boot_range (aCons ha (aCons hb (aCons hcc aNil hs3) hs2) hs) (by decide) (by decide) hs hpl) pa_nil hs4) (by decide) (by decide) hs4 (by rfl)) fun H1 e1 Q k => ⟨rfl, e1, fun vs H2 e2 dv => by
    cases dv with | cons d1 dv => cases dv with | cons d2 dv => cases dv with | cons d3 dv =>
    cases dv
    refine ⟨i, j, by rw [dp_int d1, dp_int d2, dp_int d3], fun q hq => ⟨q, i, j, rfl, upd_same, hb4, hz, fun l hl => k _ _ (e2.trans ((Ex.new hq).trans (Ex.new hl))) ⟨l, rfl, fresh_back (e1.trans (e2.trans (Ex.new hq))) hl, _, upd_same, ints_dpAll _⟩⟩⟩⟩
/-! is not True -/
theorem toNotTrue {b0 : Bool} {jj : Nat} {pos' : Pos} (ha : RO X σ H a fun v _ => v = .bl b0) : TOX X σ H (.Compare a [.IsNot] [.Constant (.bool true) jj pos'] pos) (!b0) :=
  .mk (tcmpO op_notBl ha (PEO.of (pe_bl (b := true))) (nomark _)) fun H1 e1 Q k => ⟨rfl, e1, fun v H2 e2 ev => ⟨b0, true, ev, rfl, !decide (b0 = true), rfl, by rw [show (!decide (b0 = true)) = !b0 by cases b0 <;> rfl]; exact k H2 e2⟩⟩
end
end GX
end SGTup
section SGFn18
set_option linter.all false
set_option maxRecDepth 100000
set_option maxHeartbeats 2000000
/-! _law_right -/
namespace GX
open PySem PySem.Spec PyProof.Rows L2
open Evl StX OL
section
variable {X : Cx} {σ : L2.St} {q : Addr} {H : Hp} {m m' : Nat} {e a b : Expr} {es : List Expr} {pos p : Pos} {i : Nat}
/-- a tuple of ints, numbers taken on the way -/
theorem emTup {k : Nat} {PL : List Int → Prop} (h : AM X σ q H m m' es (LM PL)) (hz : ∀ ns, PL ns → ns.length ≤ sizeLine) : EM X σ q H m m' (.Tuple es k pos) fun v H' => ∃ ns, PL ns ∧ Dp X.K H' v (tI ns) :=
  .of (pe_tup h) fun H1 e1 sr Q k => ⟨rfl, e1, sr, fun vs H2 e2 sr2 ⟨ns, ev, hn⟩ => by
    subst ev
    exact ⟨by rw [List.length_map]; exact hz ns hn, fun p hp => k _ _ (e2.trans (Sx.of (Ex.new hp))) (sr2.ex (Ex.new hp)) ⟨ns, hn, dp_new_tup hp (ints_dpAll ns)⟩⟩⟩
/-- _law_far(source, reader) -/
theorem emFar {kk j n : Nat} {x : Str} {u c : Int} {vr : V} (C : Cl X.prog X.w X.K X.mg X.base j x n (SpFar X.K)) (hr : Room kk X.A) (ha : ∀ H1, Sx q H H1 → SrcAt (m + 22) H1 q → ER X σ H1 a fun v _ => v = .ref q) (hb : ∀ H1, Sx q H H1 → SrcAt (m + 22) H1 q → ER X σ H1 b fun v _ => v = vr) (hd : Dp X.K H vr (dPr u c)) (hu : u = 8 ∨ u = 4) (h2 : 2 ≤ c) (h16 : c ≤ 16) (hj : j ≤ kk := by decide)
    (hg : Gl X x := by rfl) (hdb : (x == ("__debug__" : Str)) = false := by decide) (he : starEach [a, b] X.env = (false, eval a X.env) :: starEach [b] X.env := by rfl) (he2 : starEach [b] X.env = (false, eval b X.env) :: starEach [] X.env := by rfl) (hpl : (backTo pos (starEach [b] X.env)).any (·.1) = false := by rfl) (sr0 : SrcAt (m + 22) H q) :
    EM X σ q H (m + 22) m (.Call (.Name x p) [a, b] [] pos) fun v H' => ∃ cs, Dp X.K H' v (.tuple (cs.map dPp)) ∧ FarOk u c cs := by
  obtain ⟨f, fd, ps, _, F, hm, hk, hbd⟩ := C.ex
  exact .of (pe_call (E := fun _ _ _ => False) F (hr.mono hj) hg hm hk hbd .nil (fun _ _ _ _ _ _ _ z => False.elim z) (amSrc ha (emX hb) he he2) hdb he hpl) fun H1 e1 sr Q k => ⟨rfl, e1, sr, fun vs H2 e2 sr2 ⟨w, ev, ew⟩ => by
    subst ew ev
    exact ⟨q, w, u, c, m, rfl, dp_mx ((e1.trans e2).mx sr0) rfl hd, hu, h2, h16, sr2, fun v H' cs sx sr' d ho => k v H' (e2.trans sx) sr' ⟨cs, d, ho⟩⟩⟩
/-- _law_filled(unit, boxes, sizes) -/
theorem xFilled {kk j n : Nat} {x : Str} {u : Int} {bx : Bx} {ss : List Int} (C : Cl X.prog X.w X.K X.mg X.base j x n (SpFilled X.K)) (hr : Room kk X.A) (ha : AQ X σ H (e :: es) [.dat (.int u), .dat bx.d, .dat (.list (ss.map .int))]) (hu : u = 8 ∨ u = 4) (hb : ∀ i : Nat, 0 ≤ bx.l.getD i 0) (hss : ∀ s ∈ ss, 2 ≤ s ∧ s < u) (hl : ss.length ≤ 10) (hj : j ≤ kk := by decide)
    (hg : Gl X x := by rfl) (hdb : (x == ("__debug__" : Str)) = false := by decide) (he : starEach (e :: es) X.env = (false, eval e X.env) :: starEach es X.env := by rfl) (hpl : (backTo pos (starEach es X.env)).any (·.1) = false := by rfl) :
    ER X σ H (.Call (.Name x p) (e :: es) [] pos) fun v H' => ∃ d, Dp X.K H' v d ∧ (d = .none ∨ ∃ ls : List Lap, d = .list (ls.map dLap) ∧ lawLapsP u bx ≤ lapsP ls ∧ ls.length ≤ 100) := by
  obtain ⟨f, fd, ps, _, F, hm, hk, hbd⟩ := C.ex
  exact .of (pe_call (E := fun _ _ _ => False) F (hr.mono hj) hg hm hk hbd .nil (fun _ _ _ _ _ _ _ z => False.elim z) ha hdb he hpl) fun H1 e1 Q k => ⟨rfl, e1, fun vs H2 e2 dvs => by
    exact ⟨u, bx, ss, hu, hb, hss, hl, by rw [List.append_nil]; exact dvs, fun v H' d e' hd ho => k v H' (e2.trans e') ⟨d, hd, ho⟩⟩⟩
end
theorem laps_big {u : Int} (hu : u = 8 ∨ u = 4) {b : Bx} (h2 : 0 ≤ b.b2 ∧ b.b2 ≤ 10 ^ 18) (h3 : 0 ≤ b.b3 ∧ b.b3 ≤ 10 ^ 18) (h4 : 0 ≤ b.b4 ∧ b.b4 ≤ 10 ^ 18) (h5 : 0 ≤ b.b5 ∧ b.b5 ≤ 10 ^ 18) (h6 : 0 ≤ b.b6 ∧ b.b6 ≤ 10 ^ 18) (h7 : 0 ≤ b.b7 ∧ b.b7 ≤ 10 ^ 18) : lawLapsP u b ≤ 10 ^ 20 := by
  rcases hu with rfl | rfl
  · rw [laps8]
    have h := f8_mono (a2 := b.b2) (a3 := b.b3) (a4 := b.b4) (a5 := b.b5) (a6 := b.b6) (a7 := b.b7) h2.2 h3.2 h4.2 h5.2 h6.2 h7.2
    have e : f8 (10 ^ 18) (10 ^ 18) (10 ^ 18) (10 ^ 18) (10 ^ 18) (10 ^ 18) ≤ 10 ^ 20 := by decide +kernel
    omega
  · show b.b3 + (b.b2 + 1) / 2 ≤ 10 ^ 20
    omega
theorem bx_nn {u : Int} {kvs : List (Int × Int)} (hk : KOk u kvs) (i : Nat) : 0 ≤ (bxK kvs).l.getD i 0 := by
  match i with
  | 0 => exact Int.le_refl _
  | 1 => exact Int.le_refl _
  | 2 => exact hk.gv0 2
  | 3 => exact hk.gv0 3
  | 4 => exact hk.gv0 4
  | 5 => exact hk.gv0 5
  | 6 => exact hk.gv0 6
  | 7 => exact hk.gv0 7
  | 8 => exact Int.le_refl _
  | n + 9 => exact Int.le_refl _
theorem three_ok {u : Int} {kvs : List (Int × Int)} (hk : KOk u kvs) (hp : ∀ p ∈ kvs, 0 < p.2) (S : Int) {told : List Lap} (ht : bestP u kvs = told) : ∀ p ∈ [told, told.dropLast.reverse ++ told.drop (told.length - 1), (partsL told.dropLast).reverse ++ told.drop (told.length - 1)], showsP u kvs S p = true ∧ PlanZ p := by
  obtain ⟨h1, h2, h3⟩ := best_ok hk
  rw [ht] at h1 h2 h3
  have hl8 : ∀ l ∈ told, l.1.length ≤ 20 := fun l hl => by
    have := (lap_sum (h1.laps l hl)).2.2
    have := hk.uu
    omega
  have s1 : showsP u kvs S told = true := shows_of hk hp h1 h2 (by rw [ht])
  have z1 : PlanZ told := ⟨by omega, fun l hl => by have := hl8 l hl; omega⟩
  rcases List.eq_nil_or_concat told with e | ⟨A, x, e⟩
  · subst e
    intro p hp'
    have : p = [] := by
      simp only [List.mem_cons, List.not_mem_nil, or_false] at hp'
      rcases hp' with rfl | rfl | rfl <;> rfl
    subst this
    exact ⟨s1, z1⟩
  · rw [List.concat_eq_append] at e
    subst e
    have ed : (A ++ [x]).drop ((A ++ [x]).length - 1) = [x] := by
      rw [List.length_append, List.length_singleton, Nat.add_sub_cancel, List.drop_left]
    rw [List.dropLast_concat, ed]
    have hA : ∀ l ∈ A, isLapP u l = true := fun l hl => h1.laps l (by simp [hl])
    have hAl : A.length ≤ 300 := by rw [List.length_append] at h3; simp at h3; omega
    obtain ⟨g1, g2, g3⟩ := parts_ok A hA
    intro p hp'
    simp only [List.mem_cons, List.not_mem_nil, or_false] at hp'
    rcases hp' with rfl | rfl | rfl
    · exact ⟨s1, z1⟩
    · refine ⟨shows_seq hk hp ht ⟨A, List.reverse_perm A, hA, fun _ => rfl, rfl⟩, ?_, fun l hl => ?_⟩
      · rw [List.length_append, List.length_reverse]; simp; omega
      · have := hl8 l (by simpa using hl)
        omega
    · refine ⟨shows_seq hk hp ht ⟨partsL A, List.reverse_perm _, g1, g2, g3⟩, ?_, fun l hl => ?_⟩
      · have := parts_len A
        rw [List.length_append, List.length_reverse]; simp; omega
      · rcases List.mem_append.mp hl with hl | hl
        · have := (lap_sum (g1 l (by simpa using hl))).2.2
          have := hk.uu
          omega
        · have := hl8 l (by simp at hl; simp [hl])
          omega
theorem downto_ok {u : Int} (hu : u = 8 ∨ u = 4) : (∀ s ∈ downto (u - 1) 1, 2 ≤ s ∧ s < u) ∧ (downto (u - 1) 1).length ≤ 10 := by
  rcases hu with rfl | rfl <;> exact ⟨by decide, by decide⟩
def dblE (p : Int × Int) : PyData := .tuple [.int p.1, .int (min (10 ^ (18 : Int).toNat) (2 * p.2))]
theorem dblE_eq (p : Int × Int) : dblE p = (dPp ∘ dblP) p := by
  unfold dblE dblP
  simp only [Function.comp]
  rfl
def SpRight : Sp := fun vs H Q _ => ∃ (q : Addr) (m : Nat), vs = [.ref q] ∧ SrcAt (m + 40) H q ∧ ∀ H', Sx q H H' → SrcAt m H' q → Q (.bl true) H'
section
variable {P : Program} {w : World} {K : PySem.W.Frag} {mg : Str → Option Value} {base : Heap}
theorem clX_law_right (B : BM mg) (c_law_number : Cl P w K mg base 1 "_law_number" 2 SpNum) (c_law_choice : Cl P w K mg base 2 "_law_choice" 2 SpChoice) (c_law_far : Cl P w K mg base 3 "_law_far" 2 (SpFar K)) (c_law_boxes : Cl P w K mg base 2 "_law_boxes" 2 (SpD K preLawBoxes)) (c_law_waste : Cl P w K mg base 3 "_law_waste" 2 (SpD K preLawWaste)) (c_fewest_laps : Cl P w K mg base 6 "fewest_laps" 2 (SpD K preFewestLaps)) (c_law_laps : Cl P w K mg base 2 "_law_laps" 2 (SpD K preLaps)) (cX_least_length_of : ClX P w K mg base 24 "least_length_of" 2 (SpD K preLength)) (cX_lap_plan : ClX P w K mg base 23 "lap_plan" 2 (SpD K preLapPlan)) (c_law_is_plan : Cl P w K mg base 3 "_law_is_plan" 3 (SpD K preLawPlan)) (c_law_plan_waste : Cl P w K mg base 1 "_law_plan_waste" 2 (SpD K preWasteOf)) (c_law_filled : Cl P w K mg base 1 "_law_filled" 3 (SpFilled K)) (cX_shows_plan : ClX P w K mg base 24 "shows_plan" 3 (SpD K preShows)) (cX_law_spoilt_right : ClX P w K mg base 25 "_law_spoilt_right" 3 (SpD K preSpoilt)) (F : Df K mg "_law_right" sLawRight pLawRight) : ClX P w K mg base 26 "_law_right" 1 SpRight := by
  refine clX F scLawRight (fun vs H Q E h => ?_) rfl fun f cdv A outer s H vs Q E hr h => ?_
  · obtain ⟨q, m, rfl, _⟩ := h
    rfl
  obtain ⟨q, m, rfl, sr, k⟩ := h
  refine soOne (sxSetM (q := q) (m := m + 40) (m' := m + 39) (i := 1) sr (emChoice (P := fun x => x = 8 ∨ x = 4) (PL := AllI (fun x => x = 8 ∨ x = 4) 4) c_law_choice hr (fun H1 e1 sr1 => erV 0 rfl (pv 0)) (emList (amAll (emI (i := 8) (fun _ _ _ => xI) (by decide)) (amAll (emI (i := 8) (fun _ _ _ => xI) (by decide)) (amAll (emI (i := 8) (fun _ _ _ => xI) (by decide)) (amAll (emI (i := 4) (fun _ _ _ => xI) (by decide)) amAll0)))) (all_z (by decide))) (all_ne (by decide) (by decide)) all_p) (fun v H1 e1 sr1 ⟨u, ev, hu⟩ => sxNil ?_) scLawRight.nd)
  subst ev
  have hu4 : 4 ≤ u ∧ u ≤ 8 := by omega
  have h64 : 1 ≤ (64 : Int) / u - 1 ∧ 64 / u - 1 ≤ 15 := by rcases hu with rfl | rfl <;> decide
  refine soOne (sxSetM (q := q) (m := m + 39) (m' := m + 38) (i := 2) sr1 (emTup (PL := fun ns => ∃ c, ns = [u, c] ∧ 2 ≤ c ∧ c ≤ 16) (.of (amCons (P := fun x => x = u) (emI (fun _ _ _ => xV 1 rfl (.int u) (pv 1)) rfl) (amCons (P := fun c => 2 ≤ c ∧ c ≤ 16) (emAdd (P := fun x => x = 2) (Q := fun r => 0 ≤ r ∧ r < 64 / u - 1) (emI (fun _ _ _ => xI) rfl) (emNum (m := m + 38) c_law_number hr (fun H1 e1 sr1 => erV 0 rfl (pv 0)) (fun _ _ _ => xSub (xDiv xI (xV 1 rfl (.int u) (pv 1)) ⟨by omega, by omega⟩) xI) (by omega) (by omega) (fun r h0 h1 => ⟨h0, h1⟩)) (fun i j hi hj => by omega)) amNil)) fun H1 e1 sr1 Q k => ⟨rfl, e1, sr1, fun vs H2 e2 sr2 ⟨ns, ev, i, ms, en, hi, c, ms2, em, hc, em2⟩ => k vs H2 e2 sr2 ⟨ns, ev, c, by rw [en, em, em2, hi], hc⟩⟩) (fun ns ⟨c, e, _⟩ => by rw [e, sizeLine_eq]; simp)) (fun vr H2 e2 sr2 ⟨ns, ⟨c, en, hc2, hc16⟩, hd⟩ => sxNil ?_) scLawRight.nd)
  subst en
  refine soOne (sxSetM (q := q) (m := m + 16 + 22) (m' := m + 16) (i := 3) sr2 (emFar (u := u) (c := c) (vr := vr) c_law_far hr (fun H1 e1 sr1 => erV 0 rfl (pv 0)) (fun H1 e1 sr1 => erV 2 rfl (pv 2)) hd hu hc2 hc16 (sr0 := sr2)) (fun vc H3 e3 sr3 ⟨cs, hcs, hfar⟩ => sxNil ?_) scLawRight.nd)
  have hd := dp_mx (e3.mx sr2) rfl hd
  have hS0 : Sx q H H3 := e1.trans (e2.trans e3)
  have ok := far_ok hu hc2 hc16 hfar
  have hbx := ok.bx
  have hpl := best_ok ok.k
  have hlaw := hpl.1.law ok.k hpl.2.1
  generalize hkv : boxesP u c cs = kvs at hbx hpl hlaw
  have hk : KOk u kvs := by rw [← hkv]; exact ok.k
  have hpos : ∀ p ∈ kvs, 0 < p.2 := by rw [← hkv]; exact ok.pos
  generalize hS : singlesP u c cs = S
  generalize hW : wasteP u (bestP u kvs) = W
  generalize htold : bestP u kvs = told at hpl hlaw
  change Dp K H3 vr (dPr u c) at hd
  refine soOne (sxUn2 (i := 4) (j := 5) rfl scLawRight.nd (xClD c_law_boxes hr (aqCons (EX.toQ (xV 2 rfl hd (pv 2))) (aqCons (EX.toQ (xV 3 rfl hcs (pv 3))) aqNil)) (.mk u c cs ok.r (by omega))) fun w4 w5 H4 e4 d4 d5 => sxNil ?_)
  obtain rfl := dp_int d5
  rw [hbx] at d4
  rw [hS]
  have hd := dp_ex e4 hd
  have hcs := dp_ex e4 hcs
  refine soOne (sxSet (i := 6) (xClD c_law_waste hr (aqCons (EX.toQ (xV 1 rfl (.int u) (pv 1))) (aqCons (EX.toQ (xV 4 rfl d4 (pv 4))) aqNil)) (.mk u (bxK kvs) W (by omega) (by omega) (by rw [← hW]; exact waste_law hk))) (fun w6 H5 e5 d6 => sxNil ?_) scLawRight.nd)
  obtain rfl := dp_int d6
  have hd := dp_ex e5 hd
  have hcs := dp_ex e5 hcs
  have d4 := dp_ex e5 d4
  refine soOne (sxSet (i := 7) (xSumA (ns := cs.map fun p : Int × Int => p.1 * p.2) B.sum rfl rfl (EN.ex (nLcA (xs := cs) (Dd := dPp) (E := fun p => .int (p.1 * p.2)) (own := [("_law_width_here", 16), ("_law_number_here", 14)]) (g := gTup _ 2 (gCons (gName 16) (gCons (gName 14) gNil))) rfl scLawRight.nd (srT (xV 3 rfl hcs (pv 3))) (blkOk_by (N := nLawRight) (sc := defScope sLawRight) (by decide +kernel)) (fun _ _ _ _ _ => (pg_tup rfl (pgs_cons (pg_name scLawRight.nd (i := 16) rfl (by first | exact .inl rfl | exact .inr rfl)) (pgs_cons (pg_name scLawRight.nd (i := 14) rfl (by first | exact .inl rfl | exact .inr rfl)) pgs_nil)))) (by have := ok.r.len; rw [sizeLine_eq]; omega) (fun _ _ => rfl) (fun a ha v H2 e2 dv Q q => by
    have hb := ok.w a ha
    exact g2_run dv fun u__law_width_here u__law_number_here d__law_width_here d__law_number_here => q _ (by rfl) H2 (Ex.refl _) (fun _ _ _ _ _ => rfl) (fun hT _ _ _ _ _ => (xMul (xV 16 rfl d__law_width_here (pv 16)) (xV 14 rfl d__law_number_here (pv 14)) (by first | exact .inl ⟨by omega, by omega⟩ | exact .inr ⟨by omega, by omega⟩ | assumption)))))) (.inr (by rw [List.map_map]; rfl))) (fun w7 H6 e6 d7 => sxNil ?_) scLawRight.nd)
  obtain rfl := dp_int d7
  have hd := dp_ex e6 hd
  have hcs := dp_ex e6 hcs
  have d4 := dp_ex e6 d4
  have hfew : lapsP (fewestP u (boxesP u c cs)) = lawLapsP u (bxK kvs) := by rw [hkv]; exact fewest_law hk
  refine soWhen (c0 := false) (TOX.of (TX.is (ttNe hr.units (xClD c_fewest_laps hr (aqCons (EX.toQ (xV 2 rfl hd (pv 2))) (aqCons (EX.toQ (xV 3 rfl hcs (pv 3))) aqNil)) (.mk u c cs ok.r)) (xClD c_law_laps hr (aqCons (EX.toQ (xV 1 rfl (.int u) (pv 1))) (aqCons (EX.toQ (xV 4 rfl d4 (pv 4))) aqNil)) (.mk u (bxK kvs))) (by first | rfl | decide +kernel | exact shaped_tI _ | exact shaped_lI _ | exact shaped_word _ | exact shaped_wi _ _ | assumption) (by first | rfl | decide +kernel | exact shaped_tI _ | exact shaped_lI _ | exact shaped_word _ | exact shaped_wi _ _ | assumption)) (by rw [eqv_int, hfew]; simp))) (fun hc => by cases hc) fun _ H7 e7 => ?_
  have hd := dp_ex e7 hd
  have hcs := dp_ex e7 hcs
  have d4 := dp_ex e7 d4
  refine soWhen (c0 := false) (TOX.is (toNe (d := .int (lengthP cs + max 0 (wasteP u (bestP u (boxesP u c cs)) - singlesP u c cs))) (d' := .int (lengthP cs + max 0 (W - S))) hr.units (roIntQ (roCl cX_least_length_of hr (aoCons (q := .dat (dPr u c)) (RO.of (xV 2 rfl hd (pv 2))) (aoCons (q := .dat (.tuple (cs.map dPp))) (RO.of (xV 3 rfl hcs (pv 3))) aoNil)) (.mk u c cs ok))) (roInt (xAdd (xV 7 rfl (.int _) (pv 7)) (xMax2 rfl rfl B.max xI (xSub (xV 6 rfl (.int W) (pv 6)) (xV 5 rfl (.int S) (pv 5)))))) (fun _ => .int _) (fun _ => .int _) rfl rfl) (by rw [eqv_int, hkv, hS, hW]; simp)) (fun hc => by cases hc) fun _ H8 e8 => ?_
  have hd := dp_ex e8 hd
  have hcs := dp_ex e8 hcs
  have d4 := dp_ex e8 d4
  change SO _ [some (.ref q), some (.int u), some vr, some vc, some w4, some (.int S), some (.int W), some (.int (lengthP cs)), none, none, none, none, none, none, none, none, none, none] _ _ _
  have toldZ : PlanZ told := ⟨by have := hpl.2.2; omega, fun l hl => by have := (lap_sum (hpl.1.laps l hl)).2.2; omega⟩
  refine soSet (i := 8) (R := fun v H' => Dp K H' v (.tuple (told.map dLap))) (RO.imp (roCl cX_lap_plan hr (aoCons (q := .dat (dPr u c)) (RO.of (xV 2 rfl hd (pv 2))) (aoCons (q := .dat (.tuple (cs.map dPp))) (RO.of (xV 3 rfl hcs (pv 3))) aoNil)) (.mk u c cs ok)) fun v H' _ d => by rw [hkv, htold] at d; exact d) (fun w8 H9 e9 d8 => ?_) scLawRight.nd
  have hd := dp_ex e9 hd
  have hcs := dp_ex e9 hcs
  have d4 := dp_ex e9 d4
  have hWt : wasteP u told = W := by rw [← htold]; exact hW
  refine soWhen (c0 := false) (TOX.of (TX.is (WX.tx (wOr (tNotX (tBool (xClD c_law_is_plan hr (aqCons (EX.toQ (xV 1 rfl (.int u) (pv 1))) (aqCons (EX.toQ (xV 4 rfl d4 (pv 4))) (aqCons (EX.toQ (xV 8 rfl d8 (pv 8))) aqNil))) (.mk u (bxK kvs) told (by omega) toldZ)))) fun _ => (wOr1 (ttNe hr.units (xClD c_law_plan_waste hr (aqCons (EX.toQ (xV 1 rfl (.int u) (pv 1))) (aqCons (EX.toQ (xV 8 rfl d8 (pv 8))) aqNil)) (.mk u told (by omega) (by omega) toldZ.1 fun l hl => by have := lap_sum (hpl.1.laps l hl); omega)) (xV 6 rfl (.int W) (pv 6)) (by first | rfl | decide +kernel | exact shaped_tI _ | exact shaped_lI _ | exact shaped_word _ | exact shaped_wi _ _ | assumption) (by first | rfl | decide +kernel | exact shaped_tI _ | exact shaped_lI _ | exact shaped_word _ | exact shaped_wi _ _ | assumption))))) (by rw [eqv_int, hlaw, hWt]; simp))) (fun hc => by cases hc) fun _ H10 e10 => ?_
  have hd := dp_ex e10 hd
  have hcs := dp_ex e10 hcs
  have d4 := dp_ex e10 d4
  have d8 := dp_ex e10 d8
  have hdn := downto_ok hu
  refine soOne (sxSet (i := 9) (xFilled (u := u) (bx := bxK kvs) (ss := downto (u - 1) 1) c_law_filled hr (aqCons (EX.toQ (xV 1 rfl (.int u) (pv 1))) (aqCons (EX.toQ (xV 4 rfl d4 (pv 4))) (aqCons (EX.toQ (EN.ex (nListRng rfl rfl B.list rfl B.range (xSub (xV 1 rfl (.int u) (pv 1)) xI) xI (xNeg xI) (by omega) (by omega)))) aqNil))) hu (bx_nn hk) hdn.1 hdn.2) (fun w9 H11 e11 ⟨d9, g9, ho9⟩ => sxNil ?_) scLawRight.nd)
  have hd := dp_ex e11 hd
  have hcs := dp_ex e11 hcs
  have d4 := dp_ex e11 d4
  have d8 := dp_ex e11 d8
  have hbig : lawLapsP u (bxK kvs) ≤ 10 ^ 20 := by
    have hle := ok.le
    rw [hkv] at hle
    exact laps_big hu ⟨hk.gv0 2, hle 2⟩ ⟨hk.gv0 3, hle 3⟩ ⟨hk.gv0 4, hle 4⟩ ⟨hk.gv0 5, hle 5⟩ ⟨hk.gv0 6, hle 6⟩ ⟨hk.gv0 7, hle 7⟩
  have hp20 : (Builtin.Int.intBits 10 : Int) * 20 ≤ 2 ^ 27 := by decide +kernel
  have hp18 : (Builtin.Int.intBits 10 : Int) * 18 ≤ 2 ^ 27 := by decide +kernel
  refine soOne (sxSet (i := 10) (R := fun v H' => ∃ ns : List Int, Dp K H' v (.list (ns.map .int)) ∧ lawLapsP u (bxK kvs) ≤ ns.sum) (xIfT (c0 := nonD d9) (ttIsNone (xV 9 rfl g9 (pv 9))) (fun hc => ER.imp (EN.ex (nLst (ds := [10 ^ (20 : Int).toNat].map PyData.int) (aCons (xPow (n := 20) xI xI (by decide) hp20) aNil) (by simp [sizeLine_eq]))) fun v H' _ d => ⟨_, d, by simpa using hbig⟩) fun hc => ?_) (fun w10 H12 e12 ⟨ns, d10, hns⟩ => sxNil ?_) scLawRight.nd)
  · rcases ho9 with rfl | ⟨ls, rfl, hls1, hls2⟩
    · cases hc
    · skip
      exact ER.imp (EN.ex (nLcA (xs := ls) (Dd := dLap) (E := fun l => .int l.2) (own := [("_law_sizes", 13), ("_law_many", 17)]) (g := gTup _ 2 (gCons (gName 13) (gCons (gName 17) gNil))) rfl scLawRight.nd (srL (xV 9 rfl g9 (pv 9))) (blkOk_by (N := nLawRight) (sc := defScope sLawRight) (by decide +kernel)) (fun _ _ _ _ _ => (pg_tup rfl (pgs_cons (pg_name scLawRight.nd (i := 13) rfl (by first | exact .inl rfl | exact .inr rfl)) (pgs_cons (pg_name scLawRight.nd (i := 17) rfl (by first | exact .inl rfl | exact .inr rfl)) pgs_nil)))) (by rw [sizeLine_eq]; omega) (fun _ _ => rfl) (fun a ha v H2 e2 dv Q q => g2_run dv fun u__law_sizes u__law_many d__law_sizes d__law_many => q _ (by rfl) H2 (Ex.refl _) (fun _ _ _ _ _ => rfl) (fun hT _ _ _ _ _ => (xV 17 rfl d__law_many (pv 17)))))) fun v H' _ d => ⟨ls.map (fun l : Lap => l.2), by rw [List.map_map]; exact d, hls1⟩
  have hd := dp_ex e12 hd
  have hcs := dp_ex e12 hcs
  have d4 := dp_ex e12 d4
  have d8 := dp_ex e12 d8
  refine soWhen (c0 := false) (TOX.of (TX.is (ttLt (xSumA (ns := ns) B.sum rfl rfl (xV 10 rfl d10 (pv 10))) (xClD c_fewest_laps hr (aqCons (EX.toQ (xV 2 rfl hd (pv 2))) (aqCons (EX.toQ (xV 3 rfl hcs (pv 3))) aqNil)) (.mk u c cs ok.r))) (decide_eq_false (by rw [hfew]; omega)))) (fun hc => by cases hc) fun _ H13 e13 => ?_
  have hd := dp_ex e13 hd
  have hcs := dp_ex e13 hcs
  have d4 := dp_ex e13 d4
  have d8 := dp_ex e13 d8
  have d10 := dp_ex e13 d10
  change SO _ [some (.ref q), some (.int u), some vr, some vc, some w4, some (.int S), some (.int W), some (.int (lengthP cs)), some w8, some w9, some w10, none, none, none, none, none, none, none] _ _ _
  obtain ⟨hfar2, hle2⟩ := far_dbl hu hc2 hfar
  have ok2 := far_ok hu hc2 hc16 hfar2
  refine soOne (sxSet (i := 11) (xTupOf (ds := (cs.map dblP).map dPp) rfl B.tuple (EX.is (EN.ex (nLcA (xs := cs) (Dd := dPp) (E := dblE) (own := [("_law_width_here", 16), ("_law_number_here", 14)]) (g := gTup _ 2 (gCons (gName 16) (gCons (gName 14) gNil))) rfl scLawRight.nd (srT (xV 3 rfl hcs (pv 3))) (blkOk_by (N := nLawRight) (sc := defScope sLawRight) (by decide +kernel)) (fun _ _ _ _ _ => (pg_tup rfl (pgs_cons (pg_name scLawRight.nd (i := 16) rfl (by first | exact .inl rfl | exact .inr rfl)) (pgs_cons (pg_name scLawRight.nd (i := 14) rfl (by first | exact .inl rfl | exact .inr rfl)) pgs_nil)))) (by have := ok.r.len; rw [sizeLine_eq]; omega) (fun _ _ => rfl) (fun a ha v H2 e2 dv Q q => g2_run dv fun u__law_width_here u__law_number_here d__law_width_here d__law_number_here => q _ (by rfl) H2 (Ex.refl _) (fun _ _ _ _ _ => rfl) (fun hT _ _ _ _ _ => (xTup (aCons (xV 16 rfl d__law_width_here (pv 16)) (aCons (xMin2 rfl rfl B.min (xPow (n := 18) xI xI (by decide) hp18) (xMul xI (xV 14 rfl d__law_number_here (pv 14)) (.inl ⟨by decide, by decide⟩))) aNil)) (by simp [sizeLine_eq])))))) (by rw [List.map_map]; exact congrArg PyData.list (List.map_congr_left fun p _ => dblE_eq p)))) (fun w11 H14 e14 d11 => sxNil ?_) scLawRight.nd)
  have hd := dp_ex e14 hd
  have hcs := dp_ex e14 hcs
  have d4 := dp_ex e14 d4
  have d8 := dp_ex e14 d8
  have d10 := dp_ex e14 d10
  have hdbl : lapsP (fewestP u (boxesP u c (cs.map dblP))) ≤ 2 * lapsP (fewestP u (boxesP u c cs)) := by
    rw [hfew, fewest_law ok2.k, ← hkv]
    exact laps_two hu (hle2 2) (hle2 3) (hle2 4) (hle2 5) (hle2 6) (hle2 7)
  refine soWhen (c0 := false) (TOX.of (TX.is (ttGt (xClD (d := .int (lapsP (fewestP u (boxesP u c (cs.map dblP))))) c_fewest_laps hr (aqCons (EX.toQ (xV 2 rfl hd (pv 2))) (aqCons (EX.toQ (xV 11 rfl d11 (pv 11))) aqNil)) (.mk u c (cs.map dblP) ok2.r)) (xMul xI (xClD c_fewest_laps hr (aqCons (EX.toQ (xV 2 rfl hd (pv 2))) (aqCons (EX.toQ (xV 3 rfl hcs (pv 3))) aqNil)) (.mk u c cs ok.r)) (by first | exact .inl ⟨by omega, by omega⟩ | exact .inr ⟨by omega, by omega⟩ | assumption))) (decide_eq_false (by omega)))) (fun hc => by cases hc) fun _ H15 e15 => ?_
  have hd := dp_ex e15 hd
  have hcs := dp_ex e15 hcs
  have d4 := dp_ex e15 d4
  have d8 := dp_ex e15 d8
  have d10 := dp_ex e15 d10
  refine soOne (sxSet (i := 12) (nLst aNil (Nat.zero_le _)) (fun w12 H16 e16 ⟨Pp, ev, hPn, pvs, hP1, hP2⟩ => sxNil ?_) scLawRight.nd)
  subst ev
  cases hP2
  have d8' := dp_ex e16 d8
  have tz := toldZ.1
  refine soOne (sxForF (xs := told.dropLast) (Dd := dLap) rfl rfl (EX.is (xSlT (xV 8 rfl d8' (pv 8)) oNone (oSome (xNeg xI))) (by rw [cutA_map, cutA_init])) (fun l _ => flat_dLap l) (pg_tup rfl (pgs_cons (pg_name scLawRight.nd (i := 13) rfl (by first | exact .inl rfl | exact .inr rfl)) (pgs_cons (pg_name scLawRight.nd (i := 14) rfl (by first | exact .inl rfl | exact .inr rfl)) pgs_nil))) fun H17 e17 => ?_)
  refine ⟨fun i σ' H' => ∃ a13 a14 a15 a16 a17, σ' = [some (.ref q), some (.int u), some vr, some vc, some w4, some (.int S), some (.int W), some (.int (lengthP cs)), some w8, some w9, some w10, some w11, some (.ref Pp), a13, a14, a15, a16, a17] ∧ Ex H15 H' ∧ LsAt K H' Pp ((partsL (told.dropLast.take i)).map dLap), ⟨none, none, none, none, none, rfl, e16.trans e17, [], e17 _ _ hP1, .nil⟩, ?_, ?_⟩
  · rintro i l x σ' H' hi mx0 ⟨a13, a14, a15, a16, a17, rfl, eH, hPl⟩ dx
    refine g2_run dx fun w13 w14 g13 g14 => ?_
    obtain rfl := dp_int g14
    obtain ⟨ps, hp1, hp2⟩ := hPl
    have hplen : ps.length ≤ 2000 := by
      rw [dpAll_len hp2, List.length_map]
      have h1 := parts_len (told.dropLast.take i)
      have h2 := List.length_take_le' i told.dropLast
      rw [List.length_dropLast] at h2
      omega
    refine sxAppend (R := fun v H' => Dp K H' v (dLap (l.1, l.2 - l.2 / 2))) (erV 12 rfl (pv 12)) hp1 (by rw [sizeLine_eq]; omega) (xTup (aCons (xV 13 rfl g13 (pv 13)) (aCons (xSub (xV 14 rfl (.int l.2) (pv 14)) (xDiv (xV 14 rfl (.int l.2) (pv 14)) xI (by first | exact ⟨by omega, by omega⟩ | assumption))) aNil)) (by first | (rw [sizeLine_eq]; simp; done) | (rw [sizeLine_eq]; simp; omega) | assumption)) fun z H18 e18 dz => ?_
    have mx1 := mx_lst (us := ps ++ [z]) (e18 _ _ hp1)
    have g13 := dp_mx mx1 (flat_tI _) (dp_ex e18 g13)
    have hp3 : DpAll K (upd H18 Pp (.lst (ps ++ [z]))) (ps ++ [z]) ((partsL (told.dropLast.take i)).map dLap ++ [dLap (l.1, l.2 - l.2 / 2)]) := app_all (e18 _ _ hp1) (dpAll_ex e18 hp2) dz (flat_laps _) (flat_dLap _)
    have eH2 : Ex H15 (upd H18 Pp (.lst (ps ++ [z]))) := ex_lst (eH.trans e18) hPn
    have hp4 : upd H18 Pp (.lst (ps ++ [z])) Pp = some (.lst (ps ++ [z])) := upd_same
    have mx2 := mx0.trans ((Mx.of e18).trans mx1)
    change SX _ _ (upd H18 Pp (.lst (ps ++ [z]))) _ _
    generalize upd H18 Pp (.lst (ps ++ [z])) = H19 at g13 hp3 eH2 hp4 mx2 ⊢
    refine sxExtend (fs := (if 1 < l.2 then [(l.1, l.2 / 2)] else []).map dLap) (erV 12 rfl (pv 12)) hp4 (by rw [List.length_append, sizeLine_eq]; split <;> simp <;> omega) (EN_is (nRep (ds := [dLap (l.1, l.2 / 2)]) (k0 := if decide (1 < l.2) = true then 1 else 0) (EN.el (nLst (aCons (xTup (aCons (xV 13 rfl g13 (pv 13)) (aCons (xDiv (xV 14 rfl (.int l.2) (pv 14)) xI (by first | exact ⟨by omega, by omega⟩ | assumption)) aNil)) (by simp [sizeLine_eq])) aNil) (by simp [sizeLine_eq]))) (xIntB rfl B.int (xGt (xV 14 rfl (.int l.2) (pv 14)) xI)) (by split <;> decide) (by split <;> decide) (by split <;> simp [sizeLine_eq])) (by by_cases h : 1 < l.2 <;> simp [h])) fun us H20 e20 du => sxNil ?_
    have mx3 := mx_lst (us := ps ++ [z] ++ us) (e20 _ _ hp4)
    refine ⟨mx2.trans ((Mx.of e20).trans mx3), some w13, some (.int l.2), a15, a16, a17, rfl, ex_lst (eH2.trans e20) hPn, _, upd_same, ?_⟩
    have e : (partsL (told.dropLast.take (i + 1))).map dLap = (partsL (told.dropLast.take i)).map dLap ++ [dLap (l.1, l.2 - l.2 / 2)] ++ (if 1 < l.2 then [(l.1, l.2 / 2)] else []).map dLap := by
      rw [take_app hi]
      unfold partsL
      rw [List.flatMap_append, List.map_append, List.append_assoc]
      congr 1
      show List.map dLap (partL l ++ []) = _
      rw [List.append_nil]
      rfl
    rw [e]
    refine dpAll_app (dpAll_mx mx3 ?_ (dpAll_ex e20 hp3)) (dpAll_mx mx3 (flat_laps _) du)
    rw [show (partsL (told.dropLast.take i)).map dLap ++ [dLap (l.1, l.2 - l.2 / 2)] = (partsL (told.dropLast.take i) ++ [(l.1, l.2 - l.2 / 2)]).map dLap by rw [List.map_append]; rfl]
    exact flat_laps _
  · rintro σ' H18 mx0 ⟨a13, a14, a15, a16, a17, rfl, eH, hPl⟩
    rw [List.take_length] at hPl
    refine sxNil ?_
    have g8 := dp_ex eH d8
    have gr := dp_ex eH hd
    have gc := dp_ex eH hcs
    have h3 := three_ok hk hpos S htold
    have hpz := parts_len told.dropLast
    rw [List.length_dropLast] at hpz
    refine soForX (xs := [told, told.dropLast.reverse ++ told.drop (told.length - 1), (partsL told.dropLast).reverse ++ told.drop (told.length - 1)]) (Dd := dPlan) (d := .tuple [dPlan told, dPlan (told.dropLast.reverse ++ told.drop (told.length - 1)), dPlan ((partsL told.dropLast).reverse ++ told.drop (told.length - 1))]) rfl rfl (xTup (aCons (xV 8 rfl g8 (pv 8)) (aCons (EX.is (xCatT (ds := (told.dropLast.reverse).map dLap) (fs := (told.drop (told.length - 1)).map dLap) (EX.is (xRevT (EX.is (xSlT (xV 8 rfl g8 (pv 8)) oNone (oSome (xNeg xI))) (by rw [cutA_map, cutA_init]))) (by rw [← List.map_reverse])) (EX.is (xSlT (xV 8 rfl g8 (pv 8)) (oSome (xNeg xI)) oNone) (by rw [cutA_map, cutA_last])) (by rw [List.length_map, List.length_map, List.length_reverse, List.length_drop, List.length_dropLast, sizeLine_eq]; omega)) (congrArg PyData.tuple (List.map_append (f := dLap)).symm)) (aCons (EX.is (xCatT (ds := ((partsL told.dropLast).reverse).map dLap) (fs := (told.drop (told.length - 1)).map dLap) (xTupOf rfl B.tuple (EX.is (EN.ex (xRevL (EL.ex (lV 12 rfl rfl hPl (pv 12))))) (by rw [← List.map_reverse]))) (EX.is (xSlT (xV 8 rfl g8 (pv 8)) (oSome (xNeg xI)) oNone) (by rw [cutA_map, cutA_last])) (by rw [List.length_map, List.length_map, List.length_reverse, List.length_drop, sizeLine_eq]; omega)) (congrArg PyData.tuple (List.map_append (f := dLap)).symm)) aNil))) (by simp [sizeLine_eq])) (.inr rfl) (pg_name scLawRight.nd (i := 15) rfl (by first | exact .inl rfl | exact .inr rfl)) (fun i σ' => ∃ a13 a14 a15 a16 a17, σ' = [some (.ref q), some (.int u), some vr, some vc, some w4, some (.int S), some (.int W), some (.int (lengthP cs)), some w8, some w9, some w10, some w11, some (.ref Pp), a13, a14, a15, a16, a17]) ⟨_, _, _, _, _, rfl⟩ ?_ ?_
    · rintro H19 e19 i p y σ' H20 hi e20 ⟨a13, a14, a15, a16, a17, rfl⟩ dy
      refine g1_run (i := 15) ?_
      obtain ⟨hsp, hpz⟩ := h3 p (List.mem_of_getElem? hi)
      have f1 := dp_ex (e19.trans e20) gr
      have f2 := dp_ex (e19.trans e20) gc
      refine soWhen (c0 := false) (TOX.is (toNotTrue (b0 := true) (RO.imp (roCl cX_shows_plan hr (aoCons (q := .dat (dPr u c)) (RO.of (xV 2 rfl f1 (pv 2))) (aoCons (q := .dat (.tuple (cs.map dPp))) (RO.of (xV 3 rfl f2 (pv 3))) (aoCons (q := .dat (.tuple (p.map dLap))) (RO.of (xV 15 rfl dy (pv 15))) aoNil))) (.mk u c cs p ok hpz)) fun v H' _ d => by rw [hkv, hS, hsp] at d; exact dp_bl d)) rfl) (fun hc => by cases hc) fun _ H21 e21 => soNil ⟨e20.trans e21, _, _, _, _, _, rfl⟩
    · rintro σ' H19 e19 ⟨a13, a14, a15, a16, a17, rfl⟩
      have f1 := dp_ex e19 gr
      have f2 := dp_ex e19 gc
      have f8 := dp_ex e19 g8
      have etot : Ex H3 H15 := e4.trans (e5.trans (e6.trans (e7.trans (e8.trans (e9.trans (e10.trans (e11.trans (e12.trans (e13.trans (e14.trans e15))))))))))
      refine soRet (roCl cX_law_spoilt_right hr (aoCons (q := .dat (dPr u c)) (RO.of (xV 2 rfl f1 (pv 2))) (aoCons (q := .dat (.tuple (cs.map dPp))) (RO.of (xV 3 rfl f2 (pv 3))) (aoCons (q := .dat (.tuple (told.map dLap))) (RO.of (xV 8 rfl f8 (pv 8))) aoNil))) (.mk u c cs told ok hpl.2.2 hpl.1.laps)) fun v H20 e20 d => ?_
      obtain rfl := dp_bl d
      have e30 := etot.trans (eH.trans (e19.trans e20))
      exact k H20 (hS0.trans (Sx.of e30)) ((sr3.ex e30).le (by omega))
end
end GX
end SGFn18
section SGComp
set_option linter.all false
set_option maxRecDepth 100000
set_option maxHeartbeats 2000000
/-! a list comprehension whose items are made on the machine -/
namespace GX
open PySem PySem.Spec PyProof.Rows L2 GStub Evl
section
variable {M : Model} {A : Around} {E : Value → Shared → Prop} {env : Env} {s : Shared}
theorem rx_nextL {α β : Type} {m : Sem α} {f : α → Sem β} {Q : α → Shared → Prop} {Q' : β → Shared → Prop} (h : wpAny M A m Q E s) (k : ∀ a s', Q a s' → RX M A (f a) Q' E s') : RX M A (m >>= f) Q' E s := RX.bind ((RX.of h).mono k fun _ _ z => z)
theorem rx_comp {e : Expr} {scope : Scope} {pos : Pos} {newAcc first : Sem Value} {g : Comprehension} {gs : List Comprehension} {cl : List (Str × Addr)} {Q : Value → Shared → Prop}
    (clauses : clausesOf e = g :: gs) (plain : ∀ x, foldedSetIterable g.iter env x = pure x) (clos : closureFor scope env = pure cl) (fn : scope.kind = .function) (names : ∀ x ∈ scope.names, x.2 = .local → scope.names.lookup x.1 = some .local)
    (h : wpAny M A first (fun x s1 => wpAny M A (pyIter x) (fun it s2 => wpAny M A newAcc (fun acc s3 => wpAny M A (newFunctionEnv scope env.globals cl [] env.qual none .none (some env)) (fun ce s4 =>
      CXM M A (.compStart e 0 it acc { ce with scope := relabel scope env }) (fun r s' => match r with
        | .ok _ => ∃ m, s'.heap.Ns ce.locals m ∧ ∀ h', Heap.SameBut ce.locals s'.heap h' → Q acc { s' with heap := h' }
        | .error _ => False) s4) E s3) E s2) E s1) E s) : RX M A (comprehension e scope env pos newAcc false first none) Q E s := by
  unfold comprehension
  rw [clos, clauses]
  refine rx_nextL h fun x s1 h1 => ?_
  refine RX.bind (RX.of (wpAny_standAt (?_ : RX M A _ Q E s1)))
  refine RX.bind (RX.of (wpAny_of_eq (plain x) (?_ : RX M A _ Q E s1)))
  refine RX.bind (RX.holding ((RX.of h1).mono (fun it s2 h2 => ?_) fun _ _ z => z))
  simp only [Option.isSome_none, Bool.false_eq_true, if_false]
  refine rx_nextL h2 fun acc s3 h3 => ?_
  refine RX.bind (RX.pure ?_)
  refine rx_nextL h3 fun ce s4 h4 => ?_
  have vis : ∀ x ∈ (scope.names.filter fun x => (x.2 == .local || x.2 == .cell) && x.1 != (".0" : Str)).reverse, x.2 = .local → Env.kindOf { ce with scope := relabel scope env } x.1 = some .local := fun x hx hl =>
    lookup_relabel_local (names x (List.mem_filter.mp (List.mem_reverse.mp hx)).1 hl)
  refine RX.holding (RX.bind (RX.attempt (RX.holding (RX.run (h4.mono fun r s' hr => ?_)))))
  cases r with
  | error x => exact hr.elim
  | ok f =>
    obtain ⟨m, hn, hr⟩ := hr
    exact RX.bind (RX.holding (RX.of (wpAny_comp_letGo (cenv := { ce with scope := relabel scope env }) fn _ s' m vis hn fun h' m' _ sb => (RX.pure (hr h' sb) : RX M A _ Q E _))))
end
section
variable {P : Program} {w : World} {A : Around} {R : Result → Shared → Prop} {s : Shared} {elt tg iter : Expr} {scope : Scope} {pos : Pos} {it acc : Value} {env : Env}
theorem cxm_start (h0 : CXM (model P w) A (.compLoop (.ListComp elt [⟨tg, iter, [], 0⟩] scope pos) 0 it acc env) R s)
    (h : ∀ E, wpAny (model P w) A (pyIter it) (fun it' s' => CXM (model P w) A (.compLoop (.ListComp elt [⟨tg, iter, [], 0⟩] scope pos) 0 it' acc env) R s') E s) :
    CXM (model P w) A (.compStart (.ListComp elt [⟨tg, iter, [], 0⟩] scope pos) 0 it acc env) R s := by
  refine CXM.tree ?_
  show RX _ A ((compStart (.ListComp elt [⟨tg, iter, [], 0⟩] scope pos) 0 it acc env).onRaise (fun x => do noteFrame x env; standAt theWindowsPlace)) _ _ s
  refine RX.onRaise ?_
  unfold compStart
  show RX _ A (ask >>= _) _ _ s
  refine RX.bind (RX.of (wpAny_askSetting ?_))
  split
  · first
      | exact RX.bind (RX.pure (RX.pure (a := PySem.Fin.again _) ⟨rfl, h0⟩))
      | exact RX.pure (a := PySem.Fin.again _) ⟨rfl, h0⟩
  · refine RX.bind (RX.of (wpAny_rule ?_))
    refine ((?_ : RX _ _ (standAt iter.pos >>= _) _ _ s))
    refine RX.bind (RX.of (wpAny_standAt ?_))
    refine RX.bind ((RX.of (h _)).mono (fun it' s' h' => ?_) fun _ _ z => z)
    exact RX.pure (a := PySem.Fin.again _) ⟨rfl, h'⟩
theorem cxm_comp (I : Nat → Shared → Prop)
    (turn : ∀ n s, I n s → wpAny (model P w) A (pyNext it) (fun r s1 => match r with
      | none => R (.ok .next) s1
      | some v => wpAny (model P w) A (letOwnedTupleGo tg it v) (fun _ s2 => wpAny (model P w) A (assign tg env v) (fun _ s3 => RX (model P w) A (eval elt env) (fun x s4 =>
          wpAny (model P w) A (call (.builtin "list.append") [acc, x]) (fun _ s5 => ∃ m, m < n ∧ I m s5) (fun _ _ => False) s4) (fun _ _ => False) s3) (fun _ _ => False) s2) (fun _ _ => False) s1) (fun _ _ => False) s)
    (n : Nat) (s : Shared) (h : I n s) : CXM (model P w) A (.compLoop (.ListComp elt [⟨tg, iter, [], 0⟩] scope pos) 0 it acc env) R s := by
  refine cxm_loop rfl I (fun n s hI => ?_) n s h
  show RX _ A ((compTurn (.ListComp elt [⟨tg, iter, [], 0⟩] scope pos) 0 it acc env).onRaise (fun x => do noteFrame x env; theTreesLotGoes x)) _ _ s
  refine RX.onRaise ?_
  rw [compTurn_list1]
  refine RX.bind (RX.of (wpAny_standAt ?_))
  refine ((?_ : RX _ A (pyNext it >>= _) _ _ s))
  refine RX.bind ((RX.of (turn n s hI)).mono (fun r s1 h1 => ?_) fun _ _ z => z.elim)
  cases r with
  | none => exact RX.pure h1
  | some v =>
    refine RX.bind ((RX.of h1).mono (fun _ s2 h2 => ?_) fun _ _ z => z.elim)
    refine RX.bind ((RX.of h2).mono (fun _ s3 h3 => ?_) fun _ _ z => z.elim)
    refine RX.bind (RX.bind (h3.mono (fun x s4 h4 => ?_) fun _ _ z => z.elim))
    refine RX.bind ((RX.of h4).mono (fun _ s5 h5 => ?_) fun _ _ z => z.elim)
    exact RX.pure (RX.pure (a := PySem.Fin.again _) (.inl ⟨rfl, h5⟩))
end
section
variable {X : Cx} {elt tg iter : Expr} {scope : Scope} {own : List (Str × Nat)} {pos : Pos} {wi : TI} {g : TG} {te : TE}
/-- [elt for tg in iter], elt on the machine -/
theorem lcO (hc : X.calm = true) (hN : X.N.Nodup) (hi : PI X tg iter wi) (ok : BlkOk X.N X.env.scope scope own) (hg : ∀ (s : Shared) (H : Hp) (C : Addr) (cl : List (Str × Addr)) (fp : List Addr), PG (X.blk s H scope (compEnvC scope cl C X.env) fp) tg g)
    (he : ∀ (s : Shared) (H : Hp) (C : Addr) (cl : List (Str × Addr)) (fp : List Addr), PEO (X.blk s H scope (compEnvC scope cl C X.env) fp) elt te) (hs : ∀ x, foldedSetIterable iter X.env x = pure x := by intro _; rfl) :
    PEO X (.ListComp elt [⟨tg, iter, [], 0⟩] scope pos) (tLc wi g tYes te (own.map (·.2))) := by
  refine ⟨fun pins s σ H Q I h => ?_⟩
  rw [eval_ListComp]
  have has : ∀ y ∈ scope.names, y.2 = .free → ∃ c, X.env.cells.lookup y.1 = some c := fun y hy e => (ok.free y hy e).elim (fun k => I.ok.has _ (.inl k)) fun k => I.ok.has _ (.inr k)
  refine rx_comp rfl hs (closure_ok has) ok.kind (fun y hy e => by rw [ok.uniq y hy, e]) (thn (hi.run pins s σ H _ I h) fun xv s1 hx => thn hx fun itv s2 h2 => ?_)
  obtain ⟨it, fp, tn, J, H2, rfl, I2, T, at2, ok2, q⟩ := h2
  refine wpAny_newObj_type (newEnv_comp ?_) (Nat.zero_le _)
  generalize eL : s2.heap.objs.size = L
  have freshL : H2 L = none := I2.hok.fresh (Nat.le_of_eq eL)
  obtain ⟨W, ⟨m0, w0⟩, turn⟩ := q L freshL
  generalize e3 : ({ s2 with heap := s2.heap.push { cls := .type "list", data := .seq ([] : List Value).toArray } } : Shared) = s3
  have hp3 : s3.heap = s2.heap.push { cls := .type "list", data := .seq ([] : List Value).toArray } := by rw [← e3]
  have I3 : Inv X pins σ (upd H2 L (.lst [])) s3 := by
    subst e3 eL
    exact I2.laid (t' := s2.toks) (fun b o e => Heap.get?_push_of_some _ e) (Nat.le_refl _) ⟨Nat.zero_le _, [], 0, .nil, Heap.get?_push_size _ rfl⟩
  have below : ∀ b ∈ fp, b < s2.heap.objs.size := fun b hb => let ⟨_, e, _⟩ := T.obj _ _ at2 b hb; Heap.lt_size e
  have ok3 : ∀ b ∈ fp, FpOk X pins (upd H2 L (.lst [])) b ∧ b < s3.heap.objs.size := fun b hb => by
    have lb := below b hb
    refine ⟨⟨?_, (ok2 b hb).2⟩, by rw [hp3, Heap.size_push]; exact Nat.lt_succ_of_lt lb⟩
    rw [upd_ne (by rw [← eL]; exact Nat.ne_of_lt lb)]
    exact (ok2 b hb).1
  have at3 : tn 0 s3.heap := T.keep _ _ _ at2 fun b _ o e => by rw [hp3]; exact Heap.get?_push_of_some _ e
  have I4 := block_start I3 ok hN ok3
  have pg := hg s3 (upd H2 L (.lst [])) s3.heap.objs.size (cellsFrom (s3.heap.objs.size + 1) scope.names (cloFrom X.env.cells scope.names [])) fp
  have pe := he s3 (upd H2 L (.lst [])) s3.heap.objs.size (cellsFrom (s3.heap.objs.size + 1) scope.names (cloFrom X.env.cells scope.names [])) fp
  have none3 : ∀ b ∈ fp, (upd H2 L (.lst [])) b = none := fun b hb => (ok3 b hb).1.1
  show CXM _ _ (.compStart (.ListComp elt [⟨tg, iter, [], 0⟩] scope pos) 0 (.ref it) (.ref L) (compEnvC scope (cellsFrom (s3.heap.objs.size + 1) scope.names (cloFrom X.env.cells scope.names [])) s3.heap.objs.size X.env)) _ { s3 with heap := pushCells (s3.heap.push { cls := .type "dict", data := .dict #[] }) scope.names }
  generalize ece : compEnvC scope (cellsFrom (s3.heap.objs.size + 1) scope.names (cloFrom X.env.cells scope.names [])) s3.heap.objs.size X.env = ce at I4 pg pe ⊢
  have locC : ce.locals = s3.heap.objs.size := by subst ece; rfl
  generalize eH3 : upd H2 L (.lst []) = H3 at I3 I4 pg pe w0 none3 ok3
  generalize e4 : ({ s3 with heap := pushCells (s3.heap.push { cls := .type "dict", data := .dict #[] }) scope.names } : Shared) = s4 at I4 ⊢
  have at4 : tn 0 s4.heap := T.keep _ _ _ at3 fun b _ o e => by rw [← e4]; exact pushCells_keeps _ _ _ _ (Heap.get?_push_of_some _ e)
  have foot : ∀ {σ' : L2.St} {H' : Hp} {s' : Shared}, Inv (X.blk s3 H3 scope ce fp) [] σ' H' s' → (∀ b ∈ fp, H' b = none) → ∀ b ∈ fp, FpOk (X.blk s3 H3 scope ce fp) [] H' b := fun {σ' H' s'} J' hn b hb =>
    ⟨hn b hb, (J'.ok.exf b hb).1, J'.ok.exfs b hb, .inl hb, fun x c e => (J'.ok.exf b hb).2 x c e, fun p hp => by cases hp⟩
  refine (fun loop => cxm_start loop fun E => T.self X.A 0 _ _ E at4 loop) ?_
  refine cxm_comp (fun n s' => ∃ i H', Inv (X.blk s3 H3 scope ce fp) [] (wipe σ (own.map (·.2))) H' s' ∧ tn i s'.heap ∧ (∀ b ∈ fp, H' b = none) ∧ W i n H') ?_ m0 s4 ⟨0, H3, I4, at4, none3, w0⟩
  rintro n s5 ⟨i, H5, I5, at5, none5, w5⟩
  rcases turn i n H5 w5 with ⟨stop, fin⟩ | ⟨go, Nx, next, step⟩
  · refine thnF (T.done (X.blk s3 H3 scope ce fp) rfl rfl rfl hc i [] s5 _ H5 (fun _ _ => False) I5 (foot I5 none5) at5 stop) fun r s6 ⟨er, I6⟩ => ?_
    subst er
    have I7 : Inv X pins σ H5 s6 := I3.call' (ch := fp) I6.os I6.base I6.hok I6.bare fun b hb => ⟨(ok3 b hb).1.2.2.2.1, (ok3 b hb).1.2.1, (ok3 b hb).1.2.2.2.2.1, (ok3 b hb).1.2.2.2.2.2⟩
    have freeC : H5 s3.heap.objs.size = none := locC ▸ (I6.free : H5 ce.locals = none)
    obtain ⟨m, ns, _⟩ := I6.loc
    have ns : s6.heap.Ns ce.locals m := ns
    rw [locC] at ns
    obtain ⟨f0, f1, _, f3, f4, f5⟩ := I3.fpOk (Nat.le_refl _) freeC
    exact ⟨m, ns, fun h'' sb => ⟨.ref L, H5, I7.turned (t' := s6.toks) (fun b o hb e => (sb.2 b hb).trans e) f0 f1 f3 f4 f5, rfl, fin⟩⟩
  · refine thnF (T.item (X.blk s3 H3 scope ce fp) rfl rfl rfl hc i [] s5 _ H5 (fun _ _ => False) I5 (foot I5 none5) at5 go) fun r s6 ⟨u, er, h6⟩ => ?_
    subst er
    refine thnF h6 fun _ s7 ⟨x, H7, I7, r7, y7, at7, none7⟩ => ?_
    have J7 := I7.pinned (foot I7 none7) (T.obj _ _ at7)
    refine thnF (pg.run _ s7 _ H7 x u _ J7 r7 (step x H7 y7)) fun _ s8 ⟨σ8, H8, I8, wp8, q8⟩ => ?_
    have e8 := pe.run _ s8 σ8 H8 _ I8 (by simpa [tYes] using q8)
    refine e8.mono (fun z s10 hz => ?_) fun _ _ z => z
    obtain ⟨yv, H10, I10, r10, acc, at10, few, nx⟩ := hz
    refine app_ok (X := X.blk s3 H3 scope ce fp) I10 at10 few r10 fun s11 I11 => ?_
    obtain ⟨m', lt, w'⟩ := next _ nx
    have held : ∀ b ∈ fp, ∀ o, s7.heap.get? b = some o → s11.heap.get? b = some o ∧ _ = none := fun b hb o e =>
      let z := I11.pin (b, o) (List.mem_append_right _ (List.mem_append_right _ (mem_pinsAt hb e)))
      ⟨z.1, z.2.1⟩
    refine ⟨m', lt, i + 1, _, (I11.unpinned (pins := [])).weak (by rw [← wp8, wipe_length]) (fun j v e => ?_), T.keep _ _ _ at7 fun b hb o e => (held b hb o e).1, fun b hb => ?_, w'⟩
    · rw [← wp8] at e
      exact (wipe_some e).1
    · obtain ⟨o, e, _⟩ := T.obj _ _ at7 b hb
      exact (held b hb o e).2
end
end GX
end SGComp
section SGLaw
set_option linter.all false
set_option maxRecDepth 100000
set_option maxHeartbeats 2000000
/-! law -/
namespace GX
open PySem PySem.Spec PyProof.Rows L2
open Evl StX OL
section
variable {X : Cx} {σ : L2.St} {H : Hp} {e a b tg : Expr} {es : List Expr} {rest body : List Stmt} {D : Ends} {pos p p2 : Pos} {g : TG}
theorem soForR {n : Int} (hxe : X.xe = fun _ _ => False) (hc : X.calm = true) (hgr : Gl X "range") (hm : X.mg "range" = none) (ha : EX X σ H a (.int n)) (h1 : -(2 ^ 62) ≤ n) (h2 : n < 2 ^ 62) (hg : PG X tg g)
    (k : ∀ H2, Ex H H2 → ∃ (Pv : Nat → L2.St → Hp → Prop), Pv 0 σ H2 ∧ (∀ i σ' H', i < n.toNat → Pv i σ' H' → g (.int (i : Nat)) σ' H' fun σ2 H3 => SO X σ2 H3 body (LpE D (Pv (i + 1)) fun σ' H' => SO X σ' H' rest D)) ∧ ∀ σ' H', Pv n.toNat σ' H' → SO X σ' H' rest D)
    (hs : starEach [a] X.env = (false, eval a X.env) :: starEach [] X.env := by rfl) (hs2 : ∀ x, foldedSetIterable (.Call (.Name "range" p) [a] [] p2) X.env x = pure x := by intro _; rfl) : SO X σ H (.For tg (.Call (.Name "range" p) [a] [] p2) body [] pos :: rest) D := by
  refine soForG hxe hc (pi_range1 hgr hm (aCons ha aNil hs) (by rw [hs]; rfl)) hg ⟨rfl, Ex.refl _, fun vs H2 e2 dv => ?_⟩ (fun Q Q' h ⟨h1, h2, h3⟩ => ⟨h1, h2, fun v H2 e2 r => let ⟨j, a, b, c, d⟩ := h3 v H2 e2 r; ⟨j, a, b, c, h _ _ d⟩⟩) hs2
  obtain ⟨v, rfl, dw⟩ := dpAll_one dv
  obtain ⟨Pv, h0, hstep, hend⟩ := k H2 e2
  refine ⟨n, by rw [dp_int dw], h1, h2, n.toNat, _, _, Pv, walk_range, h0, fun _ _ _ _ _ => trivial, fun i x σ' H3 H4 hi hp ⟨e4, hx⟩ => ?_, hend⟩
  subst e4 hx
  refine (?_ : g (V.int ((0 : Int) + (i : Nat))) σ' _ _)
  rw [Int.zero_add]
  exact hstep i σ' _ hi hp
theorem xSource {kk j n : Nat} {x : Str} {ns : List Int} {k : Int} (C : Cl X.prog X.w X.K X.mg X.base j x n (SpSource X.K)) (hr : Room kk X.A) (ha : AQ X σ H (e :: es) [.dat (.list (ns.map .int)), .dat (.int k)]) (h0 : 0 ≤ k) (h2 : k < 2) (hj : j ≤ kk := by decide)
    (hg : Gl X x := by rfl) (hdb : (x == ("__debug__" : Str)) = false := by decide) (he : starEach (e :: es) X.env = (false, eval e X.env) :: starEach es X.env := by rfl) (hpl : (backTo pos (starEach es X.env)).any (·.1) = false := by rfl) :
    ER X σ H (.Call (.Name x p) (e :: es) [] pos) fun v H' => ∃ q, v = .ref q ∧ H q = none ∧ SrcAt (2 ^ 39) H' q := by
  obtain ⟨f, fd, ps, _, F, hm, hk, hbd⟩ := C.ex
  exact .of (pe_call (E := fun _ _ _ => False) F (hr.mono hj) hg hm hk hbd .nil (fun _ _ _ _ _ _ _ z => False.elim z) ha hdb he hpl) fun H1 e1 Q kq => ⟨rfl, e1, fun vs H2 e2 dvs => by
    obtain ⟨v1, v2, rfl, d1, d2⟩ := dvs.two
    obtain rfl := dp_int d2
    exact ⟨ns, k, v1, rfl, d1, h0, h2, fun p H' e' hn hs => kq _ H' (e2.trans e') ⟨p, rfl, fresh_back (e1.trans e2) hn, hs⟩⟩⟩
end
def SpLaw (K : PySem.W.Frag) : Sp := fun vs H Q _ => ∃ (a : Addr) (ns : List Int), vs = [.ref a] ∧ SqL K H a (ns.map V.int) ∧ ∀ H', Q (.bl true) H'
section
variable {P : Program} {w : World} {K : PySem.W.Frag} {mg : Str → Option Value} {base : Heap}
theorem fnX_law (B : BM mg) (c_law_source : Cl P w K mg base 1 "_law_source" 2 (SpSource K)) (cX_law_right : ClX P w K mg base 26 "_law_right" 1 SpRight) {f : Addr} {fd : FuncData} (F : Fun K "law" "law" sLaw f fd) : FnX P w K mg base 27 f fd pLaw (SpLaw K) := by
  refine fun_okX F scLaw (fun vs H Q E h => ?_) fun cdv A outer s H vs Q E hr h => ⟨_, soO, (?_ : SO _ _ _ _ _)⟩
  · obtain ⟨a, ns, rfl, _⟩ := h
    rfl
  obtain ⟨a, ns, rfl, hs, k⟩ := h
  have hd : Dp K H (.ref a) (.list (ns.map .int)) := .lst hs (ints_dpAll ns)
  refine soForR rfl rfl rfl B.range (xMax2 rfl rfl B.max xI (xMin2 rfl rfl B.min xI (xLenA (ds := ns.map .int) B.len rfl (xV 0 rfl hd (pv 0))))) (by omega) (by omega) (pg_name scLaw.nd (i := 1) rfl (by first | exact .inl rfl | exact .inr rfl)) fun H2 e2 => ?_
  refine ⟨fun i σ' H' => ∃ a1 a2 a3, σ' = [some (.ref a), a1, a2, a3] ∧ Ex H H', ⟨none, none, none, rfl, e2⟩, ?_, ?_⟩
  · rintro i σ' H3 hi ⟨a1, a2, a3, rfl, e3⟩
    refine g1_run (i := 1) ?_
    have hi2 : i < 2 := by omega
    have hd3 := dp_ex e3 hd
    refine soOne (sxSet (i := 2) (xSource c_law_source hr (aqCons (EX.toQ (xV 0 rfl hd3 (pv 0))) (aqCons (EX.toQ (xV 1 rfl (.int (i : Int)) (pv 1))) aqNil)) (by omega) (by omega)) (fun v H4 e4 ⟨q, ev, hq, sr⟩ => sxNil ?_) scLaw.nd)
    subst ev
    have hqH : H q = none := fresh_back e3 hq
    change SO _ [some (.ref a), some (.int (i : Int)), some (.ref q), a3] _ _ _
    obtain ⟨fr, fdr, psr, _, Fr, hmr, hkr, hbr⟩ := cX_law_right.ex
    refine soCons (ifO (t := tSX _ _) (u := tNext) (tnotO (tvalO (callBO (cr_all rfl) rfl B.all PyProof.Rows.boot_all (aconsO (lcO (own := [("_law_turn", 3)]) (te := tCall SpRight [] (fun _ _ _ => False) (tCons (tVar 2) tNil)) rfl scLaw.nd (pi_range1 rfl B.range (aCons (σ := [some (.ref a), some (.int (i : Int)), some (.ref q), a3]) (H := H4) xI aNil) rfl) (blkOk_by (N := nLaw) (sc := defScope sLaw) (by decide +kernel)) (fun _ _ _ _ _ => pg_name scLaw.nd (i := 3) rfl (by first | exact .inl rfl | exact .inr rfl)) (fun _ _ _ _ _ => callO (hr := hr.mono (by decide)) Fr rfl hmr hkr hbr .nil (PAO.of (pa_cons (pv 2) pa_nil)))) anilO)))) soO snilO) ?_
    refine ⟨rfl, Ex.refl _, fun vs H5 e5 dv => ?_⟩
    obtain ⟨v5, rfl, dv5⟩ := dpAll_one dv
    obtain rfl := dp_int dv5
    refine ⟨5, rfl, by decide, by decide, fun L hL => ?_⟩
    have sr5 := sr.ex e5
    have hq5 : H5 q ≠ none := by
      obtain ⟨vs, h⟩ := sr5.at'
      rw [h]
      simp
    have hLq : L ≠ q := fun z => hq5 (by rw [← z]; exact hL)
    have e35 : Ex H H5 := e3.trans (e4.trans e5)
    have sx : ∀ {H' : Hp}, Sx q H H' → Ex H H' := fun h b o e => h b o (fun z => by subst z; rw [hqH] at e; cases e) e
    refine lc_it walk_range (fun j H' => Sx q H H' ∧ SrcAt (2 ^ 39 - 40 * j) H' q ∧ H' L = some (.lst (List.replicate j (.bl true)))) ⟨?_, ?_, upd_same⟩ (fun _ _ _ _ => trivial) ?_ ?_
    · exact sx_upd (Sx.of e35) (by
        cases h : H L with
        | none => rfl
        | some o => have := e35 L o h; rw [hL] at this; cases this)
    · exact (SrcAt.ne hLq sr5).le (by omega)
    · rintro j x H6 H7 hj ⟨sx6, sr6, hl6⟩ ⟨e7, hx⟩
      subst e7 hx
      refine g1_run (i := 3) ?_
      refine ⟨rfl, ?_⟩
      unfold tYes
      dsimp only
      rw [if_pos rfl]
      refine ⟨.ref q, rfl, ?_⟩
      show SpRight ([.ref q] ++ []) H7 (fun y H4 => ∃ acc, H4 L = some (.lst acc) ∧ acc.length < sizeLine ∧ Sx q H (upd H4 L (.lst (acc ++ [y]))) ∧ SrcAt (2 ^ 39 - 40 * (j + 1)) (upd H4 L (.lst (acc ++ [y]))) q ∧ upd H4 L (.lst (acc ++ [y])) L = some (.lst (List.replicate (j + 1) (V.bl true)))) (fun _ _ _ => False)
      have hj5 : j < 5 := hj
      refine ⟨q, 2 ^ 39 - 40 * (j + 1), rfl, sr6.le (by omega), fun H8 sx8 sr8 => ⟨List.replicate j (.bl true), sx8 L _ hLq hl6, by rw [List.length_replicate, sizeLine_eq]; omega, ?_, SrcAt.ne hLq sr8, ?_⟩⟩
      · exact sx_upd (sx6.trans sx8) (by
          cases h : H L with
          | none => rfl
          | some o => have := e35 L o h; rw [hL] at this; cases this)
      · rw [upd_same, List.replicate_succ']
    · rintro H6 ⟨sx6, sr6, hl6⟩
      refine ⟨L, List.replicate 5 true, rfl, .inl (.inl hl6), true, rfl, ?_⟩
      refine iteF ?_
      exact soNil ⟨_, _, _, rfl, sx sx6⟩
  · rintro σ' H' ⟨a1, a2, a3, rfl, e3⟩
    exact SO.of (sxRet xB fun v H5 e5 d => by obtain rfl := dp_bl d; exact k H5)
end
end GX
end SGLaw
section SGAsm
set_option linter.all false
set_option maxRecDepth 100000
set_option maxHeartbeats 1000000
/-! the defs chained (printed by genasm.py) -/
namespace GX
open PySem PySem.Spec PyProof.Rows L2
open OL
structure Fx (K : PySem.W.Frag) (mg : Str → Option Value) : Prop where
  B : BM mg
  C : MC mg
  hK : KDI K mg "COMPANIONS" (fun k => dLs (compL k)) compDom
  hO : ∃ a, mg "OTHERS_FOR_FOUR" = some (.ref a) ∧ ∀ H', Dp K H' (.ref a) (dLs ffL)
  cd : ∃ f cdv, CD K mg f cdv
  d_capacity : Df K mg "capacity" sCapacity pCapacity
  d_slack : Df K mg "slack" sSlack pSlack
  d_is_integer : DfN K mg "is_integer" sIsInteger pIsInteger
  d_step_of : Df K mg "step_of" sStepOf pStepOf
  d_steps_in : Df K mg "steps_in" sStepsIn pStepsIn
  d_boxes_in : Df K mg "boxes_in" sBoxesIn pBoxesIn
  d_singles_in : Df K mg "singles_in" sSinglesIn pSinglesIn
  d_how_often : Df K mg "how_often" sHowOften pHowOften
  d_lap_count : Df K mg "lap_count" sLapCount pLapCount
  d_without : Df K mg "without" sWithout pWithout
  d_waste_of : Df K mg "waste_of" sWasteOf pWasteOf
  d_packed : Df K mg "packed" sPacked pPacked
  d_fewest_packed : Df K mg "fewest_packed" sFewestPacked pFewestPacked
  d_fewest_laps : Df K mg "fewest_laps" sFewestLaps pFewestLaps
  d_is_lap : Df K mg "is_lap" sIsLap pIsLap
  d_boxes_of_plan : Df K mg "boxes_of_plan" sBoxesOfPlan pBoxesOfPlan
  d_is_plan : Df K mg "is_plan" sIsPlan pIsPlan
  d_law_step : Df K mg "_law_step" sLawStep pLawStep
  d_law_small_laps : Df K mg "_law_small_laps" sLawSmallLaps pLawSmallLaps
  d_law_laps : Df K mg "_law_laps" sLawLaps pLawLaps
  d_law_boxes : Df K mg "_law_boxes" sLawBoxes pLawBoxes
  d_law_is_whole : Df K mg "_law_is_whole" sLawIsWhole pLawIsWhole
  d_law_plan_waste : Df K mg "_law_plan_waste" sLawPlanWaste pLawPlanWaste
  d_law_is_lap : Df K mg "_law_is_lap" sLawIsLap pLawIsLap
  d_law_is_plan : Df K mg "_law_is_plan" sLawIsPlan pLawIsPlan
  d_law_number : Df K mg "_law_number" sLawNumber pLawNumber
  d_law_lasts : Df K mg "_law_lasts" sLawLasts pLawLasts
  d_law_waste : Df K mg "_law_waste" sLawWaste pLawWaste
  d_law_filled : Df K mg "_law_filled" sLawFilled pLawFilled
  d_law_choice : Df K mg "_law_choice" sLawChoice pLawChoice
  d_law_source : Df K mg "_law_source" sLawSource pLawSource
  d_law_far : Df K mg "_law_far" sLawFar pLawFar
  d_best_plan : Df K mg "best_plan" sBestPlan pBestPlan
  d_least_waste : Df K mg "least_waste" sLeastWaste pLeastWaste
  d_lap_plan : Df K mg "lap_plan" sLapPlan pLapPlan
  d_least_length_of : Df K mg "least_length_of" sLeastLengthOf pLeastLengthOf
  d_shows_plan : Df K mg "shows_plan" sShowsPlan pShowsPlan
  d_law_spoilt_right : Df K mg "_law_spoilt_right" sLawSpoiltRight pLawSpoiltRight
  d_law_right : Df K mg "_law_right" sLawRight pLawRight
theorem law_ok {P : Program} {w : World} {K : PySem.W.Frag} {mg : Str → Option Value} {base : Heap} (X : Fx K mg) {f : Addr} {fd : FuncData} (F : Fun K "law" "law" sLaw f fd) : FnX P w K mg base 27 f fd pLaw (SpLaw K) := by
  have c_capacity := cl_capacity (P := P) (w := w) (base := base) X.d_capacity
  have c_slack := cl_slack (P := P) (w := w) (base := base) c_capacity X.d_slack
  have c_is_integer := cl_is_integer (P := P) (w := w) (base := base) X.B X.d_is_integer
  have c_step_of := cl_step_of (P := P) (w := w) (base := base) X.C c_slack X.d_step_of
  have c_steps_in := cl_steps_in (P := P) (w := w) (base := base) X.C c_step_of X.d_steps_in
  have c_boxes_in := cl_boxes_in (P := P) (w := w) (base := base) X.B X.C c_steps_in X.d_boxes_in
  have c_singles_in := cl_singles_in (P := P) (w := w) (base := base) X.B X.C c_steps_in X.d_singles_in
  have c_how_often := cl_how_often (P := P) (w := w) (base := base) X.B X.d_how_often
  have c_lap_count := cl_lap_count (P := P) (w := w) (base := base) X.B X.d_lap_count
  have c_without := cl_without (P := P) (w := w) (base := base) X.B X.d_without
  have c_waste_of := cl_waste_of (P := P) (w := w) (base := base) X.B X.d_waste_of
  have c_packed := cl_packed (P := P) (w := w) (base := base) X.B X.C X.hK c_how_often X.d_packed
  have c_fewest_packed := cl_fewest_packed (P := P) (w := w) (base := base) X.B X.C X.hK X.hO c_packed c_lap_count X.d_fewest_packed
  have c_fewest_laps := cl_fewest_laps (P := P) (w := w) (base := base) c_lap_count c_fewest_packed c_boxes_in X.d_fewest_laps
  have c_is_lap := cl_is_lap (P := P) (w := w) (base := base) X.B X.C c_is_integer X.d_is_lap
  have c_boxes_of_plan := cl_boxes_of_plan (P := P) (w := w) (base := base) X.d_boxes_of_plan
  have c_is_plan := cl_is_plan (P := P) (w := w) (base := base) X.B c_is_lap c_boxes_of_plan X.d_is_plan
  have c_law_step := cl_law_step (P := P) (w := w) (base := base) X.d_law_step
  have c_law_small_laps := cl_law_small_laps (P := P) (w := w) (base := base) X.B X.d_law_small_laps
  have c_law_laps := cl_law_laps (P := P) (w := w) (base := base) X.B c_law_small_laps X.d_law_laps
  have c_law_boxes := cl_law_boxes (P := P) (w := w) (base := base) X.B c_law_step X.d_law_boxes
  have c_law_is_whole := cl_law_is_whole (P := P) (w := w) (base := base) X.B X.d_law_is_whole
  have c_law_plan_waste := cl_law_plan_waste (P := P) (w := w) (base := base) X.B X.d_law_plan_waste
  have c_law_is_lap := cl_law_is_lap (P := P) (w := w) (base := base) X.B c_law_is_whole X.d_law_is_lap
  have c_law_is_plan := cl_law_is_plan (P := P) (w := w) (base := base) X.B c_law_is_lap X.d_law_is_plan
  have c_law_number := cl_law_number (P := P) (w := w) (base := base) X.d_law_number
  have c_law_lasts := cl_law_lasts (P := P) (w := w) (base := base) X.B X.d_law_lasts
  have c_law_waste := cl_law_waste (P := P) (w := w) (base := base) X.B c_law_laps c_law_lasts X.d_law_waste
  have c_law_filled := cl_law_filled (P := P) (w := w) (base := base) X.B X.d_law_filled
  have c_law_choice := cl_law_choice (P := P) (w := w) (base := base) X.B c_law_number X.d_law_choice
  have c_law_source := cl_law_source (P := P) (w := w) (base := base) X.B X.d_law_source
  have c_law_far := cl_law_far (P := P) (w := w) (base := base) X.B c_law_number c_law_choice X.d_law_far
  have cX_best_plan := clX_best_plan (P := P) (w := w) (base := base) X.B X.cd c_fewest_packed c_without c_lap_count X.d_best_plan
  have cX_least_waste := clX_least_waste (P := P) (w := w) (base := base) cX_best_plan c_waste_of c_boxes_in X.d_least_waste
  have cX_lap_plan := clX_lap_plan (P := P) (w := w) (base := base) cX_best_plan c_boxes_in X.d_lap_plan
  have cX_least_length_of := clX_least_length_of (P := P) (w := w) (base := base) X.B cX_least_waste c_singles_in X.d_least_length_of
  have cX_shows_plan := clX_shows_plan (P := P) (w := w) (base := base) X.B cX_least_waste c_singles_in c_boxes_in c_is_plan c_waste_of X.d_shows_plan
  have cX_law_spoilt_right := clX_law_spoilt_right (P := P) (w := w) (base := base) X.B cX_shows_plan c_law_boxes c_law_waste c_law_is_plan c_law_plan_waste X.d_law_spoilt_right
  have cX_law_right := clX_law_right (P := P) (w := w) (base := base) X.B c_law_number c_law_choice c_law_far c_law_boxes c_law_waste c_fewest_laps c_law_laps cX_least_length_of cX_lap_plan c_law_is_plan c_law_plan_waste c_law_filled cX_shows_plan cX_law_spoilt_right X.d_law_right
  exact fnX_law X.B c_law_source cX_law_right F
end GX
end SGAsm
section SGFx
set_option linter.all false
set_option maxRecDepth 100000
set_option maxHeartbeats 1000000
/-! what the module's top leaves, as the defs' promises want it -/
namespace GX
open PySem PySem.Spec PyProof.Rows L2
open OL
/-- a value of the top's part is the data -/
def dpB (K : PySem.W.Frag) : Nat → PyData → Value → Bool
  | _, .int i, .int j _ => decide (i = j)
  | n + 1, .tuple ds, .ref a => (match K.lookup a with
    | some ⟨.type t, _, .seq its _, _⟩ => t == "tuple" && decide (its.size ≤ 100) && decide (its.toList.length = ds.length) && (ds.zip its.toList).all fun p => dpB K n p.1 p.2
    | _ => false)
  | _, _, _ => false
theorem dpB_tup (K : PySem.W.Frag) {n : Nat} (ih : ∀ (d : PyData) (u : Value), dpB K n d u = true → ∃ v, RelV v u ∧ (∀ H, Dp K H v d) ∧ ∀ a, u = .ref a → v = .ref a) (ds : List PyData) (a : Addr) (h : dpB K (n + 1) (.tuple ds) (.ref a) = true) : ∃ v, RelV v (.ref a) ∧ (∀ H, Dp K H v (.tuple ds)) ∧ ∀ b, Value.ref a = .ref b → v = .ref b := by
  rw [dpB] at h
  split at h
  · rename_i t dd its m sl hl
    simp only [Bool.and_eq_true, decide_eq_true_eq, beq_iff_eq] at h
    obtain ⟨⟨⟨ht, hz⟩, hlen⟩, hall⟩ := h
    subst ht
    have items : ∀ (ds : List PyData) (us : List Value), us.length = ds.length → ((ds.zip us).all fun p => dpB K n p.1 p.2) = true → ∃ vs, Vals vs us ∧ ∀ H, DpAll K H vs ds := fun ds => by
      induction ds with
      | nil =>
        intro us hl _
        cases us with
        | nil => exact ⟨[], .nil, fun H => .nil⟩
        | cons _ _ => simp at hl
      | cons d ds ihd =>
        intro us hl ha
        cases us with
        | nil => simp at hl
        | cons u us =>
          rw [List.zip_cons_cons, List.all_cons, Bool.and_eq_true] at ha
          obtain ⟨v, r1, r2, _⟩ := ih d u ha.1
          obtain ⟨vs, q1, q2⟩ := ihd us (by simpa using hl) ha.2
          exact ⟨v :: vs, .cons r1 q1, fun H => .cons (r2 H) (q2 H)⟩
    obtain ⟨vs, r1, r2⟩ := items ds its.toList hlen hall
    exact ⟨.ref a, rfl, fun H => .tup (.inr ⟨_, its, m, hl, rfl, rfl, by rw [sizeLine_eq]; omega, r1⟩) (r2 H), fun b e => by cases e; rfl⟩
  · cases h
theorem dpB_ok (K : PySem.W.Frag) : ∀ (n : Nat) (d : PyData) (u : Value), dpB K n d u = true → ∃ v, RelV v u ∧ (∀ H, Dp K H v d) ∧ ∀ a, u = .ref a → v = .ref a := by
  intro n
  induction n with
  | zero =>
    intro d u h
    cases d <;> cases u <;> first
      | exact ⟨.int _, ⟨_, by rw [dpB] at h; rw [(of_decide_eq_true h)]⟩, fun H => .int _, fun a e => nomatch e⟩
      | (simp [dpB] at h; done)
  | succ n ih =>
    intro d u h
    cases d <;> cases u <;> first
      | exact ⟨.int _, ⟨_, by rw [dpB] at h; rw [(of_decide_eq_true h)]⟩, fun H => .int _, fun a e => nomatch e⟩
      | exact dpB_tup K ih _ _ h
      | (simp [dpB] at h; done)
section
variable {K : PySem.W.Frag} {h : Heap} {mg : Str → Option Value} {x : Str} {st : Stmt} {f A T t0 : Addr} {od an od2 od3 : Option Addr} {osl osl2 osl3 : Array (Option Value)} {oc oc2 oc3 kV doc pm cdv ct : Value} {ps : List Str} {n n3 : Nat}
theorem df_of (X : K.In h) (G : h.Ns mainGlobals mg) (a : PySem.W.nsIn K mainGlobals x = some (some (.ref f))) (l : K.lookup f = some ⟨oc, od, .func (PySem.W.fnOf x x (defArgs st) (defBody st) (defScope st) .none kV doc pm an cdv ct), osl⟩)
    (c : PySem.W.codeIn K cdv x = true) (k : PySem.W.keepIn K (.ref f) = true) (hb : ∀ (kV doc pm : Value) (an : Option Addr) (cdv ct : Value) (us : List Value), us.length = ps.length → bindArgs (PySem.W.fnOf x x (defArgs st) (defBody st) (defScope st) .none kV doc pm an cdv ct) ⟨us, []⟩ = pure (ps.zip us)) : Df K mg x st ps :=
  ⟨f, _, fun_mk l c k, PySem.W.mg_of X G a, Fun.binds (fun_mk l c k) hb⟩
theorem ns_none (X : K.In h) (G : h.Ns mainGlobals mg) (a : PySem.W.nsIn K mainGlobals x = some none) : mg x = none := PySem.W.mg_none_of X G a
theorem ns_str {z : Str} {t : Tok} (X : K.In h) (G : h.Ns mainGlobals mg) (a : PySem.W.nsIn K mainGlobals x = some (some (.str z t))) : ∃ t, mg x = some (.str z t) := ⟨t, PySem.W.mg_of X G a⟩
theorem ns_int {z : Int} {t : Tok} (X : K.In h) (G : h.Ns mainGlobals mg) (a : PySem.W.nsIn K mainGlobals x = some (some (.int z t))) : ∃ t, mg x = some (.int z t) := ⟨t, PySem.W.mg_of X G a⟩
theorem oth_of (X : K.In h) (G : h.Ns mainGlobals mg) (a : PySem.W.nsIn K mainGlobals "OTHERS_FOR_FOUR" = some (some (.ref A))) (d : dpB K 3 (dLs ffL) (.ref A) = true) : ∃ a, mg "OTHERS_FOR_FOUR" = some (.ref a) ∧ ∀ H', Dp K H' (.ref a) (dLs ffL) := by
  obtain ⟨v, _, h2, h3⟩ := dpB_ok K 3 _ _ d
  obtain rfl := h3 A rfl
  exact ⟨A, PySem.W.mg_of X G a, h2⟩
/-- the dict's keys and values, looked at -/
def kdB (K : PySem.W.Frag) (es : Array DictEntry) : Bool :=
  es.toList.all (fun e => match e.key with | .int i _ => decide (e.hash = PySem.hashInt i) | _ => false) && ([2, 3, 4, 5, 6, 7] : List Int).all fun k => match findBy Value.isInt es k with | some u => dpB K 3 (dLs (compL k)) u | none => false
theorem kdi_of {es : Array DictEntry} (X : K.In h) (G : h.Ns mainGlobals mg) (a : PySem.W.nsIn K mainGlobals "COMPANIONS" = some (some (.ref A))) (l : K.lookup A = some ⟨.type "dict", none, .dict es n, #[]⟩) (d : kdB K es = true) : KDI K mg "COMPANIONS" (fun k => dLs (compL k)) compDom := by
  unfold kdB at d
  rw [Bool.and_eq_true] at d
  refine ⟨A, es, n, PySem.W.mg_of X G a, l, fun P w e he => ?_, fun k hk => ?_⟩
  · have h1 := List.all_eq_true.mp d.1 e (by simpa using he)
    split at h1
    · rename_i i t hi
      exact ⟨i, by rw [hi]; exact beq_self_eq_true i, of_decide_eq_true h1⟩
    · cases h1
  · have hm : k ∈ ([2, 3, 4, 5, 6, 7] : List Int) := by
      obtain ⟨h1, h2⟩ := hk
      rcases (by omega : k = 2 ∨ k = 3 ∨ k = 4 ∨ k = 5 ∨ k = 6 ∨ k = 7) with rfl | rfl | rfl | rfl | rfl | rfl <;> decide
    have h1 := List.all_eq_true.mp d.2 k hm
    split at h1
    · rename_i u hu
      obtain ⟨v, r1, r2, _⟩ := dpB_ok K 3 _ _ h1
      exact ⟨u, v, fun P w => hu, r1, r2⟩
    · cases h1
theorem isint_of (X : K.In h) (G : h.Ns mainGlobals mg) (a : PySem.W.nsIn K mainGlobals "is_integer" = some (some (.ref f))) (l : K.lookup f = some ⟨oc, od, .func (PySem.W.fnOf "is_integer" "is_integer" (defArgs sIsInteger) (defBody sIsInteger) (defScope sIsInteger) (.ref T) kV doc pm an cdv ct), osl⟩)
    (c : PySem.W.codeIn K cdv "is_integer" = true) (k : PySem.W.keepIn K (.ref f) = true) (lT : K.lookup T = some ⟨oc2, od2, .seq #[.none] n, osl2⟩) : DfN K mg "is_integer" sIsInteger pIsInteger := by
  have F : FunD K "is_integer" "is_integer" (defArgs sIsInteger) (defBody sIsInteger) (defScope sIsInteger) [.non] [] f (PySem.W.fnOf "is_integer" "is_integer" (defArgs sIsInteger) (defBody sIsInteger) (defScope sIsInteger) (.ref T) kV doc pm an cdv ct) :=
    ⟨⟨oc, od, _, kV, doc, pm, an, cdv, ct, osl, rfl, l, c, .inr ⟨by simp, T, _, [.none], n, rfl, lT, rfl, .cons rfl .nil⟩, .inl rfl⟩, k⟩
  obtain ⟨ds, v1, b1⟩ := F.binds1 (ps := pIsInteger) 2 0 (by simp) rfl fun T kV doc pm an cdv ct us its hu hi => match us, its, hu, hi with | [_, _], [_], _, _ => ⟨_, rfl, rfl⟩
  obtain ⟨es, v2, b2⟩ := F.binds1 (ps := pIsInteger) 3 1 (by simp) rfl fun T kV doc pm an cdv ct us its hu hi => match us, its, hu, hi with | [_, _, _], [_], _, _ => ⟨_, rfl, rfl⟩
  have e1 : ds = [.none] := by
    cases v1 with
    | cons r t => cases t; exact congrArg (· :: []) r
  have e2 : es = [] := by cases v2; rfl
  subst e1 e2
  exact ⟨f, _, ⟨oc, od, _, kV, doc, pm, an, cdv, ct, osl, rfl, l, c⟩, PySem.W.mg_of X G a, k, b2, b1⟩
theorem cd_of (B : BM mg) (X : K.In h) (G : h.Ns mainGlobals mg) (a : PySem.W.nsIn K mainGlobals "contents" = some (some (.ref f))) (l : K.lookup f = some ⟨oc, od, .func (PySem.W.fnOf "contents" "contents" (defArgs sContents) (defBody sContents) (defScope sContents) (.ref T) kV doc pm an cdv ct), osl⟩)
    (c : PySem.W.codeIn K cdv "contents" = true) (k : PySem.W.keepIn K (.ref f) = true) (lT : K.lookup T = some ⟨oc2, od2, .seq #[.ref t0] n, osl2⟩) (l0 : K.lookup t0 = some ⟨.type "tuple", od3, .seq #[] n3, osl3⟩) : ∃ f cdv, CD K mg f cdv := by
  have F : FunD K "contents" "contents" (defArgs sContents) (defBody sContents) (defScope sContents) [.ref t0] [] f (PySem.W.fnOf "contents" "contents" (defArgs sContents) (defBody sContents) (defScope sContents) (.ref T) kV doc pm an cdv ct) :=
    ⟨⟨oc, od, _, kV, doc, pm, an, cdv, ct, osl, rfl, l, c, .inr ⟨by simp, T, _, [.ref t0], n, rfl, lT, rfl, .cons rfl .nil⟩, .inl rfl⟩, k⟩
  obtain ⟨ds, v1, b1⟩ := F.binds1 (ps := ["unit", "boxes", "ahead"]) 2 0 (by simp) rfl fun T kV doc pm an cdv ct us its hu hi => match us, its, hu, hi with | [_, _], [_], _, _ => ⟨_, rfl, rfl⟩
  obtain ⟨es, v2, b2⟩ := F.binds1 (ps := ["unit", "boxes", "ahead"]) 3 1 (by simp) rfl fun T kV doc pm an cdv ct us its hu hi => match us, its, hu, hi with | [_, _, _], [_], _, _ => ⟨_, rfl, rfl⟩
  have e2 : es = [] := by cases v2; rfl
  subst e2
  exact ⟨f, cdv, ⟨⟨oc, od, osl, _, kV, doc, pm, ct, an, l, b2⟩, c, k, PySem.W.mg_of X G a, B.tuple, B.sorted, B.sum⟩, oc, od, osl, _, kV, doc, pm, ct, an, t0, ds, l, b1, v1, fun H => .inr ⟨_, #[], n3, l0, rfl, rfl, by decide, .nil⟩⟩
theorem lawF_of {l0 : PySem.W.OpenLaw} {w : World} {fa : Addr} (X : K.In h) (G : h.Ns mainGlobals mg) (hfa : mg "law" = some (.ref fa)) (Fc : Fx K mg) (a : PySem.W.nsIn K mainGlobals "law" = some (some (.ref f))) (l : K.lookup f = some ⟨oc, od, .func (PySem.W.fnOf "law" "law" (defArgs sLaw) (defBody sLaw) (defScope sLaw) .none kV doc pm an cdv ct), osl⟩)
    (c : PySem.W.codeIn K cdv "law" = true) (k : PySem.W.keepIn K (.ref f) = true) : ∃ fd : FuncData, (∀ (s : Shared) (v : Value), BindsTo s fd ⟨[v], []⟩ [("_law_script", v)]) ∧ ∀ base : Heap, K.In base → base.Ns mainGlobals mg → FnX l0.prog w K mg base 27 fa fd ["_law_script"] (SpLaw K) := by
  have e := hfa.symm.trans (PySem.W.mg_of X G a)
  cases e
  exact ⟨_, fun s v => .of_eq rfl, fun base _ _ => law_ok Fc (fun_mk l c k)⟩
end
theorem walk27 {l : PySem.W.OpenLaw} {q : Program} {loose : List Str} {XP : (Str → Option Value) → Heap → Prop} {YP : World → Heap → Prop} {d : DefRec} {K : Params → PySem.W.Frag} (hn : l.most = some 63) (hdf : d.params.defaults = [])
    (hY : ∀ (w : World) (h : Heap), YP w h → (K w.params).In h)
    (F : ∀ (w : World) (mg : Str → Option Value) (fa : Addr) (h : Heap), (K w.params).In h → h.Ns mainGlobals mg → mg d.name = some (.ref fa) → ∃ fd : FuncData, (∀ (s : Shared) (u : Value), BindsTo s fd ⟨[u], []⟩ [("_law_script", u)]) ∧ ∀ base : Heap, (K w.params).In base → base.Ns mainGlobals mg → FnX l.prog w (K w.params) mg base 27 fa fd ["_law_script"] (SpLaw (K w.params))) : WalkX q loose XP YP l.row.toRowW d [] :=
  walkX_of (n := 63) (k := 27) (x := "_law_script") (sp := fun w => SpLaw (K w.params)) hn (by decide) hdf ⟨rfl, by decide, by decide⟩ hY F fun w H a ns hl hO hS => ⟨a, ns, rfl, hS, fun H' => rfl⟩
end GX
end SGFx
section SGBnd
set_option linter.all false
set_option maxRecDepth 100000
/-! how each def takes its values (printed by genfin.py) -/
namespace GX
open PySem PySem.Spec PyProof.Rows L2
open OL
def BdT (x : Str) (st : Stmt) (ps : List Str) : Prop := ∀ (kV doc pm : Value) (an : Option Addr) (cdv ct : Value) (us : List Value), us.length = ps.length → bindArgs (PySem.W.fnOf x x (defArgs st) (defBody st) (defScope st) .none kV doc pm an cdv ct) ⟨us, []⟩ = pure (ps.zip us)
theorem bd_capacity : BdT "capacity" sCapacity pCapacity := fun _ _ _ _ _ _ us hl => match us, hl with | [_], _ => rfl
theorem bd_slack : BdT "slack" sSlack pSlack := fun _ _ _ _ _ _ us hl => match us, hl with | [_, _], _ => rfl
theorem bd_step_of : BdT "step_of" sStepOf pStepOf := fun _ _ _ _ _ _ us hl => match us, hl with | [_, _], _ => rfl
theorem bd_steps_in : BdT "steps_in" sStepsIn pStepsIn := fun _ _ _ _ _ _ us hl => match us, hl with | [_, _], _ => rfl
theorem bd_boxes_in : BdT "boxes_in" sBoxesIn pBoxesIn := fun _ _ _ _ _ _ us hl => match us, hl with | [_, _], _ => rfl
theorem bd_singles_in : BdT "singles_in" sSinglesIn pSinglesIn := fun _ _ _ _ _ _ us hl => match us, hl with | [_, _], _ => rfl
theorem bd_how_often : BdT "how_often" sHowOften pHowOften := fun _ _ _ _ _ _ us hl => match us, hl with | [_, _], _ => rfl
theorem bd_lap_count : BdT "lap_count" sLapCount pLapCount := fun _ _ _ _ _ _ us hl => match us, hl with | [_], _ => rfl
theorem bd_without : BdT "without" sWithout pWithout := fun _ _ _ _ _ _ us hl => match us, hl with | [_, _], _ => rfl
theorem bd_waste_of : BdT "waste_of" sWasteOf pWasteOf := fun _ _ _ _ _ _ us hl => match us, hl with | [_, _], _ => rfl
theorem bd_packed : BdT "packed" sPacked pPacked := fun _ _ _ _ _ _ us hl => match us, hl with | [_, _, _], _ => rfl
theorem bd_fewest_packed : BdT "fewest_packed" sFewestPacked pFewestPacked := fun _ _ _ _ _ _ us hl => match us, hl with | [_, _], _ => rfl
theorem bd_fewest_laps : BdT "fewest_laps" sFewestLaps pFewestLaps := fun _ _ _ _ _ _ us hl => match us, hl with | [_, _], _ => rfl
theorem bd_is_lap : BdT "is_lap" sIsLap pIsLap := fun _ _ _ _ _ _ us hl => match us, hl with | [_, _], _ => rfl
theorem bd_boxes_of_plan : BdT "boxes_of_plan" sBoxesOfPlan pBoxesOfPlan := fun _ _ _ _ _ _ us hl => match us, hl with | [_], _ => rfl
theorem bd_is_plan : BdT "is_plan" sIsPlan pIsPlan := fun _ _ _ _ _ _ us hl => match us, hl with | [_, _, _], _ => rfl
theorem bd_law_step : BdT "_law_step" sLawStep pLawStep := fun _ _ _ _ _ _ us hl => match us, hl with | [_, _], _ => rfl
theorem bd_law_small_laps : BdT "_law_small_laps" sLawSmallLaps pLawSmallLaps := fun _ _ _ _ _ _ us hl => match us, hl with | [_, _], _ => rfl
theorem bd_law_laps : BdT "_law_laps" sLawLaps pLawLaps := fun _ _ _ _ _ _ us hl => match us, hl with | [_, _], _ => rfl
theorem bd_law_boxes : BdT "_law_boxes" sLawBoxes pLawBoxes := fun _ _ _ _ _ _ us hl => match us, hl with | [_, _], _ => rfl
theorem bd_law_is_whole : BdT "_law_is_whole" sLawIsWhole pLawIsWhole := fun _ _ _ _ _ _ us hl => match us, hl with | [_], _ => rfl
theorem bd_law_plan_waste : BdT "_law_plan_waste" sLawPlanWaste pLawPlanWaste := fun _ _ _ _ _ _ us hl => match us, hl with | [_, _], _ => rfl
theorem bd_law_is_lap : BdT "_law_is_lap" sLawIsLap pLawIsLap := fun _ _ _ _ _ _ us hl => match us, hl with | [_, _], _ => rfl
theorem bd_law_is_plan : BdT "_law_is_plan" sLawIsPlan pLawIsPlan := fun _ _ _ _ _ _ us hl => match us, hl with | [_, _, _], _ => rfl
theorem bd_law_number : BdT "_law_number" sLawNumber pLawNumber := fun _ _ _ _ _ _ us hl => match us, hl with | [_, _], _ => rfl
theorem bd_law_lasts : BdT "_law_lasts" sLawLasts pLawLasts := fun _ _ _ _ _ _ us hl => match us, hl with | [_, _], _ => rfl
theorem bd_law_waste : BdT "_law_waste" sLawWaste pLawWaste := fun _ _ _ _ _ _ us hl => match us, hl with | [_, _], _ => rfl
theorem bd_law_filled : BdT "_law_filled" sLawFilled pLawFilled := fun _ _ _ _ _ _ us hl => match us, hl with | [_, _, _], _ => rfl
theorem bd_law_choice : BdT "_law_choice" sLawChoice pLawChoice := fun _ _ _ _ _ _ us hl => match us, hl with | [_, _], _ => rfl
theorem bd_law_source : BdT "_law_source" sLawSource pLawSource := fun _ _ _ _ _ _ us hl => match us, hl with | [_, _], _ => rfl
theorem bd_law_far : BdT "_law_far" sLawFar pLawFar := fun _ _ _ _ _ _ us hl => match us, hl with | [_, _], _ => rfl
theorem bd_best_plan : BdT "best_plan" sBestPlan pBestPlan := fun _ _ _ _ _ _ us hl => match us, hl with | [_, _], _ => rfl
theorem bd_least_waste : BdT "least_waste" sLeastWaste pLeastWaste := fun _ _ _ _ _ _ us hl => match us, hl with | [_, _], _ => rfl
theorem bd_lap_plan : BdT "lap_plan" sLapPlan pLapPlan := fun _ _ _ _ _ _ us hl => match us, hl with | [_, _], _ => rfl
theorem bd_least_length_of : BdT "least_length_of" sLeastLengthOf pLeastLengthOf := fun _ _ _ _ _ _ us hl => match us, hl with | [_, _], _ => rfl
theorem bd_shows_plan : BdT "shows_plan" sShowsPlan pShowsPlan := fun _ _ _ _ _ _ us hl => match us, hl with | [_, _, _], _ => rfl
theorem bd_law_spoilt_right : BdT "_law_spoilt_right" sLawSpoiltRight pLawSpoiltRight := fun _ _ _ _ _ _ us hl => match us, hl with | [_, _, _], _ => rfl
theorem bd_law_right : BdT "_law_right" sLawRight pLawRight := fun _ _ _ _ _ _ us hl => match us, hl with | [_], _ => rfl
end GX
end SGBnd
set_option maxRecDepth 100000
namespace GXH
open PySem PySem.W PyProof.Rows in
set_option maxRecDepth 100000 in
set_option maxHeartbeats 0 in
theorem top : PySem.Challenge.rw_oneload_k42_whole_far_numbers_of_fields.Holds := by
  w_on; o_law; k_head; (case hw => w_witness2)
  k_fill
  refine GX.walk27 (l := PySem.Challenge.rw_oneload_k42_whole_far_numbers_of_fields) rfl rfl (fun w h Y => PySem.W.kIn_of Y) ?F
  case F =>
    intro w mg fa h KX G hmg
    have B : GX.BM mg := by
      refine ⟨?b_all, ?b_abs, ?b_bool, ?b_dict, ?b_enumerate, ?b_int, ?b_isinstance, ?b_len, ?b_list, ?b_max, ?b_min, ?b_range, ?b_repr, ?b_set, ?b_sorted, ?b_sum, ?b_tuple⟩
      all_goals (refine GX.ns_none KX G ?_; k_is)
    have C : GX.MC mg := by
      refine' ⟨GX.ns_str KX G ?z1, GX.ns_str KX G ?z2, GX.ns_int KX G ?z3, GX.ns_int KX G ?z4, GX.ns_int KX G ?z5⟩
      (case z1 => k_is); (case z2 => k_is); (case z3 => k_is); (case z4 => k_is); (case z5 => k_is)
    refine' GX.lawF_of KX G hmg ⟨B, C, ?hK, ?hO, ?cd, ?d_capacity, ?d_slack, ?d_is_integer, ?d_step_of, ?d_steps_in, ?d_boxes_in, ?d_singles_in, ?d_how_often, ?d_lap_count, ?d_without, ?d_waste_of, ?d_packed, ?d_fewest_packed, ?d_fewest_laps, ?d_is_lap, ?d_boxes_of_plan, ?d_is_plan, ?d_law_step, ?d_law_small_laps, ?d_law_laps, ?d_law_boxes, ?d_law_is_whole, ?d_law_plan_waste, ?d_law_is_lap, ?d_law_is_plan, ?d_law_number, ?d_law_lasts, ?d_law_waste, ?d_law_filled, ?d_law_choice, ?d_law_source, ?d_law_far, ?d_best_plan, ?d_least_waste, ?d_lap_plan, ?d_least_length_of, ?d_shows_plan, ?d_law_spoilt_right, ?d_law_right⟩ ?a ?l ?c ?k
    case a => k_is
    case l => k_is
    case c => k_is
    case k => k_is
    case hK =>
      refine' GX.kdi_of KX G ?a ?l ?d
      (case a => k_is); (case l => k_is); (case d => kernel_rfl)
    case hO =>
      refine' GX.oth_of KX G ?a ?d
      (case a => k_is); (case d => kernel_rfl)
    case cd =>
      refine' GX.cd_of B KX G ?a ?l ?c ?k ?t ?z
      (case a => k_is); (case l => k_is); (case c => k_is); (case k => k_is); (case t => k_is); (case z => k_is)
    case d_capacity =>
      refine' GX.df_of KX G ?a ?l ?c ?k GX.bd_capacity
      (case a => k_is); (case l => k_is); (case c => k_is); (case k => k_is)
    case d_slack =>
      refine' GX.df_of KX G ?a ?l ?c ?k GX.bd_slack
      (case a => k_is); (case l => k_is); (case c => k_is); (case k => k_is)
    case d_is_integer =>
      refine' GX.isint_of KX G ?a ?l ?c ?k ?t
      (case a => k_is); (case l => k_is); (case c => k_is); (case k => k_is); (case t => k_is)
    case d_step_of =>
      refine' GX.df_of KX G ?a ?l ?c ?k GX.bd_step_of
      (case a => k_is); (case l => k_is); (case c => k_is); (case k => k_is)
    case d_steps_in =>
      refine' GX.df_of KX G ?a ?l ?c ?k GX.bd_steps_in
      (case a => k_is); (case l => k_is); (case c => k_is); (case k => k_is)
    case d_boxes_in =>
      refine' GX.df_of KX G ?a ?l ?c ?k GX.bd_boxes_in
      (case a => k_is); (case l => k_is); (case c => k_is); (case k => k_is)
    case d_singles_in =>
      refine' GX.df_of KX G ?a ?l ?c ?k GX.bd_singles_in
      (case a => k_is); (case l => k_is); (case c => k_is); (case k => k_is)
    case d_how_often =>
      refine' GX.df_of KX G ?a ?l ?c ?k GX.bd_how_often
      (case a => k_is); (case l => k_is); (case c => k_is); (case k => k_is)
    case d_lap_count =>
      refine' GX.df_of KX G ?a ?l ?c ?k GX.bd_lap_count
      (case a => k_is); (case l => k_is); (case c => k_is); (case k => k_is)
    case d_without =>
      refine' GX.df_of KX G ?a ?l ?c ?k GX.bd_without
      (case a => k_is); (case l => k_is); (case c => k_is); (case k => k_is)
    case d_waste_of =>
      refine' GX.df_of KX G ?a ?l ?c ?k GX.bd_waste_of
      (case a => k_is); (case l => k_is); (case c => k_is); (case k => k_is)
    case d_packed =>
      refine' GX.df_of KX G ?a ?l ?c ?k GX.bd_packed
      (case a => k_is); (case l => k_is); (case c => k_is); (case k => k_is)
    case d_fewest_packed =>
      refine' GX.df_of KX G ?a ?l ?c ?k GX.bd_fewest_packed
      (case a => k_is); (case l => k_is); (case c => k_is); (case k => k_is)
    case d_fewest_laps =>
      refine' GX.df_of KX G ?a ?l ?c ?k GX.bd_fewest_laps
      (case a => k_is); (case l => k_is); (case c => k_is); (case k => k_is)
    case d_is_lap =>
      refine' GX.df_of KX G ?a ?l ?c ?k GX.bd_is_lap
      (case a => k_is); (case l => k_is); (case c => k_is); (case k => k_is)
    case d_boxes_of_plan =>
      refine' GX.df_of KX G ?a ?l ?c ?k GX.bd_boxes_of_plan
      (case a => k_is); (case l => k_is); (case c => k_is); (case k => k_is)
    case d_is_plan =>
      refine' GX.df_of KX G ?a ?l ?c ?k GX.bd_is_plan
      (case a => k_is); (case l => k_is); (case c => k_is); (case k => k_is)
    case d_law_step =>
      refine' GX.df_of KX G ?a ?l ?c ?k GX.bd_law_step
      (case a => k_is); (case l => k_is); (case c => k_is); (case k => k_is)
    case d_law_small_laps =>
      refine' GX.df_of KX G ?a ?l ?c ?k GX.bd_law_small_laps
      (case a => k_is); (case l => k_is); (case c => k_is); (case k => k_is)
    case d_law_laps =>
      refine' GX.df_of KX G ?a ?l ?c ?k GX.bd_law_laps
      (case a => k_is); (case l => k_is); (case c => k_is); (case k => k_is)
    case d_law_boxes =>
      refine' GX.df_of KX G ?a ?l ?c ?k GX.bd_law_boxes
      (case a => k_is); (case l => k_is); (case c => k_is); (case k => k_is)
    case d_law_is_whole =>
      refine' GX.df_of KX G ?a ?l ?c ?k GX.bd_law_is_whole
      (case a => k_is); (case l => k_is); (case c => k_is); (case k => k_is)
    case d_law_plan_waste =>
      refine' GX.df_of KX G ?a ?l ?c ?k GX.bd_law_plan_waste
      (case a => k_is); (case l => k_is); (case c => k_is); (case k => k_is)
    case d_law_is_lap =>
      refine' GX.df_of KX G ?a ?l ?c ?k GX.bd_law_is_lap
      (case a => k_is); (case l => k_is); (case c => k_is); (case k => k_is)
    case d_law_is_plan =>
      refine' GX.df_of KX G ?a ?l ?c ?k GX.bd_law_is_plan
      (case a => k_is); (case l => k_is); (case c => k_is); (case k => k_is)
    case d_law_number =>
      refine' GX.df_of KX G ?a ?l ?c ?k GX.bd_law_number
      (case a => k_is); (case l => k_is); (case c => k_is); (case k => k_is)
    case d_law_lasts =>
      refine' GX.df_of KX G ?a ?l ?c ?k GX.bd_law_lasts
      (case a => k_is); (case l => k_is); (case c => k_is); (case k => k_is)
    case d_law_waste =>
      refine' GX.df_of KX G ?a ?l ?c ?k GX.bd_law_waste
      (case a => k_is); (case l => k_is); (case c => k_is); (case k => k_is)
    case d_law_filled =>
      refine' GX.df_of KX G ?a ?l ?c ?k GX.bd_law_filled
      (case a => k_is); (case l => k_is); (case c => k_is); (case k => k_is)
    case d_law_choice =>
      refine' GX.df_of KX G ?a ?l ?c ?k GX.bd_law_choice
      (case a => k_is); (case l => k_is); (case c => k_is); (case k => k_is)
    case d_law_source =>
      refine' GX.df_of KX G ?a ?l ?c ?k GX.bd_law_source
      (case a => k_is); (case l => k_is); (case c => k_is); (case k => k_is)
    case d_law_far =>
      refine' GX.df_of KX G ?a ?l ?c ?k GX.bd_law_far
      (case a => k_is); (case l => k_is); (case c => k_is); (case k => k_is)
    case d_best_plan =>
      refine' GX.df_of KX G ?a ?l ?c ?k GX.bd_best_plan
      (case a => k_is); (case l => k_is); (case c => k_is); (case k => k_is)
    case d_least_waste =>
      refine' GX.df_of KX G ?a ?l ?c ?k GX.bd_least_waste
      (case a => k_is); (case l => k_is); (case c => k_is); (case k => k_is)
    case d_lap_plan =>
      refine' GX.df_of KX G ?a ?l ?c ?k GX.bd_lap_plan
      (case a => k_is); (case l => k_is); (case c => k_is); (case k => k_is)
    case d_least_length_of =>
      refine' GX.df_of KX G ?a ?l ?c ?k GX.bd_least_length_of
      (case a => k_is); (case l => k_is); (case c => k_is); (case k => k_is)
    case d_shows_plan =>
      refine' GX.df_of KX G ?a ?l ?c ?k GX.bd_shows_plan
      (case a => k_is); (case l => k_is); (case c => k_is); (case k => k_is)
    case d_law_spoilt_right =>
      refine' GX.df_of KX G ?a ?l ?c ?k GX.bd_law_spoilt_right
      (case a => k_is); (case l => k_is); (case c => k_is); (case k => k_is)
    case d_law_right =>
      refine' GX.df_of KX G ?a ?l ?c ?k GX.bd_law_right
      (case a => k_is); (case l => k_is); (case c => k_is); (case k => k_is)
end GXH
theorem PySem.Challenge.cw_oneload_k42_whole_far_numbers_of_fields_holds : PySem.Challenge.rw_oneload_k42_whole_far_numbers_of_fields.Holds := by
  exact GXH.top
