import PyProof.Rows.All
import Wide.All
import OpenK.AllK
import Wide.FinOn
import HandS.ExcField
import HandS.ExcInit
import KE.KExcSuper
import HandS.Walk
import HandS.SetFor
import HandS.ForMost
import HandS.ForExc
import HandS.Conv
import HandS.TupAny
import HandS.Style
import HandS.Flow
import HandS.More
import HandS.ExcSuper
import HandS.IsInst
import HandS.SortRule
import HandS.Rev
import HandS.Wide
import HandS.WideMore
import HandS.GenList
import PySem.Challenge.RW_twiceeach_k94_whole_products_of_commutat
-- text TwPoison
section
set_option Elab.async false
set_option linter.all false
set_option maxRecDepth 100000
set_option maxHeartbeats 4000000
/-! A run that never wakes the sleeping generators leaves their entries as they are. -/
namespace TwG
open PySem

def kbad : Resume → Sem PySem.Fin := fun _ => .unsupported ""
def pois : GenState → GenState
  | .suspended _ l c p fs cl => .suspended kbad l c p fs cl
  | x => x
def Rl (x y : GenState) : Prop := x = y ∨ x = pois y
theorem Rl.seen {x y : GenState} (h : Rl x y) : x.seen = y.seen := by
  rcases h with rfl | rfl
  · rfl
  · cases y <;> rfl
theorem Rl.bare {x y : GenState} (h : Rl x y) : x.bare = y.bare := by
  rcases h with rfl | rfl
  · rfl
  · cases y <;> rfl
theorem Rl.refl (x : GenState) : Rl x x := .inl rfl
theorem Rl.fresh {c : Code} {y : GenState} (h : Rl (.fresh c) y) : y = .fresh c := by
  rcases h with q | q
  · exact q.symm
  · cases y with
    | fresh c' => exact q.symm
    | suspended => cases q
    | running => cases q
    | finished => cases q
structure Rel (a b : Shared) : Prop where
  heap : b.heap = a.heap
  drawn : b.drawn = a.drawn
  toks : b.toks = a.toks
  os : b.os = a.os
  size : b.gens.size = a.gens.size
  at_ : ∀ (i : Nat) (x : GenState), a.gens[i]? = some x → ∃ y, b.gens[i]? = some y ∧ Rl x y
/-- the suspended ones that may be woken bear no generator's frame -/
def Good (a : Shared) : Prop := ∀ (i : Nat) k l c p fs cl, a.gens[i]? = some (.suspended k l c p fs cl) → k = kbad ∨ splitAtGen fs = none
def Kept (a b a1 b1 : Shared) : Prop := ∀ (i : Nat) l c p fs cl, a.gens[i]? = some (.suspended kbad l c p fs cl) → a1.gens[i]? = a.gens[i]? ∧ b1.gens[i]? = b.gens[i]?
def EndOk : End → Prop
  | .susp _ _ _ _ _ _ fs => splitAtGen fs = none
  | _ => True
theorem Kept.refl (a b : Shared) : Kept a b a b := fun _ _ _ _ _ _ _ => ⟨rfl, rfl⟩
theorem Kept.trans {a b a1 b1 a2 b2 : Shared} (h : Kept a b a1 b1) (k : Kept a1 b1 a2 b2) : Kept a b a2 b2 := fun i l c p fs cl e => by
  obtain ⟨h1, h2⟩ := h i l c p fs cl e
  obtain ⟨k1, k2⟩ := k i l c p fs cl (h1.trans e)
  exact ⟨k1.trans h1, k2.trans h2⟩

theorem split_append : ∀ {a b : List Frame}, splitAtGen a = none → splitAtGen b = none → splitAtGen (a ++ b) = none
  | [], _, _, h => h
  | .gen .. :: _, _, h, _ => by cases h
  | .ret k h' g l c p kp :: a, b, h, hb => by
    have h1 : splitAtGen a = none := by
      have : (splitAtGen a).map _ = none := h
      cases q : splitAtGen a with
      | none => rfl
      | some x => rw [q] at this; cases this
    show (splitAtGen (a ++ b)).map _ = none
    rw [split_append h1 hb]; rfl
theorem split_tail {F : Frame} {fs : List Frame} (h : splitAtGen (F :: fs) = none) : splitAtGen fs = none := by
  cases F with
  | gen => cases h
  | ret k h' g l c p kp =>
    have : (splitAtGen fs).map _ = none := h
    cases q : splitAtGen fs with
    | none => rfl
    | some x => rw [q] at this; cases this

theorem no_bad {M : Model} {Γ : Ctx} {p : Pos} {w : String} {fs : List Frame} {s s' : Shared} {e : End} : ¬ Runs M Γ p (.unsupported w) fs s e s' := by
  intro h
  generalize ht : (Sem.unsupported w : Sem PySem.Fin) = t at h
  induction h <;> first | (cases ht; done) | (rename_i ih; exact ih ht) | (rename_i ih _; exact ih ht) | (subst ht; contradiction) | skip

theorem Rel.put {a b : Shared} (r : Rel a b) (h : Heap) (d : Drawn) (t : Nat) (o : OsState) : Rel ⟨h, a.gens, d, t, o⟩ ⟨h, b.gens, d, t, o⟩ := ⟨rfl, rfl, rfl, rfl, r.size, r.at_⟩
theorem Rel.setGen {a b : Shared} (r : Rel a b) (g : Nat) {x y : GenState} (h : Rl x y) : Rel (a.setGen g x) (b.setGen g y) := by
  refine ⟨r.heap, r.drawn, r.toks, r.os, by rw [GenW.setGen_size, GenW.setGen_size, r.size], fun i z e => ?_⟩
  have e' : (a.gens.setIfInBounds g x)[i]? = some z := e
  show ∃ y', (b.gens.setIfInBounds g y)[i]? = some y' ∧ Rl z y'
  rw [Array.getElem?_setIfInBounds] at e' ⊢
  by_cases c : g = i
  · rw [if_pos c] at e' ⊢
    by_cases d : g < a.gens.size
    · rw [if_pos d] at e'
      cases e'
      rw [if_pos (by rw [r.size]; exact d)]
      exact ⟨_, rfl, h⟩
    · rw [if_neg d] at e'; cases e'
  · rw [if_neg c] at e' ⊢
    exact r.at_ i z e'
theorem Good.setGen {a : Shared} (r : Good a) (g : Nat) {x : GenState} (h : ∀ k l c p fs cl, x = .suspended k l c p fs cl → splitAtGen fs = none) : Good (a.setGen g x) := fun i k l c p fs cl e => by
  have e' : (a.gens.setIfInBounds g x)[i]? = some _ := e
  rw [Array.getElem?_setIfInBounds] at e'
  by_cases cc : g = i
  · rw [if_pos cc] at e'
    by_cases d : g < a.gens.size
    · rw [if_pos d] at e'
      exact .inr (h k l c p fs cl (Option.some.inj e'))
    · rw [if_neg d] at e'; cases e'
  · rw [if_neg cc] at e'
    exact r i k l c p fs cl e'
theorem Kept.setGen {a b : Shared} {g : Nat} {x y : GenState} (h : ∀ l c p fs cl, a.gens[g]? ≠ some (.suspended kbad l c p fs cl)) : Kept a b (a.setGen g x) (b.setGen g y) := fun i l c p fs cl e => by
  have c : g ≠ i := fun q => h l c p fs cl (q ▸ e)
  show (a.gens.setIfInBounds g x)[i]? = _ ∧ (b.gens.setIfInBounds g y)[i]? = _
  rw [Array.getElem?_setIfInBounds_ne c, Array.getElem?_setIfInBounds_ne c]
  exact ⟨rfl, rfl⟩
theorem Rel.push {a b : Shared} (r : Rel a b) (x : GenState) : Rel { a with gens := a.gens.push x } { b with gens := b.gens.push x } := by
  refine ⟨r.heap, r.drawn, r.toks, r.os, by simp [r.size], fun i z e => ?_⟩
  have e' : (a.gens.push x)[i]? = some z := e
  show ∃ y', (b.gens.push x)[i]? = some y' ∧ Rl z y'
  rw [Array.getElem?_push] at e' ⊢
  by_cases c : i = a.gens.size
  · rw [if_pos c] at e'
    rw [if_pos (by rw [r.size]; exact c)]
    cases e'
    exact ⟨_, rfl, .refl _⟩
  · rw [if_neg c] at e'
    rw [if_neg (by rw [r.size]; exact c)]
    exact r.at_ i z e'
theorem Good.push {a : Shared} (r : Good a) (c : Code) : Good { a with gens := a.gens.push (.fresh c) } := fun i k l c' p fs cl e => by
  have e' : (a.gens.push (.fresh c))[i]? = some _ := e
  rw [Array.getElem?_push] at e'
  by_cases d : i = a.gens.size
  · rw [if_pos d] at e'; cases e'
  · rw [if_neg d] at e'
    exact r i k l c' p fs cl e'
theorem Kept.push {a b : Shared} (r : Rel a b) (x : GenState) : Kept a b { a with gens := a.gens.push x } { b with gens := b.gens.push x } := fun i l c p fs cl e => by
  have hi : i < a.gens.size := (Array.getElem?_eq_some_iff.mp e).1
  show (a.gens.push x)[i]? = _ ∧ (b.gens.push x)[i]? = _
  rw [Array.getElem?_push, Array.getElem?_push, if_neg (by omega), if_neg (by rw [r.size]; omega)]
  exact ⟨rfl, rfl⟩
/-- other entries alike: gens alone is looked at -/
theorem Kept.of_gens {a b a1 b1 a' b' : Shared} (h : Kept a' b' a1 b1) (e1 : a'.gens = a.gens) (e2 : b'.gens = b.gens) : Kept a b a1 b1 := fun i l c p fs cl e => by
  have := h i l c p fs cl (by rw [e1]; exact e)
  rw [e1, e2] at this; exact this

theorem End.genState_ok {e : End} (h : EndOk e) : ∀ k l c p fs cl, e.genState = .suspended k l c p fs cl → splitAtGen fs = none := fun k l c p fs cl q => by
  cases e with
  | ret r => cases q
  | susp v g l' k' c' p' fs' =>
    injection q with _ _ _ _ q5 _
    exact q5 ▸ h

/-- what a run gives of the other -/
def Sim (M : Model) (Γ : Ctx) (p : Pos) (t : Sem PySem.Fin) (fs : List Frame) (a : Shared) (e : End) (a1 : Shared) : Prop :=
  splitAtGen fs = none → Good a → ∀ b, Rel a b → ∃ b1, Runs M Γ p t fs b e b1 ∧ Rel a1 b1 ∧ Good a1 ∧ EndOk e ∧ Kept a b a1 b1

theorem sim {M : Model} {Γ : Ctx} {p : Pos} {t : Sem PySem.Fin} {fs : List Frame} {a a1 : Shared} {e : End} (h : Runs M Γ p t fs a e a1) : Sim M Γ p t fs a e a1 := by
  induction h with
  | done => exact fun _ g b r => ⟨b, .done, r, g, trivial, .refl _ _⟩
  | raise => exact fun _ g b r => ⟨b, .raise, r, g, trivial, .refl _ _⟩
  | again hq _ ih =>
    intro hf g b r
    obtain ⟨b1, h1, h2, h3, h4, h5⟩ := ih rfl g b r
    exact ⟨b1, .again hq h1, h2, h3, h4, h5⟩
  | rule _ ih =>
    intro hf g b r
    obtain ⟨b1, h1, h2, h3, h4, h5⟩ := ih rfl g b r
    exact ⟨b1, .rule h1, h2, h3, h4, h5⟩
  | «at» _ ih =>
    intro hf g b r
    obtain ⟨b1, h1, h2, h3, h4, h5⟩ := ih rfl g b r
    exact ⟨b1, .at h1, h2, h3, h4, h5⟩
  | load ho _ ih =>
    intro hf g b r
    obtain ⟨b1, h1, h2, h3, h4, h5⟩ := ih rfl g b r
    exact ⟨b1, .load (by rw [r.heap]; exact ho) h1, h2, h3, h4, h5⟩
  | @update Γ p k s e s' a part f ho _ ih =>
    intro hf g b r
    have hb : { b with heap := b.heap.update a f } = (⟨s.heap.update a f, b.gens, s.drawn, s.toks, s.os⟩ : Shared) := by
      obtain ⟨hh, gg, dd, tt, oo⟩ := b
      have := r.heap; have := r.drawn; have := r.toks; have := r.os
      dsimp only at *; subst_vars; rfl
    obtain ⟨b1, h1, h2, h3, h4, h5⟩ := ih rfl g _ (r.put (s.heap.update a f) s.drawn s.toks s.os)
    exact ⟨b1, .update (by rw [r.heap]; exact ho) (by rw [hb]; exact h1), h2, h3, h4, h5.of_gens rfl rfl⟩
  | loadIfAlive _ ih =>
    intro hf g b r
    obtain ⟨b1, h1, h2, h3, h4, h5⟩ := ih rfl g b r
    exact ⟨b1, .loadIfAlive (by rw [r.heap]; exact h1), h2, h3, h4, h5⟩
  | point _ ih =>
    intro hf g b r
    obtain ⟨b1, h1, h2, h3, h4, h5⟩ := ih rfl g b r
    exact ⟨b1, .point h1, h2, h3, h4, h5⟩
  | @alloc Γ p k s e s' o _ ih =>
    intro hf g b r
    have hb : { b with heap := b.heap.push o } = (⟨s.heap.push o, b.gens, s.drawn, s.toks, s.os⟩ : Shared) := by
      obtain ⟨hh, gg, dd, tt, oo⟩ := b
      have := r.heap; have := r.drawn; have := r.toks; have := r.os
      dsimp only at *; subst_vars; rfl
    obtain ⟨b1, h1, h2, h3, h4, h5⟩ := ih rfl g _ (r.put (s.heap.push o) s.drawn s.toks s.os)
    exact ⟨b1, .alloc (by rw [hb, r.heap]; exact h1), h2, h3, h4, h5.of_gens rfl rfl⟩
  | @fresh Γ p k s e s' _ ih =>
    intro hf g b r
    have hb : { b with toks := b.toks + 1 } = (⟨s.heap, b.gens, s.drawn, s.toks + 1, s.os⟩ : Shared) := by
      obtain ⟨hh, gg, dd, tt, oo⟩ := b
      have := r.heap; have := r.drawn; have := r.toks; have := r.os
      dsimp only at *; subst_vars; rfl
    obtain ⟨b1, h1, h2, h3, h4, h5⟩ := ih rfl g _ (r.put s.heap s.drawn (s.toks + 1) s.os)
    exact ⟨b1, .fresh (by rw [hb, r.toks]; exact h1), h2, h3, h4, h5.of_gens rfl rfl⟩
  | ask _ ih =>
    intro hf g b r
    obtain ⟨b1, h1, h2, h3, h4, h5⟩ := ih rfl g b r
    exact ⟨b1, .ask h1, h2, h3, h4, h5⟩
  | @choose n Γ p k s e s' src hn _ ih =>
    intro hf g b r
    have hb : { b with drawn := b.drawn.bump src } = (⟨s.heap, b.gens, s.drawn.bump src, s.toks, s.os⟩ : Shared) := by
      obtain ⟨hh, gg, dd, tt, oo⟩ := b
      have := r.heap; have := r.drawn; have := r.toks; have := r.os
      dsimp only at *; subst_vars; rfl
    obtain ⟨b1, h1, h2, h3, h4, h5⟩ := ih rfl g _ (r.put s.heap (s.drawn.bump src) s.toks s.os)
    exact ⟨b1, .choose hn (by rw [hb, r.drawn]; exact h1), h2, h3, h4, h5.of_gens rfl rfl⟩
  | @os Γ p k s e s' q l _ ih =>
    intro hf g b r
    have hb : { b with os := (Os.step b.os q).1 } = (⟨s.heap, b.gens, s.drawn, s.toks, (Os.step s.os q).1⟩ : Shared) := by
      obtain ⟨hh, gg, dd, tt, oo⟩ := b
      have := r.heap; have := r.drawn; have := r.toks; have := r.os
      dsimp only at *; subst_vars; rfl
    obtain ⟨b1, h1, h2, h3, h4, h5⟩ := ih rfl g _ (r.put s.heap s.drawn s.toks (Os.step s.os q).1)
    exact ⟨b1, .os (by rw [hb, r.os]; exact h1), h2, h3, h4, h5.of_gens rfl rfl⟩
  | handled _ ih =>
    intro hf g b r
    obtain ⟨b1, h1, h2, h3, h4, h5⟩ := ih rfl g b r
    exact ⟨b1, .handled h1, h2, h3, h4, h5⟩
  | genState hg _ ih =>
    intro hf g b r
    obtain ⟨b1, h1, h2, h3, h4, h5⟩ := ih rfl g b r
    obtain ⟨y, hy, rl⟩ := r.at_ _ _ hg
    exact ⟨b1, .genState hy (by rw [← rl.seen]; exact h1), h2, h3, h4, h5⟩
  | stack _ ih =>
    intro hf g b r
    obtain ⟨b1, h1, h2, h3, h4, h5⟩ := ih rfl g b r
    exact ⟨b1, .stack h1, h2, h3, h4, h5⟩
  | thread _ ih =>
    intro hf g b r
    obtain ⟨b1, h1, h2, h3, h4, h5⟩ := ih rfl g b r
    exact ⟨b1, .thread h1, h2, h3, h4, h5⟩
  | newGen _ ih =>
    intro hf g b r
    obtain ⟨b1, h1, h2, h3, h4, h5⟩ := ih rfl (g.push _) _ (r.push _)
    exact ⟨b1, .newGen (by rw [r.size]; exact h1), h2, h3, h4, (Kept.push r _).trans h5⟩
  | call _ _ ih1 ih2 =>
    intro hf g b r
    obtain ⟨b1, h1, h2, h3, h4, h5⟩ := ih1 rfl g b r
    obtain ⟨b2, k1, k2, k3, k4, k5⟩ := ih2 rfl h3 b1 h2
    exact ⟨b2, .call h1 k1, k2, k3, k4, h5.trans k5⟩
  | callSusp _ ih =>
    intro hf g b r
    obtain ⟨b1, h1, h2, h3, h4, h5⟩ := ih rfl g b r
    exact ⟨b1, .callSusp h1, h2, h3, split_append h4 rfl, h5⟩
  | yield => exact fun _ g b r => ⟨b, .yield, r, g, rfl, .refl _ _⟩
  | @resumeFresh Γ p gi l k s c e₁ s₁ e s' hg _ hq _ ih1 ih2 =>
    intro hf g b r
    obtain ⟨y, hy, rl⟩ := r.at_ _ _ hg
    have ey := rl.fresh
    subst ey
    have notk : ∀ l c' p fs cl, s.gens[gi]? ≠ some (.suspended kbad l c' p fs cl) := fun _ _ _ _ _ q => by rw [hg] at q; cases q
    obtain ⟨b1, h1, h2, h3, h4, h5⟩ := ih1 rfl (g.setGen gi (x := .running) fun _ _ _ _ _ _ q => by cases q) _ (r.setGen gi (.refl .running))
    obtain ⟨b2, k1, k2, k3, k4, k5⟩ := ih2 rfl (h3.setGen gi (End.genState_ok h4)) _ (h2.setGen gi (.refl e₁.genState))
    refine ⟨b2, .resumeFresh hy h1 hq k1, k2, k3, k4, ?_⟩
    have z1 : Kept s b (s.setGen gi .running) (b.setGen gi .running) := Kept.setGen notk
    intro i l' c' p' fs' cl' e0
    have ne : gi ≠ i := fun q => notk l' c' p' fs' cl' (q ▸ e0)
    obtain ⟨y1, y2⟩ := z1.trans h5 i l' c' p' fs' cl' e0
    have e2 : (s₁.setGen gi e₁.genState).gens[i]? = s₁.gens[i]? := Array.getElem?_setIfInBounds_ne ne
    have e3 : (b1.setGen gi e₁.genState).gens[i]? = b1.gens[i]? := Array.getElem?_setIfInBounds_ne ne
    obtain ⟨w1, w2⟩ := k5 i l' c' p' fs' cl' (by rw [e2, y1]; exact e0)
    exact ⟨w1.trans (e2.trans y1), w2.trans (e3.trans y2)⟩
  | @resumeSuspended Γ p gi rr l k s k₀ l₀ c₀ p₀ fs0 cl e₁ s₁ e s' hg hrun hq _ ih1 ih2 =>
    intro hf g b r
    obtain ⟨y, hy, rl⟩ := r.at_ _ _ hg
    have nk : k₀ ≠ kbad := fun q => by
      subst q
      exact no_bad hrun
    have ey : y = .suspended k₀ l₀ c₀ p₀ fs0 cl := by
      rcases rl with q | q
      · exact q.symm
      · cases y with
        | suspended k1 l1 c1 p1 fs1 cl1 =>
          injection q with q1
          exact absurd q1 nk
        | fresh => cases q
        | running => cases q
        | finished => cases q
    subst ey
    have hfs : splitAtGen fs0 = none := (g _ _ _ _ _ _ _ hg).resolve_left nk
    have notk : ∀ l c' p fs cl, s.gens[gi]? ≠ some (.suspended kbad l c' p fs cl) := fun _ _ _ _ _ q => by
      rw [hg] at q
      injection q with q
      injection q with q1
      exact nk q1
    obtain ⟨b1, h1, h2, h3, h4, h5⟩ := ih1 hfs (g.setGen gi (x := .running) fun _ _ _ _ _ _ q => by cases q) _ (r.setGen gi (.refl .running))
    obtain ⟨b2, k1, k2, k3, k4, k5⟩ := ih2 rfl (h3.setGen gi (End.genState_ok h4)) _ (h2.setGen gi (.refl e₁.genState))
    refine ⟨b2, .resumeSuspended hy h1 hq k1, k2, k3, k4, ?_⟩
    have z1 : Kept s b (s.setGen gi .running) (b.setGen gi .running) := Kept.setGen notk
    intro i l' c' p' fs' cl' e0
    have ne : gi ≠ i := fun q => notk l' c' p' fs' cl' (q ▸ e0)
    obtain ⟨y1, y2⟩ := z1.trans h5 i l' c' p' fs' cl' e0
    have e2 : (s₁.setGen gi e₁.genState).gens[i]? = s₁.gens[i]? := Array.getElem?_setIfInBounds_ne ne
    have e3 : (b1.setGen gi e₁.genState).gens[i]? = b1.gens[i]? := Array.getElem?_setIfInBounds_ne ne
    obtain ⟨w1, w2⟩ := k5 i l' c' p' fs' cl' (by rw [e2, y1]; exact e0)
    exact ⟨w1.trans (e2.trans y1), w2.trans (e3.trans y2)⟩
  | resumeJustStarted hg hv _ ih =>
    intro hf g b r
    obtain ⟨y, hy, rl⟩ := r.at_ _ _ hg
    have ey := rl.fresh
    obtain ⟨b1, h1, h2, h3, h4, h5⟩ := ih rfl g b r
    exact ⟨b1, .resumeJustStarted (ey ▸ hy) hv h1, h2, h3, h4, h5⟩
  | @resumeThrowFresh gi Γ p k e s' x l s c hg _ ih =>
    intro hf g b r
    obtain ⟨y, hy, rl⟩ := r.at_ _ _ hg
    have ey := rl.fresh
    have notk : ∀ l c' p fs cl, s.gens[gi]? ≠ some (.suspended kbad l c' p fs cl) := fun _ _ _ _ _ q => by rw [hg] at q; cases q
    obtain ⟨b1, h1, h2, h3, h4, h5⟩ := ih rfl (g.setGen gi (x := .finished) fun _ _ _ _ _ _ q => by cases q) _ (r.setGen gi (.refl .finished))
    exact ⟨b1, .resumeThrowFresh (ey ▸ hy) h1, h2, h3, h4, (Kept.setGen notk).trans h5⟩
  | resumeRunning hg _ ih =>
    intro hf g b r
    obtain ⟨y, hy, rl⟩ := r.at_ _ _ hg
    have ey : y = .running := by rcases rl with q | q <;> cases y <;> first | exact q.symm | (cases q; done) | rfl
    obtain ⟨b1, h1, h2, h3, h4, h5⟩ := ih rfl g b r
    exact ⟨b1, .resumeRunning (ey ▸ hy) h1, h2, h3, h4, h5⟩
  | resumeFinished hg _ ih =>
    intro hf g b r
    obtain ⟨y, hy, rl⟩ := r.at_ _ _ hg
    have ey : y = .finished := by rcases rl with q | q <;> cases y <;> first | exact q.symm | (cases q; done) | rfl
    obtain ⟨b1, h1, h2, h3, h4, h5⟩ := ih rfl g b r
    exact ⟨b1, .resumeFinished (ey ▸ hy) h1, h2, h3, h4, h5⟩
  | segRet _ _ ih1 ih2 =>
    intro hf g b r
    obtain ⟨b1, h1, h2, h3, h4, h5⟩ := ih1 rfl g b r
    obtain ⟨b2, k1, k2, k3, k4, k5⟩ := ih2 (split_tail hf) h3 b1 h2
    exact ⟨b2, .segRet h1 k1, k2, k3, k4, h5.trans k5⟩
  | segGen _ _ _ _ => intro hf; cases hf
  | segSuspOut hs _ ih =>
    intro hf g b r
    obtain ⟨b1, h1, h2, h3, h4, h5⟩ := ih rfl g b r
    exact ⟨b1, .segSuspOut hs h1, h2, h3, split_append h4 hs, h5⟩
  | segSuspGen hs _ _ _ _ _ => intro hf; rw [hf] at hs; cases hs
end TwG
end

-- text TwSim
section
set_option Elab.async false
set_option linter.all false
set_option maxRecDepth 100000
set_option maxHeartbeats 4000000
namespace TwG
open PySem PyProof.Rows
open Sem (wp)

theorem wakes_sim {M : Model} {Γ : Ctx} {p : Pos} {gi : Nat} {r : Resume} {a a1 : Shared} {res : GenResult} (h : Wakes M Γ p gi r a res a1) (g : Good a) {b : Shared} (rl : Rel a b) :
    ∃ b1, Wakes M Γ p gi r b res b1 ∧ Rel a1 b1 ∧ Good a1 ∧ Kept a b a1 b1 := by
  unfold Wakes at h ⊢
  cases hg : a.gens[gi]? with
  | none => rw [hg] at h; exact h.elim
  | some x =>
    obtain ⟨y, hy, rxy⟩ := rl.at_ _ _ hg
    rw [hg] at h
    rw [hy]
    have fin : ∀ {c0 : Code} {p0 : Pos} {t0 : Sem PySem.Fin} {fs0 : List Frame} {e₁ : End} {s₁ : Shared}, splitAtGen fs0 = none → (∀ l c' p fs cl, x ≠ .suspended kbad l c' p fs cl) → Runs M (Γ.wake c0 p) p0 t0 fs0 (a.setGen gi .running) e₁ s₁ →
        ∃ b₁, Runs M (Γ.wake c0 p) p0 t0 fs0 (b.setGen gi .running) e₁ b₁ ∧ Rel (s₁.setGen gi e₁.genState) (b₁.setGen gi e₁.genState) ∧ Good (s₁.setGen gi e₁.genState) ∧ Kept a b (s₁.setGen gi e₁.genState) (b₁.setGen gi e₁.genState) := by
      intro c0 p0 t0 fs0 e₁ s₁ hfs nk hrun
      obtain ⟨b1, h1, h2, h3, h4, h5⟩ := sim hrun hfs (g.setGen gi (x := .running) fun _ _ _ _ _ _ q => by cases q) _ (rl.setGen gi (.refl .running))
      refine ⟨b1, h1, h2.setGen gi (.refl _), h3.setGen gi (End.genState_ok h4), fun i l' c' p' fs' cl' e0 => ?_⟩
      have notk : ∀ l c' p fs cl, a.gens[gi]? ≠ some (.suspended kbad l c' p fs cl) := fun l c' p fs cl q => by
        rw [hg] at q
        exact nk _ _ _ _ _ (Option.some.inj q)
      have ne : gi ≠ i := fun q => notk l' c' p' fs' cl' (q ▸ e0)
      have z1 : Kept a b (a.setGen gi .running) (b.setGen gi .running) := Kept.setGen notk
      obtain ⟨y1, y2⟩ := z1.trans h5 i l' c' p' fs' cl' e0
      have e2 : (s₁.setGen gi e₁.genState).gens[i]? = s₁.gens[i]? := Array.getElem?_setIfInBounds_ne ne
      have e3 : (b1.setGen gi e₁.genState).gens[i]? = b1.gens[i]? := Array.getElem?_setIfInBounds_ne ne
      exact ⟨e2.trans y1, e3.trans y2⟩
    cases x with
    | fresh c =>
      have := rxy.fresh
      subst this
      cases r with
      | throw x =>
        obtain ⟨h1, h2⟩ := h
        subst h1 h2
        refine ⟨b.setGen gi .finished, ⟨rfl, rfl⟩, rl.setGen gi (.refl _), g.setGen gi (fun _ _ _ _ _ _ q => by cases q), Kept.setGen fun l c' p fs cl q => ?_⟩
        rw [hg] at q; cases q
      | send v =>
        cases v with
        | none =>
          obtain ⟨e₁, s₁, h1, h2, h3, h4⟩ := h
          subst h3 h4
          obtain ⟨b1, k1, k2, k3, k4⟩ := fin rfl (fun _ _ _ _ _ q => by cases q) h1
          exact ⟨_, ⟨e₁, b1, k1, h2, rfl, rfl⟩, k2, k3, k4⟩
        | _ =>
          obtain ⟨h1, h2⟩ := h
          subst h1 h2
          exact ⟨b, ⟨rfl, rfl⟩, rl, g, .refl _ _⟩
    | suspended k₀ l₀ c₀ p₀ fs₀ cl =>
      obtain ⟨e₁, s₁, h1, h2, h3, h4⟩ := h
      subst h3 h4
      have nk : k₀ ≠ kbad := fun q => by
        subst q
        exact no_bad h1
      have ey : y = .suspended k₀ l₀ c₀ p₀ fs₀ cl := by
        rcases rxy with q | q
        · exact q.symm
        · cases y with
          | suspended k1 l1 c1 p1 fs1 cl1 =>
            injection q with q1
            exact absurd q1 nk
          | fresh => cases q
          | running => cases q
          | finished => cases q
      subst ey
      obtain ⟨b1, k1, k2, k3, k4⟩ := fin ((g _ _ _ _ _ _ _ hg).resolve_left nk) (fun _ _ _ _ _ q => by injection q with q1; exact nk q1) h1
      exact ⟨_, ⟨e₁, b1, k1, h2, rfl, rfl⟩, k2, k3, k4⟩
    | running =>
      obtain ⟨h1, h2⟩ := h
      subst h1 h2
      have ey : y = .running := by
        rcases rxy with q | q
        · exact q.symm
        · cases y <;> first | rfl | cases q
      subst ey
      exact ⟨b, ⟨rfl, rfl⟩, rl, g, .refl _ _⟩
    | finished =>
      obtain ⟨h1, h2⟩ := h
      subst h1 h2
      have ey : y = .finished := by
        rcases rxy with q | q
        · exact q.symm
        · cases y <;> first | rfl | cases q
      subst ey
      exact ⟨b, ⟨rfl, rfl⟩, rl, g, .refl _ _⟩

/-- behind the other run -/
def Aft (a b : Shared) {α : Type} (Q : α → Shared → Prop) (x : α) (b1 : Shared) : Prop := ∃ a1, Q x a1 ∧ Rel a1 b1 ∧ Good a1 ∧ Kept a b a1 b1
def AftP (a b : Shared) {α : Type} (Q : α → Pos → Shared → Prop) (x : α) (p : Pos) (b1 : Shared) : Prop := ∃ a1, Q x p a1 ∧ Rel a1 b1 ∧ Good a1 ∧ Kept a b a1 b1
theorem AftP.of {a b a2 b2 : Shared} {α : Type} {Q : α → Pos → Shared → Prop} (k : Kept a b a2 b2) {x : α} {p : Pos} {b1 : Shared} (h : AftP a2 b2 Q x p b1) : AftP a b Q x p b1 := by
  obtain ⟨a1, h1, h2, h3, h4⟩ := h
  exact ⟨a1, h1, h2, h3, k.trans h4⟩
theorem wp_sim {α : Type} (M : Model) (Γ : Ctx) (t : Sem α) : ∀ (Q : α → Pos → Shared → Prop) (E : Value → Pos → Shared → Prop) (p : Pos) (a b : Shared), Good a → Rel a b → wp M Γ t Q E p a →
    wp M Γ t (AftP a b Q) (AftP a b E) p b := by
  have mono : ∀ (t : Sem α) {Q Q' : α → Pos → Shared → Prop} {E E' : Value → Pos → Shared → Prop} {p : Pos} {s : Shared}, (∀ x p s, Q x p s → Q' x p s) → (∀ x p s, E x p s → E' x p s) → wp M Γ t Q E p s → wp M Γ t Q' E' p s := by
    intro t
    induction t with
    | pure a => intro Q Q' E E' p s hQ _ h; exact hQ _ _ _ h
    | raise e => intro Q Q' E E' p s _ hE h; exact hE _ _ _ h
    | unsupported _ => intro Q Q' E E' p s _ _ h; exact h
    | finish _ => intro Q Q' E E' p s _ _ h; exact h
    | rule _ k ih => intro Q Q' E E' p s hQ hE h; exact ih () hQ hE h
    | «at» p' k ih => intro Q Q' E E' p s hQ hE h; exact ih () hQ hE h
    | load a _ k ih => intro Q Q' E E' p s hQ hE h; obtain ⟨o, ho, h⟩ := h; exact ⟨o, ho, ih o hQ hE h⟩
    | update a _ f k ih => intro Q Q' E E' p s hQ hE h; exact ⟨h.1, ih () hQ hE h.2⟩
    | loadIfAlive a k ih => intro Q Q' E E' p s hQ hE h; exact ih _ hQ hE h
    | point _ k ih => intro Q Q' E E' p s hQ hE h; exact ih () hQ hE h
    | register _ _ => intro Q Q' E E' p s _ _ h; exact h
    | alloc o k ih => intro Q Q' E E' p s hQ hE h; exact ih _ hQ hE h
    | fresh k ih => intro Q Q' E E' p s hQ hE h; exact ih _ hQ hE h
    | ask k ih => intro Q Q' E E' p s hQ hE h; exact ih _ hQ hE h
    | choose src m k ih => intro Q Q' E E' p s hQ hE h; exact ⟨h.1, ih _ hQ hE h.2⟩
    | os q _ k ih => intro Q Q' E E' p s hQ hE h; exact ih _ hQ hE h
    | call c hd _ _ k ih => intro Q Q' E E' p s hQ hE h; obtain ⟨r, s', hr, h⟩ := h; exact ⟨r, s', hr, ih r hQ hE h⟩
    | handled own k ih => intro Q Q' E E' p s hQ hE h; exact ih _ hQ hE h
    | genState g k ih => intro Q Q' E E' p s hQ hE h; obtain ⟨st, hs, h⟩ := h; exact ⟨st, hs, ih _ hQ hE h⟩
    | newGen c k ih => intro Q Q' E E' p s hQ hE h; exact ih _ hQ hE h
    | resume g r _ k ih => intro Q Q' E E' p s hQ hE h; obtain ⟨res, s', hw, h⟩ := h; exact ⟨res, s', hw, ih res hQ hE h⟩
    | yield _ _ _ _ => intro Q Q' E E' p s _ _ h; exact h
    | stack k ih => intro Q Q' E E' p s hQ hE h; exact ih _ hQ hE h
    | fork _ _ => intro Q Q' E E' p s _ _ h; exact h
    | thread k ih => intro Q Q' E E' p s hQ hE h; exact ih _ hQ hE h
    | await _ _ _ _ _ => intro Q Q' E E' p s _ _ h; exact h
  have eqb : ∀ {a b : Shared}, Rel a b → b = ⟨a.heap, b.gens, a.drawn, a.toks, a.os⟩ := fun {a b} r => by
    obtain ⟨hh, gg, dd, tt, oo⟩ := b
    have := r.heap; have := r.drawn; have := r.toks; have := r.os
    dsimp only at *; subst_vars; rfl
  induction t with
  | pure x => intro Q E p a b g r h; exact ⟨a, h, r, g, .refl _ _⟩
  | raise e => intro Q E p a b g r h; exact ⟨a, h, r, g, .refl _ _⟩
  | unsupported _ => intro Q E p a b g r h; exact h
  | finish _ => intro Q E p a b g r h; exact h
  | rule _ k ih => intro Q E p a b g r h; exact ih () Q E p a b g r h
  | «at» p' k ih => intro Q E p a b g r h; exact ih () Q E p' a b g r h
  | load x _ k ih => intro Q E p a b g r h; obtain ⟨o, ho, h⟩ := h; exact ⟨o, by rw [r.heap]; exact ho, ih o Q E p a b g r h⟩
  | update x _ f k ih =>
    intro Q E p a b g r h
    refine ⟨by rw [r.heap]; exact h.1, ?_⟩
    have hb : { b with heap := b.heap.update x f } = (⟨a.heap.update x f, b.gens, a.drawn, a.toks, a.os⟩ : Shared) := by rw [eqb r]
    rw [hb]
    exact mono _ (fun _ _ _ q => q.of (fun _ _ _ _ _ _ _ => ⟨rfl, rfl⟩)) (fun _ _ _ q => q.of (fun _ _ _ _ _ _ _ => ⟨rfl, rfl⟩)) (ih () Q E p ⟨a.heap.update x f, a.gens, a.drawn, a.toks, a.os⟩ _ g (r.put _ _ _ _) h.2)
  | loadIfAlive x k ih => intro Q E p a b g r h; have := ih _ Q E p a b g r h; show wp M Γ (k (b.heap.get? x)) _ _ _ _; rw [r.heap]; exact this
  | point _ k ih => intro Q E p a b g r h; exact ih () Q E p a b g r h
  | register _ _ => intro Q E p a b g r h; exact h
  | alloc o k ih =>
    intro Q E p a b g r h
    have hb : { b with heap := b.heap.push o } = (⟨a.heap.push o, b.gens, a.drawn, a.toks, a.os⟩ : Shared) := by rw [eqb r]
    show wp M Γ (k b.heap.objs.size) _ _ _ { b with heap := b.heap.push o }
    rw [hb, r.heap]
    exact mono _ (fun _ _ _ q => q.of (fun _ _ _ _ _ _ _ => ⟨rfl, rfl⟩)) (fun _ _ _ q => q.of (fun _ _ _ _ _ _ _ => ⟨rfl, rfl⟩)) (ih _ Q E p ⟨a.heap.push o, a.gens, a.drawn, a.toks, a.os⟩ _ g (r.put _ _ _ _) h)
  | fresh k ih =>
    intro Q E p a b g r h
    have hb : { b with toks := b.toks + 1 } = (⟨a.heap, b.gens, a.drawn, a.toks + 1, a.os⟩ : Shared) := by rw [eqb r]
    show wp M Γ (k b.toks) _ _ _ { b with toks := b.toks + 1 }
    rw [hb, r.toks]
    exact mono _ (fun _ _ _ q => q.of (fun _ _ _ _ _ _ _ => ⟨rfl, rfl⟩)) (fun _ _ _ q => q.of (fun _ _ _ _ _ _ _ => ⟨rfl, rfl⟩)) (ih _ Q E p ⟨a.heap, a.gens, a.drawn, a.toks + 1, a.os⟩ _ g (r.put _ _ _ _) h)
  | ask k ih => intro Q E p a b g r h; exact ih _ Q E p a b g r h
  | choose src m k ih =>
    intro Q E p a b g r h
    have hb : { b with drawn := b.drawn.bump src } = (⟨a.heap, b.gens, a.drawn.bump src, a.toks, a.os⟩ : Shared) := by rw [eqb r]
    refine ⟨h.1, ?_⟩
    rw [hb, r.drawn]
    exact mono _ (fun _ _ _ q => q.of (fun _ _ _ _ _ _ _ => ⟨rfl, rfl⟩)) (fun _ _ _ q => q.of (fun _ _ _ _ _ _ _ => ⟨rfl, rfl⟩)) (ih _ Q E p ⟨a.heap, a.gens, a.drawn.bump src, a.toks, a.os⟩ _ g (r.put _ _ _ _) h.2)
  | os q _ k ih =>
    intro Q E p a b g r h
    have hb : { b with os := (Os.step b.os q).1 } = (⟨a.heap, b.gens, a.drawn, a.toks, (Os.step a.os q).1⟩ : Shared) := by rw [eqb r]
    show wp M Γ (k (Os.step b.os q).2) _ _ _ { b with os := (Os.step b.os q).1 }
    rw [hb, r.os]
    exact mono _ (fun _ _ _ q => q.of (fun _ _ _ _ _ _ _ => ⟨rfl, rfl⟩)) (fun _ _ _ q => q.of (fun _ _ _ _ _ _ _ => ⟨rfl, rfl⟩)) (ih _ Q E p ⟨a.heap, a.gens, a.drawn, a.toks, (Os.step a.os q).1⟩ _ g (r.put _ _ _ _) h)
  | call c hd _ _ k ih =>
    intro Q E p a b g r h
    obtain ⟨res, s', hr, h⟩ := h
    obtain ⟨b1, h1, h2, h3, h4, h5⟩ := sim (show Runs M (Γ.enter c hd p) p (M.den c) [] a (.ret res) s' from hr) rfl g b r
    exact ⟨res, b1, h1, mono _ (fun _ _ _ q => q.of h5) (fun _ _ _ q => q.of h5) (ih res Q E p s' b1 h3 h2 h)⟩
  | handled own k ih => intro Q E p a b g r h; exact ih _ Q E p a b g r h
  | genState gi k ih =>
    intro Q E p a b g r h
    obtain ⟨st, hs, h⟩ := h
    obtain ⟨y, hy, rl⟩ := r.at_ _ _ hs
    exact ⟨y, hy, by rw [← rl.seen]; exact ih _ Q E p a b g r h⟩
  | newGen c k ih =>
    intro Q E p a b g r h
    show wp M Γ (k b.gens.size) _ _ _ { b with gens := b.gens.push (.fresh c) }
    rw [r.size]
    exact mono _ (fun _ _ _ q => q.of (Kept.push r _)) (fun _ _ _ q => q.of (Kept.push r _)) (ih _ Q E p _ _ (g.push c) (r.push (.fresh c)) h)
  | resume gi rs _ k ih =>
    intro Q E p a b g r h
    obtain ⟨res, s', hw, h⟩ := h
    obtain ⟨b1, h1, h2, h3, h4⟩ := wakes_sim hw g r
    exact ⟨res, b1, h1, mono _ (fun _ _ _ q => q.of h4) (fun _ _ _ q => q.of h4) (ih res Q E p s' b1 h3 h2 h)⟩
  | yield _ _ _ _ => intro Q E p a b g r h; exact h
  | stack k ih => intro Q E p a b g r h; exact ih _ Q E p a b g r h
  | fork _ _ => intro Q E p a b g r h; exact h
  | thread k ih => intro Q E p a b g r h; exact ih _ Q E p a b g r h
  | await _ _ _ _ _ => intro Q E p a b g r h; exact h

theorem wpAny_sim {α : Type} {M : Model} {A : Around} {t : Sem α} {Q : α → Shared → Prop} {E : Value → Shared → Prop} {a b : Shared} (g : Good a) (r : Rel a b) (h : wpAny M A t Q E a) :
    wpAny M A t (Aft a b Q) (Aft a b E) b := fun Γ p hΓ => wp_sim M Γ t _ _ p a b g r (h Γ p hΓ)

/-- the state with its sleeping generators poisoned -/
def poisS (s : Shared) : Shared := { s with gens := s.gens.map pois }
theorem poisS_rel (s : Shared) : Rel (poisS s) s := by
  refine ⟨rfl, rfl, rfl, rfl, by simp [poisS], fun i x e => ?_⟩
  have e' : (s.gens.map pois)[i]? = some x := e
  rw [Array.getElem?_map] at e'
  cases q : s.gens[i]? with
  | none => rw [q] at e'; cases e'
  | some y =>
    rw [q] at e'
    exact ⟨y, rfl, .inr (Option.some.inj e').symm⟩
theorem poisS_good (s : Shared) : Good (poisS s) := fun i k l c p fs cl e => by
  have e' : (s.gens.map pois)[i]? = some _ := e
  rw [Array.getElem?_map] at e'
  cases q : s.gens[i]? with
  | none => rw [q] at e'; cases e'
  | some y =>
    rw [q] at e'
    cases y with
    | suspended k1 l1 c1 p1 fs1 cl1 =>
      have e2 := Option.some.inj e'
      injection e2 with e3
      exact .inl e3.symm
    | fresh => have e2 := Option.some.inj e'; cases e2
    | running => have e2 := Option.some.inj e'; cases e2
    | finished => have e2 := Option.some.inj e'; cases e2
theorem poisS_bare {s : Shared} (h : AllBare s.gens) : AllBare (poisS s).gens := fun y hy => by
  have hy' : y ∈ s.gens.map pois := hy
  obtain ⟨x, hx, rfl⟩ := Array.mem_map.mp hy'
  have := h x hx
  cases x <;> exact this
theorem bare_of_rel {a b : Shared} (r : Rel a b) (h : AllBare a.gens) : AllBare b.gens := fun y hy => by
  obtain ⟨i, hi, e⟩ := Array.mem_iff_getElem.mp hy
  have hi' : i < a.gens.size := by rw [← r.size]; exact hi
  obtain ⟨z, hz, rl⟩ := r.at_ i _ (Array.getElem?_eq_getElem hi')
  rw [Array.getElem?_eq_getElem hi, e] at hz
  cases hz
  rw [← rl.bare]
  exact h _ (Array.getElem_mem hi')
/-- a sleeping generator is as it was -/
theorem kept_at {s b1 a1 : Shared} (k : Kept (poisS s) s a1 b1) {g : Nat} {kk l c p fs cl} (h : s.gens[g]? = some (.suspended kk l c p fs cl)) : b1.gens[g]? = some (.suspended kk l c p fs cl) := by
  have e : (poisS s).gens[g]? = some (.suspended kbad l c p fs cl) := by
    show (s.gens.map pois)[g]? = _
    rw [Array.getElem?_map, h]; rfl
  exact ((k g l c p fs cl e).2).trans h
end TwG
end

-- text TwGen
section
set_option Elab.async false
set_option linter.all false
set_option maxRecDepth 100000
set_option maxHeartbeats 4000000
/-! A generator def's body, run between wakes; what its consumer knows is carried along. -/
namespace TwG
open PySem PySem.Spec PyProof.Rows GenW L2

abbrev St := L2.St
/-! ### the heap below an address -/
def cut (h : Heap) (L : Nat) : Heap := { objs := h.objs.extract 0 L, life := h.life }
theorem cut_size (h : Heap) (L : Nat) : (cut h L).objs.size ≤ L := by
  show (h.objs.extract 0 L).size ≤ L
  rw [Array.size_extract]; omega
theorem cut_get {h : Heap} {L b : Nat} (hb : b < L) : (cut h L).get? b = h.get? b := by
  have e : (cut h L).objs[b]? = h.objs[b]? := by
    show (h.objs.extract 0 L)[b]? = _
    rw [Array.getElem?_extract]
    simp only [Nat.zero_add, Nat.sub_zero]
    by_cases c : b < h.objs.size
    · rw [if_pos (by omega)]
    · have q : h.objs[b]? = none := Array.getElem?_eq_none (by omega)
      rw [q]; split <;> rfl
  unfold Heap.get?
  rw [e]
theorem of_cut {h : Heap} {L b : Nat} {o : Obj} (e : (cut h L).get? b = some o) : b < L ∧ h.get? b = some o := by
  have hb : b < L := Nat.lt_of_lt_of_le (Heap.lt_size e) (cut_size h L)
  exact ⟨hb, (cut_get hb).symm.trans e⟩

/-- where a generator's frame stands -/
structure GF where
  prog : Program
  w : World
  K : PySem.W.Frag
  mg : Str → Option Value
  base : Heap
  A : Around
  N : List Str
  env : Env
  outer : List Env
  a : Addr
  go : Obj
def gX (F : GF) (s0 : Shared) (H0 : Hp) : Cx where
  prog := F.prog
  w := F.w
  K := F.K
  mg := F.mg
  base := F.base
  A := F.A.deeper F.env
  N := F.N
  s_0 := s0
  H_0 := H0
  env := F.env
  outer := F.outer
  stack := F.env :: F.outer
  ex := []
  fn := fun _ => true
  calm := true
  pn := [(F.a, F.go)]
  xe := fun _ _ => False
abbrev GF.L (F : GF) : Addr := F.env.locals
def cutS (F : GF) (s : Shared) : Shared := { s with heap := cut s.heap F.L }
structure GF.Ok (F : GF) : Prop where
  nc : ∀ x, F.env.cells.lookup x = none
  nk : ∀ x, ¬ (F.env.kindOf x = some .cell ∨ F.env.kindOf x = some .free)
  kind : F.env.scope.kind = .function
  glob : F.env.globals = mainGlobals
  blt : F.env.builtins = builtinsNs
  frame : F.env.frame = some F.env.locals
  hd : F.A.handled = none
  bl : F.base.objs.size ≤ F.L
  frl : ∀ b ∈ frs F.outer, b < F.L
  aL : F.L < F.a
  god : ∀ v, F.go.data ≠ .cell v

theorem funs_cut {h base : Heap} {L : Nat} : ∀ {l : List Env}, (∀ b ∈ frs l, b < L) → h.FunFrames base l → (cut h L).FunFrames base l
  | [], _, _ => trivial
  | env :: l, hl, hf => by
    obtain ⟨hk, ⟨Lx, o, h1, h2, h3, h4⟩, hr⟩ := hf
    have hm : Lx ∈ frs (env :: l) := by
      unfold frs
      rw [List.filterMap_cons, h1]; exact List.mem_cons_self
    refine ⟨hk, ⟨Lx, o, h1, h2, (cut_get (hl Lx hm)).trans h3, h4⟩, funs_cut (fun b hb => hl b ?_) hr⟩
    unfold frs at hb ⊢
    rw [List.filterMap_cons, h1]
    exact List.mem_cons_of_mem _ hb

/-- the generator's names, as they stand -/
def Names (F : GF) (σ : St) (h : Heap) : Prop := ∃ m, h.Ns F.L m ∧ ∀ (i : Nat) (x : Str) (v : V), F.N[i]? = some x → σ[i]? = some (some v) → Vis F.env.scope x → ∃ u, RelV v u ∧ F.env.kindOf x = some .local ∧ m x = some u
theorem Names.keep {F : GF} {σ : St} {h h' : Heap} (n : Names F σ h) (k : ∀ o, h.get? F.L = some o → h'.get? F.L = some o) : Names F σ h' := by
  obtain ⟨m, ⟨o, es, ep, ho, r⟩, q⟩ := n
  exact ⟨m, ⟨o, es, ep, k o ho, r⟩, q⟩
theorem rebase {F : GF} (ok : F.Ok) {s : Shared} {H : Hp} (e0 : Env0 F.prog F.w F.K F.mg F.base F.A F.outer s H) (hL : H F.L = none) (ha : s.heap.get? F.a = some F.go) (hHa : H F.a = none) {σ : St} (hlen : σ.length = F.N.length) (n : Names F σ s.heap) :
    Inv (gX F (cutS F s) H) [] σ H s := by
  have noA : ∀ b : Addr, b ∉ (gX F (cutS F s) H).ex := fun b z => absurd (show b ∈ ([] : List Addr) from z) (by simp)
  refine ⟨⟨e0.mod, ok.kind, ok.glob, ok.blt, cut_size _ _, fun x y c h _ => ?_, fun x h => absurd h (ok.nk x), fun x c _ h => ?_, fun _ => ok.hd, Around.frames_deeper e0.frames, .inr ⟨rfl, ok.frame⟩, fun b z => absurd z (noA b), fun b o e => ?_, ?_, fun b _ _ => noA b, fun b z => absurd z (noA b), funs_cut ok.frl e0.funs, e0.frf⟩,
    rfl, e0.bare, Un.kept (fun b u e => (of_cut e).2), ?_, fun x c h => ?_, hL, fun x c h => ?_, fun p hp => ?_, e0.hok, hlen⟩
  · have h' : F.env.cells.lookup x = some c := h
    rw [ok.nc] at h'; cases h'
  · have h' : F.env.cells.lookup x = some c := h
    rw [ok.nc] at h'; cases h'
  · obtain ⟨h1, h2⟩ := e0.bs b o e
    exact ⟨(cut_get (Nat.lt_of_lt_of_le (Heap.lt_size e) ok.bl)).trans h1, h2⟩
  · show F.base.objs.size ≤ (s.heap.objs.extract 0 F.L).size
    rw [Array.size_extract]
    have := ok.bl
    have := e0.bsz
    omega
  · obtain ⟨m, hn, hl⟩ := n
    refine ⟨m, hn, fun i x v h1 h2 h3 => ?_⟩
    obtain ⟨u, r, k, q⟩ := hl i x v h1 h2 h3
    exact ⟨u, r, .inl ⟨k, q⟩⟩
  · have h' : F.env.cells.lookup x = some c := h
    rw [ok.nc] at h'; cases h'
  · have h' : F.env.cells.lookup x = some c := h
    rw [ok.nc] at h'; cases h'
  · have hp' : p = (F.a, F.go) := List.mem_singleton.mp (by simpa [gX] using hp)
    subst hp'
    exact ⟨ha, hHa, Nat.ne_of_gt ok.aL, fun z => absurd (Nat.lt_trans (ok.frl _ z) ok.aL) (Nat.lt_irrefl _), ok.god⟩
theorem names_of {F : GF} (ok : F.Ok) {s0 s : Shared} {H0 H : Hp} {σ : St} (I : Inv (gX F s0 H0) [] σ H s) : Names F σ s.heap := by
  obtain ⟨m, hn, hl⟩ := I.loc
  refine ⟨m, hn, fun i x v h1 h2 h3 => ?_⟩
  obtain ⟨u, r, q⟩ := hl i x v h1 h2 h3
  rcases q with ⟨k, q⟩ | ⟨k, _⟩
  · exact ⟨u, r, k, q⟩
  · exact absurd k (ok.nk x)

/-! ### the consumer's knowledge -/
abbrev CIt := List V → Hp → Shared → Prop
structure CIok (F : GF) (CI : CIt) : Prop where
  e0 : ∀ ys H s, CI ys H s → Env0 F.prog F.w F.K F.mg F.base F.A F.outer s H ∧ H F.L = none ∧ s.heap.get? F.a = some F.go ∧ H F.a = none
  run : ∀ ys Hw sw H s σ, CI ys Hw sw → Inv (gX F (cutS F sw) Hw) [] σ H s → CI ys H s
abbrev YlT := List V → V → Hp → Prop
def GYy (F : GF) (CI : CIt) (yl : YlT) : Protocol := fun n _ v s kap =>
  ∃ ys x H, n + 1 + ys.length = sizeLine ∧ RelV x v ∧ yl ys x H ∧ CI ys H s ∧ ∀ s' H', CI (ys ++ [x]) H' s' → Same H H' → (∀ o, s.heap.get? F.L = some o → s'.heap.get? F.L = some o) → kap (.send .none) s' ∧ kap (.send (.bool true)) s'
abbrev GRr (CI : CIt) (fin : List V → Hp → Prop) : GenEnd := fun _ _ r s => ((r = .ok (.ret .none) ∨ r = .ok .next) ∧ (∃ ys H, CI ys H s ∧ fin ys H)) ∨ ∃ e, r = .error e ∧ False

structure GW where
  nx : List V → St → Hp → Prop
  rt : List V → Hp → Prop
  yl : YlT
abbrev TGq := GW → List V → St → Hp → Prop
structure GCt (F : GF) (c : Code) (fs : List Frame) (gd : Bool → Bool) : Prop where
  over : F.A.over c fs = F.A.deeper F.env
  split : splitAtGen fs = none
  guard : fs.any Frame.guarded = false
  gd : gd false = false
def GPost (F : GF) (sw : Shared) (Hw : Hp) (D : GW) (ys : List V) (f : Flow) (s : Shared) : Prop :=
  match f with
  | .next => ∃ σ H, Inv (gX F (cutS F sw) Hw) [] σ H s ∧ D.nx ys σ H
  | .ret u => u = Value.none ∧ ∃ σ H, Inv (gX F (cutS F sw) Hw) [] σ H s ∧ D.rt ys H
  | _ => False
def GKk (F : GF) (CI : CIt) (fin : List V → Hp → Prop) (c : Code) (fs : List Frame) (K : Flow → Sem PySem.Fin) (D : GW) : Prop :=
  ∀ (n : Nat) (ys : List V) (s₀ s sw : Shared) (Hw : Hp) (f : Flow), n + ys.length = sizeLine → CI ys Hw sw → GPost F sw Hw D ys f s → Seg (model F.prog F.w) F.A (GRr CI fin) (GYy F CI D.yl) n s₀ c (K f) fs s
structure GS (F : GF) (st : Stmt) (t : TGq) : Prop where
  run : ∀ (CI : CIt) (fin : List V → Hp → Prop) (n : Nat) (ys : List V) (s₀ : Shared) (c : Code) (fs : List Frame) (K : Flow → Sem PySem.Fin) (J : Value → Sem PySem.Fin) (gd : Bool → Bool) (lv : List Value → List Value) (s sw : Shared) (Hw : Hp) (σ : St) (H : Hp) (D : GW),
    F.Ok → CIok F CI → GCt F c fs gd → n + ys.length = sizeLine → CI ys Hw sw → GKk F CI fin c fs K D → Inv (gX F (cutS F sw) Hw) [] σ H s → t D ys σ H →
    Seg (model F.prog F.w) F.A (GRr CI fin) (GYy F CI D.yl) n s₀ c ((exec st F.env).wrap K J gd lv) fs s
structure GSs (F : GF) (st : List Stmt) (t : TGq) : Prop where
  run : ∀ (CI : CIt) (fin : List V → Hp → Prop) (n : Nat) (ys : List V) (s₀ : Shared) (c : Code) (fs : List Frame) (K : Flow → Sem PySem.Fin) (J : Value → Sem PySem.Fin) (gd : Bool → Bool) (lv : List Value → List Value) (s sw : Shared) (Hw : Hp) (σ : St) (H : Hp) (D : GW),
    F.Ok → CIok F CI → GCt F c fs gd → n + ys.length = sizeLine → CI ys Hw sw → GKk F CI fin c fs K D → Inv (gX F (cutS F sw) Hw) [] σ H s → t D ys σ H →
    Seg (model F.prog F.w) F.A (GRr CI fin) (GYy F CI D.yl) n s₀ c ((execs st F.env).wrap K J gd lv) fs s

section
variable {F : GF} {st : Stmt} {rest : List Stmt} {pos : Pos}
def qPlain (t : TS) : TGq := fun D ys σ H => t { nx := D.nx ys, rt := fun v H' => v = .non ∧ D.rt ys H' } σ H
theorem post_of {sw : Shared} {Hw : Hp} {D : GW} {ys : List V} {f : Flow} {s : Shared} (h : SP (gX F (cutS F sw) Hw) [] { nx := D.nx ys, rt := fun v H' => v = .non ∧ D.rt ys H' } f s) : GPost F sw Hw D ys f s := by
  cases f with
  | next => obtain ⟨σ, H, I, q⟩ := h; exact ⟨σ, H, I, q⟩
  | brk => obtain ⟨σ, H, I, q⟩ := h; exact q.elim
  | cont => obtain ⟨σ, H, I, q⟩ := h; exact q.elim
  | ret u =>
    obtain ⟨v, σ, H, I, r, rfl, q⟩ := h
    exact ⟨r, σ, H, I, q⟩
theorem gs_plain {t : TS} (h : ∀ s0 H0, PS (gX F s0 H0) st t) : GS F st (qPlain t) := by
  refine ⟨fun CI fin n ys s₀ c fs K J gd lv s sw Hw σ H D ok ci g hn hc k I ht => ?_⟩
  refine seg_wrap ?_
  rw [g.over]
  exact wpAny_mono ((h _ _).run [] s σ H _ I ht) (fun f s' hs => k n ys s₀ s' sw Hw f hn hc (post_of hs)) fun x s' hx => False.elim hx
theorem gss_plain {t : TS} (h : ∀ s0 H0, PSs (gX F s0 H0) rest t) : GSs F rest (qPlain t) := by
  refine ⟨fun CI fin n ys s₀ c fs K J gd lv s sw Hw σ H D ok ci g hn hc k I ht => ?_⟩
  refine seg_wrap ?_
  rw [g.over]
  exact wpAny_mono ((h _ _).run [] s σ H _ I ht) (fun f s' hs => k n ys s₀ s' sw Hw f hn hc (post_of hs)) fun x s' hx => False.elim hx
def qNil : TGq := fun D ys σ H => D.nx ys σ H
theorem gss_nil : GSs F [] qNil := by
  refine ⟨fun CI fin n ys s₀ c fs K J gd lv s sw Hw σ H D ok ci g hn hc k I ht => ?_⟩
  exact seg_execs_nil (k n ys s₀ s sw Hw .next hn hc ⟨σ, H, I, ht⟩)
def qThen (t u : TGq) : TGq := fun D ys σ H => t { D with nx := fun ys' σ' H' => u D ys' σ' H' } ys σ H
theorem gss_cons {t u : TGq} (a : GS F st t) (b : GSs F rest u) : GSs F (st :: rest) (qThen t u) := by
  refine ⟨fun CI fin n ys s₀ c fs K J gd lv s sw Hw σ H D ok ci g hn hc k I ht => ?_⟩
  refine seg_execs_cons ?_
  refine a.run CI fin n ys s₀ c fs _ J gd lv s sw Hw σ H { D with nx := fun ys' σ' H' => u D ys' σ' H' } ok ci g hn hc (fun n' ys' s₀' s' sw' Hw' f hn' hc' hs => ?_) I ht
  cases f with
  | next =>
    obtain ⟨σ', H', I', q⟩ := hs
    exact b.run CI fin n' ys' s₀' c fs K J gd lv s' sw' Hw' σ' H' D ok ci g hn' hc' k I' q
  | brk => exact hs.elim
  | cont => exact hs.elim
  | ret u => exact k n' ys' s₀' s' sw' Hw' (.ret u) hn' hc' hs
def qIf (c : TT) (a b : TGq) : TGq := fun D ys σ H => c σ H fun k H1 => if k = true then a D ys σ H1 else b D ys σ H1
theorem gs_if {test : Expr} {x y : List Stmt} {tc : TT} {ta tb : TGq} (hc : ∀ s0 H0, PT (gX F s0 H0) test tc) (ha : GSs F x ta) (hb : GSs F y tb) : GS F (.If test x y pos) (qIf tc ta tb) := by
  refine ⟨fun CI fin n ys s₀ c fs K J gd lv s sw Hw σ H D ok ci g hn hci k I ht => ?_⟩
  show Seg _ _ _ _ n s₀ c (.at pos fun _ => (((isTrue test F.env (eval test F.env)) >>= fun b => if b = true then execs x F.env else execs y F.env) : Sem Flow).wrap K J gd lv) fs s
  refine seg_at ?_
  refine seg_bind_wrap ?_
  rw [g.over]
  refine wpAny_mono ((hc _ _).run [] s σ H _ I ht) (fun b s' ⟨H1, I1, q⟩ => ?_) fun x s' hx => False.elim hx
  cases b with
  | true => exact ha.run CI fin n ys s₀ c fs K J gd lv s' sw Hw σ H1 D ok ci g hn hci k I1 q
  | false => exact hb.run CI fin n ys s₀ c fs K J gd lv s' sw Hw σ H1 D ok ci g hn hci k I1 q
def qWhile (c : TT) (tb : TGq) : TGq := fun D ys σ H => ∃ W : Nat → List V → St → Hp → Prop, (∃ m, W m ys σ H) ∧ ∀ m ys σ H, W m ys σ H →
  c σ H fun b H1 => if b = true then tb { D with nx := fun ys' σ' H' => ∃ m', m' < m ∧ W m' ys' σ' H' } ys σ H1 else D.nx ys σ H1
theorem gct_loop {c c' : Code} {fs : List Frame} {gd : Bool → Bool} {k : Result → Sem PySem.Fin} {l kp : List Value} {p : Pos} (g : GCt F c fs gd) (hw : c'.weight = 0) (hu : c'.cUnits = 0) :
    GCt F c' (.ret k none (gd false) l c p kp :: fs) id where
  over := (over_loop hw hu).trans g.over
  split := by
    show (splitAtGen fs).map _ = none
    rw [g.split]; rfl
  guard := by
    show (gd false || fs.any Frame.guarded) = false
    rw [g.gd, g.guard]; rfl
  gd := rfl
theorem gs_while {test : Expr} {body : List Stmt} {tc : TT} {tb : TGq} (hc : ∀ s0 H0, PT (gX F s0 H0) test tc) (hb : GSs F body tb) : GS F (.While test body [] pos) (qWhile tc tb) := by
  refine ⟨fun CI fin n ys s₀ c fs K J gd lv s sw Hw σ H D ok ci g hn hci k I ht => ?_⟩
  obtain ⟨W, ⟨m0, w0⟩, turn⟩ := ht
  refine seg_While fun p => ?_
  have gl := fun (kk : Result → Sem PySem.Fin) => gct_loop (k := kk) (c' := .whileLoop test body [] F.env) (l := lv []) (kp := []) (p := p) g rfl rfl
  suffices loop : ∀ (m n : Nat) (ys : List V) (s₀ s sw : Shared) (Hw : Hp) (σ : St) (H : Hp), n + ys.length = sizeLine → CI ys Hw sw → W m ys σ H → Inv (gX F (cutS F sw) Hw) [] σ H s →
      Seg (model F.prog F.w) F.A (GRr CI fin) (GYy F CI D.yl) n s₀ (.whileLoop test body [] F.env) ((model F.prog F.w).den (.whileLoop test body [] F.env))
        (.ret (fun r => ((match r with | .ok f => (.pure f : Sem Flow) | .error e => .raise e).onRaise (cameBack F.env)).wrap K J gd lv) none (gd false) (lv []) c p [] :: fs) s from
    loop m0 n ys s₀ s sw Hw σ H hn hci w0 I
  intro m
  induction m using Nat.strongRecOn with
  | ind m ih =>
    intro n ys s₀ s sw Hw σ H hn hci w I
    refine seg_whileLoop ?_
    rw [(gl _).over]
    refine wpAny_mono ((hc _ _).run [] s σ H _ I (turn m ys σ H w)) (fun b s' hb' => ?_) fun x s' hx => False.elim hx
    obtain ⟨H2, I2, q2⟩ := hb'
    cases b with
    | true =>
      rw [if_pos rfl]
      refine hb.run CI fin n ys s₀ _ _ _ _ id id s' sw Hw σ H2 { D with nx := fun ys' σ' H' => ∃ m', m' < m ∧ W m' ys' σ' H' } ok ci (gl _) hn hci (fun n' ys' s₀' s3 sw' Hw' f hn' hc' hs => ?_) I2 q2
      cases f with
      | next =>
        obtain ⟨σ3, H3, I3, m', hm, w3⟩ := hs
        exact seg_again rfl (ih m' hm n' ys' s₀' s3 sw' Hw' σ3 H3 hn' hc' w3 I3)
      | cont => exact hs.elim
      | brk => exact hs.elim
      | ret v => exact seg_leaf (.ok (.ret v)) (k n' ys' s₀' s3 sw' Hw' (.ret v) hn' hc' hs)
    | false =>
      rw [if_neg Bool.false_ne_true]
      refine seg_execs_nil ?_
      exact seg_leaf (.ok .next) (k n ys s₀ s' sw Hw .next hn hci ⟨σ, H2, I2, q2⟩)
def qYield (te : TE) : TGq := fun D ys σ H => ys.length < sizeLine ∧ te σ H fun x H1 => D.yl ys x H1 ∧ ∀ H2, Same H1 H2 → D.nx (ys ++ [x]) σ H2
theorem gs_yield {e : Expr} {yp : Pos} {te : TE} (he : ∀ s0 H0, PE (gX F s0 H0) e te) (hco : F.env.scope.isCoroutine = false := by rfl) (hi : interactive F.env = false := by rfl) : GS F (.Expr (.Yield (some e) yp) pos) (qYield te) := by
  refine ⟨fun CI fin n ys s₀ c fs K J gd lv s sw Hw σ H D ok ci g hn hci k I ht => ?_⟩
  obtain ⟨hlt, ht⟩ := ht
  obtain ⟨n, rfl⟩ : ∃ m, n = m + 1 := ⟨n - 1, by omega⟩
  refine seg_Expr_Yield g.split g.gd g.guard ?_ hco hi
  rw [g.over]
  refine wpAny_mono ((he _ _).run [] s σ H _ I ht) (fun v s' hv => ?_) fun x s' hx => False.elim hx
  obtain ⟨x, H1, I1, rv, q1, q2⟩ := hv
  intro kap hk
  have nm := names_of ok I1
  refine ⟨ys, x, H1, hn, rv, q1, ci.run ys Hw sw H1 s' σ hci I1, fun s'' H'' hc'' hs kl => ?_⟩
  obtain ⟨e0, hL, ha, hHa⟩ := ci.e0 _ _ _ hc''
  have seg := k n (ys ++ [x]) s'' s'' s'' H'' .next (by rw [List.length_append, List.length_singleton]; omega) hc'' ⟨σ, H'', rebase ok e0 hL ha hHa I1.len (nm.keep kl), q2 H'' hs⟩
  exact ⟨hk .none s'' seg, hk (.bool true) s'' seg⟩
end
end TwG
end

-- text TwGenFor
section
set_option Elab.async false
set_option linter.all false
set_option maxRecDepth 100000
set_option maxHeartbeats 4000000
/-! A generator def called; a for over it. -/
namespace TwG
open PySem PySem.Spec PyProof.Rows GenW L2

abbrev SpQ := List V → Hp → YlT → (List V → Hp → Prop) → Prop
/-- a generator that has not begun -/
structure Fresh (P : Program) (w : World) (K : PySem.W.Frag) (mg : Str → Option Value) (base : Heap) (k : Nat) (outer : List Env) (H : Hp) (s : Shared) (yl : YlT) (fin : List V → Hp → Prop) (s' : Shared) (a : Addr) (g : Nat) (c : Code) (go : Obj) (env : Env) (N : List Str) (lo : Obj) : Prop where
  loc : env.locals = s.heap.objs.size
  lt : env.locals < a
  aLt : a < s'.heap.objs.size
  ago : s'.heap.get? a = some go
  isg : ∀ h : Heap, h.get? a = some go → h.IsGen a g
  cls : go.cls = .type "generator"
  dat : ∃ vs, go.data = .fields vs
  gens : s'.gens[g]? = some (.fresh c)
  os : s'.os = s.os
  bare : AllBare s'.gens
  keep : ∀ b o, s.heap.get? b = some o → s'.heap.get? b = some o
  hlo : s'.heap.get? env.locals = some lo
  loc2 : ∀ v, lo.data ≠ .cell v
  ok : ∀ Aw, Room k Aw → Aw.frames = some outer → (GF.mk P w K mg base Aw N env outer a go).Ok
  wake : ∀ (Aw : Around), Room k Aw → Aw.frames = some outer → ∀ CI, CIok (GF.mk P w K mg base Aw N env outer a go) CI → ∀ s2 H2, CI [] H2 s2 → Same H H2 → (∀ o, s'.heap.get? env.locals = some o → s2.heap.get? env.locals = some o) →
    Seg (model P w) Aw (GRr CI fin) (GYy (GF.mk P w K mg base Aw N env outer a go) CI yl) sizeLine s2 c ((model P w).den c) [] s2
structure GFnQ (P : Program) (w : World) (K : PySem.W.Frag) (mg : Str → Option Value) (base : Heap) (k : Nat) (f : Addr) (fd : FuncData) (ps : List Str) (sp : SpQ) : Prop where
  len : ∀ vs H yl fin, sp vs H yl fin → vs.length = ps.length
  run : ∀ (A : Around) (outer : List Env) (s : Shared) (H : Hp) (args : Args) (us : List Value) (vs : List V) (yl : YlT) (fin : List V → Hp → Prop), Room k A → Env0 P w K mg base A outer s H → BindsTo s fd args (ps.zip us) → Vals vs us → sp vs H yl fin →
    codeAny (model P w) A (.call (.ref f) args) (fun r s' => match r with | .ok (.ret u) => ∃ a g c go env N lo, u = .ref a ∧ Fresh P w K mg base k outer H s yl fin s' a g c go env N lo | _ => False) s

theorem nocells : ∀ (n : Nat) (names : List (Str × NameKind)) (acc : List (Str × Addr)), (∀ y ∈ names, y.2 ≠ .cell) → cellsFrom n names acc = acc
  | _, [], _, _ => rfl
  | n, (x, k) :: r, acc, h => by
    have hk : k ≠ .cell := h (x, k) List.mem_cons_self
    have : (k == NameKind.cell) = false := by cases k <;> first | rfl | exact absurd rfl hk
    show (if (k == NameKind.cell) = true then _ else _) = _
    rw [this, if_neg Bool.false_ne_true]
    exact nocells n r acc fun y hy => h y (List.mem_cons_of_mem _ hy)

/-- THE RULE: a generator def, by its body -/
theorem gfnq_of {P : Program} {w : World} {K : PySem.W.Frag} {mg : Str → Option Value} {base : Heap} {k : Nat} {f : Addr} {name qual : Str} {params : Arguments} {body : List Stmt} {scope : Scope} {dV kV doc pm cdv ct oc : Value} {an od : Option Addr}
    {osl : Array (Option Value)} {N ps : List Str} {sp : SpQ} (lk : K.lookup f = some ⟨oc, od, .func (PySem.W.fnOf name qual params body scope dV kV doc pm an cdv ct), osl⟩) (hcd : PySem.W.codeIn K cdv qual = true) (S : GScope N ps scope) (hnc : ∀ y ∈ scope.names, y.2 ≠ .cell)
    (len : ∀ vs H yl fin, sp vs H yl fin → vs.length = ps.length)
    (hbody : ∀ (Aw : Around) (L : Addr) (outer : List Env) (a : Addr) (go : Obj) (H : Hp) (vs : List V) (yl : YlT) (fin : List V → Hp → Prop), Room k (Aw.deeper (envOfC qual scope L f cdv)) → sp vs H yl fin → ∀ H2, Same H H2 →
      ∃ t, GSs (GF.mk P w K mg base Aw N (envOfC qual scope L f cdv) outer a go) body t ∧ t { nx := fun ys _ H' => fin ys H', rt := fin, yl := yl } [] (start N vs) H2) :
    GFnQ P w K mg base (k + 1) f (PySem.W.fnOf name qual params body scope dV kV doc pm an cdv ct) ps sp := by
  refine ⟨len, fun A outer s H args us vs yl fin hr e0 hb r hsp => ?_⟩
  have hl := len _ _ _ _ hsp
  have KX : K.In s.heap := e0.mod.kin.keeps fun b o e => (e0.bs b o e).1
  have lim : s.heap.NoLimit := e0.mod.nolimit.keeps fun b o e => (e0.bs b o e).1
  have hkind : ∀ y ∈ ps.zip us, scope.names.lookup y.1 = some .local ∨ (scope.names.lookup y.1 = some .cell ∧ ((cellsFrom (s.heap.objs.size + 1) scope.names []).lookup y.1).isSome = true) := fun ⟨n, v⟩ hy => by
    rcases S.par n (List.of_mem_zip hy).1 with q | q
    · exact .inl q
    · exact .inr ⟨q, PySem.W.cellsFrom_some _ _ _ (.inl q)⟩
  refine codeAny_call_generator hr.depth (KX _ _ lk) rfl S.co S.gen rfl (PySem.W.codeRec_of KX hcd) (hb _ _ _ _ ?_)
  refine wpAny_newFunctionEnv_cells S.kind hkind fun env he s1 x => ?_
  subst he
  have lim1 : s1.heap.NoLimit := lim.keeps x.toInCall.keep
  refine ⟨lim1, ?_⟩
  obtain ⟨h1, tk, es1, hk1⟩ := x.done
  have os1 : s1.os = s.os := by rw [es1]
  have gen1 : s1.gens = s.gens := by rw [es1]
  have lt1 : s.heap.objs.size < s1.heap.objs.size := x.toInCall.ns.lt
  have kp1 : ∀ b o, s.heap.get? b = some o → s1.heap.get? b = some o := x.toInCall.keep
  have nocl : ∀ x, (envOfC qual scope s.heap.objs.size f cdv).cells.lookup x = none := fun x => by
    show (cellsFrom (s.heap.objs.size + 1) scope.names []).lookup x = none
    rw [nocells _ _ _ hnc]; rfl
  have nokd : ∀ x, ¬ ((envOfC qual scope s.heap.objs.size f cdv).kindOf x = some .cell ∨ (envOfC qual scope s.heap.objs.size f cdv).kindOf x = some .free) := fun x q => by
    rcases q with q | q
    · exact hnc _ (PySem.mem_of_lookup (show scope.names.lookup x = some .cell from q)) rfl
    · exact S.nofree _ (PySem.mem_of_lookup (show scope.names.lookup x = some .free from q)) rfl
  have main : ∀ (go : Obj) (nm qn : Value) (tk2 : Nat), go.cls = .type "generator" → go.data = .fields #[.int s1.gens.size 0, nm, qn] → go.slots = #[] → (∀ h : Heap, (h.push go).get? h.objs.size = some go) →
      ∃ a g c go' env N lo, Value.ref s1.heap.objs.size = .ref a ∧ Fresh P w K mg base (k + 1) outer H s yl fin { s1 with gens := s1.gens.push (.fresh (.func body (envOfC qual scope s.heap.objs.size f cdv))), toks := tk2, heap := s1.heap.push go } a g c go' env N lo := by
   intro go nm qn tk2 hgc hgd0 hgs hgp
   have hgen : ∀ h : Heap, h.get? s1.heap.objs.size = some go → h.IsGen s1.heap.objs.size s1.gens.size := fun h e => ⟨go, nm, qn, e, hgc, hgd0, hgs⟩
   have hpushed : (s1.heap.push go).get? s1.heap.objs.size = some go := hgp _
   have kp2 : ∀ b o, s1.heap.get? b = some o → (s1.heap.push go).get? b = some o := fun b o e => Heap.get?_push_of_some _ e
   have hbare : AllBare (s1.gens.push (.fresh (.func body (envOfC qual scope s.heap.objs.size f cdv)))) := AllBare.push (by rw [gen1]; exact e0.bare) rfl
   have hgod : ∀ v, go.data ≠ .cell v := fun v q => by rw [hgd0] at q; cases q
   have I1 := inv_startG (P := P) (w := w) (E := fun _ _ _ => False) S hr.hd e0 hl r x
   obtain ⟨ml, ⟨lo, es, ep, hlo, hld, hlr⟩, hll⟩ := id I1.loc
   have hlo1 : s1.heap.get? s.heap.objs.size = some lo := hlo
   have ok : ∀ Aw, Room (k + 1) Aw → Aw.frames = some outer → (GF.mk P w K mg base Aw N (envOfC qual scope s.heap.objs.size f cdv) outer s1.heap.objs.size go).Ok := fun Aw hrw _ =>
     ⟨nocl, nokd, S.kind, rfl, rfl, rfl, hrw.hd, e0.bsz, fun b hb => by
       obtain ⟨_, o, ho, _⟩ := e0.funs.mem hb
       exact Heap.lt_size ho, lt1, hgod⟩
   refine ⟨s1.heap.objs.size, s1.gens.size, .func body (envOfC qual scope s.heap.objs.size f cdv), go, envOfC qual scope s.heap.objs.size f cdv, N, lo, rfl, rfl, lt1, ?_, hpushed, hgen, hgc, ⟨_, hgd0⟩, Array.getElem?_push_size .., os1, hbare, fun b o e => kp2 b o (kp1 b o e), kp2 _ _ hlo1, (fun v q => by rw [hld] at q; cases q), ok, ?_⟩
   · show _ < (s1.heap.push _).objs.size
     rw [Heap.size_push]; exact Nat.lt_succ_self _
   intro Aw hrw hfr CI ci s2 H2 hc hs hkl
   obtain ⟨t, ht, hq⟩ := hbody Aw s.heap.objs.size outer s1.heap.objs.size go H vs yl fin (hrw.deeper _) hsp H2 hs
   obtain ⟨c0, cL, ca, cHa⟩ := ci.e0 _ _ _ hc
   have nm1 : Names (GF.mk P w K mg base Aw N (envOfC qual scope s.heap.objs.size f cdv) outer s1.heap.objs.size go) (start N vs) s1.heap := by
     refine ⟨ml, ⟨lo, es, ep, hlo, hld, hlr⟩, fun i y v h1 h2 h3 => ?_⟩
     obtain ⟨u, ru, q⟩ := hll i y v h1 h2 h3
     rcases q with ⟨k1, q⟩ | ⟨k1, _⟩
     · exact ⟨u, ru, k1, q⟩
     · exact absurd k1 (nokd y)
   have nm2 := nm1.keep (h' := s2.heap) fun o e => hkl o (kp2 _ _ e)
   refine seg_func ?_
   refine ht.run CI fin sizeLine [] s2 _ [] _ _ id id s2 s2 H2 (start N vs) H2 _ (ok Aw hrw hfr) ci ⟨over_func, rfl, rfl, rfl⟩ (Nat.add_zero _) hc (fun n ys s₀ s' sw Hw fl hn hcw hs => ?_) (rebase (ok Aw hrw hfr) c0 cL ca cHa I1.len nm2) hq
   cases fl with
   | next =>
     obtain ⟨σ', H', I', q⟩ := hs
     exact seg_end (.ok (.ret .none)) (.inl ⟨.inl rfl, ys, H', ci.run _ _ _ _ _ _ hcw I', q⟩)
   | brk => exact hs.elim
   | cont => exact hs.elim
   | ret u =>
     obtain ⟨rfl, σ', H', I', q⟩ := hs
     exact seg_end (.ok (.ret .none)) (.inl ⟨.inl rfl, ys, H', ci.run _ _ _ _ _ _ hcw I', q⟩)
  exact main { cls := .type "generator", data := .fields #[.int s1.gens.size 0, .str name s1.toks, .str qual (s1.toks + 1)] } _ _ (s1.toks + 1 + 1) rfl rfl rfl fun h => Heap.get?_push_size _ rfl

/-! ### the consumer -/
section
variable {X : Cx} {pins : List (Addr × Obj)} {σ : St} {H : Hp} {s : Shared}
theorem Inv.withGens (I : Inv X pins σ H s) {G : Array GenState} (hG : AllBare G) : Inv X pins σ H { s with gens := G } :=
  ⟨I.ok, I.os, hG, I.base, I.loc, I.cell, I.free, I.freeC, I.pin, I.hok, I.len⟩
theorem Inv.ofRel (I : Inv X pins σ H s) {b : Shared} (r : Rel s b) : Inv X pins σ H b := by
  have hb := bare_of_rel r I.bare
  have e : b = { { s with gens := b.gens } with toks := s.toks } := by
    obtain ⟨hh, gg, dd, tt, oo⟩ := b
    have := r.heap; have := r.drawn; have := r.toks; have := r.os
    dsimp only at *; subst_vars; rfl
  rw [e]
  exact Inv.withGens I hb

def qFor (sp : SpQ) (dvs : List V) (ta : TA) (g : TG) (tb : TS) : TS := fun D σ H => ta σ H fun vs H1 => ∃ (J : List V → St → Hp → Prop) (yl : YlT) (fin : List V → Hp → Prop), sp (vs ++ dvs) H1 yl fin ∧ J [] σ H1 ∧
  (∀ ys σ Ha Hb, J ys σ Ha → (∀ b xs, Ha b = some (.tup xs) → Hb b = some (.tup xs)) → J ys σ Hb) ∧
  (∀ ys x σ H2, J ys σ H2 → yl ys x H2 → g x σ H2 fun σ3 H3 => tb { nx := fun σ' H' => Same H2 H' ∧ J (ys ++ [x]) σ' H', rt := fun _ _ => False, ct := fun σ' H' => Same H2 H' ∧ J (ys ++ [x]) σ' H' } σ3 H3) ∧
  ∀ ys σ H2, J ys σ H2 → fin ys H2 → D.nx σ H2

/-- what the loop knows between the turns -/
def LoopCI (X : Cx) (pins : List (Addr × Obj)) (a L : Addr) (go : Obj) (J : List V → St → Hp → Prop) : CIt := fun ys H s =>
  ∃ σ lo, (∀ v, lo.data ≠ .cell v) ∧ Inv X (pins ++ [(a, go), (L, lo)]) σ H s ∧ J ys σ H

theorem loopCI_ok {N : List Str} {env : Env} {a : Addr} {go : Obj} {J : List V → St → Hp → Prop} {sc : Shared} {σc : St} {Hc : Hp} (I0 : Inv X pins σc Hc sc) (hL : env.locals = sc.heap.objs.size) (haL : env.locals < a)
    (hJ : ∀ ys σ Ha Hb, J ys σ Ha → (∀ b xs, Ha b = some (.tup xs) → Hb b = some (.tup xs)) → J ys σ Hb) :
    CIok (GF.mk X.prog X.w X.K X.mg X.base X.A.in1 N env X.stack a go) (LoopCI X pins a env.locals go J) := by
  refine ⟨fun ys H s h => ?_, fun ys Hw sw H s σ h I => ?_⟩
  · obtain ⟨σ, lo, _, I, _⟩ := h
    have p1 := I.pin (a, go) (List.mem_append_right _ (List.mem_append_right _ List.mem_cons_self))
    have p2 := I.pin (env.locals, lo) (List.mem_append_right _ (List.mem_append_right _ (List.mem_cons_of_mem _ List.mem_cons_self)))
    exact ⟨I.env0.in1, p2.2.1, p1.1, p1.2.1⟩
  · obtain ⟨σc', lo, hlo, Ic, hj⟩ := h
    have p1 := Ic.pin (a, go) (List.mem_append_right _ (List.mem_append_right _ List.mem_cons_self))
    have p2 := Ic.pin (env.locals, lo) (List.mem_append_right _ (List.mem_append_right _ (List.mem_cons_of_mem _ List.mem_cons_self)))
    have q1 := I.pin (a, go) (List.mem_append_left _ List.mem_cons_self)
    obtain ⟨m, ⟨lo', es, ep, ho', hd', _⟩, _⟩ := id I.loc
    have hlo' : ∀ v, lo'.data ≠ .cell v := fun v q => by rw [hd'] at q; cases q
    -- without the pin at the locals
    have Ia : Inv X (pins ++ [(a, go)]) σc' Hw sw := Ic.pins_of fun p hp => by
      rcases List.mem_append.mp hp with z | z
      · exact Ic.pin p (List.mem_append_right _ (List.mem_append_left _ z))
      · rw [List.mem_singleton.mp z]; exact p1
    have lt0 : ∀ b o, sc.heap.get? b = some o → b < env.locals := fun b o e => by rw [hL]; exact Heap.lt_size e
    have hcut : ∀ b o, b < env.locals → sw.heap.get? b = some o → (cut sw.heap env.locals).get? b = some o := fun b o hb e => (cut_get hb).trans e
    have B := I.base
    let ch : List Addr := (List.range sw.heap.objs.size).filter fun b => decide (env.locals ≤ b) && decide (b ≠ a)
    have hch : ∀ b, b ∈ ch → env.locals ≤ b ∧ b ≠ a := fun b hb => by
      have := (List.mem_filter.mp hb).2
      simpa using this
    have nch : ∀ b o, sw.heap.get? b = some o → b ∉ ch → b < env.locals ∨ b = a := fun b o e hb => by
      by_cases c1 : b < env.locals
      · exact .inl c1
      · by_cases c2 : b = a
        · exact .inr c2
        · exact absurd (List.mem_filter.mpr ⟨List.mem_range.mpr (Heap.lt_size e), by
            rw [Bool.and_eq_true]
            exact ⟨decide_eq_true (Nat.le_of_not_lt c1), decide_eq_true c2⟩⟩) hb
    have un : Un (frs X.stack) ch Hw H sw.heap s.heap := by
      refine ⟨fun b o e n hf hc => ?_, fun b o e n hf hc => ?_, fun b o e n hc => ?_, fun b o e hc => ?_, B.tups, B.frzs, B.tbls⟩
      · rcases nch b o e hc with z | z
        · exact B.keep b o (hcut b o z e) n hf (by simp [gX])
        · subst z
          have e1 : o = go := Option.some.inj (e.symm.trans p1.1)
          rw [e1]; exact q1.1
      · rcases nch b o e hc with z | z
        · exact B.slot b o (hcut b o z e) n hf (by simp [gX])
        · subst z
          have e1 : o = go := Option.some.inj (e.symm.trans p1.1)
          exact ⟨o.slots, by rw [e1]; exact q1.1⟩
      · rcases nch b o e hc with z | z
        · exact B.free b o (hcut b o z e) n (by simp [gX])
        · subst z; exact q1.2.1
      · rcases nch b o e hc with z | z
        · exact B.there b o (hcut b o z e) (by simp [gX])
        · subst z; exact ⟨_, q1.1⟩
    have I2 : Inv X (pins ++ [(a, go)]) σc' H s := Ia.call' (ch := ch) I.os un I.hok I.bare fun b hb => by
      obtain ⟨h1, h2⟩ := hch b hb
      refine ⟨.inr (Nat.le_trans (by rw [hL]; exact I0.sz) h1), fun z => ?_, fun x c e z => ?_, fun p hp z => ?_⟩
      · have := I0.lt
        rw [← hL] at this
        rw [← z] at this
        exact absurd (Nat.lt_of_lt_of_le this h1) (Nat.lt_irrefl _)
      · obtain ⟨v, o, ho, _⟩ := I0.cell x c e
        have := lt0 c o ho
        rw [z] at this
        exact absurd (Nat.lt_of_lt_of_le this h1) (Nat.lt_irrefl _)
      · rcases List.mem_append.mp hp with y | y
        · have := lt0 _ _ (I0.pin p (List.mem_append_left _ y)).1
          rw [z] at this
          exact absurd (Nat.lt_of_lt_of_le this h1) (Nat.lt_irrefl _)
        · rcases List.mem_append.mp y with y | y
          · have := lt0 _ _ (I0.pin p (List.mem_append_right _ y)).1
            rw [z] at this
            exact absurd (Nat.lt_of_lt_of_le this h1) (Nat.lt_irrefl _)
          · rw [List.mem_singleton.mp y] at z
            exact h2 z.symm
    refine ⟨σc', lo', hlo', I2.pins_of fun p hp => ?_, hJ _ _ _ _ hj B.tups⟩
    rcases List.mem_append.mp hp with z | z
    · exact I2.pin p (List.mem_append_right _ (List.mem_append_left _ z))
    · rcases List.mem_cons.mp z with z | z
      · rw [z]; exact I2.pin (a, go) (List.mem_append_right _ (List.mem_append_right _ List.mem_cons_self))
      · rw [List.mem_singleton.mp z]
        exact ⟨ho', I.free, p2.2.2.1, p2.2.2.2.1, hlo'⟩

/-- for tg in f(e, ..): body, f a generator def; nothing leaves by an exception -/
theorem ps_forG (hx : ∀ e s, ¬ X.xe e s) {k : Nat} {f : Addr} {fd : FuncData} {ps : List Str} {sp : SpQ} {dvs : List V} {ds : List Value} {x : Str} {tg e : Expr} {es : List Expr} {t : TA} {g : TG} {tb : TS} {body : List Stmt} {p pos pos' : Pos}
    (F : GFnQ X.prog X.w X.K X.mg X.base k f fd ps sp) (hr : Room (k + 1) X.A) (hg : Gl X x) (hm : X.mg x = some (.ref f)) (hk : PySem.W.keepIn X.K (.ref f) = true) (hb : Binds X.K fd ps ds) (hd : Vals dvs ds)
    (ha : PA X (e :: es) t) (htg : PG X tg g) (hbody : PSs X body tb) (hdb : (x == ("__debug__" : Str)) = false := by decide)
    (he : starEach (e :: es) X.env = (false, eval e X.env) :: starEach es X.env := by rfl) (hpl : (backTo pos' (starEach es X.env)).any (·.1) = false := by rfl)
    (hs : ∀ v, foldedSetIterable (.Call (.Name x p) (e :: es) [] pos') X.env v = pure v := by intro _; rfl) :
    PS X (.For tg (.Call (.Name x p) (e :: es) [] pos') body [] pos) (qFor sp dvs t g tb) := by
  refine ⟨fun pins s σ H D I h => ?_⟩
  have hp : PassesOwn (model X.prog X.w) X.A X.env X.xe := fun e s' h => (hx e s' h).elim
  refine wpAny_For ?_ hs
  refine wpAny_Call_Name_kw (ld_glob I hg hm ?_ hdb)
  refine PySem.W.callWith_K (h₀ := X.base) I.ok.mod.kin hk (thn (ha.run pos' pins s σ H _ I h) fun us s1 ⟨vs, H1, I1, r, q⟩ => ⟨I1.kIn, ?_⟩) he hpl
  obtain ⟨J, yl, fin, hsp, j0, hJ, hturn, hdone⟩ := q
  have r2 : Vals (vs ++ dvs) (us ++ ds) := r.append hd
  have hl2 : (us ++ ds).length = ps.length := by rw [← r2.length]; exact F.len _ _ _ _ hsp
  refine wpAny_call (codeAny_mono (F.run X.A X.stack s1 H1 ⟨us, []⟩ (us ++ ds) (vs ++ dvs) yl fin (hr.mono (Nat.le_succ _)) I1.env0 (hb s1 us I1.kIn hl2) r2 hsp) fun rr s2 hq => ?_)
  cases rr with
  | error e => exact hq.elim
  | ok fl =>
  cases fl with
  | next => exact hq.elim
  | brk => exact hq.elim
  | cont => exact hq.elim
  | ret u =>
  obtain ⟨a, gn, c, go, env, N, lo, rfl, M⟩ := hq
  have I2 : Inv X pins σ H1 s2 := I1.call' (ch := []) M.os (Un.kept M.keep) (I1.hok.kept M.keep) M.bare (fun b z => by simp at z)
  have szL : s1.heap.objs.size ≤ env.locals := Nat.le_of_eq M.loc.symm
  have szA : s1.heap.objs.size ≤ a := Nat.le_trans szL (Nat.le_of_lt M.lt)
  have god : ∀ v, go.data ≠ .cell v := fun v q => by
    obtain ⟨vs, e⟩ := M.dat
    rw [e] at q; cases q
  have I3 : Inv X (pins ++ [(a, go), (env.locals, lo)]) σ H1 s2 := I2.pins_of fun q hq => by
    rcases List.mem_append.mp hq with z | z
    · exact I2.pin q (List.mem_append_right _ z)
    · rcases List.mem_cons.mp z with z | z
      · rw [z]; exact ⟨M.ago, I1.hok.fresh szA, Nat.ne_of_gt (Nat.lt_of_lt_of_le I1.lt szA), I1.nofs szA, god⟩
      · rw [List.mem_singleton.mp z]; exact ⟨M.hlo, I1.hok.fresh szL, Nat.ne_of_gt (Nat.lt_of_lt_of_le I1.lt szL), I1.nofs szL, M.loc2⟩
  refine wpAny_pyIter_gen (M.isg _ M.ago) ?_
  have ci := loopCI_ok (N := N) (J := J) (go := go) I1 M.loc M.lt hJ
  have hrw : Room k X.A.in1 := hr.in1
  have hfr : X.A.in1.frames = some X.stack := I1.ok.frames
  refine codeAny_forLoop_any (fun n s' => ∃ ys σ' H' lo' gs, (∀ v, lo'.data ≠ .cell v) ∧ Inv X (pins ++ [(a, go), (env.locals, lo')]) σ' H' s' ∧ J ys σ' H' ∧ s'.gens[gn]? = some gs ∧
    gs.Goes (model X.prog X.w) X.A.in1 (GRr (LoopCI X pins a env.locals go J) fin) (GYy (GF.mk X.prog X.w X.K X.mg X.base X.A.in1 N env X.stack a go) (LoopCI X pins a env.locals go J) yl) n (.send .none) (s'.setGen gn .running)) ?_ sizeLine
    ⟨[], σ, H1, lo, _, M.loc2, I3, j0, M.gens, rfl, ?_⟩
  · rintro n s3 ⟨ys, σ3, H3, lo3, gs, hlo3, J3, j3, hgs, hgo⟩
    have p1 := J3.pin (a, go) (List.mem_append_right _ (List.mem_append_right _ List.mem_cons_self))
    have hgl : gn < s3.gens.size := (Array.getElem?_eq_some_iff.mp hgs).1
    refine wpAny_passesOwn hp (wpAny_mono (wpAny_gsz (n := gn + 1) hgl (next_genG (A := X.A) (Er := fun _ _ => False) (Q := fun rr s₁ => gn + 1 ≤ s₁.gens.size → _) (E := fun e s' => gn + 1 ≤ s'.gens.size → X.xe e s') hr.hd J3.nolimit hr.depth (M.isg _ p1.1) hgs hgo
      (fun v s₁ gs' hbare hv => ?_) (fun s₁ hp' h' hk' => ?_) (fun e s₁ he => he.elim))) (fun _ _ z => z) fun _ _ z => z)
    · intro hsz
      obtain ⟨ys1, y, H4, hn, rv, hyl, ⟨σ4, lo4, hlo4, I4, j4⟩, hkap⟩ := hv
      have hsz1 : gn < s₁.gens.size := by
        have q : (s₁.setGen gn gs').gens.size = s₁.gens.size := setGen_size _ _ _
        omega
      have p4 := I4.pin (a, go) (List.mem_append_right _ (List.mem_append_right _ List.mem_cons_self))
      have p4L := I4.pin (env.locals, lo4) (List.mem_append_right _ (List.mem_append_right _ (List.mem_cons_of_mem _ List.mem_cons_self)))
      have I5 : Inv X (pins ++ [(a, go), (env.locals, lo4)]) σ4 H4 (s₁.setGen gn gs') := Inv.withGens I4 (allBare_setGen I4.bare hbare)
      have Ip : Inv X (pins ++ [(a, go), (env.locals, lo4)]) σ4 H4 (poisS (s₁.setGen gn gs')) := Inv.withGens I5 (poisS_bare I5.bare)
      obtain ⟨vsg, hvs⟩ := M.dat
      refine wpAny_passesOwn hp (go_of (o := go) (n := "generator") (vs := vsg) (s := s₁.setGen gn gs') p4.1 M.cls hvs (by decide) ?_)
      have run1 := htg.run _ _ σ4 H4 y v _ Ip rv (hturn ys1 y σ4 H4 j4 hyl)
      refine wpAny_passesOwn hp (wpAny_mono (wpAny_sim (poisS_good _) (poisS_rel _) run1) (fun _ s6 h6 => ?_) fun e s' h => by
        obtain ⟨a1, h1, _⟩ := h
        exact (hx _ _ h1).elim)
      obtain ⟨a6, ⟨σ6, H6, I6, q6⟩, r6, g6, k6⟩ := h6
      have run2 := hbody.run _ _ σ6 H6 _ I6 q6
      refine wpAny_passesOwn hp (wpAny_mono (wpAny_sim g6 r6 run2) (fun fl s7 h7 => ?_) fun e s' h => by
        obtain ⟨a1, h1, _⟩ := h
        exact (hx _ _ h1).elim)
      obtain ⟨a7, q7, r7, g7, k7⟩ := h7
      have kk := k6.trans k7
      have again : ∀ {σ7 : St} {H7 : Hp}, Inv X (pins ++ [(a, go), (env.locals, lo4)]) σ7 H7 a7 → Same H4 H7 → J (ys1 ++ [y]) σ7 H7 → ∃ m, m < n ∧ ∃ ys σ' H' lo' gs, (∀ v, lo'.data ≠ .cell v) ∧ Inv X (pins ++ [(a, go), (env.locals, lo')]) σ' H' s7 ∧ J ys σ' H' ∧ s7.gens[gn]? = some gs ∧
          gs.Goes (model X.prog X.w) X.A.in1 (GRr (LoopCI X pins a env.locals go J) fin) (GYy (GF.mk X.prog X.w X.K X.mg X.base X.A.in1 N env X.stack a go) (LoopCI X pins a env.locals go J) yl) m (.send .none) (s7.setGen gn .running) := by
        intro σ7 H7 I7 hs7 j7
        have I8 := Inv.ofRel I7 r7
        have p8L := I8.pin (env.locals, lo4) (List.mem_append_right _ (List.mem_append_right _ (List.mem_cons_of_mem _ List.mem_cons_self)))
        have hk2 := hkap (s7.setGen gn .running) H7 ⟨σ7, lo4, hlo4, Inv.withGens I8 (allBare_setGen I8.bare rfl), j7⟩ hs7 fun o e => by
          have e1 : o = lo4 := Option.some.inj (e.symm.trans p4L.1)
          rw [e1]; exact p8L.1
        cases n with
        | zero => exact hk2.1.elim
        | succ m =>
          obtain ⟨k1, k2⟩ := hk2
          cases gs' with
          | fresh c' =>
            obtain ⟨z, _⟩ := k2
            injection z with z
            cases z
          | running => exact k1.elim
          | finished => exact k1.elim
          | suspended kq lq cq pq fq clq => exact ⟨m, Nat.lt_succ_self m, ys1 ++ [y], σ7, H7, lo4, _, hlo4, I8, j7, kept_at kk (setGen_at hsz1), k1⟩
      cases fl with
      | next => obtain ⟨σ7, H7, I7, hs7, j7⟩ := q7; exact again I7 hs7 j7
      | cont => obtain ⟨σ7, H7, I7, hs7, j7⟩ := q7; exact again I7 hs7 j7
      | brk => obtain ⟨σ7, H7, I7, z⟩ := q7; exact z.elim
      | ret v => obtain ⟨v7, σ7, H7, I7, _, z⟩ := q7; exact z.elim
    · intro _
      obtain ⟨ys1, H4, ⟨σ4, lo4, hlo4, I4, j4⟩, hf⟩ := hp'
      have I5 : Inv X (pins ++ [(a, go), (env.locals, lo4)]) σ4 H4 { s₁ with heap := h', toks := s₁.toks } := I4.kept hk'
      have I6 : Inv X (pins ++ [(a, go), (env.locals, lo4)]) σ4 H4 { s₁.setGen gn .finished with heap := h' } := Inv.withGens I5 (allBare_setGen I4.bare rfl)
      exact wpAny_execs_nil ⟨σ4, H4, I6.unpinned, hdone ys1 σ4 H4 j4 hf⟩
  · refine M.wake X.A.in1 hrw hfr _ ci (s2.setGen gn .running) H1 ⟨σ, lo, M.loc2, Inv.withGens I3 (allBare_setGen I3.bare rfl), j0⟩ (Same.refl _) fun o e => e
end
end TwG
end

-- text TwPerm
section
/-! Cycle counts of permutations of finite lists of labels. Core Lean alone. -/
namespace Tw

/-- the label a is taken out: what went to a goes where a went -/
def byp (a : Nat) (s : Nat → Nat) : Nat → Nat := fun i => if s i = a then s a else s i

/-- the number of cycles of s on the labels -/
def cyc : List Nat → (Nat → Nat) → Nat
  | [], _ => 0
  | a :: L, s => (if s a = a then 1 else 0) + cyc L (byp a s)

structure PermOn (L : List Nat) (s : Nat → Nat) : Prop where
  nd : L.Nodup
  maps : ∀ x ∈ L, s x ∈ L
  inj : ∀ x ∈ L, ∀ y ∈ L, s x = s y → x = y

theorem cyc_congr : ∀ (L : List Nat) (s t : Nat → Nat), (∀ x ∈ L, s x = t x) → cyc L s = cyc L t
  | [], _, _, _ => rfl
  | a :: L, s, t, h => by
    have ha := h a List.mem_cons_self
    have e : cyc L (byp a s) = cyc L (byp a t) := cyc_congr L _ _ fun x hx => by
      have hx' := h x (List.mem_cons_of_mem _ hx)
      simp only [byp, ha, hx']
    simp only [cyc, ha, e]

theorem PermOn.congr {L : List Nat} {s t : Nat → Nat} (h : PermOn L s) (e : ∀ x ∈ L, s x = t x) : PermOn L t :=
  ⟨h.nd, fun x hx => e x hx ▸ h.maps x hx, fun x hx y hy q => h.inj x hx y hy (by rw [e x hx, e y hy]; exact q)⟩

theorem PermOn.perm {L L' : List Nat} {s : Nat → Nat} (h : PermOn L s) (p : L.Perm L') : PermOn L' s :=
  ⟨p.nodup_iff.mp h.nd, fun x hx => p.mem_iff.mp (h.maps x (p.mem_iff.mpr hx)), fun x hx y hy => h.inj x (p.mem_iff.mpr hx) y (p.mem_iff.mpr hy)⟩

theorem PermOn.comp {L : List Nat} {s t : Nat → Nat} (h : PermOn L s) (k : PermOn L t) : PermOn L (fun x => s (t x)) :=
  ⟨h.nd, fun x hx => h.maps _ (k.maps x hx), fun x hx y hy q => k.inj x hx y hy (h.inj _ (k.maps x hx) _ (k.maps y hy) q)⟩

theorem PermOn.byp {a : Nat} {L : List Nat} {s : Nat → Nat} (h : PermOn (a :: L) s) : PermOn L (byp a s) := by
  have nd := List.nodup_cons.mp h.nd
  have ha : a ∈ a :: L := List.mem_cons_self
  have sub : ∀ x ∈ L, x ∈ a :: L := fun x hx => List.mem_cons_of_mem _ hx
  have ne : ∀ x ∈ L, x ≠ a := fun x hx e => nd.1 (e ▸ hx)
  refine ⟨nd.2, fun x hx => ?_, fun x hx y hy q => ?_⟩
  · unfold Tw.byp
    split
    · rename_i e
      have n : s a ≠ a := fun z => ne x hx (h.inj x (sub x hx) a ha (e.trans z.symm))
      exact (List.mem_cons.mp (h.maps a ha)).resolve_left n
    · rename_i e
      exact (List.mem_cons.mp (h.maps x (sub x hx))).resolve_left e
  · unfold Tw.byp at q
    split at q
    · rename_i e
      split at q
      · rename_i e2
        exact h.inj x (sub x hx) y (sub y hy) (e.trans e2.symm)
      · exact absurd (h.inj a ha y (sub y hy) q).symm (ne y hy)
    · split at q
      · exact absurd (h.inj x (sub x hx) a ha q) (ne x hx)
      · exact h.inj x (sub x hx) y (sub y hy) q

/-- the pigeons -/
theorem pigeon : ∀ (L1 L2 : List Nat), L1.Nodup → (∀ x ∈ L1, x ∈ L2) → L2.length ≤ L1.length → ∀ x ∈ L2, x ∈ L1
  | [], L2, _, _, hl, x, hx => by
    cases L2 with
    | nil => exact hx
    | cons a l => simp at hl
  | a :: L1, L2, nd, sub, hl, x, hx => by
    have nd := List.nodup_cons.mp nd
    have ha : a ∈ L2 := sub a List.mem_cons_self
    have len := List.length_erase_of_mem ha
    have h0 : 0 < L2.length := List.length_pos_of_mem ha
    by_cases e : x = a
    · exact e ▸ List.mem_cons_self
    · refine List.mem_cons_of_mem _ (pigeon L1 (L2.erase a) nd.2 (fun y hy => ?_) ?_ x ((List.mem_erase_of_ne e).mpr hx))
      · have : y ≠ a := fun z => nd.1 (z ▸ hy)
        exact (List.mem_erase_of_ne this).mpr (sub y (List.mem_cons_of_mem _ hy))
      · simp only [List.length_cons] at hl; omega

theorem nodup_map_on {f : Nat → Nat} : ∀ {L : List Nat}, L.Nodup → (∀ x ∈ L, ∀ y ∈ L, f x = f y → x = y) → (L.map f).Nodup
  | [], _, _ => List.nodup_nil
  | a :: L, nd, inj => by
    have nd := List.nodup_cons.mp nd
    refine List.nodup_cons.mpr ⟨fun hm => ?_, nodup_map_on nd.2 fun x hx y hy => inj x (List.mem_cons_of_mem _ hx) y (List.mem_cons_of_mem _ hy)⟩
    obtain ⟨x, hx, e⟩ := List.mem_map.mp hm
    have := inj x (List.mem_cons_of_mem _ hx) a List.mem_cons_self e
    exact nd.1 (this ▸ hx)

theorem inj_of_nodup_map {f : Nat → Nat} : ∀ {L : List Nat}, (L.map f).Nodup → ∀ x ∈ L, ∀ y ∈ L, f x = f y → x = y
  | [], _, x, hx, _, _, _ => by simp at hx
  | a :: L, nd, x, hx, y, hy, e => by
    have nd := List.nodup_cons.mp (by rw [List.map_cons] at nd; exact nd)
    rcases List.mem_cons.mp hx with hx | hx <;> rcases List.mem_cons.mp hy with hy | hy
    · rw [hx, hy]
    · exact absurd (List.mem_map.mpr ⟨y, hy, by rw [← e, hx]⟩) nd.1
    · exact absurd (List.mem_map.mpr ⟨x, hx, by rw [e, hy]⟩) nd.1
    · exact inj_of_nodup_map nd.2 x hx y hy e

theorem PermOn.surj {L : List Nat} {s : Nat → Nat} (h : PermOn L s) : ∀ y ∈ L, ∃ x ∈ L, s x = y := fun y hy => by
  have k := pigeon (L.map s) L (nodup_map_on h.nd h.inj) (fun x hx => by
    obtain ⟨z, hz, e⟩ := List.mem_map.mp hx
    exact e ▸ h.maps z hz) (by rw [List.length_map]; exact Nat.le_refl _) y hy
  obtain ⟨x, hx, e⟩ := List.mem_map.mp k
  exact ⟨x, hx, e⟩

theorem PermOn.map_perm {L : List Nat} {s : Nat → Nat} (h : PermOn L s) : (L.map s).Perm L := by
  have nd := nodup_map_on h.nd h.inj
  rw [List.perm_ext_iff_of_nodup nd h.nd]
  intro y
  constructor
  · intro hy
    obtain ⟨z, hz, e⟩ := List.mem_map.mp hy
    exact e ▸ h.maps z hz
  · intro hy
    obtain ⟨x, hx, e⟩ := h.surj y hy
    exact List.mem_map.mpr ⟨x, hx, e⟩

/-- the order of the labels has no effect -/
theorem cyc_perm {L L' : List Nat} (p : L.Perm L') : ∀ (s : Nat → Nat), PermOn L s → cyc L s = cyc L' s := by
  induction p with
  | nil => intro s _; rfl
  | cons a p ih => intro s h; simp only [cyc]; rw [ih _ h.byp]
  | swap a b L =>
    intro s h
    have nd := List.nodup_cons.mp h.nd
    have nd2 := List.nodup_cons.mp nd.2
    have hab : b ≠ a := fun e => nd.1 (e ▸ List.mem_cons_self)
    have hb : b ∈ b :: a :: L := List.mem_cons_self
    have ha : a ∈ b :: a :: L := List.mem_cons_of_mem _ List.mem_cons_self
    have i1 : s a ≠ s b := fun e => hab (h.inj a ha b hb e).symm
    have e : cyc L (byp a (byp b s)) = cyc L (byp b (byp a s)) := cyc_congr _ _ _ fun x hx => by
      have hx' : x ∈ b :: a :: L := List.mem_cons_of_mem _ (List.mem_cons_of_mem _ hx)
      have xa : x ≠ a := fun z => nd2.1 (z ▸ hx)
      have xb : x ≠ b := fun z => nd.1 (z ▸ List.mem_cons_of_mem _ hx)
      have i2 : s x ≠ s a := fun e => xa (h.inj x hx' a ha e)
      have i3 : s x ≠ s b := fun e => xb (h.inj x hx' b hb e)
      simp only [byp]
      repeat' split
      all_goals first | rfl | omega | exact absurd trivial (by assumption)
    simp only [cyc, e]
    suffices q : (if s b = b then 1 else 0) + (if byp b s a = a then 1 else 0) = (if s a = a then 1 else 0) + (if byp a s b = b then 1 else 0) by omega
    simp only [byp]
    repeat' split
    all_goals first | rfl | omega | exact absurd trivial (by assumption)
  | trans p q ih1 ih2 => intro s h; rw [ih1 s h, ih2 s (h.perm p)]

/-- two values exchanged -/
def swp (s : Nat → Nat) (u v : Nat) : Nat → Nat := fun i => if i = u then s v else if i = v then s u else s i

theorem PermOn.swp {L : List Nat} {s : Nat → Nat} (h : PermOn L s) {u v : Nat} (hu : u ∈ L) (hv : v ∈ L) : PermOn L (swp s u v) := by
  refine ⟨h.nd, fun x hx => ?_, fun x hx y hy q => ?_⟩
  · unfold Tw.swp
    repeat' split
    · exact h.maps v hv
    · exact h.maps u hu
    · exact h.maps x hx
  · have k := h.inj
    unfold Tw.swp at q
    have a1 := k u hu v hv
    have a2 := k x hx u hu
    have a3 := k x hx v hv
    have a4 := k u hu y hy
    have a5 := k v hv y hy
    have a6 := k x hx y hy
    have a7 := k v hv u hu
    repeat' split at q
    all_goals first | (subst_vars; first | rfl | omega) | omega

theorem cyc_swp : ∀ (m : Nat) (L : List Nat) (s : Nat → Nat) (u v : Nat), L.length = m → PermOn L s → u ∈ L → v ∈ L → u ≠ v →
    cyc L (swp s u v) = cyc L s + 1 ∨ cyc L (swp s u v) + 1 = cyc L s := by
  intro m
  induction m with
  | zero =>
    intro L s u v hl _ hu
    have : L = [] := List.eq_nil_of_length_eq_zero hl
    subst this; simp at hu
  | succ m ih =>
    intro L s u v hl h hu hv huv
    have p : L.Perm (v :: L.erase v) := List.perm_cons_erase hv
    have hP := h.perm p
    have hS := (h.swp hu hv).perm p
    rw [cyc_perm p _ h, cyc_perm p _ (h.swp hu hv)]
    have hu' : u ∈ L.erase v := (List.mem_erase_of_ne huv).mpr hu
    have hl' : (L.erase v).length = m := by rw [List.length_erase_of_mem hv]; omega
    have mem : ∀ x ∈ L.erase v, x ∈ L ∧ x ≠ v := fun x hx => ⟨List.mem_of_mem_erase hx, fun e => by
      have := (List.nodup_cons.mp hP.nd).1
      exact this (e ▸ hx)⟩
    generalize L.erase v = L' at *
    simp only [cyc]
    by_cases c1 : s v = v
    · right
      have i2 : s u ≠ s v := fun z => huv (h.inj u hu v hv z)
      have e : cyc L' (byp v (swp s u v)) = cyc L' (byp v s) := cyc_congr _ _ _ fun x hx => by
        obtain ⟨hxL, hxv⟩ := mem x hx
        have i1 : s x ≠ s v := fun z => hxv (h.inj x hxL v hv z)
        simp only [byp, swp]
        by_cases xu : x = u
        · subst xu
          repeat' split
          all_goals first | rfl | omega | exact absurd trivial (by assumption)
        · repeat' split
          all_goals first | rfl | omega | exact absurd trivial (by assumption)
      have n1 : swp s u v v ≠ v := by
        simp only [swp]
        rw [if_neg (Ne.symm huv)]; simp only [if_true]; omega
      rw [e, if_neg n1, if_pos c1]; omega
    · by_cases c2 : s u = v
      · left
        have e : cyc L' (byp v (swp s u v)) = cyc L' (byp v s) := cyc_congr _ _ _ fun x hx => by
          obtain ⟨hxL, hxv⟩ := mem x hx
          simp only [byp, swp]
          by_cases xu : x = u
          · subst xu
            repeat' split
            all_goals first | rfl | omega | exact absurd trivial (by assumption)
          · have i1 : s x ≠ s u := fun z => xu (h.inj x hxL u hu z)
            repeat' split
            all_goals first | rfl | omega | exact absurd trivial (by assumption)
        have n1 : swp s u v v = v := by
          simp only [swp]
          rw [if_neg (Ne.symm huv)]; simp only [if_true]; exact c2
        rw [e, if_pos n1, if_neg c1]; omega
      · obtain ⟨w, hw, ew⟩ := h.surj v hv
        have wu : w ≠ u := fun z => c2 (z ▸ ew)
        have wv : w ≠ v := fun z => c1 (z ▸ ew)
        have hw' : w ∈ L' := by
          have := p.mem_iff.mp hw
          exact (List.mem_cons.mp this).resolve_left wv
        have e : cyc L' (byp v (swp s u v)) = cyc L' (swp (byp v s) u w) := cyc_congr _ _ _ fun x hx => by
          obtain ⟨hxL, hxv⟩ := mem x hx
          simp only [byp, swp]
          by_cases xu : x = u
          · subst xu
            repeat' split
            all_goals first | rfl | omega | exact absurd trivial (by assumption)
          · by_cases xw : x = w
            · subst xw
              repeat' split
              all_goals first | rfl | omega | exact absurd trivial (by assumption)
            · have i1 : s x ≠ s w := fun z => xw (h.inj x hxL w hw z)
              repeat' split
              all_goals first | rfl | omega | exact absurd trivial (by assumption)
        have n1 : swp s u v v ≠ v := by
          simp only [swp]
          rw [if_neg (Ne.symm huv)]; simp only [if_true]; exact c2
        rw [e, if_neg n1, if_neg c1]
        have := ih L' (byp v s) u w hl' hP.byp hu' hw' (Ne.symm wu)
        omega

/-- other names for the labels -/
theorem cyc_map {f : Nat → Nat} : ∀ (L : List Nat) (s s' : Nat → Nat), (∀ x ∈ L, s x ∈ L) → (∀ x ∈ L, ∀ y ∈ L, f x = f y → x = y) → PermOn L s → (∀ x ∈ L, s' (f x) = f (s x)) → cyc (L.map f) s' = cyc L s
  | [], _, _, _, _, _, _ => rfl
  | a :: L, s, s', hm, inj, hP, h => by
    have ha : a ∈ a :: L := List.mem_cons_self
    have ea := h a ha
    have iff : s' (f a) = f a ↔ s a = a := by
      rw [ea]
      exact ⟨fun e => inj _ (hm a ha) a ha e, fun e => by rw [e]⟩
    have e : cyc (L.map f) (byp (f a) s') = cyc L (byp a s) := by
      refine cyc_map L _ _ hP.byp.maps (fun x hx y hy => inj x (List.mem_cons_of_mem _ hx) y (List.mem_cons_of_mem _ hy)) hP.byp fun x hx => ?_
      have hx' : x ∈ a :: L := List.mem_cons_of_mem _ hx
      have ex := h x hx'
      unfold byp
      rw [ex, ea]
      by_cases c : s x = a
      · rw [c, if_pos rfl, if_pos rfl]
      · have : f (s x) ≠ f a := fun e => c (inj _ (hm x hx') a ha e)
        rw [if_neg c, if_neg this]
    simp only [List.map_cons, cyc, e]
    by_cases c : s a = a
    · rw [if_pos c, if_pos (iff.mpr c)]
    · rw [if_neg c, if_neg fun z => c (iff.mp z)]

/-- alone in their cycles -/
def fixes (L : List Nat) (s : Nat → Nat) : Nat := L.countP fun x => s x == x

theorem count_or_one (p q : Nat → Bool) (c : Nat) : ∀ (L : List Nat), L.Nodup → (∀ x ∈ L, p x = true → q x = true ∨ x = c) → L.countP p ≤ L.countP q + (if c ∈ L then 1 else 0)
  | [], _, _ => by simp
  | a :: L, nd, h => by
    have nd := List.nodup_cons.mp nd
    have ih := count_or_one p q c L nd.2 fun x hx => h x (List.mem_cons_of_mem _ hx)
    have ha := h a List.mem_cons_self
    simp only [List.countP_cons, List.mem_cons]
    by_cases e : c = a
    · subst e
      rw [if_neg nd.1] at ih
      simp only [true_or, if_true]
      repeat' split
      all_goals omega
    · have : (c = a ∨ c ∈ L) ↔ c ∈ L := ⟨fun z => z.resolve_left e, Or.inr⟩
      simp only [this]
      by_cases pa : p a = true
      · rcases ha pa with z | z
        · rw [if_pos pa, if_pos z]; omega
        · exact absurd z.symm e
      · rw [if_neg pa]; omega

theorem cyc_fixes : ∀ (L : List Nat) (s : Nat → Nat), PermOn L s → 2 * cyc L s ≤ L.length + fixes L s
  | [], _, _ => by simp [cyc, fixes]
  | a :: L, s, h => by
    have ih := cyc_fixes L (byp a s) h.byp
    have nd := List.nodup_cons.mp h.nd
    have ha : a ∈ a :: L := List.mem_cons_self
    by_cases c : s a = a
    · have e : fixes L (byp a s) = fixes L s := by
        unfold fixes
        refine List.countP_congr fun x hx => ?_
        have xa : x ≠ a := fun z => nd.1 (z ▸ hx)
        have : s x ≠ a := fun z => xa (h.inj x (List.mem_cons_of_mem _ hx) a ha (z.trans c.symm))
        simp [byp, this]
      have f : fixes (a :: L) s = fixes L s + 1 := by simp [fixes, c]
      simp only [cyc, List.length_cons, if_pos c, f]; omega
    · have f : fixes (a :: L) s = fixes L s := by simp [fixes, c]
      have k : fixes L (byp a s) ≤ fixes L s + 1 := by
        have := count_or_one (fun x => byp a s x == x) (fun x => s x == x) (s a) L nd.2 fun x hx q => by
          have q : byp a s x = x := by simpa using q
          unfold byp at q
          split at q
          · exact Or.inr q.symm
          · left; simpa using q
        unfold fixes
        split at this <;> omega
      simp only [cyc, List.length_cons, if_neg c, f]; omega

end Tw
end

-- text TwGlue
section
/-! Labels in a ring, glued in pairs: the number of corners. -/
namespace Tw

/-- the label behind x along L; behind the last one: e -/
def nx : List Nat → Nat → Nat → Nat
  | [], _, x => x
  | a :: L, e, x => if x = a then L.headD e else nx L e x

theorem nx_append : ∀ (u v : List Nat) (e x : Nat), nx (u ++ v) e x = if x ∈ u then nx u (v.headD e) x else nx v e x
  | [], v, e, x => by simp
  | a :: u, v, e, x => by
    simp only [List.cons_append, nx, List.mem_cons]
    by_cases c : x = a
    · simp only [c, if_true, true_or]
      cases u <;> rfl
    · simp only [c, if_false, false_or]
      exact nx_append u v e x

theorem map_nx : ∀ (a : Nat) (L : List Nat) (e : Nat), (a :: L).Nodup → (a :: L).map (nx (a :: L) e) = L ++ [e]
  | a, [], e, _ => by simp [nx]
  | a, b :: L, e, nd => by
    have nd' := List.nodup_cons.mp nd
    have ih := map_nx b L e nd'.2
    have k : (b :: L).map (nx (a :: b :: L) e) = (b :: L).map (nx (b :: L) e) := by
      refine List.map_congr_left fun x hx => ?_
      have : x ≠ a := fun z => nd'.1 (z ▸ hx)
      show (if x = a then _ else _) = _
      rw [if_neg this]
    rw [List.map_cons, k, ih]
    simp [nx]

/-- around the ring -/
def ring (L : List Nat) : Nat → Nat := nx L (L.headD 0)

theorem map_ring (a : Nat) (L : List Nat) (nd : (a :: L).Nodup) : (a :: L).map (ring (a :: L)) = L ++ [a] := map_nx a L a nd

theorem ring_permOn (L : List Nat) (nd : L.Nodup) : PermOn L (ring L) := by
  cases L with
  | nil => exact ⟨nd, fun x hx => by simp at hx, fun x hx => by simp at hx⟩
  | cons a L =>
    have e := map_ring a L nd
    have p : (L ++ [a]).Perm (a :: L) := List.perm_append_singleton a L
    refine ⟨nd, fun x hx => ?_, inj_of_nodup_map (e ▸ p.nodup_iff.mpr nd)⟩
    exact p.mem_iff.mp (e ▸ List.mem_map.mpr ⟨x, hx, rfl⟩)

theorem nx_end : ∀ (L : List Nat) (a e x : Nat), a ∉ L → x ∈ L → nx L e x = if nx L a x = a then e else nx L a x
  | [], _, _, x, _, hx => by simp at hx
  | c :: L, a, e, x, ha, hx => by
    simp only [List.mem_cons, not_or] at ha hx
    by_cases cx : x = c
    · have e1 : ∀ f, nx (c :: L) f x = L.headD f := fun f => by simp only [nx]; rw [if_pos cx]
      rw [e1, e1]
      cases L with
      | nil => simp
      | cons d L =>
        have : d ≠ a := fun z => ha.2 (z ▸ List.mem_cons_self)
        simp [this]
    · have e1 : ∀ f, nx (c :: L) f x = nx L f x := fun f => by simp only [nx]; rw [if_neg cx]
      rw [e1, e1]
      exact nx_end L a e x ha.2 (hx.resolve_left cx)

/-- a ring is one cycle -/
theorem cyc_ring : ∀ (L : List Nat) (a : Nat), (a :: L).Nodup → cyc (a :: L) (ring (a :: L)) = 1
  | [], a, _ => by simp [cyc, ring, nx]
  | b :: L, a, nd => by
    have nd' := List.nodup_cons.mp nd
    have ih := cyc_ring L b nd'.2
    have ra : ring (a :: b :: L) a = b := by simp [ring, nx]
    have ne : b ≠ a := fun z => nd'.1 (z ▸ List.mem_cons_self)
    have e : cyc (b :: L) (byp a (ring (a :: b :: L))) = cyc (b :: L) (ring (b :: L)) := cyc_congr _ _ _ fun x hx => by
      have xa : x ≠ a := fun z => nd'.1 (z ▸ hx)
      have e1 : ring (a :: b :: L) x = nx (b :: L) a x := by
        show (if x = a then _ else _) = _
        rw [if_neg xa]; rfl
      unfold byp
      rw [ra, e1]
      exact (nx_end (b :: L) a b x nd'.1 hx).symm
    rw [cyc, ra, if_neg ne, e, ih]

/-- the pairs of T glued one by one -/
def part (T : List Nat) (al : Nat → Nat) : Nat → Nat := fun x => if x ∈ T then al x else x

theorem cyc_part (L : List Nat) (s al : Nat → Nat) (hs : PermOn L s) : ∀ (m : Nat) (T : List Nat), T.length = m → T.Nodup → (∀ x ∈ T, x ∈ L) → (∀ x ∈ T, al x ∈ T ∧ al (al x) = x ∧ al x ≠ x) →
    PermOn L (fun x => s (part T al x)) ∧ ∃ p, T.length = 2 * p ∧ cyc L (fun x => s (part T al x)) ≤ cyc L s + p ∧ (cyc L (fun x => s (part T al x))) % 2 = (cyc L s + p) % 2 := by
  intro m
  induction m using Nat.strongRecOn with
  | ind m ih =>
    intro T hl nd sub h
    cases T with
    | nil =>
      have e : ∀ x ∈ L, s x = s (part [] al x) := fun x _ => by simp [part]
      refine ⟨hs.congr e, 0, rfl, ?_, ?_⟩ <;> rw [cyc_congr L _ _ e] <;> simp
    | cons x T =>
      have nd' := List.nodup_cons.mp nd
      obtain ⟨hy, hyx, hne⟩ := h x List.mem_cons_self
      have hyT : al x ∈ T := (List.mem_cons.mp hy).resolve_left hne
      have lT := List.length_erase_of_mem hyT
      have pT := List.length_pos_of_mem hyT
      have ndT : (T.erase (al x)).Nodup := nd'.2.erase _
      have memT : ∀ z, z ∈ T.erase (al x) ↔ z ≠ al x ∧ z ∈ T := fun z => by
        rw [nd'.2.erase_eq_filter]; simp [and_comm]
      obtain ⟨hP, p, hp, hle, hmod⟩ := ih (T.erase (al x)).length (by simp only [List.length_cons] at hl; omega) (T.erase (al x)) rfl ndT (fun z hz => sub z (List.mem_cons_of_mem _ ((memT z).mp hz).2)) fun z hz => by
        obtain ⟨z1, z2⟩ := (memT z).mp hz
        obtain ⟨k1, k2, k3⟩ := h z (List.mem_cons_of_mem _ z2)
        refine ⟨(memT _).mpr ⟨fun q => ?_, ?_⟩, k2, k3⟩
        · have q2 : z = x := by rw [← k2, q, hyx]
          exact nd'.1 (q2 ▸ z2)
        · refine (List.mem_cons.mp k1).resolve_left fun q => z1 ?_
          rw [← k2, q]
      have e : ∀ z ∈ L, swp (fun w => s (part (T.erase (al x)) al w)) x (al x) z = s (part (x :: T) al z) := fun z _ => by
        have m1 : x ∉ T.erase (al x) := fun q => nd'.1 ((memT _).mp q).2
        have m2 : al x ∉ T.erase (al x) := fun q => ((memT _).mp q).1 rfl
        unfold swp part
        by_cases c1 : z = x
        · subst c1
          simp only [if_true, m2, if_false, List.mem_cons, true_or]
        · by_cases c2 : z = al x
          · subst c2
            simp only [c1, if_false, if_true, m1, List.mem_cons, false_or, hyT, hyx]
          · have k : (z ∈ T.erase (al x)) ↔ z ∈ x :: T := by
              rw [memT, List.mem_cons]
              exact ⟨fun q => Or.inr q.2, fun q => ⟨c2, q.resolve_left c1⟩⟩
            simp only [c1, c2, if_false, k]
      have hx : x ∈ L := sub x List.mem_cons_self
      have hy' : al x ∈ L := sub _ (List.mem_cons_of_mem _ hyT)
      have sw := cyc_swp L.length L _ x (al x) rfl hP hx hy' (Ne.symm hne)
      rw [cyc_congr L _ _ e] at sw
      refine ⟨(hP.swp hx hy').congr e, p + 1, ?_, ?_, ?_⟩
      · simp only [List.length_cons]; omega
      · omega
      · omega
end Tw
end

-- text TwHas
section
/-! The least D = pairs + 1 - corners of the gluings of a row of letters. -/
namespace Tw

structure Gl (W : List (Nat × Int)) (al : Nat → Nat) : Prop where
  nd : (W.map (·.1)).Nodup
  ok : ∀ p ∈ W, p.2 ≠ 0 ∧ (al p.1, -p.2) ∈ W ∧ al (al p.1) = p.1

/-- the number of corners -/
def cor (L : List Nat) (al : Nat → Nat) : Nat := if L = [] then 1 else cyc L (fun x => ring L (al x))

/-- some gluing of the row has pairs + 1 - corners at most k -/
def has (w : List Int) (k : Nat) : Prop := ∃ W al, W.map (·.2) = w ∧ Gl W al ∧ w.length + 2 ≤ 2 * cor (W.map (·.1)) al + 2 * k

theorem has.mono {w : List Int} {k k' : Nat} (h : has w k) (hk : k ≤ k') : has w k' := by
  obtain ⟨W, al, e, g, l⟩ := h
  exact ⟨W, al, e, g, by omega⟩

theorem fst_unique : ∀ {W : List (Nat × Int)}, (W.map (·.1)).Nodup → ∀ {x a b}, (x, a) ∈ W → (x, b) ∈ W → a = b
  | [], _, _, _, _, h, _ => by simp at h
  | p :: W, nd, x, a, b, ha, hb => by
    rw [List.map_cons] at nd
    have nd := List.nodup_cons.mp nd
    rcases List.mem_cons.mp ha with ha | ha <;> rcases List.mem_cons.mp hb with hb | hb
    · have := ha.trans hb.symm
      injection this
    · exact absurd (List.mem_map.mpr ⟨(x, b), hb, by rw [← ha]⟩) nd.1
    · exact absurd (List.mem_map.mpr ⟨(x, a), ha, by rw [← hb]⟩) nd.1
    · exact fst_unique nd.2 ha hb

section
variable {W : List (Nat × Int)} {al : Nat → Nat}
theorem Gl.at (g : Gl W al) {x : Nat} (hx : x ∈ W.map (·.1)) : al x ∈ W.map (·.1) ∧ al (al x) = x ∧ al x ≠ x := by
  obtain ⟨⟨y, a⟩, hp, rfl⟩ := List.mem_map.mp hx
  obtain ⟨h0, h1, h2⟩ := g.ok _ hp
  refine ⟨List.mem_map.mpr ⟨_, h1, rfl⟩, h2, fun e => h0 ?_⟩
  rw [e] at h1
  have := fst_unique g.nd hp h1
  show a = 0
  dsimp only at this
  omega
theorem Gl.perm (g : Gl W al) : PermOn (W.map (·.1)) al :=
  ⟨g.nd, fun _ hx => (g.at hx).1, fun x hx y hy e => by rw [← (g.at hx).2.1, e, (g.at hy).2.1]⟩
theorem Gl.sg (g : Gl W al) : PermOn (W.map (·.1)) (fun x => ring (W.map (·.1)) (al x)) := (ring_permOn _ g.nd).comp g.perm
/-- an even number of sides; the corners' number -/
theorem Gl.even (g : Gl W al) : ∃ p, W.length = 2 * p ∧ cor (W.map (·.1)) al ≤ p + 1 ∧ cor (W.map (·.1)) al % 2 = (p + 1) % 2 := by
  cases W with
  | nil => exact ⟨0, rfl, by simp [cor], by simp [cor]⟩
  | cons q W =>
    have hr := ring_permOn _ g.nd
    obtain ⟨_, p, hp, hle, hm⟩ := cyc_part _ _ al hr _ _ rfl g.nd (fun _ h => h) fun x hx => g.at hx
    have e : cyc ((q :: W).map (·.1)) (fun x => ring ((q :: W).map (·.1)) (part ((q :: W).map (·.1)) al x)) = cyc ((q :: W).map (·.1)) (fun x => ring ((q :: W).map (·.1)) (al x)) :=
      cyc_congr _ _ _ fun x hx => by simp only [part]; rw [if_pos hx]
    have c1 : cyc ((q :: W).map (·.1)) (ring ((q :: W).map (·.1))) = 1 := cyc_ring _ _ g.nd
    rw [e, c1] at hle hm
    rw [List.length_map] at hp
    refine ⟨p, hp, ?_, ?_⟩
    · show (if _ = _ then _ else _) ≤ _
      rw [if_neg (by simp)]; omega
    · show (if _ = _ then _ else _) % 2 = _
      rw [if_neg (by simp)]; omega
end

theorem has_nil (k : Nat) : has [] k := ⟨[], id, rfl, ⟨List.nodup_nil, fun p hp => by simp at hp⟩, by simp [cor]⟩

theorem ring_comm {U V : List Nat} (nd : (U ++ V).Nodup) {x : Nat} (hx : x ∈ U ++ V) : ring (U ++ V) x = ring (V ++ U) x := by
  cases U with
  | nil => simp
  | cons a U =>
    cases V with
    | nil => simp
    | cons b V =>
      have dis : ∀ y, y ∈ a :: U → y ∈ b :: V → False := fun y h1 h2 => (List.nodup_append.mp nd).2.2 y h1 y h2 rfl
      unfold ring
      rw [nx_append, nx_append]
      rcases List.mem_append.mp hx with h | h
      · rw [if_pos h, if_neg (fun q => dis x h q)]; rfl
      · rw [if_neg (fun q => dis x q h), if_pos h]; rfl

theorem cor_comm {U V : List Nat} {al : Nat → Nat} (nd : (U ++ V).Nodup) (hal : PermOn (U ++ V) al) : cor (U ++ V) al = cor (V ++ U) al := by
  unfold cor
  by_cases e : U ++ V = []
  · have : V ++ U = [] := by simp at e ⊢; exact ⟨e.2, e.1⟩
    rw [if_pos e, if_pos this]
  · have : V ++ U ≠ [] := by simp at e ⊢; exact fun q r => e r q
    rw [if_neg e, if_neg this, cyc_perm List.perm_append_comm _ ((ring_permOn _ nd).comp hal)]
    exact cyc_congr _ _ _ fun x hx => ring_comm nd (hal.maps x (List.perm_append_comm.mem_iff.mp hx))

theorem Gl.reorder {W W' : List (Nat × Int)} {al : Nat → Nat} (g : Gl W al) (p : W.Perm W') : Gl W' al :=
  ⟨(p.map _).nodup_iff.mp g.nd, fun q hq => by
    obtain ⟨h0, h1, h2⟩ := g.ok q (p.mem_iff.mpr hq)
    exact ⟨h0, p.mem_iff.mp h1, h2⟩⟩

/-- turning a row round -/
theorem has_rotate {u v : List Int} {k : Nat} (h : has (u ++ v) k) : has (v ++ u) k := by
  obtain ⟨W, al, e, g, l⟩ := h
  obtain ⟨U, V, rfl, rfl, rfl⟩ := List.map_eq_append_iff.mp e
  refine ⟨V ++ U, al, List.map_append, g.reorder List.perm_append_comm, ?_⟩
  have nd := g.nd
  have pm := g.perm
  rw [List.map_append] at nd pm l ⊢
  rw [← cor_comm nd pm]
  simp only [List.length_append] at l ⊢
  omega

theorem nx_mem : ∀ (L : List Nat) (e x : Nat), x ∈ L → nx L e x = e ∨ nx L e x ∈ L
  | [], _, _, h => by simp at h
  | a :: L, e, x, h => by
    simp only [nx]
    by_cases c : x = a
    · rw [if_pos c]
      cases L with
      | nil => exact Or.inl rfl
      | cons b L => exact Or.inr (by simp)
    · rw [if_neg c]
      rcases nx_mem L e x ((List.mem_cons.mp h).resolve_left c) with q | q
      · exact Or.inl q
      · exact Or.inr (List.mem_cons_of_mem _ q)

/-- ring of L with two labels more at its end -/
theorem ring_two {L : List Nat} {m m' : Nat} (hL : L ≠ []) (hm : m ∉ L) (hm' : m' ∉ L) (hne : m ≠ m') :
    (∀ y ∈ L, ring (L ++ [m, m']) y = nx L m y) ∧ ring (L ++ [m, m']) m = m' ∧ ring (L ++ [m, m']) m' = L.headD 0 ∧ ∀ y ∈ L, ring L y = if nx L m y = m then L.headD 0 else nx L m y := by
  have hd : (L ++ [m, m']).headD 0 = L.headD 0 := by cases L with
    | nil => exact absurd rfl hL
    | cons a L => rfl
  unfold ring
  refine ⟨fun y hy => ?_, ?_, ?_, fun y hy => nx_end L m _ y hm hy⟩
  · rw [nx_append, if_pos hy]; rfl
  · rw [nx_append, if_neg hm]; simp [nx]
  · rw [nx_append, if_neg hm', hd]; simp [nx, Ne.symm hne]

theorem head_mem {L : List Nat} (hL : L ≠ []) : L.headD 0 ∈ L := by
  cases L with
  | nil => exact absurd rfl hL
  | cons a L => exact List.mem_cons_self

/-- glued neighbours at the end: one corner more -/
theorem cor_two {L : List Nat} {m m' : Nat} {al al' : Nat → Nat} (nd : (L ++ [m, m']).Nodup) (hal : PermOn L al) (h' : PermOn (L ++ [m, m']) al') (e : ∀ x ∈ L, al' x = al x) (e1 : al' m = m') (e2 : al' m' = m) :
    cor (L ++ [m, m']) al' = cor L al + 1 := by
  have hdis := (List.nodup_append.mp nd).2.2
  have hm : m ∉ L := fun q => hdis m q m (by simp) rfl
  have hm' : m' ∉ L := fun q => hdis m' q m' (by simp) rfl
  have hne : m ≠ m' := by
    have := (List.nodup_append.mp nd).2.1
    simpa using this
  have n1 : L ++ [m, m'] ≠ [] := by simp
  unfold cor
  rw [if_neg n1]
  by_cases hL : L = []
  · subst hL
    rw [if_pos rfl]
    simp [cyc, ring, nx, byp, e1, e2, hne, Ne.symm hne]
  rw [if_neg hL]
  obtain ⟨r1, r2, r3, r4⟩ := ring_two hL hm hm' hne
  have hP : PermOn (L ++ [m, m']) (fun x => ring (L ++ [m, m']) (al' x)) := (ring_permOn _ nd).comp h'
  have p : (L ++ [m, m']).Perm (m' :: m :: L) := by
    refine List.perm_append_comm.trans ?_
    exact List.Perm.swap m' m L
  rw [cyc_perm p _ hP]
  have h0 := head_mem hL
  have h0m : L.headD 0 ≠ m := fun q => hm (q ▸ h0)
  have h0m' : L.headD 0 ≠ m' := fun q => hm' (q ▸ h0)
  have s1 : (fun x => ring (L ++ [m, m']) (al' x)) m' = m' := by show ring _ (al' m') = m'; rw [e2, r2]
  have s2 : (fun x => ring (L ++ [m, m']) (al' x)) m = L.headD 0 := by show ring _ (al' m) = _; rw [e1, r3]
  have s3 : ∀ x ∈ L, (fun x => ring (L ++ [m, m']) (al' x)) x = nx L m (al x) := fun x hx => by
    show ring _ (al' x) = _
    rw [e x hx, r1 _ (hal.maps x hx)]
  generalize (fun x => ring (L ++ [m, m']) (al' x)) = s at s1 s2 s3
  have b1 : byp m' s m = L.headD 0 := by unfold byp; rw [s2, if_neg h0m']
  simp only [cyc]
  rw [if_pos s1, b1, if_neg h0m]
  have : cyc L (byp m (byp m' s)) = cyc L (fun x => ring L (al x)) := cyc_congr _ _ _ fun x hx => by
    have k : nx L m (al x) ≠ m' := fun q => by
      rcases nx_mem L m (al x) (hal.maps x hx) with z | z
      · exact hne (z.symm.trans q)
      · exact hm' (q ▸ z)
    have b2 : byp m' s x = nx L m (al x) := by unfold byp; rw [s3 x hx, if_neg k]
    show (if byp m' s x = m then byp m' s m else byp m' s x) = _
    rw [b2, b1, r4 _ (hal.maps x hx)]
  omega

theorem fresh_label (L : List Nat) : ∃ m, ∀ x ∈ L, x < m := by
  induction L with
  | nil => exact ⟨0, fun x hx => by simp at hx⟩
  | cons a L ih =>
    obtain ⟨m, h⟩ := ih
    refine ⟨m + a + 1, fun x hx => ?_⟩
    rcases List.mem_cons.mp hx with rfl | hx
    · omega
    · have := h x hx; omega

/-- two opposite neighbours are put in -/
theorem has_insert {w : List Int} {a : Int} {k : Nat} (ha : a ≠ 0) (h : has w k) : has (w ++ [a, -a]) k := by
  obtain ⟨W, al, e, g, l⟩ := h
  obtain ⟨m, hm⟩ := fresh_label (W.map (·.1))
  have n1 : m ∉ W.map (·.1) := fun q => Nat.lt_irrefl _ (hm m q)
  have n2 : m + 1 ∉ W.map (·.1) := fun q => by have := hm _ q; omega
  let al' : Nat → Nat := fun x => if x = m then m + 1 else if x = m + 1 then m else al x
  have e1 : al' m = m + 1 := by simp [al']
  have e2 : al' (m + 1) = m := by simp [al']
  have e3 : ∀ x ∈ W.map (·.1), al' x = al x := fun x hx => by
    have := hm x hx
    simp only [al']; rw [if_neg (by omega), if_neg (by omega)]
  have nd : (W.map (·.1) ++ [m, m + 1]).Nodup := by
    refine List.nodup_append.mpr ⟨g.nd, by simp, fun x hx y hy q => ?_⟩
    have := hm x hx
    simp at hy
    omega
  have g' : Gl (W ++ [(m, a), (m + 1, -a)]) al' := by
    refine ⟨by simpa using nd, fun p hp => ?_⟩
    rcases List.mem_append.mp hp with hp | hp
    · obtain ⟨h0, h1, h2⟩ := g.ok p hp
      have hx : p.1 ∈ W.map (·.1) := List.mem_map.mpr ⟨p, hp, rfl⟩
      refine ⟨h0, List.mem_append_left _ ?_, ?_⟩
      · rw [e3 _ hx]; exact h1
      · rw [e3 _ hx, e3 _ (g.at hx).1]; exact h2
    · simp only [List.mem_cons, List.not_mem_nil, or_false] at hp
      rcases hp with rfl | rfl
      · exact ⟨ha, by rw [e1]; simp, by rw [e1, e2]⟩
      · refine ⟨by show -a ≠ 0; omega, ?_, ?_⟩
        · show (al' (m + 1), - -a) ∈ _
          rw [e2]; simp
        · show al' (al' (m + 1)) = m + 1
          rw [e2, e1]
  refine ⟨W ++ [(m, a), (m + 1, -a)], al', by simp [e], g', ?_⟩
  have c := cor_two nd g.perm (by have := g'.perm; simpa using this) e3 e1 e2
  have ee : (W ++ [(m, a), (m + 1, -a)]).map (·.1) = W.map (·.1) ++ [m, m + 1] := by simp
  rw [ee, c]
  simp only [List.length_append, List.length_cons, List.length_nil]
  omega

end Tw
end

-- text TwMove
section
namespace Tw

/-- two opposite neighbours at the end are taken out -/
theorem has_remove {w : List Int} {a : Int} {k : Nat} (h : has (w ++ [a, -a]) k) : has w k := by
  obtain ⟨W', al, e, g, l⟩ := h
  obtain ⟨W, T, rfl, rfl, eT⟩ := List.map_eq_append_iff.mp e
  obtain ⟨⟨m, a1⟩, T, rfl, ea, eT⟩ := List.map_eq_cons_iff.mp eT
  obtain ⟨⟨m', a2⟩, T, rfl, eb, eT⟩ := List.map_eq_cons_iff.mp eT
  obtain rfl := List.map_eq_nil_iff.mp eT
  dsimp only at ea eb
  subst ea eb
  clear e eT
  have gnd := g.nd
  have gpm := g.perm
  have eL : (W ++ [(m, a1), (m', -a1)]).map (·.1) = W.map (·.1) ++ [m, m'] := by simp
  have at_ : ∀ x ∈ W.map (·.1) ++ [m, m'], al x ∈ W.map (·.1) ++ [m, m'] ∧ al (al x) = x ∧ al x ≠ x := fun x hx => by
    have := g.at (x := x) (by rw [eL]; exact hx)
    rw [eL] at this
    exact this
  rw [eL] at gnd gpm l
  have hdis := (List.nodup_append.mp gnd).2.2
  have ndL := (List.nodup_append.mp gnd).1
  have hm : m ∉ W.map (·.1) := fun q => hdis m q m (by simp) rfl
  have hm' : m' ∉ W.map (·.1) := fun q => hdis m' q m' (by simp) rfl
  have hne : m ≠ m' := by
    have := (List.nodup_append.mp gnd).2.1
    simpa using this
  have mm : m ∈ W.map (·.1) ++ [m, m'] := by simp
  have mm' : m' ∈ W.map (·.1) ++ [m, m'] := by simp
  have inL : ∀ x ∈ W.map (·.1), x ∈ W.map (·.1) ++ [m, m'] := fun x hx => List.mem_append_left _ hx
  have ofL : ∀ x, x ∈ W.map (·.1) ++ [m, m'] → x ≠ m → x ≠ m' → x ∈ W.map (·.1) := fun x hx h1 h2 => by
    rcases List.mem_append.mp hx with q | q
    · exact q
    · simp at q; omega
  by_cases c : al m = m'
  · -- glued to each other
    have c2 : al m' = m := by rw [← c, (at_ m mm).2.1]
    have stay : ∀ x ∈ W.map (·.1), al x ∈ W.map (·.1) := fun x hx => by
      refine ofL _ (at_ x (inL x hx)).1 (fun q => hm' ?_) fun q => hm ?_
      · have := (at_ x (inL x hx)).2.1
        rw [q, c] at this; exact this ▸ hx
      · have := (at_ x (inL x hx)).2.1
        rw [q, c2] at this; exact this ▸ hx
    have g0 : Gl W al := by
      refine ⟨ndL, fun p hp => ?_⟩
      have hx : p.1 ∈ W.map (·.1) := List.mem_map.mpr ⟨p, hp, rfl⟩
      obtain ⟨h0, h1, h2⟩ := g.ok p (List.mem_append_left _ hp)
      refine ⟨h0, ?_, h2⟩
      rcases List.mem_append.mp h1 with q | q
      · exact q
      · exfalso
        have hs := stay _ hx
        simp only [List.mem_cons, List.not_mem_nil, or_false, Prod.mk.injEq] at q
        rcases q with q | q
        · exact hm (q.1 ▸ hs)
        · exact hm' (q.1 ▸ hs)
    refine ⟨W, al, rfl, g0, ?_⟩
    have := cor_two gnd g0.perm gpm (fun _ _ => rfl) c c2
    rw [this] at l
    simp only [List.length_append, List.length_cons, List.length_nil] at l
    omega
  · -- glued to x and y
    have xL : al m ∈ W.map (·.1) := ofL _ (at_ m mm).1 (at_ m mm).2.2 c
    have yL : al m' ∈ W.map (·.1) := ofL _ (at_ m' mm').1 (fun q => c (by rw [← q, (at_ m' mm').2.1])) (at_ m' mm').2.2
    have exx : al (al m) = m := (at_ m mm).2.1
    have eyy : al (al m') = m' := (at_ m' mm').2.1
    have hxl : (al m, -a1) ∈ W := by
      obtain ⟨_, h1, _⟩ := g.ok (m, a1) (by simp)
      rcases List.mem_append.mp h1 with q | q
      · exact q
      · exfalso
        simp only [List.mem_cons, List.not_mem_nil, or_false, Prod.mk.injEq] at q
        rcases q with q | q
        · exact hm (q.1 ▸ xL)
        · exact hm' (q.1 ▸ xL)
    have hyl : (al m', a1) ∈ W := by
      obtain ⟨_, h1, _⟩ := g.ok (m', -a1) (by simp)
      rcases List.mem_append.mp h1 with q | q
      · simpa using q
      · exfalso
        simp only [List.mem_cons, List.not_mem_nil, or_false, Prod.mk.injEq] at q
        rcases q with q | q
        · exact hm (q.1 ▸ yL)
        · exact hm' (q.1 ▸ yL)
    have xy : al m ≠ al m' := fun q => hne (gpm.inj m mm m' mm' q)
    have L0 : W.map (·.1) ≠ [] := fun q => by rw [q] at xL; simp at xL
    -- letters of the others
    have rest : ∀ z ∈ W.map (·.1), z ≠ al m → z ≠ al m' → al z ∈ W.map (·.1) ∧ al z ≠ al m ∧ al z ≠ al m' := fun z hz h1 h2 => by
      refine ⟨ofL _ (at_ z (inL z hz)).1 (fun q => h1 ?_) (fun q => h2 ?_), fun q => ?_, fun q => ?_⟩
      · rw [← q, (at_ z (inL z hz)).2.1]
      · rw [← q, (at_ z (inL z hz)).2.1]
      · exact hm (gpm.inj z (inL z hz) m mm q ▸ hz)
      · exact hm' (gpm.inj z (inL z hz) m' mm' q ▸ hz)
    generalize hX : al m = x at *
    generalize hY : al m' = y at *
    let al0 : Nat → Nat := fun z => if z = x then y else if z = y then x else al z
    have a0x : al0 x = y := by simp [al0]
    have a0y : al0 y = x := by simp [al0, Ne.symm xy]
    have a0 : ∀ z, z ≠ x → z ≠ y → al0 z = al z := fun z h1 h2 => by simp [al0, h1, h2]
    have g0 : Gl W al0 := by
      refine ⟨ndL, fun p hp => ?_⟩
      have hz : p.1 ∈ W.map (·.1) := List.mem_map.mpr ⟨p, hp, rfl⟩
      obtain ⟨h0, h1, h2⟩ := g.ok p (List.mem_append_left _ hp)
      refine ⟨h0, ?_⟩
      by_cases c1 : p.1 = x
      · have : p.2 = -a1 := fst_unique ndL (a := p.2) (b := -a1) hp (by rw [c1]; exact hxl)
        rw [c1, a0x, a0y, this]
        exact ⟨by simpa using hyl, rfl⟩
      · by_cases c2 : p.1 = y
        · have : p.2 = a1 := fst_unique ndL (a := p.2) (b := a1) hp (by rw [c2]; exact hyl)
          rw [c2, a0y, a0x, this]
          exact ⟨hxl, rfl⟩
        · obtain ⟨r1, r2, r3⟩ := rest _ hz c1 c2
          rw [a0 _ c1 c2, a0 _ r2 r3]
          refine ⟨?_, h2⟩
          rcases List.mem_append.mp h1 with q | q
          · exact q
          · exfalso
            simp only [List.mem_cons, List.not_mem_nil, or_false, Prod.mk.injEq] at q
            rcases q with q | q
            · exact hm (q.1 ▸ r1)
            · exact hm' (q.1 ▸ r1)
    refine ⟨W, al0, rfl, g0, ?_⟩
    suffices hC : cor (W.map (·.1) ++ [m, m']) al ≤ cor (W.map (·.1)) al0 + 1 by
      simp only [List.length_append, List.length_cons, List.length_nil] at l
      omega
    have p0 := g0.perm
    generalize W.map (·.1) = L at *
    obtain ⟨r1, r2, r3, r4⟩ := ring_two L0 hm hm' hne
    have hP : PermOn (L ++ [m, m']) (fun x => ring (L ++ [m, m']) (al x)) := (ring_permOn _ gnd).comp gpm
    have p : (L ++ [m, m']).Perm (m' :: m :: L) := by
      refine List.perm_append_comm.trans ?_
      exact List.Perm.swap m' m L
    have hp0 : PermOn L (fun x => ring L (al0 x)) := (ring_permOn _ ndL).comp p0
    unfold cor
    rw [if_neg (by simp), if_neg L0, cyc_perm p _ hP]
    have h0 := head_mem L0
    have h0m : L.headD 0 ≠ m := fun q => hm (q ▸ h0)
    have h0m' : L.headD 0 ≠ m' := fun q => hm' (q ▸ h0)
    have nxm' : ∀ z ∈ L, nx L m z ≠ m' := fun z hz q => by
      rcases nx_mem L m z hz with r | r
      · exact hne (r.symm.trans q)
      · exact hm' (q ▸ r)
    have hP2 := (hP.perm p).byp
    have hsm : (fun x => ring (L ++ [m, m']) (al x)) m' = nx L m y := by show ring _ (al m') = _; rw [hY, r1 y yL]
    have hsm1 : (fun x => ring (L ++ [m, m']) (al x)) m = nx L m x := by show ring _ (al m) = _; rw [hX, r1 x xL]
    have hsx : (fun x => ring (L ++ [m, m']) (al x)) x = m' := by show ring _ (al x) = _; rw [exx, r2]
    have hsy : (fun x => ring (L ++ [m, m']) (al x)) y = L.headD 0 := by show ring _ (al y) = _; rw [eyy, r3]
    have hsz : ∀ z ∈ L, z ≠ x → z ≠ y → (fun x => ring (L ++ [m, m']) (al x)) z = nx L m (al z) := fun z hz h1 h2 => by
      show ring _ (al z) = _
      rw [r1 _ (rest z hz h1 h2).1]
    generalize (fun x => ring (L ++ [m, m']) (al x)) = s at *
    have s1m : byp m' s m = nx L m x := by unfold byp; rw [hsm1, if_neg (nxm' x xL)]
    have s1x : byp m' s x = nx L m y := by unfold byp; rw [hsx, if_pos rfl, hsm]
    have s1y : byp m' s y = L.headD 0 := by unfold byp; rw [hsy, if_neg h0m']
    have s1z : ∀ z ∈ L, z ≠ x → z ≠ y → byp m' s z = nx L m (al z) := fun z hz h1 h2 => by
      unfold byp; rw [hsz z hz h1 h2, if_neg (nxm' _ (rest z hz h1 h2).1)]
    simp only [cyc]
    rw [hsm, if_neg (nxm' y yL), s1m]
    generalize byp m' s = s1 at *
    have inj := hP2.inj
    have nx_inj : ∀ u ∈ L, ∀ v ∈ L, nx L m u = nx L m v → u = v := fun u hu v hv q => by
      refine (ring_permOn L ndL).inj u hu v hv ?_
      rw [r4 u hu, r4 v hv, q]
    by_cases cx : nx L m x = m
    · rw [if_pos cx]
      have ny : nx L m y ≠ m := fun q => xy (nx_inj x xL y yL (cx.trans q.symm))
      have : cyc L (byp m s1) = cyc L (fun z => ring L (al0 z)) := cyc_congr _ _ _ fun z hz => by
        unfold byp
        by_cases c1 : z = x
        · subst c1
          rw [s1x, if_neg ny, a0x, r4 y yL, if_neg ny]
        · by_cases c2 : z = y
          · subst c2
            rw [s1y, if_neg h0m, a0y, r4 x xL, if_pos cx]
          · obtain ⟨q1, q2, q3⟩ := rest z hz c1 c2
            have nz : nx L m (al z) ≠ m := fun q => q2 (nx_inj _ q1 x xL (q.trans cx.symm))
            rw [s1z z hz c1 c2, if_neg nz, a0 z c1 c2, r4 _ q1, if_neg nz]
      omega
    · rw [if_neg cx]
      obtain ⟨cc, hcc, ecc⟩ := hP2.surj m List.mem_cons_self
      have ccm : cc ≠ m := fun q => cx (by rw [q] at ecc; exact s1m.symm.trans ecc)
      have ccL : cc ∈ L := (List.mem_cons.mp hcc).resolve_left ccm
      have ccy : y ≠ cc := fun q => h0m (by rw [← s1y, q, ecc])
      have inL2 : ∀ z ∈ L, z ∈ m :: L := fun z hz => List.mem_cons_of_mem _ hz
      have e2 : cyc L (swp (byp m s1) y cc) = cyc L (fun z => ring L (al0 z)) := cyc_congr _ _ _ fun z hz => by
        have bcc : byp m s1 cc = nx L m x := by unfold byp; rw [ecc, if_pos rfl, s1m]
        have by_ : byp m s1 y = L.headD 0 := by unfold byp; rw [s1y, if_neg h0m]
        unfold swp
        by_cases c2 : z = y
        · subst c2
          rw [if_pos rfl, bcc, a0y, r4 x xL, if_neg cx]
        · rw [if_neg c2]
          by_cases c3 : z = cc
          · rw [if_pos c3, by_]
            subst c3
            by_cases c1 : z = x
            · subst c1
              rw [s1x] at ecc
              rw [a0x, r4 y yL, if_pos ecc]
            · obtain ⟨q1, q2, q3⟩ := rest z hz c1 c2
              rw [s1z z hz c1 c2] at ecc
              rw [a0 z c1 c2, r4 _ q1, if_pos ecc]
          · rw [if_neg c3]
            have nz : s1 z ≠ m := fun q => c3 (inj z (inL2 z hz) cc hcc (q.trans ecc.symm))
            unfold byp
            rw [if_neg nz]
            by_cases c1 : z = x
            · subst c1
              rw [s1x] at nz ⊢
              rw [a0x, r4 y yL, if_neg nz]
            · obtain ⟨q1, q2, q3⟩ := rest z hz c1 c2
              rw [s1z z hz c1 c2] at nz ⊢
              rw [a0 z c1 c2, r4 _ q1, if_neg nz]
      have sw := cyc_swp L.length L _ y cc rfl hP2.byp yL ccL ccy
      rw [e2] at sw
      omega

/-- in the middle -/
theorem has_cancel {u v : List Int} {a : Int} {k : Nat} (ha : a ≠ 0) : has (u ++ a :: -a :: v) k ↔ has (u ++ v) k := by
  constructor
  · intro h
    have h1 : has ((u ++ [a, -a]) ++ v) k := by simpa using h
    have h2 : has ((v ++ u) ++ [a, -a]) k := by simpa using has_rotate h1
    exact has_rotate (has_remove h2)
  · intro h
    have h1 := has_insert ha (has_rotate h)
    have h2 : has (v ++ (u ++ [a, -a])) k := by simpa using h1
    simpa using has_rotate h2

theorem nx_snoc (U : List Nat) (l e x : Nat) (hl : l ∉ U) : nx (U ++ [l]) e x = if x = l then e else nx U l x := by
  rw [nx_append]
  by_cases c : x = l
  · subst c
    rw [if_neg hl, if_pos rfl]; simp [nx]
  · rw [if_neg c]
    by_cases d : x ∈ U
    · rw [if_pos d]; rfl
    · rw [if_neg d]
      have : ∀ (U : List Nat) (e : Nat), x ∉ U → nx U e x = x := fun U => by
        induction U with
        | nil => intro e _; rfl
        | cons b U ih =>
          intro e h
          simp only [List.mem_cons, not_or] at h
          show (if x = b then _ else _) = _
          rw [if_neg h.1, ih e h.2]
      rw [this U l d]; simp [nx, c]

/-- two blocks at the end change places -/
theorem has_blocks {u x y : List Int} {k : Nat} (h : has (u ++ x ++ y) k) : has (u ++ y ++ x) (k + 2) := by
  by_cases hu : u = []
  · subst hu
    exact (has_rotate (u := x) (v := y) (by simpa using h)).mono (by omega)
  by_cases hx : x = []
  · subst hx; simp at h ⊢; exact h.mono (by omega)
  by_cases hy : y = []
  · subst hy; simp at h ⊢; exact h.mono (by omega)
  obtain ⟨W, al, e, g, l⟩ := h
  obtain ⟨UX, Y, rfl, e1, rfl⟩ := List.map_eq_append_iff.mp e
  obtain ⟨U, X, rfl, rfl, rfl⟩ := List.map_eq_append_iff.mp e1
  clear e e1
  have pm : (U ++ X ++ Y).Perm (U ++ Y ++ X) := by
    rw [List.append_assoc, List.append_assoc]
    exact List.Perm.append_left _ List.perm_append_comm
  refine ⟨U ++ Y ++ X, al, by simp, g.reorder pm, ?_⟩
  have gp := g.perm
  have gn := g.nd
  have eL : (U ++ X ++ Y).map (·.1) = U.map (·.1) ++ X.map (·.1) ++ Y.map (·.1) := by simp
  have eL' : (U ++ Y ++ X).map (·.1) = U.map (·.1) ++ Y.map (·.1) ++ X.map (·.1) := by simp
  have hal : ∀ z ∈ U.map (·.1) ++ X.map (·.1) ++ Y.map (·.1), al (al z) = z := fun z hz => (g.at (eL ▸ hz)).2.1
  rw [eL] at gp gn l
  rw [eL']
  have pmL : (U.map (·.1) ++ X.map (·.1) ++ Y.map (·.1)).Perm (U.map (·.1) ++ Y.map (·.1) ++ X.map (·.1)) := by
    rw [← eL, ← eL']; exact pm.map _
  suffices hC : cor (U.map (·.1) ++ X.map (·.1) ++ Y.map (·.1)) al ≤ cor (U.map (·.1) ++ Y.map (·.1) ++ X.map (·.1)) al + 2 by
    simp only [List.length_append, List.length_map] at l ⊢
    omega
  have hu' : U.map (·.1) ≠ [] := by simpa using hu
  have hx' : X.map (·.1) ≠ [] := by simpa using hx
  have hy' : Y.map (·.1) ≠ [] := by simpa using hy
  clear l eL eL' pm g
  generalize U.map (·.1) = U at *
  generalize X.map (·.1) = X at *
  generalize Y.map (·.1) = Y at *
  obtain ⟨U0, lu, rfl⟩ := (List.eq_nil_or_concat U).resolve_left hu'
  obtain ⟨X0, lx, rfl⟩ := (List.eq_nil_or_concat X).resolve_left hx'
  obtain ⟨Y0, ly, rfl⟩ := (List.eq_nil_or_concat Y).resolve_left hy'
  simp only [List.concat_eq_append] at *
  have ndA := List.nodup_append.mp gn
  have ndB := List.nodup_append.mp ndA.1
  have dis1 : ∀ z, z ∈ U0 ++ [lu] → z ∈ X0 ++ [lx] → False := fun z h1 h2 => ndB.2.2 z h1 z h2 rfl
  have dis2 : ∀ z, z ∈ U0 ++ [lu] → z ∈ Y0 ++ [ly] → False := fun z h1 h2 => ndA.2.2 z (List.mem_append_left _ h1) z h2 rfl
  have dis3 : ∀ z, z ∈ X0 ++ [lx] → z ∈ Y0 ++ [ly] → False := fun z h1 h2 => ndA.2.2 z (List.mem_append_right _ h1) z h2 rfl
  have last : ∀ {U : List Nat} {l : Nat}, (U ++ [l]).Nodup → l ∉ U := fun nd q => (List.nodup_append.mp nd).2.2 _ q _ (List.mem_singleton.mpr rfl) rfl
  have nu := last ndB.1
  have nX := last ndB.2.1
  have nY := last ndA.2.1
  have inu : lu ∈ U0 ++ [lu] := by simp
  have inx : lx ∈ X0 ++ [lx] := by simp
  have iny : ly ∈ Y0 ++ [ly] := by simp
  have ux : lu ≠ lx := fun q => dis1 lu inu (q ▸ inx)
  have uy : lu ≠ ly := fun q => dis2 lu inu (q ▸ iny)
  have xy : lx ≠ ly := fun q => dis3 lx inx (q ▸ iny)
  have hd : ∀ (A B : List Nat) (d : Nat), A ≠ [] → (A ++ B).headD d = A.headD 0 := fun A B d hA => by
    cases A with
    | nil => exact absurd rfl hA
    | cons a A => rfl
  -- the two rings
  have R : ∀ (A X Y : List Nat) (z : Nat), A ≠ [] → X ≠ [] → Y ≠ [] → ring (A ++ X ++ Y) z = if z ∈ A then nx A (X.headD 0) z else if z ∈ X then nx X (Y.headD 0) z else nx Y (A.headD 0) z := fun A X Y z hA hX hY => by
    unfold ring
    rw [List.append_assoc, nx_append, nx_append, hd A _ 0 hA, hd X _ _ hX]
    have : Y.headD (A.headD 0) = Y.headD 0 := by cases Y with
      | nil => exact absurd rfl hY
      | cons a Y => rfl
    rw [this]
  have key : ∀ z ∈ (U0 ++ [lu]) ++ (X0 ++ [lx]) ++ (Y0 ++ [ly]), swp (swp (ring ((U0 ++ [lu]) ++ (X0 ++ [lx]) ++ (Y0 ++ [ly]))) lu lx) lx ly z = ring ((U0 ++ [lu]) ++ (Y0 ++ [ly]) ++ (X0 ++ [lx])) z := fun z hz => by
    have k1 : ∀ z, ring ((U0 ++ [lu]) ++ (X0 ++ [lx]) ++ (Y0 ++ [ly])) z = _ := fun z => R (U0 ++ [lu]) (X0 ++ [lx]) (Y0 ++ [ly]) z hu' hx' hy'
    have k2 := R (U0 ++ [lu]) (Y0 ++ [ly]) (X0 ++ [lx]) z hu' hy' hx'
    have vu : ring ((U0 ++ [lu]) ++ (X0 ++ [lx]) ++ (Y0 ++ [ly])) lu = (X0 ++ [lx]).headD 0 := by
      rw [k1, if_pos inu, nx_snoc _ _ _ _ nu, if_pos rfl]
    have vx : ring ((U0 ++ [lu]) ++ (X0 ++ [lx]) ++ (Y0 ++ [ly])) lx = (Y0 ++ [ly]).headD 0 := by
      rw [k1, if_neg (fun q => dis1 _ q inx), if_pos inx, nx_snoc _ _ _ _ nX, if_pos rfl]
    have vy : ring ((U0 ++ [lu]) ++ (X0 ++ [lx]) ++ (Y0 ++ [ly])) ly = (U0 ++ [lu]).headD 0 := by
      rw [k1, if_neg (fun q => dis2 _ q iny), if_neg (fun q => dis3 _ q iny), nx_snoc _ _ _ _ nY, if_pos rfl]
    rw [k2]
    unfold swp
    rw [vu, vx, vy]
    by_cases zx : z = lx
    · subst zx
      rw [if_pos rfl, if_neg (Ne.symm uy), if_neg (Ne.symm xy), if_neg (fun q => dis1 _ q inx), if_neg (fun q => dis3 _ inx q), nx_snoc _ _ _ _ nX, if_pos rfl]
    · rw [if_neg zx]
      by_cases zy : z = ly
      · subst zy
        rw [if_pos rfl, if_neg (Ne.symm ux), if_pos rfl, if_neg (fun q => dis2 _ q iny), if_pos iny, nx_snoc _ _ _ _ nY, if_pos rfl]
      · rw [if_neg zy]
        by_cases zu : z = lu
        · subst zu
          rw [if_pos rfl, if_pos inu, nx_snoc _ _ _ _ nu, if_pos rfl]
        · rw [if_neg zu, if_neg zx, k1, nx_snoc _ _ _ _ nu, nx_snoc _ _ _ _ nu, nx_snoc _ _ _ _ nX, nx_snoc _ _ _ _ nX, nx_snoc _ _ _ _ nY, nx_snoc _ _ _ _ nY, if_neg zu, if_neg zu, if_neg zx, if_neg zx, if_neg zy, if_neg zy]
          by_cases i1 : z ∈ U0 ++ [lu]
          · rw [if_pos i1, if_pos i1]
          · rw [if_neg i1, if_neg i1]
            by_cases i2 : z ∈ X0 ++ [lx]
            · rw [if_pos i2, if_neg (fun q => dis3 _ i2 q)]
            · have i3 : z ∈ Y0 ++ [ly] := by
                rcases List.mem_append.mp hz with q | q
                · rcases List.mem_append.mp q with r | r
                  · exact absurd r i1
                  · exact absurd r i2
                · exact q
              rw [if_neg i2, if_pos i3]
  have nd' := pmL.nodup_iff.mp gn
  have gp' := gp.perm pmL
  unfold cor
  rw [if_neg (by simp), if_neg (by simp), ← cyc_perm pmL _ (by
    have := ((ring_permOn _ nd').comp gp').perm pmL.symm
    exact this)]
  have hr := ring_permOn _ gn
  have mu : lu ∈ (U0 ++ [lu]) ++ (X0 ++ [lx]) ++ (Y0 ++ [ly]) := List.mem_append_left _ (List.mem_append_left _ inu)
  have mx : lx ∈ (U0 ++ [lu]) ++ (X0 ++ [lx]) ++ (Y0 ++ [ly]) := List.mem_append_left _ (List.mem_append_right _ inx)
  have my : ly ∈ (U0 ++ [lu]) ++ (X0 ++ [lx]) ++ (Y0 ++ [ly]) := List.mem_append_right _ iny
  generalize ring ((U0 ++ [lu]) ++ (X0 ++ [lx]) ++ (Y0 ++ [ly])) = r at *
  generalize ring ((U0 ++ [lu]) ++ (Y0 ++ [ly]) ++ (X0 ++ [lx])) = r' at *
  generalize (U0 ++ [lu]) ++ (X0 ++ [lx]) ++ (Y0 ++ [ly]) = L at *
  -- through al
  have thru : ∀ (f : Nat → Nat) (p q : Nat), p ∈ L → q ∈ L → ∀ z ∈ L, swp f p q (al z) = swp (fun z => f (al z)) (al p) (al q) z := fun f p q hp hq z hz => by
    have i1 : al z = p ↔ z = al p := ⟨fun e => by rw [← e, hal z hz], fun e => by rw [e, hal p hp]⟩
    have i2 : al z = q ↔ z = al q := ⟨fun e => by rw [← e, hal z hz], fun e => by rw [e, hal q hq]⟩
    unfold swp
    simp only [i1, i2, hal p hp, hal q hq]
  have hs := hr.comp gp
  have A1 := cyc_swp L.length L (fun z => r (al z)) (al lu) (al lx) rfl hs (gp.maps _ mu) (gp.maps _ mx) (fun q => ux (gp.inj _ mu _ mx q))
  have hs1 := hs.swp (gp.maps _ mu) (gp.maps _ mx)
  have A2 := cyc_swp L.length L _ (al lx) (al ly) rfl hs1 (gp.maps _ mx) (gp.maps _ my) (fun q => xy (gp.inj _ mx _ my q))
  have e : cyc L (fun z => r' (al z)) = cyc L (swp (swp (fun z => r (al z)) (al lu) (al lx)) (al lx) (al ly)) := cyc_congr _ _ _ fun z hz => by
    show r' (al z) = _
    rw [← key (al z) (gp.maps z hz), thru _ lx ly mx my z hz]
    have e1 : ∀ w ∈ L, swp r lu lx (al w) = swp (fun z => r (al z)) (al lu) (al lx) w := fun w hw => thru r lu lx mu mx w hw
    have cg : ∀ (f g : Nat → Nat), (∀ w ∈ L, f w = g w) → ∀ p q, p ∈ L → q ∈ L → swp f p q z = swp g p q z := fun f g h p q hp hq => by
      unfold swp
      rw [h p hp, h q hq, h z hz]
    exact cg _ _ e1 _ _ (gp.maps _ mx) (gp.maps _ my)
  omega

end Tw
end

-- text TwInv
section
namespace Tw

/-- a permutation and its inverse have as many cycles -/
theorem cyc_inv : ∀ (L : List Nat) (s t : Nat → Nat), PermOn L s → PermOn L t → (∀ x ∈ L, t (s x) = x) → cyc L s = cyc L t
  | [], _, _, _, _, _ => rfl
  | a :: L, s, t, hs, ht, h => by
    have ha : a ∈ a :: L := List.mem_cons_self
    have nd := List.nodup_cons.mp hs.nd
    have iff : s a = a ↔ t a = a := by
      have q := h a ha
      constructor
      · intro e; rw [e] at q; exact q
      · intro e; exact ht.inj _ (hs.maps a ha) a ha (q.trans e.symm)
    have ih := cyc_inv L (byp a s) (byp a t) hs.byp ht.byp fun x hx => by
      have hx' : x ∈ a :: L := List.mem_cons_of_mem _ hx
      have xa : x ≠ a := fun z => nd.1 (z ▸ hx)
      by_cases c : s x = a
      · have e1 : byp a s x = s a := by unfold byp; rw [if_pos c]
        have e2 : t a = x := by rw [← c]; exact h x hx'
        rw [e1]; unfold byp; rw [h a ha, if_pos rfl, e2]
      · have e1 : byp a s x = s x := by unfold byp; rw [if_neg c]
        rw [e1]; unfold byp; rw [h x hx', if_neg xa]
    simp only [cyc, ih]
    by_cases c : s a = a
    · rw [if_pos c, if_pos (iff.mp c)]
    · rw [if_neg c, if_neg fun z => c (iff.mpr z)]

theorem ring_mid (P Q : List Nat) (x y : Nat) (nd : (P ++ x :: y :: Q).Nodup) : ring (P ++ x :: y :: Q) x = y := by
  have : x ∉ P := fun q => (List.nodup_append.mp nd).2.2 x q x (by simp) rfl
  unfold ring
  rw [nx_append, if_neg this]; simp [nx]

theorem ring_last (P : List Nat) (x : Nat) (nd : (P ++ [x]).Nodup) : ring (P ++ [x]) x = (P ++ [x]).headD 0 := by
  have : x ∉ P := fun q => (List.nodup_append.mp nd).2.2 x q x (by simp) rfl
  unfold ring
  rw [nx_append, if_neg this]; simp [nx]

theorem ring_reverse (L : List Nat) (nd : L.Nodup) : ∀ x ∈ L, ring L.reverse (ring L x) = x := fun x hx => by
  obtain ⟨P, Q, rfl⟩ := List.append_of_mem hx
  have ndr : (P ++ x :: Q).reverse.Nodup := (List.reverse_perm _).nodup_iff.mpr nd
  cases Q with
  | cons y Q =>
    rw [ring_mid P Q x y nd]
    have e : (P ++ x :: y :: Q).reverse = Q.reverse ++ y :: x :: P.reverse := by simp
    rw [e] at ndr ⊢
    exact ring_mid _ _ _ _ ndr
  | nil =>
    rw [ring_last P x nd]
    cases P with
    | nil => simp [ring, nx]
    | cons a P =>
      have e : (a :: P ++ [x]).reverse = (x :: P.reverse) ++ [a] := by simp
      rw [e] at ndr ⊢
      show ring _ a = x
      rw [ring_last _ _ ndr]; rfl

/-- the opposite row -/
def opp (w : List Int) : List Int := (w.map (fun x => -x)).reverse

theorem has_opp {w : List Int} {k : Nat} (h : has w k) : has (opp w) k := by
  obtain ⟨W, al, e, g, l⟩ := h
  have pL : ((W.map fun p => (p.1, -p.2)).reverse).map (·.1) = (W.map (·.1)).reverse := by
    rw [List.map_reverse, List.map_map]; rfl
  have gp := g.perm
  have prm : (W.map (·.1)).Perm (W.map (·.1)).reverse := (List.reverse_perm _).symm
  refine ⟨(W.map fun p => (p.1, -p.2)).reverse, al, ?_, ⟨?_, fun p hp => ?_⟩, ?_⟩
  · rw [List.map_reverse, List.map_map, ← e]
    unfold opp
    rw [List.map_map]; rfl
  · rw [pL]; exact prm.nodup_iff.mp g.nd
  · obtain ⟨q, hq, rfl⟩ := List.mem_map.mp (List.mem_reverse.mp hp)
    obtain ⟨h0, h1, h2⟩ := g.ok q hq
    refine ⟨by show -q.2 ≠ 0; omega, List.mem_reverse.mpr (List.mem_map.mpr ⟨_, h1, rfl⟩), h2⟩
  · rw [pL]
    have hal : ∀ z ∈ W.map (·.1), al (al z) = z := fun z hz => (g.at hz).2.1
    have nd := g.nd
    have len : (opp w).length = w.length := by unfold opp; simp
    rw [len]
    suffices hC : cor (W.map (·.1)).reverse al = cor (W.map (·.1)) al by rw [hC]; exact l
    generalize W.map (·.1) = L at *
    by_cases hL : L = []
    · subst hL; rfl
    have hL' : L.reverse ≠ [] := by simpa using hL
    unfold cor
    rw [if_neg hL, if_neg hL']
    have ndr := prm.nodup_iff.mp nd
    have hr := ring_permOn L nd
    have hrr : PermOn L (ring L.reverse) := (ring_permOn _ ndr).perm prm.symm
    have hs := hr.comp gp
    have ht : PermOn L (fun x => al (ring L.reverse x)) := gp.comp hrr
    have hu : PermOn L (fun x => ring L.reverse (al x)) := hrr.comp gp
    rw [cyc_inv L _ _ hs ht fun x hx => by
      show al (ring L.reverse (ring L (al x))) = x
      rw [ring_reverse L nd _ (gp.maps x hx), hal x hx]]
    rw [← cyc_perm prm _ hu, ← cyc_perm gp.map_perm _ (hu.perm gp.map_perm.symm)]
    refine cyc_map L _ _ ht.maps gp.inj ht fun x hx => ?_
    show ring L.reverse (al (al x)) = al (al (ring L.reverse x))
    rw [hal x hx, hal _ (hrr.maps x hx)]

/-! ### a row in its short form -/
/-- no two neighbours are opposite -/
def Short : List Int → Prop
  | [] => True
  | [_] => True
  | a :: b :: w => a ≠ -b ∧ Short (b :: w)

theorem Short.tail {a : Int} {w : List Int} (h : Short (a :: w)) : Short w := by
  cases w with
  | nil => trivial
  | cons b w => exact h.2

theorem Short.mid : ∀ {u v : List Int} {a b : Int}, Short (u ++ a :: b :: v) → a ≠ -b
  | [], _, _, _, h => h.1
  | _ :: u, _, _, _, h => Short.mid (u := u) h.tail

theorem nx_step : ∀ (L : List Nat) (e y x : Nat), y ∈ L → nx L e y = x → x ≠ e → ∃ P Q, L = P ++ y :: x :: Q
  | [], _, _, _, h, _, _ => by simp at h
  | a :: L, e, y, x, h, q, ne => by
    by_cases c : y = a
    · subst c
      have q : (if y = y then L.headD e else nx L e y) = x := q
      rw [if_pos rfl] at q
      cases L with
      | nil => exact absurd q.symm ne
      | cons b L => exact ⟨[], L, by simp at q; rw [q]; rfl⟩
    · have q : (if y = a then L.headD e else nx L e y) = x := q
      rw [if_neg c] at q
      obtain ⟨P, Q, e⟩ := nx_step L e y x ((List.mem_cons.mp h).resolve_left c) q ne
      exact ⟨a :: P, Q, by rw [e]; rfl⟩

theorem fixes_le_one : ∀ (L : List Nat) (s : Nat → Nat) (c : Nat), L.Nodup → (∀ x ∈ L, s x = x → x = c) → fixes L s ≤ 1 := fun L s c nd h => by
  have := count_or_one (fun x => s x == x) (fun _ => false) c L nd fun x hx q => Or.inr (h x hx (by simpa using q))
  unfold fixes
  have z : L.countP (fun _ => false) = 0 := by simp
  rw [z] at this
  split at this <;> omega

/-- a row in its short form that is not empty has at least one handle -/
theorem has_short {w : List Int} {k : Nat} (hs : Short w) (hw : w ≠ []) (h : has w k) : 2 ≤ k := by
  obtain ⟨W, al, e, g, l⟩ := h
  obtain ⟨p, hp, hle, hm⟩ := g.even
  have len : w.length = W.length := by rw [← e, List.length_map]
  have hW : W ≠ [] := fun q => hw (by rw [← e, q]; rfl)
  have hL : W.map (·.1) ≠ [] := by simpa using hW
  have key : fixes (W.map (·.1)) (fun x => ring (W.map (·.1)) (al x)) ≤ 1 := by
    refine fixes_le_one _ _ ((W.map (·.1)).headD 0) g.nd fun x hx q => ?_
    refine Decidable.byContradiction fun ne => ?_
    obtain ⟨P, Q, eL⟩ := nx_step _ _ (al x) x (g.at hx).1 q ne
    obtain ⟨W1, W2, rfl, r1, r2⟩ := List.map_eq_append_iff.mp eL
    obtain ⟨⟨y, b⟩, W3, rfl, r3, r4⟩ := List.map_eq_cons_iff.mp r2
    obtain ⟨⟨z, c⟩, W4, rfl, r5, r6⟩ := List.map_eq_cons_iff.mp r4
    dsimp only at r3 r5
    subst r5
    have hz := g.ok (z, c) (by simp)
    rw [← r3] at *
    have hb : -c = b := fst_unique g.nd hz.2.1 (by rw [← r3]; simp)
    rw [← e] at hs
    simp only [List.map_append, List.map_cons] at hs
    exact Short.mid hs hb.symm
  have cf := cyc_fixes _ _ g.sg
  have ec : cor (W.map (·.1)) al = cyc (W.map (·.1)) (fun x => ring (W.map (·.1)) (al x)) := by unfold cor; rw [if_neg hL]
  rw [← ec, List.length_map] at cf
  omega

end Tw
end

-- text TwFree
section
/-! Short forms of rows: the same in whatever order the neighbours are taken out. -/
namespace Tw

/-- a letter ahead of a short row -/
def put (a : Int) : List Int → List Int
  | [] => [a]
  | b :: r => if b = -a then r else a :: b :: r
/-- the short form -/
def red : List Int → List Int
  | [] => []
  | a :: w => put a (red w)

theorem put_eq {a b : Int} {r : List Int} (h : b = -a) : put a (b :: r) = r := by show (if b = -a then r else a :: b :: r) = r; rw [if_pos h]
theorem put_ne {a b : Int} {r : List Int} (h : b ≠ -a) : put a (b :: r) = a :: b :: r := by show (if b = -a then r else a :: b :: r) = _; rw [if_neg h]
theorem short_put {a : Int} {r : List Int} (h : Short r) : Short (put a r) := by
  cases r with
  | nil => trivial
  | cons b r =>
    by_cases c : b = -a
    · rw [put_eq c]; exact h.tail
    · rw [put_ne c]; exact ⟨by omega, h⟩
theorem short_red : ∀ w : List Int, Short (red w)
  | [] => trivial
  | _ :: w => short_put (short_red w)
theorem put_put {a : Int} {r : List Int} (h : Short r) : put a (put (-a) r) = r := by
  cases r with
  | nil => exact put_eq rfl
  | cons b r =>
    by_cases c : b = a
    · rw [put_eq (show b = - -a by omega)]
      cases r with
      | nil => rw [c]; rfl
      | cons d r =>
        have := h.1
        rw [put_ne (show d ≠ -a by omega), c]
    · rw [put_ne (show b ≠ - -a by omega), put_eq rfl]
theorem red_cancel (a : Int) (v : List Int) : ∀ u : List Int, red (u ++ a :: -a :: v) = red (u ++ v)
  | [] => put_put (short_red v)
  | b :: u => by
    show put b (red (u ++ a :: -a :: v)) = put b (red (u ++ v))
    rw [red_cancel a v u]
theorem red_of_short : ∀ {w : List Int}, Short w → red w = w
  | [], _ => rfl
  | [a], _ => rfl
  | a :: b :: w, h => by
    have ih := red_of_short h.2
    show put a (red (b :: w)) = _
    rw [ih]
    exact put_ne (by have := h.1; omega)
theorem red_red (w : List Int) : red (red w) = red w := red_of_short (short_red w)

/-- neighbours taken out one pair after another -/
inductive Steps : List Int → List Int → Prop
  | refl (w) : Steps w w
  | step {u a v w} : Steps (u ++ v) w → Steps (u ++ a :: -a :: v) w

theorem Steps.red {w w' : List Int} (h : Steps w w') : Tw.red w = Tw.red w' := by
  induction h with
  | refl => rfl
  | step _ ih => rw [red_cancel, ih]
theorem Steps.one {w w' : List Int} {u a v} (e : w = u ++ a :: -a :: v) (e' : w' = u ++ v) : Steps w w' := by
  subst e e'; exact .step (.refl _)
theorem Steps.trans {w1 w2 w3 : List Int} (h : Steps w1 w2) (k : Steps w2 w3) : Steps w1 w3 := by
  induction h with
  | refl => exact k
  | step _ ih => exact .step (ih k)
theorem Steps.ctx {w w' : List Int} (h : Steps w w') (x y : List Int) : Steps (x ++ w ++ y) (x ++ w' ++ y) := by
  induction h with
  | refl => exact .refl _
  | @step u a v w _ ih =>
    have e : x ++ (u ++ a :: -a :: v) ++ y = (x ++ u) ++ a :: -a :: (v ++ y) := by simp
    rw [e]
    refine .step ?_
    simpa using ih
theorem opp_append (u v : List Int) : opp (u ++ v) = opp v ++ opp u := by simp [opp]
theorem opp_opp (u : List Int) : opp (opp u) = u := by
  unfold opp
  rw [List.map_reverse, List.reverse_reverse, List.map_map]
  have : ((fun x : Int => -x) ∘ fun x => -x) = id := by funext x; simp
  rw [this, List.map_id]
theorem opp_length (u : List Int) : (opp u).length = u.length := by simp [opp]
theorem mem_opp {u : List Int} {x : Int} : x ∈ opp u ↔ -x ∈ u := by
  unfold opp
  rw [List.mem_reverse, List.mem_map]
  constructor
  · rintro ⟨y, hy, rfl⟩; simpa using hy
  · intro h; exact ⟨-x, h, by simp⟩
theorem Steps.opp {w w' : List Int} (h : Steps w w') : Steps (Tw.opp w) (Tw.opp w') := by
  induction h with
  | refl => exact .refl _
  | @step u a v w _ ih =>
    have e : Tw.opp (u ++ a :: -a :: v) = Tw.opp v ++ a :: -a :: Tw.opp u := by simp [Tw.opp]
    rw [e]
    refine .step ?_
    rw [← opp_append]; exact ih
theorem steps_red : ∀ w : List Int, Steps w (red w)
  | [] => .refl _
  | a :: w => by
    have h := (steps_red w).ctx [a] []
    simp only [List.append_nil, List.cons_append, List.nil_append] at h
    refine h.trans ?_
    show Steps (a :: red w) (put a (red w))
    generalize red w = r
    cases r with
    | nil => exact .refl _
    | cons b r =>
      by_cases c : b = -a
      · rw [put_eq c]
        exact Steps.one (u := []) (a := a) (by rw [c]; rfl) rfl
      · rw [put_ne c]; exact .refl _
theorem Steps.length {w w' : List Int} (h : Steps w w') : w'.length ≤ w.length := by
  induction h with
  | refl => exact Nat.le_refl _
  | step _ ih => simp only [List.length_append, List.length_cons] at *; omega
theorem Steps.mem {w w' : List Int} (h : Steps w w') : ∀ x ∈ w', x ∈ w := by
  induction h with
  | refl => exact fun _ h => h
  | step _ ih =>
    intro x hx
    have := ih x hx
    simp only [List.mem_append, List.mem_cons] at *
    rcases this with h | h
    · exact Or.inl h
    · exact Or.inr (Or.inr (Or.inr h))
theorem red_ctx (x w y : List Int) : red (x ++ red w ++ y) = red (x ++ w ++ y) := ((steps_red w).ctx x y).red.symm
theorem red_left (w y : List Int) : red (red w ++ y) = red (w ++ y) := red_ctx [] w y
theorem red_right (x w : List Int) : red (x ++ red w) = red (x ++ w) := by simpa using red_ctx x w []
theorem red_opp (w : List Int) : red (opp (red w)) = red (opp w) := (steps_red w).opp.red.symm
theorem red_length (w : List Int) : (red w).length ≤ w.length := (steps_red w).length
theorem red_mem {w : List Int} {x : Int} (h : x ∈ red w) : x ∈ w := (steps_red w).mem x h

/-- the short form has the same gluings' number -/
theorem has_steps {w w' : List Int} (h : Steps w w') (h0 : ∀ x ∈ w, x ≠ 0) (k : Nat) : has w k ↔ has w' k := by
  induction h with
  | refl => exact Iff.rfl
  | @step u a v w _ ih =>
    rw [has_cancel (h0 a (by simp))]
    refine ih fun x hx => h0 x ?_
    simp only [List.mem_append, List.mem_cons] at *
    rcases hx with h | h
    · exact Or.inl h
    · exact Or.inr (Or.inr (Or.inr h))
theorem has_red {w : List Int} (h0 : ∀ x ∈ w, x ≠ 0) (k : Nat) : has (red w) k ↔ has w k := (has_steps (steps_red w) h0 k).symm

/-- a row and its opposite are put in -/
theorem has_word {u x v : List Int} (h0 : ∀ y ∈ x, y ≠ 0) (k : Nat) : has (u ++ x ++ opp x ++ v) k ↔ has (u ++ v) k := by
  induction x generalizing u v with
  | nil => simp [opp]
  | cons a x ih =>
    have e : u ++ (a :: x) ++ opp (a :: x) ++ v = (u ++ [a]) ++ x ++ opp x ++ (-a :: v) := by simp [opp]
    rw [e, ih fun y hy => h0 y (List.mem_cons_of_mem _ hy)]
    have e2 : u ++ [a] ++ -a :: v = u ++ a :: -a :: v := by simp
    rw [e2, has_cancel (h0 a List.mem_cons_self)]

theorem has_mid {u x y v : List Int} {k : Nat} (h : has (u ++ x ++ y ++ v) k) : has (u ++ y ++ x ++ v) (k + 2) := by
  have h1 : has ((v ++ u) ++ x ++ y) k := by
    have := has_rotate (u := u ++ x ++ y) (v := v) h
    simpa using this
  have h2 := has_blocks h1
  have h3 := has_rotate (u := v) (v := u ++ y ++ x) (by simpa using h2)
  exact h3

/-- one commutator more: at most one handle more -/
theorem has_comm_more {w x y : List Int} {k : Nat} (hx : ∀ z ∈ x, z ≠ 0) (hy : ∀ z ∈ y, z ≠ 0) (h : has w k) : has (w ++ x ++ y ++ opp x ++ opp y) (k + 2) := by
  have h1 : has (w ++ y ++ opp y ++ []) k := (has_word hy k).mpr (by simpa using h)
  have h2 : has ((w ++ y) ++ x ++ opp x ++ opp y) k := (has_word hx k).mpr (by simpa using h1)
  have h3 : has (w ++ y ++ x ++ (opp x ++ opp y)) k := by simpa using h2
  have h4 := has_mid h3
  simpa using h4
/-- .. and at most one less -/
theorem has_comm_less {w x y : List Int} {k : Nat} (hx : ∀ z ∈ x, z ≠ 0) (hy : ∀ z ∈ y, z ≠ 0) (h : has (w ++ x ++ y ++ opp x ++ opp y) k) : has w (k + 2) := by
  have h1 : has (w ++ x ++ y ++ (opp x ++ opp y)) k := by simpa using h
  have h2 := has_mid h1
  have h3 : has ((w ++ y) ++ x ++ opp x ++ opp y) (k + 2) := by simpa using h2
  have h4 := (has_word hx _).mp h3
  have h5 : has (w ++ y ++ opp y ++ []) (k + 2) := by simpa using h4
  simpa using (has_word hy _).mp h5
/-- turned about -/
theorem has_conj {w u : List Int} (hu : ∀ z ∈ u, z ≠ 0) (k : Nat) : has (u ++ w ++ opp u) k ↔ has w k := by
  have key : has (w ++ opp u ++ opp (opp u)) k ↔ has w k := by
    have := has_word (u := w) (x := opp u) (v := []) (fun y hy => fun e => hu (-y) (mem_opp.mp hy) (by omega)) k
    simpa using this
  rw [opp_opp] at key
  constructor
  · intro h
    exact key.mp (has_rotate (u := u) (v := w ++ opp u) (by simpa using h))
  · intro h
    have := has_rotate (u := w ++ opp u) (v := u) (key.mpr h)
    simpa using this
theorem has_opp_iff {w : List Int} (k : Nat) : has (opp w) k ↔ has w k :=
  ⟨fun h => by have := has_opp h; rwa [opp_opp] at this, has_opp⟩

/-! ### balanced -/
/-- as often as its opposite -/
def ex (a : Int) (w : List Int) : Int := w.count a - w.count (-a)
theorem ex_append (a : Int) (u v : List Int) : ex a (u ++ v) = ex a u + ex a v := by
  unfold ex; rw [List.count_append, List.count_append]; omega
theorem ex_opp (a : Int) (u : List Int) : ex a (opp u) = - ex a u := by
  induction u with
  | nil => rfl
  | cons b u ih =>
    have e : opp (b :: u) = opp u ++ [-b] := by simp [opp]
    have e2 : b :: u = [b] ++ u := rfl
    rw [e, ex_append, ih, e2, ex_append]
    have : ex a [-b] = - ex a [b] := by
      unfold ex
      simp only [List.count_cons, List.count_nil]
      have i1 : (-b == a) = (b == -a) := by
        rw [Bool.eq_iff_iff]; simp; omega
      have i2 : (-b == -a) = (b == a) := by
        rw [Bool.eq_iff_iff]; simp
      rw [i1, i2]
      repeat' split
      all_goals simp
    omega
theorem ex_steps (a : Int) {w w' : List Int} (h : Steps w w') : ex a w = ex a w' := by
  induction h with
  | refl => rfl
  | @step u b v w _ ih =>
    have e : u ++ b :: -b :: v = u ++ ([b] ++ opp [b]) ++ v := by simp [opp]
    rw [← ih, e, ex_append, ex_append, ex_append, ex_append, ex_opp]; omega
theorem ex_red (a : Int) (w : List Int) : ex a (red w) = ex a w := (ex_steps a (steps_red w)).symm
theorem ex_comm (a : Int) (w x y : List Int) : ex a (w ++ x ++ y ++ opp x ++ opp y) = ex a w := by
  simp only [ex_append, ex_opp]; omega
theorem count_of_ex {a : Int} {w : List Int} (h : ex a w = 0) : w.count a = w.count (-a) := by unfold ex at h; omega

end Tw
end

-- text TwCls
section
/-! Counting classes: by least numbers, by a table of what stands above, by walking round. -/
namespace Tw

inductive Conn (n : Nat) (s : Nat → Nat) : Nat → Nat → Prop
  | refl (x) : Conn n s x x
  | step {x} : x < n → Conn n s x (s x)
  | symm {x y} : Conn n s x y → Conn n s y x
  | trans {x y z} : Conn n s x y → Conn n s y z → Conn n s x z

theorem Conn.inside {n : Nat} {s : Nat → Nat} (hs : ∀ x, x < n → s x < n) {x y : Nat} (h : Conn n s x y) : x < n ↔ y < n := by
  induction h with
  | refl => exact Iff.rfl
  | step h => exact ⟨fun _ => hs _ h, fun _ => h⟩
  | symm _ ih => exact ih.symm
  | trans _ _ ih1 ih2 => exact ih1.trans ih2

theorem conn_down {n : Nat} {s : Nat → Nat} {x y : Nat} (h : Conn (n + 1) s x y) : Conn n (byp n s) (if x = n then s n else x) (if y = n then s n else y) := by
  induction h with
  | refl => exact .refl _
  | @step x hx =>
    by_cases c : x = n
    · subst c
      rw [if_pos rfl]
      have : (if s x = x then s x else s x) = s x := by split <;> rfl
      rw [this]; exact .refl _
    · rw [if_neg c]
      have : x < n := by omega
      exact .step this
  | symm _ ih => exact ih.symm
  | trans _ _ ih1 ih2 => exact ih1.trans ih2
theorem conn_up {n : Nat} {s : Nat → Nat} {x y : Nat} (h : Conn n (byp n s) x y) : Conn (n + 1) s x y := by
  induction h with
  | refl => exact .refl _
  | @step x hx =>
    unfold byp
    split
    · rename_i e
      have h1 : Conn (n + 1) s x (s x) := .step (by omega)
      have h2 : Conn (n + 1) s n (s n) := .step (by omega)
      rw [e] at h1
      exact h1.trans h2
    · exact .step (by omega)
  | symm _ ih => exact ih.symm
  | trans _ _ ih1 ih2 => exact ih1.trans ih2

theorem range_perm (n : Nat) : (List.range (n + 1)).Perm (n :: List.range n) := by
  rw [List.range_succ]; exact List.perm_append_singleton n _

/-- the least numbers of their classes are as many as the cycles -/
theorem cyc_classes : ∀ (n : Nat) (s : Nat → Nat) (l : List Nat), PermOn (List.range n) s → l.Nodup → (∀ x, x ∈ l ↔ x < n ∧ ∀ j, j < x → ¬ Conn n s j x) → l.length = cyc (List.range n) s
  | 0, s, l, _, _, h => by
    have : l = [] := List.eq_nil_iff_forall_not_mem.mpr fun x hx => absurd ((h x).mp hx).1 (Nat.not_lt_zero x)
    subst this; rfl
  | n + 1, s, l, hs, nd, h => by
    have hP := hs.perm (range_perm n)
    have hb := hP.byp
    have mapsN : ∀ x, x < n → byp n s x < n := fun x hx => List.mem_range.mp (hb.maps x (List.mem_range.mpr hx))
    have maps : ∀ x, x < n + 1 → s x < n + 1 := fun x hx => List.mem_range.mp (hs.maps x (List.mem_range.mpr hx))
    have iff : ∀ j x, j < n → x < n → (Conn (n + 1) s j x ↔ Conn n (byp n s) j x) := fun j x hj hx => by
      refine ⟨fun q => ?_, conn_up⟩
      have := conn_down q
      rw [if_neg (by omega), if_neg (by omega)] at this
      exact this
    rw [cyc_perm (range_perm n) s hs]
    simp only [cyc]
    by_cases c : s n = n
    · have hn : n ∈ l := (h n).mpr ⟨by omega, fun j hj q => by
        have := (conn_down q).inside mapsN
        rw [if_neg (by omega), if_pos rfl, c] at this
        omega⟩
      have ih := cyc_classes n (byp n s) (l.erase n) hb (nd.erase n) fun x => by
        rw [nd.mem_erase_iff, h x]
        constructor
        · rintro ⟨h1, h2, h3⟩
          have hx : x < n := by omega
          exact ⟨hx, fun j hj q => h3 j hj (conn_up q)⟩
        · rintro ⟨h1, h2⟩
          exact ⟨by omega, by omega, fun j hj q => h2 j hj ((iff j x (by omega) h1).mp q)⟩
      rw [List.length_erase_of_mem hn] at ih
      have := List.length_pos_of_mem hn
      rw [if_pos c]; omega
    · have hsn : s n < n := by have := maps n (by omega); omega
      have hn : n ∉ l := fun q => ((h n).mp q).2 (s n) hsn (.symm (.step (by omega)))
      have ih := cyc_classes n (byp n s) l hb nd fun x => by
        rw [h x]
        constructor
        · rintro ⟨h1, h2⟩
          have hx : x < n := by
            rcases Nat.lt_or_ge x n with q | q
            · exact q
            · have e : x = n := by omega
              subst e
              exact absurd (.symm (.step (by omega))) (h2 (s x) hsn)
          exact ⟨hx, fun j hj q => h2 j hj (conn_up q)⟩
        · rintro ⟨h1, h2⟩
          exact ⟨by omega, fun j hj q => h2 j hj ((iff j x (by omega) h1).mp q)⟩
      rw [if_neg c, ih]; omega

/-! ### the table of what stands above -/
/-- the root: climb as long as something smaller stands above -/
def rt (ab : List Nat) (x : Nat) : Nat := if ab.getD x x < x then rt ab (ab.getD x x) else x
termination_by x
decreasing_by assumption

theorem rt_le (ab : List Nat) : ∀ x, rt ab x ≤ x := fun x => by
  induction x using Nat.strongRecOn with
  | ind x ih =>
    rw [rt]
    split
    · rename_i h
      have := ih _ h; omega
    · exact Nat.le_refl _
theorem rt_rt (ab : List Nat) : ∀ x, rt ab (rt ab x) = rt ab x := fun x => by
  induction x using Nat.strongRecOn with
  | ind x ih =>
    by_cases h : ab.getD x x < x
    · have e : rt ab x = rt ab (ab.getD x x) := by rw [rt, if_pos h]
      rw [e]; exact ih _ h
    · have e : rt ab x = x := by rw [rt, if_neg h]
      rw [e, e]
theorem rt_root {ab : List Nat} {x : Nat} (h : rt ab x = x) : ¬ ab.getD x x < x := fun c => by
  rw [rt, if_pos c] at h
  have := rt_le ab (ab.getD x x)
  omega
theorem rt_of_root {ab : List Nat} {x : Nat} (h : ¬ ab.getD x x < x) : rt ab x = x := by rw [rt, if_neg h]
theorem rt_step {ab : List Nat} {x : Nat} (h : ab.getD x x < x) : rt ab x = rt ab (ab.getD x x) := by rw [rt, if_pos h]

/-- two roots joined -/
def join (ab : List Nat) (a b : Nat) : List Nat := ab.set (max a b) (min a b)

theorem join_at {ab : List Nat} {a b : Nat} (hm : max a b < ab.length) (x : Nat) : (join ab a b).getD x x = if x = max a b then min a b else ab.getD x x := by
  unfold join
  by_cases c : x = max a b
  · subst c
    rw [if_pos rfl, List.getD_eq_getElem?_getD, List.getElem?_set_self hm]; rfl
  · rw [if_neg c, List.getD_eq_getElem?_getD, List.getElem?_set_ne (Ne.symm c), ← List.getD_eq_getElem?_getD]

theorem rt_join {ab : List Nat} {a b : Nat} (ha : rt ab a = a) (hb : rt ab b = b) (hm : max a b < ab.length) : ∀ x, rt (join ab a b) x = if rt ab x = max a b then min a b else rt ab x := fun x => by
  have at_ := join_at (ab := ab) (a := a) (b := b) hm
  have rm : rt ab (max a b) = max a b := by rcases Nat.le_total a b with h | h <;> simp [Nat.max_def] <;> split <;> assumption
  have rn : rt ab (min a b) = min a b := by rcases Nat.le_total a b with h | h <;> simp [Nat.min_def] <;> split <;> assumption
  induction x using Nat.strongRecOn with
  | ind x ih =>
    by_cases h : ab.getD x x < x
    · have nx : x ≠ max a b := fun e => rt_root rm (e ▸ h)
      have e1 : (join ab a b).getD x x = ab.getD x x := by rw [at_, if_neg nx]
      rw [rt_step (by rw [e1]; exact h), e1, ih _ h, ← rt_step h]
    · rw [rt_of_root h]
      by_cases c : x = max a b
      · rw [if_pos c]
        have e1 : (join ab a b).getD x x = min a b := by rw [at_, if_pos c]
        by_cases d : min a b < x
        · rw [rt_step (by rw [e1]; exact d), e1, ih _ d, rn]
          rw [if_neg (by omega)]
        · rw [rt_of_root (by rw [e1]; exact d)]; omega
      · rw [if_neg c]
        exact rt_of_root (by rw [at_, if_neg c]; exact h)

/-- what the pairs join -/
inductive Cl (P : List (Nat × Nat)) : Nat → Nat → Prop
  | refl (x) : Cl P x x
  | gen {x y} : (x, y) ∈ P → Cl P x y
  | symm {x y} : Cl P x y → Cl P y x
  | trans {x y z} : Cl P x y → Cl P y z → Cl P x z

theorem Cl.mono {P Q : List (Nat × Nat)} (h : ∀ p ∈ P, p ∈ Q) {x y : Nat} (c : Cl P x y) : Cl Q x y := by
  induction c with
  | refl => exact .refl _
  | gen hp => exact .gen (h _ hp)
  | symm _ ih => exact ih.symm
  | trans _ _ ih1 ih2 => exact ih1.trans ih2

/-- the table tells the classes of the pairs -/
structure UF (n : Nat) (ab : List Nat) (P : List (Nat × Nat)) : Prop where
  len : ab.length = n
  le : ∀ x, x < n → ab.getD x x ≤ x
  tells : ∀ x y, rt ab x = rt ab y ↔ Cl P x y

theorem UF.start (n : Nat) : UF n (List.range n) [] := by
  have e : ∀ x, (List.range n).getD x x = x := fun x => by
    rw [List.getD_eq_getElem?_getD]
    by_cases h : x < n
    · rw [List.getElem?_range h]; rfl
    · rw [List.getElem?_eq_none (by simp; omega)]; rfl
  have r : ∀ x, rt (List.range n) x = x := fun x => rt_of_root (by rw [e]; omega)
  refine ⟨List.length_range, fun x _ => by rw [e]; exact Nat.le_refl _, fun x y => ?_⟩
  rw [r, r]
  constructor
  · rintro rfl; exact .refl _
  · intro h
    induction h with
    | refl => rfl
    | gen h => simp at h
    | symm _ ih => exact ih.symm
    | trans _ _ ih1 ih2 => exact ih1.trans ih2

theorem UF.root_lt {n : Nat} {ab : List Nat} {P : List (Nat × Nat)} (_ : UF n ab P) {x : Nat} (hx : x < n) : rt ab x < n := Nat.lt_of_le_of_lt (rt_le ab x) hx

theorem UF.glue {n : Nat} {ab : List Nat} {P : List (Nat × Nat)} (h : UF n ab P) {a b : Nat} (ha : a < n) (hb : b < n) : UF n (join ab (rt ab a) (rt ab b)) (P ++ [(a, b)]) := by
  have ra := rt_rt ab a
  have rb := rt_rt ab b
  have la := h.root_lt ha
  have lb := h.root_lt hb
  have hm : max (rt ab a) (rt ab b) < ab.length := by rw [h.len]; omega
  have rj := rt_join ra rb hm
  refine ⟨by unfold join; rw [List.length_set]; exact h.len, fun x hx => ?_, fun x y => ?_⟩
  · rw [join_at hm]
    split
    · omega
    · exact h.le x hx
  · have up : ∀ {x y}, Cl P x y → Cl (P ++ [(a, b)]) x y := fun c => c.mono fun p hp => List.mem_append_left _ hp
    have ab' : Cl (P ++ [(a, b)]) a b := .gen (by simp)
    constructor
    · intro e
      -- each x is joined with the root that it has now
      have to : ∀ x, Cl (P ++ [(a, b)]) x (rt (join ab (rt ab a) (rt ab b)) x) := fun x => by
        have rx : Cl (P ++ [(a, b)]) x (rt ab x) := up ((h.tells _ _).mp (rt_rt ab x).symm)
        have rA : Cl (P ++ [(a, b)]) a (rt ab a) := up ((h.tells _ _).mp (rt_rt ab a).symm)
        have rB : Cl (P ++ [(a, b)]) b (rt ab b) := up ((h.tells _ _).mp (rt_rt ab b).symm)
        have rr : Cl (P ++ [(a, b)]) (rt ab a) (rt ab b) := (rA.symm.trans ab').trans rB
        rw [rj]
        split
        · rename_i e
          rw [e] at rx
          refine rx.trans ?_
          rcases Nat.le_total (rt ab a) (rt ab b) with q | q
          · rw [Nat.max_eq_right q, Nat.min_eq_left q]; exact rr.symm
          · rw [Nat.max_eq_left q, Nat.min_eq_right q]; exact rr
        · exact rx
      exact (to x).trans (e ▸ (to y).symm)
    · intro c
      induction c with
      | refl => rfl
      | @gen x y hp =>
        rcases List.mem_append.mp hp with q | q
        · have := (h.tells x y).mpr (.gen q)
          rw [rj, rj, this]
        · simp only [List.mem_cons, List.not_mem_nil, or_false, Prod.mk.injEq] at q
          rw [q.1, q.2, rj, rj]
          repeat' split
          all_goals omega
      | symm _ ih => exact ih.symm
      | trans _ _ ih1 ih2 => exact ih1.trans ih2

/-- the number of roots is the number of cycles -/
theorem UF.count {n : Nat} {ab : List Nat} {P : List (Nat × Nat)} (h : UF n ab P) {s : Nat → Nat} (hs : PermOn (List.range n) s) (hP : ∀ x y, Cl P x y ↔ Conn n s x y) {l : List Nat} (nd : l.Nodup) (hl : ∀ x, x ∈ l ↔ x < n ∧ rt ab x = x) :
    l.length = cyc (List.range n) s := by
  refine cyc_classes n s l hs nd fun x => ?_
  rw [hl]
  refine and_congr_right fun hx => ?_
  constructor
  · intro e j hj q
    have := (h.tells j x).mpr ((hP j x).mpr q)
    have := rt_le ab j
    omega
  · intro q
    have := rt_le ab x
    refine Decidable.byContradiction fun ne => q (rt ab x) (by omega) ?_
    exact (hP _ _).mp ((h.tells _ _).mp (rt_rt ab x))

/-! ### walking round -/
def itn (s : Nat → Nat) (c : Nat) : Nat → Nat
  | 0 => c
  | k + 1 => s (itn s c k)
def orb (s : Nat → Nat) (c t : Nat) : List Nat := (List.range t).map (itn s c)
theorem orb_succ (s : Nat → Nat) (c t : Nat) : orb s c (t + 1) = orb s c t ++ [itn s c t] := by simp [orb, List.range_succ]
theorem orb_length (s : Nat → Nat) (c t : Nat) : (orb s c t).length = t := by simp [orb]
theorem mem_orb {s : Nat → Nat} {c t x : Nat} : x ∈ orb s c t ↔ ∃ i, i < t ∧ itn s c i = x := by
  simp [orb]
theorem itn_lt {n : Nat} {s : Nat → Nat} (hs : PermOn (List.range n) s) {c : Nat} (hc : c < n) : ∀ k, itn s c k < n
  | 0 => hc
  | k + 1 => List.mem_range.mp (hs.maps _ (List.mem_range.mpr (itn_lt hs hc k)))
theorem orb_nodup_succ {s : Nat → Nat} {c t : Nat} (h : (orb s c t).Nodup) (hn : itn s c t ∉ orb s c t) : (orb s c (t + 1)).Nodup := by
  rw [orb_succ]
  exact List.nodup_append.mpr ⟨h, by simp, fun x hx y hy e => hn (by simp at hy; rw [← hy, ← e]; exact hx)⟩
/-- after n turns it is round -/
theorem orb_full {n : Nat} {s : Nat → Nat} (hs : PermOn (List.range n) s) {c : Nat} (hc : c < n) (h : (orb s c n).Nodup) : itn s c n ∈ orb s c n := by
  refine pigeon (orb s c n) (List.range n) h (fun x hx => ?_) (by rw [orb_length, List.length_range]; exact Nat.le_refl _) _ (List.mem_range.mpr (itn_lt hs hc n))
  obtain ⟨i, _, e⟩ := mem_orb.mp hx
  exact List.mem_range.mpr (e ▸ itn_lt hs hc i)
/-- what comes again is the first -/
theorem orb_back {n : Nat} {s : Nat → Nat} (hs : PermOn (List.range n) s) {c : Nat} (hc : c < n) {t : Nat} (ht : 0 < t) (h : (orb s c t).Nodup) (hm : itn s c t ∈ orb s c t) : itn s c t = c := by
  obtain ⟨i, hi, e⟩ := mem_orb.mp hm
  cases i with
  | zero => exact e.symm
  | succ i =>
    exfalso
    obtain ⟨t, rfl⟩ : ∃ k, t = k + 1 := ⟨t - 1, by omega⟩
    have q := hs.inj _ (List.mem_range.mpr (itn_lt hs hc i)) _ (List.mem_range.mpr (itn_lt hs hc t)) e
    have := inj_of_nodup_map h i (List.mem_range.mpr (by omega)) t (List.mem_range.mpr (by omega)) q
    omega
theorem orb_closed {n : Nat} {s : Nat → Nat} (hs : PermOn (List.range n) s) {c : Nat} (hc : c < n) {t : Nat} (ht : 0 < t) (h : (orb s c t).Nodup) (hm : itn s c t ∈ orb s c t) : ∀ y, y < n → (y ∈ orb s c t ↔ s y ∈ orb s c t) := by
  have back := orb_back hs hc ht h hm
  have fwd : ∀ i, i < t → s (itn s c i) ∈ orb s c t := fun i hi => by
    by_cases e : i + 1 = t
    · show itn s c (i + 1) ∈ _
      rw [e]; exact hm
    · exact mem_orb.mpr ⟨i + 1, by omega, rfl⟩
  intro y hy
  constructor
  · intro q
    obtain ⟨i, hi, rfl⟩ := mem_orb.mp q
    exact fwd i hi
  · intro q
    obtain ⟨i, hi, e⟩ := mem_orb.mp q
    have inj := fun a b ha hb => hs.inj a (List.mem_range.mpr ha) b (List.mem_range.mpr hb)
    cases i with
    | succ i =>
      have := inj _ _ (itn_lt hs hc i) hy e
      exact this ▸ mem_orb.mpr ⟨i, by omega, rfl⟩
    | zero =>
      obtain ⟨t, rfl⟩ : ∃ k, t = k + 1 := ⟨t - 1, by omega⟩
      have := inj _ _ (itn_lt hs hc t) hy (back.trans e)
      exact this ▸ mem_orb.mpr ⟨t, by omega, rfl⟩
theorem orb_conn {n : Nat} {s : Nat → Nat} (hs : PermOn (List.range n) s) {c : Nat} (hc : c < n) : ∀ k, Conn n s c (itn s c k)
  | 0 => .refl _
  | k + 1 => (orb_conn hs hc k).trans (.step (itn_lt hs hc k))

/-- behind the corners below c: seen, and the least ones l -/
structure Seen (n : Nat) (s : Nat → Nat) (c : Nat) (seen l : List Nat) : Prop where
  closed : ∀ y, y < n → (y ∈ seen ↔ s y ∈ seen)
  below : ∀ j, j < c → j ∈ seen
  from_ : ∀ y ∈ seen, y < n ∧ ∃ j, j < c ∧ Conn n s j y
  nd : l.Nodup
  least : ∀ x, x ∈ l ↔ x < c ∧ ∀ j, j < x → ¬ Conn n s j x

theorem Seen.start (n : Nat) (s : Nat → Nat) : Seen n s 0 [] [] :=
  ⟨fun y _ => by simp, fun j h => absurd h (Nat.not_lt_zero j), fun y h => by simp at h, List.nodup_nil, fun x => by simp⟩
theorem Seen.mem_iff {n : Nat} {s : Nat → Nat} (hs : PermOn (List.range n) s) {c : Nat} {seen l : List Nat} (h : Seen n s c seen l) {x y : Nat} (hx : x < n) (q : Conn n s x y) : x ∈ seen ↔ y ∈ seen := by
  have maps : ∀ x, x < n → s x < n := fun x hx => List.mem_range.mp (hs.maps x (List.mem_range.mpr hx))
  have key : ∀ {x y}, Conn n s x y → x < n → (x ∈ seen ↔ y ∈ seen) := fun q => by
    induction q with
    | refl => exact fun _ => Iff.rfl
    | step hx => exact fun _ => h.closed _ hx
    | symm q ih => exact fun hy => (ih ((q.inside maps).mpr hy)).symm
    | trans q _ ih1 ih2 => exact fun hx => (ih1 hx).trans (ih2 ((q.inside maps).mp hx))
  exact key q hx
theorem Seen.skip {n : Nat} {s : Nat → Nat} (_ : PermOn (List.range n) s) {c : Nat} {seen l : List Nat} (h : Seen n s c seen l) (hm : c ∈ seen) : Seen n s (c + 1) seen l := by
  refine ⟨h.closed, fun j hj => ?_, fun y hy => ?_, h.nd, fun x => ?_⟩
  · rcases Nat.lt_or_ge j c with q | q
    · exact h.below j q
    · have : j = c := by omega
      exact this ▸ hm
  · obtain ⟨h1, j, h2, h3⟩ := h.from_ y hy
    exact ⟨h1, j, by omega, h3⟩
  · rw [h.least]
    constructor
    · rintro ⟨h1, h2⟩; exact ⟨by omega, h2⟩
    · rintro ⟨h1, h2⟩
      refine ⟨?_, h2⟩
      rcases Nat.lt_or_ge x c with q | q
      · exact q
      · have e : x = c := by omega
        obtain ⟨_, j, h4, h5⟩ := h.from_ c hm
        exact absurd (e ▸ h5) (h2 j (by omega))
theorem Seen.more {n : Nat} {s : Nat → Nat} (hs : PermOn (List.range n) s) {c : Nat} {seen l : List Nat} (h : Seen n s c seen l) (hc : c < n) (hm : c ∉ seen) {t : Nat} (ht : 0 < t) (hnd : (orb s c t).Nodup) (hb : itn s c t ∈ orb s c t) :
    Seen n s (c + 1) (seen ++ orb s c t) (l ++ [c]) := by
  have cl := orb_closed hs hc ht hnd hb
  have hcl : c ∉ l := fun q => by have := ((h.least c).mp q).1; omega
  refine ⟨fun y hy => ?_, fun j hj => ?_, fun y hy => ?_, ?_, fun x => ?_⟩
  · rw [List.mem_append, List.mem_append, h.closed y hy, cl y hy]
  · rcases Nat.lt_or_ge j c with q | q
    · exact List.mem_append_left _ (h.below j q)
    · have : j = c := by omega
      exact List.mem_append_right _ (this ▸ mem_orb.mpr ⟨0, ht, rfl⟩)
  · rcases List.mem_append.mp hy with q | q
    · obtain ⟨h1, j, h2, h3⟩ := h.from_ y q
      exact ⟨h1, j, by omega, h3⟩
    · obtain ⟨i, _, e⟩ := mem_orb.mp q
      exact ⟨e ▸ itn_lt hs hc i, c, by omega, e ▸ orb_conn hs hc i⟩
  · exact List.nodup_append.mpr ⟨h.nd, by simp, fun x hx y hy e => hcl (by simp at hy; rw [← hy, ← e]; exact hx)⟩
  · rw [List.mem_append, h.least, List.mem_singleton]
    constructor
    · rintro (⟨h1, h2⟩ | e)
      · exact ⟨by omega, h2⟩
      · subst e
        refine ⟨by omega, fun j hj q => hm ?_⟩
        exact (h.mem_iff hs (by omega) q).mp (h.below j hj)
    · rintro ⟨h1, h2⟩
      rcases Nat.lt_or_ge x c with q | q
      · exact Or.inl ⟨q, h2⟩
      · exact Or.inr (by omega)
theorem Seen.count {n : Nat} {s : Nat → Nat} (hs : PermOn (List.range n) s) {seen l : List Nat} (h : Seen n s n seen l) : l.length = cyc (List.range n) s :=
  cyc_classes n s l hs h.nd h.least

end Tw
end

-- text TwProg
section
/-! The gluings as the program lists them. -/
namespace Tw

def flat (G : List (Nat × Nat)) : List Nat := G.flatMap fun p => [p.1, p.2]
def left (n : Nat) (G : List (Nat × Nat)) : List Nat := (List.range n).filter fun i => !(flat G).contains i

theorem mem_left {n : Nat} {G : List (Nat × Nat)} {i : Nat} : i ∈ left n G ↔ i < n ∧ i ∉ flat G := by
  unfold left
  rw [List.mem_filter, List.mem_range]
  simp
theorem left_nodup (n : Nat) (G : List (Nat × Nat)) : (left n G).Nodup := List.nodup_range.sublist List.filter_sublist
theorem left_sorted (n : Nat) (G : List (Nat × Nat)) : (left n G).Pairwise (· < ·) := List.pairwise_lt_range.sublist List.filter_sublist
theorem flat_append (G K : List (Nat × Nat)) : flat (G ++ K) = flat G ++ flat K := by simp [flat]
theorem flat_one (i j : Nat) : flat [(i, j)] = [i, j] := rfl

/-- one more pair may be glued: the first side that is left with a later one of the opposite letter -/
def Next (w : List Int) (G : List (Nat × Nat)) (i j : Nat) : Prop :=
  ∃ rest, left w.length G = i :: rest ∧ j ∈ rest ∧ w.getD j 0 = - w.getD i 0

/-- a part of a gluing, as far as the list of gluings has come to it -/
inductive Part (w : List Int) : List (Nat × Nat) → Prop
  | nil : Part w []
  | more {G i j} : Part w G → Next w G i j → Part w (G ++ [(i, j)])

/-- a gluing -/
def IsGl (w : List Int) (G : List (Nat × Nat)) : Prop := Part w G ∧ left w.length G = []

theorem Part.prefix {w : List Int} {G : List (Nat × Nat)} (h : Part w G) : ∀ {K R : List (Nat × Nat)} {p : Nat × Nat}, G = K ++ p :: R → Part w K ∧ Next w K p.1 p.2 := by
  induction h with
  | nil => intro K R p e; simp at e
  | @more G i j hG hN ih =>
    intro K R p e
    rcases List.eq_nil_or_concat R with hR | ⟨R0, q, hR⟩
    · subst hR
      have := List.append_inj_left' e rfl
      have e2 := List.append_inj_right' e rfl
      injection e2 with e2
      subst this
      rw [← e2]
      exact ⟨hG, hN⟩
    · rw [hR, List.concat_eq_append] at e
      have e' : G ++ [(i, j)] = (K ++ p :: R0) ++ [q] := by rw [e]; simp
      exact ih (List.append_inj_left' e' rfl)

theorem Next.facts {w : List Int} {G : List (Nat × Nat)} {i j : Nat} (h : Next w G i j) : i < j ∧ j < w.length ∧ i ∉ flat G ∧ j ∉ flat G ∧ w.getD j 0 = - w.getD i 0 ∧ ∀ k, k < i → k ∈ flat G := by
  obtain ⟨rest, e, hj, hw⟩ := h
  have s := left_sorted w.length G
  rw [e] at s
  have sl := (List.pairwise_cons.mp s).1
  have mi := (mem_left (n := w.length) (G := G) (i := i)).mp (by rw [e]; simp)
  have mj := (mem_left (n := w.length) (G := G) (i := j)).mp (by rw [e]; simp [hj])
  refine ⟨sl j hj, mj.1, mi.2, mj.2, hw, fun k hk => ?_⟩
  refine Decidable.byContradiction fun nk => ?_
  have : k ∈ left w.length G := mem_left.mpr ⟨by omega, nk⟩
  rw [e] at this
  rcases List.mem_cons.mp this with q | q
  · omega
  · have := sl k q; omega

structure PartFacts (w : List Int) (G : List (Nat × Nat)) : Prop where
  nd : (flat G).Nodup
  lt : ∀ p ∈ G, p.1 < p.2 ∧ p.2 < w.length ∧ w.getD p.2 0 = - w.getD p.1 0
  asc : (G.map (·.1)).Pairwise (· < ·)
  below : ∀ p ∈ G, ∀ k, k < p.1 → k ∈ flat G

theorem Part.facts {w : List Int} {G : List (Nat × Nat)} (h : Part w G) : PartFacts w G := by
  induction h with
  | nil => exact ⟨List.nodup_nil, fun p hp => by simp at hp, List.Pairwise.nil, fun p hp => by simp at hp⟩
  | @more G i j hG hN ih =>
    obtain ⟨f1, f2, f3, f4, f5, f6⟩ := hN.facts
    refine ⟨?_, fun p hp => ?_, ?_, fun p hp k hk => ?_⟩
    · rw [flat_append, flat_one]
      refine List.nodup_append.mpr ⟨ih.nd, by simp; omega, fun x hx y hy e => ?_⟩
      simp at hy
      rcases hy with rfl | rfl
      · exact f3 (e ▸ hx)
      · exact f4 (e ▸ hx)
    · rcases List.mem_append.mp hp with q | q
      · exact ih.lt p q
      · rw [List.mem_singleton.mp q]; exact ⟨f1, f2, f5⟩
    · rw [List.map_append]
      refine List.pairwise_append.mpr ⟨ih.asc, by simp, fun x hx y hy => ?_⟩
      simp at hy
      obtain ⟨p, hp, rfl⟩ := List.mem_map.mp hx
      rcases Nat.lt_or_ge p.1 i with q | q
      · omega
      · exfalso
        rcases Nat.lt_or_ge i p.1 with r | r
        · exact f3 (ih.below p hp i r)
        · have : i = p.1 := by omega
          refine f3 (List.mem_flatMap.mpr ⟨p, hp, by rw [this]; simp⟩)
    · rw [flat_append, List.mem_append]
      rcases List.mem_append.mp hp with q | q
      · exact Or.inl (ih.below p q k hk)
      · rw [List.mem_singleton.mp q] at hk; exact Or.inl (f6 k hk)

theorem flat_length (G : List (Nat × Nat)) : (flat G).length = 2 * G.length := by
  induction G with
  | nil => rfl
  | cons p G ih =>
    have : flat (p :: G) = [p.1, p.2] ++ flat G := rfl
    rw [this, List.length_append, ih]; simp; omega

theorem Part.flat_lt {w : List Int} {G : List (Nat × Nat)} (h : Part w G) : ∀ x ∈ flat G, x < w.length := fun x hx => by
  obtain ⟨p, hp, q⟩ := List.mem_flatMap.mp hx
  obtain ⟨h1, h2, _⟩ := h.facts.lt p hp
  simp at q
  omega

/-- how many sides are left -/
theorem Part.left_length {w : List Int} {G : List (Nat × Nat)} (h : Part w G) : (left w.length G).length + 2 * G.length = w.length := by
  have pm : (left w.length G ++ flat G).Perm (List.range w.length) := by
    rw [List.perm_ext_iff_of_nodup ?_ List.nodup_range]
    · intro x
      rw [List.mem_append, mem_left, List.mem_range]
      constructor
      · rintro (q | q)
        · exact q.1
        · exact h.flat_lt x q
      · intro q
        by_cases c : x ∈ flat G
        · exact Or.inr c
        · exact Or.inl ⟨q, c⟩
    · exact List.nodup_append.mpr ⟨left_nodup _ _, h.facts.nd, fun x hx y hy e => (mem_left.mp hx).2 (e ▸ hy)⟩
  have := pm.length_eq
  rw [List.length_append, List.length_range, flat_length] at this
  exact this

/-- the other side of a pair -/
def partner : List (Nat × Nat) → Nat → Nat
  | [], x => x
  | p :: G, x => if x = p.1 then p.2 else if x = p.2 then p.1 else partner G x

theorem partner_not : ∀ {G : List (Nat × Nat)} {x : Nat}, x ∉ flat G → partner G x = x
  | [], _, _ => rfl
  | p :: G, x, h => by
    have e : flat (p :: G) = p.1 :: p.2 :: flat G := rfl
    rw [e] at h
    simp only [List.mem_cons, not_or] at h
    show (if x = p.1 then _ else _) = _
    rw [if_neg h.1, if_neg h.2.1, partner_not h.2.2]
theorem partner_at : ∀ {G : List (Nat × Nat)}, (flat G).Nodup → ∀ p ∈ G, partner G p.1 = p.2 ∧ partner G p.2 = p.1
  | [], _, p, hp => by simp at hp
  | q :: G, nd, p, hp => by
    have e : flat (q :: G) = q.1 :: q.2 :: flat G := rfl
    rw [e] at nd
    obtain ⟨n1, nd⟩ := List.nodup_cons.mp nd
    obtain ⟨n2, nd⟩ := List.nodup_cons.mp nd
    have u : ∀ x, partner (q :: G) x = if x = q.1 then q.2 else if x = q.2 then q.1 else partner G x := fun _ => rfl
    rcases List.mem_cons.mp hp with rfl | hp
    · constructor
      · rw [u, if_pos rfl]
      · rw [u, if_neg (fun z => n1 (by rw [← z]; simp)), if_pos rfl]
    · have m1 : p.1 ∈ flat G := List.mem_flatMap.mpr ⟨p, hp, by simp⟩
      have m2 : p.2 ∈ flat G := List.mem_flatMap.mpr ⟨p, hp, by simp⟩
      obtain ⟨i1, i2⟩ := partner_at nd p hp
      have a1 : p.1 ≠ q.1 := fun z => n1 (by rw [← z]; simp [m1])
      have a2 : p.2 ≠ q.1 := fun z => n1 (by rw [← z]; simp [m2])
      have a3 : p.1 ≠ q.2 := fun z => n2 (by rw [← z]; exact m1)
      have a4 : p.2 ≠ q.2 := fun z => n2 (by rw [← z]; exact m2)
      exact ⟨by rw [u, if_neg a1, if_neg a3, i1], by rw [u, if_neg a2, if_neg a4, i2]⟩

/-- the number of the corners' classes, of the handles -/
def corners (n : Nat) (G : List (Nat × Nat)) : Nat := cor (List.range n) (partner G)
def sg (n : Nat) (G : List (Nat × Nat)) : Nat → Nat := fun x => (partner G x + 1) % n

theorem ring_range (n : Nat) : ∀ x, x < n → ring (List.range n) x = (x + 1) % n := fun x hx => by
  have nd := List.nodup_range (n := n)
  by_cases c : x + 1 < n
  · have e : List.range n = List.range x ++ x :: (x + 1) :: (List.range (n - x - 2)).map (fun k => x + 2 + k) := by
      have : n = x + 2 + (n - x - 2) := by omega
      conv => lhs; rw [this, List.range_add, List.range_succ, List.range_succ]
      simp
    rw [e] at nd ⊢
    rw [ring_mid _ _ _ _ nd, Nat.mod_eq_of_lt c]
  · have hn : n = x + 1 := by omega
    subst hn
    rw [Nat.mod_self]
    rw [List.range_succ] at nd ⊢
    rw [ring_last _ _ nd]
    cases x with
    | zero => rfl
    | succ x =>
      rw [List.range_succ_eq_map]; rfl

section
variable {w : List Int} {G : List (Nat × Nat)}
theorem IsGl.mem (h : IsGl w G) {x : Nat} (hx : x < w.length) : x ∈ flat G := by
  refine Decidable.byContradiction fun c => ?_
  have : x ∈ left w.length G := mem_left.mpr ⟨hx, c⟩
  rw [h.2] at this
  simp at this
theorem IsGl.pair (h : IsGl w G) {x : Nat} (hx : x < w.length) : partner G x < w.length ∧ partner G (partner G x) = x ∧ w.getD (partner G x) 0 = - w.getD x 0 ∧ partner G x ≠ x := by
  obtain ⟨p, hp, q⟩ := List.mem_flatMap.mp (h.mem hx)
  obtain ⟨i1, i2⟩ := partner_at h.1.facts.nd p hp
  obtain ⟨l1, l2, l3⟩ := h.1.facts.lt p hp
  simp at q
  rcases q with q | q
  · subst q; rw [i1, i2]; exact ⟨l2, rfl, l3, by omega⟩
  · subst q; rw [i2, i1]; exact ⟨by omega, rfl, by omega, by omega⟩
theorem IsGl.length (h : IsGl w G) : 2 * G.length = w.length := by
  have := h.1.left_length
  rw [h.2] at this
  simpa using this
theorem IsGl.labelled (h : IsGl w G) (h0 : ∀ x ∈ w, x ≠ 0) : Gl ((List.range w.length).map fun i => (i, w.getD i 0)) (partner G) := by
  refine ⟨?_, fun p hp => ?_⟩
  · rw [List.map_map]
    have : ((fun p : Nat × Int => p.1) ∘ fun i => (i, w.getD i 0)) = id := rfl
    rw [this, List.map_id]
    exact List.nodup_range
  · obtain ⟨i, hi, rfl⟩ := List.mem_map.mp hp
    have hi := List.mem_range.mp hi
    obtain ⟨h1, h2, h3, _⟩ := h.pair hi
    refine ⟨?_, List.mem_map.mpr ⟨_, List.mem_range.mpr h1, ?_⟩, h2⟩
    · refine h0 _ ?_
      show w.getD i 0 ∈ w
      rw [List.getD_eq_getElem?_getD, List.getElem?_eq_getElem hi]
      exact List.getElem_mem hi
    · show (partner G i, w.getD (partner G i) 0) = (partner G i, - w.getD i 0)
      rw [h3]
theorem labels_range (w : List Int) : ((List.range w.length).map fun i => (i, w.getD i 0)).map (·.1) = List.range w.length := by
  rw [List.map_map]
  have : ((fun p : Nat × Int => p.1) ∘ fun i => (i, w.getD i 0)) = id := rfl
  rw [this, List.map_id]
theorem letters_range (w : List Int) : ((List.range w.length).map fun i => (i, w.getD i 0)).map (·.2) = w := by
  rw [List.map_map]
  refine List.ext_getElem (by simp) fun i h1 h2 => ?_
  simp [h2]
theorem IsGl.permOn (h : IsGl w G) : PermOn (List.range w.length) (partner G) :=
  ⟨List.nodup_range, fun x hx => List.mem_range.mpr (h.pair (List.mem_range.mp hx)).1, fun x hx y hy e => by
    rw [← (h.pair (List.mem_range.mp hx)).2.1, e, (h.pair (List.mem_range.mp hy)).2.1]⟩
theorem IsGl.ring_eq (h : IsGl w G) : ∀ x ∈ List.range w.length, ring (List.range w.length) (partner G x) = sg w.length G x := fun x hx =>
  ring_range _ _ (h.pair (List.mem_range.mp hx)).1
theorem IsGl.sg_perm (h : IsGl w G) : PermOn (List.range w.length) (sg w.length G) := ((ring_permOn _ List.nodup_range).comp h.permOn).congr h.ring_eq
theorem IsGl.corners_eq (h : IsGl w G) (hw : w ≠ []) : cyc (List.range w.length) (sg w.length G) = corners w.length G := by
  unfold corners cor
  have : List.range w.length ≠ [] := by
    intro e
    have := congrArg List.length e
    simp at this
    exact hw this
  rw [if_neg this]
  exact (cyc_congr _ _ _ h.ring_eq).symm

/-- twice the handles: pairs + 1 - corners -/
theorem IsGl.even (h : IsGl w G) (h0 : ∀ x ∈ w, x ≠ 0) : corners w.length G ≤ G.length + 1 ∧ corners w.length G % 2 = (G.length + 1) % 2 := by
  obtain ⟨p, hp, h1, h2⟩ := (h.labelled h0).even
  rw [labels_range] at h1 h2
  rw [List.length_map, List.length_range] at hp
  have := h.length
  have e : p = G.length := by omega
  subst e
  exact ⟨h1, h2⟩
def handles (n : Nat) (G : List (Nat × Nat)) : Nat := (n / 2 + 1 - corners n G) / 2
theorem IsGl.handles2 (h : IsGl w G) (h0 : ∀ x ∈ w, x ≠ 0) : 2 * handles w.length G + corners w.length G = G.length + 1 := by
  obtain ⟨h1, h2⟩ := h.even h0
  have := h.length
  unfold handles
  omega
theorem IsGl.has (h : IsGl w G) (h0 : ∀ x ∈ w, x ≠ 0) : Tw.has w (2 * handles w.length G) := by
  refine ⟨_, _, letters_range w, h.labelled h0, ?_⟩
  rw [labels_range]
  have := h.handles2 h0
  have := h.length
  unfold corners at *
  omega
end

/-- a pairing of the places, told pair by pair -/
theorem build {w : List Int} {al : Nat → Nat} (hal : ∀ x, x < w.length → al x < w.length ∧ al (al x) = x ∧ al x ≠ x ∧ w.getD (al x) 0 = - w.getD x 0) :
    ∀ (m : Nat) (G : List (Nat × Nat)), (left w.length G).length = m → Part w G → (∀ p ∈ G, al p.1 = p.2 ∧ al p.2 = p.1) → ∃ K, IsGl w K ∧ ∀ p ∈ K, al p.1 = p.2 ∧ al p.2 = p.1 := by
  intro m
  induction m using Nat.strongRecOn with
  | ind m ih =>
    intro G hm hG hp
    cases e : left w.length G with
    | nil => exact ⟨G, ⟨hG, e⟩, hp⟩
    | cons i rest =>
      have mi := (mem_left (n := w.length) (G := G) (i := i)).mp (by rw [e]; simp)
      obtain ⟨h1, h2, h3, h4⟩ := hal i mi.1
      have hj : al i ∈ rest := by
        have : al i ∈ left w.length G := mem_left.mpr ⟨h1, fun q => by
          obtain ⟨p, hpG, hq⟩ := List.mem_flatMap.mp q
          obtain ⟨a1, a2⟩ := hp p hpG
          simp at hq
          rcases hq with hq | hq
          · have : i = p.2 := by rw [← h2, hq, a1]
            exact mi.2 (List.mem_flatMap.mpr ⟨p, hpG, by rw [this]; simp⟩)
          · have : i = p.1 := by rw [← h2, hq, a2]
            exact mi.2 (List.mem_flatMap.mpr ⟨p, hpG, by rw [this]; simp⟩)⟩
        rw [e] at this
        exact (List.mem_cons.mp this).resolve_left h3
      have hN : Next w G i (al i) := ⟨rest, e, hj, h4⟩
      have hG' : Part w (G ++ [(i, al i)]) := .more hG hN
      have l1 := hG.left_length
      have l2 := hG'.left_length
      rw [List.length_append, List.length_singleton] at l2
      refine ih _ (by omega) (G ++ [(i, al i)]) rfl hG' fun p hpG => ?_
      rcases List.mem_append.mp hpG with q | q
      · exact hp p q
      · rw [List.mem_singleton.mp q]; exact ⟨rfl, h2⟩

theorem exists_gl {w : List Int} {k : Nat} (h : has w k) (h0 : ∀ x ∈ w, x ≠ 0) : ∃ G, IsGl w G ∧ 2 * handles w.length G ≤ k := by
  obtain ⟨W, al, e, g, l⟩ := h
  have hlen : W.length = w.length := by rw [← e, List.length_map]
  -- places and labels
  let L := W.map (·.1)
  have hL : L.length = w.length := by rw [List.length_map, hlen]
  let f : Nat → Nat := fun i => L.getD i 0
  let al' : Nat → Nat := fun i => L.idxOf (al (f i))
  have fm : ∀ i, i < w.length → f i ∈ L := fun i hi => by
    show L.getD i 0 ∈ L
    rw [List.getD_eq_getElem?_getD, List.getElem?_eq_getElem (by omega)]
    exact List.getElem_mem _
  have fi : ∀ x, x ∈ L → L.idxOf x < w.length ∧ f (L.idxOf x) = x := fun x hx => by
    have h1 := List.idxOf_lt_length_of_mem hx
    refine ⟨by omega, ?_⟩
    show L.getD _ 0 = x
    rw [List.getD_eq_getElem?_getD, List.getElem?_eq_getElem h1]
    exact List.getElem_idxOf h1
  have finj : ∀ x, x < w.length → ∀ y, y < w.length → f x = f y → x = y := fun x hx y hy q => by
    have q : L.getD x 0 = L.getD y 0 := q
    rw [List.getD_eq_getElem?_getD, List.getD_eq_getElem?_getD, List.getElem?_eq_getElem (by omega), List.getElem?_eq_getElem (by omega)] at q
    exact (List.getElem_inj g.nd).mp q
  have alm : ∀ x, x ∈ L → al x ∈ L ∧ al (al x) = x ∧ al x ≠ x := fun x hx => g.at hx
  have fal : ∀ i, i < w.length → f (al' i) = al (f i) := fun i hi => (fi _ (alm _ (fm i hi)).1).2
  have alt : ∀ i, i < w.length → al' i < w.length := fun i hi => (fi _ (alm _ (fm i hi)).1).1
  have lett : ∀ i, i < w.length → (f i, w.getD i 0) ∈ W := fun i hi => by
    have h1 : i < W.length := by omega
    have e1 : f i = W[i].1 := by
      show L.getD i 0 = _
      rw [List.getD_eq_getElem?_getD, List.getElem?_eq_getElem (by omega)]
      simp [L]
    have e2 : w.getD i 0 = W[i].2 := by
      rw [List.getD_eq_getElem?_getD]
      simp only [← e]
      rw [List.getElem?_map, List.getElem?_eq_getElem h1]; rfl
    rw [e1, e2]
    exact List.getElem_mem h1
  have hal : ∀ x, x < w.length → al' x < w.length ∧ al' (al' x) = x ∧ al' x ≠ x ∧ w.getD (al' x) 0 = - w.getD x 0 := fun x hx => by
    have h1 := alt x hx
    refine ⟨h1, ?_, fun q => ?_, ?_⟩
    · refine finj _ (alt _ h1) _ hx ?_
      rw [fal _ h1, fal _ hx, (alm _ (fm x hx)).2.1]
    · have := fal x hx
      rw [q] at this
      exact (alm _ (fm x hx)).2.2 this.symm
    · have a := lett _ h1
      rw [fal x hx] at a
      have b := (g.ok _ (lett x hx)).2.1
      exact fst_unique g.nd a b
  obtain ⟨G, hG, hp⟩ := build hal _ [] rfl .nil fun p hp => by simp at hp
  refine ⟨G, hG, ?_⟩
  have pe : ∀ x, x < w.length → partner G x = al' x := fun x hx => by
    obtain ⟨p, hpG, q⟩ := List.mem_flatMap.mp (hG.mem hx)
    obtain ⟨i1, i2⟩ := partner_at hG.1.facts.nd p hpG
    obtain ⟨a1, a2⟩ := hp p hpG
    simp at q
    rcases q with q | q
    · subst q; rw [i1, a1]
    · subst q; rw [i2, a2]
  have hc : corners w.length G = cor L al := by
    unfold corners cor
    by_cases hw : w.length = 0
    · have e1 : L = [] := List.eq_nil_of_length_eq_zero (by omega)
      rw [hw, e1, if_pos rfl]; rfl
    · have e1 : L ≠ [] := fun q => hw (by rw [← hL, q]; rfl)
      have e2 : List.range w.length ≠ [] := fun q => hw (by have := congrArg List.length q; simpa using this)
      rw [if_neg e1, if_neg e2]
      have eL : L = (List.range w.length).map f := by
        refine List.ext_getElem (by simp [hL]) fun i h1 h2 => ?_
        simp only [List.getElem_map, List.getElem_range]
        show L[i] = L.getD i 0
        rw [List.getD_eq_getElem?_getD, List.getElem?_eq_getElem h1]; rfl
      have hP := (ring_permOn _ List.nodup_range).comp hG.permOn
      have key := cyc_map (f := f) (List.range w.length) (fun x => ring (List.range w.length) (partner G x)) (fun x => ring L (al x)) hP.maps
        (fun x hx y hy => finj x (List.mem_range.mp hx) y (List.mem_range.mp hy)) hP fun x hx => by
          have hx := List.mem_range.mp hx
          have h1 := alt x hx
          show ring L (al (f x)) = f (ring (List.range w.length) (partner G x))
          rw [pe x hx, ← fal x hx]
          -- ring of the labels
          have nm : ∀ (R : List Nat) (d y : Nat), (∀ a ∈ R, a < w.length) → y < w.length → nx (R.map f) (f d) (f y) = f (nx R d y) := fun R d y => by
            induction R with
            | nil => intro _ _; rfl
            | cons a R ih =>
              intro hR hy
              have ha := hR a List.mem_cons_self
              show (if f y = f a then (R.map f).headD (f d) else nx (R.map f) (f d) (f y)) = f (if y = a then R.headD d else nx R d y)
              by_cases c : y = a
              · rw [if_pos (by rw [c]), if_pos c]
                cases R <;> rfl
              · rw [if_neg (fun q => c (finj y hy a ha q)), if_neg c]
                exact ih (fun b hb => hR b (List.mem_cons_of_mem _ hb)) hy
          unfold ring
          have hd : L.headD 0 = f ((List.range w.length).headD 0) := by
            conv => lhs; rw [eL]
            cases q : List.range w.length with
            | nil => exact absurd q e2
            | cons a R => rfl
          rw [hd]
          conv => lhs; rw [eL]
          exact nm _ _ _ (fun a ha => List.mem_range.mp ha) h1
      rw [← eL] at key
      exact key.symm
  have h2 := hG.handles2 h0
  have h3 := hG.length
  rw [hc] at h2
  have h4 : cor L al = cor (W.map (·.1)) al := rfl
  rw [h4] at h2
  omega

/-- the least number of handles -/
structure Least (w : List Int) (h : Nat) : Prop where
  some : ∃ G, IsGl w G ∧ handles w.length G = h
  le : ∀ G, IsGl w G → h ≤ handles w.length G

theorem Least.iff {w : List Int} {h : Nat} (L : Least w h) (h0 : ∀ x ∈ w, x ≠ 0) (k : Nat) : has w k ↔ 2 * h ≤ k := by
  constructor
  · intro q
    obtain ⟨G, hG, hk⟩ := exists_gl q h0
    have := L.le G hG
    omega
  · intro q
    obtain ⟨G, hG, e⟩ := L.some
    have := hG.has h0
    rw [e] at this
    exact this.mono q
theorem Least.zero {w : List Int} {h : Nat} (L : Least w h) (h0 : ∀ x ∈ w, x ≠ 0) (hs : Short w) : h = 0 ↔ w = [] := by
  constructor
  · intro e
    refine Decidable.byContradiction fun c => ?_
    have := has_short hs c ((L.iff h0 0).mpr (by omega))
    omega
  · intro e
    subst e
    have := (L.iff h0 0).mp (has_nil 0)
    omega
theorem Least.eq {w w' : List Int} {h h' : Nat} (L : Least w h) (L' : Least w' h') (h0 : ∀ x ∈ w, x ≠ 0) (h0' : ∀ x ∈ w', x ≠ 0) (e : ∀ k, has w k ↔ has w' k) : h = h' := by
  have a := (L'.iff h0' _).mp ((e _).mp ((L.iff h0 _).mpr (Nat.le_refl _)))
  have b := (L.iff h0 _).mp ((e _).mpr ((L'.iff h0' _).mpr (Nat.le_refl _)))
  omega

/-! ### the law's rows -/
section
variable {due one other about : List Int}
def comm (x y : List Int) : List Int := x ++ y ++ opp x ++ opp y
theorem nz_opp {u : List Int} (h : ∀ x ∈ u, x ≠ 0) : ∀ x ∈ opp u, x ≠ 0 := fun x hx e => h (-x) (mem_opp.mp hx) (by omega)
theorem nz_app {u v : List Int} (h : ∀ x ∈ u, x ≠ 0) (k : ∀ x ∈ v, x ≠ 0) : ∀ x ∈ u ++ v, x ≠ 0 := fun x hx => (List.mem_append.mp hx).elim (h x) (k x)
theorem nz_red {u : List Int} (h : ∀ x ∈ u, x ≠ 0) : ∀ x ∈ red u, x ≠ 0 := fun x hx => h x (red_mem hx)
theorem nz_comm {x y : List Int} (hx : ∀ z ∈ x, z ≠ 0) (hy : ∀ z ∈ y, z ≠ 0) : ∀ z ∈ comm x y, z ≠ 0 := nz_app (nz_app (nz_app hx hy) (nz_opp hx)) (nz_opp hy)

/-- a product of k commutators -/
inductive Prod : Nat → List Int → Prop
  | nil : Prod 0 []
  | more {k w x y} : Prod k w → (∀ z ∈ x, z ≠ 0) → (∀ z ∈ y, z ≠ 0) → Prod (k + 1) (w ++ x ++ y ++ opp x ++ opp y)
theorem Prod.nz {k : Nat} {w : List Int} (h : Prod k w) : ∀ x ∈ w, x ≠ 0 := by
  induction h with
  | nil => intro x hx; simp at hx
  | more _ hx hy ih => exact nz_app (nz_app (nz_app (nz_app ih hx) hy) (nz_opp hx)) (nz_opp hy)
theorem Prod.has {k : Nat} {w : List Int} (h : Prod k w) : Tw.has w (2 * k) := by
  induction h with
  | nil => exact has_nil _
  | more _ hx hy ih => exact has_comm_more hx hy ih
theorem Prod.ex {k : Nat} {w : List Int} (h : Prod k w) (a : Int) : Tw.ex a w = 0 := by
  induction h with
  | nil => rfl
  | more _ _ _ ih => rw [ex_comm]; exact ih
/-- each has a gluing -/
theorem gl_of_has {w : List Int} {k : Nat} (h : has w k) (h0 : ∀ x ∈ w, x ≠ 0) : ∃ G, IsGl (red w) G := by
  obtain ⟨G, hG, _⟩ := exists_gl ((has_red h0 k).mpr h) (nz_red h0)
  exact ⟨G, hG⟩
theorem Least.le_of_has {w : List Int} {h k : Nat} (L : Least (red w) h) (h0 : ∀ x ∈ w, x ≠ 0) (q : Tw.has w (2 * k)) : h ≤ k := by
  have := (L.iff (nz_red h0) _).mp ((has_red h0 _).mpr q)
  omega
theorem Least.has {w : List Int} {h : Nat} (L : Least (red w) h) (h0 : ∀ x ∈ w, x ≠ 0) : Tw.has w (2 * h) := (has_red h0 _).mp ((L.iff (nz_red h0) _).mpr (Nat.le_refl _))
/-- the products' handles, one after another -/
theorem prod_step {k : Nat} {w x y : List Int} {h h' : Nat} (hw : Prod k w) (hx : ∀ z ∈ x, z ≠ 0) (hy : ∀ z ∈ y, z ≠ 0) (L : Least (red w) h) (L' : Least (red (w ++ x ++ y ++ opp x ++ opp y)) h') :
    h' ≤ k + 1 ∧ h' ≤ h + 1 ∧ h ≤ h' + 1 := by
  have hw' := Prod.more hw hx hy
  refine ⟨L'.le_of_has hw'.nz hw'.has, L'.le_of_has hw'.nz ?_, L.le_of_has hw.nz ?_⟩
  · exact has_comm_more hx hy (L.has hw.nz)
  · exact has_comm_less hx hy (L'.has hw'.nz)
theorem opp_same {w : List Int} {h h' : Nat} (h0 : ∀ x ∈ w, x ≠ 0) (L : Least (red w) h) (L' : Least (red (opp w)) h') : h' = h := by
  refine (L.eq L' (nz_red h0) (nz_red (nz_opp h0)) fun k => ?_).symm
  rw [has_red h0, has_red (nz_opp h0), has_opp_iff]
theorem conj_same {w u : List Int} {h h' : Nat} (h0 : ∀ x ∈ w, x ≠ 0) (hu : ∀ x ∈ u, x ≠ 0) (L : Least (red w) h) (L' : Least (red (u ++ w ++ opp u)) h') : h' = h := by
  have hn := nz_app (nz_app hu h0) (nz_opp hu)
  refine (L.eq L' (nz_red h0) (nz_red hn) fun k => ?_).symm
  rw [has_red h0, has_red hn, has_conj hu]
end
end Tw
end

-- text TwProg2
section
/-! More of the gluings: the joined pairs, the search's stack. -/
namespace Tw

/-- what corners joins -/
def prs (n : Nat) (G : List (Nat × Nat)) : List (Nat × Nat) := G.flatMap fun p => [(p.1, (p.2 + 1) % n), ((p.1 + 1) % n, p.2)]
theorem prs_snoc (n : Nat) (G : List (Nat × Nat)) (p : Nat × Nat) : prs n (G ++ [p]) = (prs n G ++ [(p.1, (p.2 + 1) % n)]) ++ [((p.1 + 1) % n, p.2)] := by
  simp [prs]
theorem prs_conn {w : List Int} {G : List (Nat × Nat)} (h : IsGl w G) (x y : Nat) : Cl (prs w.length G) x y ↔ Conn w.length (sg w.length G) x y := by
  have nd := h.1.facts.nd
  constructor
  · intro c
    induction c with
    | refl => exact .refl _
    | @gen x y hp =>
      obtain ⟨p, hpG, q⟩ := List.mem_flatMap.mp hp
      obtain ⟨l1, l2, _⟩ := h.1.facts.lt p hpG
      obtain ⟨i1, i2⟩ := partner_at nd p hpG
      simp only [List.mem_cons, List.not_mem_nil, or_false, Prod.mk.injEq] at q
      rcases q with ⟨rfl, rfl⟩ | ⟨rfl, rfl⟩
      · have : sg w.length G p.1 = (p.2 + 1) % w.length := by unfold sg; rw [i1]
        rw [← this]; exact .step (by omega)
      · have : sg w.length G p.2 = (p.1 + 1) % w.length := by unfold sg; rw [i2]
        rw [← this]; exact .symm (.step (by omega))
    | symm _ ih => exact ih.symm
    | trans _ _ ih1 ih2 => exact ih1.trans ih2
  · intro c
    induction c with
    | refl => exact .refl _
    | @step x hx =>
      obtain ⟨p, hpG, q⟩ := List.mem_flatMap.mp (h.mem hx)
      obtain ⟨i1, i2⟩ := partner_at nd p hpG
      simp at q
      rcases q with rfl | rfl
      · have : sg w.length G p.1 = (p.2 + 1) % w.length := by unfold sg; rw [i1]
        rw [this]
        exact .gen (List.mem_flatMap.mpr ⟨p, hpG, by simp⟩)
      · have : sg w.length G p.2 = (p.1 + 1) % w.length := by unfold sg; rw [i2]
        rw [this]
        exact .symm (.gen (List.mem_flatMap.mpr ⟨p, hpG, by simp⟩))
    | symm _ ih => exact ih.symm
    | trans _ _ ih1 ih2 => exact ih1.trans ih2
theorem roots_corners {w : List Int} {G : List (Nat × Nat)} (h : IsGl w G) (hw : w ≠ []) {ab l : List Nat} (u : UF w.length ab (prs w.length G)) (nd : l.Nodup) (hl : ∀ x, x ∈ l ↔ x < w.length ∧ rt ab x = x) : l.length = corners w.length G := by
  rw [u.count h.sg_perm (prs_conn h) nd hl, h.corners_eq hw]
theorem walk_corners {w : List Int} {G : List (Nat × Nat)} (h : IsGl w G) (hw : w ≠ []) {seen l : List Nat} (u : Seen w.length (sg w.length G) w.length seen l) : l.length = corners w.length G := by
  rw [u.count h.sg_perm, h.corners_eq hw]

theorem take_succ {α : Type} {l : List α} {i : Nat} {x : α} (h : l[i]? = some x) : l.take (i + 1) = l.take i ++ [x] := by
  rw [List.take_add_one, h]; rfl

/-! ### the search -/
/-- how many turns a part with m sides left takes at most -/
def wt : Nat → Nat
  | 0 => 1
  | 1 => 1
  | m + 2 => 1 + (m + 1) * wt m
theorem wt_pos : ∀ m, 0 < wt m
  | 0 => Nat.one_pos
  | 1 => Nat.one_pos
  | m + 2 => by unfold wt; omega
def wsum (n : Nat) (S : List (List (Nat × Nat))) : Nat := (S.map fun G => wt (left n G).length).sum
theorem wsum_append (n : Nat) (S T : List (List (Nat × Nat))) : wsum n (S ++ T) = wsum n S + wsum n T := by simp [wsum]
theorem wsum_len (n : Nat) (S : List (List (Nat × Nat))) : S.length ≤ wsum n S := by
  induction S with
  | nil => exact Nat.le_refl _
  | cons G S ih =>
    have e : wsum n (G :: S) = wt (left n G).length + wsum n S := by simp [wsum]
    have := wt_pos (left n G).length
    rw [List.length_cons, e]; omega
theorem wsum_const (n c : Nat) : ∀ (S : List (List (Nat × Nat))), (∀ G ∈ S, (left n G).length = c) → wsum n S = S.length * wt c
  | [], _ => by simp [wsum]
  | G :: S, h => by
    have e : wsum n (G :: S) = wt (left n G).length + wsum n S := by simp [wsum]
    rw [e, h G List.mem_cons_self, wsum_const n c S fun K hK => h K (List.mem_cons_of_mem _ hK), List.length_cons, Nat.add_mul, Nat.one_mul]; omega
theorem wt_12 : ∀ n, n ≤ 12 → wt n ≤ 30000 := by decide

/-- the parts that follow one with sides left -/
def nexts (w : List Int) (G : List (Nat × Nat)) (i : Nat) (js : List Nat) : List (List (Nat × Nat)) := (js.filter fun j => decide (w.getD j 0 = - w.getD i 0)).map fun j => G ++ [(i, j)]
theorem nexts_snoc (w : List Int) (G : List (Nat × Nat)) (i : Nat) (js : List Nat) (j : Nat) : nexts w G i (js ++ [j]) = if w.getD j 0 = - w.getD i 0 then nexts w G i js ++ [G ++ [(i, j)]] else nexts w G i js := by
  unfold nexts
  rw [List.filter_append, List.map_append]
  by_cases c : w.getD j 0 = - w.getD i 0
  · rw [if_pos c]
    have : [j].filter (fun j => decide (w.getD j 0 = - w.getD i 0)) = [j] := by rw [List.filter_cons, if_pos (decide_eq_true c)]; rfl
    rw [this]; rfl
  · rw [if_neg c]
    have : [j].filter (fun j => decide (w.getD j 0 = - w.getD i 0)) = [] := by rw [List.filter_cons, if_neg (by rw [decide_eq_false c]; exact Bool.false_ne_true)]; rfl
    rw [this]; simp
theorem nexts_part {w : List Int} {G : List (Nat × Nat)} {i : Nat} {rest : List Nat} (hG : Part w G) (hl : left w.length G = i :: rest) : ∀ K ∈ nexts w G i rest.reverse, Part w K ∧ (left w.length K).length + 2 = (left w.length G).length := fun K hK => by
  obtain ⟨j, hj, rfl⟩ := List.mem_map.mp hK
  obtain ⟨h1, h2⟩ := List.mem_filter.mp hj
  have hN : Next w G i j := ⟨rest, hl, List.mem_reverse.mp h1, of_decide_eq_true h2⟩
  have hp := Part.more hG hN
  refine ⟨hp, ?_⟩
  have a := hG.left_length
  have b := hp.left_length
  rw [List.length_append, List.length_singleton] at b
  omega
theorem wsum_nexts {w : List Int} {G : List (Nat × Nat)} {i : Nat} {rest : List Nat} (hG : Part w G) (hl : left w.length G = i :: rest) : wsum w.length (nexts w G i rest.reverse) + 1 ≤ wt (left w.length G).length := by
  have hlen : (left w.length G).length = rest.length + 1 := by rw [hl]; rfl
  cases hr : rest.length with
  | zero =>
    have : rest = [] := List.eq_nil_of_length_eq_zero hr
    subst this
    have e : nexts w G i [].reverse = [] := rfl
    rw [e, hlen]
    have := wt_pos (([] : List Nat).length + 1)
    simp [wsum, wt]
  | succ m =>
    rw [wsum_const w.length m _ fun K hK => by have := (nexts_part hG hl K hK).2; omega, hlen, hr]
    have hl2 : (nexts w G i rest.reverse).length ≤ m + 1 := by
      unfold nexts
      rw [List.length_map]
      have := List.length_filter_le (fun j => decide (w.getD j 0 = - w.getD i 0)) rest.reverse
      rw [List.length_reverse, hr] at this
      exact this
    have := Nat.mul_le_mul_right (wt m) hl2
    show _ ≤ 1 + (m + 1) * wt m
    omega
/-- behind some turns: every gluing is out, or some part of it waits -/
def Cover (w : List Int) (out S : List (List (Nat × Nat))) : Prop := ∀ K, IsGl w K → K ∈ out ∨ ∃ G ∈ S, ∃ R, K = G ++ R
theorem Cover.start (w : List Int) : Cover w [] [[]] := fun K _ => .inr ⟨[], by simp, K, rfl⟩
theorem Cover.pop_full {w : List Int} {out S : List (List (Nat × Nat))} {G : List (Nat × Nat)} (h : Cover w out (S ++ [G])) (hl : left w.length G = []) : Cover w (out ++ [G]) S := fun K hK => by
  rcases h K hK with q | ⟨G', hG', R, e⟩
  · exact .inl (List.mem_append_left _ q)
  · rcases List.mem_append.mp hG' with z | z
    · exact .inr ⟨G', z, R, e⟩
    · have e2 : G' = G := List.mem_singleton.mp z
      subst e2
      cases R with
      | nil => exact .inl (by rw [e]; simp)
      | cons p R =>
        exfalso
        obtain ⟨_, rest, hr, _⟩ := hK.1.prefix e
        rw [hl] at hr
        cases hr
theorem Cover.pop_more {w : List Int} {out S : List (List (Nat × Nat))} {G : List (Nat × Nat)} {i : Nat} {rest : List Nat} (h : Cover w out (S ++ [G])) (hl : left w.length G = i :: rest) : Cover w out (S ++ nexts w G i rest.reverse) := fun K hK => by
  rcases h K hK with q | ⟨G', hG', R, e⟩
  · exact .inl q
  · rcases List.mem_append.mp hG' with z | z
    · exact .inr ⟨G', List.mem_append_left _ z, R, e⟩
    · have e2 : G' = G := List.mem_singleton.mp z
      subst e2
      cases R with
      | nil =>
        exfalso
        have := hK.2
        rw [e, List.append_nil, hl] at this
        cases this
      | cons p R =>
        obtain ⟨_, rest', hr, hj, hw⟩ := hK.1.prefix e
        rw [hl] at hr
        injection hr with h1 h2
        subst h1 h2
        refine .inr ⟨G' ++ [(p.1, p.2)], List.mem_append_right _ (List.mem_map.mpr ⟨p.2, List.mem_filter.mpr ⟨List.mem_reverse.mpr hj, decide_eq_true hw⟩, rfl⟩), R, ?_⟩
        rw [e]; simp
theorem Cover.done {w : List Int} {out : List (List (Nat × Nat))} (h : Cover w out []) : ∀ K, IsGl w K → K ∈ out := fun K hK => by
  rcases h K hK with q | ⟨G, hG, _⟩
  · exact q
  · simp at hG
theorem Part.empty (w : List Int) : Part w [] := .nil
end Tw
end

-- text TwTop
section
set_option Elab.async false
set_option linter.all false
set_option maxRecDepth 100000
set_option maxHeartbeats 4000000
/-! The text by places; what stands in the heap. -/
namespace K94
open PySem PySem.Spec PyProof.Rows L2
abbrev St := L2.St
def topS (i : Nat) : Stmt := PySem.Challenge.pw_twiceeach_k94_whole_products_of_commutat.main.body.getD i (.Pass ⟨0, 0, 0, 0⟩)
abbrev sLotsInit : Stmt := inClass (topS 7) 0
abbrev sRoot : Stmt := inClass (topS 7) 1
abbrev sGlue : Stmt := inClass (topS 7) 2
abbrev sClasses : Stmt := inClass (topS 7) 4
abbrev sLeft : Stmt := topS 9
abbrev sGluings : Stmt := topS 10
abbrev sCorners : Stmt := topS 11
abbrev sHandles : Stmt := topS 12
abbrev sFirst : Stmt := topS 15
abbrev sLeast : Stmt := topS 16
abbrev sBest : Stmt := topS 17
abbrev sShort : Stmt := topS 21
abbrev sOpp : Stmt := topS 22
abbrev sWordInit : Stmt := inClass (topS 23) 0
abbrev sMul : Stmt := inClass (topS 23) 1
abbrev sInv : Stmt := inClass (topS 23) 2
abbrev sLen : Stmt := inClass (topS 23) 5
abbrev sComm : Stmt := inClass (topS 23) 7
abbrev sBal : Stmt := inClass (topS 23) 8
abbrev sCell : Stmt := topS 25
abbrev sDraws : Stmt := topS 26
abbrev sSame : Stmt := topS 27
abbrev sIsNum : Stmt := topS 28
abbrev sSigned : Stmt := topS 29
abbrev sLShort : Stmt := topS 30
abbrev sLOpp : Stmt := topS 31
abbrev sLCor : Stmt := topS 32
abbrev sFed : Stmt := topS 33
abbrev sSizes : Stmt := topS 34
abbrev sRight : Stmt := topS 35
abbrev sLHan : Stmt := topS 36
abbrev sLLeast : Stmt := topS 37
abbrev sRefus : Stmt := topS 38
abbrev sLaw : Stmt := topS 39

/-! ### values -/
def iv (ab : List Nat) : List V := ab.map fun (k : Nat) => V.int (k : Int)
def lv (w : List Int) : List V := w.map V.int
theorem iv_lv (ab : List Nat) : iv ab = lv (ab.map fun (k : Nat) => (k : Int)) := by simp [iv, lv]
theorem iv_length (ab : List Nat) : (iv ab).length = ab.length := by simp [iv]
theorem lv_length (ab : List Int) : (lv ab).length = ab.length := by simp [lv]
theorem iv_at {ab : List Nat} {x : Nat} (hx : x < ab.length) : atI (iv ab) (x : Int) = some (V.int ((ab.getD x x : Nat) : Int)) := by
  have : (iv ab)[x]? = some (V.int ((ab.getD x x : Nat) : Int)) := by
    unfold iv
    rw [List.getElem?_map, List.getElem?_eq_getElem hx, List.getD_eq_getElem?_getD, List.getElem?_eq_getElem hx]; rfl
  first | exact atI_nat this | (unfold atI; simpa using this)
theorem iv_set (ab : List Nat) (i x : Nat) : (iv ab).set i (.int (x : Int)) = iv (ab.set i x) := by
  unfold iv; rw [List.map_set]

/-- the fields of a Lots, of a Word -/
def pfA (l : Addr) : List (Str × V) := putF "above" (.ref l) []
theorem pfA_above (l : Addr) : (pfA l).lookup ("above" : Str) = some (.ref l) := by
  unfold pfA; rw [lookup_putF, if_pos rfl]
theorem pfA_no (l : Addr) {m : Str} (h : ¬ m = "above") : (pfA l).lookup m = none := by
  unfold pfA; rw [lookup_putF, if_neg h]; rfl
def pfL (l : Addr) : List (Str × V) := putF "letters" (.ref l) []
theorem pfL_letters (l : Addr) : (pfL l).lookup ("letters" : Str) = some (.ref l) := by
  unfold pfL; rw [lookup_putF, if_pos rfl]
theorem pfL_no (l : Addr) {m : Str} (h : ¬ m = "letters") : (pfL l).lookup m = none := by
  unfold pfL; rw [lookup_putF, if_neg h]; rfl

/-- an object of the class Lots at p with its table -/
def LotsAt (C : Addr) (H : Hp) (p l : Addr) (ab : List Nat) : Prop := ∃ dx, H p = some (.ins C dx (pfA l)) ∧ H l = some (.lst (iv ab))
/-- a Word at p -/
def WordAt (C : Addr) (H : Hp) (p : Addr) (w : List Int) : Prop := ∃ dx t o, H p = some (.ins C dx (pfL t)) ∧ H t = some (.frz o (.tup (lv w))) ∧ o.dict = none
/-- a tuple of an exact kind -/
def TupF (H : Hp) (t : Addr) (xs : List V) : Prop := ∃ o, H t = some (.frz o (.tup xs)) ∧ o.dict = none
theorem SqT.ofF {K : PySem.W.Frag} {H : Hp} {t : Addr} {o : Obj} {xs : List V} (h : H t = some (.frz o (.tup xs))) : SqT K H t xs := .inl (.inr ⟨o, h⟩)
theorem same_sq {K : PySem.W.Frag} {H H' : Hp} {a : Addr} {xs : List V} (s : Same H H') (h : SqT K H a xs) : SqT K H' a xs := by
  rcases h with h | h
  · rcases h with h | ⟨o, h⟩
    · exact .inl (.inl (s _ _ h))
    · exact .inl (.inr ⟨o, s _ _ h⟩)
  · exact .inr h
theorem WordAt.same {C : Addr} {H H' : Hp} {p : Addr} {w : List Int} (s : Same H H') (h : WordAt C H p w) : WordAt C H' p w := by
  obtain ⟨dx, t, o, h1, h2, h3⟩ := h
  exact ⟨dx, t, o, s _ _ h1, s _ _ h2, h3⟩
def PairsAt (H : Hp) : List V → List (Nat × Nat) → Prop
  | [], [] => True
  | .ref a :: xs, p :: G => H a = some (.tup [.int (p.1 : Int), .int (p.2 : Int)]) ∧ PairsAt H xs G
  | _, _ => False
/-- a gluing: a tuple of pairs -/
def GluAt (H : Hp) (g : Addr) (G : List (Nat × Nat)) : Prop := ∃ xs, H g = some (.tup xs) ∧ PairsAt H xs G
/-- what the tuples tell stays -/
def Tups (H H' : Hp) : Prop := ∀ b xs, H b = some (.tup xs) → H' b = some (.tup xs)
theorem _root_.L2.Same.tups {H H' : Hp} (h : Same H H') : Tups H H' := fun b xs e => h b _ e
theorem PairsAt.tups {H H' : Hp} (h : Tups H H') : ∀ {xs G}, PairsAt H xs G → PairsAt H' xs G
  | [], [], _ => trivial
  | .ref a :: xs, p :: G, q => ⟨h a _ q.1, PairsAt.tups h q.2⟩
  | [], _ :: _, q => q.elim
  | .non :: _, _, q => by simp [PairsAt] at q
  | .bl _ :: _, _, q => by simp [PairsAt] at q
  | .int _ :: _, _, q => by simp [PairsAt] at q
  | .str _ :: _, _, q => by simp [PairsAt] at q
  | .byt _ :: _, _, q => by simp [PairsAt] at q
  | .flt _ :: _, _, q => by simp [PairsAt] at q
  | .ty _ :: _, _, q => by simp [PairsAt] at q
  | .ref _ :: _, [], q => by simp [PairsAt] at q
theorem GluAt.tups {H H' : Hp} (h : Tups H H') {g : Addr} {G : List (Nat × Nat)} (q : GluAt H g G) : GluAt H' g G := by
  obtain ⟨xs, e, p⟩ := q
  exact ⟨xs, h g xs e, p.tups h⟩
theorem PairsAt.length {H : Hp} : ∀ {xs G}, PairsAt H xs G → xs.length = G.length
  | [], [], _ => rfl
  | .ref a :: xs, p :: G, q => by simp [PairsAt.length q.2]
  | [], _ :: _, q => q.elim
  | .non :: _, _, q => by simp [PairsAt] at q
  | .bl _ :: _, _, q => by simp [PairsAt] at q
  | .int _ :: _, _, q => by simp [PairsAt] at q
  | .str _ :: _, _, q => by simp [PairsAt] at q
  | .byt _ :: _, _, q => by simp [PairsAt] at q
  | .flt _ :: _, _, q => by simp [PairsAt] at q
  | .ty _ :: _, _, q => by simp [PairsAt] at q
  | .ref _ :: _, [], q => by simp [PairsAt] at q
theorem PairsAt.at {H : Hp} : ∀ {xs G} (i : Nat) {x : V}, PairsAt H xs G → xs[i]? = some x → ∃ a p, x = .ref a ∧ G[i]? = some p ∧ H a = some (.tup [.int (p.1 : Int), .int (p.2 : Int)])
  | [], [], i, x, _, e => by simp at e
  | .ref a :: xs, p :: G, 0, x, q, e => by
    simp at e
    exact ⟨a, p, e.symm, rfl, q.1⟩
  | .ref a :: xs, p :: G, i + 1, x, q, e => by
    obtain ⟨b, p', h1, h2, h3⟩ := PairsAt.at i q.2 (by simpa using e)
    exact ⟨b, p', h1, by simpa using h2, h3⟩
  | [], _ :: _, _, _, q, _ => q.elim
  | .non :: _, _, _, _, q, _ => by simp [PairsAt] at q
  | .bl _ :: _, _, _, _, q, _ => by simp [PairsAt] at q
  | .int _ :: _, _, _, _, q, _ => by simp [PairsAt] at q
  | .str _ :: _, _, _, _, q, _ => by simp [PairsAt] at q
  | .byt _ :: _, _, _, _, q, _ => by simp [PairsAt] at q
  | .flt _ :: _, _, _, _, q, _ => by simp [PairsAt] at q
  | .ty _ :: _, _, _, _, q, _ => by simp [PairsAt] at q
  | .ref _ :: _, [], _, _, q, _ => by simp [PairsAt] at q
theorem PairsAt.snoc {H : Hp} {a : Addr} {p : Nat × Nat} (h : H a = some (.tup [.int (p.1 : Int), .int (p.2 : Int)])) : ∀ {xs G}, PairsAt H xs G → PairsAt H (xs ++ [.ref a]) (G ++ [p])
  | [], [], _ => ⟨h, trivial⟩
  | .ref b :: xs, q :: G, k => ⟨k.1, PairsAt.snoc h k.2⟩
  | [], _ :: _, q => q.elim
  | .non :: _, _, q => by simp [PairsAt] at q
  | .bl _ :: _, _, q => by simp [PairsAt] at q
  | .int _ :: _, _, q => by simp [PairsAt] at q
  | .str _ :: _, _, q => by simp [PairsAt] at q
  | .byt _ :: _, _, q => by simp [PairsAt] at q
  | .flt _ :: _, _, q => by simp [PairsAt] at q
  | .ty _ :: _, _, q => by simp [PairsAt] at q
  | .ref _ :: _, [], q => by simp [PairsAt] at q

theorem same_upd {H : Hp} {a : Addr} {o : HO} (h : H a = none) : Same H (upd H a o) := fun b u e => by rw [upd_ne (ne_of_none e h)]; exact e
theorem Same.upd {H H' : Hp} {a : Addr} {o : HO} (s : Same H H') (h : H a = none) : Same H (upd H' a o) := fun b u e => by rw [upd_ne (ne_of_none e h)]; exact s b u e

/-- what the top has written -/
structure Txt (K : PySem.W.Frag) (mg : Str → Option Value) (CL CW : Addr) : Prop where
  clL : Cls K CL
  nA : NoAttr K CL "above"
  clW : Cls K CW
  nL : NoAttr K CW "letters"
  mgL : mg "Lots" = some (.ref CL)
  mgW : mg "Word" = some (.ref CW)
  len : mg "len" = none
  range : mg "range" = none
  list : mg "list" = none
  tuple : mg "tuple" = none
  sorted : mg "sorted" = none
  abs : mg "abs" = none
  int : mg "int" = none
  min : mg "min" = none
  reversed : mg "reversed" = none
  isinstance : mg "isinstance" = none
  bool : mg "bool" = none
  str : mg "str" = none
  dict : mg "dict" = none
  kinds : ∃ t, mg "MOST_KINDS" = some (.int 4 t)
  letters : ∃ t, mg "MOST_LETTERS" = some (.int 200 t)
  sides : ∃ t, mg "MOST_SIDES" = some (.int 12 t)
end K94
end

-- text TwRules
section
set_option Elab.async false
set_option linter.all false
set_option maxRecDepth 100000
set_option maxHeartbeats 4000000
/-! Own rules: slices that go backwards, tuple.count, the special methods of an own class. -/
namespace K94
open PySem PySem.Spec PyProof.Rows L2

/-! ### xs[:0:-1] of a list -/
theorem pick_back (items : Array Value) : slicePick items none (some 0) (some (-1)) = (items.toList.drop 1).reverse.toArray := by
  unfold slicePick
  by_cases h0 : items.size = 0
  · have e : items = #[] := Array.eq_empty_of_size_eq_zero h0
    subst e
    rfl
  · have hb : sliceBounds none (some 0) (some (-1)) items.size = ((items.size : Int) - 1, 0, -1) := by
      unfold sliceBounds
      have h1 : ¬ ((some (-1 : Int)).getD 1 > 0) := by decide
      simp only [h1, if_false]
      simp only [Option.getD_some]
      have : max (-1 : Int) (min 0 ((items.size : Int) - 1)) = 0 := by omega
      simp [this]
    rw [hb]
    show ((sliceRange ((items.size : Int) - 1) 0 (-1)).filterMap (items[·]?)).toArray = _
    have hr : sliceRange ((items.size : Int) - 1) 0 (-1) = ((List.range (items.size - 1)).map (1 + ·)).reverse := by
      unfold sliceRange
      have h1 : ¬ ((-1 : Int) > 0) := by decide
      have hn : (if (items.size : Int) - 1 > 0 then (((items.size : Int) - 1 - 0 - -1 - 1) / (- -1)) else 0) = ((items.size - 1 : Nat) : Int) := by
        rw [show (- -1 : Int) = 1 by decide, Int.ediv_one]
        split <;> omega
      simp only [h1, if_false]
      have hn2 : (if (items.size : Int) - 1 > 0 then (((items.size : Int) - 1 - 0 - -1 - 1) / (- -1)).toNat else 0) = items.size - 1 := by
        rw [show (- -1 : Int) = 1 by decide, Int.ediv_one]
        split <;> omega
      apply List.ext_getElem
      · simp
        first | (rw [show (- -1 : Int) = 1 by decide, Int.ediv_one]; omega) | (split <;> omega) | omega
      · intro i h1 h2
        simp at h1 h2
        simp
        omega
    rw [hr, List.filterMap_reverse, pick_run items 1 (items.size - 1), List.take_of_length_le (by simp)]
def tBackL (K : PySem.W.Frag) (te : TE) : TE := fun σ H Q => te σ H fun x H1 => ∃ a xs, x = .ref a ∧ SqL K H1 a xs ∧ ∀ p, H1 p = none → Q (.ref p) (upd H1 p (.lst (xs.drop 1).reverse))
section
variable {X : Cx}
theorem pe_backL {e : Expr} {te : TE} {k k0 : Nat} {p0 p1 p2 p3 pos : Pos} (he : PE X e te) : PE X (.Subscript e (.Slice none (some (.Constant (.int 0) k0 p0)) (some (.UnaryOp .USub (.Constant (.int 1) k p1) p2)) p3) pos) (tBackL X.K te) := by
  refine ⟨fun pins s σ H Q I h => ?_⟩
  refine Subscript_ (thn (he.run pins s σ H _ I h) fun v s1 ⟨x, H1, I1, r1, q1⟩ => ?_)
  obtain ⟨a, xs, ex, hx, q⟩ := q1
  subst ex
  cases r1
  have hst : PO X (some (.UnaryOp .USub (.Constant (.int 1) k p1) p2)) (tPart (tUn (rU fun i => .int (-i)) (tC (.int 1)))) := po_some (pe_un un_neg pe_int)
  have hup : PO X (some (.Constant (.int 0) k0 p0)) (tPart (tC (.int 0))) := po_some pe_int
  refine wpAny_Slice (thn (po_none.run pins s1 σ H1 (fun o H2 => o = none ∧ H2 = H1) I1 ⟨rfl, rfl⟩) fun vl s2 ⟨l, H2, I2, pl, el, e2⟩ => ?_)
  subst el e2
  refine thn (hup.run pins s2 σ H2 (fun o H3 => o = some 0 ∧ H3 = H2) I2 ⟨0, rfl, rfl, rfl⟩) fun vu s3 ⟨u, H3, I3, pu, eu, e3⟩ => ?_
  subst eu e3
  refine thn (hst.run pins s3 σ H3 (fun o H4 => o = some (-1) ∧ H4 = H3) I3 ⟨1, rfl, -1, rfl, rfl, rfl⟩) fun vs s4 ⟨o, H4, I4, ps, eo, e4⟩ => ?_
  subst eo e4
  have I5 : Inv X pins σ H4 { s4 with heap := s4.heap.push { cls := .type "slice", data := .fields #[vl, vu, vs] } } := I4.kept (t' := s4.toks) fun b ob q => Heap.get?_push_of_some _ q
  obtain ⟨its, r, ht, hz⟩ := I5.list hx
  have hlen := r.length
  show wpAny (model X.prog X.w) X.A (subscriptTail e (.Slice none (some (.Constant (.int 0) k0 p0)) (some (.UnaryOp .USub (.Constant (.int 1) k p1) p2)) p3) (.ref a) (.ref s4.heap.objs.size)) (EP X pins σ Q) X.xe { s4 with heap := s4.heap.push { cls := .type "slice", data := .fields #[vl, vu, vs] } }
  refine tail_any (ops := [.ref a, .ref s4.heap.objs.size]) ht.isList.typeIs (PySem.slot_list_getitem.lookup) ?_ (by with_unfolding_all rfl)
  refine wpAny_getItem_list_slice ht.isList (Heap.IsSliceOf.new _ vl vu vs) pl pu ps (by decide) ?_ (by rw [List.size_toArray]; omega)
  rw [pick_back]
  refine ⟨.ref _, _, I5.laid (t' := s4.toks) (o := .lst (xs.drop 1).reverse) (fun b ob q => Heap.get?_push_of_some _ q) (Nat.le_refl _) ?_, rfl, q _ (I5.hok.fresh (Nat.le_refl _))⟩
  exact ⟨by rw [List.length_reverse, List.length_drop]; omega, _, 0, (r.drop 1).reverse, Heap.get?_push_size _ rfl⟩

/-! ### t[::-1] of a tuple -/
theorem tup_back {prog : Program} {w : World} {A : Around} {E : Value → Shared → Prop} {s : Shared} {t sl : Addr} {items : Array Value} {vs : Value} {Q : Value → Shared → Prop} (ht : IsTup s.heap t items) (hs : s.heap.IsSliceOf sl .none .none vs) (ps : IsPart vs (some (-1)))
    (h : Q (.ref s.heap.objs.size) { s with heap := s.heap.push { cls := .type "tuple", data := .seq items.toList.reverse.toArray } }) (hsz : items.size ≤ sizeLine) : wpAny (model prog w) A (getItem (.ref t) (.ref sl)) Q E s := by
  have htake : sizeOk (.seq items.toList.reverse.toArray) := by
    show items.toList.reverse.toArray.size ≤ sizeLine
    rw [List.size_toArray, List.length_reverse, Array.length_toList]
    exact hsz
  obtain ⟨os, hos, hcs, hds⟩ := id hs
  have hTs : s.TypeIs (.ref sl) "slice" := ⟨os, hos, hcs⟩
  unfold getItem
  try with_reducible refine wpAny_holding ?_
  first | refine wpAny_bind (wpAny_pure ?_) | skip
  refine wpAny_bind (wpAny_sequenceKey ht.typeIs (by decide) ?_)
  refine wpAny_bind (wpAny_callSpecial?_slot (name := Str.ofString "__getitem__") ht.typeIs PyProof.Rows.slot_tuple_getitem
    (wpAny_call_entry PyProof.Rows.slot_tuple_getitem ht.typeIs entry_tuple_getitem ?_ (args_tuple_getitem _ _)))
  show wpAny _ _ (Builtin.Tuple.tupleItemsOf (.ref t) >>= _) _ _ s
  refine wpAny_bind (tupleItemsOf_ ht ?_)
  refine wpAny_bind (wpAny_typeOf hTs ?_)
  rw [if_pos (by decide)]
  have hap : ∀ {A' : Around} {E' : Value → Shared → Prop} {Q' : Int × Int × Nat → Shared → Prop}, Q' ((items.size : Int) - 1, -1, items.size) s → wpAny (model prog w) A' (Builtin.Slice.sliceApplied (.ref sl) (pure (items.size : Int))) Q' E' s := fun {A' E' Q'} q => by
    unfold Builtin.Slice.sliceApplied Builtin.Slice.sliceFields
    refine wpAny_bind (wpAny_bind (wpAny_field hos hds (x := .none) rfl (wpAny_bind (wpAny_field hos hds (x := .none) rfl (wpAny_bind (wpAny_field hos hds (x := vs) rfl (wpAny_pure ?_)))))))
    refine wpAny_bind (HT.slicePart_ ps ?_)
    show wpAny _ _ (if ((-1 : Int) == 0) = true then _ else _) _ _ s
    rw [if_neg (by decide)]
    refine wpAny_bind (slicePart_none (wpAny_bind (slicePart_none (wpAny_bind (wpAny_pure ?_)))))
    have e : Builtin.Slice.slicePlaces ((items.size : Int) - 1) (-1) (-1) = items.size := by
      unfold Builtin.Slice.slicePlaces
      rw [if_neg (by decide), show (- -1 : Int) = 1 by decide, Int.ediv_one]
      split <;> omega
    show wpAny _ _ (pure ((items.size : Int) - 1, (-1 : Int), Builtin.Slice.slicePlaces ((items.size : Int) - 1) (-1) (-1))) _ _ s
    rw [e]
    exact wpAny_pure q
  refine wpAny_bind (hap ?_)
  have hno : ¬ ((((items.size : Int) - 1) == 0 && (-1 : Int) == 1 && items.size == items.size) = true) := by
    simp
  show wpAny _ _ (if (((items.size : Int) - 1) == 0 && (-1 : Int) == 1 && items.size == items.size) = true then _ else _) _ _ s
  rw [if_neg hno]
  have hpick : ((List.range items.size).filterMap fun (k : Nat) => items[(((items.size : Int) - 1) + (k : Int) * (-1)).toNat]?) = items.toList.reverse := by
    have e1 : (fun (k : Nat) => items[(((items.size : Int) - 1) + (k : Int) * (-1)).toNat]?) = (fun x : Nat => items[x]?) ∘ (fun k : Nat => (((items.size : Int) - 1) + (k : Int) * (-1)).toNat) := rfl
    have e2 : (List.range items.size).map (fun k : Nat => (((items.size : Int) - 1) + (k : Int) * (-1)).toNat) = (List.range items.size).reverse := by
      rw [← PySem.W.krv_range]
      apply List.map_congr_left
      intro k hk
      have := List.mem_range.mp hk
      omega
    rw [e1, ← List.filterMap_map, e2, List.filterMap_reverse, PySem.W.krv_all]
  rw [hpick]
  first
    | exact wpAny_bind (m := Builtin.Tuple.tupleExact _) (wpAny_newObj_type (wpAny_pure ⟨_, rfl, wpAny_pure h⟩) htake)
    | exact wpAny_bind (m := Builtin.Tuple.tupleExact _) (wpAny_newObj_type (wpAny_bind (wpAny_pure (wpAny_pure ⟨_, rfl, wpAny_pure h⟩))) htake)
    | exact wpAny_bind (wpAny_bind (m := Builtin.Tuple.tupleExact _) (wpAny_newObj_type (wpAny_pure (wpAny_pure ⟨_, rfl, wpAny_pure h⟩)) htake))
    | exact wpAny_bind (wpAny_bind (m := Builtin.Tuple.tupleExact _) (wpAny_newObj_type (wpAny_pure ⟨_, rfl, wpAny_pure h⟩) htake))
def tRevT (K : PySem.W.Frag) (te : TE) : TE := fun σ H Q => te σ H fun x H1 => ∃ a xs, x = .ref a ∧ SqT K H1 a xs ∧ ∀ p, H1 p = none → Q (.ref p) (upd H1 p (.tup xs.reverse))
theorem pe_revT {e : Expr} {te : TE} {k : Nat} {p1 p2 p3 pos : Pos} (he : PE X e te) : PE X (.Subscript e (.Slice none none (some (.UnaryOp .USub (.Constant (.int 1) k p1) p2)) p3) pos) (tRevT X.K te) := by
  refine ⟨fun pins s σ H Q I h => ?_⟩
  refine Subscript_ (thn (he.run pins s σ H _ I h) fun v s1 ⟨x, H1, I1, r1, q1⟩ => ?_)
  obtain ⟨a, xs, ex, hx, q⟩ := q1
  subst ex
  cases r1
  have hst : PO X (some (.UnaryOp .USub (.Constant (.int 1) k p1) p2)) (tPart (tUn (rU fun i => .int (-i)) (tC (.int 1)))) := po_some (pe_un un_neg pe_int)
  refine wpAny_Slice (thn (po_none.run pins s1 σ H1 (fun o H2 => o = none ∧ H2 = H1) I1 ⟨rfl, rfl⟩) fun vl s2 ⟨l, H2, I2, pl, el, e2⟩ => ?_)
  subst el e2
  refine thn (po_none.run pins s2 σ H2 (fun o H3 => o = none ∧ H3 = H2) I2 ⟨rfl, rfl⟩) fun vu s3 ⟨u, H3, I3, pu, eu, e3⟩ => ?_
  subst eu e3
  refine thn (hst.run pins s3 σ H3 (fun o H4 => o = some (-1) ∧ H4 = H3) I3 ⟨1, rfl, -1, rfl, rfl, rfl⟩) fun vs s4 ⟨o, H4, I4, ps, eo, e4⟩ => ?_
  subst eo e4
  cases pl
  cases pu
  have I5 : Inv X pins σ H4 { s4 with heap := s4.heap.push { cls := .type "slice", data := .fields #[.none, .none, vs] } } := I4.kept (t' := s4.toks) fun b ob q => Heap.get?_push_of_some _ q
  obtain ⟨its, r, ht, hz⟩ := I5.tuple hx
  have hlen := r.length
  show wpAny (model X.prog X.w) X.A (subscriptTail e (.Slice none none (some (.UnaryOp .USub (.Constant (.int 1) k p1) p2)) p3) (.ref a) (.ref s4.heap.objs.size)) (EP X pins σ Q) X.xe { s4 with heap := s4.heap.push { cls := .type "slice", data := .fields #[.none, .none, vs] } }
  refine tail_any (ops := [.ref a, .ref s4.heap.objs.size]) ht.typeIs (PyProof.Rows.slot_tuple_getitem.lookup) ?_ (by with_unfolding_all rfl)
  refine tup_back ht (Heap.IsSliceOf.new _ .none .none vs) ps ?_ (by rw [List.size_toArray]; omega)
  refine ⟨.ref _, _, I5.laid (t' := s4.toks) (o := .tup xs.reverse) (fun b ob q => Heap.get?_push_of_some _ q) (Nat.le_refl _) ?_, rfl, q _ (I5.hok.fresh (Nat.le_refl _))⟩
  exact ⟨by rw [List.length_reverse]; omega, its.reverse, r.reverse, IsTup.new _ _⟩

/-! ### t.count(k) -/
def rCntT (K : PySem.W.Frag) : V → List V → Hp → VK → Prop := fun x xs H Q => ∃ (p : Addr) (ns : List Int) (k : Int), x = .ref p ∧ xs = [.int k] ∧ SqT K H p (ns.map V.int) ∧ Q (.int (ns.count k : Nat)) H
theorem mt_tcount : MtR X "tuple.count" (rCntT X.K) := by
  intro pins s σ H x xs v us Q I rx rxs h
  obtain ⟨p, ns, k, rfl, rfl, hs, q⟩ := h
  cases rx
  obtain ⟨u, rfl, ru⟩ := rxs.one
  obtain ⟨t, rfl⟩ := ru
  obtain ⟨its, rv, ⟨⟨cls, dd, data, sl⟩, ho, hc, n, hd⟩, hlen⟩ := I.tuple hs
  simp only at hc hd
  subst hc hd
  have hi := ints_of_vals rv
  refine call_meets PySem.F.slot_tuple_count ⟨_, ho, rfl⟩ PySem.F.entry_tuple_count (PySem.F.args_tuple_count_2 _ _)
    (SeqAt.tuple_countAt p its.toArray n dd sl (.int k t) (eqk k)) ⟨ho, fun y hy => (eqk_gives hi y (by simpa using hy)).at _ _, ?_⟩
  have ec : its.toArray.toList.countP (eqk k) = ns.count k := eqk_count hi
  refine ⟨.int (ns.count k : Nat), H, I.tok _, ⟨s.toks, ?_⟩, q⟩
  show Value.int ((its.toArray.toList.countP (eqk k) : Nat) : Int) s.toks = Value.int ((ns.count k : Nat) : Int) s.toks
  rw [ec]

/-! ### special methods of an own class -/
section
variable {CX : CXT} {k : Nat} {f C : Addr} {fd : FuncData} {ps : List Str} {sp : Sp} {E : XK}
/-- the instance that stands behind a -/
theorem inst_of {pins : List (Addr × Obj)} {σ : St} {H : Hp} {s : Shared} {a dx : Addr} {fs : List (Str × V)} (I : Inv X pins σ H s) (e : H a = some (.ins C dx fs)) : ∃ od, PySem.W.InstAt s.heap a (PySem.W.instObj C dx) C (some od) := by
  obtain ⟨mA, O, _, _, _, _⟩ := ins_get I.hok e
  obtain ⟨od, J, _⟩ := O.look
  exact ⟨od, J⟩
theorem un_inv_own (F : FnOk X.prog X.w X.K X.mg X.base CX k f fd ps sp) (hr : Room k X.A) (hb : Binds X.K fd ps []) (hx : Passes CX X E) (hs : PySem.W.findIn X.K (.ref C) "__invert__" = some (some (.ref f))) (hf : PySem.W.isFn X.K (.ref f) = true) :
    UnR X (unaryOp .Invert) (fun x H Q => ∃ a dx fs, x = .ref a ∧ H a = some (.ins C dx fs) ∧ sp [x] H Q E) := by
  intro pins s σ H x v Q I rx h
  obtain ⟨a, dx, fs, rfl, e, q⟩ := h
  cases rx
  obtain ⟨od, J⟩ := inst_of I e
  unfold unaryOp
  refine wpAny_holding ?_
  exact wpAny_bind (PySem.W.special_fn I.kIn J hs (beq_iff_eq.mp hf) (thn (run_fn (us := [.ref a]) (vs := [.ref a]) F hr hb .nil hx I (.cons rfl .nil) q) fun _ _ z => wpAny_pure z))
theorem call_len_own {hr1 : Room k X.A.in1} (F : FnOk X.prog X.w X.K X.mg X.base CX0 k f fd ps sp) (hb : Binds X.K fd ps []) (hs : PySem.W.findIn X.K (.ref C) "__len__" = some (some (.ref f))) (hf : PySem.W.isFn X.K (.ref f) = true) :
    CallR X (.builtin "len") (fun xs H Q => ∃ a dx fs, xs = [.ref a] ∧ H a = some (.ins C dx fs) ∧ sp xs H (fun y H' => ∃ n : Int, y = .int n ∧ 0 ≤ n ∧ n < 2 ^ 63 ∧ Q y H') E0) := by
  intro pins s σ H xs us Q I r h
  obtain ⟨a, dx, fs, rfl, e, q⟩ := h
  obtain ⟨u, rfl, rx⟩ := vals1 r
  cases rx
  obtain ⟨od, J⟩ := inst_of I e
  refine Calls.call_function_entry kind_len plain_len entry_len (args_len1 _) ?_
  unfold Builtin.«len»
  refine wpAny_bind (m := oneArg "len" _) (wpAny_pure ?_)
  refine wpAny_bind (m := callSpecial? (.ref a) (Str.ofString "__len__")) (PySem.W.special_fn I.kIn J hs (beq_iff_eq.mp hf) ?_)
  have r2 : Vals ([.ref a] ++ []) ([.ref a] ++ []) := r.append .nil
  have hl : ([Value.ref a] ++ ([] : List Value)).length = ps.length := by rw [← r2.length]; exact F.len _ _ _ _ q
  refine wpAny_call (codeAny_mono (F.run X.A.in1 X.stack s H ⟨[.ref a], []⟩ ([.ref a] ++ []) ([.ref a] ++ []) _ E0 hr1 I.env0.in1 (hb s [.ref a] I.kIn hl) r2 q) fun r s' hq => ?_)
  cases r with
  | error e => exact hq.elim
  | ok fl =>
  cases fl with
  | next => exact hq.elim
  | brk => exact hq.elim
  | cont => exact hq.elim
  | ret u =>
  obtain ⟨y, H2, I2, ry, n, rfl, h0, h1, qq⟩ := I.after hq
  obtain ⟨tk, rfl⟩ := ry
  refine wpAny_bind (wpAny_holding (wpAny_pure ?_))
  refine wpAny_bind (wpAny_letGo ?_)
  show wpAny _ _ (if n < 0 then _ else _) _ _ _
  rw [if_neg (by omega)]
  show wpAny _ _ (if n ≥ 2 ^ 63 then _ else _) _ _ _
  rw [if_neg (by omega)]
  exact wpAny_bind (wpAny_mkInt (wpAny_pure ⟨_, rfl, .int n, H2, I2.tok _, ⟨_, rfl⟩, qq⟩))
theorem op_mul_own (F : FnOk X.prog X.w X.K X.mg X.base CX k f fd ps sp) (hr : Room k X.A) (hb : Binds X.K fd ps []) (hx : Passes CX X E) (hc : PySem.W.selfFirst X.K C = true) (hs : PySem.W.findIn X.K (.ref C) "__mul__" = some (some (.ref f))) (hf : PySem.W.isFn X.K (.ref f) = true) :
    OpR X (binaryOp .Mult) (fun x y H Q => ∃ a dx fs b dy gs, x = .ref a ∧ y = .ref b ∧ H a = some (.ins C dx fs) ∧ H b = some (.ins C dy gs) ∧ sp [x, y] H (fun z H' => (∃ p, z = .ref p) ∧ Q z H') E) := by
  intro pins s σ H x y v u Q I rx ry h
  obtain ⟨a, dx, fs, b, dy, gs, rfl, rfl, ea, eb, q⟩ := h
  cases rx
  cases ry
  obtain ⟨od, J⟩ := inst_of I ea
  obtain ⟨od2, J2⟩ := inst_of I eb
  have hs2 : PySem.W.findIn X.K (.ref C) (PySem.dunder "mul") = some (some (.ref f)) := by
    have e : PySem.dunder "mul" = ("__mul__" : Str) := by first | rfl | decide | decide +kernel
    rw [e]; exact hs
  obtain ⟨cd, hcd, hm⟩ := PySem.W.any_some hc
  obtain ⟨rest, hm⟩ : ∃ rest, cd.mro = .ref C :: rest := by
    cases q : cd.mro with
    | nil => rw [q] at hm; cases hm
    | cons a r => rw [q] at hm; exact ⟨r, by rw [List.head?_cons] at hm; cases (beq_iff_eq.mp hm); rfl⟩
  unfold binaryOp
  refine wpAny_holding (wpAny_bind ?_)
  unfold binaryOp1
  refine wpAny_bind (J.type.here (wpAny_bind (J2.type.here (wpAny_bind ((PySem.W.fills_K I.kIn hcd hm hs2).here ?_)))))
  simp only [beq_self_eq_true, if_true]
  refine wpAny_bind (wpAny_pure ?_)
  simp only [Bool.and_false, Bool.false_eq_true, if_false, Bool.false_and]
  refine wpAny_bind (wpAny_pure ?_)
  simp only [Bool.false_eq_true, if_false]
  refine wpAny_bind (m := tryMethod (.ref a) _ (.ref b)) ?_
  unfold tryMethod
  refine wpAny_bind (PySem.W.special_fn I.kIn J hs2 (beq_iff_eq.mp hf) (thn (run_fn (us := [.ref a, .ref b]) (vs := [.ref a, .ref b]) F hr hb .nil hx I (.cons rfl (.cons rfl .nil)) q) fun v s' hv => ?_))
  obtain ⟨y, H2, I2, ry, ⟨p, rfl⟩, qq⟩ := hv
  cases ry
  exact wpAny_pure (wpAny_pure (wpAny_pure ⟨.ref p, H2, I2, rfl, qq⟩))
end

/-! ### tuple(xs), its object known; a method of it -/
theorem call_tupleF : CallR X (.type "tuple") (fun xs H Q => ∃ p ys, xs = [.ref p] ∧ SqL X.K H p ys ∧ ∀ l o, H l = none → o.dict = none → Q (.ref l) (upd H l (.frz o (.tup ys)))) := by
  intro pins s σ H xs us Q I r h
  obtain ⟨p, ys, rfl, hq, q⟩ := h
  obtain ⟨u, rfl, rx⟩ := vals1 r
  cases rx
  obtain ⟨its, r', pl, hz⟩ := I.list hq
  have hlen := r'.length
  refine call_tuple_list pl.isList (fun h' kp => ?_) (by simp only [List.size_toArray] <;> omega)
  have I1 : Inv X pins σ H { s with heap := h' } := I.kept (t' := s.toks) kp
  have I2 : Inv X pins σ (upd H h'.objs.size (.frz { cls := .type "tuple", data := .seq its.toArray } (.tup ys))) { s with heap := h'.push { cls := .type "tuple", data := .seq its.toArray } } :=
    I1.laid (t' := s.toks) (fun b o e => Heap.get?_push_of_some _ e) (Nat.le_refl _) (show ObjOk X.prog X.w _ _ _ (.frz _ (.tup ys)) from ⟨Heap.get?_push_size _ rfl, hz, its, r', IsTup.new _ _⟩)
  exact ⟨.ref h'.objs.size, _, I2, rfl, q _ _ (I1.hok.fresh (Nat.le_refl _)) rfl⟩
def tBMF (T : String) (r : V → List V → Hp → VK → Prop) (to : TE) (t : TA) : TE := fun σ H Q => to σ H fun x H1 => (∃ p o ys, x = .ref p ∧ H1 p = some (.frz o (.tup ys)) ∧ o.dict = none) ∧ t σ H1 fun xs H2 => r x xs H2 Q
theorem pe_tm {o e : Expr} {es : List Expr} {to : TE} {t : TA} {name : Str} {apos cpos : Pos} {id : String} {r : V → List V → Hp → VK → Prop} (pa : PlainAttrs "tuple") (slot : Slot "tuple" name id) (hty : typeOf (.builtin id) = pure (.type "method_descriptor")) (hm : MtR X id r) (ho : PE X o to) (ha : PA X (e :: es) t)
    (hbase : attributeBase o name X.env (eval o X.env) = eval o X.env := by rfl)
    (hfew : ((backTo cpos (starEach (e :: es) X.env)).all (fun x => !x.1) && (backToKw cpos (keywordEach [] X.env)).all (fun x => x.1.isSome)
      && decide ((e :: es).length + ([] : List Keyword).length + (if ([] : List Keyword).isEmpty then 0 else 1) < 30)) = true := by rfl)
    (hline : (apos.endLine == cpos.line) = true := by rfl) (hs : starEach (e :: es) X.env = (false, eval e X.env) :: starEach es X.env := by rfl) (hplain : (backTo cpos (starEach es X.env)).any (·.1) = false := by rfl) :
    PE X (.Call (.Attribute o name apos) (e :: es) [] cpos) (tBMF "tuple" r to t) := by
  refine ⟨fun pins s σ H Q I h => ?_⟩
  refine wpAny_Call_method_late hbase hfew hline rfl (thn (ho.run pins s σ H _ I h) fun v s1 ⟨x, H1, I1, r1, ty, q1⟩ => ?_)
  obtain ⟨p, ob, ys, rfl, hp, hd⟩ := ty
  cases r1
  obtain ⟨hg, _, its, _, ht⟩ := I1.hok p _ hp
  obtain ⟨o2, ho2, hc2, _⟩ := ht
  have e2 : o2 = ob := Option.some.inj (ho2.symm.trans hg)
  refine ⟨"tuple", id, pa, slot, hty, ⟨o2, ho2, hc2⟩, fun a e => ?_, ?_⟩
  · cases e
    exact ⟨ob, hg, hd⟩
  have hA := ha.run cpos pins s1 σ H1 _ I1 q1
  rw [hs] at hA ⊢
  refine Calls.callWith_builtin (by show (false || (backTo cpos (starEach es X.env)).any (·.1)) = false; rw [hplain] <;> rfl) (Calls.evalArgs_plain ?_)
  exact thn hA fun us s2 ⟨vs, H2, I2, r2, q2⟩ => hm pins s2 σ H2 (.ref p) vs (.ref p) us Q I2 rfl r2 q2

/-! ### for over a list or a tuple -/
def iSeq (K : PySem.W.Frag) (te : TE) : TI := fun σ H R => te σ H fun x H1 => ∃ a xs, x = .ref a ∧ ((SqL K H1 a xs ∧ R (Itl K a) H1) ∨ (SqT K H1 a xs ∧ R (Itt K a) H1))
theorem pi_seq {tg l : Expr} {tl : TE} (hl : PE X l tl) : PI X tg l (iSeq X.K tl) := by
  refine ⟨fun pins s σ H R I h => ?_⟩
  refine thn (hl.run pins s σ H _ I h) fun v s1 ⟨x, H1, I1, r1, q1⟩ => ?_
  obtain ⟨a, xs, e, q1⟩ := q1
  subst e
  cases r1
  rcases q1 with ⟨hq, q⟩ | ⟨hq, q⟩
  · obtain ⟨its, rv, p, hz⟩ := I1.list hq
    refine wpAny_pyIter_list p.isList ?_
    refine ⟨s1.heap.objs.size, [s1.heap.objs.size], _, _, H1, rfl, I1.kept (t' := s1.toks) fun b o e => Heap.get?_push_of_some _ e, turn_list a _, ⟨_, Heap.get?_push_size _ rfl, rfl, rfl⟩, fun b hb => ?_, q⟩
    have e : b = s1.heap.objs.size := by simpa using hb
    subst e
    exact I1.fpOk (Nat.le_refl _) (I1.hok.fresh (Nat.le_refl _))
  · obtain ⟨its, rv, p, hz⟩ := I1.tuple hq
    refine wpAny_pyIter_tuple (show s1.heap.IsTuple a its.toArray from p) ?_
    refine ⟨s1.heap.objs.size, [s1.heap.objs.size], _, _, H1, rfl, I1.kept (t' := s1.toks) fun b o e => Heap.get?_push_of_some _ e, turn_tuple a _, ⟨_, Heap.get?_push_size _ rfl, rfl, rfl⟩, fun b hb => ?_, q⟩
    have e : b = s1.heap.objs.size := by simpa using hb
    subst e
    exact I1.fpOk (Nat.le_refl _) (I1.hok.fresh (Nat.le_refl _))
end
/-- a list or a tuple of these -/
def SqA (K : PySem.W.Frag) (H : Hp) (a : Addr) (xs : List V) : Prop := SqL K H a xs ∨ SqT K H a xs
theorem SqA.same {K : PySem.W.Frag} {H H' : Hp} {a : Addr} {xs : List V} (h : SqA K H a xs) (s : Same H H') : SqA K H' a xs := h.imp s.seq (same_sq s)
theorem for_seq {K : PySem.W.Frag} {a : Addr} {xs : List V} {g : TG} {tb : TS} {D : Ends} {σ : St} {H H0 : Hp} (hq : SqA K H0 a xs) (Pv : Nat → St → Hp → Prop) (h0 : Pv 0 σ H) (hsm : ∀ i σ' H', Pv i σ' H' → Same H0 H')
    (hs : ∀ i x σ H, xs[i]? = some x → Pv i σ H → g x σ H fun σ2 H2 => tb { D with nx := Pv (i + 1), ct := Pv (i + 1), bk := D.nx } σ2 H2) (hd : ∀ σ H, Pv xs.length σ H → D.nx σ H) :
    (SqL K H a xs ∧ ∃ W : Nat → Nat → St → Hp → Prop, (∃ m, W 0 m σ H) ∧ ∀ i m σ H, W i m σ H →
      ((Itl K a).stop i H ∧ D.nx σ H) ∨ ((Itl K a).go i H ∧ ∃ N : St → Hp → Prop, (∀ σ' H', N σ' H' → ∃ m', m' < m ∧ W (i + 1) m' σ' H') ∧ ∀ x H', (Itl K a).yld i H x H' → g x σ H' fun σ2 H2 => tb { D with nx := N, ct := N, bk := D.nx } σ2 H2)) ∨
    (SqT K H a xs ∧ ∃ W : Nat → Nat → St → Hp → Prop, (∃ m, W 0 m σ H) ∧ ∀ i m σ H, W i m σ H →
      ((Itt K a).stop i H ∧ D.nx σ H) ∨ ((Itt K a).go i H ∧ ∃ N : St → Hp → Prop, (∀ σ' H', N σ' H' → ∃ m', m' < m ∧ W (i + 1) m' σ' H') ∧ ∀ x H', (Itt K a).yld i H x H' → g x σ H' fun σ2 H2 => tb { D with nx := N, ct := N, bk := D.nx } σ2 H2)) := by
  rcases hq with hq | hq
  · exact .inl ⟨(hsm _ _ _ h0).seq hq, for_list Pv h0 (fun i σ' H' _ p => (hsm i σ' H' p).seq hq) hs hd⟩
  · exact .inr ⟨same_sq (hsm _ _ _ h0) hq, for_tup Pv h0 (fun i σ' H' _ p => same_sq (hsm i σ' H' p) hq) hs hd⟩
/-- a tuple with another -/
theorem rcat_any {K : PySem.W.Frag} {H : Hp} {a b : Addr} {xs ys : List V} {Q : VK} (ha : SqT K H a xs) (hb : SqT K H b ys) (hz : xs.length + ys.length ≤ sizeLine) (k : ∀ H' c, Same H H' → SqT K H' c (xs ++ ys) → Q (.ref c) H') : rCatA K (.ref a) (.ref b) H Q := by
  refine ⟨a, b, xs, ys, rfl, rfl, ha, hb, hz, fun e => ?_, fun _ e => ?_, fun _ _ p hp => k _ p (same_upd hp) (SqT.of upd_same)⟩
  · subst e; exact k H b (Same.refl _) (by simpa using hb)
  · subst e; exact k H a (Same.refl _) (by simpa using ha)
end K94
end

-- text TwRed
section
set_option Elab.async false
set_option linter.all false
/-! The stack that shortens from the left, and the law's walk that cuts pairs out. -/
namespace Tw
theorem short_pre : ∀ {r s : List Int}, Short (r ++ s) → Short r
  | [], _, _ => trivial
  | [_], _, _ => trivial
  | a :: b :: r, s, h => ⟨h.1, short_pre (r := b :: r) (s := s) h.2⟩
theorem short_snoc {a : Int} : ∀ {r : List Int}, Short r → r.getLast? ≠ some (-a) → Short (r ++ [a])
  | [], _, _ => trivial
  | [x], _, k => ⟨fun e => k (by rw [e]; simp), trivial⟩
  | x :: y :: r, h, k => ⟨h.1, short_snoc (r := y :: r) h.2 (by simpa using k)⟩
theorem red_snoc (u : List Int) (a : Int) : red (u ++ [a]) = if (red u).getLast? = some (-a) then (red u).dropLast else red u ++ [a] := by
  rw [← red_left]
  have hs := short_red u
  generalize red u = r at hs
  by_cases c : r.getLast? = some (-a)
  · rw [if_pos c]
    have hne : r ≠ [] := by intro z; rw [z] at c; simp at c
    have e : r = r.dropLast ++ [-a] := by
      have h2 := List.dropLast_concat_getLast hne
      rw [List.getLast?_eq_some_getLast hne] at c
      have h3 : r.getLast hne = -a := Option.some.inj c
      rw [h3] at h2
      exact h2.symm
    have hd : Short r.dropLast := short_pre (s := [-a]) (by rw [← e]; exact hs)
    have e2 : r ++ [a] = r.dropLast ++ (-a) :: (- -a) :: [] := by
      conv => lhs; rw [e]
      simp
    rw [e2, red_cancel, List.append_nil, red_of_short hd]
  · rw [if_neg c]
    exact red_of_short (short_snoc hs c)
theorem short_of_places : ∀ {l : List Int}, (∀ k, k + 1 < l.length → l.getD k 0 ≠ - l.getD (k + 1) 0) → Short l
  | [], _ => trivial
  | [_], _ => trivial
  | a :: b :: l, h => ⟨fun e => h 0 (by simp) (by simp; omega), short_of_places (l := b :: l) fun k hk => by
      have := h (k + 1) (by simp at hk ⊢; omega)
      simpa using this⟩
theorem steps_at {l : List Int} {k : Nat} (hk : k + 1 < l.length) (e : l.getD k 0 = - l.getD (k + 1) 0) : Steps l (l.take k ++ l.drop (k + 2)) := by
  refine Steps.one (u := l.take k) (a := l.getD k 0) (v := l.drop (k + 2)) ?_ rfl
  have h1 : l.drop k = l.getD k 0 :: l.drop (k + 1) := by
    rw [List.drop_eq_getElem_cons (by omega)]
    congr 1
    rw [List.getD_eq_getElem?_getD, List.getElem?_eq_getElem (by omega)]; rfl
  have h2 : l.drop (k + 1) = l.getD (k + 1) 0 :: l.drop (k + 2) := by
    rw [List.drop_eq_getElem_cons (by omega)]
    congr 1
    rw [List.getD_eq_getElem?_getD, List.getElem?_eq_getElem (by omega)]; rfl
  have h3 : - l.getD k 0 = l.getD (k + 1) 0 := by omega
  rw [h3, ← h2, ← h1, List.take_append_drop]
end Tw
end

-- text TwDefs
section
set_option Elab.async false
set_option linter.all false
set_option maxRecDepth 100000
set_option maxHeartbeats 4000000
/-! All defs of the text, as they stand behind the top. -/
namespace K94
open PySem PySem.Spec PyProof.Rows L2
structure Defs (K : PySem.W.Frag) (mg : Str → Option Value) where
  CL : Addr
  CW : Addr
  T : Txt K mg CL CW
  fLeft : Addr
  dLeft : FuncData
  FLeft : Fun K "sides_left" "sides_left" sLeft fLeft dLeft
  bLeft : L2.Binds K dLeft ["many", "gluing"] []
  gLeft : mg "sides_left" = some (.ref fLeft)
  fGls : Addr
  dGls : FuncData
  FGls : Fun K "gluings" "gluings" sGluings fGls dGls
  bGls : L2.Binds K dGls ["word"] []
  gGls : mg "gluings" = some (.ref fGls)
  fCor : Addr
  dCor : FuncData
  FCor : Fun K "corners" "corners" sCorners fCor dCor
  bCor : L2.Binds K dCor ["many", "gluing"] []
  gCor : mg "corners" = some (.ref fCor)
  fHan : Addr
  dHan : FuncData
  FHan : Fun K "handles" "handles" sHandles fHan dHan
  bHan : L2.Binds K dHan ["many", "gluing"] []
  gHan : mg "handles" = some (.ref fHan)
  fFirst : Addr
  dFirst : FuncData
  FFirst : Fun K "first_best" "first_best" sFirst fFirst dFirst
  bFirst : L2.Binds K dFirst ["word"] []
  gFirst : mg "first_best" = some (.ref fFirst)
  fLeast : Addr
  dLeast : FuncData
  FLeast : Fun K "least_handles" "least_handles" sLeast fLeast dLeast
  bLeast : L2.Binds K dLeast ["word"] []
  gLeast : mg "least_handles" = some (.ref fLeast)
  fBest : Addr
  dBest : FuncData
  FBest : Fun K "best_gluing" "best_gluing" sBest fBest dBest
  bBest : L2.Binds K dBest ["word"] []
  gBest : mg "best_gluing" = some (.ref fBest)
  fShort : Addr
  dShort : FuncData
  FShort : Fun K "short_form" "short_form" sShort fShort dShort
  bShort : L2.Binds K dShort ["letters"] []
  gShort : mg "short_form" = some (.ref fShort)
  fOpp : Addr
  dOpp : FuncData
  FOpp : Fun K "opposite_letters" "opposite_letters" sOpp fOpp dOpp
  bOpp : L2.Binds K dOpp ["letters"] []
  gOpp : mg "opposite_letters" = some (.ref fOpp)
  fCell : Addr
  dCell : FuncData
  FCell : Fun K "_law_cell" "_law_cell" sCell fCell dCell
  bCell : L2.Binds K dCell ["_law_script", "_law_k"] []
  gCell : mg "_law_cell" = some (.ref fCell)
  fDraws : Addr
  dDraws : FuncData
  FDraws : Fun K "_law_draws" "_law_draws" sDraws fDraws dDraws
  bDraws : L2.Binds K dDraws ["_law_cell_here", "_law_many"] []
  gDraws : mg "_law_draws" = some (.ref fDraws)
  fSame : Addr
  dSame : FuncData
  FSame : Fun K "_law_same" "_law_same" sSame fSame dSame
  bSame : L2.Binds K dSame ["_law_actual", "_law_due"] []
  gSame : mg "_law_same" = some (.ref fSame)
  fNum : Addr
  dNum : FuncData
  FNum : Fun K "_law_is_number" "_law_is_number" sIsNum fNum dNum
  bNum : L2.Binds K dNum ["_law_actual", "_law_due"] []
  gNum : mg "_law_is_number" = some (.ref fNum)
  fSgn : Addr
  dSgn : FuncData
  FSgn : Fun K "_law_signed" "_law_signed" sSigned fSgn dSgn
  bSgn : L2.Binds K dSgn ["_law_draws_here", "_law_kinds"] []
  gSgn : mg "_law_signed" = some (.ref fSgn)
  fLSh : Addr
  dLSh : FuncData
  FLSh : Fun K "_law_short" "_law_short" sLShort fLSh dLSh
  bLSh : L2.Binds K dLSh ["_law_row", "_law_draw"] []
  gLSh : mg "_law_short" = some (.ref fLSh)
  fLOp : Addr
  dLOp : FuncData
  FLOp : Fun K "_law_opposite_row" "_law_opposite_row" sLOpp fLOp dLOp
  bLOp : L2.Binds K dLOp ["_law_row"] []
  gLOp : mg "_law_opposite_row" = some (.ref fLOp)
  fLCo : Addr
  dLCo : FuncData
  FLCo : Fun K "_law_corner_classes" "_law_corner_classes" sLCor fLCo dLCo
  bLCo : L2.Binds K dLCo ["_law_many", "_law_pairs"] []
  gLCo : mg "_law_corner_classes" = some (.ref fLCo)
  fFed : Addr
  dFed : FuncData
  FFed : Fun K "_law_fed" "_law_fed" sFed fFed dFed
  bFed : L2.Binds K dFed ["_law_script", "_law_draws_here"] []
  gFed : mg "_law_fed" = some (.ref fFed)
  fSiz : Addr
  dSiz : FuncData
  FSiz : Fun K "_law_sizes" "_law_sizes" sSizes fSiz dSiz
  bSiz : L2.Binds K dSiz ["_law_draws_here", "_law_many", "_law_full"] []
  gSiz : mg "_law_sizes" = some (.ref fSiz)
  fRgt : Addr
  dRgt : FuncData
  FRgt : Fun K "_law_gluing_right" "_law_gluing_right" sRight fRgt dRgt
  bRgt : L2.Binds K dRgt ["_law_row", "_law_gluing"] []
  gRgt : mg "_law_gluing_right" = some (.ref fRgt)
  fLHa : Addr
  dLHa : FuncData
  FLHa : Fun K "_law_handles" "_law_handles" sLHan fLHa dLHa
  bLHa : L2.Binds K dLHa ["_law_row", "_law_gluing"] []
  gLHa : mg "_law_handles" = some (.ref fLHa)
  fLLe : Addr
  dLLe : FuncData
  FLLe : Fun K "_law_least" "_law_least" sLLeast fLLe dLLe
  bLLe : L2.Binds K dLLe ["_law_word", "_law_row"] []
  gLLe : mg "_law_least" = some (.ref fLLe)
  fRef : Addr
  dRef : FuncData
  FRef : Fun K "_law_refusal" "_law_refusal" sRefus fRef dRef
  bRef : L2.Binds K dRef ["_law_word"] []
  gRef : mg "_law_refusal" = some (.ref fRef)
  fLaw : Addr
  dLaw : FuncData
  FLaw : Fun K "law" "law" sLaw fLaw dLaw
  bLaw : L2.Binds K dLaw ["_law_script"] []
  gLaw : mg "law" = some (.ref fLaw)
  fLI : Addr
  dLI : FuncData
  FLI : Fun K "__init__" "Lots.__init__" sLotsInit fLI dLI
  bLI : L2.Binds K dLI ["self", "many"] []
  MLI : Mk K CL fLI
  fRoot : Addr
  dRoot : FuncData
  FRoot : Fun K "root" "Lots.root" sRoot fRoot dRoot
  bRoot : L2.Binds K dRoot ["self", "at"] []
  mRoot : Meth K CL "root" fRoot
  fGlue : Addr
  dGlue : FuncData
  FGlue : Fun K "glue" "Lots.glue" sGlue fGlue dGlue
  bGlue : L2.Binds K dGlue ["self", "one", "other"] []
  mGlue : Meth K CL "glue" fGlue
  fCls : Addr
  dCls : FuncData
  FCls : Fun K "classes" "Lots.classes" sClasses fCls dCls
  bCls : L2.Binds K dCls ["self"] []
  mCls : Meth K CL "classes" fCls
  fWI : Addr
  dWI : FuncData
  FWI : Fun K "__init__" "Word.__init__" sWordInit fWI dWI
  bWI : L2.Binds K dWI ["self", "letters"] []
  MWI : Mk K CW fWI
  fMul : Addr
  dMul : FuncData
  FMul : Fun K "__mul__" "Word.__mul__" sMul fMul dMul
  bMul : L2.Binds K dMul ["self", "other"] []
  sMul : PySem.W.findIn K (.ref CW) "__mul__" = some (some (.ref fMul))
  iMul : PySem.W.isFn K (.ref fMul) = true
  fInv : Addr
  dInv : FuncData
  FInv : Fun K "__invert__" "Word.__invert__" sInv fInv dInv
  bInv : L2.Binds K dInv ["self"] []
  sInv : PySem.W.findIn K (.ref CW) "__invert__" = some (some (.ref fInv))
  iInv : PySem.W.isFn K (.ref fInv) = true
  fLen : Addr
  dLen : FuncData
  FLen : Fun K "__len__" "Word.__len__" sLen fLen dLen
  bLen : L2.Binds K dLen ["self"] []
  sLen : PySem.W.findIn K (.ref CW) "__len__" = some (some (.ref fLen))
  iLen : PySem.W.isFn K (.ref fLen) = true
  fComm : Addr
  dComm : FuncData
  FComm : Fun K "commutator" "Word.commutator" sComm fComm dComm
  bComm : L2.Binds K dComm ["self", "other"] []
  mComm : Meth K CW "commutator" fComm
  fBal : Addr
  dBal : FuncData
  FBal : Fun K "balanced" "Word.balanced" sBal fBal dBal
  bBal : L2.Binds K dBal ["self"] []
  mBal : Meth K CW "balanced" fBal
  own : PySem.W.selfFirst K CW = true
end K94
end

-- text TwLots
section
set_option Elab.async false
set_option linter.all false
set_option maxRecDepth 100000
set_option maxHeartbeats 4000000
/-! The class Lots. -/
namespace K94
open PySem PySem.Spec PyProof.Rows L2
open Tw (rt join rt_le rt_step rt_of_root rt_root rt_rt)

theorem rgV_iv (n : Nat) : rgV 0 (n : Int) = iv (List.range n) := by
  unfold rgV iv
  rw [show ((n : Int) - 0).toNat = n by omega]
  refine List.map_congr_left fun i _ => ?_
  rw [Int.zero_add]

def spLI (C : Addr) : Sp := fun vs H Q _ => ∃ (p dx : Addr) (n : Nat), vs = [.ref p, .int (n : Int)] ∧ H p = some (.ins C dx []) ∧ n ≤ 1000 ∧ ∀ l, H l = none → Q .non (upd (upd H l (.lst (iv (List.range n)))) p (.ins C dx (pfA l)))
/-- root(at) -/
def spRoot (C : Addr) : Sp := fun vs H Q _ => ∃ (p l : Addr) (x : Nat) (ab : List Nat), vs = [.ref p, .int (x : Int)] ∧ LotsAt C H p l ab ∧ (∀ y, y < ab.length → ab.getD y y ≤ y) ∧ x < ab.length ∧ Q (.int ((rt ab x : Nat) : Int)) H
def spGlue (C : Addr) : Sp := fun vs H Q _ => ∃ (p l : Addr) (a b : Nat) (ab : List Nat), vs = [.ref p, .int (a : Int), .int (b : Int)] ∧ LotsAt C H p l ab ∧ (∀ y, y < ab.length → ab.getD y y ≤ y) ∧ a < ab.length ∧ b < ab.length ∧
  Q .non (upd H l (.lst (iv (join ab (rt ab a) (rt ab b)))))

section
variable {P : Program} {w : World} {K : PySem.W.Frag} {mg : Str → Option Value} {base : Heap} {CL CW : Addr}
theorem scLI : FnScope ["self", "many"] ["self", "many"] (defScope sLotsInit) := ⟨rfl, rfl, rfl, by decide +kernel, rfl, by decide +kernel, by decide +kernel⟩
theorem ok_LI {f : Addr} {fd : FuncData} (F : Fun K "__init__" "Lots.__init__" sLotsInit f fd) (T : Txt K mg CL CW) : FnOk P w K mg base CX0 1 f fd ["self", "many"] (spLI CL) := by
  refine F.ok scLI (fun vs H Q E h => ?_) (fun cdv A outer s H vs Q E hr h => ?_)
  · obtain ⟨p, dx, n, rfl, _⟩ := h; rfl
  · obtain ⟨p, dx, n, rfl, hp, hn, k⟩ := h
    refine ⟨_, pss_one (ps_fld (pv 0) (pe_listRg rfl rfl T.list (prg_1 rfl T.range (pv 1))) rfl), ?_⟩
    refine ⟨_, rfl, _, rfl, RgOk.of_le (Int.le_refl _) (by omega) (by omega) (by omega), fun l hl => ?_⟩
    rw [rgV_iv]
    refine ⟨_, rfl, p, CL, dx, [], rfl, (by rw [upd_ne (ne_of_none hp hl)]; exact hp), T.clL, T.nA, (by decide), ?_⟩
    exact k l hl
theorem scRoot : FnScope ["self", "at"] ["self", "at"] (defScope sRoot) := ⟨rfl, rfl, rfl, by decide +kernel, rfl, by decide +kernel, by decide +kernel⟩
theorem ok_root {f : Addr} {fd : FuncData} (F : Fun K "root" "Lots.root" sRoot f fd) (T : Txt K mg CL CW) : FnOk P w K mg base CX0 1 f fd ["self", "at"] (spRoot CL) := by
  refine F.ok scRoot (fun vs H Q E h => ?_) (fun cdv A outer s H vs Q E hr h => ?_)
  · obtain ⟨p, l, x, ab, rfl, _⟩ := h; rfl
  · obtain ⟨p, l, x, ab, rfl, ⟨dx, hp, hl⟩, hle, hx, k⟩ := h
    refine ⟨_, pss_cons (ps_while PassesOwn.never (pt_cmpR op_ne (pe_ix ix_list (pe_fld (pv 0) rfl) (pv 1) (fun _ _ => rfl)) (pv 1) (nomark _))
        (pss_one (ps_set (i := 1) scRoot.nd rfl (Or.inl rfl) (pe_ix ix_list (pe_fld (pv 0) rfl) (pv 1) (fun _ _ => rfl)))))
      (pss_one (ps_ret (pv 1))), ?_⟩
    refine ⟨fun m σ H' => ∃ y : Nat, m = y ∧ y < ab.length ∧ rt ab y = rt ab x ∧ H' = H ∧ σ = [some (.ref p), some (.int (y : Int))], ⟨x, x, rfl, hx, rfl, rfl, rfl⟩, ?_⟩
    rintro y σ H' ⟨_, rfl, hy, hr', rfl, rfl⟩
    refine ⟨_, rfl, p, CL, dx, _, _, rfl, hp, T.clL, T.nA, pfA_above _, _, rfl, l, _, _, _, rfl, rfl, SqL.of hl, iv_at hy, _, rfl, rfl, _, rfl, ?_⟩
    have hyy := hle y hy
    by_cases c : ab.getD y y = y
    · have e : (!decide (V.int ((ab.getD y y : Nat) : Int) = V.int (y : Int))) = false := by rw [c]; simp
      rw [e]
      refine iteF ?_
      refine ⟨_, rfl, ?_⟩
      have : rt ab y = y := rt_of_root (by omega)
      rw [← hr', this] at k
      exact k
    · have e : (!decide (V.int ((ab.getD y y : Nat) : Int) = V.int (y : Int))) = true := by
        have : ¬ V.int ((ab.getD y y : Nat) : Int) = V.int (y : Int) := fun q => c (by injection q with q; omega)
        rw [decide_eq_false this]; rfl
      rw [e]
      refine iteT ?_
      have lt : ab.getD y y < y := by omega
      refine ⟨fun σ' H2 => σ' = [some (.ref p), some (.int ((ab.getD y y : Nat) : Int))] ∧ H2 = H', fun σ' H2 ⟨h1, h2⟩ => ⟨ab.getD y y, lt, ab.getD y y, rfl, by omega, ?_, h2, h1⟩, ?_⟩
      · rw [← hr', ← rt_step lt]
      · refine ⟨_, rfl, p, CL, dx, _, _, rfl, hp, T.clL, T.nA, pfA_above _, _, rfl, l, _, _, _, rfl, rfl, SqL.of hl, iv_at hy, ?_⟩
        exact ⟨rfl, rfl⟩
theorem scGlue : FnScope ["self", "one", "other", "first", "second"] ["self", "one", "other"] (defScope sGlue) := ⟨rfl, rfl, rfl, by decide +kernel, rfl, by decide +kernel, by decide +kernel⟩
theorem ok_glue {f fR : Addr} {fd fdR : FuncData} (F : Fun K "glue" "Lots.glue" sGlue f fd) (T : Txt K mg CL CW) (FR : Fun K "root" "Lots.root" sRoot fR fdR) (bR : Binds K fdR ["self", "at"] []) (mR : Meth K CL "root" fR) : FnOk P w K mg base CX0 2 f fd ["self", "one", "other"] (spGlue CL) := by
  have GR : FnOk P w K mg base CX0 1 fR fdR ["self", "at"] (spRoot CL) := ok_root FR T
  refine F.ok scGlue (fun vs H Q E h => ?_) (fun cdv A outer s H vs Q E hr h => ?_)
  · obtain ⟨p, l, a, b, ab, rfl, _⟩ := h; rfl
  · obtain ⟨p, l, a, b, ab, rfl, ⟨dx, hp, hl⟩, hle, ha, hb, k⟩ := h
    refine ⟨_, pss_cons (ps_par (i := 3) (j := 4) rfl scGlue.nd rfl rfl (by decide) rfl rfl (pa_cons (pe_meth (pv 0) T.clL mR GR hr bR .nil pass0 (pa_cons (pv 1) pa_nil)) (pa_cons (pe_meth (pv 0) T.clL mR GR hr bR .nil pass0 (pa_cons (pv 2) pa_nil)) pa_nil)) (by rfl))
      (pss_one (ps_if (pt_cmpR op_lt (pv 3) (pv 4) (nomark _)) (pss_one (ps_asg (pv 3) (pg_sub (pe_fld (pv 0) rfl) (pv 4) set_list))) (pss_one (ps_asg (pv 4) (pg_sub (pe_fld (pv 0) rfl) (pv 3) set_list))))), ?_⟩
    have noR : (pfA l).lookup ("root" : Str) = none := pfA_no _ (by decide +kernel)
    have la := Nat.lt_of_le_of_lt (rt_le ab a) ha
    have lb := Nat.lt_of_le_of_lt (rt_le ab b) hb
    refine ⟨_, rfl, p, dx, _, rfl, hp, noR, _, rfl, p, l, a, ab, rfl, ⟨dx, hp, hl⟩, hle, ha, ?_⟩
    refine ⟨_, rfl, p, dx, _, rfl, hp, noR, _, rfl, p, l, b, ab, rfl, ⟨dx, hp, hl⟩, hle, hb, ?_⟩
    refine ⟨_, _, rfl, ?_⟩
    refine ⟨_, rfl, _, rfl, _, _, rfl, rfl, _, rfl, ?_⟩
    unfold join at k
    refine ite2 (fun c => ?_) (fun c => ?_)
    · have c' : rt ab a < rt ab b := by simpa using c
      refine ⟨_, rfl, _, rfl, p, CL, dx, _, _, rfl, hp, T.clL, T.nA, pfA_above _, _, rfl, l, _, _, rt ab b, rfl, rfl, hl, ?_, ?_⟩
      · unfold ixN
        rw [if_pos (by omega), if_pos (by rw [iv_length]; omega)]; simp
      · rw [iv_set]
        rw [show max (rt ab a) (rt ab b) = rt ab b by omega, show min (rt ab a) (rt ab b) = rt ab a by omega] at k
        exact k
    · have c' : ¬ rt ab a < rt ab b := by simpa using c
      refine ⟨_, rfl, _, rfl, p, CL, dx, _, _, rfl, hp, T.clL, T.nA, pfA_above _, _, rfl, l, _, _, rt ab a, rfl, rfl, hl, ?_, ?_⟩
      · unfold ixN
        rw [if_pos (by omega), if_pos (by rw [iv_length]; omega)]; simp
      · rw [iv_set]
        rw [show max (rt ab a) (rt ab b) = rt ab a by omega, show min (rt ab a) (rt ab b) = rt ab b by omega] at k
        exact k
end
end K94
end

-- text TwClasses
section
set_option Elab.async false
set_option linter.all false
set_option maxRecDepth 100000
set_option maxHeartbeats 4000000
/-! Lots.classes. -/
namespace K94
open PySem PySem.Spec PyProof.Rows L2
open Tw (rt join rt_le rt_step rt_of_root rt_root rt_rt)

def spClasses (C : Addr) : Sp := fun vs H Q _ => ∃ (p l : Addr) (ab : List Nat), vs = [.ref p] ∧ LotsAt C H p l ab ∧ (∀ y, y < ab.length → ab.getD y y ≤ y) ∧ ab.length ≤ 60 ∧
  ∀ (H' : Hp) (t : Addr) (xs : List V), Same H H' → H' t = some (.tup xs) → (∃ tops : List Nat, tops.Nodup ∧ (∀ x, x ∈ tops ↔ x < ab.length ∧ rt ab x = x) ∧ xs.length = tops.length) → Q (.ref t) H'

/-- the dict behind i numbers -/
structure Found (H H' : Hp) (ab : List Nat) (d : Addr) (i : Nat) (kvs : List (Key × V)) (tops : List Nat) : Prop where
  same : Same H H'
  d0 : H d = none
  hd : H' d = some (.dK kvs)
  keys : kvs.map (·.1) = (tops.map fun (k : Nat) => (k : Int)).map Sum.inl
  nd : tops.Nodup
  mem : ∀ x, x ∈ tops ↔ ∃ j, j < i ∧ rt ab j = x
  vals : ∀ q ∈ kvs, ∃ a xs, q.2 = .ref a ∧ H' a = some (.lst xs) ∧ xs.length ≤ i ∧ H a = none

theorem valV_mem {kvs : List (Key × V)} {k : Key} (h : k ∈ kvs.map (·.1)) : ∃ v, valV kvs k = some v ∧ (k, v) ∈ kvs := by
  induction kvs with
  | nil => simp at h
  | cons p r ih =>
    by_cases e : p.1 = k
    · exact ⟨p.2, valV_pos e, by rw [← e]; exact List.mem_cons_self⟩
    · have : k ∈ r.map (·.1) := by
        rw [List.map_cons] at h
        exact (List.mem_cons.mp h).resolve_left (fun z => e z.symm)
      obtain ⟨v, h1, h2⟩ := ih this
      exact ⟨v, by rw [valV_neg e]; exact h1, List.mem_cons_of_mem _ h2⟩
theorem valV_not {kvs : List (Key × V)} {k : Key} (h : k ∉ kvs.map (·.1)) : valV kvs k = none := by
  induction kvs with
  | nil => rfl
  | cons p r ih =>
    rw [List.map_cons, List.mem_cons, not_or] at h
    rw [valV_neg (fun e => h.1 e.symm)]
    exact ih h.2
theorem putK_new {kvs : List (Key × V)} {k : Key} {v : V} (h : valV kvs k = none) : putK kvs k v = kvs ++ [(k, v)] := by
  unfold putK
  rw [valV_any, h]
  simp

theorem Found.key {H H' : Hp} {ab : List Nat} {d : Addr} {i : Nat} {kvs : List (Key × V)} {tops : List Nat} (F : Found H H' ab d i kvs tops) (x : Nat) : (Sum.inl (x : Int) : Key) ∈ kvs.map (·.1) ↔ x ∈ tops := by
  rw [F.keys]
  constructor
  · intro h
    obtain ⟨y, hy, e⟩ := List.mem_map.mp h
    obtain ⟨z, hz, e2⟩ := List.mem_map.mp hy
    have e := Sum.inl.inj e
    have : z = x := by omega
    exact this ▸ hz
  · intro h
    exact List.mem_map.mpr ⟨_, List.mem_map.mpr ⟨x, h, rfl⟩, rfl⟩
theorem _root_.Tw.length_le_of_sub : ∀ {l1 l2 : List Nat}, l1.Nodup → (∀ x ∈ l1, x ∈ l2) → l1.length ≤ l2.length
  | [], _, _, _ => Nat.zero_le _
  | a :: l1, l2, nd, h => by
    have nd := List.nodup_cons.mp nd
    have ha := h a List.mem_cons_self
    have h2 : ∀ x ∈ l1, x ∈ l2.erase a := fun x hx => by
      have ne : x ≠ a := fun z => nd.1 (z ▸ hx)
      exact (List.mem_erase_of_ne ne).mpr (h x (List.mem_cons_of_mem _ hx))
    have ih := Tw.length_le_of_sub nd.2 h2
    rw [List.length_erase_of_mem ha] at ih
    have := List.length_pos_of_mem ha
    simp only [List.length_cons]; omega

section
variable {P : Program} {w : World} {K : PySem.W.Frag} {mg : Str → Option Value} {base : Heap} {CL CW : Addr}
theorem scCls : FnScope ["self", "found", "at", "top"] ["self"] (defScope sClasses) := ⟨rfl, rfl, rfl, by decide +kernel, rfl, by decide +kernel, by decide +kernel⟩
theorem ok_classes {f fR : Addr} {fd fdR : FuncData} (F : Fun K "classes" "Lots.classes" sClasses f fd) (T : Txt K mg CL CW) (FR : Fun K "root" "Lots.root" sRoot fR fdR) (bR : Binds K fdR ["self", "at"] []) (mR : Meth K CL "root" fR) : FnOk P w K mg base CX0 2 f fd ["self"] (spClasses CL) := by
  have GR : FnOk P w K mg base CX0 1 fR fdR ["self", "at"] (spRoot CL) := ok_root FR T
  refine F.ok scCls (fun vs H Q E h => ?_) (fun cdv A outer s H vs Q E hr h => ?_)
  · obtain ⟨p, l, ab, rfl, _⟩ := h; rfl
  · obtain ⟨p, l, ab, rfl, ⟨dx, hp, hl⟩, hle, hlen, k⟩ := h
    have hu := hu_of hr
    refine ⟨_, pss_cons (ps_set (i := 1) scCls.nd rfl (Or.inr rfl) pe_dnewK)
      (pss_cons (ps_for PassesOwn.never rfl (pi_range1 rfl T.range (pa_cons (pe_callB call_len_seq (by rfl) T.len PySem.boot_len (pa_cons (pe_fld (pv 0) rfl) pa_nil)) pa_nil)) (pg_name (i := 2) scCls.nd rfl (Or.inl rfl))
        (pss_cons (ps_set (i := 3) scCls.nd rfl (Or.inl rfl) (pe_meth (pv 0) T.clL mR GR hr bR .nil pass0 (pa_cons (pv 2) pa_nil)))
        (pss_cons (ps_if (pt_cmp (pc_dnotin hu (pv 3) (pv 1))) (pss_one (ps_dput hu (pv 1) (pv 3) (pe_lst pa_nil) rfl)) pss_nil)
        (pss_one (ps_expr (pe_bm PySem.F.plainAttrs_list PySem.F.slot_list_append PySem.F.type_list_append mt_append (pe_dget hu (pv 1) (pv 3) (fun _ _ => rfl)) (pa_cons (pv 2) pa_nil)))))))
      (pss_one (ps_ret (pe_tupleOf rfl T.tuple (pe_lc (own := [("top", 3)]) (g := gName 3) (tt := tYes) (te := tThen (tDGet (tVar 1) (tVar 3)) (kTup K)) rfl scCls.nd (pi_list (pe_callB (call_sortedDI rfl) (by rfl) T.sorted (by decide +kernel) (pa_cons (pv 1) pa_nil)))
        (blkOk_by (own := [("top", 3)]) (N := ["self", "found", "at", "top"]) (sc := defScope sClasses) (by decide +kernel)) (fun _ _ _ _ _ => pg_name (i := 3) scCls.nd rfl (Or.inl rfl)) (fun _ _ _ _ _ => pts_nil)
        (fun _ _ _ _ _ => by exact pe_tupleOf (by rfl) T.tuple (pe_dget hu (pv 1) (pv 3) (fun _ _ => rfl)))))))), ?_⟩
    intro d hd
    refine ⟨_, rfl, p, CL, dx, _, _, rfl, (by rw [upd_ne (ne_of_none hp hd)]; exact hp), T.clL, T.nA, pfA_above _, l, _, rfl, .inl (SqL.of (by rw [upd_ne (ne_of_none hl hd)]; exact hl)), ?_⟩
    rw [iv_length]
    refine ⟨_, rfl, by omega, by omega, for_range (lo := 0) (n := ab.length) (fun i σ H' => ∃ kvs tops u v, σ = [some (.ref p), some (.ref d), u, v] ∧ Found H H' ab d i kvs tops)
      ⟨[], [], none, none, rfl, same_upd hd, hd, upd_same, rfl, List.nodup_nil, fun x => by simp, fun q hq => by simp at hq⟩ ?_ ?_⟩
    · rintro i σ H' hi ⟨kvs, tops, u, v, rfl, Fo⟩
      have hp' := Fo.same _ _ hp
      have hl' := Fo.same _ _ hl
      have noR : (pfA l).lookup ("root" : Str) = none := pfA_no _ (by decide +kernel)
      rw [Int.zero_add]
      refine ⟨_, rfl, p, dx, _, rfl, hp', noR, _, rfl, p, l, i, ab, rfl, ⟨dx, hp', hl'⟩, hle, hi, ?_⟩
      have lenk : kvs.length < sizeLine := by
        have e1 := congrArg List.length Fo.keys
        rw [List.length_map, List.length_map, List.length_map] at e1
        have : tops.length ≤ (List.range ab.length).length := Tw.length_le_of_sub Fo.nd fun x hx => by
          obtain ⟨j, hj, e⟩ := (Fo.mem x).mp hx
          exact List.mem_range.mpr (e ▸ Nat.lt_of_le_of_lt (rt_le ab j) (by omega))
        rw [List.length_range] at this
        exact small1000 (by omega)
      -- if top not in found
      refine ⟨_, rfl, _, rfl, d, _, rfl, DGet.k (k := Sum.inl ((rt ab i : Nat) : Int)) Fo.hd, _, rfl, ?_⟩
      by_cases c : rt ab i ∈ tops
      · obtain ⟨v0, hv, hm⟩ := valV_mem ((Fo.key _).mpr c)
        rw [hv]
        refine iteF ?_
        obtain ⟨a, xs, e, ha, hx, ha0⟩ := Fo.vals _ hm
        subst e
        have nad : a ≠ d := ne_of ha Fo.hd (by intro q; cases q)
        refine ⟨_, rfl, _, rfl, d, .ref a, rfl, (by rw [← hv]; exact DGet.k (k := Sum.inl ((rt ab i : Nat) : Int)) Fo.hd), .inl ⟨rfl, _, SqL.of ha⟩, _, rfl, a, _, _, rfl, rfl, ha, small1000 (by omega), ?_⟩
        refine ⟨kvs, tops, _, _, rfl, fun b o e => ?_, Fo.d0, by rw [upd_ne nad.symm]; exact Fo.hd, Fo.keys, Fo.nd, fun x => ?_, fun q hq => ?_⟩
        · rw [upd_ne (ne_of_none e ha0)]; exact Fo.same _ _ e
        · rw [Fo.mem]
          constructor
          · rintro ⟨j, hj, e⟩; exact ⟨j, by omega, e⟩
          · rintro ⟨j, hj, e⟩
            rcases Nat.lt_or_ge j i with z | z
            · exact ⟨j, z, e⟩
            · have : j = i := by omega
              subst this
              exact (Fo.mem x).mp (e ▸ c)
        · obtain ⟨b, ys, e1, e2, e3, e4⟩ := Fo.vals q hq
          by_cases cb : b = a
          · subst cb
            refine ⟨b, _, e1, upd_same, ?_, e4⟩
            rw [List.length_append, List.length_singleton]; omega
          · exact ⟨b, ys, e1, by rw [upd_ne cb]; exact e2, by omega, e4⟩
      · have hv : valV kvs (Sum.inl ((rt ab i : Nat) : Int)) = none := valV_not (fun q => c ((Fo.key _).mp q))
        rw [hv]
        refine iteT ?_
        refine ⟨Nat.zero_le _, fun a ha => ?_⟩
        have nda : d ≠ a := ne_of_none Fo.hd ha
        have ha0 : H a = none := Fo.same.free ha
        refine ⟨_, rfl, _, rfl, d, _, rfl, DPut.k (k := Sum.inl ((rt ab i : Nat) : Int)) (by rw [upd_ne nda]; exact Fo.hd) lenk, ?_⟩
        rw [putK_new hv]
        have hv2 : valV (kvs ++ [((Sum.inl ((rt ab i : Nat) : Int) : Key), V.ref a)]) (Sum.inl ((rt ab i : Nat) : Int)) = some (.ref a) := by
          rw [valV_snoc _ _ _ _ hv, if_pos rfl]
        refine ⟨_, rfl, _, rfl, d, .ref a, rfl, (by rw [← hv2]; exact DGet.k (k := Sum.inl ((rt ab i : Nat) : Int)) upd_same), .inl ⟨rfl, _, SqL.of (by rw [upd_ne nda.symm, upd_same])⟩, _, rfl, a, _, _, rfl, rfl, (by rw [upd_ne nda.symm, upd_same]), small1000 (by simp), ?_⟩
        refine ⟨_, tops ++ [rt ab i], _, _, rfl, fun b o e => ?_, Fo.d0, by rw [upd_ne nda, upd_same], ?_, ?_, fun x => ?_, fun q hq => ?_⟩
        · have nbd : b ≠ d := ne_of_none e Fo.d0
          have nba : b ≠ a := ne_of_none e ha0
          rw [upd_ne nba, upd_ne nbd, upd_ne nba]; exact Fo.same _ _ e
        · rw [List.map_append, Fo.keys]; simp
        · exact List.nodup_append.mpr ⟨Fo.nd, by simp, fun x hx y hy e => c (by simp at hy; rw [← hy, ← e]; exact hx)⟩
        · rw [List.mem_append, Fo.mem, List.mem_singleton]
          constructor
          · rintro (⟨j, hj, e⟩ | e)
            · exact ⟨j, by omega, e⟩
            · exact ⟨i, by omega, e.symm⟩
          · rintro ⟨j, hj, e⟩
            rcases Nat.lt_or_ge j i with z | z
            · exact .inl ⟨j, z, e⟩
            · have : j = i := by omega
              subst this
              exact .inr e.symm
        · rcases List.mem_append.mp hq with hq | hq
          · obtain ⟨b, ys, e1, e2, e3, e4⟩ := Fo.vals q hq
            have nbd : b ≠ d := ne_of e2 Fo.hd (by intro z; cases z)
            have nba : b ≠ a := ne_of_none e2 ha
            exact ⟨b, ys, e1, by rw [upd_ne nba, upd_ne nbd, upd_ne nba]; exact e2, by omega, e4⟩
          · rw [List.mem_singleton.mp hq]
            exact ⟨a, _, rfl, upd_same, by simp, ha0⟩
    · rintro σ H' ⟨kvs, tops, u, v, rfl, Fo⟩
      have lenk : tops.length ≤ 60 := by
        have : tops.length ≤ (List.range ab.length).length := Tw.length_le_of_sub Fo.nd fun x hx => by
          obtain ⟨j, hj, e⟩ := (Fo.mem x).mp hx
          exact List.mem_range.mpr (e ▸ Nat.lt_of_le_of_lt (rt_le ab j) hj)
        rw [List.length_range] at this
        omega
      refine ⟨_, rfl, d, kvs, _, rfl, .inl Fo.hd, Fo.keys, by rw [List.length_map]; omega, fun ys q hperm _ hq => ?_⟩
      have ysl : ys.length = tops.length := by rw [hperm.length_eq, List.length_map]
      refine ⟨q, rfl, ⟨_, SqL.of upd_same⟩, fun D hD => ?_⟩
      have hqd : d ≠ q := ne_of_none Fo.hd hq
      have hDq : D ≠ q := fun z => by rw [z, upd_same] at hD; cases hD
      have hD' : H' D = none := by rw [upd_ne hDq] at hD; exact hD
      refine lc_list (K := K) (a := q) (xs := ys.map V.int) (fun i H2 => Same (upd H' q (.lst (ys.map V.int))) H2 ∧ ∃ acc, H2 D = some (.lst acc) ∧ acc.length = i) ⟨same_upd hD, [], upd_same, rfl⟩ (fun i H2 _ hh => hh.1.seq (SqL.of upd_same)) ?_ ?_
      · rintro i x H2 hi ⟨s2, acc, hacc, hal⟩
        have hil : i < ys.length := by
          have := (List.getElem?_eq_some_iff.mp hi).1
          rwa [List.length_map] at this
        obtain ⟨y, hy, rfl⟩ : ∃ y, y ∈ ys ∧ x = V.int y := by
          rw [List.getElem?_map, List.getElem?_eq_getElem hil] at hi
          exact ⟨ys[i], List.getElem_mem hil, (Option.some.inj hi).symm⟩
        have hyk : (Sum.inl y : Key) ∈ kvs.map (·.1) := by
          rw [Fo.keys]
          exact List.mem_map.mpr ⟨y, hperm.mem_iff.mp hy, rfl⟩
        obtain ⟨v0, hv, hm⟩ := valV_mem hyk
        obtain ⟨b, zs, e1, e2, e3, e4⟩ := Fo.vals _ hm
        have e1 : v0 = .ref b := e1
        subst e1
        have hb2 : H2 b = some (.lst zs) := s2 _ _ (by rw [upd_ne (ne_of_none e2 hq)]; exact e2)
        have hd2 : H2 d = some (.dK kvs) := s2 _ _ (by rw [upd_ne hqd]; exact Fo.hd)
        refine ⟨rfl, ?_⟩
        refine ⟨_, rfl, _, rfl, d, .ref b, rfl, (by rw [← hv]; exact DGet.k (k := Sum.inl y) hd2), .inl ⟨b, zs, rfl, SqL.of hb2, fun r hr' => ?_⟩⟩
        have nDr : D ≠ r := ne_of_none hacc hr'
        refine ⟨acc, by rw [upd_ne nDr]; exact hacc, small1000 (by omega), fun c o e => ?_, _, upd_same, by simp [hal]⟩
        have ncD : c ≠ D := fun z => by rw [z, hD] at e; cases e
        rw [upd_ne ncD, upd_ne (ne_of_none (s2 _ _ e) hr')]; exact s2 _ _ e
      · rintro H2 ⟨s2, acc, hacc, hal⟩
        refine .inl ⟨D, acc, rfl, SqL.of hacc, fun t ht => ?_⟩
        refine k _ t acc (fun b o e => ?_) upd_same ⟨tops, Fo.nd, fun x => ?_, ?_⟩
        · have h1 := Fo.same _ _ e
          have h2 := s2 _ _ (by rw [upd_ne (ne_of_none h1 hq)]; exact h1)
          rw [upd_ne (ne_of_none h2 ht)]; exact h2
        · rw [Fo.mem]
          constructor
          · rintro ⟨j, hj, e⟩
            exact ⟨e ▸ Nat.lt_of_le_of_lt (rt_le ab j) hj, by rw [← e]; exact rt_rt ab j⟩
          · rintro ⟨h1, h2⟩; exact ⟨x, h1, h2⟩
        · rw [hal, List.length_map, ysl]
end
end K94
end

-- text TwPoly
section
set_option Elab.async false
set_option linter.all false
set_option maxRecDepth 100000
set_option maxHeartbeats 4000000
/-! sides_left, corners, handles. -/
namespace K94
open PySem PySem.Spec PyProof.Rows L2
open Tw (rt join rt_le rt_step rt_of_root rt_root rt_rt IsGl UF prs flat left)

section
variable {P : Program} {w : World} {K : PySem.W.Frag} {mg : Str → Option Value} {base : Heap}
theorem okLI (D : Defs K mg) : FnOk P w K mg base CX0 1 D.fLI D.dLI ["self", "many"] (spLI D.CL) := ok_LI D.FLI D.T
theorem okRoot (D : Defs K mg) : FnOk P w K mg base CX0 1 D.fRoot D.dRoot ["self", "at"] (spRoot D.CL) := ok_root D.FRoot D.T
theorem okGlue (D : Defs K mg) : FnOk P w K mg base CX0 2 D.fGlue D.dGlue ["self", "one", "other"] (spGlue D.CL) := ok_glue D.FGlue D.T D.FRoot D.bRoot D.mRoot
theorem okCls (D : Defs K mg) : FnOk P w K mg base CX0 2 D.fCls D.dCls ["self"] (spClasses D.CL) := ok_classes D.FCls D.T D.FRoot D.bRoot D.mRoot

/-! ### corners -/
def spCor : Sp := fun vs H Q _ => ∃ (g : Addr) (G : List (Nat × Nat)) (row : List Int), vs = [.int (row.length : Int), .ref g] ∧ GluAt H g G ∧ IsGl row G ∧ row ≠ [] ∧ row.length ≤ 60 ∧
  ∀ (H' : Hp) (t : Addr) (xs : List V), Same H H' → H' t = some (.tup xs) → xs.length = Tw.corners row.length G → Q (.ref t) H'
theorem scCor : FnScope ["many", "gluing", "lots", "one", "other"] ["many", "gluing"] (defScope sCorners) := ⟨rfl, rfl, rfl, by decide +kernel, rfl, by decide +kernel, by decide +kernel⟩
theorem okCor (D : Defs K mg) : FnOk P w K mg base CX0 3 D.fCor D.dCor ["many", "gluing"] spCor := by
  refine D.FCor.ok scCor (fun vs H Q E h => ?_) (fun cdv A outer s H vs Q E hr h => ?_)
  · obtain ⟨g, G, row, rfl, _⟩ := h; rfl
  · obtain ⟨g, G, row, rfl, ⟨gx, hg, hG⟩, hgl, hne, hlen, k⟩ := h
    have T := D.T
    have hr1 : Room 1 _ := hr.mono (by decide)
    refine ⟨_, pss_cons (ps_set (i := 2) scCor.nd rfl (Or.inl rfl) (pe_make D.MLI (okLI D) hr rfl T.mgL D.bLI .nil pass0 (pa_cons (pv 0) pa_nil)))
      (pss_cons (ps_for PassesOwn.never rfl (pi_tup (pv 1)) (pg_tup rfl (pgs_cons (pg_name (i := 3) scCor.nd rfl (Or.inl rfl)) (pgs_cons (pg_name (i := 4) scCor.nd rfl (Or.inl rfl)) pgs_nil)))
        (pss_cons (ps_expr (pe_meth (pv 2) T.clL D.mGlue (okGlue D) hr D.bGlue .nil pass0 (pa_cons (pv 3) (pa_cons (pe_op op_mod (pe_op op_add (pv 4) pe_int) (pv 0)) pa_nil))))
        (pss_one (ps_expr (pe_meth (pv 2) T.clL D.mGlue (okGlue D) hr D.bGlue .nil pass0 (pa_cons (pe_op op_mod (pe_op op_add (pv 3) pe_int) (pv 0)) (pa_cons (pv 4) pa_nil)))))))
      (pss_one (ps_ret (pe_meth0 (pv 2) T.clL D.mCls (okCls D) hr D.bCls .nil pass0)))), ?_⟩
    have n0 : 0 < row.length := List.length_pos_iff.mpr hne
    refine ⟨_, rfl, fun p dx hp hdx ndx => ?_⟩
    refine ⟨p, dx, row.length, rfl, upd_same, by omega, fun l hl => ⟨rfl, ?_⟩⟩
    -- what stands behind Lots(many)
    have npl : l ≠ p := fun z => by rw [z, upd_same] at hl; cases hl
    have hl0 : upd H dx (HO.own p) l = none := by rw [upd_ne npl] at hl; exact hl
    have nld : l ≠ dx := fun z => by rw [z, upd_same] at hl0; cases hl0
    have hl1 : H l = none := by rw [upd_ne nld] at hl0; exact hl0
    have s1 : Same H (upd (upd (upd (upd H dx (.own p)) p (.ins D.CL dx [])) l (.lst (iv (List.range row.length)))) p (.ins D.CL dx (pfA l))) := fun b o e => by
      have b1 := ne_of_none e hp
      have b2 := ne_of_none e hdx
      have b3 := ne_of_none e hl1
      rw [upd_ne b1, upd_ne b3, upd_ne b1, upd_ne b2]; exact e
    generalize hH1 : upd (upd (upd (upd H dx (.own p)) p (.ins D.CL dx [])) l (.lst (iv (List.range row.length)))) p (.ins D.CL dx (pfA l)) = H1 at s1
    have at1 : LotsAt D.CL H1 p l (List.range row.length) := by
      rw [← hH1]
      exact ⟨dx, upd_same, by rw [upd_ne npl, upd_same]⟩
    have nd := hgl.1.facts
    refine ⟨_, rfl, g, rfl, ⟨gx, SqT.of (s1 _ _ hg)⟩, for_tup (K := K) (a := g) (xs := gx) (fun i σ H' => ∃ ab u v, σ = [some (.int (row.length : Int)), some (.ref g), some (.ref p), u, v] ∧ Same H H' ∧ LotsAt D.CL H' p l ab ∧ UF row.length ab (prs row.length (G.take i)))
      ⟨_, none, none, rfl, s1, at1, by simpa [prs] using UF.start row.length⟩ (fun i σ H' _ ⟨_, _, _, _, s2, _⟩ => SqT.of (s2 _ _ hg)) ?_ ?_⟩
    · rintro i x σ H' hi ⟨ab, u, v, rfl, s2, hat, uf⟩
      obtain ⟨a, q, rfl, hGi, ha⟩ := hG.at i hi
      obtain ⟨q1, q2, _⟩ := nd.lt q (List.mem_of_getElem? hGi)
      have noG : (pfA l).lookup ("glue" : Str) = none := pfA_no _ (by decide +kernel)
      refine ⟨a, _, rfl, SqT.of (s2 _ _ ha), rfl, _, _, rfl, _, _, rfl, rfl, ?_⟩
      obtain ⟨dx', hp', hl'⟩ := hat
      have npl' : p ≠ l := ne_of hp' hl' (by intro z; cases z)
      have m2 : (q.2 + 1) % row.length < row.length := Nat.mod_lt _ n0
      have m1 : (q.1 + 1) % row.length < row.length := Nat.mod_lt _ n0
      have e2 : (((q.2 : Nat) : Int) + 1) % (row.length : Int) = (((q.2 + 1) % row.length : Nat) : Int) := by rw [Int.natCast_emod]; rfl
      have e1 : (((q.1 : Nat) : Int) + 1) % (row.length : Int) = (((q.1 + 1) % row.length : Nat) : Int) := by rw [Int.natCast_emod]; rfl
      -- lots.glue(one, (other + 1) % many)
      refine ⟨_, rfl, p, dx', _, rfl, hp', noG, _, rfl, _, rfl, _, _, rfl, rfl, _, rfl, _, _, rfl, rfl, by omega, ?_⟩
      have uf1 := uf.glue (a := q.1) (b := (q.2 + 1) % row.length) (by omega) m2
      refine ⟨p, l, q.1, (q.2 + 1) % row.length, ab, (by rw [← e2]; rfl), ⟨dx', hp', hl'⟩, fun y hy => uf.le y (by rw [← uf.len]; exact hy), by rw [uf.len]; omega, by rw [uf.len]; exact m2, ?_⟩
      -- lots.glue((one + 1) % many, other)
      refine ⟨_, rfl, p, dx', _, rfl, (by rw [upd_ne npl']; exact hp'), noG, _, rfl, _, _, rfl, rfl, _, rfl, _, _, rfl, rfl, by omega, _, rfl, ?_⟩
      have uf2 := uf1.glue (a := (q.1 + 1) % row.length) (b := q.2) m1 q2
      refine ⟨p, l, (q.1 + 1) % row.length, q.2, _, (by rw [← e1]; rfl), ⟨dx', by rw [upd_ne npl']; exact hp', upd_same⟩, fun y hy => uf1.le y (by rw [← uf1.len]; exact hy), by rw [uf1.len]; exact m1, by rw [uf1.len]; exact q2, ?_⟩
      rw [upd_upd]
      refine ⟨_, _, _, rfl, fun b o e => ?_, ⟨dx', by rw [upd_ne npl']; exact hp', upd_same⟩, ?_⟩
      · have nbl : b ≠ l := ne_of_none e hl1
        rw [upd_ne nbl]; exact s2 _ _ e
      · rw [Tw.take_succ hGi, Tw.prs_snoc]
        exact uf2
    · rintro σ H' ⟨ab, u, v, rfl, s2, hat, uf⟩
      rw [hG.length, List.take_length] at uf
      obtain ⟨dx', hp', hl'⟩ := hat
      refine ⟨_, rfl, p, dx', _, rfl, hp', pfA_no _ (by decide +kernel), p, l, ab, rfl, ⟨dx', hp', hl'⟩, fun y hy => uf.le y (by rw [← uf.len]; exact hy), by rw [uf.len]; exact hlen, fun H2 t xs s3 ht hx => ?_⟩
      obtain ⟨tops, t1, t2, t3⟩ := hx
      refine k H2 t xs (s2.trans s3) ht ?_
      rw [t3]
      exact Tw.roots_corners hgl hne uf t1 fun x => by rw [t2, uf.len]

/-! ### handles -/
def spHan : Sp := fun vs H Q _ => ∃ (g : Addr) (G : List (Nat × Nat)) (row : List Int), vs = [.int (row.length : Int), .ref g] ∧ GluAt H g G ∧ IsGl row G ∧ (∀ x ∈ row, x ≠ 0) ∧ row.length ≤ 60 ∧
  ∀ (H' : Hp), Same H H' → Q (.int ((Tw.handles row.length G : Nat) : Int)) H'
theorem scHan : FnScope ["many", "gluing"] ["many", "gluing"] (defScope sHandles) := ⟨rfl, rfl, rfl, by decide +kernel, rfl, by decide +kernel, by decide +kernel⟩
theorem handles_nil {G : List (Nat × Nat)} (h : IsGl [] G) : Tw.handles 0 G = 0 := by
  have : G = [] := by
    have := h.length
    have e : ([] : List Int).length = 0 := rfl
    exact List.eq_nil_of_length_eq_zero (by omega)
  subst this
  rfl
theorem handles_int {row : List Int} {G : List (Nat × Nat)} (h : IsGl row G) (h0 : ∀ x ∈ row, x ≠ 0) : ((row.length : Int) / 2 + 1 - (Tw.corners row.length G : Int)) / 2 = ((Tw.handles row.length G : Nat) : Int) := by
  obtain ⟨h1, h2⟩ := h.even h0
  have := h.length
  unfold Tw.handles
  omega
theorem okHan (D : Defs K mg) : FnOk P w K mg base CX0 4 D.fHan D.dHan ["many", "gluing"] spHan := by
  refine D.FHan.ok scHan (fun vs H Q E h => ?_) (fun cdv A outer s H vs Q E hr h => ?_)
  · obtain ⟨g, G, row, rfl, _⟩ := h; rfl
  · obtain ⟨g, G, row, rfl, hg, hgl, h0, hlen, k⟩ := h
    have T := D.T
    refine ⟨_, pss_cons (ps_if (pt_cmpR op_eq (pv 0) pe_int (nomark _)) (pss_one (ps_ret pe_int)) pss_nil)
      (pss_one (ps_ret (pe_op op_fdiv (pe_op op_sub (pe_op op_add (pe_op op_fdiv (pv 0) pe_int) pe_int) (pe_callB call_len_seq (by rfl) T.len PySem.boot_len (pa_cons (pe_call (okCor D) hr rfl D.gCor D.FCor.kp D.bCor .nil pass0 (pa_cons (pv 0) (pa_cons (pv 1) pa_nil))) pa_nil))) pe_int))), ?_⟩
    refine ⟨_, rfl, rfl, _, rfl, ?_⟩
    by_cases c : row = []
    · subst c
      refine iteT ?_
      have := handles_nil hgl
      have kk := k H (Same.refl H)
      rw [show ([] : List Int).length = 0 from rfl, this] at kk
      exact kk
    · have ne : ¬ V.int (row.length : Int) = V.int 0 := fun q => by
        injection q with q
        exact c (List.eq_nil_of_length_eq_zero (by omega))
      rw [decide_eq_false ne]
      refine iteF ?_
      refine ⟨_, rfl, _, _, rfl, rfl, ⟨by decide, by decide⟩, _, _, rfl, rfl, _, rfl, _, rfl, g, G, row, rfl, hg, hgl, c, hlen, fun H2 t xs s2 ht hx => ?_⟩
      refine ⟨t, xs, rfl, .inr (SqT.of ht), _, _, rfl, rfl, _, _, rfl, rfl, ⟨by decide, by decide⟩, ?_⟩
      show Q (V.int (((row.length : Int) / 2 + 1 - (xs.length : Int)) / 2)) H2
      rw [hx, handles_int hgl h0]
      exact k H2 s2

/-! ### sides_left -/
def spLeft : Sp := fun vs H Q _ => ∃ (g : Addr) (G : List (Nat × Nat)) (n : Nat), vs = [.int (n : Int), .ref g] ∧ GluAt H g G ∧ n ≤ 60 ∧ G.length ≤ 60 ∧
  ∀ (H' : Hp) (t : Addr), Same H H' → H t = none → H' t = some (.lst (iv (left n G))) → Q (.ref t) H'
theorem scLeft : FnScope ["many", "gluing", "taken", "side", "pair"] ["many", "gluing"] (defScope sLeft) := ⟨rfl, rfl, rfl, by decide +kernel, rfl, by decide +kernel, by decide +kernel⟩
theorem inV_iv (x : Nat) (xs : List Nat) : inV (.int (x : Int)) (iv xs) = xs.contains x := by
  unfold inV iv
  induction xs with
  | nil => rfl
  | cons a xs ih =>
    rw [List.map_cons, List.any_cons, ih, List.contains_cons]
    have : eqV (V.int (a : Int)) (V.int (x : Int)) = (x == a) := by
      show (((a : Int)) == (x : Int)) = _
      rw [Bool.eq_iff_iff]; simp; omega
    rw [this]
theorem flat_iv (xs : List Nat) : (iv xs).all flatV = true := by
  unfold iv
  rw [List.all_map]
  exact List.all_eq_true.mpr fun _ _ => rfl

/-- a walk by measure over a tuple, body by what it is to reach -/
theorem wlk_tup {K : PySem.W.Frag} {a : Addr} {xs : List V} {B : V → Hp → (Hp → Prop) → Prop} {H0 : Hp} {Qd : Hp → Prop} (Pv : Nat → Hp → Prop) (h0 : Pv 0 H0) (hl : ∀ i H, i ≤ xs.length → Pv i H → SqT K H a xs)
    (hs : ∀ i x H, xs[i]? = some x → Pv i H → B x H (Pv (i + 1))) (hd : ∀ H, Pv xs.length H → Qd H) :
    ∃ W : Nat → Nat → Hp → Prop, (∃ m, W 0 m H0) ∧ ∀ i m H, W i m H →
      ((Itt K a).stop i H ∧ Qd H) ∨ ((Itt K a).go i H ∧ ∃ Nx : Hp → Prop, (∀ H', Nx H' → ∃ m', m' < m ∧ W (i + 1) m' H') ∧ ∀ x H', (Itt K a).yld i H x H' → B x H' Nx) := by
  refine ⟨fun i m H => m = xs.length - i ∧ i ≤ xs.length ∧ Pv i H, ⟨xs.length, by simp, Nat.zero_le _, h0⟩, ?_⟩
  rintro i m H ⟨rfl, hi, p⟩
  have q := hl i H hi p
  by_cases hlt : i < xs.length
  · refine .inr ⟨⟨xs, xs[i], q, by simp [hlt]⟩, Pv (i + 1), fun H' p' => ⟨xs.length - (i + 1), by omega, rfl, hlt, p'⟩, fun x H' y => ?_⟩
    obtain ⟨e, y⟩ := y
    subst e
    exact hs i x _ (y xs q) p
  · have e : i = xs.length := by omega
    subst e
    exact .inl ⟨⟨xs, q, Nat.le_refl _⟩, hd H p⟩
theorem iv_snoc (xs : List Nat) (x : Nat) : iv xs ++ [.int (x : Int)] = iv (xs ++ [x]) := by simp [iv]
theorem okLeft (D : Defs K mg) : FnOk P w K mg base CX0 1 D.fLeft D.dLeft ["many", "gluing"] spLeft := by
  refine D.FLeft.ok scLeft (fun vs H Q E h => ?_) (fun cdv A outer s H vs Q E hr h => ?_)
  · obtain ⟨g, G, n, rfl, _⟩ := h; rfl
  · obtain ⟨g, G, n, rfl, ⟨gx, hg, hG⟩, hn, hGl, k⟩ := h
    have T := D.T
    refine ⟨_, pss_cons (ps_set (i := 2) scLeft.nd rfl (Or.inr rfl) (pe_lc2 (own := [("side", 3), ("pair", 4)]) (vs1 := [3]) (g := gName 4) (tt := tYes) (wi1 := iTup K (tVar 4)) (g1 := gName 3) (tt1 := tYes) (te := tVar 3) rfl scLeft.nd (pi_tup (pv 1))
        (blkOk_by (own := [("side", 3), ("pair", 4)]) (N := ["many", "gluing", "taken", "side", "pair"]) (sc := defScope sLeft) (by decide +kernel)) (by decide) (fun _ _ _ _ _ => pg_name (i := 4) scLeft.nd rfl (Or.inl rfl)) (fun _ _ _ _ _ => pts_nil)
        (fun _ _ _ _ _ => by exact pi_tup (pv 4)) (fun _ _ _ _ _ => pg_name (i := 3) scLeft.nd rfl (Or.inl rfl)) (fun _ _ _ _ _ => pts_nil) (fun _ _ _ _ _ => by exact pv 3)))
      (pss_one (ps_ret (pe_lc (own := [("side", 3)]) (g := gName 3) (tt := tTest (tOp (rIn K true) (tVar 3) (tVar 2))) (te := tVar 3) rfl scLeft.nd (pi_range1 rfl T.range (pa_cons (pv 0) pa_nil))
        (blkOk_by (own := [("side", 3)]) (N := ["many", "gluing", "taken", "side", "pair"]) (sc := defScope sLeft) (by decide +kernel)) (fun _ _ _ _ _ => pg_name (i := 3) scLeft.nd rfl (Or.inl rfl)) (fun _ _ _ _ _ => by exact pts_one (pt_cmpR op_notIn_seq (pv 3) (pv 2) rfl)) (fun _ _ _ _ _ => by exact pv 3)))), ?_⟩
    have n1 : (flat G).length ≤ 120 := by rw [Tw.flat_length]; omega
    refine ⟨_, rfl, g, rfl, ⟨gx, SqT.of hg⟩, fun t ht => ?_⟩
    refine wlk_tup (fun i H' => H' = upd H t (.lst (iv (flat (G.take i))))) rfl (fun i H' _ e => SqT.of (by rw [e, upd_ne (ne_of_none hg ht)]; exact hg)) ?_ ?_
    · rintro i x H' hi rfl
      obtain ⟨a, q, rfl, hGi, ha⟩ := hG.at i hi
      refine ⟨rfl, ?_⟩
      refine ⟨_, rfl, a, rfl, ⟨_, SqT.of (by rw [upd_ne (ne_of_none ha ht)]; exact ha)⟩, ?_⟩
      refine wlk_tup (fun j H' => H' = upd H t (.lst (iv (flat (G.take i) ++ [q.1, q.2].take j)))) (by simp) (fun j H' _ e => SqT.of (by rw [e, upd_ne (ne_of_none ha ht)]; exact ha)) ?_ ?_
      · rintro j y H' hj rfl
        have hlt : j < 2 := by
          have := (List.getElem?_eq_some_iff.mp hj).1
          simpa using this
        have hfl : (flat (G.take i)).length ≤ 120 := by
          rw [Tw.flat_length, List.length_take]; omega
        obtain ⟨z, hz⟩ : ∃ z : Nat, [q.1, q.2][j]? = some z := ⟨[q.1, q.2][j], by simp [hlt]⟩
        have hy : y = .int (z : Int) := by
          have e2 : [V.int (q.1 : Int), V.int (q.2 : Int)] = [q.1, q.2].map fun z : Nat => V.int (z : Int) := rfl
          rw [e2, List.getElem?_map, hz] at hj
          simpa using hj.symm
        subst hy
        refine ⟨rfl, ?_⟩
        refine ⟨_, rfl, _, upd_same, ?_, ?_⟩
        · simp only [iv, List.length_map, List.length_append, List.length_take, sizeLine]
          simp only [List.length_cons, List.length_nil]
          omega
        · rw [upd_upd, iv_snoc, List.append_assoc, Tw.take_succ hz]
      · rintro H' rfl
        show _ = _
        rw [Tw.take_succ hGi, Tw.flat_append, Tw.flat_one]
        rfl
    · rintro H' rfl
      rw [hG.length, List.take_length]
      refine ⟨_, rfl, _, rfl, by omega, by omega, fun t2 ht2 => ?_⟩
      have n2 : t2 ≠ t := fun z => by rw [z, upd_same] at ht2; cases ht2
      have h2 : H t2 = none := by rw [upd_ne n2] at ht2; exact ht2
      refine lc_range (fun i H' => H' = upd (upd H t (.lst (iv (flat G)))) t2 (.lst (iv ((List.range i).filter fun z => !(flat G).contains z)))) rfl ?_ ?_
      · rintro i H' hi rfl
        refine ⟨rfl, ?_⟩
        refine ⟨_, rfl, _, rfl, t, iv (flat G), rfl, .inl (SqL.of (by rw [upd_ne n2.symm, upd_same])), rfl, flat_iv _, ?_⟩
        refine ⟨_, rfl, ?_⟩
        have e0 : (0 : Int) + (i : Int) = ((i : Nat) : Int) := by omega
        rw [show inV (V.int (0 + (i : Int))) (iv (flat G)) = (flat G).contains i by rw [e0]; exact inV_iv _ _]
        rw [List.range_succ, List.filter_append, List.filter_cons, List.filter_nil]
        cases c : (flat G).contains i with
        | true =>
          refine iteF ?_
          simp only [Bool.not_true, Bool.false_eq_true, if_false, List.append_nil]
        | false =>
          refine iteT ?_
          refine ⟨_, rfl, _, upd_same, ?_, ?_⟩
          · have : ((List.range i).filter fun z => !(flat G).contains z).length ≤ i := by
              have := List.length_filter_le (fun z => !(flat G).contains z) (List.range i)
              rwa [List.length_range] at this
            simp only [iv, List.length_map, sizeLine]
            have : i < n := hi
            omega
          · rw [e0, upd_upd, iv_snoc]
            rfl
      · rintro H' rfl
        refine k _ t2 ?_ h2 upd_same
        exact fun b o e => by rw [upd_ne (ne_of_none e h2), upd_ne (ne_of_none e ht)]; exact e
end
end K94
end

-- text TwWord
section
set_option Elab.async false
set_option linter.all false
set_option maxRecDepth 100000
set_option maxHeartbeats 4000000
/-! short_form, opposite_letters, the class Word. -/
namespace K94
open PySem PySem.Spec PyProof.Rows L2
open Tw (red opp)

def LetOk (ws : List Int) : Prop := ∀ x ∈ ws, x ≠ 0 ∧ -4 ≤ x ∧ x ≤ 4
theorem LetOk.append {u v : List Int} (a : LetOk u) (b : LetOk v) : LetOk (u ++ v) := fun x hx => (List.mem_append.mp hx).elim (a x) (b x)
theorem LetOk.opp {u : List Int} (a : LetOk u) : LetOk (opp u) := fun x hx => by
  have := a (-x) (Tw.mem_opp.mp hx); omega
theorem LetOk.red {u : List Int} (a : LetOk u) : LetOk (red u) := fun x hx => a x (Tw.red_mem hx)
theorem lv_append (u v : List Int) : lv (u ++ v) = lv u ++ lv v := by simp [lv]

/-- one more letter onto the stack -/
theorem red_take {ws : List Int} {i : Nat} {a : Int} (h : ws[i]? = some a) : red (ws.take (i + 1)) = if (red (ws.take i)).getLast? = some (-a) then (red (ws.take i)).dropLast else red (ws.take i) ++ [a] := by
  rw [Tw.take_succ h, Tw.red_snoc]

def spShort (K : PySem.W.Frag) : Sp := fun vs H Q _ => ∃ (a : Addr) (ws : List Int), vs = [.ref a] ∧ SqA K H a (lv ws) ∧ ws.length ≤ 400 ∧
  ∀ (H' : Hp) (t : Addr) (o : Obj), Same H H' → H' t = some (.frz o (.tup (lv (red ws)))) → o.dict = none → Q (.ref t) H'
def spOpp (K : PySem.W.Frag) : Sp := fun vs H Q _ => ∃ (a : Addr) (ws : List Int), vs = [.ref a] ∧ SqT K H a (lv ws) ∧ ws.length ≤ 400 ∧
  ∀ (H' : Hp) (t : Addr), Same H H' → SqT K H' t (lv (opp ws)) → Q (.ref t) H'
def spWI (K : PySem.W.Frag) (C : Addr) : Sp := fun vs H Q _ => ∃ (p dx a : Addr) (ws : List Int), vs = [.ref p, .ref a] ∧ H p = some (.ins C dx []) ∧ SqA K H a (lv ws) ∧ ws.length ≤ 200 ∧ LetOk ws ∧
  ∀ (H' : Hp) (t : Addr) (o : Obj), (∀ b u, b ≠ p → H b = some u → H' b = some u) → H' p = some (.ins C dx (pfL t)) → H' t = some (.frz o (.tup (lv (red ws)))) → o.dict = none → Q .non H'
def spMul (C : Addr) : Sp := fun vs H Q _ => ∃ (p q : Addr) (u v : List Int), vs = [.ref p, .ref q] ∧ WordAt C H p u ∧ WordAt C H q v ∧ u.length + v.length ≤ 200 ∧ LetOk u ∧ LetOk v ∧
  ∀ (H' : Hp) (r : Addr), Same H H' → WordAt C H' r (red (u ++ v)) → Q (.ref r) H'
def spInv (C : Addr) : Sp := fun vs H Q _ => ∃ (p : Addr) (u : List Int), vs = [.ref p] ∧ WordAt C H p u ∧ u.length ≤ 200 ∧ LetOk u ∧
  ∀ (H' : Hp) (r : Addr), Same H H' → WordAt C H' r (red (opp u)) → Q (.ref r) H'
def spLen (C : Addr) : Sp := fun vs H Q _ => ∃ (p : Addr) (u : List Int), vs = [.ref p] ∧ WordAt C H p u ∧ Q (.int (u.length : Int)) H
def spComm (C : Addr) : Sp := fun vs H Q _ => ∃ (p q : Addr) (u v : List Int), vs = [.ref p, .ref q] ∧ WordAt C H p u ∧ WordAt C H q v ∧ u.length + v.length ≤ 100 ∧ LetOk u ∧ LetOk v ∧
  ∀ (H' : Hp) (r : Addr), Same H H' → WordAt C H' r (red (u ++ v ++ opp u ++ opp v)) → Q (.ref r) H'
def balB (u : List Int) : Bool := [1, 2, 3, 4].all fun (x : Int) => u.count x == u.count (-x)
def spBal (C : Addr) : Sp := fun vs H Q _ => ∃ (p : Addr) (u : List Int), vs = [.ref p] ∧ WordAt C H p u ∧ Q (.bl (balB u)) H

section
variable {P : Program} {w : World} {K : PySem.W.Frag} {mg : Str → Option Value} {base : Heap}
theorem scShort : FnScope ["letters", "short", "letter"] ["letters"] (defScope sShort) := ⟨rfl, rfl, rfl, by decide +kernel, rfl, by decide +kernel, by decide +kernel⟩
theorem lv_last {r : List Int} {b : Int} (h : r.getLast? = some b) : atI (lv r) (-1) = some (.int b) := by
  have hne : r ≠ [] := by intro z; rw [z] at h; simp at h
  have e : r = r.dropLast ++ [b] := by
    rw [List.getLast?_eq_some_getLast hne] at h
    rw [← Option.some.inj h]
    exact (List.dropLast_concat_getLast hne).symm
  rw [e, lv_append]
  exact atI_last _ _
theorem lv_dropLast (r : List Int) : (lv r).dropLast = lv r.dropLast := by
  unfold lv; rw [List.map_dropLast]
theorem okShort (D : Defs K mg) : FnOk P w K mg base CX0 1 D.fShort D.dShort ["letters"] (spShort K) := by
  refine D.FShort.ok scShort (fun vs H Q E h => ?_) (fun cdv A outer s H vs Q E hr h => ?_)
  · obtain ⟨a, ws, rfl, _⟩ := h; rfl
  · obtain ⟨a, ws, rfl, hq, hz, k⟩ := h
    have T := D.T
    refine ⟨_, pss_cons (ps_set (i := 1) scShort.nd rfl (Or.inl rfl) (pe_lst pa_nil))
      (pss_cons (ps_for PassesOwn.never rfl (pi_seq (pv 0)) (pg_name (i := 2) scShort.nd rfl (Or.inl rfl))
        (pss_one (ps_if (PW.pt (pw_and (pt_cmpR op_gt (pe_callB call_len_seq (by rfl) T.len PySem.boot_len (pa_cons (pv 1) pa_nil)) pe_int (nomark _)) (pw_and1 (pt_cmpR op_eq (pe_ix ix_list (pv 1) (pe_un un_neg pe_int) (fun _ _ => rfl)) (pe_un un_neg (pv 2)) (nomark _)))))
          (pss_one (ps_expr (pe_bm0 PySem.F.plainAttrs_list PySem.F.slot_list_pop PySem.F.type_list_pop mt_pop (pv 1))))
          (pss_one (ps_expr (pe_bm PySem.F.plainAttrs_list PySem.F.slot_list_append PySem.F.type_list_append mt_append (pv 1) (pa_cons (pv 2) pa_nil)))))))
      (pss_one (ps_ret (pe_callTy call_tupleF (by rfl) T.tuple (by decide +kernel) (pa_cons (pv 1) pa_nil))))), ?_⟩
    refine ⟨by decide, fun l hl => ?_⟩
    refine ⟨_, rfl, a, lv ws, rfl, for_seq hq (fun i σ H' => ∃ u, σ = [some (.ref a), some (.ref l), u] ∧ H' = upd H l (.lst (lv (red (ws.take i))))) ⟨_, rfl, by simp [red, lv]⟩ ?_ ?_ ?_⟩
    · rintro i σ' H' ⟨u, _, rfl⟩
      exact same_upd hl
    · rintro i x σ' H' hx ⟨u, rfl, rfl⟩
      obtain ⟨b, hb, rfl⟩ : ∃ b, ws[i]? = some b ∧ x = .int b := by
        unfold lv at hx
        rw [List.getElem?_map] at hx
        cases hw : ws[i]? with
        | none => rw [hw] at hx; simp at hx
        | some b => rw [hw] at hx; exact ⟨b, rfl, by simpa using hx.symm⟩
      have hrl : (red (ws.take i)).length ≤ 400 := Nat.le_trans (Tw.red_length _) (by rw [List.length_take]; omega)
      have hstep := red_take hb
      generalize hr0 : red (ws.take i) = r at hrl hstep
      -- len(short) > 0
      refine ⟨_, rfl, l, _, rfl, .inl (SqL.of upd_same), _, _, rfl, rfl, _, rfl, ?_⟩
      have done : ∀ r', red (ws.take (i + 1)) = r' → ∀ σ2 : St, σ2 = [some (V.ref a), some (V.ref l), some (V.int b)] → ∃ u, σ2 = [some (V.ref a), some (V.ref l), u] ∧ upd (upd H l (.lst (lv r))) l (.lst (lv r')) = upd H l (.lst (lv (red (ws.take (i + 1))))) := fun r' e σ2 e2 => ⟨_, e2, by rw [upd_upd, e]⟩
      have push : r.getLast? ≠ some (-b) → _ := fun c => by rw [if_neg c] at hstep; exact hstep
      have psh : r.getLast? ≠ some (-b) → lv r ++ [V.int b] = lv (red (ws.take (i + 1))) := fun c => by rw [push c, lv_append]; rfl
      refine ite2 (fun c => ?_) (fun c => ?_)
      · have hne : r ≠ [] := by intro z; subst z; simp [lv] at c
        obtain ⟨y, hy⟩ : ∃ y, r.getLast? = some y := ⟨r.getLast hne, List.getLast?_eq_some_getLast hne⟩
        refine ⟨_, rfl, _, rfl, l, _, _, _, rfl, rfl, SqL.of upd_same, lv_last hy, _, rfl, _, rfl, rfl, _, rfl, ?_⟩
        refine ite2 (fun c2 => ?_) (fun c2 => ?_)
        · have e : y = -b := by
            have := of_decide_eq_true c2
            injection this
          rw [e] at hy
          rw [if_pos hy] at hstep
          have hl2 : 0 < r.length := List.length_pos_iff.mpr hne
          refine ⟨_, rfl, .inl ⟨rfl, _, SqL.of upd_same⟩, l, _, .int y, rfl, rfl, upd_same, ?_, ?_⟩
          · rw [e, lv_length]
            unfold lv
            rw [List.getElem?_map, ← List.getLast?_eq_getElem?, hy]; rfl
          · rw [lv_dropLast]
            exact done _ hstep _ rfl
        · have e : r.getLast? ≠ some (-b) := fun z => c2 (by
            rw [hy] at z
            rw [Option.some.inj z]; simp)
          refine ⟨_, rfl, .inl ⟨rfl, _, SqL.of upd_same⟩, _, rfl, l, _, _, rfl, rfl, upd_same, by rw [lv_length, sizeLine_eq]; omega, ?_⟩
          rw [psh e]
          exact done _ rfl _ rfl
      · have e : r.getLast? ≠ some (-b) := fun z => by
          have hne : r ≠ [] := by intro z2; rw [z2] at z; simp at z
          have hl2 : 0 < r.length := List.length_pos_iff.mpr hne
          exact c (by rw [lv_length]; simp; omega)
        refine ⟨_, rfl, .inl ⟨rfl, _, SqL.of upd_same⟩, _, rfl, l, _, _, rfl, rfl, upd_same, by rw [lv_length, sizeLine_eq]; omega, ?_⟩
        rw [psh e]
        exact done _ rfl _ rfl
    · rintro σ' H' ⟨u, rfl, rfl⟩
      refine ⟨_, rfl, l, _, rfl, SqL.of upd_same, fun t o ht hd => ?_⟩
      have hlt : t ≠ l := fun z => by rw [z, upd_same] at ht; cases ht
      rw [lv_length, List.take_length]
      exact k _ t o (Same.upd (same_upd hl) (by rw [upd_ne hlt] at ht; exact ht)) upd_same hd

theorem scOpp : FnScope ["letters", "letter"] ["letters"] (defScope sOpp) := ⟨rfl, rfl, rfl, by decide +kernel, rfl, by decide +kernel, by decide +kernel⟩
theorem okOpp (D : Defs K mg) : FnOk P w K mg base CX0 1 D.fOpp D.dOpp ["letters"] (spOpp K) := by
  refine D.FOpp.ok scOpp (fun vs H Q E h => ?_) (fun cdv A outer s H vs Q E hr h => ?_)
  · obtain ⟨a, ws, rfl, _⟩ := h; rfl
  · obtain ⟨a, ws, rfl, hq, hz, k⟩ := h
    have T := D.T
    refine ⟨_, pss_one (ps_ret (pe_callTy call_tuple_of (by rfl) T.tuple (by decide +kernel) (pa_cons (pe_lc (own := [("letter", 1)]) (g := gName 1) (tt := tYes) (te := tUn (rU fun i => .int (-i)) (tVar 1)) rfl scOpp.nd (pi_tup (pe_revT (pv 0)))
      (blkOk_by (own := [("letter", 1)]) (N := ["letters", "letter"]) (sc := defScope sOpp) (by decide +kernel)) (fun _ _ _ _ _ => pg_name (i := 1) scOpp.nd rfl (Or.inl rfl)) (fun _ _ _ _ _ => pts_nil) (fun _ _ _ _ _ => by exact pe_un un_neg (pv 1))) pa_nil))), ?_⟩
    refine ⟨_, rfl, a, _, rfl, hq, fun p hp => ?_⟩
    refine ⟨p, rfl, ⟨_, SqT.of upd_same⟩, fun t ht => ?_⟩
    have htp : t ≠ p := fun z => by rw [z, upd_same] at ht; cases ht
    have ht0 : H t = none := by rw [upd_ne htp] at ht; exact ht
    refine lc_tup (xs := (lv ws).reverse) (fun i H' => H' = upd (upd H p (.tup (lv ws).reverse)) t (.lst (lv ((ws.reverse.take i).map fun x => -x)))) (by simp [lv]) (fun i H' _ e => SqT.of (by rw [e, upd_ne htp.symm, upd_same])) ?_ ?_
    · rintro i x H' hx rfl
      obtain ⟨b, hb, rfl⟩ : ∃ b, ws.reverse[i]? = some b ∧ x = .int b := by
        unfold lv at hx
        rw [← List.map_reverse, List.getElem?_map] at hx
        cases hw : ws.reverse[i]? with
        | none => rw [hw] at hx; simp at hx
        | some b => rw [hw] at hx; exact ⟨b, rfl, by simpa using hx.symm⟩
      refine ⟨rfl, ?_⟩
      refine ⟨_, rfl, _, rfl, _, upd_same, ?_, ?_⟩
      · rw [lv_length, List.length_map, List.length_take, List.length_reverse, sizeLine_eq]; omega
      · rw [upd_upd, Tw.take_succ hb, List.map_append, lv_append]
        rfl
    · rintro H' rfl
      refine ⟨t, _, rfl, .inl ⟨SqL.of upd_same, fun l hl => ?_⟩⟩
      have hl0 : H l = none := by
        have h1 : l ≠ t := fun z => by rw [z, upd_same] at hl; cases hl
        rw [upd_ne h1] at hl
        have h2 : l ≠ p := fun z => by rw [z, upd_same] at hl; cases hl
        rwa [upd_ne h2] at hl
      refine k _ l (Same.upd (Same.upd (same_upd hp) ht0) hl0) (SqT.of ?_)
      rw [upd_same]
      have e : (ws.reverse.take (lv ws).reverse.length).map (fun x => -x) = opp ws := by
        rw [List.length_reverse, lv_length, List.take_of_length_le (by simp)]
        unfold Tw.opp
        rw [List.map_reverse]
      rw [e]

theorem scWI : FnScope ["self", "letters", "letter", "short"] ["self", "letters"] (defScope sWordInit) := ⟨rfl, rfl, rfl, by decide +kernel, rfl, by decide +kernel, by decide +kernel⟩
theorem okWI (D : Defs K mg) : FnOk P w K mg base CX0 2 D.fWI D.dWI ["self", "letters"] (spWI K D.CW) := by
  refine D.FWI.ok scWI (fun vs H Q E h => ?_) (fun cdv A outer s H vs Q E hr h => ?_)
  · obtain ⟨p, dx, a, ws, rfl, _⟩ := h; rfl
  · obtain ⟨p, dx, a, ws, rfl, hp, hq, hz, hlet, k⟩ := h
    have T := D.T
    obtain ⟨tk, hk⟩ := T.kinds
    obtain ⟨tl, hlt⟩ := T.letters
    refine ⟨_, pss_cons (ps_for PassesOwn.never rfl (pi_seq (pv 1)) (pg_name (i := 2) scWI.nd rfl (Or.inl rfl))
        (pss_one (ps_if (pt_not (pt_chain op_le op_le pe_int (pe_callB call_abs (by rfl) T.abs (by decide +kernel) (pa_cons (pv 2) pa_nil)) (pe_glob rfl hk (show RelV (.int 4) (.int 4 tk) from ⟨_, rfl⟩)))) (pss_one ps_never) pss_nil)))
      (pss_cons (ps_set (i := 3) scWI.nd rfl (Or.inl rfl) (pe_call (okShort D) hr rfl D.gShort D.FShort.kp D.bShort .nil pass0 (pa_cons (pv 1) pa_nil)))
      (pss_cons (ps_if (pt_cmpR op_gt (pe_callB call_len_seq (by rfl) T.len PySem.boot_len (pa_cons (pv 3) pa_nil)) (pe_glob rfl hlt (show RelV (.int 200) (.int 200 tl) from ⟨_, rfl⟩)) (nomark _)) (pss_one ps_never) pss_nil)
      (pss_one (ps_fld (pv 0) (pv 3) rfl)))), ?_⟩
    refine ⟨_, rfl, a, lv ws, rfl, for_seq hq (fun i σ H' => ∃ u, σ = [some (.ref p), some (.ref a), u, none] ∧ H' = H) ⟨_, rfl, rfl⟩ (fun i σ' H' ⟨u, _, e⟩ => by rw [e]; exact Same.refl _) ?_ ?_⟩
    · rintro i x σ' H' hx ⟨u, rfl, rfl⟩
      obtain ⟨b, hb, rfl⟩ : ∃ b, ws[i]? = some b ∧ x = .int b := by
        unfold lv at hx
        rw [List.getElem?_map] at hx
        cases hw : ws[i]? with
        | none => rw [hw] at hx; simp at hx
        | some b => rw [hw] at hx; exact ⟨b, rfl, by simpa using hx.symm⟩
      obtain ⟨b0, b1, b2⟩ := hlet b (List.mem_of_getElem? hb)
      refine ⟨_, rfl, _, rfl, _, _, rfl, rfl, _, rfl, ?_⟩
      have c1 : decide ((1 : Int) ≤ if b < 0 then -b else b) = true := by
        apply decide_eq_true; split <;> omega
      have c2 : decide ((if b < 0 then -b else b) ≤ 4) = true := by
        apply decide_eq_true; split <;> omega
      rw [c1]
      refine iteT ?_
      refine ⟨_, _, rfl, rfl, _, rfl, ?_⟩
      rw [c2]
      exact iteF ⟨_, rfl, rfl⟩
    · rintro σ' H' ⟨u, rfl, rfl⟩
      refine ⟨_, rfl, a, ws, rfl, hq, by omega, fun H2 t o s2 ht hd => ?_⟩
      refine ⟨_, rfl, t, _, rfl, .inr (SqT.ofF ht), _, _, rfl, rfl, _, rfl, ?_⟩
      have hrl : (red ws).length ≤ 200 := Nat.le_trans (Tw.red_length _) hz
      have c : decide (((lv (red ws)).length : Int) > 200) = false := by
        apply decide_eq_false; rw [lv_length]; omega
      rw [c]
      refine iteF ?_
      refine ⟨_, rfl, _, rfl, p, D.CW, dx, [], rfl, s2 _ _ hp, T.clW, T.nL, (by decide), ?_⟩
      have npt : t ≠ p := ne_of ht (s2 _ _ hp) (by intro z; cases z)
      exact k _ t o (fun b v hb e => by rw [upd_ne hb]; exact s2 _ _ e) upd_same (by rw [upd_ne npt]; exact ht) hd
/-- Word(xs) made -/
theorem mk_word {C : Addr} {H0 : Hp} {p dx a : Addr} {ws : List Int} {Q : VK} {E : XK} (hp : H0 p = none) (hdx : H0 dx = none) (ne : dx ≠ p) (hq : SqA K H0 a (lv ws)) (hz : ws.length ≤ 200) (hl : LetOk ws)
    (k : ∀ H' p', Same H0 H' → WordAt C H' p' (red ws) → Q (.ref p') H') : spWI K C [.ref p, .ref a] (upd (upd H0 dx (.own p)) p (.ins C dx [])) (fun v H2 => v = .non ∧ Q (.ref p) H2) E := by
  have s0 : Same H0 (upd (upd H0 dx (.own p)) p (.ins C dx [])) := Same.upd (same_upd hdx) hp
  refine ⟨p, dx, a, ws, rfl, upd_same, hq.same s0, hz, hl, fun H' t o hk h1 h2 h3 => ⟨rfl, ?_⟩⟩
  exact k H' p (fun b u e => hk b u (ne_of_none e hp) (s0 b u e)) ⟨dx, t, o, h1, h2, h3⟩

theorem scMul : FnScope ["self", "other"] ["self", "other"] (defScope sMul) := ⟨rfl, rfl, rfl, by decide +kernel, rfl, by decide +kernel, by decide +kernel⟩
theorem okMul (D : Defs K mg) : FnOk P w K mg base CX0 4 D.fMul D.dMul ["self", "other"] (spMul D.CW) := by
  refine D.FMul.ok scMul (fun vs H Q E h => ?_) (fun cdv A outer s H vs Q E hr h => ?_)
  · obtain ⟨p, q, u, v, rfl, _⟩ := h; rfl
  · obtain ⟨p, q, u, v, rfl, ⟨dx, t, o, hp, ht, ho⟩, ⟨dy, t2, o2, hq, ht2, ho2⟩, hz, lu, lv', k⟩ := h
    have T := D.T
    refine ⟨_, pss_one (ps_ret (pe_make D.MWI (okWI D) hr rfl T.mgW D.bWI .nil pass0 (pa_cons (pe_op op_catA (pe_fld (pv 0) rfl) (pe_fld (pv 1) rfl)) pa_nil))), ?_⟩
    refine ⟨_, rfl, p, D.CW, dx, _, _, rfl, hp, T.clW, T.nL, pfL_letters _, ?_⟩
    refine ⟨_, rfl, q, D.CW, dy, _, _, rfl, hq, T.clW, T.nL, pfL_letters _, ?_⟩
    refine rcat_any (SqT.ofF ht) (SqT.ofF ht2) (by rw [lv_length, lv_length, sizeLine_eq]; omega) fun H1 c s1 hc => ?_
    intro x dx' hx hdx ne
    refine mk_word (a := c) (ws := u ++ v) hx hdx ne (.inr (by rw [lv_append]; exact hc)) (by simp; omega) (lu.append lv') fun H2 r s2 hw => ?_
    exact k H2 r (s1.trans s2) hw
theorem scInv : FnScope ["self"] ["self"] (defScope sInv) := ⟨rfl, rfl, rfl, by decide +kernel, rfl, by decide +kernel, by decide +kernel⟩
theorem okInv (D : Defs K mg) : FnOk P w K mg base CX0 4 D.fInv D.dInv ["self"] (spInv D.CW) := by
  refine D.FInv.ok scInv (fun vs H Q E h => ?_) (fun cdv A outer s H vs Q E hr h => ?_)
  · obtain ⟨p, u, rfl, _⟩ := h; rfl
  · obtain ⟨p, u, rfl, ⟨dx, t, o, hp, ht, ho⟩, hz, lu, k⟩ := h
    have T := D.T
    refine ⟨_, pss_one (ps_ret (pe_make D.MWI (okWI D) hr rfl T.mgW D.bWI .nil pass0 (pa_cons (pe_call (okOpp D) (hr.mono (by decide)) rfl D.gOpp D.FOpp.kp D.bOpp .nil pass0 (pa_cons (pe_fld (pv 0) rfl) pa_nil)) pa_nil))), ?_⟩
    refine ⟨_, rfl, p, D.CW, dx, _, _, rfl, hp, T.clW, T.nL, pfL_letters _, ?_⟩
    refine ⟨t, u, rfl, SqT.ofF ht, by omega, fun H1 c s1 hc => ?_⟩
    intro x dx' hx hdx ne
    refine mk_word (a := c) (ws := opp u) hx hdx ne (.inr hc) (by rw [Tw.opp_length]; exact hz) lu.opp fun H2 r s2 hw => ?_
    exact k H2 r (s1.trans s2) hw
theorem scLen : FnScope ["self"] ["self"] (defScope sLen) := ⟨rfl, rfl, rfl, by decide +kernel, rfl, by decide +kernel, by decide +kernel⟩
theorem okLen (D : Defs K mg) : FnOk P w K mg base CX0 1 D.fLen D.dLen ["self"] (spLen D.CW) := by
  refine D.FLen.ok scLen (fun vs H Q E h => ?_) (fun cdv A outer s H vs Q E hr h => ?_)
  · obtain ⟨p, u, rfl, _⟩ := h; rfl
  · obtain ⟨p, u, rfl, ⟨dx, t, o, hp, ht, ho⟩, k⟩ := h
    have T := D.T
    refine ⟨_, pss_one (ps_ret (pe_callB call_len_seq (by rfl) T.len PySem.boot_len (pa_cons (pe_fld (pv 0) rfl) pa_nil))), ?_⟩
    refine ⟨_, rfl, p, D.CW, dx, _, _, rfl, hp, T.clW, T.nL, pfL_letters _, ?_⟩
    refine ⟨t, _, rfl, .inr (SqT.ofF ht), ?_⟩
    rw [lv_length]
    exact k
theorem scComm : FnScope ["self", "other", "one", "two"] ["self", "other"] (defScope sComm) := ⟨rfl, rfl, rfl, by decide +kernel, rfl, by decide +kernel, by decide +kernel⟩
theorem okComm (D : Defs K mg) : FnOk P w K mg base CX0 4 D.fComm D.dComm ["self", "other"] (spComm D.CW) := by
  refine D.FComm.ok scComm (fun vs H Q E h => ?_) (fun cdv A outer s H vs Q E hr h => ?_)
  · obtain ⟨p, q, u, v, rfl, _⟩ := h; rfl
  · obtain ⟨p, q, u, v, rfl, ⟨dx, t, o, hp, ht, ho⟩, ⟨dy, t2, o2, hq, ht2, ho2⟩, hz, lu, lv', k⟩ := h
    have T := D.T
    have hr1 := hr.mono (j := 1) (by decide)
    refine ⟨_, pss_cons (ps_par (i := 2) (j := 3) rfl scComm.nd rfl rfl (by decide) rfl rfl (pa_cons (pe_fld (pv 0) rfl) (pa_cons (pe_fld (pv 1) rfl) pa_nil)) (by rfl))
      (pss_one (ps_ret (pe_make D.MWI (okWI D) hr rfl T.mgW D.bWI .nil pass0 (pa_cons (pe_op op_catA (pe_op op_catA (pe_op op_catA (pv 2) (pv 3)) (pe_call (okOpp D) hr1 rfl D.gOpp D.FOpp.kp D.bOpp .nil pass0 (pa_cons (pv 2) pa_nil))) (pe_call (okOpp D) hr1 rfl D.gOpp D.FOpp.kp D.bOpp .nil pass0 (pa_cons (pv 3) pa_nil))) pa_nil)))), ?_⟩
    refine ⟨_, rfl, p, D.CW, dx, _, _, rfl, hp, T.clW, T.nL, pfL_letters _, ?_⟩
    refine ⟨_, rfl, q, D.CW, dy, _, _, rfl, hq, T.clW, T.nL, pfL_letters _, ?_⟩
    refine ⟨_, _, rfl, ?_⟩
    have hu : u.length ≤ 100 := by omega
    have hv : v.length ≤ 100 := by omega
    refine ⟨_, rfl, _, rfl, rcat_any (SqT.ofF ht) (SqT.ofF ht2) (by rw [lv_length, lv_length, sizeLine_eq]; omega) fun H1 c1 s1 hc1 => ?_⟩
    refine ⟨_, rfl, t, u, rfl, SqT.ofF (s1 _ _ ht), by omega, fun H2 c2 s2 hc2 => ?_⟩
    refine rcat_any (same_sq s2 hc1) hc2 (by rw [List.length_append, lv_length, lv_length, lv_length, Tw.opp_length, sizeLine_eq]; omega) fun H3 c3 s3 hc3 => ?_
    refine ⟨_, rfl, t2, v, rfl, SqT.ofF (s3 _ _ (s2 _ _ (s1 _ _ ht2))), by omega, fun H4 c4 s4 hc4 => ?_⟩
    refine rcat_any (same_sq s4 hc3) hc4 (by rw [List.length_append, List.length_append, lv_length, lv_length, lv_length, lv_length, Tw.opp_length, Tw.opp_length, sizeLine_eq]; omega) fun H5 c5 s5 hc5 => ?_
    intro x dx' hx hdx ne
    refine mk_word (a := c5) (ws := u ++ v ++ opp u ++ opp v) hx hdx ne (.inr (by rw [lv_append, lv_append, lv_append]; exact hc5)) (by simp [Tw.opp_length]; omega) (((lu.append lv').append lu.opp).append lv'.opp) fun H6 r s6 hw => ?_
    exact k H6 r (s1.trans (s2.trans (s3.trans (s4.trans (s5.trans s6))))) hw
theorem scBal : FnScope ["self", "letter"] ["self"] (defScope sBal) := ⟨rfl, rfl, rfl, by decide +kernel, rfl, by decide +kernel, by decide +kernel⟩
theorem okBal (D : Defs K mg) : FnOk P w K mg base CX0 1 D.fBal D.dBal ["self"] (spBal D.CW) := by
  refine D.FBal.ok scBal (fun vs H Q E h => ?_) (fun cdv A outer s H vs Q E hr h => ?_)
  · obtain ⟨p, u, rfl, _⟩ := h; rfl
  · obtain ⟨p, u, rfl, ⟨dx, t, o, hp, ht, ho⟩, k⟩ := h
    have T := D.T
    obtain ⟨tk, hk⟩ := T.kinds
    refine ⟨_, pss_cons (ps_for PassesOwn.never rfl (pi_range2 (by rfl) T.range (pa_cons pe_int (pa_cons (pe_op op_add (pe_glob rfl hk (show RelV (.int 4) (.int 4 tk) from ⟨_, rfl⟩)) pe_int) pa_nil))) (pg_name (i := 1) scBal.nd rfl (Or.inl rfl))
        (pss_one (ps_if (pt_cmpR op_ne (pe_tm PySem.F.plainAttrs_tuple PySem.F.slot_tuple_count PySem.F.type_tuple_count mt_tcount (pe_fld (pv 0) rfl) (pa_cons (pv 1) pa_nil)) (pe_tm PySem.F.plainAttrs_tuple PySem.F.slot_tuple_count PySem.F.type_tuple_count mt_tcount (pe_fld (pv 0) rfl) (pa_cons (pe_un un_neg (pv 1)) pa_nil)) (nomark _)) (pss_one (ps_ret pe_bl)) pss_nil)))
      (pss_one (ps_ret pe_bl)), ?_⟩
    refine ⟨_, _, rfl, rfl, 1, 5, rfl, (by decide), for_range (lo := 1) (n := 4) (fun i σ H' => ∃ a, σ = [some (.ref p), a] ∧ H' = H ∧ ∀ j : Nat, j < i → u.count ((j : Int) + 1) = u.count (-((j : Int) + 1))) ⟨_, rfl, rfl, fun j hj => absurd hj (Nat.not_lt_zero _)⟩ ?_ ?_⟩
    · rintro i σ' H' hi ⟨a, rfl, rfl, hj⟩
      refine ⟨_, rfl, p, D.CW, dx, _, _, rfl, hp, T.clW, T.nL, pfL_letters _, ⟨t, o, _, rfl, ht, ho⟩, _, rfl, t, u, _, rfl, rfl, SqT.ofF ht, ?_⟩
      refine ⟨_, rfl, p, D.CW, dx, _, _, rfl, hp, T.clW, T.nL, pfL_letters _, ⟨t, o, _, rfl, ht, ho⟩, _, rfl, _, rfl, t, u, _, rfl, rfl, SqT.ofF ht, ?_⟩
      refine ⟨rfl, _, rfl, ?_⟩
      have eI : (1 : Int) + (i : Int) = (i : Int) + 1 := by omega
      rw [eI]
      by_cases c : u.count ((i : Int) + 1) = u.count (-((i : Int) + 1))
      · have e : (!decide (V.int ((u.count ((i : Int) + 1) : Nat) : Int) = V.int ((u.count (-((i : Int) + 1)) : Nat) : Int))) = false := by rw [c]; simp
        rw [e]
        refine iteF ⟨_, rfl, rfl, fun j hj2 => ?_⟩
        by_cases e2 : j = i
        · rw [e2]; exact c
        · exact hj j (by omega)
      · have e : (!decide (V.int ((u.count ((i : Int) + 1) : Nat) : Int) = V.int ((u.count (-((i : Int) + 1)) : Nat) : Int))) = true := by
          have : ¬ V.int ((u.count ((i : Int) + 1) : Nat) : Int) = V.int ((u.count (-((i : Int) + 1)) : Nat) : Int) := fun q => c (by injection q with q; omega)
          rw [decide_eq_false this]; rfl
        rw [e]
        refine iteT ?_
        have hb : balB u = false := by
          have hi4 : i = 0 ∨ i = 1 ∨ i = 2 ∨ i = 3 := by omega
          unfold balB
          simp only [List.all_cons, List.all_nil, Bool.and_true]
          rcases hi4 with rfl | rfl | rfl | rfl
          all_goals
            have c' : ∀ (x : Int), x = _ → (u.count x == u.count (-x)) = false := fun x hx => by
              rw [hx]; exact beq_eq_false_iff_ne.mpr c
            first
              | rw [c' 1 (by decide)]; simp
              | rw [c' 2 (by decide)]; simp
              | rw [c' 3 (by decide)]; simp
              | rw [c' 4 (by decide)]; simp
        rw [hb] at k
        exact k
    · rintro σ' H' ⟨a, rfl, rfl, hj⟩
      have hb : balB u = true := by
        unfold balB
        have h0 := hj 0 (by decide)
        have h1 := hj 1 (by decide)
        have h2 := hj 2 (by decide)
        have h3 := hj 3 (by decide)
        simp only [List.all_cons, List.all_nil, Bool.and_true, Bool.and_eq_true, beq_iff_eq]
        exact ⟨h0, h1, h2, h3⟩
      rw [hb] at k
      exact k
end
end K94
end

-- text TwGls
section
set_option Elab.async false
set_option linter.all false
set_option maxRecDepth 100000
set_option maxHeartbeats 4000000
/-! The generator gluings. -/
namespace K94
open PySem PySem.Spec PyProof.Rows L2
open Tw (left flat IsGl Part Cover wsum wt nexts)
open TwG

/-- the rules, their readings by the context -/
theorem gs_plainD {F : GF} {st : Stmt} {t : Shared → Hp → TS} (h : ∀ s0 H0, PS (gX F s0 H0) st (t s0 H0)) : GS F st (qPlain fun D σ H => ∀ s0 H0, t s0 H0 D σ H) :=
  gs_plain fun s0 H0 => ⟨fun pins s σ H D I q => (h s0 H0).run pins s σ H D I (q s0 H0)⟩
theorem gss_plainD {F : GF} {rest : List Stmt} {t : Shared → Hp → TS} (h : ∀ s0 H0, PSs (gX F s0 H0) rest (t s0 H0)) : GSs F rest (qPlain fun D σ H => ∀ s0 H0, t s0 H0 D σ H) :=
  gss_plain fun s0 H0 => ⟨fun pins s σ H D I q => (h s0 H0).run pins s σ H D I (q s0 H0)⟩
theorem gs_ifD {F : GF} {pos : Pos} {test : Expr} {x y : List Stmt} {tc : Shared → Hp → TT} {ta tb : TGq} (hc : ∀ s0 H0, PT (gX F s0 H0) test (tc s0 H0)) (ha : GSs F x ta) (hb : GSs F y tb) : GS F (.If test x y pos) (qIf (fun σ H Q => ∀ s0 H0, tc s0 H0 σ H Q) ta tb) :=
  gs_if (fun s0 H0 => ⟨fun pins s σ H Q I q => (hc s0 H0).run pins s σ H Q I (q s0 H0)⟩) ha hb
theorem gs_whileD {F : GF} {pos : Pos} {test : Expr} {body : List Stmt} {tc : Shared → Hp → TT} {tb : TGq} (hc : ∀ s0 H0, PT (gX F s0 H0) test (tc s0 H0)) (hb : GSs F body tb) : GS F (.While test body [] pos) (qWhile (fun σ H Q => ∀ s0 H0, tc s0 H0 σ H Q) tb) :=
  gs_while (fun s0 H0 => ⟨fun pins s σ H Q I q => (hc s0 H0).run pins s σ H Q I (q s0 H0)⟩) hb
theorem gs_yieldD {F : GF} {pos : Pos} {e : Expr} {yp : Pos} {te : Shared → Hp → TE} (he : ∀ s0 H0, PE (gX F s0 H0) e (te s0 H0)) (hco : F.env.scope.isCoroutine = false := by rfl) (hi : interactive F.env = false := by rfl) : GS F (.Expr (.Yield (some e) yp) pos) (qYield fun σ H Q => ∀ s0 H0, te s0 H0 σ H Q) :=
  gs_yield (fun s0 H0 => ⟨fun pins s σ H Q I q => (he s0 H0).run pins s σ H Q I (q s0 H0)⟩) hco hi

inductive Glus (H : Hp) : List V → List (List (Nat × Nat)) → Prop
  | nil : Glus H [] []
  | snoc {xs S g G} : Glus H xs S → GluAt H g G → Glus H (xs ++ [.ref g]) (S ++ [G])
theorem Glus.tups {H H' : Hp} (t : Tups H H') {xs S} (h : Glus H xs S) : Glus H' xs S := by
  induction h with
  | nil => exact .nil
  | snoc _ g ih => exact .snoc ih (g.tups t)
theorem Glus.length {H : Hp} {xs S} (h : Glus H xs S) : xs.length = S.length := by
  induction h with
  | nil => rfl
  | snoc _ _ ih => simp [ih]
theorem Glus.mem {H : Hp} {xs S} (h : Glus H xs S) {G} (hG : G ∈ S) : ∃ g, V.ref g ∈ xs ∧ GluAt H g G := by
  induction h with
  | nil => simp at hG
  | snoc _ g ih =>
    rcases List.mem_append.mp hG with z | z
    · obtain ⟨a, h1, h2⟩ := ih z
      exact ⟨a, List.mem_append_left _ h1, h2⟩
    · rw [List.mem_singleton.mp z]
      exact ⟨_, List.mem_append_right _ (List.mem_singleton.mpr rfl), g⟩
theorem Glus.last {H : Hp} {xs S} (h : Glus H xs S) (hx : xs ≠ []) : ∃ xs' S' g G, xs = xs' ++ [.ref g] ∧ S = S' ++ [G] ∧ Glus H xs' S' ∧ GluAt H g G := by
  cases h with
  | nil => exact absurd rfl hx
  | snoc a b => exact ⟨_, _, _, _, rfl, rfl, a, b⟩
theorem tups_lst {H : Hp} {l : Addr} {xs : List V} {o : HO} (h : H l = some (.lst xs)) : Tups H (upd H l o) := fun b ys e => by
  rw [upd_ne (fun z => by rw [z, h] at e; cases e)]; exact e
theorem tups_new {H : Hp} {l : Addr} {o : HO} (h : H l = none) : Tups H (upd H l o) := (same_upd h).tups
theorem part_len {w : List Int} {G : List (Nat × Nat)} (h : Part w G) : 2 * G.length ≤ w.length := by
  have hf := h.facts
  have h2 := Tw.length_le_of_sub (l2 := List.range w.length) hf.nd fun x hx => by
    obtain ⟨q, hq, hx2⟩ := List.mem_flatMap.mp hx
    obtain ⟨h1, h2, _⟩ := hf.lt q hq
    rw [List.mem_range]
    simp at hx2
    rcases hx2 with rfl | rfl <;> omega
  rwa [Tw.flat_length, List.length_range] at h2
theorem rcat_tup {K : PySem.W.Frag} {H : Hp} {a b : Addr} {xs ys : List V} {Q : VK} (ha : H a = some (.tup xs)) (hb : H b = some (.tup ys)) (hz : xs.length + ys.length ≤ sizeLine) (k : ∀ H' c, Same H H' → H' c = some (.tup (xs ++ ys)) → Q (.ref c) H') : rCatA K (.ref a) (.ref b) H Q := by
  refine ⟨a, b, xs, ys, rfl, rfl, SqT.of ha, SqT.of hb, hz, fun e => ?_, fun _ e => ?_, fun _ _ p hp => k _ p (same_upd hp) upd_same⟩
  · subst e; exact k H b (Same.refl _) (by simpa using hb)
  · subst e; exact k H a (Same.refl _) (by simpa using ha)

def spGls (C : Addr) : SpQ := fun vs H yl fin => ∃ (p : Addr) (w0 : List Int), vs = [.ref p] ∧ WordAt C H p w0 ∧ w0.length ≤ 12 ∧ balB w0 = true ∧
  (∀ ys g G H', Same H H' → GluAt H' g G → IsGl w0 G → yl ys (.ref g) H') ∧ (∀ ys H', Same H H' → (∀ G, IsGl w0 G → ∃ g, V.ref g ∈ ys ∧ GluAt H' g G) → fin ys H')

section
variable {P : Program} {w : World} {K : PySem.W.Frag} {mg : Str → Option Value} {base : Heap}
theorem scGls : GScope ["word", "letters", "waiting", "made", "left", "other"] ["word"] (defScope sGluings) := by
  first
    | exact ⟨rfl, rfl, rfl, by decide +kernel, rfl, by decide +kernel, by decide +kernel⟩
    | (constructor <;> first | rfl | decide +kernel)
theorem okGls (D : Defs K mg) : GFnQ P w K mg base 2 D.fGls D.dGls ["word"] (spGls D.CW) := by
  obtain ⟨oc, od, kV, doc, pm, an, cdv, ct, osl, hfd, lk, hcd⟩ := D.FGls.ex
  rw [hfd]
  rw [hfd] at lk
  refine gfnq_of lk hcd scGls (by decide +kernel) (fun vs H yl fin h => ?_) (fun Aw L outer a go H vs yl fin hr h H0 s0 => ?_)
  · obtain ⟨p, w0, rfl, _⟩ := h; rfl
  · obtain ⟨p, w0, rfl, hw, hlen, hbal, hyl, hfin⟩ := h
    have T := D.T
    have nd := scGls.nd
    refine ⟨_, gss_cons (gs_plainD (F := ⟨P, w, K, mg, base, Aw, ["word", "letters", "waiting", "made", "left", "other"], envOfC "gluings" (defScope sGluings) L D.fGls cdv, outer, a, go⟩) fun _ _ => ps_if (pt_not (pt_val (pe_meth0 (pv 0) T.clW D.mBal (okBal D) hr D.bBal .nil pass0))) (pss_one ps_retN) pss_nil)
      (gss_cons (gs_plainD (F := ⟨P, w, K, mg, base, Aw, ["word", "letters", "waiting", "made", "left", "other"], envOfC "gluings" (defScope sGluings) L D.fGls cdv, outer, a, go⟩) fun _ _ => ps_set (i := 1) nd rfl (Or.inl rfl) (pe_fld (pv 0) rfl))
      (gss_cons (gs_plainD (F := ⟨P, w, K, mg, base, Aw, ["word", "letters", "waiting", "made", "left", "other"], envOfC "gluings" (defScope sGluings) L D.fGls cdv, outer, a, go⟩) fun _ _ => ps_set (i := 2) nd rfl (Or.inl rfl) (pe_lst (pa_cons (pe_tup pa_nil) pa_nil)))
      (gss_cons (gs_whileD (fun _ _ => pt_cmpR op_gt (pe_callB call_len_seq (by rfl) T.len PySem.boot_len (pa_cons (pv 2) pa_nil)) pe_int (nomark _))
        (gss_cons (gs_plainD (F := ⟨P, w, K, mg, base, Aw, ["word", "letters", "waiting", "made", "left", "other"], envOfC "gluings" (defScope sGluings) L D.fGls cdv, outer, a, go⟩) fun _ _ => ps_set (i := 3) nd rfl (Or.inl rfl) (pe_bm0 PySem.F.plainAttrs_list PySem.F.slot_list_pop PySem.F.type_list_pop mt_pop (pv 2)))
        (gss_cons (gs_plainD (F := ⟨P, w, K, mg, base, Aw, ["word", "letters", "waiting", "made", "left", "other"], envOfC "gluings" (defScope sGluings) L D.fGls cdv, outer, a, go⟩) fun _ _ => ps_set (i := 4) nd rfl (Or.inl rfl) (pe_call (okLeft D) hr rfl D.gLeft D.FLeft.kp D.bLeft .nil pass0 (pa_cons (pe_callB call_len_seq (by rfl) T.len PySem.boot_len (pa_cons (pv 1) pa_nil)) (pa_cons (pv 3) pa_nil))))
        (gss_cons (gs_ifD (fun _ _ => pt_cmpR op_eq (pe_callB call_len_seq (by rfl) T.len PySem.boot_len (pa_cons (pv 4) pa_nil)) pe_int (nomark _)) (gss_cons (gs_yieldD fun _ _ => pv 3) gss_nil) gss_nil)
        (gss_plainD fun _ _ => pss_one (ps_for PassesOwn.never rfl (pi_list (pe_backL (pv 4))) (pg_name (i := 5) nd rfl (Or.inl rfl))
          (pss_one (ps_if (pt_cmpR op_eq (pe_ix ix_tup (pv 1) (pv 5) (fun _ _ => rfl)) (pe_un un_neg (pe_ix ix_tup (pv 1) (pe_ix ix_list (pv 4) pe_int (fun _ _ => rfl)) (fun _ _ => rfl))) (nomark _))
            (pss_one (ps_expr (pe_bm PySem.F.plainAttrs_list PySem.F.slot_list_append PySem.F.type_list_append mt_append (pv 2) (pa_cons (pe_op op_catA (pv 3) (pe_tup (pa_cons (pe_tup (pa_cons (pe_ix ix_list (pv 4) pe_int (fun _ _ => rfl)) (pa_cons (pv 5) pa_nil))) pa_nil))) pa_nil)))) pss_nil)))))))) gss_nil))), ?_⟩
    obtain ⟨dx, t, o, hp0, ht0, ho⟩ := hw
    have hp := s0 _ _ hp0
    have ht := s0 _ _ ht0
    have n60 : w0.length ≤ 60 := by omega
    -- if not word.balanced(): return
    intro _ _
    refine ⟨_, rfl, p, dx, _, rfl, hp, pfL_no _ (by decide +kernel), p, w0, rfl, ⟨dx, t, o, hp, ht, ho⟩, _, rfl, ?_⟩
    rw [hbal]
    refine iteF ?_
    -- letters = word.letters
    intro _ _
    refine ⟨_, rfl, p, D.CW, dx, _, _, rfl, hp, T.clW, T.nL, pfL_letters _, ?_⟩
    -- waiting = [()]
    intro _ _
    refine ⟨by decide, fun e he => ?_⟩
    refine ⟨(show 1 ≤ sizeLine by decide), fun l hl => ?_⟩
    have hle : l ≠ e := fun z => by rw [z, upd_same] at hl; cases hl
    have hl0 : H0 l = none := by rw [upd_ne hle] at hl; exact hl
    have s1 : Same H (upd (upd H0 e (.tup [])) l (.lst [.ref e])) := s0.trans (Same.upd (same_upd he) hl0)
    have hlH : H l = none := s0.free hl0
    -- the while
    refine ⟨fun m ys σ H' => ∃ (S out : List (List (Nat × Nat))) (xs : List V) (a3 a4 a5 : Option V), σ = [some (.ref p), some (.ref t), some (.ref l), a3, a4, a5] ∧ Same H H' ∧ H' l = some (.lst xs) ∧ Glus H' xs S ∧ Glus H' ys out ∧ (∀ G ∈ S, Part w0 G) ∧ Cover w0 out S ∧
      ys.length + wsum w0.length S ≤ 30000 ∧ m = wsum w0.length S, ⟨_, [[]], [], _, none, none, none, rfl, s1, upd_same, ?_, .nil, ?_, Cover.start w0, ?_, rfl⟩, ?_⟩
    · exact Glus.snoc (xs := []) (S := []) .nil ⟨[], by rw [upd_ne hle.symm, upd_same], trivial⟩
    · intro G hG
      rw [List.mem_singleton.mp hG]
      exact .empty w0
    · have : wsum w0.length [[]] = wt (left w0.length []).length := by simp [wsum]
      rw [this]
      have h2 : (left w0.length []).length ≤ 12 := by
        unfold Tw.left
        exact Nat.le_trans (List.length_filter_le _ _) (by rw [List.length_range]; exact hlen)
      have := Tw.wt_12 _ h2
      simpa using this
    rintro m ys σ H1 ⟨S, out, xs, a3, a4, a5, rfl, sH, hl1, gS, gO, pS, cov, hm, rfl⟩
    intro _ _
    refine ⟨_, rfl, l, _, rfl, .inl (SqL.of hl1), _, _, rfl, rfl, _, rfl, ?_⟩
    have ht1 := sH _ _ ht0
    have hxl := gS.length
    have hSl := Tw.wsum_len w0.length S
    refine ite2 (fun c => ?_) (fun c => ?_)
    · have hxne : xs ≠ [] := by intro z; rw [z] at c; simp at c
      obtain ⟨xs', S', g, G, rfl, rfl, gS', gG⟩ := gS.last hxne
      have hPG : Part w0 G := pS G (List.mem_append_right _ (List.mem_singleton.mpr rfl))
      have hPS : ∀ G ∈ S', Part w0 G := fun K hK => pS K (List.mem_append_left _ hK)
      rw [Tw.wsum_append] at hm hSl ⊢
      have hG1 : wsum w0.length [G] = wt (left w0.length G).length := by simp [wsum]
      rw [hG1] at hm hSl ⊢
      have hwp := Tw.wt_pos (left w0.length G).length
      have hS' := Tw.wsum_len w0.length S'
      -- made = waiting.pop()
      intro _ _
      refine ⟨_, rfl, .inl ⟨rfl, _, SqL.of hl1⟩, l, _, .ref g, rfl, rfl, hl1, (by simp), ?_⟩
      rw [List.dropLast_concat]
      have tp2 : Tups H1 (upd H1 l (.lst xs')) := tups_lst hl1
      have sH2 : Same H (upd H1 l (.lst xs')) := Same.upd sH hlH
      have hl2 : upd H1 l (.lst xs') l = some (.lst xs') := upd_same
      generalize upd H1 l (.lst xs') = H2 at tp2 sH2 hl2
      -- left = sides_left(len(letters), made)
      intro _ _
      have ht2 := sH2 _ _ ht0
      have gG2 := gG.tups tp2
      refine ⟨_, rfl, t, _, rfl, .inr (SqT.ofF ht2), _, rfl, g, G, w0.length, (by rw [lv_length]; rfl), gG2, n60, ?_, fun H3 lf s23 hlf hlf3 => ?_⟩
      · have := part_len hPG
        omega
      have sH3 := sH2.trans s23
      have ht3 := sH3 _ _ ht0
      have gS3 := (gS'.tups tp2).tups s23.tups
      have gO3 := (gO.tups tp2).tups s23.tups
      have gG3 := gG2.tups s23.tups
      have hl3 := s23 _ _ hl2
      intro _ _
      refine ⟨_, rfl, lf, _, rfl, .inl (SqL.of hlf3), rfl, _, rfl, ?_⟩
      have hlfl : l ≠ lf := fun z => by rw [← z, hl2] at hlf; cases hlf
      have hsz : sizeLine = 16777216 := sizeLine_eq
      cases hlft : left w0.length G with
      | nil =>
        rw [hlft] at hlf3 hm hwp
        refine iteT ⟨by omega, ?_⟩
        intro _ _
        refine ⟨_, rfl, hyl _ g G H3 sH3 gG3 ⟨hPG, hlft⟩, fun H4 s34 => ?_⟩
        intro _ _
        have hlf4 := s34 _ _ hlf3
        refine ⟨_, rfl, lf, _, rfl, SqL.of hlf4, fun rv hrv => ?_⟩
        refine ⟨rv, rfl, ⟨_, SqL.of upd_same⟩, ?_⟩
        have s4r : Same H4 (upd H4 rv (.lst ((iv []).drop 1).reverse)) := same_upd hrv
        refine for_list (xs := []) (fun _ σ H' => σ = [some (.ref p), some (.ref t), some (.ref l), some (.ref g), some (.ref lf), a5] ∧ H' = upd H4 rv (.lst ((iv []).drop 1).reverse)) ⟨rfl, rfl⟩ (fun i σ H' _ e => SqL.of (by rw [e.2]; exact upd_same)) (fun i x σ H' hx => by simp at hx) ?_
        rintro σ H' ⟨rfl, rfl⟩
        refine ⟨wsum w0.length S', by simp [wt], S', out ++ [G], xs', _, _, _, rfl, sH3.trans (s34.trans s4r), s4r _ _ (s34 _ _ hl3), (gS3.tups s34.tups).tups s4r.tups, .snoc ((gO3.tups s34.tups).tups s4r.tups) ((gG3.tups s34.tups).tups s4r.tups), hPS, cov.pop_full hlft, ?_, rfl⟩
        rw [List.length_append, List.length_singleton]
        omega
      | cons i rest =>
        rw [hlft] at hlf3
        have e0 : decide (V.int ((iv (i :: rest)).length : Int) = V.int 0) = false := by
          apply decide_eq_false
          intro z
          injection z with z
          rw [iv_length, List.length_cons] at z
          omega
        rw [e0]
        refine iteF ?_
        intro _ _
        refine ⟨_, rfl, lf, _, rfl, SqL.of hlf3, fun rv hrv => ?_⟩
        refine ⟨rv, rfl, ⟨_, SqL.of upd_same⟩, ?_⟩
        have er : ((iv (i :: rest)).drop 1).reverse = iv rest.reverse := by simp [iv]
        rw [er]
        have s3r : Same H3 (upd H3 rv (.lst (iv rest.reverse))) := same_upd hrv
        have hrvl : l ≠ rv := fun z => by rw [← z, hl3] at hrv; cases hrv
        have hrlen : rest.length < 12 := by
          have : (left w0.length G).length ≤ w0.length := by
            unfold Tw.left
            exact Nat.le_trans (List.length_filter_le _ _) (by rw [List.length_range]; exact Nat.le_refl _)
          rw [hlft] at this
          simp at this
          omega
        have hlt : ∀ j ∈ i :: rest, j < w0.length := fun j hj => by
          rw [← hlft] at hj
          exact (Tw.mem_left.mp hj).1
        refine for_list (xs := iv rest.reverse) (fun j σ H' => ∃ a5 xs2, σ = [some (.ref p), some (.ref t), some (.ref l), some (.ref g), some (.ref lf), a5] ∧ Same H H' ∧ H' l = some (.lst xs2) ∧ Glus H' xs2 (S' ++ nexts w0 G i (rest.reverse.take j)) ∧ Glus H' ys out ∧ GluAt H' g G ∧
          H' lf = some (.lst (iv (i :: rest))) ∧ H' rv = some (.lst (iv rest.reverse))) ⟨_, xs', rfl, sH3.trans s3r, s3r _ _ hl3, (by simpa [nexts] using gS3.tups s3r.tups), gO3.tups s3r.tups, gG3.tups s3r.tups, s3r _ _ hlf3, upd_same⟩
          (fun j σ H' _ ⟨_, _, _, _, _, _, _, _, _, h⟩ => SqL.of h) ?_ ?_
        · rintro j x σ H' hx ⟨b5, xs2, rfl, sH4, hl4, gS4, gO4, gG4, hlf4, hrv4⟩
          obtain ⟨q, hq, rfl⟩ : ∃ q : Nat, rest.reverse[j]? = some q ∧ x = .int (q : Int) := by
            unfold iv at hx
            rw [List.getElem?_map] at hx
            cases hw : rest.reverse[j]? with
            | none => rw [hw] at hx; simp at hx
            | some b => rw [hw] at hx; exact ⟨b, rfl, by simpa using hx.symm⟩
          have hqr : q ∈ rest := List.mem_reverse.mp (List.mem_of_getElem? hq)
          have hqn := hlt q (List.mem_cons_of_mem _ hqr)
          have hin := hlt i List.mem_cons_self
          have ht4 := sH4 _ _ ht0
          have aq : atI (lv w0) (q : Int) = some (.int (w0.getD q 0)) := by
            apply atI_nat
            unfold lv
            rw [List.getElem?_map, List.getElem?_eq_getElem hqn, List.getD_eq_getElem?_getD, List.getElem?_eq_getElem hqn]; rfl
          have ai : atI (lv w0) (i : Int) = some (.int (w0.getD i 0)) := by
            apply atI_nat
            unfold lv
            rw [List.getElem?_map, List.getElem?_eq_getElem hin, List.getD_eq_getElem?_getD, List.getElem?_eq_getElem hin]; rfl
          have a0 : atI (iv (i :: rest)) 0 = some (.int (i : Int)) := atI_nat (j := 0) rfl
          have hsnoc := Tw.nexts_snoc w0 G i (rest.reverse.take j) q
          rw [← Tw.take_succ hq] at hsnoc
          refine ⟨_, rfl, _, rfl, t, _, _, _, rfl, rfl, SqT.ofF ht4, aq, ?_⟩
          refine ⟨_, rfl, _, rfl, lf, _, _, _, rfl, rfl, SqL.of hlf4, a0, t, _, _, _, rfl, rfl, SqT.ofF ht4, ai, _, rfl, rfl, _, rfl, ?_⟩
          refine ite2 (fun c2 => ?_) (fun c2 => ?_)
          · have hc : w0.getD q 0 = - w0.getD i 0 := by
              have := of_decide_eq_true c2
              injection this
            rw [if_pos hc] at hsnoc
            refine ⟨_, rfl, .inl ⟨rfl, _, SqL.of hl4⟩, ?_⟩
            refine ⟨_, rfl, _, rfl, lf, _, _, _, rfl, rfl, SqL.of hlf4, a0, _, rfl, (show 2 ≤ sizeLine by decide), fun t1 ht1 => ?_⟩
            refine ⟨(show 1 ≤ sizeLine by decide), fun t2 ht2 => ?_⟩
            obtain ⟨gx, hgx, hgp⟩ := gG4
            have s41 : Same H' (upd H' t1 (.tup [.int (i : Int), .int (q : Int)])) := same_upd ht1
            have s42 := s41.trans (same_upd (o := .tup [.ref t1]) ht2)
            have ht12 : t1 ≠ t2 := fun z => by rw [z, upd_same] at ht2; cases ht2
            have h1 : upd (upd H' t1 (.tup [.int (i : Int), .int (q : Int)])) t2 (.tup [.ref t1]) t1 = some (.tup [.int (i : Int), .int (q : Int)]) := by rw [upd_ne ht12, upd_same]
            have hgl := hgp.length
            have hGl := part_len hPG
            refine rcat_tup (s42 _ _ hgx) upd_same (by simp; omega) fun H5 c s25 hc5 => ?_
            have s45 := s42.trans s25
            have hl5 := s45 _ _ hl4
            have hx2 := gS4.length
            have hnl : (nexts w0 G i (rest.reverse.take j)).length ≤ 12 := by
              unfold Tw.nexts
              rw [List.length_map]
              refine Nat.le_trans (List.length_filter_le _ _) ?_
              rw [List.length_take, List.length_reverse]; omega
            rw [List.length_append] at hx2
            refine ⟨l, xs2, .ref c, rfl, rfl, hl5, by omega, ?_⟩
            have tp := tups_lst (o := .lst (xs2 ++ [.ref c])) hl5
            have gc : GluAt (upd H5 l (.lst (xs2 ++ [.ref c]))) c (G ++ [(i, q)]) := ⟨gx ++ [.ref t1], tp _ _ hc5, PairsAt.snoc (tp _ _ (s25 _ _ h1)) ((hgp.tups s45.tups).tups tp)⟩
            have nlf : lf ≠ l := hlfl.symm
            have nrv : rv ≠ l := hrvl.symm
            refine ⟨_, xs2 ++ [.ref c], rfl, Same.upd (sH4.trans s45) hlH, upd_same, ?_, (gO4.tups s45.tups).tups tp, (GluAt.tups s45.tups ⟨gx, hgx, hgp⟩).tups tp, by rw [upd_ne nlf]; exact s45 _ _ hlf4, by rw [upd_ne nrv]; exact s45 _ _ hrv4⟩
            rw [hsnoc, ← List.append_assoc]
            exact .snoc ((gS4.tups s45.tups).tups tp) gc
          · have hc : ¬ w0.getD q 0 = - w0.getD i 0 := fun z => c2 (by rw [z]; simp)
            rw [if_neg hc] at hsnoc
            refine ⟨_, xs2, rfl, sH4, hl4, ?_, gO4, gG4, hlf4, hrv4⟩
            rw [hsnoc]
            exact gS4
        · rintro σ H' ⟨b5, xs2, rfl, sH4, hl4, gS4, gO4, gG4, hlf4, hrv4⟩
          rw [iv_length, List.take_length] at gS4
          have hn := Tw.wsum_nexts hPG hlft
          have hn' := hn
          rw [hlft] at hn'
          have hnp := Tw.nexts_part hPG hlft
          refine ⟨wsum w0.length (S' ++ nexts w0 G i rest.reverse), by rw [Tw.wsum_append]; omega, _, out, xs2, _, _, _, rfl, sH4, hl4, gS4, gO4, fun K hK => ?_, cov.pop_more hlft, by rw [Tw.wsum_append]; omega, rfl⟩
          rcases List.mem_append.mp hK with z | z
          · exact hPS K z
          · exact (hnp K z).1
    · have hx0 : xs = [] := by
        refine Classical.byContradiction fun z => c ?_
        have := List.length_pos_iff.mpr z
        simp; omega
      have hS0 : S = [] := by
        rw [hx0] at hxl
        exact List.eq_nil_of_length_eq_zero hxl.symm
      subst hS0
      refine hfin _ _ sH fun G hG => ?_
      exact gO.mem (cov.done G hG)
end
end K94
end

-- text TwLaw1
section
set_option Elab.async false
set_option linter.all false
set_option maxRecDepth 100000
set_option maxHeartbeats 4000000
/-! The law's small defs: cell, draws, is_number, signed, opposite_row, short. -/
namespace K94
open PySem PySem.Spec PyProof.Rows L2
open Tw (red opp)

theorem lv_snoc (xs : List Int) (x : Int) : lv xs ++ [.int x] = lv (xs ++ [x]) := by simp [lv]
theorem lv_at {ws : List Int} {i : Nat} {x : V} (h : (lv ws)[i]? = some x) : ∃ b, ws[i]? = some b ∧ x = .int b := by
  unfold lv at h
  rw [List.getElem?_map] at h
  cases hw : ws[i]? with
  | none => rw [hw] at h; simp at h
  | some b => rw [hw] at h; exact ⟨b, rfl, by simpa using h.symm⟩
theorem lv_getD {ws : List Int} {i : Nat} (h : i < ws.length) : (lv ws)[i]? = some (.int (ws.getD i 0)) := by
  unfold lv
  rw [List.getElem?_map, List.getElem?_eq_getElem h, List.getD_eq_getElem?_getD, List.getElem?_eq_getElem h]; rfl

def spCell (K : PySem.W.Frag) : Sp := fun vs H Q _ => ∃ (a : Addr) (ns : List Int) (k : Nat), vs = [.ref a, .int (k : Int)] ∧ SqL K H a (lv ns) ∧ ∀ z, Q (.int z) H
/-- a list of ds, each of some kind -/
def ListAt (H : Hp) (l : Addr) (ds : List Int) : Prop := H l = some (.lst (lv ds))
theorem ListAt.app {H : Hp} {l : Addr} {ds : List Int} {y : Int} : ListAt (upd H l (.lst (lv ds ++ [.int y]))) l (ds ++ [y]) := by
  unfold ListAt; rw [upd_same, lv_snoc]
def DrawOk (ds : List Int) : Prop := ∀ x ∈ ds, 0 ≤ x ∧ x < 1000
def spDraws : Sp := fun vs H Q _ => ∃ (z : Int) (n : Nat), vs = [.int z, .int (n : Int)] ∧ n ≤ 60 ∧
  ∀ (H' : Hp) (l : Addr) (ds : List Int), Same H H' → H l = none → ListAt H' l ds → ds.length = n → DrawOk ds → Q (.ref l) H'
def spSgn : Sp := fun vs H Q _ => ∃ (a : Addr) (ds : List Int) (kd : Int), vs = [.ref a, .int kd] ∧ ListAt H a ds ∧ ds.length ≤ 60 ∧ 1 ≤ kd ∧ kd ≤ 4 ∧
  ∀ (H' : Hp) (l : Addr) (ws : List Int), Same H H' → H l = none → ListAt H' l ws → ws.length = ds.length → LetOk ws → Q (.ref l) H'
def spLOp : Sp := fun vs H Q _ => ∃ (a : Addr) (ws : List Int), vs = [.ref a] ∧ ListAt H a ws ∧ ws.length ≤ 200 ∧
  ∀ (H' : Hp) (l : Addr), Same H H' → H l = none → ListAt H' l (opp ws) → Q (.ref l) H'

section
variable {P : Program} {w : World} {K : PySem.W.Frag} {mg : Str → Option Value} {base : Heap}
theorem scCell : FnScope ["_law_script", "_law_k"] ["_law_script", "_law_k"] (defScope sCell) := ⟨rfl, rfl, rfl, by decide +kernel, rfl, by decide +kernel, by decide +kernel⟩
theorem okCell (D : Defs K mg) : FnOk P w K mg base CX0 1 D.fCell D.dCell ["_law_script", "_law_k"] (spCell K) := by
  refine D.FCell.ok scCell (fun vs H Q E h => ?_) (fun cdv A outer s H vs Q E hr h => ?_)
  · obtain ⟨a, ns, k, rfl, _⟩ := h; rfl
  · obtain ⟨a, ns, k, rfl, hS, hQ⟩ := h
    have T := D.T
    refine ⟨_, pss_cons (ps_if (pt_cmpR op_lt (pv 1) (pe_callB call_len_seq (by rfl) T.len PySem.boot_len (pa_cons (pv 0) pa_nil)) (nomark _)) (pss_one (ps_ret (pe_ix ix_list (pv 0) (pv 1) (fun _ _ => rfl)))) pss_nil) (pss_one (ps_ret pe_int)), ?_⟩
    refine ⟨_, rfl, _, rfl, a, _, rfl, .inl hS, _, _, rfl, rfl, _, rfl, ?_⟩
    refine ite2 (fun c => ?_) (fun c => ?_)
    · have hk : k < ns.length := by
        have := of_decide_eq_true c
        rw [lv_length] at this
        omega
      exact ⟨_, rfl, _, rfl, a, _, _, _, rfl, rfl, hS, atI_nat (lv_getD hk), hQ _⟩
    · exact hQ 0
theorem scDraws : FnScope ["_law_cell_here", "_law_many", "_law_left", "_law_digits", "_law_mixed", "_law_draws_here", "_law_k"] ["_law_cell_here", "_law_many"] (defScope sDraws) := ⟨rfl, rfl, rfl, by decide +kernel, rfl, by decide +kernel, by decide +kernel⟩
theorem okDraws (D : Defs K mg) : FnOk P w K mg base CX0 1 D.fDraws D.dDraws ["_law_cell_here", "_law_many"] spDraws := by
  refine D.FDraws.ok scDraws (fun vs H Q E h => ?_) (fun cdv A outer s H vs Q E hr h => ?_)
  · obtain ⟨z, n, rfl, _⟩ := h; rfl
  · obtain ⟨z, n, rfl, hn, k⟩ := h
    have T := D.T
    have nd := scDraws.nd
    refine ⟨_, pss_cons (ps_set (i := 2) nd rfl (Or.inl rfl) (pe_callB call_abs (by rfl) T.abs (by decide +kernel) (pa_cons (pv 0) pa_nil)))
      (pss_cons (ps_set (i := 3) nd rfl (Or.inl rfl) (pe_cmpR op_ge (pv 2) (pe_op op_pow pe_int pe_int) (nomark _)))
      (pss_cons (ps_set (i := 4) nd rfl (Or.inl rfl) (pe_op op_mod (pe_callTy call_int1 (by rfl) T.int (by decide +kernel) (pa_cons (pv 2) pa_nil)) pe_int))
      (pss_cons (ps_set (i := 5) nd rfl (Or.inl rfl) (pe_lst pa_nil))
      (pss_cons (ps_for PassesOwn.never rfl (pi_range1 rfl T.range (pa_cons (pv 1) pa_nil)) (pg_name (i := 6) nd rfl (Or.inl rfl))
        (pss_cons (ps_set (i := 4) nd rfl (Or.inl rfl) (pe_op op_mod (pe_callTy call_int1 (by rfl) T.int (by decide +kernel) (pa_cons (pe_op op_add (pe_op op_add (pe_op op_mul (pv 4) pe_int) (pe_op op_mul pe_int (pv 6))) pe_int) pa_nil)) pe_int))
        (pss_one (ps_if (PW.pt (pw_and (pt_val (pv 3)) (pw_and1 (pt_cmpR op_gt (pv 2) pe_int (nomark _)))))
          (pss_cons (ps_expr (pe_bm PySem.F.plainAttrs_list PySem.F.slot_list_append PySem.F.type_list_append mt_append (pv 5) (pa_cons (pe_op op_mod (pe_callTy call_int1 (by rfl) T.int (by decide +kernel) (pa_cons (pv 2) pa_nil)) pe_int) pa_nil)))
            (pss_one (ps_set (i := 2) nd rfl (Or.inl rfl) (pe_op op_fdiv (pv 2) pe_int))))
          (pss_one (ps_expr (pe_bm PySem.F.plainAttrs_list PySem.F.slot_list_append PySem.F.type_list_append mt_append (pv 5) (pa_cons (pe_op op_mod (pe_op op_mod (pe_callTy call_int1 (by rfl) T.int (by decide +kernel) (pa_cons (pe_op op_add (pe_op op_add (pe_op op_mul (pv 4) (pv 4)) (pe_op op_mul pe_int (pv 4))) (pv 6)) pa_nil)) pe_int) pe_int) pa_nil))))))))
      (pss_one (ps_ret (pv 5)))))))  , ?_⟩
    refine ⟨_, rfl, _, rfl, ?_⟩
    have hleft : 0 ≤ (if z < 0 then -z else z) := by split <;> omega
    refine ⟨_, rfl, _, _, rfl, rfl, ⟨by decide, by decide, by decide⟩, _, _, rfl, rfl, ?_⟩
    refine ⟨_, rfl, .inl ⟨_, rfl, _, _, rfl, rfl, (by show (0 : Int) < 1000003; decide), ?_⟩⟩
    refine ⟨by decide, fun l hl => ?_⟩
    have hm0 := Int.emod_nonneg (if z < 0 then -z else z) (show (1000003 : Int) ≠ 0 by decide)
    have hm1 := Int.emod_lt_of_pos (if z < 0 then -z else z) (show (0 : Int) < 1000003 by decide)
    refine ⟨_, rfl, _, rfl, by omega, by omega, for_range (lo := 0) (n := n) (fun i σ H' => ∃ (lf mx : Int) (dg : Bool) (ds : List Int) (b6 : Option V), σ = [some (.int z), some (.int (n : Int)), some (.int lf), some (.bl dg), some (.int mx), some (.ref l), b6] ∧ 0 ≤ lf ∧ 0 ≤ mx ∧ mx < 1000003 ∧ Same H H' ∧ ListAt H' l ds ∧ ds.length = i ∧ DrawOk ds)
      ⟨_, _, _, [], none, rfl, hleft, hm0, hm1, same_upd hl, upd_same, rfl, fun x hx => by simp at hx⟩ ?_ ?_⟩
    · rintro i σ H' hi ⟨lf, mx, dg, ds, b6, rfl, h0, h1, h2, hs, hL, hlen, hok⟩
      have app : ∀ (y : Int), 0 ≤ y → y < 1000 → DrawOk (ds ++ [y]) := fun y hy1 hy2 x hx => by
        rcases List.mem_append.mp hx with q | q
        · exact hok x q
        · rw [List.mem_singleton.mp q]; exact ⟨hy1, hy2⟩
      refine ⟨_, rfl, _, _, rfl, rfl, .inl ⟨by omega, by omega⟩, _, rfl, _, _, rfl, rfl, .inl ⟨by decide, by decide⟩, _, _, rfl, rfl, _, _, rfl, rfl, .inl ⟨_, rfl, _, _, rfl, rfl, (by show (0 : Int) < 1000003; decide), ?_⟩⟩
      have hm0 := Int.emod_nonneg (mx * 48271 + 13 * (0 + (i : Int)) + 11) (show (1000003 : Int) ≠ 0 by decide)
      have hm1 := Int.emod_lt_of_pos (mx * 48271 + 13 * (0 + (i : Int)) + 11) (show (0 : Int) < 1000003 by decide)
      have hsz : (lv ds).length < sizeLine := by
        have : i < n := hi
        rw [lv_length, sizeLine_eq]; omega
      refine ⟨_, rfl, _, rfl, ?_⟩
      cases dg with
      | true =>
        refine iteT ⟨_, rfl, _, _, rfl, rfl, _, rfl, ?_⟩
        refine ite2 (fun c => ?_) (fun c => ?_)
        · refine ⟨_, rfl, .inl ⟨rfl, _, SqL.of hL⟩, _, rfl, .inl ⟨_, rfl, _, _, rfl, rfl, (by show (0 : Int) < 1000; decide), l, _, _, rfl, rfl, hL, hsz, ?_⟩⟩
          refine ⟨_, rfl, _, _, rfl, rfl, ⟨by decide, by decide⟩, ?_⟩
          refine ⟨_, _, true, ds ++ [lf % 1000], _, rfl, by omega, hm0, hm1, Same.upd hs hl, ListAt.app, by rw [List.length_append, List.length_singleton, hlen], app _ (by omega) (by omega)⟩
        · refine ⟨_, rfl, .inl ⟨rfl, _, SqL.of hL⟩, ?_⟩
          refine ⟨_, rfl, _, rfl, _, _, rfl, rfl, .inl ⟨by omega, by omega⟩, _, rfl, _, _, rfl, rfl, .inl ⟨by decide, by decide⟩, _, _, rfl, rfl, _, rfl, _, _, rfl, rfl, .inl ⟨_, rfl, _, _, rfl, rfl, (by show (0 : Int) < 999983; decide), _, _, rfl, rfl, (by show (0 : Int) < 1000; decide), l, _, _, rfl, rfl, hL, hsz, ?_⟩⟩
          exact ⟨lf, _, true, _, _, rfl, h0, hm0, hm1, Same.upd hs hl, ListAt.app, by rw [List.length_append, List.length_singleton, hlen], app _ (Int.emod_nonneg _ (by decide)) (Int.emod_lt_of_pos _ (by decide))⟩
      | false =>
        refine iteF ?_
        refine ⟨_, rfl, .inl ⟨rfl, _, SqL.of hL⟩, ?_⟩
        refine ⟨_, rfl, _, rfl, _, _, rfl, rfl, .inl ⟨by omega, by omega⟩, _, rfl, _, _, rfl, rfl, .inl ⟨by decide, by decide⟩, _, _, rfl, rfl, _, rfl, _, _, rfl, rfl, .inl ⟨_, rfl, _, _, rfl, rfl, (by show (0 : Int) < 999983; decide), _, _, rfl, rfl, (by show (0 : Int) < 1000; decide), l, _, _, rfl, rfl, hL, hsz, ?_⟩⟩
        exact ⟨lf, _, false, _, _, rfl, h0, hm0, hm1, Same.upd hs hl, ListAt.app, by rw [List.length_append, List.length_singleton, hlen], app _ (Int.emod_nonneg _ (by decide)) (Int.emod_lt_of_pos _ (by decide))⟩
    · rintro σ H' ⟨lf, mx, dg, ds, b6, rfl, h0, h1, h2, hs, hL, hlen, hok⟩
      exact ⟨_, rfl, k H' l ds hs hl hL hlen hok⟩

theorem scNum : FnScope ["_law_actual", "_law_due"] ["_law_actual", "_law_due"] (defScope sIsNum) := ⟨rfl, rfl, rfl, by decide +kernel, rfl, by decide +kernel, by decide +kernel⟩
def spNum : Sp := fun vs H Q _ => ∃ (a b : Int), vs = [.int a, .int b] ∧ Q (.bl (decide (a = b))) H
theorem okNum (D : Defs K mg) : FnOk P w K mg base CX0 1 D.fNum D.dNum ["_law_actual", "_law_due"] spNum := by
  refine D.FNum.ok scNum (fun vs H Q E h => ?_) (fun cdv A outer s H vs Q E hr h => ?_)
  · obtain ⟨a, b, rfl, _⟩ := h; rfl
  · obtain ⟨a, b, rfl, k⟩ := h
    have T := D.T
    refine ⟨_, pss_one (ps_ret (pe_and (pe_callB call_isi (by rfl) T.isinstance (by decide +kernel) (pa_cons (pv 0) (pa_cons (pe_bltn (by rfl) T.int (by decide +kernel) (show RelV (.ty "int") (.type "int") from rfl)) pa_nil)))
      (pe_and (pe_not (pe_callB call_isi (by rfl) T.isinstance (by decide +kernel) (pa_cons (pv 0) (pa_cons (pe_bltn (by rfl) T.bool (by decide +kernel) (show RelV (.ty "bool") (.type "bool") from rfl)) pa_nil)))) (pe_one (pe_cmpR op_eq (pv 0) (pv 1) (nomark _)))))), ?_⟩
    refine ⟨_, rfl, .int a, .ty "int", .type "int", .type "int", true, rfl, .ty _, .base (.int a), kit_ty (by decide +kernel), _, rfl, ?_⟩
    refine iteT ?_
    refine ⟨_, rfl, .int a, .ty "bool", .type "int", .type "bool", false, rfl, .ty _, .base (.int a), kit_ty (by decide +kernel), _, rfl, _, rfl, ?_⟩
    refine iteT ?_
    refine ⟨_, rfl, _, rfl, rfl, ?_⟩
    have e : decide (V.int a = V.int b) = decide (a = b) := by
      by_cases c : a = b
      · subst c; simp
      · rw [decide_eq_false c, decide_eq_false (fun z => c (by injection z))]
    show Q (.bl (decide (V.int a = V.int b))) H
    rw [e]
    exact k
theorem sgn_ok {d kd : Int} (h1 : 1 ≤ kd) (h2 : kd ≤ 4) : (1 + d / 2 % kd) * (1 - 2 * (d % 2)) ≠ 0 ∧ -4 ≤ (1 + d / 2 % kd) * (1 - 2 * (d % 2)) ∧ (1 + d / 2 % kd) * (1 - 2 * (d % 2)) ≤ 4 := by
  have a1 := Int.emod_nonneg (d / 2) (show kd ≠ 0 by omega)
  have a2 := Int.emod_lt_of_pos (d / 2) (show 0 < kd by omega)
  generalize d / 2 % kd = y at a1 a2
  have h : d % 2 = 0 ∨ d % 2 = 1 := by omega
  rcases h with h | h
  · rw [h]
    have : (1 + y) * (1 - 2 * 0) = 1 + y := by omega
    rw [this]; omega
  · rw [h]
    have : (1 + y) * (1 - 2 * 1) = -(1 + y) := by omega
    rw [this]; omega
theorem scSgn : FnScope ["_law_draws_here", "_law_kinds", "_law_draw"] ["_law_draws_here", "_law_kinds"] (defScope sSigned) := ⟨rfl, rfl, rfl, by decide +kernel, rfl, by decide +kernel, by decide +kernel⟩
theorem okSgn (D : Defs K mg) : FnOk P w K mg base CX0 1 D.fSgn D.dSgn ["_law_draws_here", "_law_kinds"] spSgn := by
  refine D.FSgn.ok scSgn (fun vs H Q E h => ?_) (fun cdv A outer s H vs Q E hr h => ?_)
  · obtain ⟨a, ds, kd, rfl, _⟩ := h; rfl
  · obtain ⟨a, ds, kd, rfl, hL, hlen, k1, k4, k⟩ := h
    have T := D.T
    refine ⟨_, pss_one (ps_ret (pe_lc (own := [("_law_draw", 2)]) (g := gName 2) (tt := tYes) rfl scSgn.nd (pi_list (pv 0))
      (blkOk_by (own := [("_law_draw", 2)]) (N := ["_law_draws_here", "_law_kinds", "_law_draw"]) (sc := defScope sSigned) (by decide +kernel)) (fun _ _ _ _ _ => pg_name (i := 2) scSgn.nd rfl (Or.inl rfl)) (fun _ _ _ _ _ => pts_nil)
      (fun _ _ _ _ _ => pe_op op_mul (pe_op op_add pe_int (pe_op op_mod (pe_callTy call_int1 (by rfl) T.int (by decide +kernel) (pa_cons (pe_op op_fdiv (pv 2) pe_int) pa_nil)) (pv 1))) (pe_op op_sub pe_int (pe_op op_mul pe_int (pe_op op_mod (pe_callTy call_int1 (by rfl) T.int (by decide +kernel) (pa_cons (pv 2) pa_nil)) pe_int)))))), ?_⟩
    refine ⟨_, rfl, a, rfl, ⟨_, SqL.of hL⟩, fun l hl => ?_⟩
    refine lc_list (xs := lv ds) (fun i H' => ∃ ws, H' = upd H l (.lst (lv ws)) ∧ ws.length = i ∧ LetOk ws) ⟨[], rfl, rfl, fun x hx => by simp at hx⟩ (fun i H' _ ⟨ws, e, _⟩ => SqL.of (by rw [e, upd_ne (ne_of_none hL hl)]; exact hL)) ?_ ?_
    · rintro i x H' hx ⟨ws, rfl, hwl, hwo⟩
      have hi : i < 60 := by
        have := (List.getElem?_eq_some_iff.mp hx).1
        rw [lv_length] at this
        omega
      obtain ⟨b, hb, rfl⟩ := lv_at hx
      have hs := sgn_ok (d := b) k1 k4
      have a1 := Int.emod_nonneg (b / 2) (show kd ≠ 0 by omega)
      have a2 := Int.emod_lt_of_pos (b / 2) (show 0 < kd by omega)
      refine ⟨rfl, ?_⟩
      refine ⟨_, rfl, _, _, rfl, rfl, ⟨by decide, by decide⟩, .inl ⟨_, rfl, _, rfl, _, _, rfl, rfl, (show (0 : Int) < kd by omega), _, _, rfl, rfl, ?_⟩⟩
      refine ⟨_, rfl, .inl ⟨_, rfl, _, _, rfl, rfl, (by show (0 : Int) < 2; decide), _, _, rfl, rfl, .inl ⟨by decide, by decide⟩, _, _, rfl, rfl, _, _, rfl, rfl, .inl ⟨by omega, by omega⟩, ?_⟩⟩
      refine ⟨_, upd_same, by rw [lv_length, sizeLine_eq]; omega, ws ++ [(1 + b / 2 % kd) * (1 - 2 * (b % 2))], ?_, by rw [List.length_append, List.length_singleton, hwl], fun x hx => ?_⟩
      · rw [upd_upd, ← lv_snoc]
      · rcases List.mem_append.mp hx with q | q
        · exact hwo x q
        · rw [List.mem_singleton.mp q]; exact hs
    · rintro H' ⟨ws, rfl, hwl, hwo⟩
      exact k _ l ws (same_upd hl) hl upd_same (by rw [hwl, lv_length]) hwo
theorem scLOp : FnScope ["_law_row", "_law_letter"] ["_law_row"] (defScope sLOpp) := ⟨rfl, rfl, rfl, by decide +kernel, rfl, by decide +kernel, by decide +kernel⟩
theorem okLOp (D : Defs K mg) : FnOk P w K mg base CX0 1 D.fLOp D.dLOp ["_law_row"] spLOp := by
  refine D.FLOp.ok scLOp (fun vs H Q E h => ?_) (fun cdv A outer s H vs Q E hr h => ?_)
  · obtain ⟨a, ws, rfl, _⟩ := h; rfl
  · obtain ⟨a, ws, rfl, hL, hlen, k⟩ := h
    have T := D.T
    refine ⟨_, pss_one (ps_ret (pe_lc (own := [("_law_letter", 1)]) (g := gName 1) (tt := tYes) rfl scLOp.nd (pi_reversed (by rfl) T.reversed (pa_cons (pv 0) pa_nil))
      (blkOk_by (own := [("_law_letter", 1)]) (N := ["_law_row", "_law_letter"]) (sc := defScope sLOpp) (by decide +kernel)) (fun _ _ _ _ _ => pg_name (i := 1) scLOp.nd rfl (Or.inl rfl)) (fun _ _ _ _ _ => pts_nil)
      (fun _ _ _ _ _ => pe_un un_neg (pv 1)))), ?_⟩
    refine ⟨_, rfl, a, lv ws, rfl, SqL.of hL, fun l hl => ?_⟩
    refine lc_it walk_rev (fun i H' => H' = upd H l (.lst (lv ((ws.reverse.take i).map fun x => -x)))) (by simp [lv]) (fun i H' _ e => SqL.of (by rw [e, upd_ne (ne_of_none hL hl)]; exact hL)) ?_ ?_
    · rintro i x H1 H2 hi rfl ⟨rfl, hx⟩
      obtain ⟨b, hb, rfl⟩ := lv_at hx
      rw [lv_length] at hi hb
      have hb2 : ws.reverse[i]? = some b := by
        rw [List.getElem?_reverse hi]; exact hb
      refine ⟨rfl, ?_⟩
      refine ⟨_, rfl, _, rfl, _, upd_same, ?_, ?_⟩
      · rw [lv_length, List.length_map, List.length_take, List.length_reverse, sizeLine_eq]; omega
      · rw [upd_upd, Tw.take_succ hb2, List.map_append, lv_append]
        rfl
    · rintro H' rfl
      refine k _ l (same_upd hl) hl ?_
      unfold ListAt
      have e : (ws.reverse.take (lv ws).length).map (fun x => -x) = opp ws := by
        rw [lv_length, List.take_of_length_le (by simp)]
        unfold Tw.opp
        rw [List.map_reverse]
      rw [upd_same, e]
end
end K94
end

-- text TwLaw2
section
set_option Elab.async false
set_option linter.all false
set_option maxRecDepth 100000
set_option maxHeartbeats 4000000
/-! _law_short. -/
namespace K94
open PySem PySem.Spec PyProof.Rows L2
open Tw (red opp Steps Short)

def plc (l : List Int) (n : Nat) : List Nat := (List.range n).filter fun k => decide (l.getD k 0 = - l.getD (k + 1) 0)
theorem plc_mem {l : List Int} {n k : Nat} (h : k ∈ plc l n) : k < n ∧ l.getD k 0 = - l.getD (k + 1) 0 := by
  obtain ⟨h1, h2⟩ := List.mem_filter.mp h
  exact ⟨List.mem_range.mp h1, of_decide_eq_true h2⟩
theorem plc_short {l : List Int} (h : plc l (l.length - 1) = []) : Short l := by
  refine Tw.short_of_places fun k hk e => ?_
  have : k ∈ plc l (l.length - 1) := List.mem_filter.mpr ⟨List.mem_range.mpr (by omega), decide_eq_true e⟩
  rw [h] at this
  simp at this
theorem plc_len (l : List Int) (n : Nat) : (plc l n).length ≤ n := by
  unfold plc
  exact Nat.le_trans (List.length_filter_le _ _) (by rw [List.length_range]; exact Nat.le_refl _)
theorem cut_take {l : List Int} {k : Nat} (h : k ≤ l.length) : cutV (lv l) none (some (k : Int)) = lv (l.take k) := by
  unfold cutV
  rw [HT.sIx_none, HT.sIx_nat, lv_length, List.drop_zero, Nat.sub_zero, Nat.min_eq_left h]
  unfold lv; rw [List.map_take]
theorem cut_drop {l : List Int} {k : Nat} : cutV (lv l) (some (k : Int)) none = lv (l.drop k) := by
  unfold cutV
  rw [HT.sIx_none, HT.sIx_nat, lv_length]
  have e : (lv l).drop (min k l.length) = (lv l).drop k := by
    by_cases c : k ≤ l.length
    · rw [Nat.min_eq_left c]
    · rw [Nat.min_eq_right (by omega), List.drop_eq_nil_of_le (by rw [lv_length]; exact Nat.le_refl _), List.drop_eq_nil_of_le (by rw [lv_length]; omega)]
  rw [e, List.take_of_length_le (by rw [List.length_drop, lv_length]; omega)]
  unfold lv; rw [List.map_drop]

def spLSh : Sp := fun vs H Q _ => ∃ (a : Addr) (ws : List Int) (d : Int), vs = [.ref a, .int d] ∧ ListAt H a ws ∧ ws.length ≤ 60 ∧
  ∀ (H' : Hp) (t : Addr), Same H H' → H' t = some (.tup (lv (red ws))) → Q (.ref t) H'
section
variable {P : Program} {w : World} {K : PySem.W.Frag} {mg : Str → Option Value} {base : Heap}
theorem scLSh : FnScope ["_law_row", "_law_draw", "_law_left", "_law_turn", "_law_places", "_law_at", "_law_k"] ["_law_row", "_law_draw"] (defScope sLShort) := ⟨rfl, rfl, rfl, by decide +kernel, rfl, by decide +kernel, by decide +kernel⟩
theorem okLSh (D : Defs K mg) : FnOk P w K mg base CX0 1 D.fLSh D.dLSh ["_law_row", "_law_draw"] spLSh := by
  refine D.FLSh.ok scLSh (fun vs H Q E h => ?_) (fun cdv A outer s H vs Q E hr h => ?_)
  · obtain ⟨a, ws, d, rfl, _⟩ := h; rfl
  · obtain ⟨a, ws, d, rfl, hL, hlen, k⟩ := h
    have T := D.T
    have nd := scLSh.nd
    refine ⟨_, pss_cons (ps_set (i := 2) nd rfl (Or.inr rfl) (pe_callTy call_list_of (by rfl) T.list (by decide +kernel) (pa_cons (pv 0) pa_nil)))
      (pss_cons (ps_for PassesOwn.never rfl (pi_range1 rfl T.range (pa_cons (pe_callB call_len_seq (by rfl) T.len PySem.boot_len (pa_cons (pv 0) pa_nil)) pa_nil)) (pg_name (i := 3) nd rfl (Or.inl rfl))
        (pss_cons (ps_setLc (i := 4) (own := [("_law_k", 6)]) (g := gName 6) (tt := tTest (tOp rEq (tOp (rIxL K) (tVar 2) (tVar 6)) (tUn (rU fun i => .int (-i)) (tOp (rIxL K) (tVar 2) (tOp (rI0 fun i j => .int (i + j)) (tVar 6) (tC (.int 1))))))) (te := tVar 6) rfl nd rfl rfl (sw_true rfl rfl rfl (by decide +kernel))
            (pi_range1 rfl T.range (pa_cons (pe_op op_sub (pe_callB call_len_seq (by rfl) T.len PySem.boot_len (pa_cons (pv 2) pa_nil)) pe_int) pa_nil))
            (blkOk_by (own := [("_law_k", 6)]) (N := ["_law_row", "_law_draw", "_law_left", "_law_turn", "_law_places", "_law_at", "_law_k"]) (sc := defScope sLShort) (by decide +kernel)) (fun _ _ _ _ _ => pg_name (i := 6) nd rfl (Or.inl rfl))
            (fun _ _ _ _ _ => by exact pts_one (pt_cmpR op_eq (pe_ix ix_list (pv 2) (pv 6) (fun _ _ => rfl)) (pe_un un_neg (pe_ix ix_list (pv 2) (pe_op op_add (pv 6) pe_int) (fun _ _ => rfl))) (nomark _))) (fun _ _ _ _ _ => by exact pv 6))
        (pss_cons (ps_if (pt_cmpR op_eq (pe_callB call_len_seq (by rfl) T.len PySem.boot_len (pa_cons (pv 4) pa_nil)) pe_int (nomark _)) (pss_one ps_break) pss_nil)
        (pss_cons (ps_set (i := 5) nd rfl (Or.inl rfl) (pe_ix ix_list (pv 4) (pe_op op_mod (pe_callTy call_int1 (by rfl) T.int (by decide +kernel) (pa_cons (pe_op op_add (pv 1) (pe_op op_mul pe_int (pv 3))) pa_nil)) (pe_callB call_len_seq (by rfl) T.len PySem.boot_len (pa_cons (pv 4) pa_nil))) (fun _ _ => rfl)))
        (pss_one (ps_set (i := 2) nd rfl (Or.inr rfl) (pe_op op_cat (pe_slice sl_list (pv 2) po_none (po_some (pv 5))) (pe_slice sl_list (pv 2) (po_some (pe_op op_add (pv 5) pe_int)) po_none))))))))
      (pss_one (ps_ret (pe_callTy call_tuple_of (by rfl) T.tuple (by decide +kernel) (pa_cons (pv 2) pa_nil))))), ?_⟩
    refine ⟨_, rfl, a, _, rfl, .inl (SqL.of hL), fun l0 hl0 => ?_⟩
    refine ⟨_, rfl, a, _, rfl, .inl (SqL.of (by rw [upd_ne (ne_of_none hL hl0)]; exact hL)), _, rfl, by omega, by rw [lv_length]; omega, ?_⟩
    have fin : ∀ (H' : Hp) (l1 : Addr) (l : List Int), Same H H' → ListAt H' l1 l → Steps ws l → Short l → ∃ p ys, [V.ref l1] = [V.ref p] ∧ ((SqL K H' p ys ∧ ∀ t, H' t = none → Q (.ref t) (upd H' t (.tup ys))) ∨ (SqT K H' p ys ∧ Q (.ref p) H')) := fun H' l1 l sH hl st sh =>
      ⟨l1, _, rfl, .inl ⟨SqL.of hl, fun t ht => by
        have e : red ws = l := by rw [st.red, Tw.red_of_short sh]
        rw [← e]
        exact k _ t (Same.upd sH (sH.free ht)) upd_same⟩⟩
    refine for_range (lo := 0) (fun i σ H' => ∃ (l1 : Addr) (l : List Int) (b3 b4 b5 : Option V), σ = [some (.ref a), some (.int d), some (.ref l1), b3, b4, b5, none] ∧ Same H H' ∧ ListAt H' l1 l ∧ Steps ws l ∧ l.length + 2 * i ≤ ws.length) ⟨l0, ws, none, none, none, rfl, same_upd hl0, upd_same, .refl ws, by omega⟩ ?_ ?_
    · rintro i σ H' hi ⟨l1, l, b3, b4, b5, rfl, sH, hl, st, hlen2⟩
      -- places
      refine ⟨_, rfl, l1, _, rfl, .inl (SqL.of hl), _, _, rfl, rfl, _, rfl, by rw [lv_length]; omega, by rw [lv_length]; omega, fun p hp => ?_⟩
      have hpl : l1 ≠ p := ne_of_none hl hp
      have en : (((lv l).length : Int) - 1).toNat = l.length - 1 := by rw [lv_length]; omega
      refine lc_range (lo := 0) (fun j H2 => H2 = upd H' p (.lst (iv (plc l j)))) rfl ?_ ?_
      · rintro j H2 hj rfl
        have hj2 : j < l.length - 1 := by rw [← en]; exact hj
        have hl2 : upd H' p (.lst (iv (plc l j))) l1 = some (.lst (lv l)) := by rw [upd_ne hpl]; exact hl
        have e0 : (0 : Int) + (j : Int) = ((j : Nat) : Int) := by omega
        have e1 : (0 : Int) + (j : Int) + 1 = ((j + 1 : Nat) : Int) := by omega
        refine ⟨rfl, ?_⟩
        refine ⟨_, rfl, _, rfl, l1, _, _, _, rfl, rfl, SqL.of hl2, (by rw [e0]; exact atI_nat (lv_getD (by omega))), ?_⟩
        refine ⟨_, rfl, _, rfl, _, _, rfl, rfl, l1, _, _, _, rfl, rfl, SqL.of hl2, (by rw [e1]; exact atI_nat (lv_getD (by omega))), _, rfl, rfl, _, rfl, ?_⟩
        have es : plc l (j + 1) = plc l j ++ (if l.getD j 0 = - l.getD (j + 1) 0 then [j] else []) := by
          unfold plc
          rw [List.range_succ, List.filter_append, List.filter_cons, List.filter_nil]
          by_cases c : l.getD j 0 = - l.getD (j + 1) 0
          · rw [if_pos c, decide_eq_true c]; rfl
          · rw [if_neg c, decide_eq_false c]; rfl
        refine ite2 (fun c => ?_) (fun c => ?_)
        · have c' : l.getD j 0 = - l.getD (j + 1) 0 := by
            have := of_decide_eq_true c
            injection this
          rw [if_pos c'] at es
          refine ⟨_, rfl, _, upd_same, ?_, ?_⟩
          · have := plc_len l j
            rw [iv_length, sizeLine_eq]; omega
          · rw [upd_upd, es, e0, iv_snoc]
        · have c' : ¬ l.getD j 0 = - l.getD (j + 1) 0 := fun z => c (by rw [z]; simp)
          rw [if_neg c', List.append_nil] at es
          rw [es]
      · rintro H2 rfl
        rw [en]
        generalize hpc : plc l (l.length - 1) = pc
        have sH2 : Same H (upd H' p (.lst (iv pc))) := Same.upd sH (sH.free hp)
        have hl2 : ListAt (upd H' p (.lst (iv pc))) l1 l := by unfold ListAt; rw [upd_ne hpl]; exact hl
        have hp2 : upd H' p (.lst (iv pc)) p = some (.lst (iv pc)) := upd_same
        generalize upd H' p (.lst (iv pc)) = H2 at sH2 hl2 hp2
        refine ⟨_, rfl, p, _, rfl, .inl (SqL.of hp2), rfl, _, rfl, ?_⟩
        refine ite2 (fun c => ?_) (fun c => ?_)
        · have e : pc = [] := by
            have := of_decide_eq_true c
            injection this with this
            rw [iv_length] at this
            exact List.eq_nil_of_length_eq_zero (by omega)
          rw [e] at hpc
          exact ⟨_, rfl, fin H2 l1 l sH2 hl2 st (plc_short hpc)⟩
        · have hpos : 0 < pc.length := by
            refine Nat.pos_of_ne_zero fun z => c ?_
            rw [iv_length, z]; rfl
          have hpi : (0 : Int) < ((iv pc).length : Int) := by rw [iv_length]; omega
          refine ⟨_, rfl, _, rfl, _, rfl, _, _, rfl, rfl, .inl ⟨by decide, by decide⟩, _, _, rfl, rfl, .inl ⟨_, rfl, _, rfl, p, _, rfl, .inl (SqL.of hp2), _, _, rfl, rfl, hpi, ?_⟩⟩
          have q0 := Int.emod_nonneg (d + 7 * (0 + (i : Int))) (show ((iv pc).length : Int) ≠ 0 by omega)
          have q1 := Int.emod_lt_of_pos (d + 7 * (0 + (i : Int))) hpi
          obtain ⟨m, hm⟩ : ∃ m : Nat, (d + 7 * (0 + (i : Int))) % ((iv pc).length : Int) = (m : Int) := ⟨_, (Int.toNat_of_nonneg q0).symm⟩
          have hmp : m < pc.length := by rw [hm, iv_length] at q1; omega
          obtain ⟨at_, hat⟩ : ∃ at_ : Nat, pc[m]? = some at_ := ⟨pc[m], by simp [hmp]⟩
          have hmem : at_ ∈ plc l (l.length - 1) := by rw [hpc]; exact List.mem_of_getElem? hat
          obtain ⟨hk1, hk2⟩ := plc_mem hmem
          have hia : atI (iv pc) (m : Int) = some (.int (at_ : Int)) := by
            apply atI_nat
            unfold iv
            rw [List.getElem?_map, hat]; rfl
          refine ⟨p, _, _, .int (at_ : Int), rfl, rfl, SqL.of hp2, (by show atI (iv pc) ((d + 7 * (0 + (i : Int))) % ((iv pc).length : Int)) = _; rw [hm]; exact hia), ?_⟩
          -- left = left[:at] + left[at + 2:]
          refine ⟨_, rfl, _, rfl, _, rfl, l1, _, rfl, SqL.of hl2, fun p1 hp1 => ?_⟩
          have hl3 : upd H2 p1 (.lst (cutV (lv l) none (some (at_ : Int)))) l1 = some (.lst (lv l)) := by rw [upd_ne (ne_of_none hl2 hp1)]; exact hl2
          refine ⟨_, rfl, _, rfl, _, _, rfl, rfl, _, rfl, l1, _, rfl, SqL.of hl3, fun p2 hp2' => ?_⟩
          have np12 : p1 ≠ p2 := fun z => by rw [z, upd_same] at hp2'; cases hp2'
          have hp2n : H2 p2 = none := by rw [upd_ne np12.symm] at hp2'; exact hp2'
          refine ⟨p1, p2, _, _, rfl, rfl, (by rw [upd_ne np12, upd_same]), upd_same, ?_, fun p3 hp3 => ?_⟩
          · have a1 := cutV_length (lv l) none (some (at_ : Int))
            have a2 := cutV_length (lv l) (some ((at_ : Int) + 2)) none
            rw [lv_length] at a1 a2
            have : (cutV (lv l) none (some (at_ : Int))).length + (cutV (lv l) (some ((at_ : Int) + 2)) none).length ≤ 120 := by omega
            rw [sizeLine_eq]
            exact Nat.le_trans this (by decide)
          · have n3 : p3 ≠ p2 := fun z => by rw [z, upd_same] at hp3; cases hp3
            rw [upd_ne n3] at hp3
            have n31 : p3 ≠ p1 := fun z => by rw [z, upd_same] at hp3; cases hp3
            rw [upd_ne n31] at hp3
            refine ⟨p3, l.take at_ ++ l.drop (at_ + 2), _, _, _, rfl, Same.upd (Same.upd (Same.upd sH2 (sH2.free hp1)) (sH2.free hp2n)) (sH2.free hp3), ?_, st.trans (Tw.steps_at (by omega) hk2), ?_⟩
            · unfold ListAt
              rw [upd_same]
              show some (HO.lst (cutV (lv l) none (some (at_ : Int)) ++ cutV (lv l) (some ((at_ : Int) + 2)) none)) = _
              have e2 : ((at_ : Int) + 2) = ((at_ + 2 : Nat) : Int) := by omega
              rw [e2, cut_take (by omega), cut_drop, lv_append]
            · rw [List.length_append, List.length_take, List.length_drop]
              omega
    · rintro σ H' ⟨l1, l, b3, b4, b5, rfl, sH, hl, st, hlen2⟩
      have : ws.length = 0 := by
        rw [lv_length] at hlen2
        have e : ((ws.length : Int)).toNat = ws.length := by omega
        rw [e] at hlen2
        omega
      have hl0 : l = [] := List.eq_nil_of_length_eq_zero (by have := st.length; omega)
      exact ⟨_, rfl, fin H' l1 l sH hl st (by rw [hl0]; trivial)⟩
end
end K94
end

-- text TwLaw3
section
set_option Elab.async false
set_option linter.all false
set_option maxRecDepth 100000
set_option maxHeartbeats 4000000
/-! _law_fed, _law_sizes. -/
namespace K94
open PySem PySem.Spec PyProof.Rows L2
open Tw (red opp)

def spFed (K : PySem.W.Frag) : Sp := fun vs H Q _ => ∃ (a b : Addr) (ns ds : List Int), vs = [.ref a, .ref b] ∧ SqL K H a (lv ns) ∧ ListAt H b ds ∧ ds.length = 16 ∧
  ∀ (H' : Hp) (l : Addr) (fs : List Int), Same H H' → H l = none → ListAt H' l fs → fs.length = 9 → Q (.ref l) H'
def spSiz : Sp := fun vs H Q _ => ∃ (b : Addr) (ds : List Int) (m : Nat) (f : Bool), vs = [.ref b, .int (m : Int), .bl f] ∧ ListAt H b ds ∧ ds.length = 6 ∧ 1 ≤ m ∧ m ≤ 3 ∧
  ∀ (H' : Hp) (l : Addr) (sn : List Nat), Same H H' → H l = none → H' l = some (.lst (iv sn)) → sn.length = 2 * m → sn.sum ≤ 6 → Q (.ref l) H'
section
variable {P : Program} {w : World} {K : PySem.W.Frag} {mg : Str → Option Value} {base : Heap}
theorem scFed : FnScope ["_law_script", "_law_draws_here", "_law_step", "_law_k"] ["_law_script", "_law_draws_here"] (defScope sFed) := ⟨rfl, rfl, rfl, by decide +kernel, rfl, by decide +kernel, by decide +kernel⟩
theorem okFed (D : Defs K mg) : FnOk P w K mg base CX0 2 D.fFed D.dFed ["_law_script", "_law_draws_here"] (spFed K) := by
  refine D.FFed.ok scFed (fun vs H Q E h => ?_) (fun cdv A outer s H vs Q E hr h => ?_)
  · obtain ⟨a, b, ns, ds, rfl, _⟩ := h; rfl
  · obtain ⟨a, b, ns, ds, rfl, hS, hL, hlen, k⟩ := h
    have T := D.T
    have nd := scFed.nd
    refine ⟨_, pss_cons (ps_set (i := 2) nd rfl (Or.inr rfl) (pe_op op_add pe_int (pe_op op_mul pe_int (pe_op op_mod (pe_callTy call_int1 (by rfl) T.int (by decide +kernel) (pa_cons (pe_op op_add (pe_ix ix_list (pv 1) pe_int (fun _ _ => rfl)) pe_int) pa_nil)) pe_int))))
      (pss_one (ps_ret (pe_lc (own := [("_law_k", 3)]) (g := gName 3) (tt := tYes) rfl nd (pi_range1 rfl T.range (pa_cons pe_int pa_nil))
        (blkOk_by (own := [("_law_k", 3)]) (N := ["_law_script", "_law_draws_here", "_law_step", "_law_k"]) (sc := defScope sFed) (by decide +kernel)) (fun _ _ _ _ _ => pg_name (i := 3) nd rfl (Or.inl rfl)) (fun _ _ _ _ _ => pts_nil)
        (fun _ _ _ _ _ => pe_op op_add (pe_call (okCell D) hr rfl D.gCell D.FCell.kp D.bCell .nil pass0 (pa_cons (pv 0) (pa_cons (pv 3) pa_nil))) (pe_op op_mul (pv 3) (pv 2)))))), ?_⟩
    refine ⟨_, rfl, b, _, _, _, rfl, rfl, SqL.of hL, atI_nat (j := 15) (lv_getD (by omega)), _, _, rfl, rfl, .inl ⟨_, rfl, _, _, rfl, rfl, (by show (0 : Int) < 11; decide), _, _, rfl, rfl, .inl ⟨by decide, by decide⟩, _, _, rfl, rfl, ?_⟩⟩
    refine ⟨9, rfl, by decide, by decide, fun l hl => ?_⟩
    refine lc_range (lo := 0) (n := 9) (fun i H' => ∃ fs, H' = upd H l (.lst (lv fs)) ∧ fs.length = i) ⟨[], rfl, rfl⟩ ?_ ?_
    · rintro i H' hi ⟨fs, rfl, hfl⟩
      refine ⟨rfl, ?_⟩
      refine ⟨_, rfl, _, rfl, a, ns, i, (by rw [show (0 : Int) + (i : Int) = ((i : Nat) : Int) by omega]; rfl), (same_upd hl).seq hS, fun z => ?_⟩
      refine ⟨_, rfl, _, rfl, _, _, rfl, rfl, .inl ⟨by omega, by omega⟩, _, _, rfl, rfl, _, upd_same, by rw [lv_length, sizeLine_eq]; omega, ?_⟩
      exact ⟨_, by rw [upd_upd, ← lv_snoc], by rw [List.length_append, List.length_singleton, hfl]⟩
    · rintro H' ⟨fs, rfl, hfl⟩
      exact k _ l fs (same_upd hl) hl upd_same hfl
theorem scSiz : FnScope ["_law_draws_here", "_law_many", "_law_full", "_law_sizes_here", "_law_rest", "_law_least_here", "_law_k", "_law_more"] ["_law_draws_here", "_law_many", "_law_full"] (defScope sSizes) := ⟨rfl, rfl, rfl, by decide +kernel, rfl, by decide +kernel, by decide +kernel⟩
theorem okSiz (D : Defs K mg) : FnOk P w K mg base CX0 1 D.fSiz D.dSiz ["_law_draws_here", "_law_many", "_law_full"] spSiz := by
  refine D.FSiz.ok scSiz (fun vs H Q E h => ?_) (fun cdv A outer s H vs Q E hr h => ?_)
  · obtain ⟨b, ds, m, f, rfl, _⟩ := h; rfl
  · obtain ⟨b, ds, m, f, rfl, hL, hlen, m1, m3, k⟩ := h
    have T := D.T
    have nd := scSiz.nd
    refine ⟨_, pss_cons (ps_set (i := 3) nd rfl (Or.inl rfl) (pe_lst pa_nil))
      (pss_cons (ps_set (i := 4) nd rfl (Or.inl rfl) pe_int)
      (pss_cons (ps_set (i := 5) nd rfl (Or.inl rfl) pe_int)
      (pss_cons (ps_if (pt_val (pv 2)) (pss_cons (ps_set (i := 4) nd rfl (Or.inl rfl) (pe_op op_sub pe_int (pe_op op_mul pe_int (pv 1)))) (pss_one (ps_set (i := 5) nd rfl (Or.inl rfl) pe_int))) pss_nil)
      (pss_cons (ps_for PassesOwn.never rfl (pi_range1 rfl T.range (pa_cons (pe_op op_mul pe_int (pv 1)) pa_nil)) (pg_name (i := 6) nd rfl (Or.inl rfl))
        (pss_cons (ps_set (i := 7) nd rfl (Or.inl rfl) (pe_callB (call_min2 rfl) (by rfl) T.min (by decide +kernel) (pa_cons (pe_op op_mod (pe_callTy call_int1 (by rfl) T.int (by decide +kernel) (pa_cons (pe_ix ix_list (pv 0) (pv 6) (fun _ _ => rfl)) pa_nil)) pe_int) (pa_cons (pv 4) pa_nil))))
        (pss_cons (ps_set (i := 4) nd rfl (Or.inl rfl) (pe_op op_sub (pv 4) (pv 7)))
        (pss_one (ps_expr (pe_bm PySem.F.plainAttrs_list PySem.F.slot_list_append PySem.F.type_list_append mt_append (pv 3) (pa_cons (pe_op op_add (pv 5) (pv 7)) pa_nil)))))))
      (pss_one (ps_ret (pv 3))))))), ?_⟩
    refine ⟨by decide, fun l hl => ?_⟩
    have hbl : upd H l (.lst []) b = some (.lst (lv ds)) := by rw [upd_ne (ne_of_none hL hl)]; exact hL
    refine ⟨_, rfl, f, rfl, ?_⟩
    have en : (2 * (m : Int)).toNat = 2 * m := by omega
    cases f
    case false => 
      refine iteF ?_
      refine ⟨_, rfl, _, _, rfl, rfl, .inl ⟨by decide, by decide⟩, _, rfl, by omega, by omega, for_range (lo := 0) (n := 2 * m) (fun i σ H' => ∃ (rest : Nat) (sn : List Nat) (b6 b7 : Option V), σ = [some (.ref b), some (.int (m : Int)), some (.bl false), some (.ref l), some (.int (rest : Int)), some (.int ((0 : Nat) : Int)), b6, b7] ∧ H' = upd H l (.lst (iv sn)) ∧ sn.length = i ∧ sn.sum + rest ≤ 6)
        ⟨6, [], none, none, rfl, rfl, rfl, by decide⟩ ?_ ?_⟩
      · rintro i σ H' hi ⟨rest, sn, b6, b7, rfl, rfl, hsl, hsum⟩
        have hL2 : upd H l (.lst (iv sn)) b = some (.lst (lv ds)) := by rw [upd_ne (ne_of_none hL hl)]; exact hL
        have e0 : (0 : Int) + (i : Int) = ((i : Nat) : Int) := by omega
        refine ⟨_, rfl, _, rfl, b, _, _, _, rfl, rfl, SqL.of hL2, (by rw [e0]; exact atI_nat (lv_getD (by omega))), .inl ⟨_, rfl, _, _, rfl, rfl, (by show (0 : Int) < 4; decide), _, rfl, _, _, rfl, ?_⟩⟩
        have q0 := Int.emod_nonneg (ds.getD i 0) (show (4 : Int) ≠ 0 by decide)
        obtain ⟨mo, hmo⟩ : ∃ mo : Nat, (if (rest : Int) < ds.getD i 0 % 4 then (rest : Int) else ds.getD i 0 % 4) = (mo : Int) := ⟨_, (Int.toNat_of_nonneg (by split <;> omega)).symm⟩
        have hle : mo ≤ rest := by
          have : (if (rest : Int) < ds.getD i 0 % 4 then (rest : Int) else ds.getD i 0 % 4) ≤ rest := by split <;> omega
          rw [hmo] at this; omega
        refine ⟨_, rfl, _, rfl, _, _, rfl, rfl, ?_⟩
        refine ⟨_, rfl, .inl ⟨rfl, _, SqL.of upd_same⟩, _, rfl, _, rfl, _, _, rfl, rfl, l, _, _, rfl, rfl, upd_same, by rw [iv_length, sizeLine_eq]; omega, ?_⟩
        refine ⟨rest - mo, sn ++ [0 + mo], some (.int (0 + (i : Int))), some (.int (mo : Int)), ?_, ?_, by rw [List.length_append, List.length_singleton, hsl], by rw [List.sum_append]; simp; omega⟩
        · show [some (V.ref b), some (V.int (m : Int)), some (V.bl false), some (V.ref l), some (V.int ((rest : Int) - (if (rest : Int) < ds.getD i 0 % 4 then (rest : Int) else ds.getD i 0 % 4))), some (V.int ((0 : Nat) : Int)), some (V.int (0 + (i : Int))), some (V.int (if (rest : Int) < ds.getD i 0 % 4 then (rest : Int) else ds.getD i 0 % 4))] = _
          rw [hmo, show (rest : Int) - (mo : Int) = ((rest - mo : Nat) : Int) by omega]
        · show upd (upd H l (.lst (iv sn))) l (.lst (iv sn ++ [.int (((0 : Nat) : Int) + (if (rest : Int) < ds.getD i 0 % 4 then (rest : Int) else ds.getD i 0 % 4))])) = _
          rw [hmo, upd_upd, ← iv_snoc, show ((0 : Nat) : Int) + (mo : Int) = ((0 + mo : Nat) : Int) by omega]
      · rintro σ H' ⟨rest, sn, b6, b7, rfl, rfl, hsl, hsum⟩
        exact ⟨_, rfl, k _ l sn (same_upd hl) hl upd_same hsl (by omega)⟩
    case true => 
      refine iteT ⟨_, rfl, _, _, rfl, rfl, .inl ⟨by decide, by decide⟩, _, _, rfl, rfl, ?_⟩
      refine ⟨_, rfl, _, _, rfl, rfl, .inl ⟨by decide, by decide⟩, _, rfl, by omega, by omega, for_range (lo := 0) (n := 2 * m) (fun i σ H' => ∃ (rest : Nat) (sn : List Nat) (b6 b7 : Option V), σ = [some (.ref b), some (.int (m : Int)), some (.bl true), some (.ref l), some (.int (rest : Int)), some (.int ((1 : Nat) : Int)), b6, b7] ∧ H' = upd H l (.lst (iv sn)) ∧ sn.length = i ∧ sn.sum + rest + (2 * m - i) ≤ 6)
        ⟨6 - 2 * m, [], none, none, ?_, rfl, rfl, by simp; omega⟩ ?_ ?_⟩
      · show [some (V.ref b), some (V.int (m : Int)), some (V.bl true), some (V.ref l), some (V.int (6 - 2 * (m : Int))), some (V.int 1), none, none] = _
        rw [show (6 : Int) - 2 * (m : Int) = ((6 - 2 * m : Nat) : Int) by omega]
        rfl
      · rintro i σ H' hi ⟨rest, sn, b6, b7, rfl, rfl, hsl, hsum⟩
        have hL2 : upd H l (.lst (iv sn)) b = some (.lst (lv ds)) := by rw [upd_ne (ne_of_none hL hl)]; exact hL
        have e0 : (0 : Int) + (i : Int) = ((i : Nat) : Int) := by omega
        refine ⟨_, rfl, _, rfl, b, _, _, _, rfl, rfl, SqL.of hL2, (by rw [e0]; exact atI_nat (lv_getD (by omega))), .inl ⟨_, rfl, _, _, rfl, rfl, (by show (0 : Int) < 4; decide), _, rfl, _, _, rfl, ?_⟩⟩
        have q0 := Int.emod_nonneg (ds.getD i 0) (show (4 : Int) ≠ 0 by decide)
        obtain ⟨mo, hmo⟩ : ∃ mo : Nat, (if (rest : Int) < ds.getD i 0 % 4 then (rest : Int) else ds.getD i 0 % 4) = (mo : Int) := ⟨_, (Int.toNat_of_nonneg (by split <;> omega)).symm⟩
        have hle : mo ≤ rest := by
          have : (if (rest : Int) < ds.getD i 0 % 4 then (rest : Int) else ds.getD i 0 % 4) ≤ rest := by split <;> omega
          rw [hmo] at this; omega
        refine ⟨_, rfl, _, rfl, _, _, rfl, rfl, ?_⟩
        refine ⟨_, rfl, .inl ⟨rfl, _, SqL.of upd_same⟩, _, rfl, _, rfl, _, _, rfl, rfl, l, _, _, rfl, rfl, upd_same, by rw [iv_length, sizeLine_eq]; omega, ?_⟩
        refine ⟨rest - mo, sn ++ [1 + mo], some (.int (0 + (i : Int))), some (.int (mo : Int)), ?_, ?_, by rw [List.length_append, List.length_singleton, hsl], by rw [List.sum_append]; simp; omega⟩
        · show [some (V.ref b), some (V.int (m : Int)), some (V.bl true), some (V.ref l), some (V.int ((rest : Int) - (if (rest : Int) < ds.getD i 0 % 4 then (rest : Int) else ds.getD i 0 % 4))), some (V.int ((1 : Nat) : Int)), some (V.int (0 + (i : Int))), some (V.int (if (rest : Int) < ds.getD i 0 % 4 then (rest : Int) else ds.getD i 0 % 4))] = _
          rw [hmo, show (rest : Int) - (mo : Int) = ((rest - mo : Nat) : Int) by omega]
        · show upd (upd H l (.lst (iv sn))) l (.lst (iv sn ++ [.int (((1 : Nat) : Int) + (if (rest : Int) < ds.getD i 0 % 4 then (rest : Int) else ds.getD i 0 % 4))])) = _
          rw [hmo, upd_upd, ← iv_snoc, show ((1 : Nat) : Int) + (mo : Int) = ((1 + mo : Nat) : Int) by omega]
      · rintro σ H' ⟨rest, sn, b6, b7, rfl, rfl, hsl, hsum⟩
        exact ⟨_, rfl, k _ l sn (same_upd hl) hl upd_same hsl (by omega)⟩
end
end K94
end

-- text TwLaw4
section
set_option Elab.async false
set_option linter.all false
set_option maxRecDepth 100000
set_option maxHeartbeats 4000000
/-! _law_corner_classes, _law_handles. -/
namespace K94
open PySem PySem.Spec PyProof.Rows L2
open Tw (flat IsGl partner itn orb Seen sg)

theorem _root_.Tw.partner_snoc {p : Nat × Nat} {x : Nat} : ∀ {G : List (Nat × Nat)}, (flat (G ++ [p])).Nodup → partner (G ++ [p]) x = if x = p.1 then p.2 else if x = p.2 then p.1 else partner G x
  | [], _ => rfl
  | q :: G, nd => by
    have e : flat ((q :: G) ++ [p]) = q.1 :: q.2 :: flat (G ++ [p]) := rfl
    rw [e] at nd
    obtain ⟨n1, nd⟩ := List.nodup_cons.mp nd
    obtain ⟨n2, nd⟩ := List.nodup_cons.mp nd
    have ih := Tw.partner_snoc (p := p) (x := x) nd
    have u : ∀ (G : List (Nat × Nat)) x, partner (q :: G) x = if x = q.1 then q.2 else if x = q.2 then q.1 else partner G x := fun _ _ => rfl
    have hp1 : p.1 ∈ flat (G ++ [p]) := by rw [Tw.flat_append]; exact List.mem_append_right _ (by simp [flat])
    have hp2 : p.2 ∈ flat (G ++ [p]) := by rw [Tw.flat_append]; exact List.mem_append_right _ (by simp [flat])
    have a1 : p.1 ≠ q.1 := fun z => n1 (List.mem_cons_of_mem _ (z ▸ hp1))
    have a2 : p.1 ≠ q.2 := fun z => n2 (z ▸ hp1)
    have a3 : p.2 ≠ q.1 := fun z => n1 (List.mem_cons_of_mem _ (z ▸ hp2))
    have a4 : p.2 ≠ q.2 := fun z => n2 (z ▸ hp2)
    rw [List.cons_append, u, u, ih]
    by_cases c1 : x = p.1
    · subst c1
      rw [if_neg a1, if_neg a2, if_pos rfl, if_pos rfl]
    · rw [if_neg c1, if_neg c1]
      by_cases c2 : x = p.2
      · subst c2
        rw [if_neg a3, if_neg a4, if_pos rfl, if_pos rfl]
      · rw [if_neg c2, if_neg c2]
theorem for_rangeE {lo : Int} {n : Nat} {g : TG} {tb : TS} {D : Ends} {σ : St} {H : Hp} (Pv : Nat → St → Hp → Prop) (Ev : St → Hp → Prop) (h0 : Pv 0 σ H) (he : ∀ σ H, Ev σ H → D.nx σ H)
    (hs : (∀ σ H, Ev σ H → D.nx σ H) → ∀ i σ H, i < n → Pv i σ H → g (.int (lo + i)) σ H fun σ2 H2 => tb { D with nx := Pv (i + 1), ct := Pv (i + 1), bk := D.nx } σ2 H2) (hd : ∀ σ H, Pv n σ H → Ev σ H) :
    ∃ W : Nat → Nat → St → Hp → Prop, (∃ m, W 0 m σ H) ∧ ∀ i m σ H, W i m σ H →
      ((Itr lo n).stop i H ∧ D.nx σ H) ∨ ((Itr lo n).go i H ∧ ∃ N : St → Hp → Prop, (∀ σ' H', N σ' H' → ∃ m', m' < m ∧ W (i + 1) m' σ' H') ∧ ∀ x H', (Itr lo n).yld i H x H' → g x σ H' fun σ2 H2 => tb { D with nx := N, ct := N, bk := D.nx } σ2 H2) :=
  for_range Pv h0 (hs he) fun σ H p => he σ H (hd σ H p)
theorem iv_lv' (xs : List Nat) : iv xs = (xs.map fun k : Nat => (k : Int)).map V.int := by simp [iv]
theorem iv_append (a b : List Nat) : iv (a ++ b) = iv a ++ iv b := by simp [iv]

def spLCo : Sp := fun vs H Q _ => ∃ (g : Addr) (G : List (Nat × Nat)) (row : List Int), vs = [.int (row.length : Int), .ref g] ∧ GluAt H g G ∧ IsGl row G ∧ row ≠ [] ∧ row.length ≤ 60 ∧
  ∀ (H' : Hp) (t : Addr) (xs : List V), Same H H' → H' t = some (.tup xs) → xs.length = Tw.corners row.length G → Q (.ref t) H'
section
variable {P : Program} {w : World} {K : PySem.W.Frag} {mg : Str → Option Value} {base : Heap}
theorem scLCo : FnScope ["_law_many", "_law_pairs", "_law_partner", "_law_one", "_law_other", "_law_seen", "_law_classes", "_law_corner", "_law_round_it", "_law_at", "_law_turn"] ["_law_many", "_law_pairs"] (defScope sLCor) := ⟨rfl, rfl, rfl, by decide +kernel, rfl, by decide +kernel, by decide +kernel⟩
theorem okLCo (D : Defs K mg) : FnOk P w K mg base CX0 1 D.fLCo D.dLCo ["_law_many", "_law_pairs"] spLCo := by
  refine D.FLCo.ok scLCo (fun vs H Q E h => ?_) (fun cdv A outer s H vs Q E hr h => ?_)
  · obtain ⟨g, G, row, rfl, _⟩ := h; rfl
  · obtain ⟨g, G, row, rfl, ⟨gx, hg, hG⟩, hgl, hne, hlen, k⟩ := h
    have T := D.T
    have nd := scLCo.nd
    refine ⟨_, pss_cons (ps_set (i := 2) nd rfl (Or.inl rfl) (pe_listRg rfl rfl T.list (prg_1 rfl T.range (pv 0))))
      (pss_cons (ps_for PassesOwn.never rfl (pi_tup (pv 1)) (pg_tup rfl (pgs_cons (pg_name (i := 3) nd rfl (Or.inl rfl)) (pgs_cons (pg_name (i := 4) nd rfl (Or.inl rfl)) pgs_nil)))
        (pss_cons (ps_asg (pv 4) (pg_sub (pv 2) (pv 3) set_list)) (pss_one (ps_asg (pv 3) (pg_sub (pv 2) (pv 4) set_list)))))
      (pss_cons (ps_set (i := 5) nd rfl (Or.inl rfl) (pe_lst pa_nil))
      (pss_cons (ps_set (i := 6) nd rfl (Or.inl rfl) (pe_lst pa_nil))
      (pss_cons (ps_for PassesOwn.never rfl (pi_range1 rfl T.range (pa_cons (pv 0) pa_nil)) (pg_name (i := 7) nd rfl (Or.inl rfl))
        (pss_one (ps_if (pt_cmpR op_notIn_seq (pv 7) (pv 5) rfl)
          (pss_cons (ps_set (i := 8) nd rfl (Or.inl rfl) (pe_lst pa_nil))
          (pss_cons (ps_set (i := 9) nd rfl (Or.inl rfl) (pv 7))
          (pss_cons (ps_for PassesOwn.never rfl (pi_range1 rfl T.range (pa_cons (pv 0) pa_nil)) (pg_name (i := 10) nd rfl (Or.inl rfl))
            (pss_cons (ps_if (pt_cmpR op_in_seq (pv 9) (pv 8) rfl) (pss_one ps_break) pss_nil)
            (pss_cons (ps_expr (pe_bm PySem.F.plainAttrs_list PySem.F.slot_list_append PySem.F.type_list_append mt_append (pv 8) (pa_cons (pv 9) pa_nil)))
            (pss_one (ps_set (i := 9) nd rfl (Or.inl rfl) (pe_op op_mod (pe_callTy call_int1 (by rfl) T.int (by decide +kernel) (pa_cons (pe_op op_add (pe_ix ix_list (pv 2) (pv 9) (fun _ _ => rfl)) pe_int) pa_nil)) (pv 0)))))))
          (pss_cons (ps_set (i := 5) nd rfl (Or.inl rfl) (pe_op op_cat (pv 5) (pv 8)))
          (pss_one (ps_expr (pe_bm PySem.F.plainAttrs_list PySem.F.slot_list_append PySem.F.type_list_append mt_append (pv 6) (pa_cons (pe_callTy call_tuple_of (by rfl) T.tuple (by decide +kernel) (pa_cons (pe_callB cr_sorted (by rfl) T.sorted (by decide +kernel) (pa_cons (pv 8) pa_nil)) pa_nil)) pa_nil))))))))
          pss_nil)))
      (pss_one (ps_ret (pe_callTy call_tuple_of (by rfl) T.tuple (by decide +kernel) (pa_cons (pv 6) pa_nil)))))))), ?_⟩
    have n0 : 0 < row.length := List.length_pos_iff.mpr hne
    have fa := hgl.1.facts
    refine ⟨_, rfl, _, rfl, RgOk.of_le (Int.le_refl _) (by omega) (by omega) (by omega), fun lp hlp => ?_⟩
    rw [rgV_iv]
    refine ⟨_, rfl, g, rfl, ⟨gx, SqT.of (by rw [upd_ne (ne_of_none hg hlp)]; exact hg)⟩, for_tup (xs := gx) (fun i σ H' => ∃ (ab : List Nat) (b3 b4 : Option V), σ = [some (.int (row.length : Int)), some (.ref g), some (.ref lp), b3, b4, none, none, none, none, none, none] ∧ H' = upd H lp (.lst (iv ab)) ∧ ab.length = row.length ∧ ∀ x, x < row.length → ab.getD x x = partner (G.take i) x)
      ⟨_, none, none, rfl, rfl, List.length_range, fun x hx => ?_⟩ (fun i σ H' _ ⟨_, _, _, _, e, _⟩ => SqT.of (by rw [e, upd_ne (ne_of_none hg hlp)]; exact hg)) ?_ ?_⟩
    · rw [List.getD_eq_getElem?_getD, List.getElem?_range hx]; rfl
    · rintro i x σ H' hi ⟨ab, b3, b4, rfl, rfl, hab, hpa⟩
      obtain ⟨a, q, rfl, hGi, ha⟩ := hG.at i hi
      obtain ⟨q1, q2, _⟩ := fa.lt q (List.mem_of_getElem? hGi)
      have ha' : upd H lp (.lst (iv ab)) a = some (.tup [.int (q.1 : Int), .int (q.2 : Int)]) := by rw [upd_ne (ne_of_none ha hlp)]; exact ha
      refine ⟨a, _, rfl, SqT.of ha', rfl, _, _, rfl, _, _, rfl, rfl, ?_⟩
      refine ⟨_, rfl, _, rfl, _, rfl, lp, _, _, q.1, rfl, rfl, upd_same, ?_, ?_⟩
      · unfold ixN
        rw [if_pos (by omega), if_pos (by rw [iv_length]; omega)]; simp
      rw [iv_set]
      refine ⟨_, rfl, _, rfl, _, rfl, lp, _, _, q.2, rfl, rfl, upd_same, ?_, ?_⟩
      · unfold ixN
        rw [if_pos (by omega), if_pos (by rw [iv_length, List.length_set]; omega)]; simp
      rw [iv_set]
      refine ⟨(ab.set q.1 q.2).set q.2 q.1, _, _, rfl, by rw [upd_upd, upd_upd], by simp [hab], fun x hx => ?_⟩
      have hnd : (flat (G.take i ++ [q])).Nodup := by
        have : flat (G.take (i + 1)) = flat (G.take i ++ [q]) := by rw [Tw.take_succ hGi]
        rw [← this]
        have h2 : G = G.take (i + 1) ++ G.drop (i + 1) := (List.take_append_drop _ _).symm
        have h3 := fa.nd
        rw [h2, Tw.flat_append] at h3
        exact (List.nodup_append.mp h3).1
      rw [Tw.take_succ hGi, Tw.partner_snoc hnd, ← hpa x hx]
      simp only [List.getD_eq_getElem?_getD, List.getElem?_set, List.length_set]
      have d12 : q.1 ≠ q.2 := by omega
      by_cases c1 : x = q.1
      · subst c1
        rw [if_pos rfl, if_neg (fun z => d12 z.symm), if_pos rfl, if_pos (by omega)]; rfl
      · rw [if_neg c1]
        by_cases c2 : x = q.2
        · subst c2
          rw [if_pos rfl, if_pos rfl, if_pos (by omega)]; rfl
        · rw [if_neg c2, if_neg (fun z => c2 z.symm), if_neg (fun z => c1 z.symm)]
    · rintro σ H' ⟨ab, b3, b4, rfl, rfl, hab, hpa⟩
      rw [hG.length, List.take_length] at hpa
      have hsp := hgl.sg_perm
      generalize hs : sg row.length G = sgm at hsp
      have hsg : ∀ x, x < row.length → ((((ab.getD x x : Nat) : Int) + 1) % (row.length : Int)) = ((sgm x : Nat) : Int) := fun x hx => by
        rw [hpa x hx, ← hs]
        unfold Tw.sg
        rw [Int.natCast_emod]; rfl
      have s1 : Same H (upd H lp (.lst (iv ab))) := same_upd hlp
      have h1 : upd H lp (.lst (iv ab)) lp = some (.lst (iv ab)) := upd_same
      generalize upd H lp (.lst (iv ab)) = H1 at s1 h1
      refine ⟨by decide, fun ls hls => ?_⟩
      have nps : lp ≠ ls := ne_of_none h1 hls
      have s2 : Same H (upd H1 ls (.lst [])) := Same.upd s1 (s1.free hls)
      have h2 : upd H1 ls (.lst []) lp = some (.lst (iv ab)) := by rw [upd_ne nps]; exact h1
      have h2s : upd H1 ls (.lst []) ls = some (.lst []) := upd_same
      generalize upd H1 ls (.lst []) = H2 at s2 h2 h2s
      refine ⟨by decide, fun lc hlc => ?_⟩
      have npc : lp ≠ lc := ne_of_none h2 hlc
      have nsc : ls ≠ lc := ne_of_none h2s hlc
      have hlcH := s2.free hlc
      have s3 : Same H (upd H2 lc (.lst [])) := Same.upd s2 hlcH
      have h3 : upd H2 lc (.lst []) lp = some (.lst (iv ab)) := by rw [upd_ne npc]; exact h2
      have h3s : upd H2 lc (.lst []) ls = some (.lst []) := by rw [upd_ne nsc]; exact h2s
      have h3c : upd H2 lc (.lst []) lc = some (.lst []) := upd_same
      generalize upd H2 lc (.lst []) = H3 at s3 h3 h3s h3c
      refine ⟨_, rfl, _, rfl, by omega, by omega, for_range (lo := 0) (n := row.length) (fun c σ H' => ∃ (seen l : List Nat) (xs : List V) (lsn : Addr) (b7 b8 b9 b10 : Option V), σ = [some (.int (row.length : Int)), some (.ref g), some (.ref lp), b3, b4, some (.ref lsn), some (.ref lc), b7, b8, b9, b10] ∧ Same H H' ∧ H' lp = some (.lst (iv ab)) ∧
        H' lsn = some (.lst (iv seen)) ∧ H' lc = some (.lst xs) ∧ lsn ≠ lc ∧ Seen row.length sgm c seen l ∧ xs.length = l.length ∧ seen.length ≤ c * 60 ∧ l.length ≤ c) ⟨[], [], [], ls, none, none, none, none, rfl, s3, h3, h3s, h3c, nsc, Seen.start _ _, rfl, by simp, by simp⟩ ?_ ?_⟩
      · rintro c σ H' hc ⟨seen, l, xs, lsn, b7, b8, b9, b10, rfl, sH, hp, hsn, hcl, nlc, hS, hxl, hsl, hll⟩
        have e0 : (0 : Int) + (c : Int) = ((c : Nat) : Int) := by omega
        refine ⟨_, rfl, _, rfl, lsn, iv seen, rfl, .inl (SqL.of hsn), rfl, flat_iv _, _, rfl, ?_⟩
        rw [show inV (V.int (0 + (c : Int))) (iv seen) = seen.contains c by rw [e0]; exact inV_iv _ _]
        cases hct : seen.contains c with
        | true =>
          refine iteF ?_
          have hm : c ∈ seen := by simpa using hct
          exact ⟨seen, l, xs, lsn, _, _, _, _, rfl, sH, hp, hsn, hcl, nlc, hS.skip hsp hm, hxl, by omega, by omega⟩
        | false =>
          refine iteT ?_
          have hm : c ∉ seen := by simpa using hct
          refine ⟨by decide, fun lr hlr => ?_⟩
          have npr : lp ≠ lr := ne_of_none hp hlr
          have nsr : lsn ≠ lr := ne_of_none hsn hlr
          have ncr : lc ≠ lr := ne_of_none hcl hlr
          refine ⟨_, rfl, ?_⟩
          refine ⟨_, rfl, _, rfl, by omega, by omega, for_rangeE (lo := 0) (n := row.length) (fun t σ H'' => ∃ b10, σ = [some (.int (row.length : Int)), some (.ref g), some (.ref lp), b3, b4, some (.ref lsn), some (.ref lc), some (.int (0 + (c : Int))), some (.ref lr), some (.int ((itn sgm c t : Nat) : Int)), b10] ∧ H'' = upd H' lr (.lst (iv (orb sgm c t))) ∧ (orb sgm c t).Nodup)
            (fun σ H'' => ∃ t b10, σ = [some (.int (row.length : Int)), some (.ref g), some (.ref lp), b3, b4, some (.ref lsn), some (.ref lc), some (.int (0 + (c : Int))), some (.ref lr), some (.int ((itn sgm c t : Nat) : Int)), b10] ∧ H'' = upd H' lr (.lst (iv (orb sgm c t))) ∧ (orb sgm c t).Nodup ∧ 0 < t ∧ t ≤ row.length ∧ itn sgm c t ∈ orb sgm c t)
            ⟨b10, ?_, by simp [orb, iv], by simp [orb]⟩ ?_ ?_ ?_⟩
          · show _ = _
            rw [show ((itn sgm c 0 : Nat) : Int) = 0 + (c : Int) by simp [itn]]
            rfl
          · rintro σ H'' ⟨t, b10, rfl, rfl, hnd, ht, htn, hmem⟩
            have sH4 : Same H (upd H' lr (.lst (iv (orb sgm c t)))) := Same.upd sH (sH.free hlr)
            have hp4 : upd H' lr (.lst (iv (orb sgm c t))) lp = some (.lst (iv ab)) := by rw [upd_ne npr]; exact hp
            have hs4 : upd H' lr (.lst (iv (orb sgm c t))) lsn = some (.lst (iv seen)) := by rw [upd_ne nsr]; exact hsn
            have hc4 : upd H' lr (.lst (iv (orb sgm c t))) lc = some (.lst xs) := by rw [upd_ne ncr]; exact hcl
            have hr4 : upd H' lr (.lst (iv (orb sgm c t))) lr = some (.lst (iv (orb sgm c t))) := upd_same
            generalize upd H' lr (.lst (iv (orb sgm c t))) = H4 at sH4 hp4 hs4 hc4 hr4
            have hol := Tw.orb_length sgm c t
            have hc60 : c * 60 ≤ 60 * 60 := Nat.mul_le_mul_right 60 (by omega)
            refine ⟨_, rfl, _, rfl, lsn, lr, _, _, rfl, rfl, hs4, hr4, by rw [iv_length, iv_length, hol, sizeLine_eq]; omega, fun l2 hl2 => ?_⟩
            rw [← iv_append]
            have sH5 : Same H (upd H4 l2 (.lst (iv (seen ++ orb sgm c t)))) := Same.upd sH4 (sH4.free hl2)
            have hp5 : upd H4 l2 (.lst (iv (seen ++ orb sgm c t))) lp = some (.lst (iv ab)) := by rw [upd_ne (ne_of_none hp4 hl2)]; exact hp4
            have hc5 : upd H4 l2 (.lst (iv (seen ++ orb sgm c t))) lc = some (.lst xs) := by rw [upd_ne (ne_of_none hc4 hl2)]; exact hc4
            have hr5 : upd H4 l2 (.lst (iv (seen ++ orb sgm c t))) lr = some (.lst (iv (orb sgm c t))) := by rw [upd_ne (ne_of_none hr4 hl2)]; exact hr4
            have h25 : upd H4 l2 (.lst (iv (seen ++ orb sgm c t))) l2 = some (.lst (iv (seen ++ orb sgm c t))) := upd_same
            have n2c : l2 ≠ lc := (ne_of_none hc4 hl2).symm
            generalize upd H4 l2 (.lst (iv (seen ++ orb sgm c t))) = H5 at sH5 hp5 hc5 hr5 h25
            refine ⟨_, rfl, .inl ⟨rfl, _, SqL.of hc5⟩, _, rfl, lr, (orb sgm c t).map (fun k : Nat => (k : Int)), rfl, (by rw [← iv_lv']; exact SqL.of hr5), (by rw [List.length_map, hol]; omega), fun ns' q hperm hsort hq => ?_⟩
            refine ⟨q, _, rfl, .inl ⟨SqL.of upd_same, fun tt htt => ?_⟩⟩
            have nqt : tt ≠ q := fun z => by rw [z, upd_same] at htt; cases htt
            have htt5 : H5 tt = none := by rw [upd_ne nqt] at htt; exact htt
            have s57 : Same H5 (upd (upd H5 q (.lst (ns'.map V.int))) tt (.tup (ns'.map V.int))) := Same.upd (same_upd hq) htt5
            refine ⟨lc, xs, .ref tt, rfl, rfl, s57 _ _ hc5, by rw [sizeLine_eq]; omega, ?_⟩
            refine ⟨seen ++ orb sgm c t, l ++ [c], xs ++ [.ref tt], l2, _, _, _, _, rfl, Same.upd (sH5.trans s57) hlcH, by rw [upd_ne npc]; exact s57 _ _ hp5, by rw [upd_ne n2c]; exact s57 _ _ h25, upd_same, n2c, hS.more hsp hc hm ht hnd hmem, by rw [List.length_append, List.length_append, hxl]; rfl, ?_, by rw [List.length_append, List.length_singleton]; omega⟩
            rw [List.length_append, hol]
            omega
          · intro fin t σ H'' ht ⟨b10, e1, e2, hnd⟩
            subst e1 e2
            refine ⟨_, rfl, _, rfl, lr, iv (orb sgm c t), rfl, .inl (SqL.of upd_same), rfl, flat_iv _, _, rfl, ?_⟩
            rw [show inV (V.int ((itn sgm c t : Nat) : Int)) (iv (orb sgm c t)) = (orb sgm c t).contains (itn sgm c t) from inV_iv _ _]
            cases hct2 : (orb sgm c t).contains (itn sgm c t) with
            | true =>
              refine iteT ?_
              have hm2 : itn sgm c t ∈ orb sgm c t := by simpa using hct2
              have t0 : 0 < t := by
                refine Nat.pos_of_ne_zero fun z => ?_
                rw [z] at hm2; simp [orb] at hm2
              exact fin _ _ ⟨t, _, rfl, rfl, hnd, t0, by omega, hm2⟩
            | false =>
              refine iteF ?_
              have hm2 : itn sgm c t ∉ orb sgm c t := by simpa using hct2
              have hlt := Tw.itn_lt hsp hc t
              refine ⟨_, rfl, .inl ⟨rfl, _, SqL.of upd_same⟩, _, rfl, lr, _, _, rfl, rfl, upd_same, by rw [iv_length, Tw.orb_length, sizeLine_eq]; omega, ?_⟩
              have hp2 : upd (upd H' lr (.lst (iv (orb sgm c t)))) lr (.lst (iv (orb sgm c t) ++ [.int ((itn sgm c t : Nat) : Int)])) lp = some (.lst (iv ab)) := by rw [upd_ne npr, upd_ne npr]; exact hp
              refine ⟨_, rfl, _, rfl, lp, _, _, _, rfl, rfl, SqL.of hp2, iv_at (by rw [hab]; exact hlt), _, _, rfl, rfl, .inl ⟨_, rfl, _, rfl, _, _, rfl, rfl, (show (0 : Int) < (row.length : Int) by omega), ?_⟩⟩
              refine ⟨some (.int (0 + (t : Int))), ?_, by rw [upd_upd, iv_snoc, ← Tw.orb_succ], Tw.orb_nodup_succ hnd hm2⟩
              rw [show ((itn sgm c (t + 1) : Nat) : Int) = ((((ab.getD (itn sgm c t) (itn sgm c t) : Nat) : Int) + 1) % (row.length : Int)) from (hsg _ hlt).symm]
              rfl
          · rintro σ H'' ⟨b10, rfl, rfl, hnd⟩
            exact ⟨_, _, rfl, rfl, hnd, n0, Nat.le_refl _, Tw.orb_full hsp hc hnd⟩
      · rintro σ H' ⟨seen, l, xs, lsn, b7, b8, b9, b10, rfl, sH, hp, hsn, hcl, nlc, hS, hxl, hsl, hll⟩
        refine ⟨_, rfl, lc, _, rfl, .inl ⟨SqL.of hcl, fun t ht => ?_⟩⟩
        refine k _ t xs (Same.upd sH (sH.free ht)) upd_same ?_
        rw [hxl]
        rw [← hs] at hS
        exact Tw.walk_corners hgl hne hS
end
end K94
end

-- text TwSort
section
set_option Elab.async false
set_option linter.all false
set_option maxRecDepth 100000
set_option maxHeartbeats 4000000
/-! sorted of a tuple of pairs. -/
namespace K94
open PySem PySem.Spec PyProof.Rows L2 SrtO
section
variable {prog : Program} {w : World} {A : Around} {E : Value → Shared → Prop} {s : Shared}
theorem sortedT_ord {t : Addr} {vs : List Value} {ltv : Value → Value → Bool} {Q : Value → Shared → Prop} (O : Swo ltv) (ht : IsTup s.heap t vs.toArray) (hz : vs.length ≤ sizeLine)
    (hS : 2 ≤ vs.length → ∀ (h₁ : Heap) (a : Addr), h₁.get? a = some (seqObj "list" vs.toArray 0) → (∀ b o, s.heap.get? b = some o → b ≠ a ∧ h₁.get? b = some o) → SortableO prog w A.in1.in1 { s with heap := h₁ } a vs ltv)
    (h : ∀ (h1 h' : Heap) (out : List Value), Srtd ltv out → Stb ltv out vs → (∀ b o, s.heap.get? b = some o → h1.get? b = some o) → (∀ b o, h1.get? b = some o → h'.get? b = some o) → (∃ n, h'.get? h1.objs.size = some (seqObj "list" out.toArray n)) → Q (.ref h1.objs.size) { s with heap := h' }) :
    wpAny (model prog w) A (call (.builtin "sorted") [.ref t]) Q E s := by
  refine Calls.call_function_entry kind_sorted plain_sorted entry_sorted (args_sorted1 _) ?_
  unfold Builtin.«sorted»
  refine wpAny_bind (m := checkCount "sorted" 1 1 _) (wpAny_pure ?_)
  obtain ⟨o, ho, hc, n, hd⟩ := id ht
  refine wpAny_bind (wpAny_collect_seq t (.inr rfl) ho hc hd (fun h1 k1 => ?_) (by rw [List.size_toArray]; exact hz))
  have ev : vs.toArray.toList = vs := by simp
  rw [ev]
  refine wpAny_bind (wpAny_newList ?_ hz)
  have hoL : (h1.push (seqObj "list" vs.toArray 0)).get? h1.objs.size = some (seqObj "list" vs.toArray 0) := Heap.get?_push_size _ rfl
  have keep : ∀ b o, s.heap.get? b = some o → b ≠ h1.objs.size ∧ (h1.push (seqObj "list" vs.toArray 0)).get? b = some o := fun b o q =>
    ⟨Nat.ne_of_lt (Heap.lt_size (k1 b o q)), Heap.get?_push_of_some _ (k1 b o q)⟩
  show wpAny _ _ _ _ _ { s with heap := h1.push (seqObj "list" vs.toArray 0) }
  refine wpAny_bind (wpAny_holding (wpAny_call_entry slot_list_sort ⟨_, hoL, rfl⟩ entry_list_sort (list_sort_ord O hoL hz (fun h2 => hS h2 _ _ hoL keep) fun out hs hb => ⟨_, rfl, ?_⟩) (args_list_sort _)))
  obtain ⟨e', he'⟩ := PyProof.Rows.sortedHeap_at (vs := vs) (out := out.toArray) hoL
  refine wpAny_pure ⟨_, rfl, h h1 _ out hs hb k1 (fun b ob q => ?_) ⟨e', he'⟩⟩
  have hb2 := Heap.lt_size q
  rw [PyProof.Rows.sortedHeap_old (Nat.ne_of_lt hb2) (by rw [size_push']; exact Nat.lt_succ_of_lt hb2)]
  exact Heap.get?_push_of_some _ q
theorem sortedT_pairs {t : Addr} {vs : List Value} {k : Value → Int × Int} {Q : Value → Shared → Prop} (ht : IsTup s.heap t vs.toArray) (hz : vs.length ≤ sizeLine) (hp : ∀ v ∈ vs, Srt.IsPair s.heap v (k v).1 (k v).2)
    (h : ∀ (h1 h' : Heap) (out : List Value), Srtd (fun v u => lexB (k v) (k u)) out → Stb (fun v u => lexB (k v) (k u)) out vs → (∀ b o, s.heap.get? b = some o → h1.get? b = some o) → (∀ b o, h1.get? b = some o → h'.get? b = some o) → (∃ n, h'.get? h1.objs.size = some (seqObj "list" out.toArray n)) → Q (.ref h1.objs.size) { s with heap := h' }) :
    wpAny (model prog w) A (call (.builtin "sorted") [.ref t]) Q E s := by
  refine sortedT_ord (swo_lex k) ht hz (fun h2 h₁ a ha kk => ?_) h
  refine pairs_sortableO (s := { s with heap := h₁ }) (by omega) (fun v hm => (hp v hm).keeps fun b o e _ => (kk b o e).2) fun o e => ?_
  have e' : some o = some (seqObj "list" vs.toArray 0) := e.symm.trans ha
  cases e'
  intro c
  exact absurd (Value.type.inj c) (by decide)
end
/-- sorted(t), t a tuple of pairs of ints -/
def rSortedTP (K : PySem.W.Frag) : List V → Hp → VK → Prop := fun vs H Q => ∃ (a : Addr) (xs : List V) (k : V → Int × Int), vs = [V.ref a] ∧ SqT K H a xs ∧ (∀ x ∈ xs, ∃ t, x = V.ref t ∧ H t = some (.tup [.int (k x).1, .int (k x).2])) ∧
  ∀ ys p, SrtO.Srtd (ltP k) ys → SrtO.Stb (ltP k) ys xs → H p = none → Q (.ref p) (upd H p (.lst ys))
theorem cr_sortedTP {X : Cx} : CallR X (.builtin "sorted") (rSortedTP X.K) := by
  intro pins s σ H vs us Q I r h
  obtain ⟨a, xs, k, rfl, hs, hx, q⟩ := h
  obtain ⟨its, rv, hl, hz⟩ := I.tuple hs
  obtain ⟨u, rfl, ru⟩ := vals1 r
  obtain rfl : u = Value.ref a := ru
  obtain ⟨e1, e2⟩ := refs_back rv fun x m => by
    obtain ⟨t, e, _⟩ := hx x m
    exact ⟨t, e⟩
  refine sortedT_pairs (k := fun u => k (backV u)) hl (by rw [← rv.length]; exact hz) (fun v hv => ?_) fun h1 h' out g1 g2 k1 k2 hn => ?_
  · obtain ⟨t, rfl⟩ := e2 v hv
    have hm : V.ref t ∈ xs := by rw [e1]; exact List.mem_map.mpr ⟨_, hv, rfl⟩
    obtain ⟨t', e, ht⟩ := hx _ hm
    cases e
    obtain ⟨_, its2, r2, o, ho, hc, n, hd⟩ := I.hok _ _ ht
    obtain ⟨u1, u2, rfl, ri, rj⟩ := vals2 r2
    obtain ⟨t1, rfl⟩ := ri
    obtain ⟨t2, rfl⟩ := rj
    exact ⟨t, o, t1, t2, n, rfl, ho, hc, hd⟩
  · have h3 : ∀ u ∈ out, ∃ a, u = Value.ref a := fun u hu => e2 u (g2.perm.mem_iff.mp hu)
    obtain ⟨n, hn⟩ := hn
    have hb : SrtO.Stb (ltP k) (out.map backV) xs := by
      rw [e1]
      exact SrtO.Stb.map (ltP_swo k) backV g2
    have I1 : Inv X pins σ H { s with heap := h1 } := I.kept (t' := s.toks) k1
    refine ⟨.ref h1.objs.size, upd H h1.objs.size (.lst (out.map backV)), I1.laid (t' := s.toks) k2 (Nat.le_refl _) ⟨?_, out, n, vals_back h3, hn⟩, rfl, q _ _ (SrtO.srtd_map g1) hb (I1.hok.fresh (Nat.le_refl _))⟩
    rw [hb.perm.length_eq]
    exact hz
end K94
end

-- text TwLaw5
section
set_option Elab.async false
set_option linter.all false
set_option maxRecDepth 100000
set_option maxHeartbeats 4000000
/-! _law_handles, _law_gluing_right. -/
namespace K94
open PySem PySem.Spec PyProof.Rows L2
open Tw (flat IsGl)

def pd (G : List (Nat × Nat)) : List PyData := G.map fun q => PyData.tuple [.int (q.1 : Int), .int (q.2 : Int)]
theorem pd_lay : ∀ G, PyData.canLayAll0 (pd G) = true
  | [] => rfl
  | q :: G => by
    show (PyData.canLay0 (PyData.tuple [.int (q.1 : Int), .int (q.2 : Int)]) && PyData.canLayAll0 (pd G)) = true
    rw [pd_lay G]; rfl
theorem pd_depth : ∀ G, PyData.depthAll (pd G) ≤ 4
  | [] => by decide
  | q :: G => by
    have ih := pd_depth G
    have e : pd (q :: G) = PyData.tuple [.int (q.1 : Int), .int (q.2 : Int)] :: pd G := rfl
    have d1 : PyData.depth (PyData.tuple [.int (q.1 : Int), .int (q.2 : Int)]) ≤ 4 := by simp [PyData.depth, PyData.depthAll]
    rw [e]
    unfold PyData.depthAll
    exact Nat.max_le.mpr ⟨d1, ih⟩
theorem pd_shaped (G : List (Nat × Nat)) : SeqAt.shaped (.list (pd G)) = true := by
  unfold SeqAt.shaped
  have h1 : PyData.canLay0 (.list (pd G)) = true := pd_lay G
  have h2 := pd_depth G
  have h3 : PyData.depth (.list (pd G)) ≤ 64 := by
    unfold PyData.depth
    omega
  rw [h1, decide_eq_true h3]; rfl
theorem dp_pairs {K : PySem.W.Frag} {H : Hp} : ∀ {xs G}, PairsAt H xs G → DpAll K H xs (pd G)
  | [], [], _ => .nil
  | .ref a :: xs, q :: G, h => .cons (.tup (SqT.of h.1) (.cons (.int _) (.cons (.int _) .nil))) (dp_pairs h.2)
  | [], _ :: _, q => q.elim
  | .non :: _, _, q => by simp [PairsAt] at q
  | .bl _ :: _, _, q => by simp [PairsAt] at q
  | .int _ :: _, _, q => by simp [PairsAt] at q
  | .str _ :: _, _, q => by simp [PairsAt] at q
  | .byt _ :: _, _, q => by simp [PairsAt] at q
  | .flt _ :: _, _, q => by simp [PairsAt] at q
  | .ty _ :: _, _, q => by simp [PairsAt] at q
  | .ref _ :: _, [], q => by simp [PairsAt] at q
/-- a pair by its address -/
def pk (H : Hp) : V → Int × Int
  | .ref a => match H a with
    | some (.tup [.int i, .int j]) => (i, j)
    | _ => (0, 0)
  | _ => (0, 0)
theorem pk_at {H : Hp} {a : Addr} {i j : Int} (h : H a = some (.tup [.int i, .int j])) : pk H (.ref a) = (i, j) := by
  show (match H a with | some (.tup [.int i, .int j]) => (i, j) | _ => (0, 0)) = (i, j)
  rw [h]
theorem pk_srtd {H : Hp} {xs : List V} {G : List (Nat × Nat)} (h : PairsAt H xs G) (hs : (G.map (·.1)).Pairwise (· < ·)) : SrtO.Srtd (ltP (pk H)) xs := by
  refine List.pairwise_iff_getElem.mpr fun i j hi hj hij => ?_
  obtain ⟨a, p, ea, ga, ha⟩ := h.at i (x := xs[i]) (List.getElem?_eq_getElem hi)
  obtain ⟨b, q, eb, gb, hb⟩ := h.at j (x := xs[j]) (List.getElem?_eq_getElem hj)
  rw [ea, eb]
  have hl := h.length
  have lt : p.1 < q.1 := by
    have h2 := List.pairwise_iff_getElem.mp hs i j (by rw [List.length_map]; omega) (by rw [List.length_map]; omega) hij
    rw [List.getElem_map, List.getElem_map] at h2
    have e1 : G[i]'(by omega) = p := by
      have := List.getElem?_eq_some_iff.mp ga
      exact this.2
    have e2 : G[j]'(by omega) = q := by
      have := List.getElem?_eq_some_iff.mp gb
      exact this.2
    rw [e1, e2] at h2
    exact h2
  show SrtO.lexB (pk H (.ref b)) (pk H (.ref a)) = false
  rw [pk_at ha, pk_at hb]
  refine SrtO.lexB_no.mpr ?_
  show ¬ ((q.1 : Int) < (p.1 : Int) ∨ ((q.1 : Int) = (p.1 : Int) ∧ _))
  omega
theorem ite_no {c : Bool} {A B : Prop} (h : c = false) (b : B) : if c = true then A else B := by rw [h]; exact iteF b
theorem ite_yes {c : Bool} {A B : Prop} (h : c = true) (a : A) : if c = true then A else B := by rw [h]; exact iteT a
def spLHa : Sp := fun vs H Q _ => ∃ (r g : Addr) (G : List (Nat × Nat)) (row : List Int), vs = [.ref r, .ref g] ∧ H r = some (.tup (lv row)) ∧ GluAt H g G ∧ IsGl row G ∧ (∀ x ∈ row, x ≠ 0) ∧ row.length ≤ 60 ∧
  ∀ (H' : Hp), Same H H' → Q (.int ((Tw.handles row.length G : Nat) : Int)) H'
def spRgt : Sp := fun vs H Q _ => ∃ (r g : Addr) (G : List (Nat × Nat)) (row : List Int), vs = [.ref r, .ref g] ∧ H r = some (.tup (lv row)) ∧ GluAt H g G ∧ IsGl row G ∧ row.length ≤ 60 ∧
  ∀ (H' : Hp), Same H H' → Q (.bl true) H'
theorem handles_int2 {row : List Int} {G : List (Nat × Nat)} (h : IsGl row G) (h0 : ∀ x ∈ row, x ≠ 0) : ((G.length : Int) + 1 - (Tw.corners row.length G : Int)) / 2 = ((Tw.handles row.length G : Nat) : Int) := by
  have := h.handles2 h0
  omega
section
variable {P : Program} {w : World} {K : PySem.W.Frag} {mg : Str → Option Value} {base : Heap}
theorem scLHa : FnScope ["_law_row", "_law_gluing"] ["_law_row", "_law_gluing"] (defScope sLHan) := ⟨rfl, rfl, rfl, by decide +kernel, rfl, by decide +kernel, by decide +kernel⟩
theorem okLHa (D : Defs K mg) : FnOk P w K mg base CX0 2 D.fLHa D.dLHa ["_law_row", "_law_gluing"] spLHa := by
  refine D.FLHa.ok scLHa (fun vs H Q E h => ?_) (fun cdv A outer s H vs Q E hr h => ?_)
  · obtain ⟨r, g, G, row, rfl, _⟩ := h; rfl
  · obtain ⟨r, g, G, row, rfl, hrw, hg, hgl, h0, hlen, k⟩ := h
    have T := D.T
    refine ⟨_, pss_cons (ps_if (pt_cmpR op_eq (pe_callB call_len_seq (by rfl) T.len PySem.boot_len (pa_cons (pv 0) pa_nil)) pe_int (nomark _)) (pss_one (ps_ret pe_int)) pss_nil)
      (pss_one (ps_ret (pe_op op_fdiv (pe_op op_sub (pe_op op_add (pe_callB call_len_seq (by rfl) T.len PySem.boot_len (pa_cons (pv 1) pa_nil)) pe_int) (pe_callB call_len_seq (by rfl) T.len PySem.boot_len (pa_cons (pe_call (okLCo D) hr rfl D.gLCo D.FLCo.kp D.bLCo .nil pass0 (pa_cons (pe_callB call_len_seq (by rfl) T.len PySem.boot_len (pa_cons (pv 0) pa_nil)) (pa_cons (pv 1) pa_nil))) pa_nil))) pe_int))), ?_⟩
    refine ⟨_, rfl, r, _, rfl, .inr (SqT.of hrw), rfl, _, rfl, ?_⟩
    by_cases c : row = []
    · subst c
      refine iteT ?_
      have := handles_nil hgl
      have kk := k H (Same.refl H)
      rw [show ([] : List Int).length = 0 from rfl, this] at kk
      exact kk
    · have ne : ¬ V.int ((lv row).length : Int) = V.int 0 := fun q => by
        injection q with q
        rw [lv_length] at q
        exact c (List.eq_nil_of_length_eq_zero (by omega))
      rw [decide_eq_false ne]
      refine iteF ?_
      obtain ⟨gx, hgx, hgp⟩ := id hg
      refine ⟨_, rfl, g, _, rfl, .inr (SqT.of hgx), _, _, rfl, rfl, ?_⟩
      refine ⟨_, rfl, r, _, rfl, .inr (SqT.of hrw), _, rfl, g, G, row, (by rw [lv_length]; rfl), hg, hgl, c, hlen, fun H2 t xs s2 ht hx => ?_⟩
      refine ⟨t, xs, rfl, .inr (SqT.of ht), _, _, rfl, rfl, _, _, rfl, rfl, ⟨by decide, by decide⟩, ?_⟩
      show Q (V.int (((gx.length : Int) + 1 - (xs.length : Int)) / 2)) H2
      rw [hx, hgp.length, handles_int2 hgl h0]
      exact k H2 s2
theorem scRgt : FnScope ["_law_row", "_law_gluing", "_law_seen", "_law_pair", "_law_one", "_law_other"] ["_law_row", "_law_gluing"] (defScope sRight) := ⟨rfl, rfl, rfl, by decide +kernel, rfl, by decide +kernel, by decide +kernel⟩
theorem okRgt (D : Defs K mg) : FnOk P w K mg base CX0 2 D.fRgt D.dRgt ["_law_row", "_law_gluing"] spRgt := by
  refine D.FRgt.ok scRgt (fun vs H Q E h => ?_) (fun cdv A outer s H vs Q E hr h => ?_)
  · obtain ⟨r, g, G, row, rfl, _⟩ := h; rfl
  · obtain ⟨r, g, G, row, rfl, hrw, ⟨gx, hg, hG⟩, hgl, hlen, k⟩ := h
    have T := D.T
    have nd := scRgt.nd
    refine ⟨_, (pss_cons (ps_if (PW.pt (pw_or (pt_not (pt_val (pe_callB call_isi (by rfl) T.isinstance (by decide +kernel) (pa_cons (pv 1) (pa_cons (pe_bltn (by rfl) T.tuple (by decide +kernel) (show RelV (.ty "tuple") (.type "tuple") from rfl)) pa_nil))))) (pw_or1 (pt_cmpR op_ne (pe_op op_mul pe_int (pe_callB call_len_seq (by rfl) T.len PySem.boot_len (pa_cons (pv 1) pa_nil))) (pe_callB call_len_seq (by rfl) T.len PySem.boot_len (pa_cons (pv 0) pa_nil)) (nomark _))))) (pss_one (ps_ret pe_bl)) pss_nil)
      (pss_cons (ps_set (i := 2) nd rfl (Or.inl rfl) (pe_lst pa_nil))
      (pss_cons (ps_for PassesOwn.never rfl (pi_tup (pv 1)) (pg_name (i := 3) nd rfl (Or.inl rfl))
      (pss_cons (ps_if (PW.pt (pw_or (pt_not (pt_val (pe_callB call_isi (by rfl) T.isinstance (by decide +kernel) (pa_cons (pv 3) (pa_cons (pe_bltn (by rfl) T.tuple (by decide +kernel) (show RelV (.ty "tuple") (.type "tuple") from rfl)) pa_nil))))) (pw_or1 (pt_cmpR op_ne (pe_callB call_len_seq (by rfl) T.len PySem.boot_len (pa_cons (pv 3) pa_nil)) pe_int (nomark _))))) (pss_one (ps_ret pe_bl)) pss_nil)
      (pss_cons (ps_asg (pv 3) (pg_tup rfl (pgs_cons (pg_name (i := 4) nd rfl (Or.inl rfl)) (pgs_cons (pg_name (i := 5) nd rfl (Or.inl rfl)) pgs_nil))))
      (pss_cons (ps_if (PW.pt (pw_or (pt_not (pt_val (pe_call (okNum D) hr rfl D.gNum D.FNum.kp D.bNum .nil pass0 (pa_cons (pv 4) (pa_cons (pv 4) pa_nil))))) (pw_or1 (pt_not (pt_val (pe_call (okNum D) hr rfl D.gNum D.FNum.kp D.bNum .nil pass0 (pa_cons (pv 5) (pa_cons (pv 5) pa_nil)))))))) (pss_one (ps_ret pe_bl)) pss_nil)
      (pss_cons (ps_if (PW.pt (pw_or (pt_cmpR op_lt (pv 4) pe_int (nomark _)) (pw_or (pt_cmpR op_ge (pv 4) (pv 5) (nomark _)) (pw_or (pt_cmpR op_ge (pv 5) (pe_callB call_len_seq (by rfl) T.len PySem.boot_len (pa_cons (pv 0) pa_nil)) (nomark _)) (pw_or1 (pt_cmpR op_ne (pe_ix ix_tup (pv 0) (pv 4) (fun _ _ => rfl)) (pe_op op_sub pe_int (pe_ix ix_tup (pv 0) (pv 5) (fun _ _ => rfl))) (nomark _))))))) (pss_one (ps_ret pe_bl)) pss_nil)
      (pss_cons (ps_if (PW.pt (pw_or (pt_cmpR op_in_seq (pv 4) (pv 2) rfl) (pw_or1 (pt_cmpR op_in_seq (pv 5) (pv 2) rfl)))) (pss_one (ps_ret pe_bl)) pss_nil)
      (pss_one (ps_set (i := 2) nd rfl (Or.inl rfl) (pe_op op_cat (pv 2) (pe_lst (pa_cons (pv 4) (pa_cons (pv 5) pa_nil))))))))))))
      (pss_one (ps_ret (pe_cmpR (op_eqD hr.units) (pe_callTy call_list_of (by rfl) T.list (by decide +kernel) (pa_cons (pv 1) pa_nil)) (pe_callB cr_sortedTP (by rfl) T.sorted (by decide +kernel) (pa_cons (pv 1) pa_nil)) (nomark _))))))), ?_⟩
    have fa := hgl.1.facts
    have hgl2 := hgl.length
    have hgxl := hG.length
    refine ⟨_, rfl, .ref g, .ty "tuple", .type "tuple", .type "tuple", true, rfl, .ty _, .base (.tup hg), kit_ty (by decide +kernel), true, rfl, ?_⟩
    refine iteF ?_
    refine ⟨_, rfl, g, _, rfl, .inr (SqT.of hg), _, _, rfl, rfl, .inl ⟨by decide, by decide⟩, _, rfl, r, _, rfl, .inr (SqT.of hrw), rfl, _, rfl, ?_⟩
    have e1 : (!decide (V.int (2 * (gx.length : Int)) = V.int ((lv row).length : Int))) = false := by
      have : (2 * (gx.length : Int)) = ((lv row).length : Int) := by rw [lv_length, hgxl]; omega
      rw [this]; simp
    refine ite_no e1 ?_
    refine ⟨by decide, fun ls hls => ?_⟩
    refine ⟨_, rfl, g, rfl, ⟨gx, SqT.of ((same_upd hls) _ _ hg)⟩, for_tup (xs := gx) (fun i σ H' => ∃ (l : Addr) (b3 b4 b5 : Option V), σ = [some (.ref r), some (.ref g), some (.ref l), b3, b4, b5] ∧ Same H H' ∧ H' l = some (.lst (iv (flat (G.take i)))))
      ⟨ls, none, none, none, rfl, same_upd hls, upd_same⟩ (fun i σ H' _ ⟨_, _, _, _, _, sH, _⟩ => SqT.of (sH _ _ hg)) ?_ ?_⟩
    · rintro i x σ H' hi ⟨l, b3, b4, b5, rfl, sH, hl⟩
      obtain ⟨a, q, rfl, hGi, ha⟩ := hG.at i hi
      obtain ⟨q1, q2, q3⟩ := fa.lt q (List.mem_of_getElem? hGi)
      have ha' := sH _ _ ha
      have hr' := sH _ _ hrw
      have hnd : (flat (G.take i ++ [q])).Nodup := by
        have : flat (G.take (i + 1)) = flat (G.take i ++ [q]) := by rw [Tw.take_succ hGi]
        rw [← this]
        have h2 : G = G.take (i + 1) ++ G.drop (i + 1) := (List.take_append_drop _ _).symm
        have h3 := fa.nd
        rw [h2, Tw.flat_append] at h3
        exact (List.nodup_append.mp h3).1
      rw [Tw.flat_append, Tw.flat_one] at hnd
      have dis := (List.nodup_append.mp hnd).2.2
      have n1 : (flat (G.take i)).contains q.1 = false := by
        simp only [List.contains_eq_mem, decide_eq_false_iff_not]
        exact fun z => dis _ z q.1 (by simp) rfl
      have n2 : (flat (G.take i)).contains q.2 = false := by
        simp only [List.contains_eq_mem, decide_eq_false_iff_not]
        exact fun z => dis _ z q.2 (by simp) rfl
      have r1 : atI (lv row) (q.1 : Int) = some (.int (row.getD q.1 0)) := atI_nat (lv_getD (by omega))
      have r2 : atI (lv row) (q.2 : Int) = some (.int (row.getD q.2 0)) := atI_nat (lv_getD q2)
      -- isinstance, len
      refine ⟨_, rfl, .ref a, .ty "tuple", .type "tuple", .type "tuple", true, rfl, .ty _, .base (.tup ha'), kit_ty (by decide +kernel), true, rfl, ?_⟩
      refine iteF ?_
      refine ⟨_, rfl, a, _, rfl, .inr (SqT.of ha'), rfl, _, rfl, ?_⟩
      refine ite_no (by simp) ?_
      -- one, other = pair
      refine ⟨_, rfl, a, _, rfl, SqT.of ha', rfl, _, _, rfl, _, _, rfl, rfl, ?_⟩
      -- numbers
      refine ⟨_, rfl, _, rfl, (q.1 : Int), (q.1 : Int), rfl, _, rfl, ?_⟩
      refine ite_no (by simp) ?_
      refine ⟨_, rfl, _, rfl, (q.2 : Int), (q.2 : Int), rfl, _, rfl, ?_⟩
      refine ite_no (by simp) ?_
      -- the order, the letters
      refine ⟨_, rfl, _, _, rfl, rfl, _, rfl, ?_⟩
      refine ite_no (show decide ((q.1 : Int) < 0) = false from decide_eq_false (by omega)) ?_
      refine ⟨_, rfl, _, rfl, _, _, rfl, rfl, _, rfl, ?_⟩
      refine ite_no (show decide ((q.2 : Int) ≤ (q.1 : Int)) = false from decide_eq_false (by omega)) ?_
      refine ⟨_, rfl, _, rfl, r, _, rfl, .inr (SqT.of hr'), _, _, rfl, rfl, _, rfl, ?_⟩
      refine ite_no (show decide (((lv row).length : Int) ≤ (q.2 : Int)) = false from decide_eq_false (by rw [lv_length]; omega)) ?_
      refine ⟨_, rfl, _, rfl, r, _, _, _, rfl, rfl, SqT.of hr', r1, ?_⟩
      refine ⟨_, rfl, _, rfl, r, _, _, _, rfl, rfl, SqT.of hr', r2, _, _, rfl, rfl, rfl, _, rfl, ?_⟩
      refine ite_no (show (!decide (V.int (row.getD q.1 0) = V.int (0 - row.getD q.2 0))) = false from ?_) ?_
      · rw [show row.getD q.1 0 = 0 - row.getD q.2 0 by omega]; simp
      -- not seen
      refine ⟨_, rfl, _, rfl, l, _, rfl, .inl (SqL.of hl), rfl, flat_iv _, _, rfl, ?_⟩
      refine ite_no (show inV (V.int (q.1 : Int)) (iv (flat (G.take i))) = false from by rw [inV_iv]; exact n1) ?_
      refine ⟨_, rfl, _, rfl, l, _, rfl, .inl (SqL.of hl), rfl, flat_iv _, _, rfl, ?_⟩
      refine ite_no (show inV (V.int (q.2 : Int)) (iv (flat (G.take i))) = false from by rw [inV_iv]; exact n2) ?_
      -- seen = seen + [one, other]
      refine ⟨_, rfl, _, rfl, _, rfl, (show 2 ≤ sizeLine by decide), fun l2 hl2 => ?_⟩
      refine ⟨l, l2, _, _, rfl, rfl, (by rw [upd_ne (ne_of_none hl hl2)]; exact hl), upd_same, ?_, fun l3 hl3 => ?_⟩
      · rw [iv_length, Tw.flat_length, List.length_take, sizeLine_eq]
        show _ + 2 ≤ _
        omega
      · have n32 : l3 ≠ l2 := fun z => by rw [z, upd_same] at hl3; cases hl3
        rw [upd_ne n32] at hl3
        refine ⟨l3, _, _, _, rfl, Same.upd (Same.upd sH (sH.free hl2)) (sH.free hl3), ?_⟩
        rw [upd_same, Tw.take_succ hGi, Tw.flat_append, Tw.flat_one, iv_append]
        rfl
    · rintro σ H' ⟨l, b3, b4, b5, rfl, sH, hl⟩
      have hg' := sH _ _ hg
      have hG' := hG.tups sH.tups
      refine ⟨_, rfl, g, _, rfl, .inr (SqT.of hg'), fun l1 hl1 => ?_⟩
      have hg2 : upd H' l1 (.lst gx) g = some (.tup gx) := (same_upd hl1) _ _ hg'
      have hG2 := hG'.tups (same_upd (o := .lst gx) hl1).tups
      have hl1s : upd H' l1 (.lst gx) l1 = some (.lst gx) := upd_same
      have sH2 : Same H (upd H' l1 (.lst gx)) := Same.upd sH (sH.free hl1)
      generalize upd H' l1 (.lst gx) = H2 at hg2 hG2 hl1s sH2
      have srt := pk_srtd hG2 fa.asc
      refine ⟨_, rfl, g, gx, pk H2, rfl, SqT.of hg2, fun x hx => ?_, fun ys p hs hb hp => ?_⟩
      · obtain ⟨i, hi, e⟩ := List.getElem_of_mem hx
        obtain ⟨a, q, ea, _, ha⟩ := hG2.at i (x := x) (by rw [List.getElem?_eq_getElem hi, e])
        exact ⟨a, ea, by rw [ea, pk_at ha]; exact ha⟩
      · have ey : ys = gx := SrtO.stb_uniq (ltP_swo _) hs srt hb
        subst ey
        have s3 := same_upd (o := .lst ys) hp
        have hG3 := hG2.tups s3.tups
        refine ⟨.list (pd G), .list (pd G), .lst (SqL.of (s3 _ _ hl1s)) (dp_pairs hG3), .lst (SqL.of upd_same) (dp_pairs hG3), pd_shaped G, pd_shaped G, ?_⟩
        rw [SeqAt.eqv_refl (.list (pd G)) (show PyData.canLay0 (.list (pd G)) = true from pd_lay G)]
        exact k _ (sH2.trans s3)
end
end K94
end

-- text TwSame
section
set_option Elab.async false
set_option linter.all false
set_option maxRecDepth 100000
set_option maxHeartbeats 4000000
/-! _law_same: of equal leaves, of equal tuples of leaves. Written by gen_same.py. -/
namespace K94
open PySem PySem.Spec PyProof.Rows L2
inductive Leaf : V → Prop
  | int (i : Int) : Leaf (.int i)
  | bl (b : Bool) : Leaf (.bl b)
  | str (s : Str) : Leaf (.str s)
def spSame0 : Sp := fun vs H Q _ => ∃ x, vs = [x, x] ∧ Leaf x ∧ Q (.bl true) H
def spSame1 (K : PySem.W.Frag) : Sp := fun vs H Q _ => ∃ (a b : Addr) (xs : List V), vs = [.ref a, .ref b] ∧ SqT K H a xs ∧ SqT K H b xs ∧ TyX K H (.ref a) (.type "tuple") ∧ TyX K H (.ref b) (.type "tuple") ∧ (∀ x ∈ xs, Leaf x) ∧ xs.length ≤ 400 ∧ Q (.bl true) H
section
variable {P : Program} {w : World} {K : PySem.W.Frag} {mg : Str → Option Value} {base : Heap}
theorem scSame : FnScope ["_law_actual", "_law_due", "_law_k", "_law_key"] ["_law_actual", "_law_due"] (defScope sSame) := ⟨rfl, rfl, rfl, by decide +kernel, rfl, by decide +kernel, by decide +kernel⟩
theorem okSame0 (D : Defs K mg) : FnOk P w K mg base CX0 1 D.fSame D.dSame ["_law_actual", "_law_due"] spSame0 := by
  refine D.FSame.ok scSame (fun vs H Q E h => ?_) (fun cdv A outer s H vs Q E hr h => ?_)
  · obtain ⟨x, rfl, _⟩ := h; rfl
  · obtain ⟨x, rfl, hx, k⟩ := h
    have T := D.T
    refine ⟨_, (pss_cons (ps_if (pt_cmpR op_isN (pv 1) pe_non (nomark _)) pss_never pss_nil)
      (pss_cons (ps_if (PW.pt (pw_or (pt_val (pe_callB call_isi (by rfl) T.isinstance (by decide +kernel) (pa_cons (pv 1) (pa_cons (pe_bltn (by rfl) T.tuple (by decide +kernel) (show RelV (.ty "tuple") (.type "tuple") from rfl)) pa_nil)))) (pw_or1 (pt_val (pe_callB call_isi (by rfl) T.isinstance (by decide +kernel) (pa_cons (pv 1) (pa_cons (pe_bltn (by rfl) T.list (by decide +kernel) (show RelV (.ty "list") (.type "list") from rfl)) pa_nil))))))) pss_never pss_nil)
      (pss_cons (ps_if (pt_val (pe_callB call_isi (by rfl) T.isinstance (by decide +kernel) (pa_cons (pv 1) (pa_cons (pe_bltn (by rfl) T.dict (by decide +kernel) (show RelV (.ty "dict") (.type "dict") from rfl)) pa_nil)))) pss_never pss_nil)
      (pss_cons (ps_if (pt_val (pe_callB call_isi (by rfl) T.isinstance (by decide +kernel) (pa_cons (pv 1) (pa_cons (pe_bltn (by rfl) T.bool (by decide +kernel) (show RelV (.ty "bool") (.type "bool") from rfl)) pa_nil)))) (pss_one (ps_ret (pe_and (pe_callB call_isi (by rfl) T.isinstance (by decide +kernel) (pa_cons (pv 0) (pa_cons (pe_bltn (by rfl) T.bool (by decide +kernel) (show RelV (.ty "bool") (.type "bool") from rfl)) pa_nil))) (pe_one (pe_cmpR op_eq (pv 0) (pv 1) (nomark _)))))) pss_nil)
      (pss_cons (ps_if (pt_val (pe_callB call_isi (by rfl) T.isinstance (by decide +kernel) (pa_cons (pv 1) (pa_cons (pe_bltn (by rfl) T.int (by decide +kernel) (show RelV (.ty "int") (.type "int") from rfl)) pa_nil)))) (pss_one (ps_ret (pe_and (pe_callB call_isi (by rfl) T.isinstance (by decide +kernel) (pa_cons (pv 0) (pa_cons (pe_bltn (by rfl) T.int (by decide +kernel) (show RelV (.ty "int") (.type "int") from rfl)) pa_nil))) (pe_and (pe_not (pe_callB call_isi (by rfl) T.isinstance (by decide +kernel) (pa_cons (pv 0) (pa_cons (pe_bltn (by rfl) T.bool (by decide +kernel) (show RelV (.ty "bool") (.type "bool") from rfl)) pa_nil)))) (pe_one (pe_cmpR op_eq (pv 0) (pv 1) (nomark _))))))) pss_nil)
      (pss_one (ps_ret (pe_and (pe_callB call_isi (by rfl) T.isinstance (by decide +kernel) (pa_cons (pv 0) (pa_cons (pe_bltn (by rfl) T.str (by decide +kernel) (show RelV (.ty "str") (.type "str") from rfl)) pa_nil))) (pe_one (pe_cmpR op_eq (pv 0) (pv 1) (nomark _))))))))))), ?_⟩
    cases hx with
    | int i =>
      refine ⟨_, rfl, rfl, _, rfl, ?_⟩
      refine ite_no (by simp) ?_
      refine ⟨_, rfl, (.int i), .ty "tuple", .type "int", .type "tuple", false, rfl, .ty _, (.base (.int i)), kit_ty (by decide +kernel), false, rfl, ?_⟩
      refine iteF ?_
      refine ⟨_, rfl, (.int i), .ty "list", .type "int", .type "list", false, rfl, .ty _, (.base (.int i)), kit_ty (by decide +kernel), false, rfl, ?_⟩
      refine iteF ?_
      refine ⟨_, rfl, (.int i), .ty "dict", .type "int", .type "dict", false, rfl, .ty _, (.base (.int i)), kit_ty (by decide +kernel), false, rfl, ?_⟩
      refine iteF ?_
      refine ⟨_, rfl, (.int i), .ty "bool", .type "int", .type "bool", false, rfl, .ty _, (.base (.int i)), kit_ty (by decide +kernel), false, rfl, ?_⟩
      refine iteF ?_
      refine ⟨_, rfl, (.int i), .ty "int", .type "int", .type "int", true, rfl, .ty _, (.base (.int i)), kit_ty (by decide +kernel), true, rfl, ?_⟩
      refine iteT ?_
      refine ⟨_, rfl, (.int i), .ty "int", .type "int", .type "int", true, rfl, .ty _, (.base (.int i)), kit_ty (by decide +kernel), true, rfl, ?_⟩
      refine iteT ?_
      refine ⟨_, rfl, (.int i), .ty "bool", .type "int", .type "bool", false, rfl, .ty _, (.base (.int i)), kit_ty (by decide +kernel), _, rfl, _, rfl, ?_⟩
      refine iteT ?_
      refine ⟨_, rfl, _, rfl, rfl, ?_⟩
      show Q (V.bl (decide (V.int i = V.int i))) H
      rw [decide_eq_true rfl]
      exact k
    | bl b =>
      refine ⟨_, rfl, rfl, _, rfl, ?_⟩
      refine ite_no (by simp) ?_
      refine ⟨_, rfl, (.bl b), .ty "tuple", .type "bool", .type "tuple", false, rfl, .ty _, (.base (.bl b)), kit_ty (by decide +kernel), false, rfl, ?_⟩
      refine iteF ?_
      refine ⟨_, rfl, (.bl b), .ty "list", .type "bool", .type "list", false, rfl, .ty _, (.base (.bl b)), kit_ty (by decide +kernel), false, rfl, ?_⟩
      refine iteF ?_
      refine ⟨_, rfl, (.bl b), .ty "dict", .type "bool", .type "dict", false, rfl, .ty _, (.base (.bl b)), kit_ty (by decide +kernel), false, rfl, ?_⟩
      refine iteF ?_
      refine ⟨_, rfl, (.bl b), .ty "bool", .type "bool", .type "bool", true, rfl, .ty _, (.base (.bl b)), kit_ty (by decide +kernel), true, rfl, ?_⟩
      refine iteT ?_
      refine ⟨_, rfl, (.bl b), .ty "bool", .type "bool", .type "bool", true, rfl, .ty _, (.base (.bl b)), kit_ty (by decide +kernel), true, rfl, ?_⟩
      refine iteT ?_
      refine ⟨_, rfl, _, rfl, rfl, ?_⟩
      show Q (V.bl (decide (V.bl b = V.bl b))) H
      rw [decide_eq_true rfl]
      exact k
    | str z =>
      refine ⟨_, rfl, rfl, _, rfl, ?_⟩
      refine ite_no (by simp) ?_
      refine ⟨_, rfl, (.str z), .ty "tuple", .type "str", .type "tuple", false, rfl, .ty _, (.base (.str z)), kit_ty (by decide +kernel), false, rfl, ?_⟩
      refine iteF ?_
      refine ⟨_, rfl, (.str z), .ty "list", .type "str", .type "list", false, rfl, .ty _, (.base (.str z)), kit_ty (by decide +kernel), false, rfl, ?_⟩
      refine iteF ?_
      refine ⟨_, rfl, (.str z), .ty "dict", .type "str", .type "dict", false, rfl, .ty _, (.base (.str z)), kit_ty (by decide +kernel), false, rfl, ?_⟩
      refine iteF ?_
      refine ⟨_, rfl, (.str z), .ty "bool", .type "str", .type "bool", false, rfl, .ty _, (.base (.str z)), kit_ty (by decide +kernel), false, rfl, ?_⟩
      refine iteF ?_
      refine ⟨_, rfl, (.str z), .ty "int", .type "str", .type "int", false, rfl, .ty _, (.base (.str z)), kit_ty (by decide +kernel), false, rfl, ?_⟩
      refine iteF ?_
      refine ⟨_, rfl, (.str z), .ty "str", .type "str", .type "str", true, rfl, .ty _, (.base (.str z)), kit_ty (by decide +kernel), true, rfl, ?_⟩
      refine iteT ?_
      refine ⟨_, rfl, _, rfl, rfl, ?_⟩
      show Q (V.bl (decide (V.str z = V.str z))) H
      rw [decide_eq_true rfl]
      exact k
theorem okSame1 (D : Defs K mg) : FnOk P w K mg base CX0 2 D.fSame D.dSame ["_law_actual", "_law_due"] (spSame1 K) := by
  refine D.FSame.ok scSame (fun vs H Q E h => ?_) (fun cdv A outer s H vs Q E hr h => ?_)
  · obtain ⟨a, b, xs, rfl, _⟩ := h; rfl
  · obtain ⟨a, b, xs, rfl, ha, hb, ta, tb, hx, hlen, k⟩ := h
    have T := D.T
    have nd := scSame.nd
    refine ⟨_, (pss_cons (ps_if (pt_cmpR op_isN (pv 1) pe_non (nomark _)) pss_never pss_nil)
      (pss_cons (ps_if (PW.pt (pw_or (pt_val (pe_callB call_isi (by rfl) T.isinstance (by decide +kernel) (pa_cons (pv 1) (pa_cons (pe_bltn (by rfl) T.tuple (by decide +kernel) (show RelV (.ty "tuple") (.type "tuple") from rfl)) pa_nil)))) (pw_or1 (pt_val (pe_callB call_isi (by rfl) T.isinstance (by decide +kernel) (pa_cons (pv 1) (pa_cons (pe_bltn (by rfl) T.list (by decide +kernel) (show RelV (.ty "list") (.type "list") from rfl)) pa_nil))))))) (pss_cons (ps_if (PW.pt (pw_or (PW.pt (pw_and (pt_val (pe_callB call_isi (by rfl) T.isinstance (by decide +kernel) (pa_cons (pv 1) (pa_cons (pe_bltn (by rfl) T.tuple (by decide +kernel) (show RelV (.ty "tuple") (.type "tuple") from rfl)) pa_nil)))) (pw_and1 (pt_not (pt_val (pe_callB call_isi (by rfl) T.isinstance (by decide +kernel) (pa_cons (pv 0) (pa_cons (pe_bltn (by rfl) T.tuple (by decide +kernel) (show RelV (.ty "tuple") (.type "tuple") from rfl)) pa_nil)))))))) (pw_or1 (PW.pt (pw_and (pt_val (pe_callB call_isi (by rfl) T.isinstance (by decide +kernel) (pa_cons (pv 1) (pa_cons (pe_bltn (by rfl) T.list (by decide +kernel) (show RelV (.ty "list") (.type "list") from rfl)) pa_nil)))) (pw_and1 (pt_not (pt_val (pe_callB call_isi (by rfl) T.isinstance (by decide +kernel) (pa_cons (pv 0) (pa_cons (pe_bltn (by rfl) T.list (by decide +kernel) (show RelV (.ty "list") (.type "list") from rfl)) pa_nil))))))))))) (pss_one (ps_ret pe_bl)) pss_nil)
      (pss_cons (ps_if (pt_cmpR op_ne (pe_callB call_len_seq (by rfl) T.len PySem.boot_len (pa_cons (pv 0) pa_nil)) (pe_callB call_len_seq (by rfl) T.len PySem.boot_len (pa_cons (pv 1) pa_nil)) (nomark _)) (pss_one (ps_ret pe_bl)) pss_nil)
      (pss_cons (ps_for PassesOwn.never rfl (pi_range1 rfl T.range (pa_cons (pe_callB call_len_seq (by rfl) T.len PySem.boot_len (pa_cons (pv 1) pa_nil)) pa_nil)) (pg_name (i := 2) nd rfl (Or.inl rfl))
      (pss_one (ps_if (pt_not (pt_val (pe_call (okSame0 D) hr rfl D.gSame D.FSame.kp D.bSame .nil pass0 (pa_cons (pe_ix ix_tup (pv 0) (pv 2) (fun _ _ => rfl)) (pa_cons (pe_ix ix_tup (pv 1) (pv 2) (fun _ _ => rfl)) pa_nil))))) (pss_one (ps_ret pe_bl)) pss_nil)))
      (pss_one (ps_ret pe_bl))))) pss_nil)
      pss_never)), ?_⟩
    refine ⟨_, rfl, rfl, _, rfl, ?_⟩
    refine ite_no (by simp) ?_
    refine ⟨_, rfl, (.ref b), .ty "tuple", .type "tuple", .type "tuple", true, rfl, .ty _, tb, kit_ty (by decide +kernel), true, rfl, ?_⟩
    refine iteT ?_
    refine iteT ?_
    refine ⟨_, rfl, (.ref b), .ty "tuple", .type "tuple", .type "tuple", true, rfl, .ty _, tb, kit_ty (by decide +kernel), true, rfl, ?_⟩
    refine iteT ?_
    refine ⟨_, rfl, (.ref a), .ty "tuple", .type "tuple", .type "tuple", true, rfl, .ty _, ta, kit_ty (by decide +kernel), true, rfl, ?_⟩
    refine iteF ?_
    refine ⟨_, rfl, (.ref b), .ty "list", .type "tuple", .type "list", false, rfl, .ty _, tb, kit_ty (by decide +kernel), false, rfl, ?_⟩
    refine iteF ?_
    refine iteF ?_
    refine ⟨_, rfl, a, _, rfl, .inr ha, _, rfl, b, _, rfl, .inr hb, rfl, _, rfl, ?_⟩
    refine ite_no (by simp) ?_
    refine ⟨_, rfl, b, _, rfl, .inr hb, _, rfl, by omega, by omega, for_range (lo := 0) (n := xs.length) (fun i σ H' => ∃ b2, σ = [some (.ref a), some (.ref b), b2, none] ∧ H' = H) ⟨none, rfl, rfl⟩ ?_ ?_⟩
    · rintro i σ H' hi ⟨b2, rfl, rfl⟩
      have hxi : xs[i]? = some xs[i] := List.getElem?_eq_getElem hi
      have e0 : (0 : Int) + (i : Int) = ((i : Nat) : Int) := by omega
      refine ⟨_, rfl, _, rfl, a, _, _, _, rfl, rfl, ha, (by rw [e0]; exact atI_nat hxi), _, rfl, _, rfl, b, _, _, _, rfl, rfl, hb, (by rw [e0]; exact atI_nat hxi), xs[i], rfl, hx _ (List.getElem_mem hi), true, rfl, ?_⟩
      exact iteF ⟨_, rfl, rfl⟩
    · rintro σ H' ⟨b2, rfl, rfl⟩
      exact k
end
end K94
end

-- text TwErr
section
set_option Elab.async false
set_option linter.all false
set_option maxRecDepth 100000
set_option maxHeartbeats 4000000
/-! TooLarge: its __init__ with super().__init__(..). -/
namespace K94
open PySem PySem.Spec PyProof.Rows L2
abbrev sTI : Stmt := inClass (topS 4) 0
def iScope : Scope := { kind := .function, names := [("self", .local), ("what", .local), ("limit", .local)], isGenerator := false, isCoroutine := false, more := [] }
/-- what the top has left of TooLarge and of its __init__ -/
structure TooC (P : Program) (K : PySem.W.Frag) (mg : Str → Option Value) (C fI : Addr) (fd : FuncData) : Prop where
  gC : mg "TooLarge" = some (.ref C)
  oex : OexC K C
  noW : PySem.W.findIn K (.ref C) "what" = some none
  noL : PySem.W.findIn K (.ref C) "limit" = some none
  ga : PySem.W.findIn K (.ref C) "__getattribute__" = some (some (.builtin "BaseException.__getattribute__"))
  gg : PySem.W.findIn K (.ref C) "__getattr__" = some none
  iC : PySem.W.findIn K (.ref C) "__init__" = some (some (.ref fI))
  tI : PySem.W.typeIn K (.ref fI) = some (.type "function")
  hdC : PySem.W.hasDictIn K C = true
  te : PySem.W.exmOne K (.ref C) (.ref C) = some true
  sup : mg "super" = none
  opq : PySem.W.nsIn K cStatics "thirdparty.any" = some none
  hm : PySem.W.ks_superIn K C C "__init__" = some (some (.builtin "ValueError.__init__"))
  hB : PySem.W.subIn K (.ref C) (.type "ValueError") = some true
  hsub : PySem.W.mroIn K C (.ref C) = some true
  top : (P.main.scope.names.lookup ("super" : Str)).isSome = false
  fn : ∃ (oc : Value) (od : Option Addr) (doc pm : Value) (an : Option Addr) (cda cc : Addr) (ct : Value) (osl : Array (Option Value)) (cl : Value) (cld : Option Addr) (csl : Array (Option Value)) (ccl : Value) (cdd : Option Addr) (vs : Array Value) (ccs : Array (Option Value)) (file : Str) (tf : Tok),
    fd = PySem.W.ksFn "__init__" "TooLarge.__init__" (defArgs sTI) (defBody sTI) (defScope sTI) .none .none doc pm an (.ref cda) ct cc ∧
    K.lookup fI = some ⟨oc, od, .func fd, osl⟩ ∧ PySem.W.codeIn K (.ref cda) "TooLarge.__init__" = true ∧ K.lookup cc = some ⟨cl, cld, .cell (some (.ref C)), csl⟩ ∧
    K.lookup cda = some ⟨ccl, cdd, .fields vs, ccs⟩ ∧ vs[2]? = some (.str file tf) ∧ ((P.main.file : Str) == file) = true
def spTI (C : Addr) : Sp := fun vs H Q _ => ∃ (a : Addr) (v1 v2 : V), vs = [.ref a, v1, v2] ∧ H a = some (exo a C none) ∧
  ∀ dx, H dx = none → dx ≠ a → Q .non (upd (upd (upd H dx (exd dx [("what", v1)])) a (exo a C (some dx))) dx (exd dx [("limit", v2), ("what", v1)]))
/-- ValueError.__init__ bound to an exception, called -/
theorem call_mw {prog : Program} {w : World} {A : Around} {E : Value → Shared → Prop} {h : Heap} {g : Array GenState} {d : Drawn} {t : Nat} {os : OsState} {nm q : Str} {C N : Addr} {bs bm : List Value} {hdct : Bool} {sn : List Str} {sub : List Value} {ab : Bool} {col : Option Bool} {dd : Option Addr} {k0 k1 k2 k3 k5 : Option Value}
    {u e t0 : Addr} {rest : List Value} {Q : Value → Shared → Prop}
    (hC : h.get? C = some (excClassObj nm q C N bs bm hdct sn sub ab col dd k0 k1 k2 k3 k5 "ValueError.__new__")) (he : h.get? e = some (PySem.HandSPX.excO C t0)) (hu : h.get? u = some (PySem.W.kxs_mw "ValueError.__init__" e)) (hrest : rest.length ≤ sizeLine)
    (hq : ∀ h' t1, (∀ b o, b ≠ e → h.get? b = some o → h'.get? b = some o) → h'.get? e = some (PySem.HandSPX.excO C t1) → Q .none ⟨h', g, d, t, os⟩) :
    wpAny (model prog w) A (call (.ref u) rest) Q E ⟨h, g, d, t, os⟩ := by
  refine wpAny_call (codeAny_of_tree ?_)
  show wpAny _ A.in1 (callAny (.ref u) ⟨rest, []⟩) _ _ _
  simp only [callAny]
  refine wpAny_bind (wpAny_load hu ?_)
  simp only [PySem.W.kxs_mw, show (Value.type "method-wrapper" == Value.type "method" || Value.type "method-wrapper" == Value.type "builtin_function_or_method" || Value.type "method-wrapper" == Value.type "method-wrapper") = true by decide, if_true]
  refine W.KFB.if_so (by decide) ?_
  refine wpAny_bind (ESX.check_bound F.excBase_ValueError hC he rfl ?_)
  refine wpAny_bind (wpAny_pure (wpAny_pure ?_))
  refine ⟨plainId_quiet F.excBase_ValueError.init.plain _, codeAny_builtin F.excBase_ValueError.initEntry ?_⟩
  rw [Around.under_plainId F.excBase_ValueError.init.plain _]
  exact PySem.W.exc_init_tree (cls := .ref C) (t0 := t0) (dv := none) (c2 := .none) (c3 := .none) (b4 := .bool false) he hrest fun h' k1 k2 _ => hq h' _ k1 k2
theorem cw_mw {M : Model} {A : Around} {E : Value → Shared → Prop} {s : Shared} {u x : Addr} {i : String} {pos : Pos} {env : Env} {e : Expr} {rest : List Expr} {Q : Value → Shared → Prop}
    (h : wpAny M A (spliced (backTo pos (starEach (e :: rest) env))) (fun vs s₁ => PySem.W.KxsAt i u x s₁.heap ∧ wpAny M A (call (.ref u) vs) Q E s₁) E s)
    (he : starEach (e :: rest) env = (false, eval e env) :: starEach rest env := by rfl) (hplain : (backTo pos (starEach rest env)).any (·.1) = false := by rfl) :
    wpAny M A (callWith pos (.ref u) [] (backTo pos (starEach (e :: rest) env)) []) Q E s := by
  rw [he] at h ⊢
  refine PySem.W.kxs_callWith (i := i) (x := x) (by show (false || (backTo pos (starEach rest env)).any (·.1)) = false; rw [hplain]; rfl) ?_
  exact Calls.evalArgs_plain h
section
variable {P : Program} {w : World} {K : PySem.W.Frag} {mg : Str → Option Value} {base : Heap} {C fI : Addr} {fd : FuncData}
theorem okTI (T : TooC P K mg C fI fd) : FnOk P w K mg base CX0 2 fI fd ["self", "what", "limit"] (spTI C) := by
  obtain ⟨oc, od, doc, pm, an, cda, cc, ct, osl, cl, cld, csl, ccl, cdd, vs, ccs, file, tf, rfl, lk, hcd, hcell, hcode, hvs, hfile⟩ := T.fn
  refine ⟨fun vs H Q E h => by obtain ⟨a, v1, v2, rfl, _⟩ := h; rfl, fun A outer s H args us vs' Q E hr e0 hb r hsp => ?_⟩
  obtain ⟨a, v1, v2, rfl, ha, k⟩ := hsp
  have KX : K.In s.heap := e0.mod.kin.keeps fun b o e => (e0.bs b o e).1
  have lim : s.heap.NoLimit := e0.mod.nolimit.keeps fun b o e => (e0.bs b o e).1
  obtain ⟨u0, us1, rfl, r0, r1⟩ : ∃ u0 us1, us = u0 :: us1 ∧ RelV (.ref a) u0 ∧ Vals [v1, v2] us1 := by
    cases r with
    | cons x y => exact ⟨_, _, rfl, x, y⟩
  obtain ⟨u1, u2, rfl, rv1, rv2⟩ := vals2 r1
  obtain rfl : u0 = Value.ref a := r0
  refine PySem.ks_codeAny_call_defAt hr.depth (KX _ _ lk) rfl lim (PySem.W.codeRec_of KX hcd) rfl hb (show ∀ x ∈ (defScope sTI).names, x.2 ≠ .cell by decide +kernel) ?_ (fun h₁ hns hk₁ => ?_) rfl rfl rfl
  · intro y hy
    have hz : y = (("self" : Str), Value.ref a) ∨ y = (("what" : Str), u1) ∨ y = (("limit" : Str), u2) := by simpa [List.zip] using hy
    rcases hz with rfl | rfl | rfl <;> rfl
  -- a context whose slots are the parameters
  let X : Cx := cxOf CX0 P w K mg base ["self", "what", "limit"] "TooLarge.__init__" iScope fI (.ref cda) A outer s H E
  have hX : X = cxOf CX0 P w K mg base ["self", "what", "limit"] "TooLarge.__init__" iScope fI (.ref cda) A outer s H E := rfl
  have noA : ∀ b : Addr, b ∉ X.ex := fun b z => absurd (show b ∈ ([] : List Addr) from z) (by simp)
  have noC : ∀ y, X.env.cells.lookup y = none := fun y => rfl
  have I0 : Inv X [] [some (.ref a), some v1, some v2] H { s with heap := h₁, toks := s.toks + (List.zip ["self", "what", "limit"] [Value.ref a, u1, u2]).length } := by
    refine ⟨⟨e0.mod, rfl, rfl, rfl, Nat.le_refl _, fun y z c h1 h2 => ?_, fun y hy => ?_, fun y c _ h => ?_, fun _ => hr.hd, Around.frames_deeper e0.frames, .inr ⟨rfl, rfl⟩, fun b z => absurd z (noA b), e0.bs, e0.bsz, fun b _ _ => noA b, fun b z => absurd z (noA b), e0.funs, e0.frf⟩,
      rfl, e0.bare, Un.kept hk₁, ⟨_, hns, fun i y v h1 h2 h3 => ?_⟩, fun y c h => ?_, e0.hok.fresh (Nat.le_refl _), fun y c h => ?_, fun p hp => absurd (show p ∈ ([] : List (Addr × Obj)) from hp) (by simp), e0.hok.kept hk₁, rfl⟩
    · rw [noC y] at h1; cases h1
    · have hy' : iScope.names.lookup y = some .cell ∨ iScope.names.lookup y = some .free := hy
      rcases hy' with z | z
      · have := PySem.mem_of_lookup z
        simp [iScope] at this
      · have := PySem.mem_of_lookup z
        simp [iScope] at this
    · rw [noC y] at h; cases h
    · match i, h1, h2 with
      | 0, h1, h2 => cases h1; cases h2; exact ⟨_, rfl, .inl ⟨rfl, rfl⟩⟩
      | 1, h1, h2 => cases h1; cases h2; exact ⟨_, rv1, .inl ⟨rfl, rfl⟩⟩
      | 2, h1, h2 => cases h1; cases h2; exact ⟨_, rv2, .inl ⟨rfl, rfl⟩⟩
    · rw [noC y] at h; cases h
    · rw [noC y] at h; cases h
  have hlook : ∀ {s' : Shared} {H' : Hp}, Inv X [] [some (.ref a), some v1, some v2] H' s' → ∃ m, s'.heap.Ns s.heap.objs.size m ∧ m "self" = some (.ref a) ∧ (∃ u, RelV v1 u ∧ m "what" = some u) ∧ (∃ u, RelV v2 u ∧ m "limit" = some u) := fun {s' H'} I' => by
    obtain ⟨m, hn, hl⟩ := I'.loc
    obtain ⟨w0, ra, q0⟩ := hl 0 "self" (.ref a) rfl rfl (.inl rfl)
    obtain ⟨w1, ra1, q1⟩ := hl 1 "what" v1 rfl rfl (.inl rfl)
    obtain ⟨w2, ra2, q2⟩ := hl 2 "limit" v2 rfl rfl (.inl rfl)
    cases ra
    refine ⟨m, hn, ?_, ⟨w1, ra1, ?_⟩, ⟨w2, ra2, ?_⟩⟩
    · rcases q0 with q | ⟨q, _⟩
      · exact q.2
      · rcases q with q | q <;> cases q
    · rcases q1 with q | ⟨q, _⟩
      · exact q.2
      · rcases q with q | q <;> cases q
    · rcases q2 with q | ⟨q, _⟩
      · exact q.2
      · rcases q with q | q <;> cases q
  refine PySem.ks_wpAt_execs_cons (PySem.ks_wpAt_Expr_any (PySem.ks_wpAt_MethodCall (pl := ?pl) ?h))
  case h =>
    have KX1 : K.In h₁ := KX.keeps hk₁
    have hbs : ∀ b o, base.get? b = some o → h₁.get? b = some o := fun b o q => hk₁ b o (e0.bs b o q).1
    obtain ⟨mb, hmb1, hmb2⟩ := e0.mod.blt
    obtain ⟨nm, q, N, bs, bm, sn, sub, ab, col, dd, k0, k1, k2, k3, k5, hC, hbm⟩ := T.oex.cls
    have hC1 := KX1 _ _ hC
    obtain ⟨t1, ho⟩ := exo_at I0.hok ha
    refine PySem.ks_wpAt_super_base (f := fI) (cc := cda) rfl rfl (by decide) rfl (KX1 _ _ lk) rfl rfl rfl (KX1 _ _ hcode) rfl hvs hfile T.top ?_
    refine PySem.W.ks_loadName_global rfl rfl (Calls.loadGlobal_builtin (e0.mod.glob.keeps hbs) T.sup (hmb1.keeps hbs) ((hmb2 _ (by decide)).trans (show bootBuiltins "super" = some (.type "super") by decide +kernel)) ⟨rfl, ?_⟩)
    refine wpAny_loadName_free rfl rfl rfl ⟨_, KX1 _ _ hcell, rfl⟩ ?_
    obtain ⟨m, hn, m0, _, _⟩ := hlook I0
    refine wpAny_loadName_local rfl rfl hn m0 ?_
    refine PySem.ks_wpAny_isType_cls hC1 rfl ⟨rfl, ?_⟩
    refine PySem.ks_wpAny_call_super hC1 rfl ho rfl (fun c z => by cases z) (PySem.W.looks_mroIn KX1 T.hsub) (fun h2 es k2' => ?_)
    have KX2 : K.In h2 := KX1.keeps k2'
    have ho2 := k2' _ _ ho
    have hcl : PySem.W.clsIn K C = some { name := nm, bases := bs, mro := .ref C :: bm, ns := N, qualname := q, hasDict := true, slotNames := sn, subclasses := sub, abstract := ab, collection := col, hasDel := false } := by unfold PySem.W.clsIn; rw [hC] <;> rfl
    have hm2 := T.hm
    unfold PySem.W.ks_superIn at hm2
    rw [hcl] at hm2
    have IA : PySem.W.InstAt h2 a { cls := .ref C, dict := none, data := .fields #[.ref t1, .none, .none, .none, .bool false, .none] } C none := ⟨ho2, rfl, rfl, trivial⟩
    refine PySem.W.kxs_getMethod PySem.W.kxs_ValueError es (PySem.W.looks_opaque KX2 T.opq) (l₀ := .ref C :: bm) ((PySem.W.looks_clsIn KX2 hcl).andThen .now) rfl KX2 hm2 (IA.type.andThen (PySem.W.looks_subIn KX2 T.hB)) (PySem.W.ks_ne KX2 IA hcl) (by decide) ?_
    have k3 : ∀ b o, h2.get? b = some o → (h2.push (PySem.W.kxs_mw "ValueError.__init__" a)).get? b = some o := fun b o z => Heap.get?_push_of_some _ z
    refine cw_mw (i := "ValueError.__init__") (x := a) (PyProof.Rows.args_cons (Calls.Constant_str (PyProof.Rows.args_nil ⟨Heap.get?_push_size _ rfl, ?_⟩)))
    refine call_mw ((KX2.keeps k3) _ _ hC) (k3 _ _ ho2) (Heap.get?_push_size _ rfl) (show 1 ≤ sizeLine by decide) fun h4 t4 k4 he4 => ?_
    have I3 := I0.kept (t' := s.toks + (List.zip (["self", "what", "limit"] : List Str) [Value.ref a, u1, u2]).length + 1 + 1) (fun b o z => k3 b o (k2' b o z))
    have J := I3.write (t' := s.toks + (List.zip (["self", "what", "limit"] : List Str) [Value.ref a, u1, u2]).length + 1 + 1) (x := a) (e := a) (o := exo a C none) (by rw [ha]; exact True.intro) (.inl rfl) k4 ⟨_, he4⟩ (exo_ok he4)
    have eu : upd H a (exo a C none) = H := by
      funext b
      by_cases hb : b = a
      · rw [hb, upd_same, ha]
      · rw [upd_ne hb]
    rw [eu] at J
    obtain ⟨m2, hn2, m20, ⟨w1, rw1, m21⟩, _⟩ := hlook J
    -- self.what = what
    refine PySem.ks_wpAt_execs_cons (PySem.ks_wpAt_Assign_Attr (wpAt_of_wpAny (wpAny_Name (wpAny_loadName_local rfl rfl hn2 m21 (wpAny_Name (wpAny_loadName_local rfl rfl hn2 m20 (ost_new T.oex J ha T.noW rw1 (fun dx s' hdx hne J2 => ?_))))))))
    obtain ⟨m3, hn3, m30, _, ⟨w2, rw2, m32⟩⟩ := hlook J2
    -- self.limit = limit
    refine PySem.ks_wpAt_execs_cons (PySem.ks_wpAt_Assign_Attr (wpAt_of_wpAny (wpAny_Name (wpAny_loadName_local rfl rfl hn3 m32 (wpAny_Name (wpAny_loadName_local rfl rfl hn3 m30 (ost_old (fs := [("what", v1)]) T.oex J2 upd_same (by rw [upd_ne hne, upd_same]) (show 1 ≤ 900 by decide) T.noL rw2 (fun s'' J3 => ?_))))))))
    refine wpAt_of_wpAny (wpAny_execs_nil ?_)
    exact ⟨.non, _, J3.os, J3.bare, J3.base, J3.hok, rfl, k dx hdx hne⟩
end
end K94
end

-- text TwBest
section
set_option Elab.async false
set_option linter.all false
set_option maxRecDepth 100000
set_option maxHeartbeats 4000000
/-! first_best, least_handles, best_gluing. -/
namespace K94
open PySem PySem.Spec PyProof.Rows L2 TwG
open Tw (IsGl handles Least)
/-- TooLarge and its maker -/
structure Too (P : Program) (K : PySem.W.Frag) (mg : Str → Option Value) where
  C : Addr
  f : Addr
  d : FuncData
  T : TooC P K mg C f d
  b : L2.Binds K d ["self", "what", "limit"] []
theorem PairsAt.uniq {H : Hp} : ∀ {xs G G'}, PairsAt H xs G → PairsAt H xs G' → G = G'
  | [], [], [], _, _ => rfl
  | .ref a :: xs, p :: G, q :: G', h1, h2 => by
    have e := h1.1.symm.trans h2.1
    have e1 : p = q := by
      have e2 := Option.some.inj e
      injection e2 with e2
      injection e2 with e3 e4
      injection e4 with e5 _
      injection e3 with e3
      injection e5 with e5
      exact Prod.ext (by omega) (by omega)
    rw [e1, PairsAt.uniq h1.2 h2.2]
  | [], [], _ :: _, _, q => q.elim
  | [], _ :: _, _, q, _ => q.elim
  | .non :: _, _, _, q, _ => by simp [PairsAt] at q
  | .bl _ :: _, _, _, q, _ => by simp [PairsAt] at q
  | .int _ :: _, _, _, q, _ => by simp [PairsAt] at q
  | .str _ :: _, _, _, q, _ => by simp [PairsAt] at q
  | .byt _ :: _, _, _, q, _ => by simp [PairsAt] at q
  | .flt _ :: _, _, _, q, _ => by simp [PairsAt] at q
  | .ty _ :: _, _, _, q, _ => by simp [PairsAt] at q
  | .ref _ :: _, [], _, q, _ => by simp [PairsAt] at q
  | .ref _ :: _, _ :: _, [], _, q => by simp [PairsAt] at q
theorem GluAt.uniq {H : Hp} {g : Addr} {G G' : List (Nat × Nat)} (h : GluAt H g G) (h' : GluAt H g G') : G = G' := by
  obtain ⟨xs, e1, p1⟩ := h
  obtain ⟨ys, e2, p2⟩ := h'
  have e := e1.symm.trans e2
  have e3 := Option.some.inj e
  injection e3 with e3
  subst e3
  exact p1.uniq p2

theorem Glus.mem2 {H : Hp} {xs S} (h : Glus H xs S) {g : Addr} (hg : V.ref g ∈ xs) : ∃ G ∈ S, GluAt H g G := by
  induction h with
  | nil => simp at hg
  | snoc _ q ih =>
    rcases List.mem_append.mp hg with z | z
    · obtain ⟨G, h1, h2⟩ := ih z
      exact ⟨G, List.mem_append_left _ h1, h2⟩
    · have e := List.mem_singleton.mp z
      injection e with e
      subst e
      exact ⟨_, List.mem_append_right _ (List.mem_singleton.mpr rfl), q⟩
/-- a found pair -/
def BestAt (H : Hp) (t : Addr) (w0 : List Int) (G : List (Nat × Nat)) : Prop := ∃ g, H t = some (.tup [.int ((handles w0.length G : Nat) : Int), .ref g]) ∧ GluAt H g G
/-- a word that is small enough, or too long -/
def Small (w0 : List Int) : Prop := w0.length ≤ 12 ∧ balB w0 = true ∧ (∀ x ∈ w0, x ≠ 0) ∧ ∃ G, IsGl w0 G
def spFirst (CW CT : Addr) : Sp := fun vs H Q E => ∃ (p : Addr) (w0 : List Int), vs = [.ref p] ∧ WordAt CW H p w0 ∧
  ((Small w0 ∧ ∀ H' t G, Same H H' → BestAt H' t w0 G → IsGl w0 G → (∀ G', IsGl w0 G' → handles w0.length G ≤ handles w0.length G') → Q (.ref t) H') ∨
   (12 < w0.length ∧ w0.length ≤ 60 ∧ ∀ H' d, Same H H' → H' d = some (.xd [("limit", .int 12), ("what", .str "letters")]) → E (.ref CT) (some d) H'))
def spLeast (CW CT : Addr) : Sp := fun vs H Q E => ∃ (p : Addr) (w0 : List Int), vs = [.ref p] ∧ WordAt CW H p w0 ∧
  ((Small w0 ∧ ∀ H' h, Same H H' → Least w0 h → Q (.int (h : Int)) H') ∨
   (12 < w0.length ∧ w0.length ≤ 60 ∧ ∀ H' d, Same H H' → H' d = some (.xd [("limit", .int 12), ("what", .str "letters")]) → E (.ref CT) (some d) H'))
def spBest (CW : Addr) : Sp := fun vs H Q _ => ∃ (p : Addr) (w0 : List Int), vs = [.ref p] ∧ WordAt CW H p w0 ∧ Small w0 ∧
  ∀ H' g G, Same H H' → GluAt H' g G → IsGl w0 G → Least w0 (handles w0.length G) → Q (.ref g) H'
section
variable {P : Program} {w : World} {K : PySem.W.Frag} {mg : Str → Option Value} {base : Heap}
theorem nox_no {X : Cx} : ∀ e s, ¬ X.nox.xe e s := fun e s h => h
theorem scFirst : FnScope ["word", "found", "gluing", "many"] ["word"] (defScope sFirst) := ⟨rfl, rfl, rfl, by decide +kernel, rfl, by decide +kernel, by decide +kernel⟩
theorem okFirst (D : Defs K mg) (O : Too P K mg) : FnOk P w K mg base (L2.CX P w) 5 D.fFirst D.dFirst ["word"] (spFirst D.CW O.C) := by
  refine D.FFirst.okX scFirst (fun vs H Q E h => ?_) (fun cdv A outer s H vs Q E hr h => ?_)
  · obtain ⟨p, w0, rfl, _⟩ := h; rfl
  · obtain ⟨p, w0, rfl, hw, h⟩ := h
    have T := D.T
    have nd := scFirst.nd
    obtain ⟨tl, hsides⟩ := T.sides
    have hr4 : Room 4 _ := hr
    have lenE : ∀ {X : Cx}, X.prog = P → True := fun _ => trivial
    refine ⟨_, pss_cons (ps_if (pt_cmpR op_gt (pe_callB (call_len_own (hr1 := (hr.mono (j := 2) (by decide)).in1) (okLen D) D.bLen D.sLen D.iLen) (by rfl) T.len PySem.boot_len (pa_cons (pv 0) pa_nil)) (pe_glob rfl hsides (show RelV (.int 12) (.int 12 tl) from ⟨_, rfl⟩)) (nomark _))
        (pss_one (ps_raise rfl (takes_of rfl rfl rfl rfl) (pmk_oex O.T.oex O.T.iC O.T.tI (okTI O.T) (hr.mono (by decide)) O.b .nil pass0 rfl O.T.gC (by exact pa_cons pe_str (pa_cons (pe_glob rfl hsides (show RelV (.int 12) (.int 12 tl) from ⟨_, rfl⟩)) pa_nil))))) pss_nil)
      (PSs.nox (pss_cons (ps_set (i := 1) nd rfl (Or.inl rfl) pe_non)
      (pss_cons (ps_forG nox_no (okGls D) (hr.mono (by decide)) rfl D.gGls D.FGls.kp D.bGls .nil (pa_cons (pv 0) pa_nil) (pg_name (i := 2) nd rfl (Or.inl rfl))
        (pss_cons (ps_set (i := 3) nd rfl (Or.inl rfl) (pe_call (okHan D) hr rfl D.gHan D.FHan.kp D.bHan .nil pass0 (pa_cons (pe_callB (call_len_own (hr1 := (hr.mono (j := 2) (by decide)).in1) (okLen D) D.bLen D.sLen D.iLen) (by rfl) T.len PySem.boot_len (pa_cons (pv 0) pa_nil)) (pa_cons (pv 2) pa_nil))))
        (pss_one (ps_if (PW.pt (pw_or (pt_cmpR op_isN (pv 1) pe_non (nomark _)) (pw_or1 (pt_cmpR op_lt (pv 3) (pe_ix ix_tup (pv 1) pe_int (fun _ _ => rfl)) (nomark _)))))
          (pss_one (ps_set (i := 1) nd rfl (Or.inl rfl) (pe_tup (pa_cons (pv 3) (pa_cons (pv 2) pa_nil))))) pss_nil))))
      (pss_one (ps_ret (pv 1)))))), ?_⟩
    obtain ⟨dx, t, o, hp, ht, ho⟩ := id hw
    have hl63 : (w0.length : Int) < 2 ^ 63 := by
      rcases h with ⟨⟨h1, _⟩, _⟩ | ⟨_, h2, _⟩ <;> omega
    refine ⟨_, rfl, p, dx, _, rfl, hp, p, w0, rfl, hw, _, rfl, by omega, hl63, _, _, rfl, rfl, _, rfl, ?_⟩
    rcases h with ⟨⟨h1, hb, hnz, Gx, hGx⟩, k⟩ | ⟨h1, h2, k⟩
    · refine ite_no (show decide ((w0.length : Int) > 12) = false from decide_eq_false (by omega)) ?_
      refine ⟨_, rfl, ?_⟩
      refine ⟨fun ys σ H' => ∃ (f : V) (b2 b3 : Option V), σ = [some (.ref p), some f, b2, b3] ∧ ((f = .non ∧ ys = []) ∨ ∃ t G, f = .ref t ∧ BestAt H' t w0 G ∧ IsGl w0 G ∧ ∃ outs, Glus H' ys outs ∧ ∀ G' ∈ outs, handles w0.length G ≤ handles w0.length G'),
        fun ys x H' => Same H H' ∧ ∃ g G, x = .ref g ∧ GluAt H' g G ∧ IsGl w0 G, fun ys H' => Same H H' ∧ ∀ G, IsGl w0 G → ∃ g, V.ref g ∈ ys ∧ GluAt H' g G, ?_, ?_, ?_, ?_, ?_⟩
      · exact ⟨p, w0, rfl, hw, h1, hb, fun ys g G H' s1 hg hG => ⟨s1, g, G, rfl, hg, hG⟩, fun ys H' s1 hall => ⟨s1, hall⟩⟩
      · exact ⟨.non, none, none, rfl, .inl ⟨rfl, rfl⟩⟩
      · rintro ys σ Ha Hb ⟨f, b2, b3, rfl, hf⟩ tp
        refine ⟨f, b2, b3, rfl, hf.imp id ?_⟩
        rintro ⟨t, G, e, ⟨g, hg1, hg2⟩, hG, outs, hO, hle⟩
        exact ⟨t, G, e, ⟨g, tp _ _ hg1, hg2.tups tp⟩, hG, outs, hO.tups tp, hle⟩
      · rintro ys x σ H2 ⟨f, b2, b3, rfl, hf⟩ ⟨s2, g, G, rfl, hg, hG⟩
        have hw2 := hw.same s2
        refine ⟨_, rfl, p, dx, _, rfl, s2 _ _ hp, p, w0, rfl, hw2, _, rfl, by omega, hl63, _, rfl, g, G, w0, rfl, hg, hG, hnz, by omega, fun H3 s3 => ?_⟩
        have hg3 := hg.tups s3.tups
        have keepN : ∀ H4, Same H3 H4 → ∀ t, H4 t = some (.tup [.int ((handles w0.length G : Nat) : Int), .ref g]) → (∃ outs, Glus H4 (ys ++ [.ref g]) outs ∧ ∀ G' ∈ outs, handles w0.length G ≤ handles w0.length G') → 
            Same H2 H4 ∧ ∃ (f : V) (b2 b3 : Option V), [some (V.ref p), some (.ref t), some (.ref g), some (.int ((handles w0.length G : Nat) : Int))] = [some (.ref p), some f, b2, b3] ∧ ((f = .non ∧ ys ++ [.ref g] = []) ∨ ∃ t G, f = .ref t ∧ BestAt H4 t w0 G ∧ IsGl w0 G ∧ ∃ outs, Glus H4 (ys ++ [.ref g]) outs ∧ ∀ G' ∈ outs, handles w0.length G ≤ handles w0.length G') :=
          fun H4 s4 t ht4 ho4 => ⟨s3.trans s4, _, _, _, rfl, .inr ⟨t, G, rfl, ⟨g, ht4, hg3.tups s4.tups⟩, hG, ho4⟩⟩
        refine ⟨_, rfl, rfl, _, rfl, ?_⟩
        rcases hf with ⟨rfl, rfl⟩ | ⟨t1, G1, rfl, ⟨g1, hb1, hb2⟩, hG1, outs, hO, hle⟩
        · refine ite_yes (by simp) ?_
          refine ite_yes rfl ?_
          refine ⟨_, rfl, _, rfl, (show 2 ≤ sizeLine by decide), fun t ht => ?_⟩
          exact keepN _ (same_upd ht) t upd_same ⟨[G], Glus.snoc (xs := []) (S := []) .nil (hg3.tups (same_upd ht).tups), fun G' hG' => by rw [List.mem_singleton.mp hG']; exact Nat.le_refl _⟩
        · refine ite_no (by simp) ?_
          have hO3 := (hO.tups s3.tups)
          have hb3 := s3 _ _ hb1
          refine ⟨_, rfl, _, rfl, t1, _, 0, _, rfl, rfl, SqT.of hb3, atI_nat (j := 0) rfl, _, _, rfl, rfl, _, rfl, ?_⟩
          refine ite2 (fun c => ?_) (fun c => ?_)
          · have hlt : handles w0.length G < handles w0.length G1 := by
              have := of_decide_eq_true c
              omega
            refine ⟨_, rfl, _, rfl, (show 2 ≤ sizeLine by decide), fun t ht => ?_⟩
            refine keepN _ (same_upd ht) t upd_same ⟨outs ++ [G], .snoc (hO3.tups (same_upd ht).tups) (hg3.tups (same_upd ht).tups), fun G' hG' => ?_⟩
            rcases List.mem_append.mp hG' with z | z
            · have := hle G' z; omega
            · rw [List.mem_singleton.mp z]; exact Nat.le_refl _
          · have hge : handles w0.length G1 ≤ handles w0.length G := by
              refine Nat.le_of_not_lt fun z => c (decide_eq_true (by omega))
            refine ⟨s3, _, _, _, rfl, .inr ⟨t1, G1, rfl, ⟨g1, hb3, hb2.tups s3.tups⟩, hG1, outs ++ [G], .snoc hO3 hg3, fun G' hG' => ?_⟩⟩
            rcases List.mem_append.mp hG' with z | z
            · exact hle G' z
            · rw [List.mem_singleton.mp z]; exact hge
      · rintro ys σ H2 ⟨f, b2, b3, rfl, hf⟩ ⟨s2, hall⟩
        obtain ⟨gx, hgx, _⟩ := hall Gx hGx
        rcases hf with ⟨_, rfl⟩ | ⟨t1, G1, rfl, hbest, hG1, outs, hO, hle⟩
        · simp at hgx
        · refine ⟨_, rfl, k H2 t1 G1 s2 hbest hG1 fun G' hG' => ?_⟩
          obtain ⟨g', hm, hg'⟩ := hall G' hG'
          obtain ⟨G2, h21, h22⟩ := hO.mem2 hm
          rw [hg'.uniq h22]
          exact hle G2 h21
    · refine ite_yes (show decide ((w0.length : Int) > 12) = true from decide_eq_true (by omega)) ?_
      refine ⟨(show 2 ≤ 1000 by decide), fun a ha => ?_⟩
      refine ⟨a, .str "letters", .int 12, rfl, upd_same, fun d hd hne => ⟨rfl, d, _, by rw [upd_ne hne.symm, upd_same], upd_same, (by rw [upd_ne hne] at hd; exact hd), ?_⟩⟩
      have hd0 : H d = none := by rw [upd_ne hne] at hd; exact hd
      refine k _ d (fun b u e => ?_) upd_same
      have nba : b ≠ a := ne_of_none e ha
      have nbd : b ≠ d := ne_of_none e hd0
      rw [upd_ne nbd, del_ne nba, upd_ne nbd, upd_ne nba, upd_ne nbd, upd_ne nba]
      exact e
theorem scLeast : FnScope ["word", "found"] ["word"] (defScope sLeast) := ⟨rfl, rfl, rfl, by decide +kernel, rfl, by decide +kernel, by decide +kernel⟩
theorem okLeast (D : Defs K mg) (O : Too P K mg) : FnOk P w K mg base (L2.CX P w) 6 D.fLeast D.dLeast ["word"] (spLeast D.CW O.C) := by
  refine D.FLeast.okX scLeast (fun vs H Q E h => ?_) (fun cdv A outer s H vs Q E hr h => ?_)
  · obtain ⟨p, w0, rfl, _⟩ := h; rfl
  · obtain ⟨p, w0, rfl, hw, h⟩ := h
    have T := D.T
    have nd := scLeast.nd
    refine ⟨_, pss_cons (ps_set (i := 1) nd rfl (Or.inl rfl) (pe_call (E := E) (okFirst D O) hr rfl D.gFirst D.FFirst.kp D.bFirst .nil (passes_call (takes_of rfl rfl rfl rfl) (fun _ _ _ _ h => h)) (pa_cons (pv 0) pa_nil)))
      (pss_one (ps_ret (pe_ifExp (pt_cmpR op_isN (pv 1) pe_non (nomark _)) pe_non (pe_ix ix_tup (pv 1) pe_int (fun _ _ => rfl))))), ?_⟩
    refine ⟨_, rfl, p, w0, rfl, hw, ?_⟩
    rcases h with ⟨hs, k⟩ | ⟨h1, h2, k⟩
    · refine .inl ⟨hs, fun H' t G s1 ⟨g, hb, hg⟩ hG hle => ?_⟩
      refine ⟨_, rfl, rfl, _, rfl, ?_⟩
      refine ite_no (by simp) ?_
      exact ⟨_, rfl, t, _, 0, _, rfl, rfl, SqT.of hb, atI_nat (j := 0) rfl, k H' _ s1 ⟨⟨G, hG, rfl⟩, hle⟩⟩
    · exact .inr ⟨h1, h2, k⟩
theorem scBest : FnScope ["word", "found"] ["word"] (defScope sBest) := ⟨rfl, rfl, rfl, by decide +kernel, rfl, by decide +kernel, by decide +kernel⟩
theorem okBest (D : Defs K mg) (O : Too P K mg) : FnOk P w K mg base CX0 6 D.fBest D.dBest ["word"] (spBest D.CW) := by
  refine D.FBest.ok scBest (fun vs H Q E h => ?_) (fun cdv A outer s H vs Q E hr h => ?_)
  · obtain ⟨p, w0, rfl, _⟩ := h; rfl
  · obtain ⟨p, w0, rfl, hw, hs, k⟩ := h
    have T := D.T
    have nd := scBest.nd
    refine ⟨_, pss_cons (ps_set (i := 1) nd rfl (Or.inl rfl) (pe_call (okFirst D O) hr rfl D.gFirst D.FFirst.kp D.bFirst .nil passL (pa_cons (pv 0) pa_nil)))
      (pss_one (ps_ret (pe_ifExp (pt_cmpR op_isN (pv 1) pe_non (nomark _)) pe_non (pe_ix ix_tup (pv 1) pe_int (fun _ _ => rfl))))), ?_⟩
    refine ⟨_, rfl, p, w0, rfl, hw, .inl ⟨hs, fun H' t G s1 ⟨g, hb, hg⟩ hG hle => ?_⟩⟩
    refine ⟨_, rfl, rfl, _, rfl, ?_⟩
    refine ite_no (by simp) ?_
    exact ⟨_, rfl, t, _, 1, _, rfl, rfl, SqT.of hb, atI_nat (j := 1) rfl, k H' g G s1 hg hG ⟨⟨G, hG, rfl⟩, hle⟩⟩
end
end K94
end

-- text TwLeast
section
set_option Elab.async false
set_option linter.all false
set_option maxRecDepth 100000
set_option maxHeartbeats 4000000
/-! _law_least, _law_refusal. -/
namespace K94
open PySem PySem.Spec PyProof.Rows L2 TwG
open Tw (IsGl handles Least Short)
def spLLe (CW : Addr) : Sp := fun vs H Q _ => ∃ (p r : Addr) (w0 : List Int), vs = [.ref p, .ref r] ∧ WordAt CW H p w0 ∧ H r = some (.tup (lv w0)) ∧ Small w0 ∧ Short w0 ∧
  ∀ H' h, Same H H' → Least w0 h → Q (.int (h : Int)) H'
def spRef (CW : Addr) : Sp := fun vs H Q _ => ∃ (p : Addr) (w0 : List Int), vs = [.ref p] ∧ WordAt CW H p w0 ∧ 12 < w0.length ∧ w0.length ≤ 60 ∧
  ∀ H' t, Same H H' → H' t = some (.tup [.str "TooLarge", .str "letters", .int 12]) → Q (.ref t) H'
theorem lv_leaf (ws : List Int) : ∀ x ∈ lv ws, Leaf x := fun x hx => by
  obtain ⟨i, _, rfl⟩ := List.mem_map.mp hx
  exact .int i
theorem Least.uniq {w0 : List Int} {h h' : Nat} (a : Least w0 h) (b : Least w0 h') : h = h' := by
  obtain ⟨G, hG, e⟩ := a.some
  obtain ⟨G', hG', e'⟩ := b.some
  have h1 := a.le G' hG'
  have h2 := b.le G hG
  omega
section
variable {P : Program} {w : World} {K : PySem.W.Frag} {mg : Str → Option Value} {base : Heap}
theorem scLLe : FnScope ["_law_word", "_law_row", "_law_gluing", "_law_least_here"] ["_law_word", "_law_row"] (defScope sLLeast) := ⟨rfl, rfl, rfl, by decide +kernel, rfl, by decide +kernel, by decide +kernel⟩
theorem okLLe (D : Defs K mg) (O : Too P K mg) : FnOk P w K mg base CX0 7 D.fLLe D.dLLe ["_law_word", "_law_row"] (spLLe D.CW) := by
  refine D.FLLe.ok scLLe (fun vs H Q E h => ?_) (fun cdv A outer s H vs Q E hr h => ?_)
  · obtain ⟨p, r, w0, rfl, _⟩ := h; rfl
  · obtain ⟨p, r, w0, rfl, hw, hrw, hs, hsh, k⟩ := h
    have T := D.T
    have nd := scLLe.nd
    have h1 := hr.mono (j := 1) (by decide)
    have h2 := hr.mono (j := 2) (by decide)
    refine ⟨_, pss_cons (ps_if (PW.pt (pw_or (pt_not (pt_val (pe_call (okSame1 D) h2 rfl D.gSame D.FSame.kp D.bSame .nil pass0 (pa_cons (pe_fld (pv 0) rfl) (pa_cons (pv 1) pa_nil)))))
          (pw_or1 (pt_not (pt_val (pe_call (okSame0 D) h1 rfl D.gSame D.FSame.kp D.bSame .nil pass0 (pa_cons (pe_meth0 (pv 0) T.clW D.mBal (okBal D) h1 D.bBal .nil pass0) (pa_cons pe_bl pa_nil)))))))) (pss_one (ps_ret pe_non)) pss_nil)
      (pss_cons (ps_set (i := 2) nd rfl (Or.inl rfl) (pe_call (okBest D O) hr rfl D.gBest D.FBest.kp D.bBest .nil pass0 (pa_cons (pv 0) pa_nil)))
      (pss_cons (ps_if (pt_not (pt_val (pe_call (okRgt D) h2 rfl D.gRgt D.FRgt.kp D.bRgt .nil pass0 (pa_cons (pv 1) (pa_cons (pv 2) pa_nil))))) (pss_one (ps_ret pe_non)) pss_nil)
      (pss_cons (ps_set (i := 3) nd rfl (Or.inl rfl) (pe_call (okLHa D) h2 rfl D.gLHa D.FLHa.kp D.bLHa .nil pass0 (pa_cons (pv 1) (pa_cons (pv 2) pa_nil))))
      (pss_cons (ps_if (PW.pt (pw_or (pt_not (pt_val (pe_call (okNum D) h1 rfl D.gNum D.FNum.kp D.bNum .nil pass0 (pa_cons (pe_call (okLeast D O) hr rfl D.gLeast D.FLeast.kp D.bLeast .nil passL (pa_cons (pv 0) pa_nil)) (pa_cons (pv 3) pa_nil)))))
          (pw_or1 (pt_cmpR op_ne (pe_cmpR op_eq (pv 3) pe_int (nomark _)) (pe_cmpR op_eq (pe_callB call_len_seq (by rfl) T.len PySem.boot_len (pa_cons (pv 1) pa_nil)) pe_int (nomark _)) (nomark _))))) (pss_one (ps_ret pe_non)) pss_nil)
      (pss_one (ps_ret (pv 3))))))), ?_⟩
    obtain ⟨dx, t, o, hp, ht, ho⟩ := id hw
    have hl12 := hs.1
    refine ⟨_, rfl, p, D.CW, dx, _, _, rfl, hp, T.clW, T.nL, pfL_letters _, _, rfl, t, r, lv w0, rfl, SqT.ofF ht, SqT.of hrw, .fTuple ht, .base (.tup hrw), lv_leaf _, by rw [lv_length]; omega, true, rfl, ?_⟩
    refine iteF ?_
    refine ⟨_, rfl, p, dx, _, rfl, hp, pfL_no _ (by decide +kernel), p, w0, rfl, hw, ?_⟩
    rw [hs.2.1]
    refine ⟨.bl true, rfl, .bl true, true, rfl, ?_⟩
    refine iteF ?_
    -- best_gluing
    refine ⟨_, rfl, p, w0, rfl, hw, hs, fun H1 g G s1 hg hG hL => ?_⟩
    have hr1 := s1 _ _ hrw
    refine ⟨_, rfl, _, rfl, r, g, G, w0, rfl, hr1, hg, hG, by omega, fun H2 s2 => ⟨true, rfl, ?_⟩⟩
    refine iteF ?_
    have hg2 := hg.tups s2.tups
    refine ⟨_, rfl, _, rfl, r, g, G, w0, rfl, s2 _ _ hr1, hg2, hG, hs.2.2.1, by omega, fun H3 s3 => ?_⟩
    have s03 := s1.trans (s2.trans s3)
    refine ⟨_, rfl, p, w0, rfl, hw.same s03, .inl ⟨hs, fun H4 h s4 hL2 => ?_⟩⟩
    have eh := Least.uniq hL2 hL
    refine ⟨_, rfl, _, _, rfl, true, ?_, ?_⟩
    · show V.bl (decide ((h : Int) = ((handles w0.length G : Nat) : Int))) = V.bl true
      rw [eh]; simp
    refine iteF ?_
    have hr4 := s4 _ _ (s03 _ _ hrw)
    refine ⟨_, rfl, rfl, _, rfl, r, _, rfl, .inr (SqT.of hr4), rfl, rfl, _, rfl, ?_⟩
    have hz := hL.zero hs.2.2.1 hsh
    have e1 : decide (V.int ((handles w0.length G : Nat) : Int) = V.int 0) = decide (V.int ((lv w0).length : Int) = V.int 0) := by
      by_cases c : w0 = []
      · have c2 := hz.mpr c
        rw [c2, c]; rfl
      · have c2 : handles w0.length G ≠ 0 := fun z => c (hz.mp z)
        have c3 : (lv w0).length ≠ 0 := fun z => c (by rw [lv_length] at z; exact List.eq_nil_of_length_eq_zero z)
        rw [decide_eq_false (fun z => c2 (by injection z with z; omega)), decide_eq_false (fun z => c3 (by injection z with z; omega))]
    refine ite_no (show (!decide (V.bl (decide (V.int ((handles w0.length G : Nat) : Int) = V.int 0)) = V.bl (decide (V.int ((lv w0).length : Int) = V.int 0)))) = false from by rw [e1]; simp) ?_
    exact ⟨_, rfl, k H4 _ (s03.trans s4) hL⟩
theorem scRef : FnScope ["_law_word", "e"] ["_law_word"] (defScope sRefus) := ⟨rfl, rfl, rfl, by decide +kernel, rfl, by decide +kernel, by decide +kernel⟩
theorem okRef (D : Defs K mg) (O : Too P K mg) : FnOk P w K mg base CX0 8 D.fRef D.dRef ["_law_word"] (spRef D.CW) := by
  refine D.FRef.ok scRef (fun vs H Q E h => ?_) (fun cdv A outer s H vs Q E hr h => ?_)
  · obtain ⟨p, w0, rfl, _⟩ := h; rfl
  · obtain ⟨p, w0, rfl, hw, h1, h2, k⟩ := h
    have T := D.T
    have nd := scRef.nd
    have h6 := hr.mono (j := 6) (by decide)
    have XF : XfC K O.C := ⟨O.T.ga, O.T.gg, O.T.oex.exC, O.T.hdC⟩
    refine ⟨_, pss_one (ps_try_as (i := 1) (tb := fun W => tRet (tTup (tCons (tC (.str "handles")) (tCons (tCallS (spLeast D.CW O.C) (WE W) (tCons (tVar 0) tNil)) tNil))))
      (ts := fun a cls d => tRet (tTup (tCons (tC (.str "TooLarge")) (tCons (tXf a cls d O.C "what" (tVar 1)) (tCons (tXf a cls d O.C "limit" (tVar 1)) tNil))))) (Wout := fun _ _ _ _ => False) rfl rfl nd rfl rfl ⟨rfl, by decide, Or.inl O.T.gC⟩ takes0
      (fun W pn xe tk _ => pss_one (ps_ret (pe_tup (pa_cons pe_str (pa_cons (by exact (pe_callS (okLeast D O) h6 rfl D.gLeast D.FLeast.kp D.bLeast (fun σ => passAt tk σ) (by exact (pa_cons (pv 0) pa_nil)))) pa_nil)))))
      (fun a oe cls d pn hz hf => pss_one (ps_ret (pe_tup (pa_cons pe_str (pa_cons (by exact pe_xf XF O.T.noW hz hf (pv 1)) (pa_cons (by exact pe_xf XF O.T.noL hz hf (pv 1)) pa_nil))))))), ?_⟩
    refine ⟨_, rfl, p, w0, rfl, hw, .inr ⟨h1, h2, fun H' d s1 hd => ?_⟩⟩
    refine ⟨true, O.T.te, fun _ a0 _ => ?_, fun q => Bool.noConfusion q⟩
    refine ⟨_, rfl, rfl, rfl, d, _, .str "letters", rfl, hd, rfl, ?_⟩
    refine ⟨_, rfl, rfl, rfl, d, _, .int 12, rfl, hd, rfl, ?_⟩
    refine ⟨(show 3 ≤ sizeLine by decide), fun t ht => ?_⟩
    exact k _ t (Same.upd s1 (s1.free ht)) upd_same
end
end K94
end

-- text TwLaw
section
set_option Elab.async false
set_option linter.all false
set_option maxRecDepth 100000
set_option maxHeartbeats 8000000
set_option pp.maxSteps 400
/-! law. Written by gen_law.py from law_pre.txt, law_read.txt. -/
namespace K94
open PySem PySem.Spec PyProof.Rows L2
open Tw (red opp ex IsGl handles Least Short Prod)
def spLaw (K : PySem.W.Frag) : Sp := fun vs H Q _ => ∃ (a : Addr) (ns : List Int), vs = [.ref a] ∧ SqL K H a (lv ns) ∧ ∀ H', Q (.bl true) H'
/-- the rows in the list at lr -/
structure RowsAt (H : Hp) (lr : Addr) (xs : List V) (rs : List (List Int)) : Prop where
  at_ : H lr = some (.lst xs)
  len : xs.length = rs.length
  row : ∀ i, i < rs.length → ∃ a, xs[i]? = some (.ref a) ∧ ListAt H a (rs.getD i []) ∧ a ≠ lr
theorem RowsAt.same {H H' : Hp} {lr : Addr} {xs : List V} {rs : List (List Int)} (h : RowsAt H lr xs rs) (s : Same H H') : RowsAt H' lr xs rs :=
  ⟨s _ _ h.at_, h.len, fun i hi => by
    obtain ⟨a, h1, h2, h3⟩ := h.row i hi
    exact ⟨a, h1, s _ _ h2, h3⟩⟩
theorem RowsAt.app {H : Hp} {lr a : Addr} {xs : List V} {rs : List (List Int)} {ws : List Int} (h : RowsAt H lr xs rs) (ha : ListAt H a ws) (hn : a ≠ lr) : RowsAt (upd H lr (.lst (xs ++ [.ref a]))) lr (xs ++ [.ref a]) (rs ++ [ws]) := by
  refine ⟨upd_same, by simp [h.len], fun i hi => ?_⟩
  rw [List.length_append, List.length_singleton] at hi
  by_cases c : i < rs.length
  · obtain ⟨b, h1, h2, h3⟩ := h.row i c
    refine ⟨b, by rw [List.getElem?_append_left (by rw [h.len]; exact c)]; exact h1, ?_, h3⟩
    have e : (rs ++ [ws]).getD i [] = rs.getD i [] := by
      rw [List.getD_eq_getElem?_getD, List.getD_eq_getElem?_getD, List.getElem?_append_left c]
    rw [e]
    unfold ListAt; rw [upd_ne h3]; exact h2
  · have e0 : i = rs.length := by omega
    refine ⟨a, by rw [e0, ← h.len]; simp, ?_, hn⟩
    have e : (rs ++ [ws]).getD i [] = ws := by rw [e0]; simp
    rw [e]
    unfold ListAt; rw [upd_ne hn]; exact ha
theorem cut_28 {l : List Int} (h : l.length = 16) : cutV (lv l) (some 2) (some 8) = lv ((l.drop 2).take 6) := by
  unfold cutV
  rw [lv_length, h]
  have e1 : HT.sIx 16 0 (some 2) = 2 := by decide
  have e2 : HT.sIx 16 16 (some 8) = 8 := by decide
  rw [e1, e2]
  unfold lv; rw [List.map_take, List.map_drop]
theorem kinds_ok : ∀ m, m < 6 → 1 ≤ ([2, 3, 2, 4, 2, 1] : List Int).getD m 0 ∧ ([2, 3, 2, 4, 2, 1] : List Int).getD m 0 ≤ 4 := by decide
theorem le_sum : ∀ {l : List Nat} {x : Nat}, x ∈ l → x ≤ l.sum
  | a :: l, x, h => by
    rw [List.sum_cons]
    rcases List.mem_cons.mp h with e | h
    · omega
    · have := le_sum h
      omega
theorem mk_wordR {K : PySem.W.Frag} {C : Addr} {H0 : Hp} {p dx a : Addr} {ws : List Int} {R : VK} {E : XK} (hp : H0 p = none) (hdx : H0 dx = none) (ne : dx ≠ p) (hq : SqA K H0 a (lv ws)) (hz : ws.length ≤ 200) (hl : LetOk ws)
    (k : ∀ H', Same H0 H' → WordAt C H' p (red ws) → R .non H') : spWI K C [.ref p, .ref a] (upd (upd H0 dx (.own p)) p (.ins C dx [])) R E := by
  have s0 : Same H0 (upd (upd H0 dx (.own p)) p (.ins C dx [])) := Same.upd (same_upd hdx) hp
  refine ⟨p, dx, a, ws, rfl, upd_same, hq.same s0, hz, hl, fun H' t o hk h1 h2 h3 => ?_⟩
  exact k H' (fun b u e => hk b u (ne_of_none e hp) (s0 b u e)) ⟨dx, t, o, h1, h2, h3⟩
theorem rcat_list {H : Hp} {a b : Addr} {u v : List Int} {Q : VK} (ha : ListAt H a u) (hb : ListAt H b v) (hz : u.length + v.length ≤ 1000) (k : ∀ H' p, Same H H' → ListAt H' p (u ++ v) → Q (.ref p) H') : rCat (.ref a) (.ref b) H Q :=
  ⟨a, b, _, _, rfl, rfl, ha, hb, by rw [lv_length, lv_length, sizeLine_eq]; omega, fun p hp => k _ p (same_upd hp) (by unfold ListAt; rw [upd_same, lv_append])⟩
theorem ListAt.same {H H' : Hp} {a : Addr} {u : List Int} (h : ListAt H a u) (s : Same H H') : ListAt H' a u := s _ _ h
theorem red_prod (d x y : List Int) : red (red d ++ red (red x ++ red y ++ opp (red x) ++ opp (red y))) = red (d ++ x ++ y ++ opp x ++ opp y) := by
  have h1 : red (red x ++ red y ++ opp (red x) ++ opp (red y)) = red (x ++ y ++ opp x ++ opp y) := by
    have a1 : red (red x ++ red y ++ opp (red x) ++ opp (red y)) = red (red x ++ red y ++ opp (red x) ++ opp y) := by
      rw [← Tw.red_right, Tw.red_opp, Tw.red_right]
    have a2 : red (red x ++ red y ++ opp (red x) ++ opp y) = red (red x ++ red y ++ opp x ++ opp y) := by
      rw [← Tw.red_ctx (red x ++ red y) (opp (red x)) (opp y), Tw.red_opp, Tw.red_ctx]
    have a3 : red (red x ++ red y ++ opp x ++ opp y) = red (red x ++ y ++ opp x ++ opp y) := by
      have := Tw.red_ctx (red x) y (opp x ++ opp y)
      simpa [List.append_assoc] using this
    have a4 : red (red x ++ y ++ opp x ++ opp y) = red (x ++ y ++ opp x ++ opp y) := by
      have := Tw.red_left x (y ++ opp x ++ opp y)
      simpa [List.append_assoc] using this
    rw [a1, a2, a3, a4]
  rw [h1, Tw.red_left, Tw.red_right]
  simp [List.append_assoc]
theorem take_sum_le : ∀ (l : List Nat) (i : Nat), (l.take i).sum ≤ l.sum
  | [], i => by simp
  | a :: l, 0 => by simp
  | a :: l, i + 1 => by
    rw [List.take_succ_cons, List.sum_cons, List.sum_cons]
    have := take_sum_le l i
    omega
theorem take_sum_two {l : List Nat} {k : Nat} (h : 2 * k + 1 < l.length) : (l.take (2 * (k + 1))).sum = (l.take (2 * k)).sum + l.getD (2 * k) 0 + l.getD (2 * k + 1) 0 := by
  have e1 : l[2 * k]? = some (l.getD (2 * k) 0) := by
    rw [List.getD_eq_getElem?_getD, List.getElem?_eq_getElem (by omega)]; rfl
  have e2 : l[2 * k + 1]? = some (l.getD (2 * k + 1) 0) := by
    rw [List.getD_eq_getElem?_getD, List.getElem?_eq_getElem (by omega)]; rfl
  rw [show 2 * (k + 1) = 2 * k + 1 + 1 by omega, Tw.take_succ e2, Tw.take_succ e1]
  simp [Nat.add_assoc]
theorem bal_of_ex {w0 : List Int} (h : ∀ a, ex a w0 = 0) : balB w0 = true := by
  unfold balB
  rw [List.all_eq_true]
  intro x _
  rw [Tw.count_of_ex (h x)]
  simp
theorem small_of {d : List Int} {k : Nat} (he : ∀ a, ex a d = 0) (hh : Tw.has d k) (hz : ∀ x ∈ d, x ≠ 0) (hl : (red d).length ≤ 12) : Small (red d) :=
  ⟨hl, bal_of_ex fun a => by rw [Tw.ex_red]; exact he a, Tw.nz_red hz, Tw.gl_of_has hh hz⟩
theorem least_nil : Least (red []) 0 := ⟨⟨[], ⟨.nil, rfl⟩, rfl⟩, fun G _ => Nat.zero_le _⟩
theorem red_conj (u d : List Int) : red (red (red u ++ red d) ++ red (opp (red u))) = red (u ++ d ++ opp u) := by
  rw [Tw.red_left, Tw.red_right]
  have a1 : red (red u ++ red d ++ opp (red u)) = red (red u ++ red d ++ opp u) := by
    rw [← Tw.red_right, Tw.red_opp, Tw.red_right]
  rw [a1, Tw.red_ctx (red u) d (opp u)]
  have := Tw.red_left u (d ++ opp u)
  simpa [List.append_assoc] using this
theorem ex_conj {u d : List Int} (h : ∀ a, ex a d = 0) : ∀ a, ex a (u ++ d ++ opp u) = 0 := fun a => by
  rw [Tw.ex_append, Tw.ex_append, Tw.ex_opp, h a]; omega

section
variable {P : Program} {w : World} {K : PySem.W.Frag} {mg : Str → Option Value} {base : Heap}
theorem scLaw : FnScope ["_law_script", "_law_draws_here", "_law_fed_here", "_law_many", "_law_kinds", "_law_sizes_here", "_law_k", "_law_rows", "_law_product", "_law_due", "_law_before", "_law_one", "_law_other", "_law_least_here", "_law_about", "_law_row", "_law_word"] ["_law_script"] (defScope sLaw) := ⟨rfl, rfl, rfl, by decide +kernel, rfl, by decide +kernel, by decide +kernel⟩
theorem okLaw (D : Defs K mg) (O : Too P K mg) : FnOk P w K mg base CX0 9 D.fLaw D.dLaw ["_law_script"] (spLaw K) := by
  refine D.FLaw.ok scLaw (fun vs H Q E h => ?_) (fun cdv A outer s H vs Q E hr h => ?_)
  · obtain ⟨a, ns, rfl, _⟩ := h; rfl
  · obtain ⟨a, ns, rfl, hS, hQ⟩ := h
    have T := D.T
    have nd := scLaw.nd
    refine ⟨_, (pss_cons (ps_set (i := 1) nd rfl (Or.inl rfl) (pe_call (okDraws D) (hr.mono (j := 1) (by decide)) rfl D.gDraws D.FDraws.kp D.bDraws .nil pass0 (pa_cons (pe_call (okCell D) (hr.mono (j := 1) (by decide)) rfl D.gCell D.FCell.kp D.bCell .nil pass0 (pa_cons (pv 0) (pa_cons pe_int pa_nil))) (pa_cons pe_int pa_nil))))
      (pss_cons (ps_set (i := 2) nd rfl (Or.inr rfl) (pe_call (okFed D) (hr.mono (j := 2) (by decide)) rfl D.gFed D.FFed.kp D.bFed .nil pass0 (pa_cons (pv 0) (pa_cons (pv 1) pa_nil))))
      (pss_cons (ps_set (i := 3) nd rfl (Or.inl rfl) (pe_op op_add pe_int (pe_op op_mod (pe_callTy call_int1 (by rfl) T.int (by decide +kernel) (pa_cons (pe_ix ix_list (pv 1) pe_int (fun _ _ => rfl)) pa_nil)) pe_int)))
      (pss_cons (ps_set (i := 4) nd rfl (Or.inr rfl) (pe_ix ix_list (pe_lst (pa_cons pe_int (pa_cons pe_int (pa_cons pe_int (pa_cons pe_int (pa_cons pe_int (pa_cons pe_int pa_nil))))))) (pe_op op_mod (pe_callTy call_int1 (by rfl) T.int (by decide +kernel) (pa_cons (pe_ix ix_list (pv 1) pe_int (fun _ _ => rfl)) pa_nil)) pe_int) (fun _ _ => rfl)))
      (pss_cons (ps_set (i := 5) nd rfl (Or.inr rfl) (pe_call (okSiz D) (hr.mono (j := 1) (by decide)) rfl D.gSiz D.FSiz.kp D.bSiz .nil pass0 (pa_cons (pe_slice sl_list (pv 1) (po_some pe_int) (po_some pe_int)) (pa_cons (pv 3) (pa_cons (pe_cmpR op_eq (pe_op op_mod (pe_callTy call_int1 (by rfl) T.int (by decide +kernel) (pa_cons (pe_ix ix_list (pv 1) pe_int (fun _ _ => rfl)) pa_nil)) pe_int) pe_int (nomark _)) pa_nil)))))
      (pss_cons (ps_setLc (i := 7) (own := [("_law_k", 6)]) (g := gName 6) (tt := tYes) (te := tCall spSgn [] E0 (tCons (tCall spDraws [] E0 (tCons (tOp (rIxL K) (tVar 2) (tOp (rI0 fun i j => .int (i + j)) (tC (.int 1)) (tVar 6))) (tCons (tOp (rIxL K) (tVar 5) (tVar 6)) tNil))) (tCons (tVar 4) tNil))) rfl nd rfl rfl (sw_true rfl rfl rfl (by decide +kernel))
        (pi_range1 rfl T.range (pa_cons (pe_op op_mul pe_int (pv 3)) pa_nil))
        (blkOk_by (own := [("_law_k", 6)]) (N := ["_law_script", "_law_draws_here", "_law_fed_here", "_law_many", "_law_kinds", "_law_sizes_here", "_law_k", "_law_rows", "_law_product", "_law_due", "_law_before", "_law_one", "_law_other", "_law_least_here", "_law_about", "_law_row", "_law_word"]) (sc := defScope sLaw) (by decide +kernel)) (fun _ _ _ _ _ => pg_name (i := 6) nd rfl (Or.inl rfl)) (fun _ _ _ _ _ => pts_nil)
        (fun _ _ _ _ _ => by exact (pe_call (okSgn D) (hr.mono (j := 1) (by decide)) rfl D.gSgn D.FSgn.kp D.bSgn .nil pass0 (pa_cons (pe_call (okDraws D) (hr.mono (j := 1) (by decide)) rfl D.gDraws D.FDraws.kp D.bDraws .nil pass0 (pa_cons (pe_ix ix_list (pv 2) (pe_op op_add pe_int (pv 6)) (fun _ _ => rfl)) (pa_cons (pe_ix ix_list (pv 5) (pv 6) (fun _ _ => rfl)) pa_nil))) (pa_cons (pv 4) pa_nil)))))
      (pss_cons (ps_set (i := 8) nd rfl (Or.inl rfl) (pe_make D.MWI (okWI D) (hr.mono (j := 3) (by decide)) rfl T.mgW D.bWI .nil pass0 (pa_cons (pe_tup pa_nil) pa_nil)))
      (pss_cons (ps_set (i := 9) nd rfl (Or.inl rfl) (pe_lst pa_nil))
      (pss_cons (ps_set (i := 10) nd rfl (Or.inl rfl) pe_int)
      (pss_cons (ps_for PassesOwn.never rfl (pi_range1 rfl T.range (pa_cons (pv 3) pa_nil)) (pg_name (i := 6) nd rfl (Or.inl rfl))
      (pss_cons (ps_set (i := 11) nd rfl (Or.inl rfl) (pe_ix ix_list (pv 7) (pe_op op_mul pe_int (pv 6)) (fun _ _ => rfl)))
      (pss_cons (ps_set (i := 12) nd rfl (Or.inl rfl) (pe_ix ix_list (pv 7) (pe_op op_add (pe_op op_mul pe_int (pv 6)) pe_int) (fun _ _ => rfl)))
      (pss_cons (ps_set (i := 9) nd rfl (Or.inl rfl) (pe_op op_cat (pe_op op_cat (pe_op op_cat (pe_op op_cat (pv 9) (pv 11)) (pv 12)) (pe_call (okLOp D) (hr.mono (j := 1) (by decide)) rfl D.gLOp D.FLOp.kp D.bLOp .nil pass0 (pa_cons (pv 11) pa_nil))) (pe_call (okLOp D) (hr.mono (j := 1) (by decide)) rfl D.gLOp D.FLOp.kp D.bLOp .nil pass0 (pa_cons (pv 12) pa_nil))))
      (pss_cons (ps_set (i := 8) nd rfl (Or.inl rfl) (pe_op (op_mul_own (okMul D) (hr.mono (j := 4) (by decide)) D.bMul pass0 D.own D.sMul D.iMul) (pv 8) (pe_meth (pe_make D.MWI (okWI D) (hr.mono (j := 3) (by decide)) rfl T.mgW D.bWI .nil pass0 (pa_cons (pe_callTy call_list_of (by rfl) T.list (by decide +kernel) (pa_cons (pv 11) pa_nil)) pa_nil)) T.clW D.mComm (okComm D) (hr.mono (j := 4) (by decide)) D.bComm .nil pass0 (pa_cons (pe_make D.MWI (okWI D) (hr.mono (j := 3) (by decide)) rfl T.mgW D.bWI .nil pass0 (pa_cons (pe_callTy call_tuple_of (by rfl) T.tuple (by decide +kernel) (pa_cons (pv 12) pa_nil)) pa_nil)) pa_nil))))
      (pss_cons (ps_set (i := 13) nd rfl (Or.inl rfl) (pe_call (okLLe D O) (hr.mono (j := 7) (by decide)) rfl D.gLLe D.FLLe.kp D.bLLe .nil pass0 (pa_cons (pv 8) (pa_cons (pe_call (okLSh D) (hr.mono (j := 1) (by decide)) rfl D.gLSh D.FLSh.kp D.bLSh .nil pass0 (pa_cons (pv 9) (pa_cons (pe_ix ix_list (pv 1) pe_int (fun _ _ => rfl)) pa_nil))) pa_nil))))
      (pss_cons (ps_if (PW.pt (pw_or (pt_cmpR op_isN (pv 13) pe_non (nomark _)) (pw_or (pt_cmpR op_gt (pv 13) (pe_op op_add (pv 6) pe_int) (nomark _)) (pw_or1 (pt_cmpR op_gt (pe_callB call_abs (by rfl) T.abs (by decide +kernel) (pa_cons (pe_op op_sub (pv 13) (pv 10)) pa_nil)) pe_int (nomark _)))))) (pss_one (ps_ret pe_bl)) pss_nil)
      (pss_one (ps_set (i := 10) nd rfl (Or.inl rfl) (pv 13))))))))))
      (pss_cons (ps_set (i := 13) nd rfl (Or.inl rfl) (pe_call (okLLe D O) (hr.mono (j := 7) (by decide)) rfl D.gLLe D.FLLe.kp D.bLLe .nil pass0 (pa_cons (pe_un (un_inv_own (okInv D) (hr.mono (j := 4) (by decide)) D.bInv pass0 D.sInv D.iInv) (pv 8)) (pa_cons (pe_call (okLSh D) (hr.mono (j := 1) (by decide)) rfl D.gLSh D.FLSh.kp D.bLSh .nil pass0 (pa_cons (pe_call (okLOp D) (hr.mono (j := 1) (by decide)) rfl D.gLOp D.FLOp.kp D.bLOp .nil pass0 (pa_cons (pv 9) pa_nil)) (pa_cons (pe_op op_add (pe_ix ix_list (pv 1) pe_int (fun _ _ => rfl)) pe_int) pa_nil))) pa_nil))))
      (pss_cons (ps_if (PW.pt (pw_or (pt_cmpR op_isN (pv 13) pe_non (nomark _)) (pw_or1 (pt_cmpR op_ne (pv 13) (pv 10) (nomark _))))) (pss_one (ps_ret pe_bl)) pss_nil)
      (pss_cons (ps_set (i := 14) nd rfl (Or.inl rfl) (pe_call (okSgn D) (hr.mono (j := 1) (by decide)) rfl D.gSgn D.FSgn.kp D.bSgn .nil pass0 (pa_cons (pe_call (okDraws D) (hr.mono (j := 1) (by decide)) rfl D.gDraws D.FDraws.kp D.bDraws .nil pass0 (pa_cons (pe_ix ix_list (pv 2) pe_int (fun _ _ => rfl)) (pa_cons (pe_op op_add pe_int (pe_op op_mod (pe_callTy call_int1 (by rfl) T.int (by decide +kernel) (pa_cons (pe_ix ix_list (pv 1) pe_int (fun _ _ => rfl)) pa_nil)) pe_int)) pa_nil))) (pa_cons pe_int pa_nil))))
      (pss_cons (ps_set (i := 15) nd rfl (Or.inl rfl) (pe_call (okLSh D) (hr.mono (j := 1) (by decide)) rfl D.gLSh D.FLSh.kp D.bLSh .nil pass0 (pa_cons (pe_op op_cat (pe_op op_cat (pv 14) (pv 9)) (pe_call (okLOp D) (hr.mono (j := 1) (by decide)) rfl D.gLOp D.FLOp.kp D.bLOp .nil pass0 (pa_cons (pv 14) pa_nil))) (pa_cons (pe_ix ix_list (pv 1) pe_int (fun _ _ => rfl)) pa_nil))))
      (pss_cons (ps_set (i := 16) nd rfl (Or.inl rfl) (pe_op (op_mul_own (okMul D) (hr.mono (j := 4) (by decide)) D.bMul pass0 D.own D.sMul D.iMul) (pe_op (op_mul_own (okMul D) (hr.mono (j := 4) (by decide)) D.bMul pass0 D.own D.sMul D.iMul) (pe_make D.MWI (okWI D) (hr.mono (j := 3) (by decide)) rfl T.mgW D.bWI .nil pass0 (pa_cons (pv 14) pa_nil)) (pv 8)) (pe_un (un_inv_own (okInv D) (hr.mono (j := 4) (by decide)) D.bInv pass0 D.sInv D.iInv) (pe_make D.MWI (okWI D) (hr.mono (j := 3) (by decide)) rfl T.mgW D.bWI .nil pass0 (pa_cons (pv 14) pa_nil)))))
      (pss_cons (ps_if (pt_cmpR op_gt (pe_callB call_len_seq (by rfl) T.len PySem.boot_len (pa_cons (pv 15) pa_nil)) pe_int (nomark _)) (pss_one (ps_ret (pe_and (pe_call (okSame1 D) (hr.mono (j := 2) (by decide)) rfl D.gSame D.FSame.kp D.bSame .nil pass0 (pa_cons (pe_fld (pv 16) rfl) (pa_cons (pv 15) pa_nil))) (pe_one (pe_call (okSame1 D) (hr.mono (j := 2) (by decide)) rfl D.gSame D.FSame.kp D.bSame .nil pass0 (pa_cons (pe_call (okRef D O) (hr.mono (j := 8) (by decide)) rfl D.gRef D.FRef.kp D.bRef .nil pass0 (pa_cons (pv 16) pa_nil)) (pa_cons (pe_tup (pa_cons pe_str (pa_cons pe_str (pa_cons pe_int pa_nil)))) pa_nil))))))) pss_nil)
      (pss_cons (ps_set (i := 13) nd rfl (Or.inl rfl) (pe_call (okLLe D O) (hr.mono (j := 7) (by decide)) rfl D.gLLe D.FLLe.kp D.bLLe .nil pass0 (pa_cons (pv 16) (pa_cons (pv 15) pa_nil))))
      (pss_one (ps_ret (pe_and (pe_cmpR op_notN (pv 13) pe_non (nomark _)) (pe_one (pe_cmpR op_eq (pv 13) (pv 10) (nomark _))))))))))))))))))))))), ?_⟩
    -- draws, fed
    refine ⟨_, rfl, a, ns, 0, rfl, hS, fun z => ?_⟩
    refine ⟨z, 16, rfl, by decide, fun H1 l1 ds s1 _ hL1 hlen1 hok1 => ?_⟩
    have dAt : ∀ {H' : Hp} (j : Nat), Same H1 H' → j < 16 → SqL K H' l1 (lv ds) ∧ (lv ds)[j]? = some (.int (ds.getD j 0)) := fun j s hj => ⟨SqL.of (s _ _ hL1), lv_getD (by omega)⟩
    refine ⟨_, rfl, _, rfl, a, l1, ns, ds, rfl, s1.seq hS, hL1, hlen1, fun H2 l2 fs s2 _ hL2 hlen2 => ?_⟩
    -- many
    obtain ⟨m, hm⟩ : ∃ m : Nat, 1 + ds.getD 0 0 % 3 = (m : Int) := ⟨(1 + ds.getD 0 0 % 3).toNat, by have := Int.emod_nonneg (ds.getD 0 0) (show (3 : Int) ≠ 0 by decide); omega⟩
    have hm1 : 1 ≤ m := by have := Int.emod_nonneg (ds.getD 0 0) (show (3 : Int) ≠ 0 by decide); omega
    have hm3 : m ≤ 3 := by have := Int.emod_lt_of_pos (ds.getD 0 0) (show (0 : Int) < 3 by decide); omega
    refine ⟨_, rfl, l1, _, 0, _, rfl, rfl, (dAt 0 s2 (by decide)).1, atI_nat (j := 0) (dAt 0 s2 (by decide)).2, .inl ⟨_, rfl, _, _, rfl, rfl, (by show (0 : Int) < 3; decide), _, _, rfl, rfl, ?_⟩⟩
    -- kinds
    refine ⟨(show 6 ≤ sizeLine by decide), fun lk hlk => ?_⟩
    have s3 : Same H2 (upd H2 lk (.lst [.int 2, .int 3, .int 2, .int 4, .int 2, .int 1])) := same_upd hlk
    have hlk3 : upd H2 lk (.lst [.int 2, .int 3, .int 2, .int 4, .int 2, .int 1]) lk = some (.lst (lv [2, 3, 2, 4, 2, 1])) := upd_same
    refine ⟨_, rfl, l1, _, 1, _, rfl, rfl, (dAt 1 (s2.trans s3) (by decide)).1, atI_nat (j := 1) (dAt 1 (s2.trans s3) (by decide)).2, .inl ⟨_, rfl, _, _, rfl, rfl, (by show (0 : Int) < 6; decide), ?_⟩⟩
    have k0 := Int.emod_nonneg (ds.getD 1 0) (show (6 : Int) ≠ 0 by decide)
    have k1 := Int.emod_lt_of_pos (ds.getD 1 0) (show (0 : Int) < 6 by decide)
    obtain ⟨m6, hm6⟩ : ∃ m6 : Nat, ds.getD 1 0 % 6 = (m6 : Int) := ⟨_, (Int.toNat_of_nonneg k0).symm⟩
    have hm6' : m6 < 6 := by omega
    obtain ⟨kd1, kd4⟩ := kinds_ok m6 hm6'
    refine ⟨lk, _, _, .int (([2, 3, 2, 4, 2, 1] : List Int).getD m6 0), rfl, rfl, SqL.of hlk3, (by show atI (lv [2, 3, 2, 4, 2, 1]) (ds.getD 1 0 % 6) = _; rw [hm6]; exact atI_nat (lv_getD hm6')), ?_⟩
    generalize ([2, 3, 2, 4, 2, 1] : List Int).getD m6 0 = kd at kd1 kd4
    have s13 := s2.trans s3
    generalize upd H2 lk (.lst [.int 2, .int 3, .int 2, .int 4, .int 2, .int 1]) = H3 at s3 s13
    -- sizes
    refine ⟨_, rfl, 2, rfl, 8, rfl, l1, _, rfl, (dAt 0 s13 (by decide)).1, fun lsl hlsl => ?_⟩
    rw [cut_28 hlen1]
    have s4 : Same H3 (upd H3 lsl (.lst (lv ((ds.drop 2).take 6)))) := same_upd hlsl
    have hlsl4 : upd H3 lsl (.lst (lv ((ds.drop 2).take 6))) lsl = some (.lst (lv ((ds.drop 2).take 6))) := upd_same
    have s14 := s13.trans s4
    have s24 := s3.trans s4
    generalize upd H3 lsl (.lst (lv ((ds.drop 2).take 6))) = H4 at s4 hlsl4 s14 s24
    refine ⟨_, rfl, _, rfl, l1, _, 8, _, rfl, rfl, (dAt 8 s14 (by decide)).1, atI_nat (j := 8) (dAt 8 s14 (by decide)).2, .inl ⟨_, rfl, _, _, rfl, rfl, (by show (0 : Int) < 2; decide), rfl, ?_⟩⟩
    refine ⟨lsl, (ds.drop 2).take 6, m, decide (V.int (ds.getD 8 0 % 2) = V.int 0), (by rw [← hm]; rfl), hlsl4, by rw [List.length_take, List.length_drop]; omega, hm1, hm3, fun H5 l5 sn s5 _ hL5 hlen5 hsum => ?_⟩
    -- rows
    have s15 := s14.trans s5
    have hL25 := (s24.trans s5) _ _ hL2
    have hS5 : SqL K H5 a (lv ns) := s15.seq (s1.seq hS)
    refine ⟨_, rfl, _, _, rfl, rfl, .inl ⟨by decide, by decide⟩, _, rfl, ?_, ?_, fun lr hlr => ?_⟩
    · show -(2 ^ 62) ≤ 2 * (1 + ds.getD 0 0 % 3)
      omega
    · show 2 * (1 + ds.getD 0 0 % 3) < 2 ^ 62
      omega
    refine lc_range (lo := 0) (fun i H' => ∃ xs rs, Same H5 H' ∧ RowsAt H' lr xs rs ∧ rs.length = i ∧ ∀ j, j < i → (rs.getD j []).length = sn.getD j 0 ∧ LetOk (rs.getD j [])) ⟨[], [], same_upd hlr, ⟨upd_same, rfl, fun i hi => absurd hi (Nat.not_lt_zero _)⟩, rfl, fun j hj => absurd hj (Nat.not_lt_zero _)⟩ ?_ ?_
    · rintro i H' hi ⟨xs, rs, sH, hR, hrl, hall⟩
      have hi2 : i < 2 * m := by
        have h2 : i < (2 * (1 + ds.getD 0 0 % 3)).toNat := hi
        omega
      have hsni : (iv sn)[i]? = some (.int ((sn.getD i 0 : Nat) : Int)) := by
        have hlt : i < sn.length := by omega
        unfold iv
        rw [List.getElem?_map, List.getElem?_eq_getElem hlt, List.getD_eq_getElem?_getD, List.getElem?_eq_getElem hlt]; rfl
      have hle : sn.getD i 0 ≤ 6 := by
        have hlt : i < sn.length := by omega
        have hmem : sn.getD i 0 ∈ sn := by
          rw [List.getD_eq_getElem?_getD, List.getElem?_eq_getElem hlt]
          exact List.getElem_mem hlt
        have := le_sum hmem
        omega
      have e1 : (1 : Int) + (0 + (i : Int)) = ((i + 1 : Nat) : Int) := by omega
      have e0 : (0 : Int) + (i : Int) = ((i : Nat) : Int) := by omega
      refine ⟨rfl, ?_⟩
      refine ⟨_, rfl, _, rfl, _, _, rfl, rfl, l2, _, _, _, rfl, rfl, SqL.of (sH _ _ hL25), (by show atI (lv fs) (1 + (0 + (i : Int))) = _; rw [e1]; exact atI_nat (lv_getD (by omega))), ?_⟩
      refine ⟨_, rfl, _, rfl, l5, _, _, _, rfl, rfl, SqL.of (sH _ _ hL5), (by rw [e0]; exact atI_nat hsni), ?_⟩
      refine ⟨_, sn.getD i 0, rfl, by omega, fun H6 l6 ds6 s6 _ hL6 hlen6 hok6 => ?_⟩
      refine ⟨_, rfl, l6, ds6, kd, rfl, hL6, by omega, kd1, kd4, fun H7 l7 ws7 s7 hl7 hL7 hlen7 hok7 => ?_⟩
      have hR7 := (hR.same s6).same s7
      have hn : l7 ≠ lr := fun z => by
        have := (hR.same s6).at_
        rw [← z, hl7] at this
        cases this
      refine ⟨xs, hR7.at_, by rw [hR.len, hrl, sizeLine_eq]; omega, xs ++ [.ref l7], rs ++ [ws7], Same.upd ((sH.trans s6).trans s7) hlr, hR7.app hL7 hn, by rw [List.length_append, List.length_singleton, hrl], fun j hj => ?_⟩
      by_cases c : j < i
      · have e : (rs ++ [ws7]).getD j [] = rs.getD j [] := by
          rw [List.getD_eq_getElem?_getD, List.getD_eq_getElem?_getD, List.getElem?_append_left (by omega)]
        rw [e]; exact hall j c
      · have ej : j = i := by omega
        have e : (rs ++ [ws7]).getD j [] = ws7 := by rw [ej, ← hrl]; simp
        rw [e, ej]
        exact ⟨by omega, hok7⟩
    · rintro H6 ⟨xs, rs, s6, hR, hrl, hall⟩
      have hrl2 : rs.length = 2 * m := by
        have h2 : rs.length = (2 * (1 + ds.getD 0 0 % 3)).toNat := hrl
        omega
      have hall2 : ∀ j, j < 2 * m → (rs.getD j []).length = sn.getD j 0 ∧ LetOk (rs.getD j []) := fun j hj => hall j (by
        have h2 : rs.length = (2 * (1 + ds.getD 0 0 % 3)).toNat := hrl
        show j < (2 * (1 + ds.getD 0 0 % 3)).toNat
        omega)
      -- product = Word(())
      refine ⟨Nat.zero_le _, fun te hte => ?_⟩
      have s7 : Same H6 (upd H6 te (.tup [])) := same_upd hte
      have hte7 : upd H6 te (.tup []) te = some (.tup []) := upd_same
      generalize upd H6 te (.tup []) = H7 at s7 hte7
      intro x0 dx0 hx0 hdx0 ne0
      refine mk_wordR (K := K) (C := D.CW) (a := te) (ws := []) hx0 hdx0 ne0 (.inr (SqT.of hte7)) (by decide) (fun x hx => by simp at hx) fun H8 s8 hw8 => ⟨rfl, ?_⟩
      refine ⟨Nat.zero_le _, fun ld hld => ?_⟩
      have s68 : Same H6 H8 := s7.trans s8
      have hS6 : SqL K H6 a (lv ns) := s6.seq hS5
      have hL26 : ListAt H6 l2 fs := s6 _ _ hL25
      have hL16 : ListAt H6 l1 ds := s6 _ _ (s15 _ _ hL1)
      refine ⟨_, rfl, (m : Int), (by rw [← hm]), by omega, by omega, for_range (lo := 0) (n := m) (fun k σ H' => ∃ (d : List Int) (bf : Nat) (ldue p8 : Addr) (b6 b11 b12 b13 : Option V), σ = [some (.ref a), some (.ref l1), some (.ref l2), some (.int (m : Int)), some (.int kd), some (.ref l5), b6, some (.ref lr), some (.ref p8), some (.ref ldue), some (.int (bf : Int)), b11, b12, b13, none, none, none] ∧ Same H6 H' ∧ WordAt D.CW H' p8 (red d) ∧ ListAt H' ldue d ∧ Prod k d ∧ LetOk d ∧ Least (red d) bf ∧ d.length = 2 * (sn.take (2 * k)).sum)
        ⟨[], 0, ld, x0, none, none, none, none, ?_, Same.upd s68 (s68.free hld), hw8.same (same_upd hld), upd_same, .nil, fun x hx => by simp at hx, least_nil, by simp⟩ ?_ ?_⟩
      · rw [← hm]; rfl
      · rintro k σ H9 hk ⟨d, bf, ldue, p8, b6, b11, b12, b13, rfl, s9, hw9, hL9, hP, hLet, hLe, hdl⟩
        have hk2 : 2 * k + 1 < sn.length := by omega
        obtain ⟨ra, hra1, hra2, _⟩ := hR.row (2 * k) (by omega)
        obtain ⟨rb, hrb1, hrb2, _⟩ := hR.row (2 * k + 1) (by omega)
        obtain ⟨hxl, hxo⟩ := hall2 (2 * k) (by omega)
        obtain ⟨hyl, hyo⟩ := hall2 (2 * k + 1) (by omega)
        generalize rs.getD (2 * k) [] = x at hra2 hxl hxo
        generalize rs.getD (2 * k + 1) [] = y at hrb2 hyl hyo
        have hx0 : ∀ z ∈ x, z ≠ 0 := fun z hz => (hxo z hz).1
        have hy0 : ∀ z ∈ y, z ≠ 0 := fun z hz => (hyo z hz).1
        have hsum2 := take_sum_two hk2
        have hsum3 := take_sum_le sn (2 * (k + 1))
        have hra9 := hra2.same s9
        have hrb9 := hrb2.same s9
        have hlr9 := s9 _ _ hR.at_
        have e1 : (2 : Int) * (0 + (k : Int)) = ((2 * k : Nat) : Int) := by omega
        have e2 : (2 : Int) * (0 + (k : Int)) + 1 = ((2 * k + 1 : Nat) : Int) := by omega
        -- one, other
        refine ⟨_, rfl, _, rfl, _, _, rfl, rfl, .inl ⟨by decide, by decide⟩, lr, _, _, _, rfl, rfl, SqL.of hlr9, (by show atI xs (2 * (0 + (k : Int))) = _; rw [e1]; exact atI_nat hra1), ?_⟩
        refine ⟨_, rfl, _, rfl, _, _, rfl, rfl, .inl ⟨by decide, by decide⟩, _, _, rfl, rfl, lr, _, _, _, rfl, rfl, SqL.of hlr9, (by show atI xs (2 * (0 + (k : Int)) + 1) = _; rw [e2]; exact atI_nat hrb1), ?_⟩
        -- due
        refine ⟨_, rfl, _, rfl, rcat_list hL9 hra9 (by omega) fun Ha qa sa hqa => ?_⟩
        refine ⟨_, rfl, rcat_list hqa (hrb9.same sa) (by rw [List.length_append]; omega) fun Hb qb sb hqb => ?_⟩
        refine ⟨_, rfl, ra, x, rfl, hra9.same (sa.trans sb), by omega, fun Hc qc sc _ hqc => ?_⟩
        refine rcat_list (hqb.same sc) hqc (by simp only [List.length_append, Tw.opp_length]; omega) fun Hd qd sd hqd => ?_
        refine ⟨_, rfl, rb, y, rfl, hrb9.same (sa.trans (sb.trans (sc.trans sd))), by omega, fun He qe se _ hqe => ?_⟩
        refine rcat_list (hqd.same se) hqe (by simp only [List.length_append, Tw.opp_length]; omega) fun Hf qf sf hqf => ?_
        have s9f := sa.trans (sb.trans (sc.trans (sd.trans (se.trans sf))))
        have hP' := Prod.more hP hx0 hy0
        have hLet' : LetOk (d ++ x ++ y ++ opp x ++ opp y) := (((hLet.append hxo).append hyo).append hxo.opp).append hyo.opp
        have hdl' : (d ++ x ++ y ++ opp x ++ opp y).length = 2 * (sn.take (2 * (k + 1))).sum := by
          simp only [List.length_append, Tw.opp_length]
          omega
        have hsm : Small (red (d ++ x ++ y ++ opp x ++ opp y)) := small_of hP'.ex hP'.has hP'.nz (Nat.le_trans (Tw.red_length _) (by omega))
        have hrp := red_prod d x y
        generalize hd' : d ++ x ++ y ++ opp x ++ opp y = d' at hqf hP' hLet' hdl' hsm hrp
        -- product
        have hw10 := hw9.same s9f
        have hra10 := hra9.same s9f
        have hrb10 := hrb9.same s9f
        refine ⟨_, rfl, _, rfl, ra, _, rfl, .inl (SqL.of hra10), fun li hli => ?_⟩
        have s11 : Same Hf (upd Hf li (.lst (lv x))) := same_upd hli
        have hli11 : ListAt (upd Hf li (.lst (lv x))) li x := upd_same
        generalize upd Hf li (.lst (lv x)) = H11 at s11 hli11
        intro x1 dx1 hx1 hdx1 ne1
        refine mk_wordR (K := K) (C := D.CW) (a := li) (ws := x) hx1 hdx1 ne1 (.inl (SqL.of hli11)) (by omega) hxo fun H12 s12 hw12 => ⟨rfl, ?_⟩
        obtain ⟨dw1, tw1, ow1, hpw1, htw1, how1⟩ := id hw12
        refine ⟨x1, dw1, _, rfl, hpw1, pfL_no _ (by decide +kernel), ?_⟩
        have s10_12 := s11.trans s12
        refine ⟨_, rfl, rb, _, rfl, .inl ⟨SqL.of (hrb10.same s10_12), fun lt hlt => ?_⟩⟩
        have s13' : Same H12 (upd H12 lt (.tup (lv y))) := same_upd hlt
        have hlt13 : upd H12 lt (.tup (lv y)) lt = some (.tup (lv y)) := upd_same
        generalize upd H12 lt (.tup (lv y)) = H13 at s13' hlt13
        intro x2 dx2 hx2 hdx2 ne2
        refine mk_wordR (K := K) (C := D.CW) (a := lt) (ws := y) hx2 hdx2 ne2 (.inr (SqT.of hlt13)) (by omega) hyo fun H14 s14' hw14 => ⟨rfl, ?_⟩
        have hrx := Tw.red_length x
        have hry := Tw.red_length y
        have hrd := Tw.red_length d
        refine ⟨x1, x2, red x, red y, rfl, hw12.same (s13'.trans s14'), hw14, by omega, hxo.red, hyo.red, fun H15 pc s15' hw15 => ?_⟩
        have s10_15 := s10_12.trans ((s13'.trans s14').trans s15')
        have hw10' := hw10.same s10_15
        obtain ⟨dw3, tw3, ow3, hpw3, htw3, how3⟩ := id hw10'
        obtain ⟨dw4, tw4, ow4, hpw4, htw4, how4⟩ := id hw15
        have hrc := Tw.red_length (red x ++ red y ++ opp (red x) ++ opp (red y))
        simp only [List.length_append, Tw.opp_length] at hrc
        refine ⟨p8, dw3, _, pc, dw4, _, rfl, rfl, hpw3, hpw4, p8, pc, red d, _, rfl, hw10', hw15, by omega, hLet.red, (((hxo.red.append hyo.red).append hxo.red.opp).append hyo.red.opp).red, fun H16 pp s16' hw16 => ⟨⟨pp, rfl⟩, ?_⟩⟩
        rw [hrp] at hw16
        have s10_16 := s10_15.trans s16'
        -- least
        refine ⟨_, rfl, _, rfl, _, rfl, l1, _, 9, _, rfl, rfl, SqL.of (hL16.same (s9.trans (s9f.trans s10_16))), atI_nat (j := 9) (lv_getD (by omega)), Hf |> fun _ => qf, d', _, rfl, hqf.same s10_16, by omega, fun H17 tt s17 htt => ?_⟩
        refine ⟨pp, tt, red d', rfl, hw16.same s17, htt, hsm, Tw.short_red d', fun H18 hh s18 hLh => ?_⟩
        obtain ⟨st1, st2, st3⟩ := Tw.prod_step hP hx0 hy0 hLe (by rw [hd']; exact hLh)
        refine ⟨_, rfl, rfl, _, rfl, ?_⟩
        refine ite_no (by simp) ?_
        refine ⟨_, rfl, _, rfl, _, _, rfl, rfl, _, _, rfl, rfl, _, rfl, ?_⟩
        refine ite_no (show decide ((hh : Int) > 0 + (k : Int) + 1) = false from decide_eq_false (by omega)) ?_
        refine ⟨_, rfl, _, rfl, _, _, rfl, rfl, _, rfl, _, _, rfl, rfl, _, rfl, ?_⟩
        refine ite_no (show decide ((if (hh : Int) - (bf : Int) < 0 then -((hh : Int) - (bf : Int)) else (hh : Int) - (bf : Int)) > 1) = false from decide_eq_false (by split <;> omega)) ?_
        have s9e := s9f.trans ((s10_16.trans s17).trans s18)
        exact ⟨_, rfl, d', hh, qf, pp, _, _, _, _, rfl, s9.trans s9e, hw16.same (s17.trans s18), hqf.same ((s10_16.trans s17).trans s18), hP', hLet', hLh, hdl'⟩
      · rintro σ H9 ⟨d, bf, ldue, p8, b6, b11, b12, b13, rfl, s9, hw9, hL9, hP, hLet, hLe, hdl⟩
        have hdl12 : d.length ≤ 12 := by
          have := take_sum_le sn (2 * m)
          omega
        have hrd := Tw.red_length d
        -- the opposite word
        obtain ⟨dw1, tw1, ow1, hpw1, htw1, how1⟩ := id hw9
        refine ⟨_, rfl, p8, dw1, _, rfl, hpw1, p8, red d, rfl, hw9, by omega, hLet.red, fun H10 pi s10 hwi => ?_⟩
        rw [Tw.red_opp] at hwi
        refine ⟨_, rfl, ldue, d, rfl, hL9.same s10, by omega, fun H11 lo s11 _ hlo => ?_⟩
        refine ⟨_, rfl, l1, _, 9, _, rfl, rfl, SqL.of (hL16.same (s9.trans (s10.trans s11))), atI_nat (j := 9) (lv_getD (by omega)), _, _, rfl, rfl, lo, opp d, _, rfl, hlo, by rw [Tw.opp_length]; omega, fun H12 tt s12 htt => ?_⟩
        have hro := Tw.red_length (opp d)
        rw [Tw.opp_length] at hro
        have hsmo : Small (red (opp d)) := small_of (fun a => by rw [Tw.ex_opp, hP.ex]; rfl) ((Tw.has_opp_iff _).mpr hP.has) (Tw.nz_opp hP.nz) (by omega)
        refine ⟨pi, tt, red (opp d), rfl, hwi.same (s11.trans s12), htt, hsmo, Tw.short_red _, fun H13 ho s13' hLo => ?_⟩
        have eo := Tw.opp_same hP.nz hLe hLo
        refine ⟨_, rfl, rfl, _, rfl, ?_⟩
        refine ite_no (by simp) ?_
        refine ⟨_, rfl, _, rfl, rfl, _, rfl, ?_⟩
        refine ite_no (show (!decide (V.int (ho : Int) = V.int (bf : Int))) = false from by rw [eo]; simp) ?_
        have s9_13 := s10.trans (s11.trans (s12.trans s13'))
        have s6_13 := s9.trans s9_13
        -- about
        have q0 := Int.emod_nonneg (ds.getD 10 0) (show (2 : Int) ≠ 0 by decide)
        have q1 := Int.emod_lt_of_pos (ds.getD 10 0) (show (0 : Int) < 2 by decide)
        obtain ⟨nb, hnb⟩ : ∃ nb : Nat, 1 + ds.getD 10 0 % 2 = (nb : Int) := ⟨(1 + ds.getD 10 0 % 2).toNat, by omega⟩
        have hnb2 : nb ≤ 2 := by omega
        refine ⟨_, rfl, l2, _, 7, _, rfl, rfl, SqL.of (hL26.same s6_13), atI_nat (j := 7) (lv_getD (by omega)), ?_⟩
        refine ⟨_, rfl, l1, _, 10, _, rfl, rfl, SqL.of (hL16.same s6_13), atI_nat (j := 10) (lv_getD (by omega)), .inl ⟨_, rfl, _, _, rfl, rfl, (by show (0 : Int) < 2; decide), _, _, rfl, rfl, ?_⟩⟩
        refine ⟨fs.getD 7 0, nb, (by rw [← hnb]; rfl), by omega, fun H14 la ds14 s14' _ hLa hla hoka => ?_⟩
        refine ⟨la, ds14, 4, rfl, hLa, by omega, by decide, by decide, fun H15 lu u s15' _ hLu hul huo => ?_⟩
        have s13_15 := s14'.trans s15'
        have hu2 : u.length ≤ 2 := by omega
        have hu0 : ∀ z ∈ u, z ≠ 0 := fun z hz => (huo z hz).1
        -- row
        refine ⟨_, rfl, _, rfl, rcat_list hLu (hL9.same (s9_13.trans s13_15)) (by omega) fun H16 qa sa hqa => ?_⟩
        refine ⟨_, rfl, lu, u, rfl, hLu.same sa, by omega, fun H17 qb sb _ hqb => ?_⟩
        refine rcat_list (hqa.same sb) hqb (by rw [List.length_append, Tw.opp_length]; omega) fun H18 qc sc hqc => ?_
        have s15_18 := sa.trans (sb.trans sc)
        have hcl : (u ++ d ++ opp u).length ≤ 16 := by simp only [List.length_append, Tw.opp_length]; omega
        refine ⟨_, rfl, l1, _, 11, _, rfl, rfl, SqL.of (hL16.same (s6_13.trans (s13_15.trans s15_18))), atI_nat (j := 11) (lv_getD (by omega)), qc, _, _, rfl, hqc, by omega, fun H19 tr sd htr => ?_⟩
        have s15_19 := s15_18.trans sd
        -- word
        have hLu19 := hLu.same s15_19
        have hw19 := hw9.same (s9_13.trans (s13_15.trans s15_19))
        have hru := Tw.red_length u
        refine ⟨_, rfl, ?_⟩
        intro x1 dx1 hx1 hdx1 ne1
        refine mk_wordR (K := K) (C := D.CW) (a := lu) (ws := u) hx1 hdx1 ne1 (.inl (SqL.of hLu19)) (by omega) huo fun H20 s20 hw20 => ⟨rfl, ?_⟩
        have hw20' := hw19.same s20
        obtain ⟨dq1, tq1, oq1, hq1, _, _⟩ := id hw20
        obtain ⟨dq2, tq2, oq2, hq2, _, _⟩ := id hw20'
        refine ⟨_, rfl, x1, dq1, _, p8, dq2, _, rfl, rfl, hq1, hq2, x1, p8, red u, red d, rfl, hw20, hw20', by omega, huo.red, hLet.red, fun H21 pm s21 hw21 => ⟨⟨pm, rfl⟩, ?_⟩⟩
        refine ⟨_, rfl, ?_⟩
        intro x2 dx2 hx2 hdx2 ne2
        refine mk_wordR (K := K) (C := D.CW) (a := lu) (ws := u) hx2 hdx2 ne2 (.inl (SqL.of (hLu19.same (s20.trans s21)))) (by omega) huo fun H22 s22 hw22 => ⟨rfl, ?_⟩
        obtain ⟨dq3, tq3, oq3, hq3, _, _⟩ := id hw22
        refine ⟨x2, dq3, _, rfl, hq3, x2, red u, rfl, hw22, by omega, huo.red, fun H23 pn s23 hw23 => ?_⟩
        have hw21' := hw21.same (s22.trans s23)
        obtain ⟨dq4, tq4, oq4, hq4, _, _⟩ := id hw21'
        obtain ⟨dq5, tq5, oq5, hq5, _, _⟩ := id hw23
        have hl1 := Tw.red_length (red u ++ red d)
        have hl2 := Tw.red_length (opp (red u))
        rw [List.length_append] at hl1
        rw [Tw.opp_length] at hl2
        refine ⟨pm, dq4, _, pn, dq5, _, rfl, rfl, hq4, hq5, pm, pn, _, _, rfl, hw21', hw23, by omega, (huo.red.append hLet.red).red, huo.red.opp.red, fun H24 pw s24 hw24 => ⟨⟨pw, rfl⟩, ?_⟩⟩
        rw [red_conj] at hw24
        have s19_24 := s20.trans (s21.trans (s22.trans (s23.trans s24)))
        have htr24 := s19_24 _ _ htr
        have hexc := ex_conj (u := u) hP.ex
        have hhas := (Tw.has_conj (w := d) hu0 (2 * m)).mpr hP.has
        have hnz := Tw.nz_app (Tw.nz_app hu0 hP.nz) (Tw.nz_opp hu0)
        have hrl3 := Tw.red_length (u ++ d ++ opp u)
        have hconj := fun {h' : Nat} (L : Least (red (u ++ d ++ opp u)) h') => Tw.conj_same hP.nz hu0 hLe L
        generalize u ++ d ++ opp u = c at hw24 htr24 hexc hhas hnz hrl3 hconj hcl
        -- len(row) > 12
        refine ⟨_, rfl, tr, _, rfl, .inr (SqT.of htr24), _, _, rfl, rfl, _, rfl, ?_⟩
        obtain ⟨dw, tw, ow, hpw, htw, how⟩ := id hw24
        refine ite2 (fun cc => ?_) (fun cc => ?_)
        · have h12 : 12 < (red c).length := by
            have := of_decide_eq_true cc
            rw [lv_length] at this
            omega
          refine ⟨_, rfl, pw, D.CW, dw, _, _, rfl, hpw, T.clW, T.nL, pfL_letters _, _, rfl, tw, tr, lv (red c), rfl, SqT.ofF htw, SqT.of htr24, .fTuple htw, .base (.tup htr24), lv_leaf _, by rw [lv_length]; omega, true, rfl, ?_⟩
          refine iteT ?_
          refine ⟨_, rfl, pw, red c, rfl, hw24, h12, by omega, fun H25 t5 s25 ht5 => ?_⟩
          refine ⟨(show 3 ≤ sizeLine by decide), fun t6 ht6 => ?_⟩
          have ht5' : upd H25 t6 (.tup [.str "TooLarge", .str "letters", .int 12]) t5 = some (.tup [.str "TooLarge", .str "letters", .int 12]) := (same_upd ht6) _ _ ht5
          refine ⟨t5, t6, [.str "TooLarge", .str "letters", .int 12], rfl, SqT.of ht5', SqT.of upd_same, .base (.tup ht5'), .base (.tup upd_same), fun x hx => ?_, (show 3 ≤ 400 by decide), hQ _⟩
          simp at hx
          rcases hx with rfl | rfl | rfl
          · exact .str _
          · exact .str _
          · exact .int _
        · have h12 : (red c).length ≤ 12 := by
            refine Nat.le_of_not_lt fun z => cc (decide_eq_true ?_)
            rw [lv_length]
            omega
          refine ⟨_, rfl, _, rfl, pw, tr, red c, rfl, hw24, htr24, small_of hexc hhas hnz h12, Tw.short_red c, fun H25 h5 s25 hL5 => ?_⟩
          have e5 := hconj hL5
          refine ⟨_, rfl, rfl, _, rfl, ?_⟩
          refine ite_yes (by simp) ?_
          refine ⟨_, rfl, _, rfl, rfl, ?_⟩
          have e6 : decide (V.int (h5 : Int) = V.int (bf : Int)) = true := by rw [e5]; simp
          show Q (V.bl (decide (V.int (h5 : Int) = V.int (bf : Int)))) H25
          rw [e6]
          exact hQ _

end
end K94
end

-- text TwEnd
section
set_option Elab.async false
set_option linter.all false
set_option maxRecDepth 100000
set_option maxHeartbeats 8000000
set_option pp.maxSteps 400
/-! The end: what the top has left; the row. Written by gen_end.py. -/
namespace K94
open PySem PySem.Spec PyProof.Rows L2
theorem exm_self {K : PySem.W.Frag} {S : Addr} (h1 : PySem.W.subIn K (.ref S) (.type "BaseException") = some true) (h2 : PySem.W.isClsIn K S = true) (h3 : PySem.W.typeIn K (.ref S) = some (.type "type")) (h4 : PySem.W.subIn K (.ref S) (.ref S) = some true) :
    PySem.W.exmOne K (.ref S) (.ref S) = some true := by
  have e1 : (PySem.W.subIn K (.ref S) (.type "BaseException") == some true) = true := by rw [h1] <;> rfl
  have e2 : ((PySem.W.clsIn K S).isSome && PySem.W.typeIn K (.ref S) == some (.type "type")) = true := by
    have h2' : (PySem.W.clsIn K S).isSome = true := h2
    rw [h2', h3] <;> rfl
  show (if (PySem.W.subIn K (.ref S) (.type "BaseException") == some true) = true then (if ((PySem.W.clsIn K S).isSome && PySem.W.typeIn K (.ref S) == some (.type "type")) = true then PySem.W.subIn K (.ref S) (.ref S) else none) else none) = some true
  rw [if_pos e1, if_pos e2]
  exact h4
theorem all_mk {l : PySem.W.OpenLaw} {w : World} {K : PySem.W.Frag} {h : Heap} {mg : Str → Option Value} {fa : Addr} (X : K.In h) (G : h.Ns mainGlobals mg) (hfa : mg "law" = some (.ref fa))
    {CL CW CT B1 B2 : Addr}
    {fLeft : Addr} {odLeft anLeft : Option Addr} {slLeft : Array (Option Value)} {ocLeft kVLeft dcLeft pmLeft cdLeft ctLeft : Value}
    {fGls : Addr} {odGls anGls : Option Addr} {slGls : Array (Option Value)} {ocGls kVGls dcGls pmGls cdGls ctGls : Value}
    {fCor : Addr} {odCor anCor : Option Addr} {slCor : Array (Option Value)} {ocCor kVCor dcCor pmCor cdCor ctCor : Value}
    {fHan : Addr} {odHan anHan : Option Addr} {slHan : Array (Option Value)} {ocHan kVHan dcHan pmHan cdHan ctHan : Value}
    {fFirst : Addr} {odFirst anFirst : Option Addr} {slFirst : Array (Option Value)} {ocFirst kVFirst dcFirst pmFirst cdFirst ctFirst : Value}
    {fLeast : Addr} {odLeast anLeast : Option Addr} {slLeast : Array (Option Value)} {ocLeast kVLeast dcLeast pmLeast cdLeast ctLeast : Value}
    {fBest : Addr} {odBest anBest : Option Addr} {slBest : Array (Option Value)} {ocBest kVBest dcBest pmBest cdBest ctBest : Value}
    {fShort : Addr} {odShort anShort : Option Addr} {slShort : Array (Option Value)} {ocShort kVShort dcShort pmShort cdShort ctShort : Value}
    {fOpp : Addr} {odOpp anOpp : Option Addr} {slOpp : Array (Option Value)} {ocOpp kVOpp dcOpp pmOpp cdOpp ctOpp : Value}
    {fCell : Addr} {odCell anCell : Option Addr} {slCell : Array (Option Value)} {ocCell kVCell dcCell pmCell cdCell ctCell : Value}
    {fDraws : Addr} {odDraws anDraws : Option Addr} {slDraws : Array (Option Value)} {ocDraws kVDraws dcDraws pmDraws cdDraws ctDraws : Value}
    {fSame : Addr} {odSame anSame : Option Addr} {slSame : Array (Option Value)} {ocSame kVSame dcSame pmSame cdSame ctSame : Value}
    {fNum : Addr} {odNum anNum : Option Addr} {slNum : Array (Option Value)} {ocNum kVNum dcNum pmNum cdNum ctNum : Value}
    {fSgn : Addr} {odSgn anSgn : Option Addr} {slSgn : Array (Option Value)} {ocSgn kVSgn dcSgn pmSgn cdSgn ctSgn : Value}
    {fLSh : Addr} {odLSh anLSh : Option Addr} {slLSh : Array (Option Value)} {ocLSh kVLSh dcLSh pmLSh cdLSh ctLSh : Value}
    {fLOp : Addr} {odLOp anLOp : Option Addr} {slLOp : Array (Option Value)} {ocLOp kVLOp dcLOp pmLOp cdLOp ctLOp : Value}
    {fLCo : Addr} {odLCo anLCo : Option Addr} {slLCo : Array (Option Value)} {ocLCo kVLCo dcLCo pmLCo cdLCo ctLCo : Value}
    {fFed : Addr} {odFed anFed : Option Addr} {slFed : Array (Option Value)} {ocFed kVFed dcFed pmFed cdFed ctFed : Value}
    {fSiz : Addr} {odSiz anSiz : Option Addr} {slSiz : Array (Option Value)} {ocSiz kVSiz dcSiz pmSiz cdSiz ctSiz : Value}
    {fRgt : Addr} {odRgt anRgt : Option Addr} {slRgt : Array (Option Value)} {ocRgt kVRgt dcRgt pmRgt cdRgt ctRgt : Value}
    {fLHa : Addr} {odLHa anLHa : Option Addr} {slLHa : Array (Option Value)} {ocLHa kVLHa dcLHa pmLHa cdLHa ctLHa : Value}
    {fLLe : Addr} {odLLe anLLe : Option Addr} {slLLe : Array (Option Value)} {ocLLe kVLLe dcLLe pmLLe cdLLe ctLLe : Value}
    {fRef : Addr} {odRef anRef : Option Addr} {slRef : Array (Option Value)} {ocRef kVRef dcRef pmRef cdRef ctRef : Value}
    {fLaw : Addr} {odLaw anLaw : Option Addr} {slLaw : Array (Option Value)} {ocLaw kVLaw dcLaw pmLaw cdLaw ctLaw : Value}
    {fLI : Addr} {odLI anLI : Option Addr} {slLI : Array (Option Value)} {ocLI kVLI dcLI pmLI cdLI ctLI : Value}
    {fRoot : Addr} {odRoot anRoot : Option Addr} {slRoot : Array (Option Value)} {ocRoot kVRoot dcRoot pmRoot cdRoot ctRoot : Value}
    {fGlue : Addr} {odGlue anGlue : Option Addr} {slGlue : Array (Option Value)} {ocGlue kVGlue dcGlue pmGlue cdGlue ctGlue : Value}
    {fCls : Addr} {odCls anCls : Option Addr} {slCls : Array (Option Value)} {ocCls kVCls dcCls pmCls cdCls ctCls : Value}
    {fWI : Addr} {odWI anWI : Option Addr} {slWI : Array (Option Value)} {ocWI kVWI dcWI pmWI cdWI ctWI : Value}
    {fMul : Addr} {odMul anMul : Option Addr} {slMul : Array (Option Value)} {ocMul kVMul dcMul pmMul cdMul ctMul : Value}
    {fInv : Addr} {odInv anInv : Option Addr} {slInv : Array (Option Value)} {ocInv kVInv dcInv pmInv cdInv ctInv : Value}
    {fLen : Addr} {odLen anLen : Option Addr} {slLen : Array (Option Value)} {ocLen kVLen dcLen pmLen cdLen ctLen : Value}
    {fComm : Addr} {odComm anComm : Option Addr} {slComm : Array (Option Value)} {ocComm kVComm dcComm pmComm cdComm ctComm : Value}
    {fBal : Addr} {odBal anBal : Option Addr} {slBal : Array (Option Value)} {ocBal kVBal dcBal pmBal cdBal ctBal : Value}
    {tk tl ts : Tok}
    {nm q : Str} {N : Addr} {bs : List Value} {sn : List Str} {sub : List Value} {ab : Bool} {col : Option Bool} {dd : Option Addr} {m0 m1 m2 m3 m5 : Option Value} {fTI cda cc : Addr} {oc cl ccl dcT pmT ctT : Value} {od cld cdd anT : Option Addr} {osl csl ccs : Array (Option Value)} {vs : Array Value} {file : Str} {tf : Tok}
    (aCL : PySem.W.nsIn K mainGlobals "Lots" = some (some (.ref CL)))
    (aCW : PySem.W.nsIn K mainGlobals "Word" = some (some (.ref CW)))
    (aCT : PySem.W.nsIn K mainGlobals "TooLarge" = some (some (.ref CT)))
    (aLeft : PySem.W.nsIn K mainGlobals "sides_left" = some (some (.ref fLeft)))
    (lLeft : K.lookup fLeft = some ⟨ocLeft, odLeft, .func (PySem.W.fnOf "sides_left" "sides_left" (defArgs sLeft) (defBody sLeft) (defScope sLeft) .none kVLeft dcLeft pmLeft anLeft cdLeft ctLeft), slLeft⟩)
    (cLeft : PySem.W.codeIn K cdLeft "sides_left" = true) (kLeft : PySem.W.keepIn K (.ref fLeft) = true)
    (aGls : PySem.W.nsIn K mainGlobals "gluings" = some (some (.ref fGls)))
    (lGls : K.lookup fGls = some ⟨ocGls, odGls, .func (PySem.W.fnOf "gluings" "gluings" (defArgs sGluings) (defBody sGluings) (defScope sGluings) .none kVGls dcGls pmGls anGls cdGls ctGls), slGls⟩)
    (cGls : PySem.W.codeIn K cdGls "gluings" = true) (kGls : PySem.W.keepIn K (.ref fGls) = true)
    (aCor : PySem.W.nsIn K mainGlobals "corners" = some (some (.ref fCor)))
    (lCor : K.lookup fCor = some ⟨ocCor, odCor, .func (PySem.W.fnOf "corners" "corners" (defArgs sCorners) (defBody sCorners) (defScope sCorners) .none kVCor dcCor pmCor anCor cdCor ctCor), slCor⟩)
    (cCor : PySem.W.codeIn K cdCor "corners" = true) (kCor : PySem.W.keepIn K (.ref fCor) = true)
    (aHan : PySem.W.nsIn K mainGlobals "handles" = some (some (.ref fHan)))
    (lHan : K.lookup fHan = some ⟨ocHan, odHan, .func (PySem.W.fnOf "handles" "handles" (defArgs sHandles) (defBody sHandles) (defScope sHandles) .none kVHan dcHan pmHan anHan cdHan ctHan), slHan⟩)
    (cHan : PySem.W.codeIn K cdHan "handles" = true) (kHan : PySem.W.keepIn K (.ref fHan) = true)
    (aFirst : PySem.W.nsIn K mainGlobals "first_best" = some (some (.ref fFirst)))
    (lFirst : K.lookup fFirst = some ⟨ocFirst, odFirst, .func (PySem.W.fnOf "first_best" "first_best" (defArgs sFirst) (defBody sFirst) (defScope sFirst) .none kVFirst dcFirst pmFirst anFirst cdFirst ctFirst), slFirst⟩)
    (cFirst : PySem.W.codeIn K cdFirst "first_best" = true) (kFirst : PySem.W.keepIn K (.ref fFirst) = true)
    (aLeast : PySem.W.nsIn K mainGlobals "least_handles" = some (some (.ref fLeast)))
    (lLeast : K.lookup fLeast = some ⟨ocLeast, odLeast, .func (PySem.W.fnOf "least_handles" "least_handles" (defArgs sLeast) (defBody sLeast) (defScope sLeast) .none kVLeast dcLeast pmLeast anLeast cdLeast ctLeast), slLeast⟩)
    (cLeast : PySem.W.codeIn K cdLeast "least_handles" = true) (kLeast : PySem.W.keepIn K (.ref fLeast) = true)
    (aBest : PySem.W.nsIn K mainGlobals "best_gluing" = some (some (.ref fBest)))
    (lBest : K.lookup fBest = some ⟨ocBest, odBest, .func (PySem.W.fnOf "best_gluing" "best_gluing" (defArgs sBest) (defBody sBest) (defScope sBest) .none kVBest dcBest pmBest anBest cdBest ctBest), slBest⟩)
    (cBest : PySem.W.codeIn K cdBest "best_gluing" = true) (kBest : PySem.W.keepIn K (.ref fBest) = true)
    (aShort : PySem.W.nsIn K mainGlobals "short_form" = some (some (.ref fShort)))
    (lShort : K.lookup fShort = some ⟨ocShort, odShort, .func (PySem.W.fnOf "short_form" "short_form" (defArgs sShort) (defBody sShort) (defScope sShort) .none kVShort dcShort pmShort anShort cdShort ctShort), slShort⟩)
    (cShort : PySem.W.codeIn K cdShort "short_form" = true) (kShort : PySem.W.keepIn K (.ref fShort) = true)
    (aOpp : PySem.W.nsIn K mainGlobals "opposite_letters" = some (some (.ref fOpp)))
    (lOpp : K.lookup fOpp = some ⟨ocOpp, odOpp, .func (PySem.W.fnOf "opposite_letters" "opposite_letters" (defArgs sOpp) (defBody sOpp) (defScope sOpp) .none kVOpp dcOpp pmOpp anOpp cdOpp ctOpp), slOpp⟩)
    (cOpp : PySem.W.codeIn K cdOpp "opposite_letters" = true) (kOpp : PySem.W.keepIn K (.ref fOpp) = true)
    (aCell : PySem.W.nsIn K mainGlobals "_law_cell" = some (some (.ref fCell)))
    (lCell : K.lookup fCell = some ⟨ocCell, odCell, .func (PySem.W.fnOf "_law_cell" "_law_cell" (defArgs sCell) (defBody sCell) (defScope sCell) .none kVCell dcCell pmCell anCell cdCell ctCell), slCell⟩)
    (cCell : PySem.W.codeIn K cdCell "_law_cell" = true) (kCell : PySem.W.keepIn K (.ref fCell) = true)
    (aDraws : PySem.W.nsIn K mainGlobals "_law_draws" = some (some (.ref fDraws)))
    (lDraws : K.lookup fDraws = some ⟨ocDraws, odDraws, .func (PySem.W.fnOf "_law_draws" "_law_draws" (defArgs sDraws) (defBody sDraws) (defScope sDraws) .none kVDraws dcDraws pmDraws anDraws cdDraws ctDraws), slDraws⟩)
    (cDraws : PySem.W.codeIn K cdDraws "_law_draws" = true) (kDraws : PySem.W.keepIn K (.ref fDraws) = true)
    (aSame : PySem.W.nsIn K mainGlobals "_law_same" = some (some (.ref fSame)))
    (lSame : K.lookup fSame = some ⟨ocSame, odSame, .func (PySem.W.fnOf "_law_same" "_law_same" (defArgs sSame) (defBody sSame) (defScope sSame) .none kVSame dcSame pmSame anSame cdSame ctSame), slSame⟩)
    (cSame : PySem.W.codeIn K cdSame "_law_same" = true) (kSame : PySem.W.keepIn K (.ref fSame) = true)
    (aNum : PySem.W.nsIn K mainGlobals "_law_is_number" = some (some (.ref fNum)))
    (lNum : K.lookup fNum = some ⟨ocNum, odNum, .func (PySem.W.fnOf "_law_is_number" "_law_is_number" (defArgs sIsNum) (defBody sIsNum) (defScope sIsNum) .none kVNum dcNum pmNum anNum cdNum ctNum), slNum⟩)
    (cNum : PySem.W.codeIn K cdNum "_law_is_number" = true) (kNum : PySem.W.keepIn K (.ref fNum) = true)
    (aSgn : PySem.W.nsIn K mainGlobals "_law_signed" = some (some (.ref fSgn)))
    (lSgn : K.lookup fSgn = some ⟨ocSgn, odSgn, .func (PySem.W.fnOf "_law_signed" "_law_signed" (defArgs sSigned) (defBody sSigned) (defScope sSigned) .none kVSgn dcSgn pmSgn anSgn cdSgn ctSgn), slSgn⟩)
    (cSgn : PySem.W.codeIn K cdSgn "_law_signed" = true) (kSgn : PySem.W.keepIn K (.ref fSgn) = true)
    (aLSh : PySem.W.nsIn K mainGlobals "_law_short" = some (some (.ref fLSh)))
    (lLSh : K.lookup fLSh = some ⟨ocLSh, odLSh, .func (PySem.W.fnOf "_law_short" "_law_short" (defArgs sLShort) (defBody sLShort) (defScope sLShort) .none kVLSh dcLSh pmLSh anLSh cdLSh ctLSh), slLSh⟩)
    (cLSh : PySem.W.codeIn K cdLSh "_law_short" = true) (kLSh : PySem.W.keepIn K (.ref fLSh) = true)
    (aLOp : PySem.W.nsIn K mainGlobals "_law_opposite_row" = some (some (.ref fLOp)))
    (lLOp : K.lookup fLOp = some ⟨ocLOp, odLOp, .func (PySem.W.fnOf "_law_opposite_row" "_law_opposite_row" (defArgs sLOpp) (defBody sLOpp) (defScope sLOpp) .none kVLOp dcLOp pmLOp anLOp cdLOp ctLOp), slLOp⟩)
    (cLOp : PySem.W.codeIn K cdLOp "_law_opposite_row" = true) (kLOp : PySem.W.keepIn K (.ref fLOp) = true)
    (aLCo : PySem.W.nsIn K mainGlobals "_law_corner_classes" = some (some (.ref fLCo)))
    (lLCo : K.lookup fLCo = some ⟨ocLCo, odLCo, .func (PySem.W.fnOf "_law_corner_classes" "_law_corner_classes" (defArgs sLCor) (defBody sLCor) (defScope sLCor) .none kVLCo dcLCo pmLCo anLCo cdLCo ctLCo), slLCo⟩)
    (cLCo : PySem.W.codeIn K cdLCo "_law_corner_classes" = true) (kLCo : PySem.W.keepIn K (.ref fLCo) = true)
    (aFed : PySem.W.nsIn K mainGlobals "_law_fed" = some (some (.ref fFed)))
    (lFed : K.lookup fFed = some ⟨ocFed, odFed, .func (PySem.W.fnOf "_law_fed" "_law_fed" (defArgs sFed) (defBody sFed) (defScope sFed) .none kVFed dcFed pmFed anFed cdFed ctFed), slFed⟩)
    (cFed : PySem.W.codeIn K cdFed "_law_fed" = true) (kFed : PySem.W.keepIn K (.ref fFed) = true)
    (aSiz : PySem.W.nsIn K mainGlobals "_law_sizes" = some (some (.ref fSiz)))
    (lSiz : K.lookup fSiz = some ⟨ocSiz, odSiz, .func (PySem.W.fnOf "_law_sizes" "_law_sizes" (defArgs sSizes) (defBody sSizes) (defScope sSizes) .none kVSiz dcSiz pmSiz anSiz cdSiz ctSiz), slSiz⟩)
    (cSiz : PySem.W.codeIn K cdSiz "_law_sizes" = true) (kSiz : PySem.W.keepIn K (.ref fSiz) = true)
    (aRgt : PySem.W.nsIn K mainGlobals "_law_gluing_right" = some (some (.ref fRgt)))
    (lRgt : K.lookup fRgt = some ⟨ocRgt, odRgt, .func (PySem.W.fnOf "_law_gluing_right" "_law_gluing_right" (defArgs sRight) (defBody sRight) (defScope sRight) .none kVRgt dcRgt pmRgt anRgt cdRgt ctRgt), slRgt⟩)
    (cRgt : PySem.W.codeIn K cdRgt "_law_gluing_right" = true) (kRgt : PySem.W.keepIn K (.ref fRgt) = true)
    (aLHa : PySem.W.nsIn K mainGlobals "_law_handles" = some (some (.ref fLHa)))
    (lLHa : K.lookup fLHa = some ⟨ocLHa, odLHa, .func (PySem.W.fnOf "_law_handles" "_law_handles" (defArgs sLHan) (defBody sLHan) (defScope sLHan) .none kVLHa dcLHa pmLHa anLHa cdLHa ctLHa), slLHa⟩)
    (cLHa : PySem.W.codeIn K cdLHa "_law_handles" = true) (kLHa : PySem.W.keepIn K (.ref fLHa) = true)
    (aLLe : PySem.W.nsIn K mainGlobals "_law_least" = some (some (.ref fLLe)))
    (lLLe : K.lookup fLLe = some ⟨ocLLe, odLLe, .func (PySem.W.fnOf "_law_least" "_law_least" (defArgs sLLeast) (defBody sLLeast) (defScope sLLeast) .none kVLLe dcLLe pmLLe anLLe cdLLe ctLLe), slLLe⟩)
    (cLLe : PySem.W.codeIn K cdLLe "_law_least" = true) (kLLe : PySem.W.keepIn K (.ref fLLe) = true)
    (aRef : PySem.W.nsIn K mainGlobals "_law_refusal" = some (some (.ref fRef)))
    (lRef : K.lookup fRef = some ⟨ocRef, odRef, .func (PySem.W.fnOf "_law_refusal" "_law_refusal" (defArgs sRefus) (defBody sRefus) (defScope sRefus) .none kVRef dcRef pmRef anRef cdRef ctRef), slRef⟩)
    (cRef : PySem.W.codeIn K cdRef "_law_refusal" = true) (kRef : PySem.W.keepIn K (.ref fRef) = true)
    (aLaw : PySem.W.nsIn K mainGlobals "law" = some (some (.ref fLaw)))
    (lLaw : K.lookup fLaw = some ⟨ocLaw, odLaw, .func (PySem.W.fnOf "law" "law" (defArgs sLaw) (defBody sLaw) (defScope sLaw) .none kVLaw dcLaw pmLaw anLaw cdLaw ctLaw), slLaw⟩)
    (cLaw : PySem.W.codeIn K cdLaw "law" = true) (kLaw : PySem.W.keepIn K (.ref fLaw) = true)
    (aLI : PySem.W.findIn K (.ref CL) "__init__" = some (some (.ref fLI)))
    (iLI : PySem.W.isFn K (.ref fLI) = true)
    (lLI : K.lookup fLI = some ⟨ocLI, odLI, .func (PySem.W.fnOf "__init__" "Lots.__init__" (defArgs sLotsInit) (defBody sLotsInit) (defScope sLotsInit) .none kVLI dcLI pmLI anLI cdLI ctLI), slLI⟩)
    (cLI : PySem.W.codeIn K cdLI "Lots.__init__" = true) (kLI : PySem.W.keepIn K (.ref fLI) = true)
    (aRoot : PySem.W.findIn K (.ref CL) "root" = some (some (.ref fRoot)))
    (iRoot : PySem.W.isFn K (.ref fRoot) = true)
    (lRoot : K.lookup fRoot = some ⟨ocRoot, odRoot, .func (PySem.W.fnOf "root" "Lots.root" (defArgs sRoot) (defBody sRoot) (defScope sRoot) .none kVRoot dcRoot pmRoot anRoot cdRoot ctRoot), slRoot⟩)
    (cRoot : PySem.W.codeIn K cdRoot "Lots.root" = true) (kRoot : PySem.W.keepIn K (.ref fRoot) = true)
    (aGlue : PySem.W.findIn K (.ref CL) "glue" = some (some (.ref fGlue)))
    (iGlue : PySem.W.isFn K (.ref fGlue) = true)
    (lGlue : K.lookup fGlue = some ⟨ocGlue, odGlue, .func (PySem.W.fnOf "glue" "Lots.glue" (defArgs sGlue) (defBody sGlue) (defScope sGlue) .none kVGlue dcGlue pmGlue anGlue cdGlue ctGlue), slGlue⟩)
    (cGlue : PySem.W.codeIn K cdGlue "Lots.glue" = true) (kGlue : PySem.W.keepIn K (.ref fGlue) = true)
    (aCls : PySem.W.findIn K (.ref CL) "classes" = some (some (.ref fCls)))
    (iCls : PySem.W.isFn K (.ref fCls) = true)
    (lCls : K.lookup fCls = some ⟨ocCls, odCls, .func (PySem.W.fnOf "classes" "Lots.classes" (defArgs sClasses) (defBody sClasses) (defScope sClasses) .none kVCls dcCls pmCls anCls cdCls ctCls), slCls⟩)
    (cCls : PySem.W.codeIn K cdCls "Lots.classes" = true) (kCls : PySem.W.keepIn K (.ref fCls) = true)
    (aWI : PySem.W.findIn K (.ref CW) "__init__" = some (some (.ref fWI)))
    (iWI : PySem.W.isFn K (.ref fWI) = true)
    (lWI : K.lookup fWI = some ⟨ocWI, odWI, .func (PySem.W.fnOf "__init__" "Word.__init__" (defArgs sWordInit) (defBody sWordInit) (defScope sWordInit) .none kVWI dcWI pmWI anWI cdWI ctWI), slWI⟩)
    (cWI : PySem.W.codeIn K cdWI "Word.__init__" = true) (kWI : PySem.W.keepIn K (.ref fWI) = true)
    (aMul : PySem.W.findIn K (.ref CW) "__mul__" = some (some (.ref fMul)))
    (iMul : PySem.W.isFn K (.ref fMul) = true)
    (lMul : K.lookup fMul = some ⟨ocMul, odMul, .func (PySem.W.fnOf "__mul__" "Word.__mul__" (defArgs K94.sMul) (defBody K94.sMul) (defScope K94.sMul) .none kVMul dcMul pmMul anMul cdMul ctMul), slMul⟩)
    (cMul : PySem.W.codeIn K cdMul "Word.__mul__" = true) (kMul : PySem.W.keepIn K (.ref fMul) = true)
    (aInv : PySem.W.findIn K (.ref CW) "__invert__" = some (some (.ref fInv)))
    (iInv : PySem.W.isFn K (.ref fInv) = true)
    (lInv : K.lookup fInv = some ⟨ocInv, odInv, .func (PySem.W.fnOf "__invert__" "Word.__invert__" (defArgs K94.sInv) (defBody K94.sInv) (defScope K94.sInv) .none kVInv dcInv pmInv anInv cdInv ctInv), slInv⟩)
    (cInv : PySem.W.codeIn K cdInv "Word.__invert__" = true) (kInv : PySem.W.keepIn K (.ref fInv) = true)
    (aLen : PySem.W.findIn K (.ref CW) "__len__" = some (some (.ref fLen)))
    (iLen : PySem.W.isFn K (.ref fLen) = true)
    (lLen : K.lookup fLen = some ⟨ocLen, odLen, .func (PySem.W.fnOf "__len__" "Word.__len__" (defArgs K94.sLen) (defBody K94.sLen) (defScope K94.sLen) .none kVLen dcLen pmLen anLen cdLen ctLen), slLen⟩)
    (cLen : PySem.W.codeIn K cdLen "Word.__len__" = true) (kLen : PySem.W.keepIn K (.ref fLen) = true)
    (aComm : PySem.W.findIn K (.ref CW) "commutator" = some (some (.ref fComm)))
    (iComm : PySem.W.isFn K (.ref fComm) = true)
    (lComm : K.lookup fComm = some ⟨ocComm, odComm, .func (PySem.W.fnOf "commutator" "Word.commutator" (defArgs sComm) (defBody sComm) (defScope sComm) .none kVComm dcComm pmComm anComm cdComm ctComm), slComm⟩)
    (cComm : PySem.W.codeIn K cdComm "Word.commutator" = true) (kComm : PySem.W.keepIn K (.ref fComm) = true)
    (aBal : PySem.W.findIn K (.ref CW) "balanced" = some (some (.ref fBal)))
    (iBal : PySem.W.isFn K (.ref fBal) = true)
    (lBal : K.lookup fBal = some ⟨ocBal, odBal, .func (PySem.W.fnOf "balanced" "Word.balanced" (defArgs sBal) (defBody sBal) (defScope sBal) .none kVBal dcBal pmBal anBal cdBal ctBal), slBal⟩)
    (cBal : PySem.W.codeIn K cdBal "Word.balanced" = true) (kBal : PySem.W.keepIn K (.ref fBal) = true)
    (pgCL : PySem.W.plainGet K CL Str.empty = true) (hdCL : PySem.W.hasDictIn K CL = true) (poCL : PySem.W.plainOver K CL = true) (saCL : PySem.W.findIn K (.ref CL) "__setattr__" = some (some (.builtin "object.__setattr__"))) (mkCL : PySem.W.makesIn K CL = true) (kcCL : PySem.W.keepIn K (.ref CL) = true) (noCL : PySem.W.findIn K (.ref CL) "above" = some none)
    (pgCW : PySem.W.plainGet K CW Str.empty = true) (hdCW : PySem.W.hasDictIn K CW = true) (poCW : PySem.W.plainOver K CW = true) (saCW : PySem.W.findIn K (.ref CW) "__setattr__" = some (some (.builtin "object.__setattr__"))) (mkCW : PySem.W.makesIn K CW = true) (kcCW : PySem.W.keepIn K (.ref CW) = true) (noCW : PySem.W.findIn K (.ref CW) "letters" = some none)
    (own : PySem.W.selfFirst K CW = true)
    (zlen : PySem.W.nsIn K mainGlobals "len" = some none)
    (zrange : PySem.W.nsIn K mainGlobals "range" = some none)
    (zlist : PySem.W.nsIn K mainGlobals "list" = some none)
    (ztuple : PySem.W.nsIn K mainGlobals "tuple" = some none)
    (zsorted : PySem.W.nsIn K mainGlobals "sorted" = some none)
    (zabs : PySem.W.nsIn K mainGlobals "abs" = some none)
    (zint : PySem.W.nsIn K mainGlobals "int" = some none)
    (zmin : PySem.W.nsIn K mainGlobals "min" = some none)
    (zreversed : PySem.W.nsIn K mainGlobals "reversed" = some none)
    (zisinstance : PySem.W.nsIn K mainGlobals "isinstance" = some none)
    (zbool : PySem.W.nsIn K mainGlobals "bool" = some none)
    (zstr : PySem.W.nsIn K mainGlobals "str" = some none)
    (zdict : PySem.W.nsIn K mainGlobals "dict" = some none)
    (zsuper : PySem.W.nsIn K mainGlobals "super" = some none)
    (vKinds : PySem.W.nsIn K mainGlobals "MOST_KINDS" = some (some (.int 4 tk)))
    (vLetters : PySem.W.nsIn K mainGlobals "MOST_LETTERS" = some (some (.int 200 tl)))
    (vSides : PySem.W.nsIn K mainGlobals "MOST_SIDES" = some (some (.int 12 ts)))
    (xL : K.lookup CT = some (excClassObj nm q CT N bs [.ref B1, .ref B2, .type "ValueError", .type "Exception", .type "BaseException", .type "object"] true sn sub ab col dd m0 m1 m2 m3 m5 "ValueError.__new__"))
    (tsa : PySem.W.findIn K (.ref CT) "__setattr__" = some (some (.builtin "object.__setattr__")))
    (tga : PySem.W.findIn K (.ref CT) "__getattribute__" = some (some (.builtin "BaseException.__getattribute__")))
    (tgg : PySem.W.findIn K (.ref CT) "__getattr__" = some none)
    (tnw : PySem.W.findIn K (.ref CT) "what" = some none)
    (tnl : PySem.W.findIn K (.ref CT) "limit" = some none)
    (tai : PySem.W.findIn K (.ref CT) "__init__" = some (some (.ref fTI)))
    (tti : PySem.W.typeIn K (.ref fTI) = some (.type "function"))
    (tl1 : K.lookup fTI = some ⟨oc, od, .func (PySem.W.ksFn "__init__" "TooLarge.__init__" (defArgs sTI) (defBody sTI) (defScope sTI) .none .none dcT pmT anT (.ref cda) ctT cc), osl⟩)
    (tc1 : PySem.W.codeIn K (.ref cda) "TooLarge.__init__" = true)
    (tcc : K.lookup cc = some ⟨cl, cld, .cell (some (.ref CT)), csl⟩)
    (tcd : K.lookup cda = some ⟨ccl, cdd, .fields vs, ccs⟩)
    (tvs : vs[2]? = some (.str file tf))
    (tfi : ((l.prog.main.file : Str) == file) = true)
    (ttp : (l.prog.main.scope.names.lookup ("super" : Str)).isSome = false)
    (tkC : PySem.W.keepIn K (.ref CT) = true)
    (teC : PySem.W.subIn K (.ref CT) (.type "BaseException") = some true)
    (ttC : PySem.W.typeIn K (.ref CT) = some (.type "type"))
    (thC : PySem.W.hasDictIn K CT = true)
    (tiC : PySem.W.isClsIn K CT = true)
    (tsC : PySem.W.subIn K (.ref CT) (.ref CT) = some true)
    (tmr : PySem.W.mroIn K CT (.ref CT) = some true)
    (tVE : PySem.W.subIn K (.ref CT) (.type "ValueError") = some true)
    (tpq : PySem.W.nsIn K cStatics "thirdparty.any" = some none)
    (tsm : PySem.W.ks_superIn K CT CT "__init__" = some (some (.builtin "ValueError.__init__"))) :
    ∃ fd : FuncData, (∀ (s : Shared) (v : Value), BindsTo s fd ⟨[v], []⟩ [("_law_script", v)]) ∧ ∀ base : Heap, K.In base → base.Ns mainGlobals mg → FnOk l.prog w K mg base CX0 9 fa fd ["_law_script"] (spLaw K) := by
  have e := hfa.symm.trans (PySem.W.mg_of X G aLaw)
  cases e
  have FLeft := fun_mk (st := sLeft) lLeft cLeft kLeft
  have bLeft := FLeft.binds (ps := ["many", "gluing"]) fun _ _ _ _ _ _ us hl => match us, hl with | [_, _], _ => rfl
  have FGls := fun_mk (st := sGluings) lGls cGls kGls
  have bGls := FGls.binds (ps := ["word"]) fun _ _ _ _ _ _ us hl => match us, hl with | [_], _ => rfl
  have FCor := fun_mk (st := sCorners) lCor cCor kCor
  have bCor := FCor.binds (ps := ["many", "gluing"]) fun _ _ _ _ _ _ us hl => match us, hl with | [_, _], _ => rfl
  have FHan := fun_mk (st := sHandles) lHan cHan kHan
  have bHan := FHan.binds (ps := ["many", "gluing"]) fun _ _ _ _ _ _ us hl => match us, hl with | [_, _], _ => rfl
  have FFirst := fun_mk (st := sFirst) lFirst cFirst kFirst
  have bFirst := FFirst.binds (ps := ["word"]) fun _ _ _ _ _ _ us hl => match us, hl with | [_], _ => rfl
  have FLeast := fun_mk (st := sLeast) lLeast cLeast kLeast
  have bLeast := FLeast.binds (ps := ["word"]) fun _ _ _ _ _ _ us hl => match us, hl with | [_], _ => rfl
  have FBest := fun_mk (st := sBest) lBest cBest kBest
  have bBest := FBest.binds (ps := ["word"]) fun _ _ _ _ _ _ us hl => match us, hl with | [_], _ => rfl
  have FShort := fun_mk (st := sShort) lShort cShort kShort
  have bShort := FShort.binds (ps := ["letters"]) fun _ _ _ _ _ _ us hl => match us, hl with | [_], _ => rfl
  have FOpp := fun_mk (st := sOpp) lOpp cOpp kOpp
  have bOpp := FOpp.binds (ps := ["letters"]) fun _ _ _ _ _ _ us hl => match us, hl with | [_], _ => rfl
  have FCell := fun_mk (st := sCell) lCell cCell kCell
  have bCell := FCell.binds (ps := ["_law_script", "_law_k"]) fun _ _ _ _ _ _ us hl => match us, hl with | [_, _], _ => rfl
  have FDraws := fun_mk (st := sDraws) lDraws cDraws kDraws
  have bDraws := FDraws.binds (ps := ["_law_cell_here", "_law_many"]) fun _ _ _ _ _ _ us hl => match us, hl with | [_, _], _ => rfl
  have FSame := fun_mk (st := sSame) lSame cSame kSame
  have bSame := FSame.binds (ps := ["_law_actual", "_law_due"]) fun _ _ _ _ _ _ us hl => match us, hl with | [_, _], _ => rfl
  have FNum := fun_mk (st := sIsNum) lNum cNum kNum
  have bNum := FNum.binds (ps := ["_law_actual", "_law_due"]) fun _ _ _ _ _ _ us hl => match us, hl with | [_, _], _ => rfl
  have FSgn := fun_mk (st := sSigned) lSgn cSgn kSgn
  have bSgn := FSgn.binds (ps := ["_law_draws_here", "_law_kinds"]) fun _ _ _ _ _ _ us hl => match us, hl with | [_, _], _ => rfl
  have FLSh := fun_mk (st := sLShort) lLSh cLSh kLSh
  have bLSh := FLSh.binds (ps := ["_law_row", "_law_draw"]) fun _ _ _ _ _ _ us hl => match us, hl with | [_, _], _ => rfl
  have FLOp := fun_mk (st := sLOpp) lLOp cLOp kLOp
  have bLOp := FLOp.binds (ps := ["_law_row"]) fun _ _ _ _ _ _ us hl => match us, hl with | [_], _ => rfl
  have FLCo := fun_mk (st := sLCor) lLCo cLCo kLCo
  have bLCo := FLCo.binds (ps := ["_law_many", "_law_pairs"]) fun _ _ _ _ _ _ us hl => match us, hl with | [_, _], _ => rfl
  have FFed := fun_mk (st := sFed) lFed cFed kFed
  have bFed := FFed.binds (ps := ["_law_script", "_law_draws_here"]) fun _ _ _ _ _ _ us hl => match us, hl with | [_, _], _ => rfl
  have FSiz := fun_mk (st := sSizes) lSiz cSiz kSiz
  have bSiz := FSiz.binds (ps := ["_law_draws_here", "_law_many", "_law_full"]) fun _ _ _ _ _ _ us hl => match us, hl with | [_, _, _], _ => rfl
  have FRgt := fun_mk (st := sRight) lRgt cRgt kRgt
  have bRgt := FRgt.binds (ps := ["_law_row", "_law_gluing"]) fun _ _ _ _ _ _ us hl => match us, hl with | [_, _], _ => rfl
  have FLHa := fun_mk (st := sLHan) lLHa cLHa kLHa
  have bLHa := FLHa.binds (ps := ["_law_row", "_law_gluing"]) fun _ _ _ _ _ _ us hl => match us, hl with | [_, _], _ => rfl
  have FLLe := fun_mk (st := sLLeast) lLLe cLLe kLLe
  have bLLe := FLLe.binds (ps := ["_law_word", "_law_row"]) fun _ _ _ _ _ _ us hl => match us, hl with | [_, _], _ => rfl
  have FRef := fun_mk (st := sRefus) lRef cRef kRef
  have bRef := FRef.binds (ps := ["_law_word"]) fun _ _ _ _ _ _ us hl => match us, hl with | [_], _ => rfl
  have FLaw := fun_mk (st := sLaw) lLaw cLaw kLaw
  have bLaw := FLaw.binds (ps := ["_law_script"]) fun _ _ _ _ _ _ us hl => match us, hl with | [_], _ => rfl
  have FLI := fun_mk (st := K94.sLotsInit) lLI cLI kLI
  have bLI := FLI.binds (ps := ["self", "many"]) fun _ _ _ _ _ _ us hl => match us, hl with | [_, _], _ => rfl
  have FRoot := fun_mk (st := K94.sRoot) lRoot cRoot kRoot
  have bRoot := FRoot.binds (ps := ["self", "at"]) fun _ _ _ _ _ _ us hl => match us, hl with | [_, _], _ => rfl
  have FGlue := fun_mk (st := K94.sGlue) lGlue cGlue kGlue
  have bGlue := FGlue.binds (ps := ["self", "one", "other"]) fun _ _ _ _ _ _ us hl => match us, hl with | [_, _, _], _ => rfl
  have FCls := fun_mk (st := K94.sClasses) lCls cCls kCls
  have bCls := FCls.binds (ps := ["self"]) fun _ _ _ _ _ _ us hl => match us, hl with | [_], _ => rfl
  have FWI := fun_mk (st := K94.sWordInit) lWI cWI kWI
  have bWI := FWI.binds (ps := ["self", "letters"]) fun _ _ _ _ _ _ us hl => match us, hl with | [_, _], _ => rfl
  have FMul := fun_mk (st := K94.sMul) lMul cMul kMul
  have bMul := FMul.binds (ps := ["self", "other"]) fun _ _ _ _ _ _ us hl => match us, hl with | [_, _], _ => rfl
  have FInv := fun_mk (st := K94.sInv) lInv cInv kInv
  have bInv := FInv.binds (ps := ["self"]) fun _ _ _ _ _ _ us hl => match us, hl with | [_], _ => rfl
  have FLen := fun_mk (st := K94.sLen) lLen cLen kLen
  have bLen := FLen.binds (ps := ["self"]) fun _ _ _ _ _ _ us hl => match us, hl with | [_], _ => rfl
  have FComm := fun_mk (st := K94.sComm) lComm cComm kComm
  have bComm := FComm.binds (ps := ["self", "other"]) fun _ _ _ _ _ _ us hl => match us, hl with | [_, _], _ => rfl
  have FBal := fun_mk (st := K94.sBal) lBal cBal kBal
  have bBal := FBal.binds (ps := ["self"]) fun _ _ _ _ _ _ us hl => match us, hl with | [_], _ => rfl
  have T : Txt K mg CL CW := { clL := ⟨pgCL, hdCL, poCL, saCL⟩, nA := noCL, clW := ⟨pgCW, hdCW, poCW, saCW⟩, nL := noCW, mgL := PySem.W.mg_of X G aCL, mgW := PySem.W.mg_of X G aCW, len := PySem.W.mg_none_of X G zlen, range := PySem.W.mg_none_of X G zrange, list := PySem.W.mg_none_of X G zlist, tuple := PySem.W.mg_none_of X G ztuple, sorted := PySem.W.mg_none_of X G zsorted, abs := PySem.W.mg_none_of X G zabs, int := PySem.W.mg_none_of X G zint, min := PySem.W.mg_none_of X G zmin, reversed := PySem.W.mg_none_of X G zreversed, isinstance := PySem.W.mg_none_of X G zisinstance, bool := PySem.W.mg_none_of X G zbool, str := PySem.W.mg_none_of X G zstr, dict := PySem.W.mg_none_of X G zdict, kinds := ⟨tk, PySem.W.mg_of X G vKinds⟩, letters := ⟨tl, PySem.W.mg_of X G vLetters⟩, sides := ⟨ts, PySem.W.mg_of X G vSides⟩ }
  have TC : TooC l.prog K mg CT fTI (PySem.W.ksFn "__init__" "TooLarge.__init__" (defArgs sTI) (defBody sTI) (defScope sTI) .none .none dcT pmT anT (.ref cda) ctT cc) :=
    { gC := PySem.W.mg_of X G aCT, oex := ⟨⟨nm, q, N, bs, _, sn, sub, ab, col, dd, m0, m1, m2, m3, m5, xL, rfl⟩, tsa, teC, ttC, tkC⟩, noW := tnw, noL := tnl, ga := tga, gg := tgg, iC := tai, tI := tti, hdC := thC, te := exm_self teC tiC ttC tsC, sup := PySem.W.mg_none_of X G zsuper, opq := tpq, hm := tsm, hB := tVE, hsub := tmr, top := ttp,
      fn := ⟨oc, od, dcT, pmT, anT, cda, cc, ctT, osl, cl, cld, csl, ccl, cdd, vs, ccs, file, tf, rfl, tl1, tc1, tcc, tcd, tvs, tfi⟩ }
  have bTI : L2.Binds K (PySem.W.ksFn "__init__" "TooLarge.__init__" (defArgs sTI) (defBody sTI) (defScope sTI) .none .none dcT pmT anT (.ref cda) ctT cc) ["self", "what", "limit"] [] :=
    .all fun us hl => match us, hl with | [_, _, _], _ => rfl
  let O : Too l.prog K mg := ⟨CT, fTI, _, TC, bTI⟩
  let D : Defs K mg := { CL := CL, CW := CW, T := T, fLeft := _, dLeft := _, FLeft := FLeft, bLeft := bLeft, gLeft := PySem.W.mg_of X G aLeft, fGls := _, dGls := _, FGls := FGls, bGls := bGls, gGls := PySem.W.mg_of X G aGls, fCor := _, dCor := _, FCor := FCor, bCor := bCor, gCor := PySem.W.mg_of X G aCor, fHan := _, dHan := _, FHan := FHan, bHan := bHan, gHan := PySem.W.mg_of X G aHan, fFirst := _, dFirst := _, FFirst := FFirst, bFirst := bFirst, gFirst := PySem.W.mg_of X G aFirst, fLeast := _, dLeast := _, FLeast := FLeast, bLeast := bLeast, gLeast := PySem.W.mg_of X G aLeast, fBest := _, dBest := _, FBest := FBest, bBest := bBest, gBest := PySem.W.mg_of X G aBest, fShort := _, dShort := _, FShort := FShort, bShort := bShort, gShort := PySem.W.mg_of X G aShort, fOpp := _, dOpp := _, FOpp := FOpp, bOpp := bOpp, gOpp := PySem.W.mg_of X G aOpp, fCell := _, dCell := _, FCell := FCell, bCell := bCell, gCell := PySem.W.mg_of X G aCell, fDraws := _, dDraws := _, FDraws := FDraws, bDraws := bDraws, gDraws := PySem.W.mg_of X G aDraws, fSame := _, dSame := _, FSame := FSame, bSame := bSame, gSame := PySem.W.mg_of X G aSame, fNum := _, dNum := _, FNum := FNum, bNum := bNum, gNum := PySem.W.mg_of X G aNum, fSgn := _, dSgn := _, FSgn := FSgn, bSgn := bSgn, gSgn := PySem.W.mg_of X G aSgn, fLSh := _, dLSh := _, FLSh := FLSh, bLSh := bLSh, gLSh := PySem.W.mg_of X G aLSh, fLOp := _, dLOp := _, FLOp := FLOp, bLOp := bLOp, gLOp := PySem.W.mg_of X G aLOp, fLCo := _, dLCo := _, FLCo := FLCo, bLCo := bLCo, gLCo := PySem.W.mg_of X G aLCo, fFed := _, dFed := _, FFed := FFed, bFed := bFed, gFed := PySem.W.mg_of X G aFed, fSiz := _, dSiz := _, FSiz := FSiz, bSiz := bSiz, gSiz := PySem.W.mg_of X G aSiz, fRgt := _, dRgt := _, FRgt := FRgt, bRgt := bRgt, gRgt := PySem.W.mg_of X G aRgt, fLHa := _, dLHa := _, FLHa := FLHa, bLHa := bLHa, gLHa := PySem.W.mg_of X G aLHa, fLLe := _, dLLe := _, FLLe := FLLe, bLLe := bLLe, gLLe := PySem.W.mg_of X G aLLe, fRef := _, dRef := _, FRef := FRef, bRef := bRef, gRef := PySem.W.mg_of X G aRef, fLaw := _, dLaw := _, FLaw := FLaw, bLaw := bLaw, gLaw := PySem.W.mg_of X G aLaw, fLI := _, dLI := _, FLI := FLI, bLI := bLI, MLI := ⟨mkCL, aLI, iLI, kcCL⟩, fRoot := _, dRoot := _, FRoot := FRoot, bRoot := bRoot, mRoot := ⟨aRoot, iRoot, kRoot⟩, fGlue := _, dGlue := _, FGlue := FGlue, bGlue := bGlue, mGlue := ⟨aGlue, iGlue, kGlue⟩, fCls := _, dCls := _, FCls := FCls, bCls := bCls, mCls := ⟨aCls, iCls, kCls⟩, fWI := _, dWI := _, FWI := FWI, bWI := bWI, MWI := ⟨mkCW, aWI, iWI, kcCW⟩, fMul := _, dMul := _, FMul := FMul, bMul := bMul, sMul := aMul, iMul := iMul, fInv := _, dInv := _, FInv := FInv, bInv := bInv, sInv := aInv, iInv := iInv, fLen := _, dLen := _, FLen := FLen, bLen := bLen, sLen := aLen, iLen := iLen, fComm := _, dComm := _, FComm := FComm, bComm := bComm, mComm := ⟨aComm, iComm, kComm⟩, fBal := _, dBal := _, FBal := FBal, bBal := bBal, mBal := ⟨aBal, iBal, kBal⟩, own := own }
  exact ⟨_, fun s v => .of_eq rfl, fun base _ _ => okLaw D O⟩
theorem walk {l : PySem.W.OpenLaw} {q : Program} {loose : List Str} {XP : (Str → Option Value) → Heap → Prop} {YP : World → Heap → Prop} {d : DefRec} {K : Params → PySem.W.Frag} (hn : l.most = some 63) (hdf : d.params.defaults = [])
    (hY : ∀ (w : World) (h : Heap), YP w h → (K w.params).In h)
    (F : ∀ (w : World) (mg : Str → Option Value) (fa : Addr) (h : Heap), (K w.params).In h → h.Ns mainGlobals mg → mg d.name = some (.ref fa) →
      ∃ fd : FuncData, (∀ (s : Shared) (u : Value), BindsTo s fd ⟨[u], []⟩ [("_law_script", u)]) ∧ ∀ base : Heap, (K w.params).In base → base.Ns mainGlobals mg → FnOk l.prog w (K w.params) mg base CX0 9 fa fd ["_law_script"] (spLaw (K w.params))) :
    PySem.W.WalkO q loose XP YP l.row.toRowW d [] (fun f vs => PySem.call f vs) :=
  L2.walk_of (n := 63) (k := 9) (x := "_law_script") (CX := fun _ => CX0) (sp := fun w => spLaw (K w.params)) hn (by decide) hdf ⟨rfl, by decide, by decide⟩ hY F (fun _ _ a ns hl _ hS => ⟨a, ns, rfl, hS, fun _ => rfl⟩) fun _ _ _ _ _ z => z
end K94
end

-- text TwRow
section
set_option Elab.async false
set_option linter.all false
open PySem PySem.W PyProof.Rows in
set_option maxRecDepth 100000 in
set_option maxHeartbeats 0 in
theorem PySem.Challenge.cw_twiceeach_k94_whole_products_of_commutat_holds : PySem.Challenge.rw_twiceeach_k94_whole_products_of_commutat.Holds := by
  w_on; o_law; k_head; (case hw => w_witness2)
  k_fill
  refine K94.walk (l := PySem.Challenge.rw_twiceeach_k94_whole_products_of_commutat) rfl rfl (fun w h Y => PySem.W.kIn_of Y) ?F
  case F =>
    intro w mg fa h KX G hmg
    refine' K94.all_mk KX G hmg ?aCL ?aCW ?aCT ?aLeft ?lLeft ?cLeft ?kLeft ?aGls ?lGls ?cGls ?kGls ?aCor ?lCor ?cCor ?kCor ?aHan ?lHan ?cHan ?kHan ?aFirst ?lFirst ?cFirst ?kFirst ?aLeast ?lLeast ?cLeast ?kLeast ?aBest ?lBest ?cBest ?kBest ?aShort ?lShort ?cShort ?kShort ?aOpp ?lOpp ?cOpp ?kOpp ?aCell ?lCell ?cCell ?kCell ?aDraws ?lDraws ?cDraws ?kDraws ?aSame ?lSame ?cSame ?kSame ?aNum ?lNum ?cNum ?kNum ?aSgn ?lSgn ?cSgn ?kSgn ?aLSh ?lLSh ?cLSh ?kLSh ?aLOp ?lLOp ?cLOp ?kLOp ?aLCo ?lLCo ?cLCo ?kLCo ?aFed ?lFed ?cFed ?kFed ?aSiz ?lSiz ?cSiz ?kSiz ?aRgt ?lRgt ?cRgt ?kRgt ?aLHa ?lLHa ?cLHa ?kLHa ?aLLe ?lLLe ?cLLe ?kLLe ?aRef ?lRef ?cRef ?kRef ?aLaw ?lLaw ?cLaw ?kLaw ?aLI ?iLI ?lLI ?cLI ?kLI ?aRoot ?iRoot ?lRoot ?cRoot ?kRoot ?aGlue ?iGlue ?lGlue ?cGlue ?kGlue ?aCls ?iCls ?lCls ?cCls ?kCls ?aWI ?iWI ?lWI ?cWI ?kWI ?aMul ?iMul ?lMul ?cMul ?kMul ?aInv ?iInv ?lInv ?cInv ?kInv ?aLen ?iLen ?lLen ?cLen ?kLen ?aComm ?iComm ?lComm ?cComm ?kComm ?aBal ?iBal ?lBal ?cBal ?kBal ?pgCL ?hdCL ?poCL ?saCL ?mkCL ?kcCL ?noCL ?pgCW ?hdCW ?poCW ?saCW ?mkCW ?kcCW ?noCW ?own ?zlen ?zrange ?zlist ?ztuple ?zsorted ?zabs ?zint ?zmin ?zreversed ?zisinstance ?zbool ?zstr ?zdict ?zsuper ?vKinds ?vLetters ?vSides ?xL ?tsa ?tga ?tgg ?tnw ?tnl ?tai ?tti ?tl1 ?tc1 ?tcc ?tcd ?tvs ?tfi ?ttp ?tkC ?teC ?ttC ?thC ?tiC ?tsC ?tmr ?tVE ?tpq ?tsm
    (case aCL => first | k_is | rfl | decide +kernel)
    (case aCW => first | k_is | rfl | decide +kernel)
    (case aCT => first | k_is | rfl | decide +kernel)
    (case aLeft => first | k_is | rfl | decide +kernel)
    (case lLeft => first | k_is | rfl | decide +kernel)
    (case cLeft => first | k_is | rfl | decide +kernel)
    (case kLeft => first | k_is | rfl | decide +kernel)
    (case aGls => first | k_is | rfl | decide +kernel)
    (case lGls => first | k_is | rfl | decide +kernel)
    (case cGls => first | k_is | rfl | decide +kernel)
    (case kGls => first | k_is | rfl | decide +kernel)
    (case aCor => first | k_is | rfl | decide +kernel)
    (case lCor => first | k_is | rfl | decide +kernel)
    (case cCor => first | k_is | rfl | decide +kernel)
    (case kCor => first | k_is | rfl | decide +kernel)
    (case aHan => first | k_is | rfl | decide +kernel)
    (case lHan => first | k_is | rfl | decide +kernel)
    (case cHan => first | k_is | rfl | decide +kernel)
    (case kHan => first | k_is | rfl | decide +kernel)
    (case aFirst => first | k_is | rfl | decide +kernel)
    (case lFirst => first | k_is | rfl | decide +kernel)
    (case cFirst => first | k_is | rfl | decide +kernel)
    (case kFirst => first | k_is | rfl | decide +kernel)
    (case aLeast => first | k_is | rfl | decide +kernel)
    (case lLeast => first | k_is | rfl | decide +kernel)
    (case cLeast => first | k_is | rfl | decide +kernel)
    (case kLeast => first | k_is | rfl | decide +kernel)
    (case aBest => first | k_is | rfl | decide +kernel)
    (case lBest => first | k_is | rfl | decide +kernel)
    (case cBest => first | k_is | rfl | decide +kernel)
    (case kBest => first | k_is | rfl | decide +kernel)
    (case aShort => first | k_is | rfl | decide +kernel)
    (case lShort => first | k_is | rfl | decide +kernel)
    (case cShort => first | k_is | rfl | decide +kernel)
    (case kShort => first | k_is | rfl | decide +kernel)
    (case aOpp => first | k_is | rfl | decide +kernel)
    (case lOpp => first | k_is | rfl | decide +kernel)
    (case cOpp => first | k_is | rfl | decide +kernel)
    (case kOpp => first | k_is | rfl | decide +kernel)
    (case aCell => first | k_is | rfl | decide +kernel)
    (case lCell => first | k_is | rfl | decide +kernel)
    (case cCell => first | k_is | rfl | decide +kernel)
    (case kCell => first | k_is | rfl | decide +kernel)
    (case aDraws => first | k_is | rfl | decide +kernel)
    (case lDraws => first | k_is | rfl | decide +kernel)
    (case cDraws => first | k_is | rfl | decide +kernel)
    (case kDraws => first | k_is | rfl | decide +kernel)
    (case aSame => first | k_is | rfl | decide +kernel)
    (case lSame => first | k_is | rfl | decide +kernel)
    (case cSame => first | k_is | rfl | decide +kernel)
    (case kSame => first | k_is | rfl | decide +kernel)
    (case aNum => first | k_is | rfl | decide +kernel)
    (case lNum => first | k_is | rfl | decide +kernel)
    (case cNum => first | k_is | rfl | decide +kernel)
    (case kNum => first | k_is | rfl | decide +kernel)
    (case aSgn => first | k_is | rfl | decide +kernel)
    (case lSgn => first | k_is | rfl | decide +kernel)
    (case cSgn => first | k_is | rfl | decide +kernel)
    (case kSgn => first | k_is | rfl | decide +kernel)
    (case aLSh => first | k_is | rfl | decide +kernel)
    (case lLSh => first | k_is | rfl | decide +kernel)
    (case cLSh => first | k_is | rfl | decide +kernel)
    (case kLSh => first | k_is | rfl | decide +kernel)
    (case aLOp => first | k_is | rfl | decide +kernel)
    (case lLOp => first | k_is | rfl | decide +kernel)
    (case cLOp => first | k_is | rfl | decide +kernel)
    (case kLOp => first | k_is | rfl | decide +kernel)
    (case aLCo => first | k_is | rfl | decide +kernel)
    (case lLCo => first | k_is | rfl | decide +kernel)
    (case cLCo => first | k_is | rfl | decide +kernel)
    (case kLCo => first | k_is | rfl | decide +kernel)
    (case aFed => first | k_is | rfl | decide +kernel)
    (case lFed => first | k_is | rfl | decide +kernel)
    (case cFed => first | k_is | rfl | decide +kernel)
    (case kFed => first | k_is | rfl | decide +kernel)
    (case aSiz => first | k_is | rfl | decide +kernel)
    (case lSiz => first | k_is | rfl | decide +kernel)
    (case cSiz => first | k_is | rfl | decide +kernel)
    (case kSiz => first | k_is | rfl | decide +kernel)
    (case aRgt => first | k_is | rfl | decide +kernel)
    (case lRgt => first | k_is | rfl | decide +kernel)
    (case cRgt => first | k_is | rfl | decide +kernel)
    (case kRgt => first | k_is | rfl | decide +kernel)
    (case aLHa => first | k_is | rfl | decide +kernel)
    (case lLHa => first | k_is | rfl | decide +kernel)
    (case cLHa => first | k_is | rfl | decide +kernel)
    (case kLHa => first | k_is | rfl | decide +kernel)
    (case aLLe => first | k_is | rfl | decide +kernel)
    (case lLLe => first | k_is | rfl | decide +kernel)
    (case cLLe => first | k_is | rfl | decide +kernel)
    (case kLLe => first | k_is | rfl | decide +kernel)
    (case aRef => first | k_is | rfl | decide +kernel)
    (case lRef => first | k_is | rfl | decide +kernel)
    (case cRef => first | k_is | rfl | decide +kernel)
    (case kRef => first | k_is | rfl | decide +kernel)
    (case aLaw => first | k_is | rfl | decide +kernel)
    (case lLaw => first | k_is | rfl | decide +kernel)
    (case cLaw => first | k_is | rfl | decide +kernel)
    (case kLaw => first | k_is | rfl | decide +kernel)
    (case aLI => first | k_is | rfl | decide +kernel)
    (case iLI => first | k_is | rfl | decide +kernel)
    (case lLI => first | k_is | rfl | decide +kernel)
    (case cLI => first | k_is | rfl | decide +kernel)
    (case kLI => first | k_is | rfl | decide +kernel)
    (case aRoot => first | k_is | rfl | decide +kernel)
    (case iRoot => first | k_is | rfl | decide +kernel)
    (case lRoot => first | k_is | rfl | decide +kernel)
    (case cRoot => first | k_is | rfl | decide +kernel)
    (case kRoot => first | k_is | rfl | decide +kernel)
    (case aGlue => first | k_is | rfl | decide +kernel)
    (case iGlue => first | k_is | rfl | decide +kernel)
    (case lGlue => first | k_is | rfl | decide +kernel)
    (case cGlue => first | k_is | rfl | decide +kernel)
    (case kGlue => first | k_is | rfl | decide +kernel)
    (case aCls => first | k_is | rfl | decide +kernel)
    (case iCls => first | k_is | rfl | decide +kernel)
    (case lCls => first | k_is | rfl | decide +kernel)
    (case cCls => first | k_is | rfl | decide +kernel)
    (case kCls => first | k_is | rfl | decide +kernel)
    (case aWI => first | k_is | rfl | decide +kernel)
    (case iWI => first | k_is | rfl | decide +kernel)
    (case lWI => first | k_is | rfl | decide +kernel)
    (case cWI => first | k_is | rfl | decide +kernel)
    (case kWI => first | k_is | rfl | decide +kernel)
    (case aMul => first | k_is | rfl | decide +kernel)
    (case iMul => first | k_is | rfl | decide +kernel)
    (case lMul => first | k_is | rfl | decide +kernel)
    (case cMul => first | k_is | rfl | decide +kernel)
    (case kMul => first | k_is | rfl | decide +kernel)
    (case aInv => first | k_is | rfl | decide +kernel)
    (case iInv => first | k_is | rfl | decide +kernel)
    (case lInv => first | k_is | rfl | decide +kernel)
    (case cInv => first | k_is | rfl | decide +kernel)
    (case kInv => first | k_is | rfl | decide +kernel)
    (case aLen => first | k_is | rfl | decide +kernel)
    (case iLen => first | k_is | rfl | decide +kernel)
    (case lLen => first | k_is | rfl | decide +kernel)
    (case cLen => first | k_is | rfl | decide +kernel)
    (case kLen => first | k_is | rfl | decide +kernel)
    (case aComm => first | k_is | rfl | decide +kernel)
    (case iComm => first | k_is | rfl | decide +kernel)
    (case lComm => first | k_is | rfl | decide +kernel)
    (case cComm => first | k_is | rfl | decide +kernel)
    (case kComm => first | k_is | rfl | decide +kernel)
    (case aBal => first | k_is | rfl | decide +kernel)
    (case iBal => first | k_is | rfl | decide +kernel)
    (case lBal => first | k_is | rfl | decide +kernel)
    (case cBal => first | k_is | rfl | decide +kernel)
    (case kBal => first | k_is | rfl | decide +kernel)
    (case pgCL => first | k_is | rfl | decide +kernel)
    (case hdCL => first | k_is | rfl | decide +kernel)
    (case poCL => first | k_is | rfl | decide +kernel)
    (case saCL => first | k_is | rfl | decide +kernel)
    (case mkCL => first | k_is | rfl | decide +kernel)
    (case kcCL => first | k_is | rfl | decide +kernel)
    (case noCL => first | k_is | rfl | decide +kernel)
    (case pgCW => first | k_is | rfl | decide +kernel)
    (case hdCW => first | k_is | rfl | decide +kernel)
    (case poCW => first | k_is | rfl | decide +kernel)
    (case saCW => first | k_is | rfl | decide +kernel)
    (case mkCW => first | k_is | rfl | decide +kernel)
    (case kcCW => first | k_is | rfl | decide +kernel)
    (case noCW => first | k_is | rfl | decide +kernel)
    (case own => first | k_is | rfl | decide +kernel)
    (case zlen => first | k_is | rfl | decide +kernel)
    (case zrange => first | k_is | rfl | decide +kernel)
    (case zlist => first | k_is | rfl | decide +kernel)
    (case ztuple => first | k_is | rfl | decide +kernel)
    (case zsorted => first | k_is | rfl | decide +kernel)
    (case zabs => first | k_is | rfl | decide +kernel)
    (case zint => first | k_is | rfl | decide +kernel)
    (case zmin => first | k_is | rfl | decide +kernel)
    (case zreversed => first | k_is | rfl | decide +kernel)
    (case zisinstance => first | k_is | rfl | decide +kernel)
    (case zbool => first | k_is | rfl | decide +kernel)
    (case zstr => first | k_is | rfl | decide +kernel)
    (case zdict => first | k_is | rfl | decide +kernel)
    (case zsuper => first | k_is | rfl | decide +kernel)
    (case vKinds => first | k_is | rfl | decide +kernel)
    (case vLetters => first | k_is | rfl | decide +kernel)
    (case vSides => first | k_is | rfl | decide +kernel)
    (case xL => first | k_is | rfl | decide +kernel)
    (case tsa => first | k_is | rfl | decide +kernel)
    (case tga => first | k_is | rfl | decide +kernel)
    (case tgg => first | k_is | rfl | decide +kernel)
    (case tnw => first | k_is | rfl | decide +kernel)
    (case tnl => first | k_is | rfl | decide +kernel)
    (case tai => first | k_is | rfl | decide +kernel)
    (case tti => first | k_is | rfl | decide +kernel)
    (case tl1 => first | k_is | rfl | decide +kernel)
    (case tc1 => first | k_is | rfl | decide +kernel)
    (case tcc => first | k_is | rfl | decide +kernel)
    (case tcd => first | k_is | rfl | decide +kernel)
    (case tvs => first | k_is | rfl | decide +kernel)
    (case tfi => first | k_is | rfl | decide +kernel)
    (case ttp => first | k_is | rfl | decide +kernel)
    (case tkC => first | k_is | rfl | decide +kernel)
    (case teC => first | k_is | rfl | decide +kernel)
    (case ttC => first | k_is | rfl | decide +kernel)
    (case thC => first | k_is | rfl | decide +kernel)
    (case tiC => first | k_is | rfl | decide +kernel)
    (case tsC => first | k_is | rfl | decide +kernel)
    (case tmr => first | k_is | rfl | decide +kernel)
    (case tVE => first | k_is | rfl | decide +kernel)
    (case tpq => first | k_is | rfl | decide +kernel)
    (case tsm => first | k_is | rfl | decide +kernel)
end
