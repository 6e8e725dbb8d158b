import PyProof.Rows.All
import Wide.All
import OpenK.AllK
import Wide.FinOn
import HandS.ForMost
import HandS.GenList
import KE.LtData
import HandS.Flow
import HandS.Walk
import HandS.Deep
import HandS.TupAny
import HandS.Exc
import HandS.TryOnly
import KE.DataCmp
import HandS.Property
import KE.GoesEnum
import HandS.Iter
import HandS.IsInst
import HandS.List
import HandS.Defaults
import HandS.ClsMeth
import HandS.ExcIs
import HandS.ExcField
import HandS.ExcInit
import KE.KExcIs
import KE.SortData
import HandS.TupSets
import KE.KeyNested
import HandS.Nested
import HandS.ExcSuper
import KE.KExcSuper
import HandS.Head0
import HandS.Head1
import HandS.Head2
import HandS.HeadEnd
import HandS.HeadHook1
import HandS.HeadHook2
import HandS.GenBody
import HandS.GenCall
import HandS.Words
import PySem.Challenge.RW_papersorliars_k03_stands_and_liars
set_option Elab.async false
set_option linter.all false
set_option maxHeartbeats 2000000
set_option autoImplicit false
/-! Sleeping generators are not touched by code that runs well when their continuations are dead ends. -/
namespace Pz
open PySem PyProof.Rows

def toRet : Frame → Frame
  | .gen _ _ l c p => .ret (fun _ => .unsupported "dead end") none false l c p []
  | .ret k h g l c p kp => .ret k h g l c p kp
def mask : GenState → GenState
  | .suspended _ l c p fs cl => .suspended (fun _ => .unsupported "dead end") l c p (fs.map toRet) cl
  | x => x
def asleep : GenState → Bool
  | .suspended .. => true
  | _ => false
theorem toRet_where (F : Frame) : (toRet F).where_ = F.where_ := by cases F <;> rfl
theorem mask_seen (x : GenState) : (mask x).seen = x.seen := by
  cases x with
  | suspended k l c p fs cl =>
    show (GenStatus.suspended, some ((c, p) :: (fs.map toRet).map Frame.where_)) = _
    rw [List.map_map]
    have : (Frame.where_ ∘ toRet) = Frame.where_ := funext toRet_where
    rw [this]; rfl
  | _ => rfl
theorem mask_bare (x : GenState) : (mask x).bare = x.bare := by cases x <;> rfl
theorem split_toRet (fs : List Frame) : splitAtGen (fs.map toRet) = none := by
  induction fs with
  | nil => rfl
  | cons F fs ih => cases F <;> (simp only [List.map_cons, toRet, splitAtGen, ih]; rfl)
/-- the frames of every sleeper hold no generator's frame -/
def Clean (G : Array GenState) : Prop := ∀ (j : Nat) k l c p fs cl, G[j]? = some (GenState.suspended k l c p fs cl) → splitAtGen fs = none
theorem clean_mask (G : Array GenState) : Clean (G.map mask) := by
  intro j k l c p fs cl h
  rw [Array.getElem?_map] at h
  cases e : G[j]? with
  | none => rw [e] at h; cases h
  | some x =>
    rw [e] at h
    cases x with
    | suspended k' l' c' p' fs' cl' =>
      simp only [Option.map_some, mask, Option.some.injEq, GenState.suspended.injEq] at h
      obtain ⟨_, _, _, _, rfl, _⟩ := h
      exact split_toRet fs'
    | _ => simp [mask] at h
def CleanEnd : End → Prop
  | .susp _ _ _ _ _ _ fs => splitAtGen fs = none
  | _ => True

structure Rel (G0 Gp G : Array GenState) : Prop where
  size : Gp.size = G.size
  le : G0.size ≤ G.size
  at_ : ∀ j : Nat, (∃ x : GenState, asleep x = true ∧ G0[j]? = some x ∧ Gp[j]? = some (mask x) ∧ G[j]? = some x) ∨ ((∀ x : GenState, G0[j]? = some x → asleep x = false) ∧ Gp[j]? = G[j]?)
theorem Rel.start (G : Array GenState) : Rel G (G.map mask) G where
  size := by simp
  le := Nat.le_refl _
  at_ := fun j => by
    cases e : G[j]? with
    | none => exact .inr ⟨fun x h => (by cases h), (by rw [Array.getElem?_map, e]; rfl)⟩
    | some x =>
      cases h : asleep x with
      | true => exact .inl ⟨x, h, rfl, (by rw [Array.getElem?_map, e]; rfl), rfl⟩
      | false =>
        refine .inr ⟨fun y hy => ?_, ?_⟩
        · cases hy; exact h
        · rw [Array.getElem?_map, e]
          cases x with
          | suspended => cases h
          | _ => rfl
theorem Rel.set {G0 Gp G : Array GenState} (r : Rel G0 Gp G) {j : Nat} (y : GenState) (h : ∀ x : GenState, G0[j]? = some x → asleep x = false) : Rel G0 (Gp.setIfInBounds j y) (G.setIfInBounds j y) where
  size := by simp [r.size]
  le := by simp [r.le]
  at_ := fun i => by
    by_cases e : i = j
    · subst e
      refine .inr ⟨h, ?_⟩
      rw [Array.getElem?_setIfInBounds, Array.getElem?_setIfInBounds, if_pos rfl, if_pos rfl, r.size]
    · rcases r.at_ i with ⟨x, a, b, c, d⟩ | ⟨a, b⟩
      · exact .inl ⟨x, a, b, by simp only [Array.getElem?_setIfInBounds, if_neg (Ne.symm e)]; exact c, by simp only [Array.getElem?_setIfInBounds, if_neg (Ne.symm e)]; exact d⟩
      · exact .inr ⟨a, by simp only [Array.getElem?_setIfInBounds, if_neg (Ne.symm e)]; exact b⟩
theorem Rel.push {G0 Gp G : Array GenState} (r : Rel G0 Gp G) (y : GenState) : Rel G0 (Gp.push y) (G.push y) where
  size := by simp [r.size]
  le := by have := r.le; simp; omega
  at_ := fun i => by
    rcases r.at_ i with ⟨x, a, b, c, d⟩ | ⟨a, b⟩
    · have h1 : i < Gp.size := (Array.getElem?_eq_some_iff.mp c).1
      have h2 : i < G.size := (Array.getElem?_eq_some_iff.mp d).1
      exact .inl ⟨x, a, b, by rw [Array.getElem?_push, if_neg (by omega)]; exact c, by rw [Array.getElem?_push, if_neg (by omega)]; exact d⟩
    · refine .inr ⟨a, ?_⟩
      rw [Array.getElem?_push, Array.getElem?_push, r.size, b]
/-- who is awake in the masked table is the same in the other -/
theorem Rel.awake {G0 Gp G : Array GenState} (r : Rel G0 Gp G) {j : Nat} {y : GenState} (h : Gp[j]? = some y) (ha : asleep y = false) : G[j]? = some y ∧ ∀ x : GenState, G0[j]? = some x → asleep x = false := by
  rcases r.at_ j with ⟨x, a, b, c, d⟩ | ⟨a, b⟩
  · rw [h] at c; cases c
    cases x <;> simp_all [asleep, mask]
  · exact ⟨b ▸ h, a⟩

theorem no_run {M : Model} {Γ : Ctx} {p : Pos} {t : Sem PySem.Fin} {fs : List Frame} {s s' : Shared} {e : End} (h : Runs M Γ p t fs s e s') : ∀ x, t ≠ .unsupported x := by
  induction h with
  | segRet _ _ ih _ => exact ih
  | segGen _ _ ih _ => exact ih
  | segSuspOut _ _ ih => exact ih
  | segSuspGen _ _ _ _ ih _ => exact ih
  | _ => intro x hx; cases hx

theorem clean_set {G : Array GenState} (h : Clean G) {j : Nat} {y : GenState} (hy : ∀ k l c p fs cl, y = .suspended k l c p fs cl → splitAtGen fs = none) : Clean (G.setIfInBounds j y) := by
  intro i k l c p fs cl e
  rw [Array.getElem?_setIfInBounds] at e
  split at e
  · split at e
    · cases e; exact hy _ _ _ _ _ _ rfl
    · cases e
  · exact h _ _ _ _ _ _ _ e
theorem clean_push {G : Array GenState} (h : Clean G) {y : GenState} (hy : asleep y = false) : Clean (G.push y) := by
  intro i k l c p fs cl e
  rw [Array.getElem?_push] at e
  split at e
  · cases e; cases hy
  · exact h _ _ _ _ _ _ _ e
theorem clean_end {G : Array GenState} (h : Clean G) {j : Nat} {e : End} (he : CleanEnd e) : Clean (G.setIfInBounds j e.genState) := by
  refine clean_set h fun k l c p fs cl q => ?_
  cases e with
  | ret r => cases q
  | susp v g l k c p fs => cases q; exact he

/-- THE FRAME -/
theorem runs_mask {M : Model} {G0 : Array GenState} {Γ : Ctx} {p : Pos} {t : Sem PySem.Fin} {fs : List Frame} {s s' : Shared} {e : End}
    (h : Runs M Γ p t fs s e s') : ∀ G, Rel G0 s.gens G → Clean s.gens → splitAtGen fs = none →
      CleanEnd e ∧ Clean s'.gens ∧ ∃ G', Rel G0 s'.gens G' ∧ Runs M Γ p t fs { s with gens := G } e { s' with gens := G' } := by
  induction h with
  | done => intro G r c f; exact ⟨trivial, c, G, r, .done⟩
  | raise => intro G r c f; exact ⟨trivial, c, G, r, .raise⟩
  | again hq _ ih => intro G r c f; obtain ⟨a, b, G', r', q⟩ := ih G r c f; exact ⟨a, b, G', r', .again hq q⟩
  | rule _ ih => intro G r c f; obtain ⟨a, b, G', r', q⟩ := ih G r c f; exact ⟨a, b, G', r', .rule q⟩
  | «at» _ ih => intro G r c f; obtain ⟨a, b, G', r', q⟩ := ih G r c f; exact ⟨a, b, G', r', .at q⟩
  | load ho _ ih => intro G r c f; obtain ⟨a, b, G', r', q⟩ := ih G r c f; exact ⟨a, b, G', r', .load ho q⟩
  | update ho _ ih => intro G r c f; obtain ⟨a, b, G', r', q⟩ := ih G r c f; exact ⟨a, b, G', r', .update ho q⟩
  | loadIfAlive _ ih => intro G r c f; obtain ⟨a, b, G', r', q⟩ := ih G r c f; exact ⟨a, b, G', r', .loadIfAlive q⟩
  | point _ ih => intro G r c f; obtain ⟨a, b, G', r', q⟩ := ih G r c f; exact ⟨a, b, G', r', .point q⟩
  | alloc _ ih => intro G r c f; obtain ⟨a, b, G', r', q⟩ := ih G r c f; exact ⟨a, b, G', r', .alloc q⟩
  | fresh _ ih => intro G r c f; obtain ⟨a, b, G', r', q⟩ := ih G r c f; exact ⟨a, b, G', r', .fresh q⟩
  | ask _ ih => intro G r c f; obtain ⟨a, b, G', r', q⟩ := ih G r c f; exact ⟨a, b, G', r', .ask q⟩
  | choose hn _ ih => intro G r c f; obtain ⟨a, b, G', r', q⟩ := ih G r c f; exact ⟨a, b, G', r', .choose hn q⟩
  | os _ ih => intro G r c f; obtain ⟨a, b, G', r', q⟩ := ih G r c f; exact ⟨a, b, G', r', .os q⟩
  | handled _ ih => intro G r c f; obtain ⟨a, b, G', r', q⟩ := ih G r c f; exact ⟨a, b, G', r', .handled q⟩
  | stack _ ih => intro G r c f; obtain ⟨a, b, G', r', q⟩ := ih G r c f; exact ⟨a, b, G', r', .stack q⟩
  | thread _ ih => intro G r c f; obtain ⟨a, b, G', r', q⟩ := ih G r c f; exact ⟨a, b, G', r', .thread q⟩
  | genState hst _ ih =>
    intro G r c f
    obtain ⟨a, b, G', r', q⟩ := ih G r c f
    refine ⟨a, b, G', r', ?_⟩
    rcases r.at_ _ with ⟨x, _, _, h2, h3⟩ | ⟨_, h2⟩
    · rw [hst] at h2; cases h2
      rw [mask_seen] at q
      exact .genState h3 q
    · exact .genState (h2 ▸ hst) q
  | newGen _ ih =>
    intro G r c f
    obtain ⟨a, b, G', r', q⟩ := ih _ (r.push _) (clean_push c rfl) f
    refine ⟨a, b, G', r', .newGen ?_⟩
    have e := r.size
    simp only at q ⊢
    rw [← e]
    exact q
  | call _ _ ih1 ih2 =>
    intro G r c f
    obtain ⟨_, b1, G1, r1, q1⟩ := ih1 G r c rfl
    obtain ⟨a, b, G', r', q⟩ := ih2 G1 r1 b1 f
    exact ⟨a, b, G', r', .call q1 q⟩
  | callSusp _ ih =>
    intro G r c f
    obtain ⟨a, b, G', r', q⟩ := ih G r c rfl
    refine ⟨?_, b, G', r', .callSusp q⟩
    show splitAtGen (_ ++ _) = none
    rw [splitAtGen_append_none _ a]; rfl
  | yield => intro G r c f; exact ⟨rfl, c, G, r, .yield⟩
  | resumeFresh hst _ hq _ ih1 ih2 =>
    intro G r c f
    obtain ⟨g1, g0⟩ := r.awake hst rfl
    obtain ⟨a1, b1, G1, r1, q1⟩ := ih1 (G.setIfInBounds _ .running) (r.set _ g0) (clean_set c (fun _ _ _ _ _ _ z => by cases z)) rfl
    obtain ⟨a, b, G', r', q⟩ := ih2 (G1.setIfInBounds _ _) (r1.set _ g0) (clean_end b1 a1) f
    exact ⟨a, b, G', r', .resumeFresh g1 q1 hq q⟩
  | resumeSuspended hst hr hq _ ih1 ih2 =>
    intro G r c f
    have hc := c _ _ _ _ _ _ _ hst
    rcases r.at_ _ with ⟨x, ha, _, h2, _⟩ | ⟨g0, h2⟩
    · rw [hst] at h2
      cases x with
      | suspended k l c p fs cl =>
        simp only [mask, Option.some.injEq, GenState.suspended.injEq] at h2
        obtain ⟨rfl, _⟩ := h2
        exact absurd rfl (no_run hr _)
      | _ => cases ha
    · obtain ⟨a1, b1, G1, r1, q1⟩ := ih1 (G.setIfInBounds _ .running) (r.set _ g0) (clean_set c (fun _ _ _ _ _ _ z => by cases z)) hc
      obtain ⟨a, b, G', r', q⟩ := ih2 (G1.setIfInBounds _ _) (r1.set _ g0) (clean_end b1 a1) f
      exact ⟨a, b, G', r', .resumeSuspended (h2 ▸ hst) q1 hq q⟩
  | resumeJustStarted hst hv _ ih =>
    intro G r c f
    obtain ⟨g1, g0⟩ := r.awake hst rfl
    obtain ⟨a, b, G', r', q⟩ := ih G r c f
    exact ⟨a, b, G', r', .resumeJustStarted g1 hv q⟩
  | resumeThrowFresh hst _ ih =>
    intro G r c f
    obtain ⟨g1, g0⟩ := r.awake hst rfl
    obtain ⟨a, b, G', r', q⟩ := ih (G.setIfInBounds _ .finished) (r.set _ g0) (clean_set c (fun _ _ _ _ _ _ z => by cases z)) f
    exact ⟨a, b, G', r', .resumeThrowFresh g1 q⟩
  | resumeRunning hst _ ih =>
    intro G r c f
    obtain ⟨g1, g0⟩ := r.awake hst rfl
    obtain ⟨a, b, G', r', q⟩ := ih G r c f
    exact ⟨a, b, G', r', .resumeRunning g1 q⟩
  | resumeFinished hst _ ih =>
    intro G r c f
    obtain ⟨g1, g0⟩ := r.awake hst rfl
    obtain ⟨a, b, G', r', q⟩ := ih G r c f
    exact ⟨a, b, G', r', .resumeFinished g1 q⟩
  | segRet _ _ ih1 ih2 =>
    intro G r c f
    obtain ⟨_, b1, G1, r1, q1⟩ := ih1 G r c rfl
    obtain ⟨a, b, G', r', q⟩ := ih2 G1 r1 b1 (Option.map_eq_none_iff.mp f)
    exact ⟨a, b, G', r', .segRet q1 q⟩
  | segGen _ _ ih1 ih2 => intro G r c f; cases f
  | segSuspOut hf _ ih =>
    intro G r c f
    obtain ⟨a, b, G', r', q⟩ := ih G r c rfl
    refine ⟨?_, b, G', r', .segSuspOut hf q⟩
    show splitAtGen (_ ++ _) = none
    rw [splitAtGen_append_none _ a, hf]; rfl
  | segSuspGen hf _ hq _ ih1 ih2 => intro G r c f; rw [hf] at f; cases f

/-- the same of a tree -/
theorem wakes_mask {M : Model} {G0 : Array GenState} {Γ : Ctx} {p : Pos} {g : Nat} {r : Resume} {s s' : Shared} {res : GenResult} {G : Array GenState} (h : Wakes M Γ p g r s res s') (R : Rel G0 s.gens G) (c : Clean s.gens) :
    ∃ G', Rel G0 s'.gens G' ∧ Clean s'.gens ∧ Wakes M Γ p g r { s with gens := G } res { s' with gens := G' } := by
  unfold Wakes at h
  split at h
  · exact h.elim
  · rename_i cc hst
    obtain ⟨g1, g0⟩ := R.awake hst rfl
    split at h
    · obtain ⟨e₁, s₁, hr, hq, rfl, rfl⟩ := h
      obtain ⟨a1, b1, G1, r1, q1⟩ := runs_mask hr (G.setIfInBounds _ .running) (R.set _ g0) (clean_set c (fun _ _ _ _ _ _ z => by cases z)) rfl
      refine ⟨G1.setIfInBounds g e₁.genState, r1.set _ g0, clean_end b1 a1, ?_⟩
      unfold Wakes
      rw [show ({ s with gens := G } : Shared).gens[g]? = some (GenState.fresh cc) from g1]
      exact ⟨e₁, _, q1, hq, rfl, rfl⟩
    · obtain ⟨rfl, rfl⟩ := h
      refine ⟨G, R, c, ?_⟩
      unfold Wakes
      rw [show ({ s' with gens := G } : Shared).gens[g]? = some (GenState.fresh cc) from g1]
      simp_all
    · obtain ⟨rfl, rfl⟩ := h
      refine ⟨G.setIfInBounds g .finished, R.set _ g0, clean_set c (fun _ _ _ _ _ _ z => by cases z), ?_⟩
      unfold Wakes
      rw [show ({ s with gens := G } : Shared).gens[g]? = some (GenState.fresh cc) from g1]
      exact ⟨rfl, rfl⟩
  · rename_i k₀ l₀ c₀ p₀ fs cl hst
    have hc := c _ _ _ _ _ _ _ hst
    obtain ⟨e₁, s₁, hr, hq, rfl, rfl⟩ := h
    rcases R.at_ g with ⟨x, ha, _, h2, _⟩ | ⟨g0, h2⟩
    · rw [hst] at h2
      cases x with
      | suspended k l c p fs cl =>
        simp only [mask, Option.some.injEq, GenState.suspended.injEq] at h2
        obtain ⟨rfl, _⟩ := h2
        exact absurd rfl (no_run hr _)
      | _ => cases ha
    · obtain ⟨a1, b1, G1, r1, q1⟩ := runs_mask hr (G.setIfInBounds _ .running) (R.set _ g0) (clean_set c (fun _ _ _ _ _ _ z => by cases z)) hc
      refine ⟨G1.setIfInBounds g e₁.genState, r1.set _ g0, clean_end b1 a1, ?_⟩
      unfold Wakes
      rw [show ({ s with gens := G } : Shared).gens[g]? = some (GenState.suspended k₀ l₀ c₀ p₀ fs cl) from h2 ▸ hst]
      exact ⟨e₁, _, q1, hq, rfl, rfl⟩
  · rename_i hst
    obtain ⟨rfl, rfl⟩ := h
    obtain ⟨g1, g0⟩ := R.awake hst rfl
    refine ⟨G, R, c, ?_⟩
    unfold Wakes
    rw [show ({ s' with gens := G } : Shared).gens[g]? = some GenState.running from g1]
    exact ⟨rfl, rfl⟩
  · rename_i hst
    obtain ⟨rfl, rfl⟩ := h
    obtain ⟨g1, g0⟩ := R.awake hst rfl
    refine ⟨G, R, c, ?_⟩
    unfold Wakes
    rw [show ({ s' with gens := G } : Shared).gens[g]? = some GenState.finished from g1]
    exact ⟨rfl, rfl⟩

/-- behind a masked run -/
def Un {α : Type} (G0 : Array GenState) (Q : α → Pos → Shared → Prop) : α → Pos → Shared → Prop := fun a p' s' => ∃ s1, Q a p' s1 ∧ Rel G0 s1.gens s'.gens ∧ Clean s1.gens ∧ s' = { s1 with gens := s'.gens }
theorem wp_mask {α : Type} {M : Model} {G0 : Array GenState} {Γ : Ctx} (t : Sem α) : ∀ {Q : α → Pos → Shared → Prop} {E : Value → Pos → Shared → Prop} {p : Pos} {s : Shared} {G : Array GenState},
    Sem.wp M Γ t Q E p s → Rel G0 s.gens G → Clean s.gens → Sem.wp M Γ t (Un G0 Q) (Un G0 E) p { s with gens := G } := by
  induction t with
  | pure a => intro Q E p s G h r c; exact ⟨s, h, r, c, rfl⟩
  | raise e => intro Q E p s G h r c; exact ⟨s, h, r, c, rfl⟩
  | unsupported _ => intro Q E p s G h r c; exact h
  | finish _ => intro Q E p s G h r c; exact h
  | register a k => intro Q E p s G h r c; exact h
  | yield v g l k => intro Q E p s G h r c; exact h
  | fork c k => intro Q E p s G h r c'; exact h
  | await a f d l k => intro Q E p s G h r c; exact h
  | rule tag k ih => intro Q E p s G h r c; exact ih () h r c
  | «at» p' k ih => intro Q E p s G h r c; exact ih () h r c
  | load a part k ih => intro Q E p s G h r c; obtain ⟨o, ho, h⟩ := h; exact ⟨o, ho, ih o h r c⟩
  | update a part f k ih => intro Q E p s G h r c; obtain ⟨ha, h⟩ := h; exact ⟨ha, ih () h r c⟩
  | alloc o k ih => intro Q E p s G h r c; exact ih _ h r c
  | loadIfAlive a k ih => intro Q E p s G h r c; exact ih _ h r c
  | point l k ih => intro Q E p s G h r c; exact ih _ h r c
  | fresh k ih => intro Q E p s G h r c; exact ih _ h r c
  | ask k ih => intro Q E p s G h r c; exact ih _ h r c
  | choose src n k ih => intro Q E p s G h r c; obtain ⟨hn, h⟩ := h; exact ⟨hn, ih _ h r c⟩
  | os q l k ih => intro Q E p s G h r c; exact ih _ h r c
  | call c h g l k ih =>
    intro Q E p s G hw r cl
    obtain ⟨res, s₁, hret, hw⟩ := hw
    obtain ⟨_, b1, G1, r1, q1⟩ := runs_mask hret G r cl rfl
    exact ⟨res, _, q1, ih res hw r1 b1⟩
  | handled own k ih => intro Q E p s G h r c; exact ih _ h r c
  | newGen cc k ih =>
    intro Q E p s G h r c
    have e := r.size
    have h' : Sem.wp M Γ (k s.gens.size) Q E p { s with gens := s.gens.push (.fresh cc) } := h
    have := ih _ (G := G.push (.fresh cc)) h' (r.push _) (clean_push c rfl)
    rw [e] at this
    exact this
  | genState g k ih =>
    intro Q E p s G h r c
    obtain ⟨st, hg, h⟩ := h
    rcases r.at_ g with ⟨x, _, _, h2, h3⟩ | ⟨_, h2⟩
    · rw [hg] at h2; cases h2
      rw [mask_seen] at h
      exact ⟨x, h3, ih _ h r c⟩
    · exact ⟨st, h2 ▸ hg, ih _ h r c⟩
  | resume g rr l k ih =>
    intro Q E p s G h r c
    obtain ⟨res, s₁, hwk, h⟩ := h
    obtain ⟨G', r', c', w'⟩ := wakes_mask hwk r c
    exact ⟨res, _, w', ih res h r' c'⟩
  | stack k ih => intro Q E p s G h r c; exact ih _ h r c
  | thread k ih => intro Q E p s G h r c; exact ih _ h r c
/-- what is said of the masked state holds; who slept sleeps on as it was -/
structure Back (s s' s1 : Shared) : Prop where
  same : s' = { s1 with gens := s'.gens }
  slept : ∀ (g : Nat) (x : GenState), s.gens[g]? = some x → asleep x = true → s'.gens[g]? = some x
  bare : AllBare s1.gens → AllBare s.gens → AllBare s'.gens
  rel : Rel s.gens s1.gens s'.gens
  clean : Clean s1.gens
theorem wpAny_mask {α : Type} {M : Model} {A : Around} {t : Sem α} {Q : α → Shared → Prop} {E : Value → Shared → Prop} {s : Shared} (h : wpAny M A t Q E { s with gens := s.gens.map mask }) :
    wpAny M A t (fun a s' => ∃ s1, Q a s1 ∧ Back s s' s1) (fun e s' => ∃ s1, E e s1 ∧ Back s s' s1) s := by
  intro Γ p hΓ
  have bk : ∀ s' s1 : Shared, Rel s.gens s1.gens s'.gens → Clean s1.gens → s' = { s1 with gens := s'.gens } → Back s s' s1 := fun s' s1 r c e => by
    refine ⟨e, fun g x hx ha => ?_, fun h1 h2 y hy => ?_, r, c⟩
    · rcases r.at_ g with ⟨y, _, h2, _, h3⟩ | ⟨h2, _⟩
      · rw [hx] at h2; cases h2; exact h3
      · rw [h2 x hx] at ha; cases ha
    · obtain ⟨j, hj, ey⟩ := Array.mem_iff_getElem.mp hy
      have ey' : s'.gens[j]? = some y := by rw [Array.getElem?_eq_getElem hj, ey]
      rcases r.at_ j with ⟨x, _, g0, _, h3⟩ | ⟨_, q⟩
      · rw [ey'] at h3; cases h3
        exact h2 y (Array.mem_of_getElem? g0)
      · exact h1 y (Array.mem_of_getElem? (q.trans ey'))
  have q := wp_mask t (h Γ p hΓ) (Rel.start s.gens) (clean_mask s.gens)
  exact Sem.wp_mono M Γ t (fun a _ s' ⟨s1, h1, r, c, e⟩ => ⟨s1, h1, bk _ _ r c e⟩) (fun a _ s' ⟨s1, h1, r, c, e⟩ => ⟨s1, h1, bk _ _ r c e⟩) p _ q
/-- what holds behind code that runs on the masked state holds behind it on the other -/
theorem wpAny_back {α : Type} {M : Model} {A : Around} {t : Sem α} {Q : α → Shared → Prop} {E : Value → Shared → Prop} {s s' s1 : Shared} (b : Back s s' s1) (h : wpAny M A t Q E s1) :
    wpAny M A t (fun a s2 => ∃ s3, Q a s3 ∧ Back s s2 s3) (fun e s2 => ∃ s3, E e s3 ∧ Back s s2 s3) s' := by
  intro Γ p hΓ
  have bk : ∀ s2 s3 : Shared, Rel s.gens s3.gens s2.gens → Clean s3.gens → s2 = { s3 with gens := s2.gens } → Back s s2 s3 := fun s2 s3 r c e => by
    refine ⟨e, fun g x hx ha => ?_, fun h1 h2 y hy => ?_, r, c⟩
    · rcases r.at_ g with ⟨y, _, h2, _, h3⟩ | ⟨h2, _⟩
      · rw [hx] at h2; cases h2; exact h3
      · rw [h2 x hx] at ha; cases ha
    · obtain ⟨j, hj, ey⟩ := Array.mem_iff_getElem.mp hy
      have ey' : s2.gens[j]? = some y := by rw [Array.getElem?_eq_getElem hj, ey]
      rcases r.at_ j with ⟨x, _, g0, _, h3⟩ | ⟨_, q⟩
      · rw [ey'] at h3; cases h3
        exact h2 y (Array.mem_of_getElem? g0)
      · exact h1 y (Array.mem_of_getElem? (q.trans ey'))
  have q := wp_mask t (h Γ p hΓ) b.rel b.clean
  rw [← b.same] at q
  exact Sem.wp_mono M Γ t (fun a _ s2 ⟨s3, h1, r, c, e⟩ => ⟨s3, h1, bk _ _ r c e⟩) (fun a _ s2 ⟨s3, h1, r, c, e⟩ => ⟨s3, h1, bk _ _ r c e⟩) p _ q
end Pz
set_option linter.all false
set_option autoImplicit false
/-! What a def computes, on data trees. -/
namespace Dn
open PySem (Str PyData)

inductive D where
  | non | bl (b : Bool) | int (i : Int) | str (x : Str)
  | tup (xs : List D) | lst (xs : List D)
  /- a list that is handed in -/
  | fls (xs : List D)
  | ins (c : Nat) (xs : List D)
  | exn (c : Nat) (xs : List D)
  deriving Inhabited

inductive R (α : Type) where
  | ok (a : α)
  | exc (c : Nat) (xs : List D)
  | bad
@[inline] def R.bind {α β : Type} : R α → (α → R β) → R β
  | .ok a, f => f a
  | .exc c xs, _ => .exc c xs
  | .bad, _ => .bad
@[simp] theorem R.bind_ok {α β : Type} (a : α) (f : α → R β) : (R.ok a).bind f = f a := rfl
@[simp] theorem R.bind_exc {α β : Type} (c : Nat) (xs : List D) (f : α → R β) : (R.exc c xs).bind f = .exc c xs := rfl
@[simp] theorem R.bind_bad {α β : Type} (f : α → R β) : (R.bad).bind f = .bad := rfl

mutual
def py : D → PyData
  | .non => .none
  | .bl b => .bool b
  | .int i => .int i
  | .str x => .str x
  | .tup xs => .tuple (pys xs)
  | .lst xs => .list (pys xs)
  | .fls _ => .dict []
  | .ins _ _ => .dict []
  | .exn _ _ => .dict []
def pys : List D → List PyData
  | [] => []
  | x :: xs => py x :: pys xs
end
mutual
/-- data alone -/
def flat : D → Bool
  | .tup xs => flats xs
  | .lst xs => flats xs
  | .fls _ => false
  | .ins _ _ => false
  | .exn _ _ => false
  | .str x => PySem.PyData.strOk x
  | _ => true
def flats : List D → Bool
  | [] => true
  | x :: xs => flat x && flats xs
end
mutual
/-- nothing within that is an object of its own -/
def hard : D → Bool
  | .tup xs => hards xs
  | .lst _ => false
  | .fls _ => false
  | .ins _ _ => false
  | .exn _ _ => false
  | _ => true
def hards : List D → Bool
  | [] => true
  | x :: xs => hard x && hards xs
end
def hardR (r : R D) : R D := match r with
  | .ok d => if hard d then .ok d else .bad
  | .exc c xs => if hards xs then .exc c xs else .bad
  | .bad => .bad
def hardI (r : R D) : R D := match r with
  | .ok (.ins c xs) => if hards xs then .ok (.ins c xs) else .bad
  | .exc c xs => if hards xs then .exc c xs else .bad
  | _ => .bad
mutual
/-- how deep -/
def dep : D → Nat
  | .tup xs => deps xs + 1
  | .lst xs => deps xs + 1
  | _ => 0
def deps : List D → Nat
  | [] => 0
  | x :: xs => max (dep x) (deps xs)
end
mutual
/-- no list within (nor an instance that may change) -/
def still : D → Bool
  | .tup xs => stills xs
  | .lst _ => false
  | .fls _ => false
  | .ins _ xs => stills xs
  | .exn _ xs => stills xs
  | _ => true
def stills : List D → Bool
  | [] => true
  | x :: xs => still x && stills xs
end
/-- comparable by == -/
def eqOk (d : D) : Bool := flat d && decide (dep d ≤ 40)
def eqD (a b : D) : Bool := PyData.eqv (py a) (py b)
def ltOk (a b : D) : Bool := eqOk a && eqOk b && PySem.W.alike (py a) (py b) && (match a with | .non => false | _ => true)
def ltD (a b : D) : Bool := PySem.W.dataLt (py a) (py b)

def line : Nat := 16000000
inductive BOp where | add | sub | mul | fdiv | mod | pow | band | bxor deriving DecidableEq
inductive COp where | eq | ne | lt | le | gt | ge | is_ | isnot | in_ | notin deriving DecidableEq

def truth : D → Option Bool
  | .non => some false
  | .bl b => some b
  | .int i => some (i != 0)
  | .str x => if x.length ≤ 1000000 then some ((x.length : Int) != 0) else none
  | .tup xs => some (!xs.isEmpty)
  | .lst xs => some (!xs.isEmpty)
  | .fls xs => some (!xs.isEmpty)
  | _ => none
def small (i : Int) : Bool := decide (i.natAbs < 2 ^ 64)
def short (i : Int) : Bool := decide (i.natAbs < 2 ^ 62)
def big (i : Int) : Bool := decide (i.natAbs < 2 ^ 400000)
def binI (o : BOp) (a b : Int) : R D := match o with
  | .add => .ok (.int (a + b))
  | .sub => .ok (.int (a - b))
  | .mul => if small a || small b then .ok (.int (a * b)) else .bad
  | .fdiv => if b ≠ 0 ∧ b.natAbs < 1073741824 then .ok (.int (a.fdiv b)) else .bad
  | .mod => if b ≠ 0 then .ok (.int (a.fmod b)) else .bad
  | .pow => if 0 ≤ b ∧ b ≤ 1000 ∧ a.natAbs < 2 ^ 64 then .ok (.int (a ^ b.toNat)) else .bad
  | .band => .ok (.int (PySem.Builtin.bitAnd a b))
  | .bxor => .ok (.int (PySem.Builtin.bitXor a b))
def bin (o : BOp) (a b : D) : R D := match a, b with
  | .int i, .int j => binI o i j
  | .tup xs, .tup ys => match o with
    | .add => if xs.length + ys.length ≤ line then .ok (.tup (xs ++ ys)) else .bad
    | _ => .bad
  | .lst xs, .lst ys => match o with
    | .add => if xs.length + ys.length ≤ line then .ok (.lst (xs ++ ys)) else .bad
    | _ => .bad
  | .lst xs, .int k => match o with
    | .mul => if -100000 ≤ k ∧ k ≤ 100000 ∧ xs.length ≤ 100 then .ok (.lst (List.replicate k.toNat xs).flatten) else .bad
    | _ => .bad
  | _, _ => .bad
def anyEq (a : D) : List D → Bool
  | [] => false
  | x :: xs => eqD x a || anyEq a xs
def isNon : D → Bool
  | .non => true
  | _ => false
def cmp (o : COp) (a b : D) : R D := match o with
  | .eq => if eqOk a && eqOk b then .ok (.bl (eqD a b)) else .bad
  | .ne => if eqOk a && eqOk b then .ok (.bl (!eqD a b)) else .bad
  | .lt => if ltOk a b then .ok (.bl (ltD a b)) else .bad
  | .gt => if ltOk a b then .ok (.bl (ltD b a)) else .bad
  | .le => match a, b with
    | .int i, .int j => .ok (.bl (decide (i ≤ j)))
    | _, _ => .bad
  | .ge => match a, b with
    | .int i, .int j => .ok (.bl (decide (j ≤ i)))
    | _, _ => .bad
  | .is_ => match b with
    | .non => .ok (.bl (isNon a))
    | _ => .bad
  | .isnot => match b with
    | .non => .ok (.bl (!isNon a))
    | _ => .bad
  | .in_ => match b with
    | .tup xs => if eqOk a && eqOk b then .ok (.bl (anyEq a xs)) else .bad
    | .lst xs => if eqOk a && eqOk b then .ok (.bl (anyEq a xs)) else .bad
    | _ => .bad
  | .notin => match b with
    | .tup xs => if eqOk a && eqOk b then .ok (.bl (!anyEq a xs)) else .bad
    | .lst xs => if eqOk a && eqOk b then .ok (.bl (!anyEq a xs)) else .bad
    | _ => .bad
/-- the place that an index means -/
def place (n : Nat) (i : Int) : Option Nat := if 0 ≤ i then (if i < n then some i.toNat else none) else (if 0 ≤ i + n then some (i + n).toNat else none)
def items : D → Option (List D)
  | .tup xs => some xs
  | .fls xs => some xs
  | .lst xs => some xs
  | _ => none
def sub (a i : D) : R D := match items a, i with
  | some xs, .int k => match place xs.length k with
    | some j => match xs[j]? with
      | some d => .ok d
      | none => .bad
    | none => .bad
  | _, _ => .bad
/-- where a slice begins, ends -/
def clamp (n : Nat) (i : Int) : Nat := if 0 ≤ i then min i.toNat n else (i + n).toNat
def slc (a : D) (lo hi : Option Int) : R D :=
  let go (xs : List D) : List D := (xs.take (match hi with | some h => clamp xs.length h | none => xs.length)).drop (match lo with | some l => clamp xs.length l | none => 0)
  match a with
  | .tup xs => .ok (.tup (go xs))
  | .lst xs => .ok (.lst (go xs))
  | .fls xs => .ok (.lst (go xs))
  | _ => .bad

inductive Ty where | int | bool | str | tuple | list | ve | cls (c : Nat) deriving DecidableEq
inductive Bi where | abs | len | sorted | tuple | list | set | sum | all | any | min | max | int | sset deriving DecidableEq

/-- what the text says of its classes -/
structure Tab where
  /-- the attributes of a class's instances, in the order in which they come -/
  flds : Nat → List Nat
  /-- C is D or below it -/
  subs : Nat → Nat → Bool
  /-- __init__ of a class, its methods and properties: the def's number -/
  init : Nat → Option Nat
  meth : Nat → Nat → Option Nat
  prop : Nat → Nat → Option Nat
  /- one's own exceptions -/
  exc : Nat → Bool

/-- the built-in type of a datum -/
def tag : D → Option Ty
  | .bl _ => some .bool
  | .int _ => some .int
  | .str _ => some .str
  | .tup _ => some .tuple
  | .lst _ => some .list
  | _ => none
/-- isinstance; none where the layer does not tell -/
def isTy (T : Tab) (d : D) (t : Ty) : Option Bool := match d, t with
  | .ins k _, .cls k' => if (T.init k).isSome && (T.init k').isSome then some (T.subs k k') else none
  | .exn k _, .cls k' => if T.exc k && T.exc k' then some (T.subs k k') else none
  | .exn k _, .ve => if T.exc k then some true else none
  | _, .cls _ => none
  | _, .ve => none
  | d, t => (tag d).map fun g => decide (g = t) || (decide (g = .bool) && decide (t = .int))

inductive Tg where
  | nm (i : Nat)
  | tp (is : List Nat)
  | np (i : Nat) (is : List Nat)

inductive IE where
  | var (i : Nat) | non | bl (b : Bool) | int (i : Int) | str (x : Str)
  | tup (es : List IE) | lst (es : List IE)
  | bin (o : BOp) (a b : IE) | neg (a : IE)
  | cmp (o : COp) (a b : IE) | cmp2 (o p : COp) (a b c : IE)
  | and (a b : IE) | or (a b : IE) | not (a : IE)
  | ife (c a b : IE)
  | sub (a i : IE) | slc (a : IE) (lo hi : Option IE)
  | att (a : IE) (n : Nat)
  | prp (a : IE) (n : Nat)
  | call (f : Nat) (es : List IE)
  | mk (c : Nat) (es : List IE)
  | mth (n : Nat) (a : IE) (es : List IE)
  /- .. with things lent that change elsewhere -/
  | callL (f : Nat) (es : List IE)
  | mkL (c : Nat) (es : List IE)
  | mthL (n : Nat) (a : IE) (es : List IE)
  | prpL (a : IE) (n : Nat)
  /- a == b by the def f of the class k -/
  | eqo (k f : Nat) (a b : IE)
  | bi (b : Bi) (es : List IE)
  | isi (a : IE) (t : Ty)
  /- of the exception that is handled -/
  | xatt (i n : Nat) | xisi (i : Nat) (t : Ty)
  | lc (elt : IE) (t : Tg) (it : IE) (c : Option IE)
  | lc2 (elt : IE) (t : Tg) (it : IE) (c : Option IE) (t2 : Tg) (it2 : IE)
  /- what a loop walks -/
  | range (a b : IE) | down (a b : IE)
  | enum (a : IE) (k : Int)

abbrev Env := List (Option D)
def tgs : Tg → List Nat
  | .nm i => [i]
  | .tp is => is
  | .np i is => i :: is
def wipeD (ρ : Env) : List Nat → Env
  | [] => ρ
  | v :: vs => (wipeD ρ vs).set v none
def setAll : List Nat → List D → Env → Env
  | i :: is, d :: ds, ρ => setAll is ds (ρ.set i (some d))
  | _, _, ρ => ρ
def bindT : Tg → D → Env → Option Env
  | .nm i, d, ρ => some (ρ.set i (some d))
  | .tp is, .tup xs, ρ => if is.length = xs.length then some (setAll is xs ρ) else none
  | .np i is, .tup [x, .tup xs], ρ => if is.length = xs.length then some (setAll is xs (ρ.set i (some x))) else none
  | _, _, _ => none

/-- the calls -/
inductive IO where
  | ok (d : D) (self : D)
  | exc (c : Nat) (xs : List D) (self : D)
  | bad
structure Calls where
  pure : Nat → List D → R D
  io : Nat → List D → IO
  gen : Nat → List D → R (List D)

def rangeD (a b : Int) : List D := (List.range (b - a).toNat).map fun (k : Nat) => .int (a + (k : Int))
def downD (a b : Int) : List D := (List.range (a - b).toNat).map fun (k : Nat) => .int (a - (k : Int))
def enumD (k : Int) (xs : List D) : List D := (List.range xs.length).map fun (i : Nat) => .tup [.int (k + (i : Int)), xs.getD i .non]

/-- x <= y of two sorted things -/
def leD (a b : D) : Bool := !ltD b a
def allAlike (xs : List D) : Bool := xs.all fun a => xs.all fun b => ltOk a b
def sumD : List D → Option Int
  | [] => some 0
  | .int i :: xs => (sumD xs).map (i + ·)
  | _ => none
def boolsD : List D → Option (List Bool)
  | [] => some []
  | .bl b :: xs => (boolsD xs).map (b :: ·)
  | _ => none
def listed : D → Option (List D)
  | .lst xs => some xs
  | .fls xs => some xs
  | _ => none
def truths : List D → Option (List Bool)
  | [] => some []
  | d :: ds => match truth d, truths ds with
    | some b, some bs => some (b :: bs)
    | _, _ => none
mutual
/-- a set's element: nested tuples of numbers and None -/
def keyed : D → Bool
  | .non => true
  | .int _ => true
  | .tup xs => keyeds xs
  | _ => false
def keyeds : List D → Bool
  | [] => true
  | x :: xs => keyed x && keyeds xs
end
def isTup : D → Bool
  | .tup _ => true
  | _ => false
/-- sorted(set(xs)): the distinct ones, ascending -/
def dedup : List D → List D
  | [] => []
  | x :: xs => if anyEq x (dedup xs) then dedup xs else x :: dedup xs
def built (b : Bi) (xs : List D) : R D := match b, xs with
  | .abs, [.int i] => .ok (.int i.natAbs)
  | .len, [d] => match items d with
    | some xs => .ok (.int xs.length)
    | none => .bad
  | .sorted, [d] => match listed d with
    | some xs => if allAlike xs && decide (xs.length ≤ line) then .ok (.lst (xs.mergeSort leD)) else .bad
    | none => .bad
  | .tuple, [d] => match items d with
    | some xs => .ok (.tup xs)
    | none => .bad
  | .list, [d] => match items d with
    | some xs => .ok (.lst xs)
    | none => .bad
  | .sum, [d] => match (listed d).bind sumD with
    | some i => .ok (.int i)
    | none => .bad
  | .all, [d] => match (listed d).bind boolsD with
    | some bs => .ok (.bl (bs.all id))
    | none => .bad
  | .any, [d] => match (listed d).bind boolsD with
    | some bs => .ok (.bl (bs.any id))
    | none => .bad
  | .min, [.int a, .int b] => .ok (.int (if b < a then b else a))
  | .max, [.int a, .int b] => .ok (.int (if b > a then b else a))
  | .int, [.int a] => .ok (.int a)
  | .int, [.bl b] => .ok (.int (if b then 1 else 0))
  | .sset, [d] => match listed d with
    | some xs => if allAlike xs && keyeds xs && xs.all isTup && decide (deps xs ≤ 8) && decide (xs.length < 64) then .ok (.lst ((dedup xs).mergeSort leD)) else .bad
    | none => .bad
  | _, _ => .bad
section
variable (T : Tab) (C : Calls)
def mkIns (c : Nat) (ds : List D) : R D := match T.init c with
  | some f => match C.io f (.ins c [] :: ds) with
    | .ok .non s => .ok s
    | .exc c xs _ => .exc c xs
    | _ => .bad
  | none => .bad
def attD (d : D) (n : Nat) : R D := match d with
  | .ins c xs => if (T.init c).isSome then match xs[(T.flds c).idxOf n]? with
    | some x => .ok x
    | none => .bad
    else .bad
  | _ => .bad
def eqoD (k f : Nat) (x y : D) : R D := match x, y with
  | .ins k1 xs, .ins k2 ys => if k1 = k ∧ k2 = k then match C.pure f [.ins k1 xs, .ins k2 ys] with
    | .ok (.bl r) => .ok (.bl r)
    | _ => .bad
    else .bad
  | _, _ => .bad
def prpD (d : D) (n : Nat) : R D := match d with
  | .ins c _ => match T.prop c n with
    | some f => C.pure f [d]
    | none => .bad
  | _ => .bad
def mthF (d : D) (n : Nat) : Option Nat := match d with
  | .ins c _ => T.meth c n
  | _ => none
/-- the turns of a comprehension -/
def turns (f : D → R (Option D)) : List D → R (List D)
  | [] => .ok []
  | x :: xs => (f x).bind fun y => (turns f xs).bind fun ys => .ok (match y with | some d => d :: ys | none => ys)
def turns2 (f : D → R (List D)) : List D → R (List D)
  | [] => .ok []
  | x :: xs => (f x).bind fun y => (turns2 f xs).bind fun ys => .ok (y ++ ys)
/-- no exception leaves a comprehension -/
def calm {α : Type} : R α → R α
  | .exc _ _ => .bad
  | r => r

/-- a name's value (a handled exception is no value) -/
def getV (ρ : Env) (i : Nat) : R D := match ρ[i]? with
  | some (some (.exn _ _)) => .bad
  | some (some d) => .ok d
  | _ => .bad
def slotX (ρ : Env) (i : Nat) : Option (Nat × List D) := match ρ[i]? with
  | some (some (.exn c xs)) => some (c, xs)
  | _ => none
mutual
def eval : IE → Env → R D
  | .var i, ρ => getV ρ i
  | .xatt i n, ρ => match slotX ρ i with
    | some (c, xs) => if T.exc c then match xs[(T.flds c).idxOf n]? with
      | some x => .ok x
      | none => .bad
      else .bad
    | none => .bad
  | .xisi i t, ρ => match slotX ρ i with
    | some (c, xs) => match isTy T (.exn c xs) t with
      | some b => .ok (.bl b)
      | none => .bad
    | none => .bad
  | .non, _ => .ok .non
  | .bl b, _ => .ok (.bl b)
  | .int i, _ => .ok (.int i)
  | .str x, _ => .ok (.str x)
  | .tup es, ρ => (evals es ρ).bind fun ds => .ok (.tup ds)
  | .lst es, ρ => (evals es ρ).bind fun ds => .ok (.lst ds)
  | .bin o a b, ρ => (eval a ρ).bind fun x => (eval b ρ).bind fun y => bin o x y
  | .neg a, ρ => (eval a ρ).bind fun x => match x with
    | .int i => .ok (.int (-i))
    | _ => .bad
  | .cmp o a b, ρ => (eval a ρ).bind fun x => (eval b ρ).bind fun y => cmp o x y
  | .cmp2 o p a b c, ρ => (eval a ρ).bind fun x => (eval b ρ).bind fun y => (cmp o x y).bind fun r => match r with
    | .bl true => (eval c ρ).bind fun z => cmp p y z
    | .bl false => .ok (.bl false)
    | _ => .bad
  | .and a b, ρ => (eval a ρ).bind fun x => match truth x with
    | some true => eval b ρ
    | some false => .ok x
    | none => .bad
  | .or a b, ρ => (eval a ρ).bind fun x => match truth x with
    | some false => eval b ρ
    | some true => .ok x
    | none => .bad
  | .not a, ρ => (eval a ρ).bind fun x => match truth x with
    | some b => .ok (.bl (!b))
    | none => .bad
  | .ife c a b, ρ => (eval c ρ).bind fun x => match truth x with
    | some true => eval a ρ
    | some false => eval b ρ
    | none => .bad
  | .sub a i, ρ => (eval a ρ).bind fun x => (eval i ρ).bind fun y => sub x y
  | .slc a lo hi, ρ => (eval a ρ).bind fun x => (evalO lo ρ).bind fun l => (evalO hi ρ).bind fun h => slc x l h
  | .att a n, ρ => (eval a ρ).bind fun x => attD T x n
  | .prp a n, ρ => (eval a ρ).bind fun x => calm (prpD T C x n)
  | .call f es, ρ => (evals es ρ).bind fun ds => C.pure f ds
  | .mk c es, ρ => (evals es ρ).bind fun ds => mkIns T C c ds
  | .mth n a es, ρ => (eval a ρ).bind fun x => match mthF T x n with
    | some f => (evals es ρ).bind fun ds => C.pure f (x :: ds)
    | none => .bad
  | .callL f es, ρ => (evals es ρ).bind fun ds => hardR (C.pure f ds)
  | .mkL c es, ρ => (evals es ρ).bind fun ds => hardI (mkIns T C c ds)
  | .mthL n a es, ρ => (eval a ρ).bind fun x => match mthF T x n with
    | some f => (evals es ρ).bind fun ds => hardR (C.pure f (x :: ds))
    | none => .bad
  | .prpL a n, ρ => (eval a ρ).bind fun x => calm (hardR (prpD T C x n))
  | .eqo k f a b, ρ => (eval a ρ).bind fun x => (eval b ρ).bind fun y => eqoD C k f x y
  | .bi b es, ρ => (evals es ρ).bind fun ds => built b ds
  | .isi a t, ρ => (eval a ρ).bind fun x => match isTy T x t with
    | some b => .ok (.bl b)
    | none => .bad
  | .lc elt t it c, ρ => (eval it ρ).bind fun x => match items x with
    | some xs => calm ((turns (fun d => match bindT t d (wipeD ρ (tgs t)) with
        | some ρ' => (match c with
          | none => (eval elt ρ').bind fun y => .ok (some y)
          | some c => (eval c ρ').bind fun b => match truth b with
            | some true => (eval elt ρ').bind fun y => .ok (some y)
            | some false => .ok none
            | none => .bad)
        | none => .bad) xs).bind fun ys => if ys.length ≤ line then .ok (.lst ys) else .bad)
    | none => .bad
  | .lc2 elt t it c t2 it2, ρ => (eval it ρ).bind fun x => match items x with
    | some xs => calm ((turns2 (fun d => match bindT t d (wipeD ρ (tgs t ++ tgs t2)) with
        | some ρ' => R.bind (match c with
          | none => R.ok true
          | some c => (eval c ρ').bind fun b => match truth b with
            | some b => R.ok b
            | none => R.bad) fun b => if b then (eval it2 ρ').bind fun x2 => match items x2 with
              | some xs2 => turns (fun d2 => match bindT t2 d2 (wipeD ρ' (tgs t2)) with
                | some ρ2 => (eval elt ρ2).bind fun y => .ok (some y)
                | none => .bad) xs2
              | none => .bad
            else .ok []
        | none => .bad) xs).bind fun ys => if ys.length ≤ line then .ok (.lst ys) else .bad)
    | none => .bad
  | .range a b, ρ => (eval a ρ).bind fun x => (eval b ρ).bind fun y => match x, y with
    | .int i, .int j => if short i && short j then .ok (.lst (rangeD i j)) else .bad
    | _, _ => .bad
  | .down a b, ρ => (eval a ρ).bind fun x => (eval b ρ).bind fun y => match x, y with
    | .int i, .int j => if short i && short j then .ok (.lst (downD i j)) else .bad
    | _, _ => .bad
  | .enum a k, ρ => (eval a ρ).bind fun x => match items x with
    | some xs => .ok (.lst (enumD k xs))
    | none => .bad
def evals : List IE → Env → R (List D)
  | [], _ => .ok []
  | e :: es, ρ => (eval e ρ).bind fun d => (evals es ρ).bind fun ds => .ok (d :: ds)
def evalO : Option IE → Env → R (Option Int)
  | none, _ => .ok none
  | some e, ρ => (eval e ρ).bind fun d => match d with
    | .int i => .ok (some i)
    | _ => .bad
end
end

/-! ### statements -/
inductive Ot where | drop | tg (t : Tg) | ret
mutual
inductive IS where
  | asg (t : Tg) (e : IE)
  /- a new list or instance, at a name whose thing changes -/
  | asgF (i : Nat) (e : IE)
  | aug (i : Nat) (o : BOp) (e : IE)
  | sat (i n : Nat) (e : IE)
  | aat (i n : Nat) (o : BOp) (e : IE)
  | sit (i : Nat) (k e : IE)
  | app (i : Nat) (e : IE)
  | pop (t : Nat) (i : Nat)
  | exp (e : IE)
  | ical (t : Ot) (f i : Nat) (es : List IE)
  | imth (t : Ot) (n i : Nat) (es : List IE)
  | ife (c : IE) (a b : List IS)
  | for_ (t : Tg) (it : IE) (b : List IS)
  | forg (t : Tg) (f : Nat) (es : List IE) (b : List IS)
  | whl (c : IE) (b : List IS)
  | ret (e : IE)
  | rse (c : Nat) (es : List IE)
  | try_ (b : List IS) (hs : HS)
  | brk | cnt | pas
  /- m: the slot of the list that changes -/
  | yld (m : Nat) (e : IE)
  /- from here on the thing at the name no longer changes -/
  | frz (i : Nat)
inductive HS where
  | nil
  | cons (k : Nat) (n : Option Nat) (b : List IS) (r : HS)
end
inductive O where
  | nx (ρ : Env) | rt (d : D) (ρ : Env) | bk (ρ : Env) | ct (ρ : Env) | ex (c : Nat) (xs : List D) (ρ : Env) | bad
def O.seq : O → (Env → O) → O
  | .nx ρ, f => f ρ
  | o, _ => o
/-- behind an expression -/
def ev {α : Type} (r : R α) (ρ : Env) (f : α → O) : O := match r with
  | .ok a => f a
  | .exc c xs => .ex c xs ρ
  | .bad => .bad
@[simp] theorem O.seq_nx (ρ : Env) (f : Env → O) : (O.nx ρ).seq f = f ρ := rfl
@[simp] theorem O.seq_rt (d : D) (ρ : Env) (f : Env → O) : (O.rt d ρ).seq f = .rt d ρ := rfl
@[simp] theorem O.seq_bk (ρ : Env) (f : Env → O) : (O.bk ρ).seq f = .bk ρ := rfl
@[simp] theorem O.seq_ct (ρ : Env) (f : Env → O) : (O.ct ρ).seq f = .ct ρ := rfl
@[simp] theorem O.seq_ex (c : Nat) (xs : List D) (ρ : Env) (f : Env → O) : (O.ex c xs ρ).seq f = .ex c xs ρ := rfl
@[simp] theorem O.seq_bad (f : Env → O) : (O.bad).seq f = .bad := rfl
@[simp] theorem ev_ok {α : Type} (a : α) (ρ : Env) (f : α → O) : ev (.ok a) ρ f = f a := rfl
@[simp] theorem ev_exc {α : Type} (c : Nat) (xs : List D) (ρ : Env) (f : α → O) : ev (.exc c xs) ρ f = .ex c xs ρ := rfl
@[simp] theorem ev_bad {α : Type} (ρ : Env) (f : α → O) : ev .bad ρ f = .bad := rfl
def ownable : D → Bool
  | .lst _ => true
  | .ins _ _ => true
  | _ => false
/-- a field stored -/
def putFld (T : Tab) (d : D) (n : Nat) (v : D) : Option D := match d with
  | .ins c xs =>
    if (T.init c).isSome then
      if (T.flds c).idxOf n < xs.length then some (.ins c (xs.set ((T.flds c).idxOf n) v))
      else if (T.flds c).idxOf n = xs.length ∧ xs.length < (T.flds c).length then some (.ins c (xs ++ [v])) else none
    else none
  | _ => none
def noExn (ρ : Env) : Bool := ρ.all fun o => match o with
  | some (.exn _ _) => false
  | _ => true
def slotD (ρ : Env) (i : Nat) : Option D := (ρ[i]?).bind id
def otO (t : Ot) (d : D) (ρ : Env) : O := match t with
  | .drop => .nx ρ
  | .tg t => match bindT t d ρ with
    | some ρ' => .nx ρ'
    | none => .bad
  | .ret => .rt d ρ
/-- a loop's turns -/
def forL (body : Env → O) (t : Tg) : List D → Env → O
  | [], ρ => .nx ρ
  | d :: ds, ρ => match bindT t d ρ with
    | none => .bad
    | some ρ1 => match body ρ1 with
      | .nx ρ2 => forL body t ds ρ2
      | .ct ρ2 => forL body t ds ρ2
      | .bk ρ2 => .nx ρ2
      | o => o
def atom : D → Bool
  | .non => true
  | .bl _ => true
  | .int _ => true
  | .str _ => true
  | _ => false
def hardEnv (ρ : Env) : Bool := ρ.all fun o => match o with
  | some d => hard d
  | none => true
/-- a generator's names where it sleeps: hard data, one list of such -/
def gOk (m : Nat) (ρ : Env) : Bool := hardEnv (ρ.set m none) && (match slotD ρ m with
  | none => true
  | some (.lst xs) => hards xs
  | _ => false)
/-- the turns of a loop over a generator -/
def forH (body : Env → O) (t : Tg) : List D → Env → O
  | [], ρ => .nx ρ
  | d :: ds, ρ => match bindT t d ρ with
    | none => .bad
    | some ρ1 => match body ρ1 with
      | .nx ρ2 => if hardEnv ρ2 then forH body t ds ρ2 else .bad
      | .ct ρ2 => if hardEnv ρ2 then forH body t ds ρ2 else .bad
      | _ => .bad
def whlL (c : Env → R D) (body : Env → O) : Nat → Env → O
  | 0, _ => .bad
  | n + 1, ρ => ev (c ρ) ρ fun x => match truth x with
    | none => .bad
    | some false => .nx ρ
    | some true => match body ρ with
      | .nx ρ2 => whlL c body n ρ2
      | .ct ρ2 => whlL c body n ρ2
      | .bk ρ2 => .nx ρ2
      | o => o
section
variable (T : Tab) (C : Calls) (N : Nat)
mutual
def exec : IS → Env → O
  | .asg t e, ρ => ev (eval T C e ρ) ρ fun d => match bindT t d ρ with
    | some ρ' => .nx ρ'
    | none => .bad
  | .asgF i e, ρ => ev (eval T C e ρ) ρ fun d => if ownable d then .nx (ρ.set i (some d)) else .bad
  | .aug i o e, ρ => match slotD ρ i with
    | some (.int a) => ev (eval T C e ρ) ρ fun d => match d with
      | .int b => ev (binI o a b) ρ fun v => .nx (ρ.set i (some v))
      | _ => .bad
    | _ => .bad
  | .sat i n e, ρ => ev (eval T C e ρ) ρ fun d => match (slotD ρ i).bind (putFld T · n d) with
    | some s => .nx (ρ.set i (some s))
    | none => .bad
  | .aat i n o e, ρ => match slotD ρ i with
    | some s => match attD T s n with
      | .ok (.int a) => ev (eval T C e ρ) ρ fun d => match d with
        | .int b => ev (binI o a b) ρ fun v => match putFld T s n v with
          | some s' => .nx (ρ.set i (some s'))
          | none => .bad
        | _ => .bad
      | _ => .bad
    | none => .bad
  | .sit i k e, ρ => match slotD ρ i with
    | some (.lst xs) => ev (eval T C e ρ) ρ fun d => ev (eval T C k ρ) ρ fun k => match k with
      | .int k => match place xs.length k with
        | some j => .nx (ρ.set i (some (.lst (xs.set j d))))
        | none => .bad
      | _ => .bad
    | _ => .bad
  | .app i e, ρ => match slotD ρ i with
    | some (.lst xs) => ev (eval T C e ρ) ρ fun d => if xs.length < line then .nx (ρ.set i (some (.lst (xs ++ [d])))) else .bad
    | _ => .bad
  | .pop t i, ρ => match slotD ρ i with
    | some (.lst xs) => match xs[xs.length - 1]? with
      | some d => .nx ((ρ.set i (some (.lst xs.dropLast))).set t (some d))
      | none => .bad
    | _ => .bad
  | .exp e, ρ => ev (eval T C e ρ) ρ fun _ => .nx ρ
  | .ical t f i es, ρ => match slotD ρ i with
    | some s => ev (evals T C es ρ) ρ fun ds => match C.io f (s :: ds) with
      | .ok d s' => otO t d (ρ.set i (some s'))
      | .exc c xs s' => .ex c xs (ρ.set i (some s'))
      | .bad => .bad
    | none => .bad
  | .imth t n i es, ρ => match slotD ρ i with
    | some (.ins c xs) => match T.meth c n with
      | some f => ev (evals T C es ρ) ρ fun ds => match C.io f (.ins c xs :: ds) with
        | .ok d s' => otO t d (ρ.set i (some s'))
        | .exc c xs s' => .ex c xs (ρ.set i (some s'))
        | .bad => .bad
      | none => .bad
    | _ => .bad
  | .ife c a b, ρ => ev (eval T C c ρ) ρ fun x => match truth x with
    | some true => execs a ρ
    | some false => execs b ρ
    | none => .bad
  | .for_ t it b, ρ => ev (eval T C it ρ) ρ fun x => match items x with
    | some xs => forL (fun ρ => execs b ρ) t xs ρ
    | none => .bad
  | .forg t f es b, ρ => ev (evals T C es ρ) ρ fun ds => if ds.all atom && hardEnv ρ then ev (C.gen f ds) ρ fun xs => forH (fun ρ => execs b ρ) t xs ρ else .bad
  | .whl c b, ρ => whlL (eval T C c) (fun ρ => execs b ρ) N ρ
  | .ret e, ρ => ev (eval T C e ρ) ρ fun d => .rt d ρ
  | .rse c es, ρ => ev (evals T C es ρ) ρ fun ds => .ex c ds ρ
  | .try_ b hs, ρ => match execs b ρ with
    | .ex c xs ρ' => catches c xs hs ρ'
    | o => o
  | .brk, ρ => .bk ρ
  | .cnt, ρ => .ct ρ
  | .pas, ρ => .nx ρ
  | .yld _ _, _ => .bad
  | .frz i, ρ => match slotD ρ i with
    | some _ => .nx ρ
    | none => .bad
def execs : List IS → Env → O
  | [], ρ => .nx ρ
  | s :: ss, ρ => (exec s ρ).seq fun ρ' => execs ss ρ'
def catches (c : Nat) (xs : List D) : HS → Env → O
  | .nil, ρ => .ex c xs ρ
  | .cons k n b hs, ρ => if !(T.exc c && T.exc k) then .bad else if T.subs c k then
      match n with
      | some i => match execs b (ρ.set i (some (.exn c xs))) with
        | .nx ρ' => if noExn (ρ'.set i none) then .nx (ρ'.set i none) else .bad
        | .rt d ρ' => if noExn (ρ'.set i none) then .rt d (ρ'.set i none) else .bad
        | _ => .bad
      | none => match execs b ρ with
        | .nx ρ' => .nx ρ'
        | .rt d ρ' => .rt d ρ'
        | _ => .bad
    else catches c xs hs ρ
end
end
/-! ### generators -/
def whlG (c : Env → R D) (body : Env → List D × O) : Nat → Env → List D × O
  | 0, _ => ([], .bad)
  | n + 1, ρ => match c ρ with
    | .ok x => match truth x with
      | none => ([], .bad)
      | some false => ([], .nx ρ)
      | some true => match body ρ with
        | (ys, .nx ρ2) => let (zs, o) := whlG c body n ρ2; (ys ++ zs, o)
        | (ys, .ct ρ2) => let (zs, o) := whlG c body n ρ2; (ys ++ zs, o)
        | (ys, .bk ρ2) => (ys, .nx ρ2)
        | (ys, o) => (ys, o)
    | _ => ([], .bad)
def forG (body : Env → List D × O) (t : Tg) : List D → Env → List D × O
  | [], ρ => ([], .nx ρ)
  | d :: ds, ρ => match bindT t d ρ with
    | none => ([], .bad)
    | some ρ1 => match body ρ1 with
      | (ys, .nx ρ2) => let (zs, o) := forG body t ds ρ2; (ys ++ zs, o)
      | (ys, .ct ρ2) => let (zs, o) := forG body t ds ρ2; (ys ++ zs, o)
      | (ys, .bk ρ2) => (ys, .nx ρ2)
      | (ys, o) => (ys, o)
section
variable (T : Tab) (C : Calls) (N : Nat)
mutual
def execG : IS → Env → List D × O
  | .yld m e, ρ => match eval T C e ρ with
    | .ok d => if hard d && gOk m ρ then ([d], .nx ρ) else ([], .bad)
    | _ => ([], .bad)
  | .ife c a b, ρ => match eval T C c ρ with
    | .ok x => match truth x with
      | some true => execsG a ρ
      | some false => execsG b ρ
      | none => ([], .bad)
    | _ => ([], .bad)
  | .whl c b, ρ => whlG (eval T C c) (fun ρ => execsG b ρ) N ρ
  | .for_ t it b, ρ => match eval T C it ρ with
    | .ok x => match items x with
      | some xs => forG (fun ρ => execsG b ρ) t xs ρ
      | none => ([], .bad)
    | _ => ([], .bad)
  | s, ρ => ([], exec T C N s ρ)
def execsG : List IS → Env → List D × O
  | [], ρ => ([], .nx ρ)
  | s :: ss, ρ => match execG s ρ with
    | (ys, .nx ρ') => let (zs, o) := execsG ss ρ'; (ys ++ zs, o)
    | r => r
end
end

/-! ### defs -/
inductive Kind where | pure | io | gen deriving DecidableEq
structure Fn where
  np : Nat
  ns : Nat
  kind : Kind
  body : List IS
def startE (np ns : Nat) (ds : List D) : Env := ds.map some ++ List.replicate (ns - np) none
def runP (T : Tab) (C : Calls) (N : Nat) (f : Fn) (ds : List D) : R D :=
  if ds.length = f.np then match execs T C N f.body (startE f.np f.ns ds) with
    | .nx _ => .ok .non
    | .rt d _ => .ok d
    | .ex c xs _ => .exc c xs
    | _ => .bad
  else .bad
def runI (T : Tab) (C : Calls) (N : Nat) (f : Fn) (ds : List D) : IO :=
  if ds.length = f.np then match execs T C N f.body (startE f.np f.ns ds) with
    | .nx ρ => match slotD ρ 0 with | some s => .ok .non s | none => .bad
    | .rt d ρ => match slotD ρ 0 with | some s => .ok d s | none => .bad
    | .ex c xs ρ => match slotD ρ 0 with | some s => .exc c xs s | none => .bad
    | _ => .bad
  else .bad
def runG (T : Tab) (C : Calls) (N : Nat) (f : Fn) (ds : List D) : R (List D) :=
  if ds.length = f.np then match execsG T C N f.body (startE f.np f.ns ds) with
    | (ys, .nx _) => .ok ys
    | (ys, .rt .non _) => .ok ys
    | _ => .bad
  else .bad
def noCalls : Calls := ⟨fun _ _ => .bad, fun _ _ => .bad, fun _ _ => .bad⟩
def calls (T : Tab) (P : Nat → Option Fn) (N : Nat) : Nat → Calls
  | 0 => noCalls
  | n + 1 =>
    let C := calls T P N n
    { pure := fun f ds => match P f with
        | some fn => match fn.kind with
          | .pure => runP T C N fn ds
          | _ => .bad
        | none => .bad
      io := fun f ds => match P f with
        | some fn => match fn.kind with
          | .io => runI T C N fn ds
          | _ => .bad
        | none => .bad
      gen := fun f ds => match P f with
        | some fn => match fn.kind with
          | .gen => runG T C N fn ds
          | _ => .bad
        | none => .bad }
end Dn
set_option linter.all false
set_option autoImplicit false
/-! The order of data, and what sorting gives. -/
namespace Dn
open PySem PySem.W PyProof.Rows
theorem ltD_irrefl (a : D) : ltD a a = false := lex_irrefl _
theorem ltD_trans {a b c : D} (h : ltD a b = true) (k : ltD b c = true) : ltD a c = true := lex_trans _ _ _ h k
theorem leD_trans (a b c : D) (h : leD a b = true) (k : leD b c = true) : leD a c = true := by
  unfold leD at *
  cases e : ltD c a with
  | false => rfl
  | true =>
    rcases lex_negTrans (O := itemOrd) _ (keyToks (py b)) _ e with z | z
    · have : ltD c b = true := z
      rw [this] at k; cases k
    · have : ltD b a = true := z
      rw [this] at h; cases h
theorem ltD_asymm {a b : D} (h : ltD a b = true) : ltD b a = false := by
  cases e : ltD b a with
  | false => rfl
  | true => exact absurd (ltD_trans h e) (by rw [ltD_irrefl]; decide)
theorem leD_total (a b : D) : (leD a b || leD b a) = true := by
  unfold leD
  cases e : ltD b a with
  | false => rfl
  | true => rw [ltD_asymm e]; rfl
theorem leD_of {a b : D} (h : ltD a b = true) : leD a b = true := by unfold leD; rw [ltD_asymm h]; rfl
theorem lex_longer (k : List (Int ⊕ List Nat)) (a : Int ⊕ List Nat) : lexLt itemOrd (k ++ []) (k ++ [a]) = true := by
  rw [lex_pre]; rfl
/-- neither is less: equal -/
theorem eqD_of_toks {a b : D} (h : alike (py a) (py b) = true) (e : keyToks (py a) = keyToks (py b)) : eqD a b = true := by
  cases q : eqD a b with
  | true => rfl
  | false =>
    have z := (toks_eqv _ _ h).2 q [] [.inl 0]
    rw [e, lex_longer] at z
    have y : lexLt itemOrd (keyToks (py b)) (keyToks (py b)) = false := lex_irrefl _
    exact absurd z (by rw [y]; decide)
theorem eqD_of_le {a b : D} (h : alike (py a) (py b) = true) (x : leD a b = true) (y : leD b a = true) : eqD a b = true := by
  refine eqD_of_toks h (lex_total (O := itemOrd) _ _ ?_ ?_)
  · have : ltD a b = false := by simpa [leD] using y
    exact this
  · have : ltD b a = false := by simpa [leD] using x
    exact this
mutual
theorem eqD_keyed : ∀ {a b : D}, keyed a = true → keyed b = true → (eqD a b = true ↔ a = b)
  | .non, b, _, h => by cases b <;> simp [keyed, eqD, py, PyData.eqv] at h ⊢
  | .int i, b, _, h => by cases b <;> simp [keyed, eqD, py, PyData.eqv] at h ⊢
  | .tup xs, b, h1, h => by
    cases b <;> simp [keyed, eqD, py, PyData.eqv] at h ⊢
    rename_i ys
    exact eqD_keyeds (by rwa [keyed] at h1) h
  | .bl _, _, h, _ => by simp [keyed] at h
  | .str _, _, h, _ => by simp [keyed] at h
  | .lst _, _, h, _ => by simp [keyed] at h
  | .fls _, _, h, _ => by simp [keyed] at h
  | .ins _ _, _, h, _ => by simp [keyed] at h
  | .exn _ _, _, h, _ => by simp [keyed] at h
theorem eqD_keyeds : ∀ {xs ys : List D}, keyeds xs = true → keyeds ys = true → (PyData.eqvAll (pys xs) (pys ys) = true ↔ xs = ys)
  | [], ys, _, h => by cases ys <;> simp [pys, PyData.eqvAll]
  | x :: xs, [], _, _ => by simp [pys, PyData.eqvAll]
  | x :: xs, y :: ys, h1, h2 => by
    rw [keyeds, Bool.and_eq_true] at h1 h2
    rw [pys, pys, PyData.eqvAll, Bool.and_eq_true, eqD_keyeds h1.2 h2.2]
    have := eqD_keyed h1.1 h2.1
    rw [eqD] at this
    rw [this, List.cons.injEq]
end
theorem keyeds_all : ∀ {xs : List D}, keyeds xs = true ↔ ∀ x ∈ xs, keyed x = true
  | [] => by simp [keyeds]
  | x :: xs => by rw [keyeds, Bool.and_eq_true, keyeds_all]; simp
theorem anyEq_keyed {a : D} (ha : keyed a = true) : ∀ {xs : List D}, keyeds xs = true → (anyEq a xs = true ↔ a ∈ xs)
  | [], _ => by simp [anyEq]
  | x :: xs, h => by
    rw [keyeds, Bool.and_eq_true] at h
    rw [anyEq, Bool.or_eq_true, anyEq_keyed ha h.2, eqD_keyed h.1 ha, List.mem_cons]
    constructor
    · rintro (h | h)
      · exact .inl h.symm
      · exact .inr h
    · rintro (h | h)
      · exact .inl h.symm
      · exact .inr h
theorem dedup_mem : ∀ {xs : List D}, keyeds xs = true → (dedup xs).Nodup ∧ ∀ a, a ∈ dedup xs ↔ a ∈ xs
  | [], _ => by simp [dedup]
  | x :: xs, h => by
    rw [keyeds, Bool.and_eq_true] at h
    obtain ⟨n, m⟩ := dedup_mem h.2
    have hk : keyeds (dedup xs) = true := keyeds_all.mpr fun a ha => keyeds_all.mp h.2 a ((m a).mp ha)
    rw [dedup]
    split
    · rename_i q
      have q' := (anyEq_keyed h.1 hk).mp q
      refine ⟨n, fun a => ?_⟩
      rw [m, List.mem_cons]
      constructor
      · exact .inr
      · rintro (rfl | z)
        · exact (m _).mp q'
        · exact z
    · rename_i q
      have q' : x ∉ dedup xs := fun z => q ((anyEq_keyed h.1 hk).mpr z)
      refine ⟨List.nodup_cons.mpr ⟨q', n⟩, fun a => ?_⟩
      rw [List.mem_cons, m, List.mem_cons]
theorem allAlike_mem {xs : List D} (h : allAlike xs = true) {a b : D} (ha : a ∈ xs) (hb : b ∈ xs) : alike (py a) (py b) = true := by
  have z := List.all_eq_true.mp (List.all_eq_true.mp h a ha) b hb
  unfold ltOk at z
  rw [Bool.and_eq_true, Bool.and_eq_true] at z
  exact z.1.2
/-- one order alone -/
theorem sorted_one {xs ys : List D} (hk : keyeds xs = true) (al : ∀ a ∈ xs, ∀ b ∈ xs, alike (py a) (py b) = true) (p : xs.Perm ys) : xs.mergeSort leD = ys.mergeSort leD := by
  have mx : ∀ a, a ∈ xs.mergeSort leD ↔ a ∈ xs := fun a => (List.mergeSort_perm xs leD).mem_iff
  have my : ∀ a, a ∈ ys.mergeSort leD ↔ a ∈ xs := fun a => ((List.mergeSort_perm ys leD).mem_iff).trans p.mem_iff.symm
  refine List.Perm.eq_of_pairwise (le := fun a b => leD a b = true) (fun a b ha hb h1 h2 => ?_) (List.pairwise_mergeSort leD_trans leD_total xs) (List.pairwise_mergeSort leD_trans leD_total ys)
    ((List.mergeSort_perm xs leD).trans (p.trans (List.mergeSort_perm ys leD).symm))
  have ha' := (mx a).mp ha
  have hb' := (my b).mp hb
  exact (eqD_keyed (keyeds_all.mp hk a ha') (keyeds_all.mp hk b hb')).mp (eqD_of_le (al a ha' b hb') h1 h2)
/-- sorted(set(xs)), from any row of the set's elements -/
theorem sset_one {xs ys : List D} (hk : keyeds xs = true) (al : allAlike xs = true) (n : ys.Nodup) (m : ∀ a, a ∈ ys ↔ a ∈ xs) : ys.mergeSort leD = (dedup xs).mergeSort leD := by
  obtain ⟨n', m'⟩ := dedup_mem hk
  have p : ys.Perm (dedup xs) := (List.perm_ext_iff_of_nodup n n').mpr fun a => (m a).trans (m' a).symm
  exact sorted_one (keyeds_all.mpr fun a ha => keyeds_all.mp hk a ((m a).mp ha)) (fun a ha b hb => allAlike_mem al ((m a).mp ha) ((m b).mp hb)) p
/-- what is ascending stays -/
theorem sort_asc {xs : List D} (h : xs.Pairwise fun a b => ltD a b = true) : xs.mergeSort leD = xs :=
  List.mergeSort_of_pairwise (h.imp fun z => leD_of z)
end Dn
set_option Elab.async false
set_option linter.all false
set_option autoImplicit false
set_option maxRecDepth 100000
set_option maxHeartbeats 2000000
/-! The layer: what stands for what in the abstract heap; readings made of den. -/
namespace Sd
open PySem L2 Dn

structure Gl where
  K : PySem.W.Frag
  mg : Str → Option Value
  T : Tab
  C : Nat → Addr
  F : Nat → Str
/-- the names of the first n attributes -/
def Gl.names (G : Gl) (c n : Nat) : List Str := ((G.T.flds c).take n).map G.F

/-- a list that is handed in: known and not written, or an object of the module -/
def FzL (K : PySem.W.Frag) (F : Addr → Prop) (H : Hp) (a : Addr) (vs : List V) : Prop := (Rd H a (.lst vs) ∧ F a) ∨
  ∃ (o : Obj) (its : Array Value) (n : Nat), K.lookup a = some o ∧ o.cls = .type "list" ∧ o.dict = none ∧ o.data = .seq its n ∧ its.size ≤ sizeLine ∧ Vals vs its.toList
theorem FzL.sq {K : PySem.W.Frag} {F : Addr → Prop} {H : Hp} {a : Addr} {vs : List V} (h : FzL K F H a vs) : SqL K H a vs := h.elim (fun h => .inl h.1) .inr
mutual
inductive RD (G : Gl) (F : Addr → Prop) (H : Hp) : D → V → Prop where
  | non : RD G F H .non .non
  | bl (b : Bool) : RD G F H (.bl b) (.bl b)
  | int (i : Int) : RD G F H (.int i) (.int i)
  | str (x : Str) : RD G F H (.str x) (.str x)
  | tup {a : Addr} {vs : List V} {ds : List D} (h : SqT G.K H a vs) (r : RDs G F H ds vs) : RD G F H (.tup ds) (.ref a)
  | lst {a : Addr} {vs : List V} {ds : List D} (h : H a = some (.lst vs)) (f : F a) (r : RDs G F H ds vs) : RD G F H (.lst ds) (.ref a)
  | fls {a : Addr} {vs : List V} {ds : List D} (h : FzL G.K F H a vs) (r : RDs G F H ds vs) : RD G F H (.fls ds) (.ref a)
  | ins {a dx : Addr} {c : Nat} {fs : List (Str × V)} {vs : List V} {ds : List D} (h : H a = some (.ins (G.C c) dx fs)) (f : F a) (n : fs = (G.names c ds.length).zip vs) (l : ds.length ≤ (G.T.flds c).length)
      (r : RDs G F H ds vs) : RD G F H (.ins c ds) (.ref a)
inductive RDs (G : Gl) (F : Addr → Prop) (H : Hp) : List D → List V → Prop where
  | nil : RDs G F H [] []
  | cons {d : D} {v : V} {ds : List D} {vs : List V} (r : RD G F H d v) (rs : RDs G F H ds vs) : RDs G F H (d :: ds) (v :: vs)
end

structure Grow (F : Addr → Prop) (H : Hp) (F' : Addr → Prop) (H' : Hp) : Prop where
  same : ∀ a o, H a = some o → H' a = some o
  up : ∀ a, F a → F' a
  new : ∀ a, F' a → F a ∨ H a = none
  has : ∀ a, F' a → F a ∨ ∃ o, H' a = some o
theorem Grow.refl {F : Addr → Prop} {H : Hp} : Grow F H F H := ⟨fun _ _ h => h, fun _ h => h, fun _ h => .inl h, fun _ h => .inl h⟩
theorem Grow.free {F F' : Addr → Prop} {H H' : Hp} (g : Grow F H F' H') {a : Addr} (h : H' a = none) : H a = none := by
  cases e : H a with
  | none => rfl
  | some o => rw [g.same a o e] at h; cases h
theorem Grow.trans {F F1 F2 : Addr → Prop} {H H1 H2 : Hp} (a : Grow F H F1 H1) (b : Grow F1 H1 F2 H2) : Grow F H F2 H2 :=
  ⟨fun x o h => b.same x o (a.same x o h), fun x h => b.up x (a.up x h), fun x h => (b.new x h).elim (fun h => a.new x h) fun h => .inr (a.free h),
   fun x h => (b.has x h).elim (fun h => (a.has x h).imp id fun ⟨o, e⟩ => ⟨o, b.same x o e⟩) .inr⟩
/-- a new object that stays as it is -/
theorem Grow.laid {F : Addr → Prop} {H : Hp} {p : Addr} {o : HO} (h : H p = none) : Grow F H F (upd H p o) :=
  ⟨fun a u e => by rw [upd_ne (ne_of_none e h)]; exact e, fun _ h => h, fun _ h => .inl h, fun _ h => .inl h⟩
/-- .. and is frozen -/
theorem Grow.put {F : Addr → Prop} {H : Hp} {p : Addr} {o : HO} (h : H p = none) : Grow F H (fun a => F a ∨ a = p) (upd H p o) :=
  ⟨fun a u e => by rw [upd_ne (ne_of_none e h)]; exact e, fun _ h => .inl h, fun a x => x.elim .inl fun e => .inr (by rw [e]; exact h),
   fun a x => x.elim .inl fun e => .inr ⟨o, by rw [e]; exact upd_same⟩⟩

theorem rd_same {a : Addr} {u : HO} {H H' : Hp} (s : ∀ a o, H a = some o → H' a = some o) (h : Rd H a u) : Rd H' a u := h.elim (fun h => .inl (s _ _ h)) fun ⟨o, h⟩ => .inr ⟨o, s _ _ h⟩
theorem sqT_same {K : PySem.W.Frag} {a : Addr} {xs : List V} {H H' : Hp} (s : ∀ a o, H a = some o → H' a = some o) (h : SqT K H a xs) : SqT K H' a xs := h.elim (fun h => .inl (rd_same s h)) .inr
theorem sqL_same {K : PySem.W.Frag} {a : Addr} {xs : List V} {H H' : Hp} (s : ∀ a o, H a = some o → H' a = some o) (h : SqL K H a xs) : SqL K H' a xs := h.elim (fun h => .inl (rd_same s h)) .inr

section
variable {G : Gl} {F F' : Addr → Prop} {H H' : Hp}
mutual
theorem RD.grow {d : D} {v : V} (s : ∀ a o, H a = some o → H' a = some o) (u : ∀ a, F a → F' a) : RD G F H d v → RD G F' H' d v
  | .non => .non
  | .bl b => .bl b
  | .int i => .int i
  | .str x => .str x
  | .tup h r => .tup (sqT_same s h) (RDs.grow s u r)
  | .lst h f r => .lst (s _ _ h) (u _ f) (RDs.grow s u r)
  | .fls h r => .fls (h.elim (fun h => .inl ⟨rd_same s h.1, u _ h.2⟩) .inr) (RDs.grow s u r)
  | .ins h f n l r => .ins (s _ _ h) (u _ f) n l (RDs.grow s u r)
theorem RDs.grow {ds : List D} {vs : List V} (s : ∀ a o, H a = some o → H' a = some o) (u : ∀ a, F a → F' a) : RDs G F H ds vs → RDs G F' H' ds vs
  | .nil => .nil
  | .cons r rs => .cons (RD.grow s u r) (RDs.grow s u rs)
end
theorem RD.mono {d : D} {v : V} (r : RD G F H d v) (g : Grow F H F' H') : RD G F' H' d v := r.grow g.same g.up
theorem RDs.mono {ds : List D} {vs : List V} (r : RDs G F H ds vs) (g : Grow F H F' H') : RDs G F' H' ds vs := r.grow g.same g.up

/-- what is written lies outside -/
def OutW (H : Hp) (F : Addr → Prop) (a : Addr) : Prop := ¬ F a ∧ ((∃ xs, H a = some (.lst xs)) ∨ ∃ C dx fs, H a = some (.ins C dx fs))
theorem OutW.ne_tup {a b : Addr} {xs : List V} (o : OutW H F a) (h : Rd H b (.tup xs)) : b ≠ a := by
  intro e; subst e
  rcases o.2 with ⟨ys, q⟩ | ⟨C, dx, fs, q⟩ <;> rcases h with h | ⟨u, h⟩ <;> rw [q] at h <;> cases h
mutual
theorem RD.write {a : Addr} {u : HO} {d : D} {v : V} (o : OutW H F a) : RD G F H d v → RD G F (upd H a u) d v
  | .non => .non
  | .bl b => .bl b
  | .int i => .int i
  | .str x => .str x
  | .tup h r => .tup (h.elim (fun h => .inl (by
      have n := o.ne_tup h
      exact h.elim (fun h => .inl (by rw [upd_ne n]; exact h)) fun ⟨w, h⟩ => .inr ⟨w, by rw [upd_ne n]; exact h⟩)) .inr) (RDs.write o r)
  | .lst h f r => .lst (by
      have n : _ ≠ a := fun e => o.1 (e ▸ f)
      rw [upd_ne n]; exact h) f (RDs.write o r)
  | .fls h r => .fls (h.elim (fun ⟨h, f⟩ => .inl ⟨by
      have n : _ ≠ a := fun e => o.1 (e ▸ f)
      exact h.elim (fun h => .inl (by rw [upd_ne n]; exact h)) fun ⟨w, h⟩ => .inr ⟨w, by rw [upd_ne n]; exact h⟩, f⟩) .inr) (RDs.write o r)
  | .ins h f n l r => .ins (by
      have m : _ ≠ a := fun e => o.1 (e ▸ f)
      rw [upd_ne m]; exact h) f n l (RDs.write o r)
theorem RDs.write {a : Addr} {u : HO} {ds : List D} {vs : List V} (o : OutW H F a) : RDs G F H ds vs → RDs G F (upd H a u) ds vs
  | .nil => .nil
  | .cons r rs => .cons (RD.write o r) (RDs.write o rs)
end
theorem RDs.length {ds : List D} {vs : List V} : RDs G F H ds vs → ds.length = vs.length
  | .nil => rfl
  | .cons _ rs => by simp [RDs.length rs]
theorem RDs.get {ds : List D} {vs : List V} {i : Nat} {d : D} : RDs G F H ds vs → ds[i]? = some d → ∃ v, vs[i]? = some v ∧ RD G F H d v
  | .nil, e => by simp at e
  | .cons (v := v) r rs, e => by
    cases i with
    | zero => simp at e; subst e; exact ⟨v, rfl, r⟩
    | succ i => simpa using RDs.get (i := i) rs (by simpa using e)
theorem RDs.getV {ds : List D} {vs : List V} {i : Nat} {v : V} : RDs G F H ds vs → vs[i]? = some v → ∃ d, ds[i]? = some d ∧ RD G F H d v
  | .nil, e => by simp at e
  | .cons (d := d) r rs, e => by
    cases i with
    | zero => simp at e; subst e; exact ⟨d, rfl, r⟩
    | succ i => simpa using RDs.getV (i := i) rs (by simpa using e)
theorem RDs.append {ds es : List D} {vs us : List V} : RDs G F H ds vs → RDs G F H es us → RDs G F H (ds ++ es) (vs ++ us)
  | .nil, s => s
  | .cons r rs, s => .cons r (RDs.append rs s)
theorem RDs.take {ds : List D} {vs : List V} (n : Nat) : RDs G F H ds vs → RDs G F H (ds.take n) (vs.take n)
  | .nil => by simp; exact .nil
  | .cons r rs => by
    cases n with
    | zero => simp; exact .nil
    | succ n => simp; exact .cons r (RDs.take n rs)
theorem RDs.drop {ds : List D} {vs : List V} (n : Nat) : RDs G F H ds vs → RDs G F H (ds.drop n) (vs.drop n)
  | .nil => by simp; exact .nil
  | .cons r rs => by
    cases n with
    | zero => exact .cons r rs
    | succ n => simpa using RDs.drop n rs
theorem RDs.set {ds : List D} {vs : List V} {d : D} {v : V} (q : RD G F H d v) (n : Nat) : RDs G F H ds vs → RDs G F H (ds.set n d) (vs.set n v)
  | .nil => by simp; exact .nil
  | .cons r rs => by
    cases n with
    | zero => simp; exact .cons q rs
    | succ n => simp; exact .cons r (RDs.set q n rs)
end

/-! ### a def's body running -/
structure Cn where
  G : Gl
  M : List Nat
  P : List Addr
  F0 : Addr → Prop
  H0 : Hp
  xo : Option (Addr × Addr × Nat)
  W : WX
  C : Calls
  N : Nat
/-- an owned object -/
def OwnR (c : Cn) (F : Addr → Prop) (H : Hp) (d : D) (v : V) : Prop := match d with
  | .lst ds => ∃ a vs, v = .ref a ∧ H a = some (.lst vs) ∧ ¬ F a ∧ (a ∈ c.P ∨ c.H0 a = none) ∧ RDs c.G F H ds vs
  | .ins k ds => ∃ a dx vs, v = .ref a ∧ H a = some (.ins (c.G.C k) dx ((c.G.names k ds.length).zip vs)) ∧ ¬ F a ∧ (a ∈ c.P ∨ c.H0 a = none) ∧ ds.length ≤ (c.G.T.flds k).length ∧ RDs c.G F H ds vs
  | _ => False
/-- the exception that is handled -/
def ExnR (c : Cn) (F : Addr → Prop) (H : Hp) (k : Nat) (ds : List D) (v : V) : Prop :=
  ∃ a dx vs, c.xo = some (a, dx, k) ∧ v = .ref a ∧ H dx = some (.xd ((c.G.names k ds.length).zip vs)) ∧ ds.length ≤ (c.G.T.flds k).length ∧ RDs c.G F H ds vs
def SlotR (c : Cn) (F : Addr → Prop) (H : Hp) (i : Nat) (d : D) (v : V) : Prop := match d with
  | .exn k ds => i ∉ c.M ∧ ExnR c F H k ds v
  | d => if i ∈ c.M then OwnR c F H d v else RD c.G F H d v
structure ER (c : Cn) (ρ : Dn.Env) (F : Addr → Prop) (σ : St) (H : Hp) : Prop where
  len : ρ.length = σ.length
  same : ∀ a o, a ∉ c.P → c.H0 a = some o → H a = some o
  up : ∀ a, c.F0 a → F a
  new : ∀ a, F a → c.F0 a ∨ c.H0 a = none
  at_ : ∀ i d, ρ[i]? = some (some d) → ∃ v, σ[i]? = some (some v) ∧ SlotR c F H i d v
  pin : ∀ a, a ∈ c.P → ∃ o, H a = some o
  there : ∀ a, F a → ∃ o, H a = some o
  self : ∀ a, a ∈ c.P → 0 ∈ c.M ∧ ∀ v, σ[0]? = some (some v) → v = .ref a
  apart : ∀ i j d e v, i ∈ c.M → j ∈ c.M → i ≠ j → ρ[i]? = some (some d) → ρ[j]? = some (some e) → σ[i]? = some (some v) → σ[j]? ≠ some (some v)
/-- a value that is frozen, or (where it is only read) owned -/
inductive Md where | st | rd | fr deriving DecidableEq
def Rw (c : Cn) (own : Md) (F : Addr → Prop) (H : Hp) (d : D) (v : V) : Prop := RD c.G F H d v ∨ (own = .rd ∧ OwnR c F H d v)
/-- a new list or instance, of one's own; any other datum -/
def FrR (c : Cn) (H0 : Hp) (F : Addr → Prop) (H : Hp) (d : D) (v : V) : Prop := match d with
  | .lst xs => OwnR c F H (.lst xs) v ∧ ∃ a, v = .ref a ∧ H0 a = none
  | .ins k xs => OwnR c F H (.ins k xs) v ∧ ∃ a, v = .ref a ∧ H0 a = none
  | d => RD c.G F H d v
def Res (c : Cn) (own : Md) (H0 : Hp) (F : Addr → Prop) (H : Hp) (d : D) (v : V) : Prop := match own with
  | .st => Rw c .st F H d v
  | .rd => Rw c .rd F H d v
  | .fr => FrR c H0 F H d v

section
variable {c : Cn} {F F' : Addr → Prop} {H H' : Hp} {ρ : Dn.Env} {σ : St} {d : D} {v : V}
theorem OwnR.mono (r : OwnR c F H d v) (g : Grow F H F' H') : OwnR c F' H' d v := by
  cases d <;> try exact r.elim
  · obtain ⟨a, vs, rfl, h, nf, o, r⟩ := r
    exact ⟨a, vs, rfl, g.same _ _ h, fun f => (g.new _ f).elim nf (fun z => (by rw [h] at z; cases z)), o, r.mono g⟩
  · obtain ⟨a, dx, vs, rfl, h, nf, o, l, r⟩ := r
    exact ⟨a, dx, vs, rfl, g.same _ _ h, fun f => (g.new _ f).elim nf (fun z => (by rw [h] at z; cases z)), o, l, r.mono g⟩
theorem SlotR.mono {i : Nat} (r : SlotR c F H i d v) (g : Grow F H F' H') : SlotR c F' H' i d v := by
  have gen : (if i ∈ c.M then OwnR c F H d v else RD c.G F H d v) → (if i ∈ c.M then OwnR c F' H' d v else RD c.G F' H' d v) := fun r => by
    split at r <;> rename_i h
    · rw [if_pos h]; exact r.mono g
    · rw [if_neg h]; exact r.mono g
  cases d with
  | exn k ds =>
    obtain ⟨n, a, dx, vs, e1, e2, h, l, q⟩ := r
    exact ⟨n, a, dx, vs, e1, e2, g.same _ _ h, l, q.mono g⟩
  | _ => exact gen r
theorem ER.mono (e : ER c ρ F σ H) (g : Grow F H F' H') : ER c ρ F' σ H' where
  len := e.len
  same := fun a o h1 h2 => g.same a o (e.same a o h1 h2)
  up := fun a h => g.up a (e.up a h)
  new := fun a h => (g.new a h).elim (e.new a) fun n => by
    by_cases hp : a ∈ c.P
    · obtain ⟨o, q⟩ := e.pin a hp
      rw [q] at n; cases n
    · cases q : c.H0 a with
      | none => exact .inr rfl
      | some o => rw [e.same a o hp q] at n; cases n
  at_ := fun i d h => let ⟨v, h1, h2⟩ := e.at_ i d h; ⟨v, h1, h2.mono g⟩
  pin := fun a h => let ⟨o, q⟩ := e.pin a h; ⟨o, g.same _ _ q⟩
  there := fun a h => (g.has a h).elim (fun h => let ⟨o, q⟩ := e.there a h; ⟨o, g.same _ _ q⟩) id
  self := e.self
  apart := e.apart
/-- what is not tracked is new and not frozen -/
def Cl (c : Cn) (F : Addr → Prop) (H : Hp) : Prop := ∀ q, H q = none → c.H0 q = none ∧ ¬ F q
theorem ER.cl (E : ER c ρ F σ H) : Cl c F H := fun q hq => by
  refine ⟨?_, fun f => ?_⟩
  · by_cases hp : q ∈ c.P
    · obtain ⟨o, e⟩ := E.pin q hp
      rw [e] at hq; cases hq
    · cases e : c.H0 q with
      | none => rfl
      | some o => rw [E.same q o hp e] at hq; cases hq
  · obtain ⟨o, e⟩ := E.there q f
    rw [e] at hq; cases hq
theorem OwnR.rd (r : OwnR c F H d v) : ∃ a, v = .ref a ∧ (∃ o, H a = some o) ∧ RD c.G (fun b => F b ∨ b = a) H d v := by
  cases d <;> try exact r.elim
  · obtain ⟨a, vs, rfl, h, nf, o, r⟩ := r
    exact ⟨a, rfl, ⟨_, h⟩, .lst h (.inr rfl) (r.grow (fun _ _ h => h) fun _ h => .inl h)⟩
  · obtain ⟨a, dx, vs, rfl, h, nf, o, l, r⟩ := r
    exact ⟨a, rfl, ⟨_, h⟩, .ins h (.inr rfl) rfl l (r.grow (fun _ _ h => h) fun _ h => .inl h)⟩
/-- a slot's value, read -/
theorem ER.read (e : ER c ρ F σ H) {i : Nat} (h : getV ρ i = .ok d) : ∃ v, σ[i]? = some (some v) ∧ Rw c .rd F H d v ∧ (i ∉ c.M → RD c.G F H d v) ∧ (i ∈ c.M → OwnR c F H d v) := by
  have hd : ρ[i]? = some (some d) ∧ ∀ k ds, d ≠ .exn k ds := by
    unfold getV at h
    split at h <;> cases h
    rename_i hn hx
    exact ⟨hx, fun k ds z => hn k ds (z ▸ rfl)⟩
  obtain ⟨v, h1, h2⟩ := e.at_ i d hd.1
  refine ⟨v, h1, ?_⟩
  have h3 : if i ∈ c.M then OwnR c F H d v else RD c.G F H d v := by
    cases d with
    | exn k ds => exact absurd rfl (hd.2 k ds)
    | _ => exact h2
  split at h3
  · rename_i hm
    exact ⟨.inr ⟨rfl, h3⟩, fun n => absurd hm n, fun _ => h3⟩
  · rename_i hm
    exact ⟨.inl h3, fun _ => h3, fun n => absurd n hm⟩
theorem Rw.mono {own : Md} (r : Rw c own F H d v) (g : Grow F H F' H') : Rw c own F' H' d v := r.imp (fun r => r.mono g) fun ⟨o, r⟩ => ⟨o, r.mono g⟩
theorem Rw.items {own : Md} (r : Rw c own F H d v) {ds : List D} (h : items d = some ds) : ∃ a vs, v = .ref a ∧ RDs c.G F H ds vs ∧ (SqT c.G.K H a vs ∨ SqL c.G.K H a vs) := by
  rcases r with r | ⟨_, r⟩
  · cases r <;> simp only [Dn.items, Option.some.injEq] at h <;> first | (cases h; done) | (subst h; rename_i q; exact ⟨_, _, rfl, q, .inl (by assumption)⟩) | (subst h; rename_i q; exact ⟨_, _, rfl, q, .inr (FzL.sq (by assumption))⟩) | (subst h; rename_i q; exact ⟨_, _, rfl, q, .inr (.of (by assumption))⟩)
  · cases d <;> simp only [Dn.items, Option.some.injEq] at h <;> first | (cases h; done) | (exact r.elim; done) | skip
    subst h
    obtain ⟨a, vs, rfl, h, _, _, q⟩ := r
    exact ⟨a, vs, rfl, q, .inr (.of h)⟩
theorem Res.free {F0 : Addr → Prop} {H0 : Hp} {own : Md} (r : Res c own H F' H' d v) (g : Grow F0 H0 F H) : Res c own H0 F' H' d v := by
  cases own with
  | st => exact r
  | rd => exact r
  | fr =>
    have r : FrR c H F' H' d v := r
    show FrR c H0 F' H' d v
    cases d with
    | lst xs => obtain ⟨q, a, e, n⟩ := r; exact ⟨q, a, e, g.free n⟩
    | ins k xs => obtain ⟨q, a, e, n⟩ := r; exact ⟨q, a, e, g.free n⟩
    | _ => exact r
theorem FrR.freeze (r : FrR c H F' H' d v) (g : Grow F H F' H') : ∃ F3, Grow F H F3 H' ∧ (∀ a, F' a → F3 a) ∧ RD c.G F3 H' d v := by
  have key : OwnR c F' H' d v → (∃ a, v = .ref a ∧ H a = none) → ∃ F3, Grow F H F3 H' ∧ (∀ a, F' a → F3 a) ∧ RD c.G F3 H' d v := fun q ⟨a, e, n⟩ => by
    obtain ⟨b, e2, ho, q2⟩ := q.rd
    rw [e] at e2; cases e2
    exact ⟨_, ⟨g.same, fun x h => .inl (g.up x h), fun x h => h.elim (g.new x) fun z => .inr (z ▸ n), fun x h => h.elim (g.has x) fun z => .inr (z ▸ ho)⟩, fun _ h => .inl h, q2⟩
  cases d with
  | lst xs => exact key r.1 r.2
  | ins k xs => exact key r.1 r.2
  | _ => exact ⟨F', g, fun _ h => h, r⟩
end

/-! ### readings -/
def Post (c : Cn) (own : Md) (ρ : Dn.Env) (σ : St) (r : R D) (F : Addr → Prop) (H : Hp) (Q : VK) : Prop := match r with
  | .ok d => ∀ v F' H', Grow F H F' H' → Res c own H F' H' d v → Q v H'
  | .exc k ds => ∀ dx vs F' H', Grow F H F' H' → H' dx = some (.xd ((c.G.names k ds.length).zip vs)) → ds.length ≤ (c.G.T.flds k).length → RDs c.G F' H' ds vs → c.W (.ref (c.G.C k)) (some dx) σ H'
  | .bad => False
inductive RWs (c : Cn) (own : Md) (F : Addr → Prop) (H : Hp) : List D → List V → Prop where
  | nil : RWs c own F H [] []
  | cons {d : D} {v : V} {ds : List D} {vs : List V} (r : Rw c own F H d v) (rs : RWs c own F H ds vs) : RWs c own F H (d :: ds) (v :: vs)
theorem RWs.st {c : Cn} {F : Addr → Prop} {H : Hp} {ds : List D} {vs : List V} (r : RWs c .st F H ds vs) : RDs c.G F H ds vs := by
  induction r with
  | nil => exact .nil
  | cons r _ ih => exact .cons (r.elim id fun z => by cases z.1) ih
theorem RWs.mono {c : Cn} {own : Md} {F F' : Addr → Prop} {H H' : Hp} {ds : List D} {vs : List V} (r : RWs c own F H ds vs) (g : Grow F H F' H') : RWs c own F' H' ds vs := by
  induction r with
  | nil => exact .nil
  | cons r _ ih => exact .cons (r.mono g) ih
theorem RWs.length {c : Cn} {own : Md} {F : Addr → Prop} {H : Hp} {ds : List D} {vs : List V} (r : RWs c own F H ds vs) : ds.length = vs.length := by
  induction r with
  | nil => rfl
  | cons r _ ih => simp [ih]
def PostA (c : Cn) (own : Md) (σ : St) (r : R (List D)) (F : Addr → Prop) (H : Hp) (Q : List V → Hp → Prop) : Prop := match r with
  | .ok ds => ∀ vs F' H', Grow F H F' H' → RWs c own F' H' ds vs → Q vs H'
  | .exc k ds => ∀ dx vs F' H', Grow F H F' H' → H' dx = some (.xd ((c.G.names k ds.length).zip vs)) → ds.length ≤ (c.G.T.flds k).length → RDs c.G F' H' ds vs → c.W (.ref (c.G.C k)) (some dx) σ H'
  | .bad => False
def PostT (c : Cn) (σ : St) (r : R D) (F : Addr → Prop) (H : Hp) (Q : Bool → Hp → Prop) : Prop := match r with
  | .ok d => ∃ b, truth d = some b ∧ ∀ F' H', Grow F H F' H' → Q b H'
  | .exc k ds => ∀ dx vs F' H', Grow F H F' H' → H' dx = some (.xd ((c.G.names k ds.length).zip vs)) → ds.length ≤ (c.G.T.flds k).length → RDs c.G F' H' ds vs → c.W (.ref (c.G.C k)) (some dx) σ H'
  | .bad => False
def tE (c : Cn) (own : Md) (f : Dn.Env → R D) : TE := fun σ H Q => ∃ ρ F, ER c ρ F σ H ∧ Post c own ρ σ (f ρ) F H Q
def tA (c : Cn) (own : Md) (f : Dn.Env → R (List D)) : TA := fun σ H Q => ∃ ρ F, ER c ρ F σ H ∧ PostA c own σ (f ρ) F H Q
def tT (c : Cn) (f : Dn.Env → R D) : TT := fun σ H Q => ∃ ρ F, ER c ρ F σ H ∧ PostT c σ (f ρ) F H Q
structure DE (X : Cx) (c : Cn) (own : Md) (e : Expr) (ie : IE) : Prop where
  pe : PE X e (tE c own (eval c.G.T c.C ie))
structure DA (X : Cx) (c : Cn) (own : Md) (es : List Expr) (ies : List IE) : Prop where
  pa : PA X es (tA c own (evals c.G.T c.C ies))
structure DT (X : Cx) (c : Cn) (e : Expr) (ie : IE) : Prop where
  pt : PT X e (tT c (eval c.G.T c.C ie))
theorem _root_.L2.PE.of {X : Cx} {e : Expr} {t t' : TE} (h : PE X e t) (m : ∀ σ H Q, t' σ H Q → t σ H Q) : PE X e t' := ⟨fun pins s σ H Q I q => h.run pins s σ H Q I (m σ H Q q)⟩
theorem _root_.L2.PA.of {X : Cx} {es : List Expr} {t t' : TA} (h : PA X es t) (m : ∀ σ H Q, t' σ H Q → t σ H Q) : PA X es t' := ⟨fun pos pins s σ H Q I q => h.run pos pins s σ H Q I (m σ H Q q)⟩
theorem _root_.L2.PT.of {X : Cx} {e : Expr} {t t' : TT} (h : PT X e t) (m : ∀ σ H Q, t' σ H Q → t σ H Q) : PT X e t' := ⟨fun pins s σ H Q I q => h.run pins s σ H Q I (m σ H Q q)⟩

section
variable {X : Cx} {c : Cn} {F F' : Addr → Prop} {H H' : Hp} {ρ : Dn.Env} {σ : St} {Q : VK} {own own1 own2 : Md} {a b e : Expr} {ia ib ie : IE} {pos : Pos}
theorem Post.mono {r : R D} (p : Post c own ρ σ r F H Q) (g : Grow F H F' H') : Post c own ρ σ r F' H' Q := by
  cases r with
  | ok d => exact fun v F2 H2 g2 r => p v F2 H2 (g.trans g2) (r.free g)
  | exc k ds => exact fun dx vs F2 H2 g2 h l r => p dx vs F2 H2 (g.trans g2) h l r
  | bad => exact p
/-- a strict value is a value -/
theorem DE.weak (h : DE X c .st e ie) : DE X c .rd e ie := ⟨h.pe.of fun σ H Q ⟨ρ, F, E, p⟩ => ⟨ρ, F, E, by
  revert p
  cases Dn.eval c.G.T c.C ie ρ with
  | ok d => exact fun p v F2 H2 g2 r => p v F2 H2 g2 (.inl (r.elim id fun z => by cases z.1))
  | exc k ds => exact id
  | bad => exact id⟩⟩
theorem DE.wk (h : DE X c .st e ie) (ho : own ≠ .fr) : DE X c own e ie := by
  cases own with
  | st => exact h
  | rd => exact h.weak
  | fr => exact absurd rfl ho
/-- a new one is a value of any kind -/
theorem DE.any (h : DE X c .fr e ie) : DE X c own e ie := by
  have key : ∀ m : Md, m ≠ .fr → DE X c m e ie := fun m hm => ⟨h.pe.of fun σ H Q ⟨ρ, F, E, p⟩ => ⟨ρ, F, E, by
    revert p
    cases Dn.eval c.G.T c.C ie ρ with
    | ok d =>
      intro p v F2 H2 g2 r
      have r : FrR c H F2 H2 d v := r
      obtain ⟨F3, g3, _, r3⟩ := r.freeze g2
      exact p v F3 H2 g3 (by cases m with
        | st => exact .inl r3
        | rd => exact .inl r3
        | fr => exact absurd rfl hm)
    | exc k ds => exact id
    | bad => exact id⟩⟩
  cases own with
  | st => exact key _ (by decide)
  | rd => exact key _ (by decide)
  | fr => exact h

/-! names and constants -/
theorem d_var {i : Nat} {x : Str} (hN : X.N[i]? = some x) (hv : Vis X.env.scope x) (ho : own ≠ .fr := by decide) (hm : c.M.contains i = false := by rfl) (hd : (x == ("__debug__" : Str)) = false := by decide) (hcd : (x == ("__classdict__" : Str)) = false := by decide) : DE X c own (.Name x pos) (.var i) := by
  refine DE.wk ⟨(pe_var hN hv hd hcd).of fun σ H Q ⟨ρ, F, E, p⟩ => ?_⟩ ho
  have hm' : i ∉ c.M := fun z => by rw [List.contains_iff_mem.mpr z] at hm; cases hm
  replace p : Post c _ ρ σ (getV ρ i) F H Q := p
  cases q : getV ρ i with
  | ok d =>
    rw [q] at p
    obtain ⟨v, h1, _, h3, _⟩ := E.read q
    exact ⟨v, h1, p v F H .refl (.inl (h3 hm'))⟩
  | exc k ds =>
    unfold getV at q; split at q <;> cases q
  | bad => rw [q] at p; exact p.elim
/-- .. read, of any kind -/
theorem d_varO {i : Nat} {x : Str} (hN : X.N[i]? = some x) (hv : Vis X.env.scope x) (hd : (x == ("__debug__" : Str)) = false := by decide) (hcd : (x == ("__classdict__" : Str)) = false := by decide) : DE X c .rd (.Name x pos) (.var i) := by
  refine ⟨(pe_var hN hv hd hcd).of fun σ H Q ⟨ρ, F, E, p⟩ => ?_⟩
  replace p : Post c _ ρ σ (getV ρ i) F H Q := p
  cases q : getV ρ i with
  | ok d =>
    rw [q] at p
    obtain ⟨v, h1, h2, _⟩ := E.read q
    exact ⟨v, h1, p v F H .refl h2⟩
  | exc k ds =>
    unfold getV at q; split at q <;> cases q
  | bad => rw [q] at p; exact p.elim
theorem d_int {i : Int} {j : Nat} : DE X c own (.Constant (.int i) j pos) (.int i) := DE.any ⟨pe_int.of fun σ H Q ⟨ρ, F, E, p⟩ => p _ F H .refl (RD.int i)⟩
theorem d_bl {i : Bool} {j : Nat} : DE X c own (.Constant (.bool i) j pos) (.bl i) := DE.any ⟨pe_bl.of fun σ H Q ⟨ρ, F, E, p⟩ => p _ F H .refl (RD.bl i)⟩
theorem d_non {j : Nat} : DE X c own (.Constant .none j pos) .non := DE.any ⟨pe_non.of fun σ H Q ⟨ρ, F, E, p⟩ => p _ F H .refl RD.non⟩
theorem d_str {i : Str} {j : Nat} : DE X c own (.Constant (.str i) j pos) (.str i) := DE.any ⟨pe_str.of fun σ H Q ⟨ρ, F, E, p⟩ => p _ F H .refl (RD.str i)⟩

structure GOk (G : Gl) : Prop where
  cls : ∀ k, (G.T.init k).isSome = true → Cls G.K (G.C k)
  no : ∀ k n, (G.T.init k).isSome = true → n ∈ G.T.flds k → NoAttr G.K (G.C k) (G.F n)
  nd : ∀ k, ((G.T.flds k).map G.F).Nodup
  few : ∀ k, (G.T.flds k).length < 1000
structure Fit (X : Cx) (c : Cn) : Prop where
  ok : GOk c.G
  K : X.K = c.G.K
  mg : X.mg = c.G.mg
  un : X.A.units + 100 < cLine
  tk : Takes X c.W

/-! one part after the other -/
theorem E1 {g : D → R D} {R' : VK} (E : ER c ρ F σ H) (p : Post c own ρ σ ((Dn.eval c.G.T c.C ia ρ).bind g) F H Q)
    (k : ∀ d v F1 H1, Dn.eval c.G.T c.C ia ρ = .ok d → Grow F H F1 H1 → ER c ρ F1 σ H1 → Res c own1 H F1 H1 d v → Post c own ρ σ (g d) F1 H1 Q → R' v H1) : tE c own1 (Dn.eval c.G.T c.C ia) σ H R' := by
  refine ⟨ρ, F, E, ?_⟩
  cases q : Dn.eval c.G.T c.C ia ρ with
  | ok d =>
    rw [q] at p
    exact fun v F1 H1 gr r => k d v F1 H1 q gr (E.mono gr) r (Post.mono p gr)
  | exc n ds => rw [q] at p; exact p
  | bad => rw [q] at p; exact p
theorem EA {g : List D → R D} {es : List IE} {R' : List V → Hp → Prop} (E : ER c ρ F σ H) (p : Post c own ρ σ ((Dn.evals c.G.T c.C es ρ).bind g) F H Q)
    (k : ∀ ds vs F1 H1, Dn.evals c.G.T c.C es ρ = .ok ds → Grow F H F1 H1 → ER c ρ F1 σ H1 → RWs c own1 F1 H1 ds vs → Post c own ρ σ (g ds) F1 H1 Q → R' vs H1) : tA c own1 (Dn.evals c.G.T c.C es) σ H R' := by
  refine ⟨ρ, F, E, ?_⟩
  cases q : Dn.evals c.G.T c.C es ρ with
  | ok d =>
    rw [q] at p
    exact fun v F1 H1 gr r => k d v F1 H1 q gr (E.mono gr) r (Post.mono p gr)
  | exc n ds => rw [q] at p; exact p
  | bad => rw [q] at p; exact p

/-! argument lists -/
theorem da_nil : DA X c own [] [] := ⟨pa_nil.of fun σ H Q ⟨ρ, F, E, p⟩ => p [] F H .refl .nil⟩
theorem da_cons {es : List Expr} {ies : List IE} (ha : DE X c own e ie) (hr : DA X c own es ies) (ho : own ≠ .fr := by decide) (hs : starEach (e :: es) X.env = (false, PySem.eval e X.env) :: starEach es X.env := by rfl) : DA X c own (e :: es) (ie :: ies) := by
  refine ⟨(pa_cons ha.pe hr.pa hs).of fun σ H Q ⟨ρ, F, E, p⟩ => ?_⟩
  refine ⟨ρ, F, E, ?_⟩
  replace p : PostA c own σ ((Dn.eval c.G.T c.C ie ρ).bind fun d => (Dn.evals c.G.T c.C ies ρ).bind fun ds => .ok (d :: ds)) F H Q := p
  cases q : Dn.eval c.G.T c.C ie ρ with
  | ok d =>
    rw [q] at p
    intro v F1 H1 g1 r1
    refine ⟨ρ, F1, E.mono g1, ?_⟩
    replace p : PostA c own σ ((Dn.evals c.G.T c.C ies ρ).bind fun ds => .ok (d :: ds)) F H Q := p
    have r1' : Rw c own F1 H1 d v := by
      cases own with
      | st => exact r1
      | rd => exact r1
      | fr => exact absurd rfl ho
    cases q2 : Dn.evals c.G.T c.C ies ρ with
    | ok ds => rw [q2] at p; exact fun vs F2 H2 g2 r2 => p (v :: vs) F2 H2 (g1.trans g2) (.cons (r1'.mono g2) r2)
    | exc n ds => rw [q2] at p; exact fun dx vs F2 H2 g2 => p dx vs F2 H2 (g1.trans g2)
    | bad => rw [q2] at p; exact p
  | exc n ds => rw [q] at p; exact p
  | bad => rw [q] at p; exact p

/-! tuples, lists -/
theorem sizeLine_ge {n : Nat} (h : n ≤ 16000000) : n ≤ sizeLine := by rw [sizeLine_eq]; omega
theorem evals_length {T : Tab} {C : Calls} {ρ : Dn.Env} : ∀ (ies : List IE) (ds : List D), Dn.evals T C ies ρ = .ok ds → ds.length = ies.length := by
  intro ies
  induction ies with
  | nil => intro ds h; cases h; rfl
  | cons i ies ih =>
    intro ds h
    replace h : ((Dn.eval T C i ρ).bind fun d => (Dn.evals T C ies ρ).bind fun ds => R.ok (d :: ds)) = .ok ds := h
    cases q : Dn.eval T C i ρ with
    | ok d =>
      rw [q] at h
      cases q2 : Dn.evals T C ies ρ with
      | ok es => rw [R.bind_ok, q2] at h; cases h; simp [ih es q2]
      | exc n xs => rw [R.bind_ok, q2] at h; cases h
      | bad => rw [R.bind_ok, q2] at h; cases h
    | exc n xs => rw [q] at h; cases h
    | bad => rw [q] at h; cases h
theorem d_tup {es : List Expr} {ies : List IE} {x1} (h : DA X c .st es ies) (hl : es.length ≤ 1000 := by decide) (hl' : ies.length ≤ 1000 := by decide) : DE X c own (.Tuple es x1 pos) (.tup ies) := by
  refine DE.any ⟨(pe_tup h.pa).of fun σ H Q ⟨ρ, F, E, p⟩ => ?_⟩
  refine EA E p fun ds vs F1 H1 q g1 E1 r1 p1 => ?_
  have hlen : ds.length ≤ 1000 := by rw [evals_length _ _ q]; exact hl'
  refine ⟨sizeLine_ge (by rw [← r1.length]; omega), fun pp hp => ?_⟩
  exact p1 _ F1 _ (.laid hp) (RD.tup (.of upd_same) (r1.st.mono (.laid hp)))
theorem d_lst {es : List Expr} {ies : List IE} (h : DA X c .st es ies) (hl' : ies.length ≤ 1000 := by decide) : DE X c own (.List es pos) (.lst ies) := by
  refine DE.any ⟨(pe_lst h.pa).of fun σ H Q ⟨ρ, F, E, p⟩ => ?_⟩
  refine EA E p fun ds vs F1 H1 q g1 E1 r1 p1 => ?_
  have hlen : ds.length ≤ 1000 := by rw [evals_length _ _ q]; exact hl'
  refine ⟨sizeLine_ge (by rw [← r1.length]; omega), fun pp hp => ?_⟩
  exact p1 _ F1 _ (.laid hp) ⟨⟨pp, vs, rfl, upd_same, (E1.cl pp hp).2, .inr (E1.cl pp hp).1, r1.st.mono (.laid hp)⟩, pp, rfl, hp⟩
end
end Sd
set_option Elab.async false
set_option linter.all false
set_option autoImplicit false
set_option maxRecDepth 100000
set_option maxHeartbeats 4000000
/-! Operators, comparisons. -/
namespace Sd
open PySem L2 Dn PyProof.Rows

section
variable {c : Cn} {F F' : Addr → Prop} {H H' : Hp} {own : Md} {v : V}
theorem Rw.int {i : Int} (r : Rw c own F H (.int i) v) : v = .int i := by
  rcases r with r | ⟨_, r⟩
  · cases r; rfl
  · exact r.elim
theorem Rw.bl {b : Bool} (r : Rw c own F H (.bl b) v) : v = .bl b := by
  rcases r with r | ⟨_, r⟩
  · cases r; rfl
  · exact r.elim
theorem Rw.non (r : Rw c own F H .non v) : v = .non := by
  rcases r with r | ⟨_, r⟩
  · cases r; rfl
  · exact r.elim
theorem Rw.str {x : Str} (r : Rw c own F H (.str x) v) : v = .str x := by
  rcases r with r | ⟨_, r⟩
  · cases r; rfl
  · exact r.elim
theorem Rw.tup {ds : List D} (r : Rw c own F H (.tup ds) v) : ∃ a vs, v = .ref a ∧ SqT c.G.K H a vs ∧ RDs c.G F H ds vs := by
  rcases r with r | ⟨_, r⟩
  · cases r with
    | tup h r => exact ⟨_, _, rfl, h, r⟩
  · exact r.elim
theorem Rw.lst {ds : List D} (r : Rw c own F H (.lst ds) v) : ∃ a vs, v = .ref a ∧ H a = some (.lst vs) ∧ RDs c.G F H ds vs := by
  rcases r with r | ⟨_, r⟩
  · cases r with
    | lst h f r => exact ⟨_, _, rfl, h, r⟩
  · obtain ⟨a, vs, e, h, _, _, r⟩ := r
    exact ⟨a, vs, e, h, r⟩
theorem Rw.fls {ds : List D} (r : Rw c own F H (.fls ds) v) : ∃ a vs, v = .ref a ∧ SqL c.G.K H a vs ∧ RDs c.G F H ds vs := by
  rcases r with r | ⟨_, r⟩
  · cases r with
    | fls h r => exact ⟨_, _, rfl, h.sq, r⟩
  · exact r.elim
theorem Rw.ins {k : Nat} {ds : List D} (r : Rw c own F H (.ins k ds) v) : ∃ a dx vs, v = .ref a ∧ H a = some (.ins (c.G.C k) dx ((c.G.names k ds.length).zip vs)) ∧ ds.length ≤ (c.G.T.flds k).length ∧ RDs c.G F H ds vs := by
  rcases r with r | ⟨_, r⟩
  · cases r with
    | ins h f n l r => subst n; exact ⟨_, _, _, rfl, h, l, r⟩
  · obtain ⟨a, dx, vs, e, h, _, _, l, r⟩ := r
    exact ⟨a, dx, vs, e, h, l, r⟩
theorem Rw.not_exn {k : Nat} {ds : List D} (r : Rw c own F H (.exn k ds) v) : False := by
  rcases r with r | ⟨_, r⟩
  · cases r
  · exact r.elim
theorem Rw.strict {d : D} (r : Rw c .st F H d v) : RD c.G F H d v := r.elim id fun z => by cases z.1
theorem Rw.any {d : D} (r : RD c.G F H d v) : Rw c own F H d v := .inl r
theorem Rw.wide {d : D} (r : Rw c own F H d v) : Rw c .rd F H d v := r.imp id fun z => ⟨rfl, z.2⟩
theorem flats_cons {d : D} {ds : List D} (h : flats (d :: ds) = true) : flat d = true ∧ flats ds = true := by
  rw [flats, Bool.and_eq_true] at h; exact h
mutual
theorem RD.dp {G : Gl} {d : D} {v : V} : RD G F H d v → flat d = true → Dp G.K H v (py d)
  | .non, _ => .non
  | .bl b, _ => .bl b
  | .int i, _ => .int i
  | .str x, _ => .str x
  | .tup h r, f => by rw [py]; exact .tup h (RDs.dp r (by rw [flat] at f; exact f))
  | .lst h _ r, f => by rw [py]; exact .lst (.of h) (RDs.dp r (by rw [flat] at f; exact f))
  | .fls _ _, f => by rw [flat] at f; cases f
  | .ins _ _ _ _ _, f => by rw [flat] at f; cases f
theorem RDs.dp {G : Gl} {ds : List D} {vs : List V} : RDs G F H ds vs → flats ds = true → DpAll G.K H vs (pys ds)
  | .nil, _ => by rw [pys]; exact .nil
  | .cons r rs, f => by rw [pys]; exact .cons (RD.dp r (flats_cons f).1) (RDs.dp rs (flats_cons f).2)
end
theorem Rw.dp {d : D} (r : Rw c own F H d v) (f : flat d = true) : Dp c.G.K H v (py d) := by
  rcases r with r | ⟨_, r⟩
  · exact r.dp f
  · cases d <;> try exact r.elim
    · obtain ⟨a, vs, rfl, h, _, _, r⟩ := r
      rw [py]
      exact .lst (.of h) (r.dp (by rw [flat] at f; exact f))
    · rw [flat] at f; cases f
end
mutual
theorem flat_lay : ∀ {d : D}, flat d = true → (py d).canLay0 = true
  | .tup xs, f => by rw [py, PyData.canLay0]; exact flats_lay (by rw [flat] at f; exact f)
  | .lst xs, f => by rw [py, PyData.canLay0]; exact flats_lay (by rw [flat] at f; exact f)
  | .fls xs, f => by rw [flat] at f; cases f
  | .ins k xs, f => by rw [flat] at f; cases f
  | .exn k xs, f => by rw [flat] at f; cases f
  | .non, f => by rw [py]; rfl
  | .bl b, f => by rw [py]; rfl
  | .int i, f => by rw [py]; rfl
  | .str x, f => by rw [py, PyData.canLay0]; rw [flat] at f; exact f
theorem flats_lay : ∀ {ds : List D}, flats ds = true → PyData.canLayAll0 (pys ds) = true
  | [], f => by rw [pys]; rfl
  | d :: ds, f => by rw [pys, PyData.canLayAll0, flat_lay (flats_cons f).1, flats_lay (flats_cons f).2]; rfl
end
mutual
theorem dep_py : ∀ (d : D), flat d = true → (py d).depth = dep d
  | .tup xs, f => by rw [py, PyData.depth, dep, deps_py xs (by rw [flat] at f; exact f)]
  | .lst xs, f => by rw [py, PyData.depth, dep, deps_py xs (by rw [flat] at f; exact f)]
  | .fls xs, f => by rw [flat] at f; cases f
  | .ins k xs, f => by rw [flat] at f; cases f
  | .exn k xs, f => by rw [flat] at f; cases f
  | .non, f => by rw [py, PyData.depth, dep] <;> nofun
  | .bl b, f => by rw [py, PyData.depth, dep] <;> nofun
  | .int i, f => by rw [py, PyData.depth, dep] <;> nofun
  | .str x, f => by rw [py, PyData.depth, dep] <;> nofun
theorem deps_py : ∀ (ds : List D), flats ds = true → PyData.depthAll (pys ds) = deps ds
  | [], f => by rw [pys, PyData.depthAll, deps]
  | d :: ds, f => by rw [pys, PyData.depthAll, deps, dep_py d (flats_cons f).1, deps_py ds (flats_cons f).2]
end
theorem eqOk_shaped {d : D} (h : eqOk d = true) : flat d = true ∧ SeqAt.shaped (py d) = true ∧ (py d).depth ≤ 40 := by
  unfold eqOk at h
  rw [Bool.and_eq_true] at h
  have hd : (py d).depth ≤ 40 := by rw [dep_py d h.1]; exact of_decide_eq_true h.2
  refine ⟨h.1, ?_, hd⟩
  unfold SeqAt.shaped
  rw [flat_lay h.1]
  simp; omega
theorem anyEq_any (a : D) : ∀ xs : List D, anyEq a xs = (pys xs).any fun z => PyData.eqv z (py a)
  | [] => by rw [pys]; rfl
  | x :: xs => by rw [pys, anyEq, List.any_cons, anyEq_any a xs]; rfl

/-! ### comparisons -/
def opC : COp → CmpOp
  | .eq => .Eq | .ne => .NotEq | .lt => .Lt | .le => .LtE | .gt => .Gt | .ge => .GtE | .is_ => .Is | .isnot => .IsNot | .in_ => .In | .notin => .NotIn
def rC (c : Cn) (o : COp) : R2 := fun x y H Q => ∃ F dx dy b, Rw c .rd F H dx x ∧ Rw c .rd F H dy y ∧ Dn.cmp o dx dy = .ok (.bl b) ∧ Q (.bl b) H
theorem isnon_iff {c : Cn} {own : Md} {F : Addr → Prop} {H : Hp} {d : D} {v : V} (r : Rw c own F H d v) : decide (v = .non) = Dn.isNon d := by
  rcases r with r | ⟨_, r⟩
  · cases r <;> simp [Dn.isNon]
  · cases d <;> first | exact r.elim | (obtain ⟨a, vs, rfl, _⟩ := r; simp [Dn.isNon]; done) | (obtain ⟨a, dx, vs, rfl, _⟩ := r; simp [Dn.isNon]; done)
theorem fits {X : Cx} {c : Cn} (fit : Fit X c) : X.A.units + 64 < cLine ∧ X.A.units + 65 < cLine := by have := fit.un; omega
theorem op_cmp {X : Cx} {c : Cn} (fit : Fit X c) : ∀ o, OpR X (compareOp (opC o)) (rC c o)
  | .eq => by
    intro pins s σ H x y v u Q I rx ry ⟨F, dx, dy, b, r1, r2, e, q⟩
    simp only [Dn.cmp] at e
    split at e
    · rename_i h
      rw [Bool.and_eq_true] at h
      obtain ⟨f1, s1, _⟩ := eqOk_shaped h.1
      obtain ⟨f2, s2, _⟩ := eqOk_shaped h.2
      injection e with e; injection e with e; subst e
      exact op_eqD (fits fit).1 pins s σ H x y v u Q I rx ry ⟨_, _, fit.K ▸ r1.dp f1, fit.K ▸ r2.dp f2, s1, s2, q⟩
    · cases e
  | .ne => by
    intro pins s σ H x y v u Q I rx ry ⟨F, dx, dy, b, r1, r2, e, q⟩
    simp only [Dn.cmp] at e
    split at e
    · rename_i h
      rw [Bool.and_eq_true] at h
      obtain ⟨f1, s1, _⟩ := eqOk_shaped h.1
      obtain ⟨f2, s2, _⟩ := eqOk_shaped h.2
      injection e with e; injection e with e; subst e
      exact op_neD (fits fit).1 pins s σ H x y v u Q I rx ry ⟨_, _, fit.K ▸ r1.dp f1, fit.K ▸ r2.dp f2, s1, s2, q⟩
    · cases e
  | .lt => by
    intro pins s σ H x y v u Q I rx ry ⟨F, dx, dy, b, r1, r2, e, q⟩
    simp only [Dn.cmp] at e
    split at e
    · rename_i h
      unfold ltOk at h
      rw [Bool.and_eq_true, Bool.and_eq_true, Bool.and_eq_true] at h
      obtain ⟨⟨⟨h1, h2⟩, h3⟩, h4⟩ := h
      obtain ⟨f1, s1, d1⟩ := eqOk_shaped h1
      obtain ⟨f2, s2, d2⟩ := eqOk_shaped h2
      injection e with e; injection e with e; subst e
      obtain ⟨as, q1⟩ := Dp.reads I _ x v (fit.K ▸ r1.dp f1) rx
      obtain ⟨bs, q2⟩ := Dp.reads I _ y u (fit.K ▸ r2.dp f2) ry
      refine PySem.W.lt_data q1 q2 h3 ?_ ?_ ⟨.bl _, H, I, rfl, q⟩
      · cases dx <;> simp [py] at h4 ⊢
      · have := fit.un; have := Nat.min_le_left (py dx).depth (py dy).depth; omega
    · cases e
  | .gt => by
    intro pins s σ H x y v u Q I rx ry ⟨F, dx, dy, b, r1, r2, e, q⟩
    simp only [Dn.cmp] at e
    split at e
    · rename_i h
      unfold ltOk at h
      rw [Bool.and_eq_true, Bool.and_eq_true, Bool.and_eq_true] at h
      obtain ⟨⟨⟨h1, h2⟩, h3⟩, h4⟩ := h
      obtain ⟨f1, s1, d1⟩ := eqOk_shaped h1
      obtain ⟨f2, s2, d2⟩ := eqOk_shaped h2
      injection e with e; injection e with e; subst e
      obtain ⟨as, q1⟩ := Dp.reads I _ x v (fit.K ▸ r1.dp f1) rx
      obtain ⟨bs, q2⟩ := Dp.reads I _ y u (fit.K ▸ r2.dp f2) ry
      refine PySem.W.gt_data q1 q2 h3 ?_ ?_ ⟨.bl _, H, I, rfl, q⟩
      · cases dx <;> simp [py] at h4 ⊢
      · have := fit.un; have := Nat.min_le_left (py dx).depth (py dy).depth; omega
    · cases e
  | .le => by
    intro pins s σ H x y v u Q I rx ry ⟨F, dx, dy, b, r1, r2, e, q⟩
    simp only [Dn.cmp] at e
    split at e
    · injection e with e; injection e with e; subst e
      cases r1.int; cases r2.int
      exact op_le pins s σ H _ _ v u Q I rx ry ⟨_, _, rfl, rfl, q⟩
    · cases e
  | .ge => by
    intro pins s σ H x y v u Q I rx ry ⟨F, dx, dy, b, r1, r2, e, q⟩
    simp only [Dn.cmp] at e
    split at e
    · injection e with e; injection e with e; subst e
      cases r1.int; cases r2.int
      exact op_ge pins s σ H _ _ v u Q I rx ry ⟨_, _, rfl, rfl, q⟩
    · cases e
  | .is_ => by
    intro pins s σ H x y v u Q I rx ry ⟨F, dx, dy, b, r1, r2, e, q⟩
    simp only [Dn.cmp] at e
    split at e
    · injection e with e; injection e with e; subst e
      refine op_isN pins s σ H _ _ v u Q I rx ry ⟨r2.non, ?_⟩
      rw [isnon_iff r1]; exact q
    · cases e
  | .isnot => by
    intro pins s σ H x y v u Q I rx ry ⟨F, dx, dy, b, r1, r2, e, q⟩
    simp only [Dn.cmp] at e
    split at e
    · injection e with e; injection e with e; subst e
      refine op_notN pins s σ H _ _ v u Q I rx ry ⟨r2.non, ?_⟩
      rw [isnon_iff r1]; exact q
    · cases e
  | .in_ => by
    intro pins s σ H x y v u Q I rx ry ⟨F, dx, dy, b, r1, r2, e, q⟩
    simp only [Dn.cmp] at e
    split at e <;> first | (cases e; done) | skip
    all_goals (split at e <;> first | (cases e; done) | skip)
    all_goals
      rename_i h
      rw [Bool.and_eq_true] at h
      obtain ⟨f1, s1, _⟩ := eqOk_shaped h.1
      obtain ⟨f2, s2, _⟩ := eqOk_shaped h.2
      injection e with e; injection e with e; subst e
      obtain ⟨as, q1⟩ := Dp.reads I _ x v (fit.K ▸ r1.dp f1) rx
      obtain ⟨bs, q2⟩ := Dp.reads I _ y u (fit.K ▸ r2.dp f2) ry
      rw [anyEq_any] at q
      rw [py] at q2
      have s2' := SeqAt.canLay_of_shaped s2
      rw [py, PyData.canLay0] at s2'
    · exact SeqAt.in_tuple_reads q2 q1 s2' (SeqAt.canLay_of_shaped s1) (room_in_shaped s1 (fits fit).2) ⟨.bl _, H, I, rfl, q⟩
    · exact SeqAt.in_list_reads q2 q1 s2' (SeqAt.canLay_of_shaped s1) (room_in_shaped s1 (fits fit).2) ⟨.bl _, H, I, rfl, q⟩
  | .notin => by
    intro pins s σ H x y v u Q I rx ry ⟨F, dx, dy, b, r1, r2, e, q⟩
    simp only [Dn.cmp] at e
    split at e <;> first | (cases e; done) | skip
    all_goals (split at e <;> first | (cases e; done) | skip)
    all_goals
      rename_i h
      rw [Bool.and_eq_true] at h
      obtain ⟨f1, s1, _⟩ := eqOk_shaped h.1
      obtain ⟨f2, s2, _⟩ := eqOk_shaped h.2
      injection e with e; injection e with e; subst e
      obtain ⟨as, q1⟩ := Dp.reads I _ x v (fit.K ▸ r1.dp f1) rx
      obtain ⟨bs, q2⟩ := Dp.reads I _ y u (fit.K ▸ r2.dp f2) ry
      rw [anyEq_any] at q
      rw [py] at q2
      have s2' := SeqAt.canLay_of_shaped s2
      rw [py, PyData.canLay0] at s2'
    · exact SeqAt.notIn_tuple_reads q2 q1 s2' (SeqAt.canLay_of_shaped s1) (room_in_shaped s1 (fits fit).2) ⟨.bl _, H, I, rfl, q⟩
    · exact SeqAt.notIn_list_reads q2 q1 s2' (SeqAt.canLay_of_shaped s1) (room_in_shaped s1 (fits fit).2) ⟨.bl _, H, I, rfl, q⟩
end Sd
set_option Elab.async false
set_option linter.all false
set_option autoImplicit false
set_option maxRecDepth 100000
set_option maxHeartbeats 4000000
/-! Expressions: operators, truth, parts. -/
namespace Sd
open PySem L2 Dn PyProof.Rows

section
variable {X : Cx} {c : Cn} {F F' : Addr → Prop} {H H' : Hp} {ρ : Dn.Env} {σ : L2.St} {own own1 own2 : Md} {a b e : Expr} {ia ib ie ic : IE} {pos : Pos}
def PostV (c : Cn) (own : Md) (r : R D) (F : Addr → Prop) (H : Hp) (Q : VK) : Prop := match r with
  | .ok d => ∀ v F' H', Grow F H F' H' → Res c own H F' H' d v → Q v H'
  | _ => False
/-- a result that is no exception -/
def noX (r : R D) : Prop := match r with | .exc _ _ => False | _ => True
theorem Post.val {r : R D} {Q : VK} (p : Post c own ρ σ r F H Q) (n : noX r) : PostV c own r F H Q := by
  cases r with
  | ok d => exact p
  | exc k ds => exact n.elim
  | bad => exact p

/-! ### operators -/
def opB : BOp → Operator
  | .add => .Add | .sub => .Sub | .mul => .Mult | .fdiv => .FloorDiv | .mod => .Mod | .pow => .Pow | .band => .BitAnd | .bxor => .BitXor
def rB (c : Cn) (o : BOp) : R2 := fun x y H Q => ∃ F dx dy, Cl c F H ∧ Rw c .rd F H dx x ∧ Rw c .rd F H dy y ∧ PostV c .fr (Dn.bin o dx dy) F H Q
theorem line_ok {n : Nat} (h : n ≤ Dn.line) : n ≤ sizeLine := sizeLine_ge h
theorem RDs.rep {G : Gl} {ds : List D} {vs : List V} (r : RDs G F H ds vs) : ∀ n : Nat, RDs G F H (List.replicate n ds).flatten (List.replicate n vs).flatten
  | 0 => .nil
  | n + 1 => by rw [List.replicate_succ, List.replicate_succ, List.flatten_cons, List.flatten_cons]; exact r.append (RDs.rep r n)
theorem PostV.int {i : Int} {Q : VK} (p : PostV c .fr (.ok (.int i)) F H Q) : Q (.int i) H := p _ F H .refl (RD.int i)
theorem PostV.lst {ds : List D} {vs : List V} {Q : VK} (p : PostV c .fr (.ok (.lst ds)) F H Q) (cl : Cl c F H) (r : RDs c.G F H ds vs) {q : Addr} (hq : H q = none) : Q (.ref q) (upd H q (.lst vs)) :=
  p _ _ _ (.laid hq) ⟨⟨q, vs, rfl, upd_same, (cl q hq).2, .inr (cl q hq).1, r.mono (.laid hq)⟩, q, rfl, hq⟩
theorem PostV.tup {ds : List D} {vs : List V} {Q : VK} (p : PostV c .fr (.ok (.tup ds)) F H Q) (r : RDs c.G F H ds vs) {q : Addr} (hq : H q = none) : Q (.ref q) (upd H q (.tup vs)) :=
  p _ _ _ (.laid hq) (RD.tup (.of upd_same) (r.mono (.laid hq)))
theorem small_ok {i j : Int} (h : (small i || small j) = true) : CMul i j := by
  unfold small at h
  rw [Bool.or_eq_true] at h
  rcases h with h | h <;> have h := of_decide_eq_true h
  · exact .inl (by omega)
  · exact .inr (by omega)
theorem op_bin (o : BOp) : (fit : Fit X c) → OpR X (binaryOp (opB o)) (rB c o) := fun fit => by
  intro pins s σ H x y v u Q I rx ry ⟨F, dx, dy, cl, r1, r2, p⟩
  unfold Dn.bin at p
  split at p
  · rename_i i j
    cases r1.int; cases r2.int
    cases o with
    | add => exact op_add pins s σ H _ _ v u Q I rx ry ⟨i, j, rfl, rfl, p.int⟩
    | sub => exact op_sub pins s σ H _ _ v u Q I rx ry ⟨i, j, rfl, rfl, p.int⟩
    | mul =>
      simp only [Dn.binI] at p
      split at p
      · rename_i h
        exact op_mul pins s σ H _ _ v u Q I rx ry ⟨i, j, rfl, rfl, small_ok h, p.int⟩
      · exact p.elim
    | fdiv =>
      simp only [Dn.binI] at p
      split at p
      · rename_i h
        exact op_fdivN pins s σ H _ _ v u Q I rx ry ⟨i, j, rfl, rfl, h, p.int⟩
      · exact p.elim
    | mod =>
      simp only [Dn.binI] at p
      split at p
      · rename_i h
        exact op_modN pins s σ H _ _ v u Q I rx ry ⟨i, j, rfl, rfl, h, p.int⟩
      · exact p.elim
    | pow =>
      simp only [Dn.binI] at p
      split at p
      · rename_i h
        exact op_pow pins s σ H _ _ v u Q I rx ry ⟨i, j, rfl, rfl, ⟨h.1, by omega, h.2.2⟩, p.int⟩
      · exact p.elim
    | band => exact op_and pins s σ H _ _ v u Q I rx ry ⟨i, j, rfl, rfl, p.int⟩
    | bxor => exact op_xor pins s σ H _ _ v u Q I rx ry ⟨i, j, rfl, rfl, p.int⟩
  · rename_i xs ys
    obtain ⟨a1, vs, rfl, h1, q1⟩ := r1.tup
    obtain ⟨a2, ws, rfl, h2, q2⟩ := r2.tup
    cases o <;> try exact p.elim
    simp only at p
    split at p
    · rename_i h
      refine op_catA pins s σ H _ _ v u Q I rx ry ⟨a1, a2, vs, ws, rfl, rfl, fit.K ▸ h1, fit.K ▸ h2, ?_, fun e => ?_, fun _ e => ?_, fun _ _ q hq => p.tup (q1.append q2) hq⟩
      · rw [← q1.length, ← q2.length]; exact line_ok h
      · subst e
        cases q1
        exact p _ F H .refl (RD.tup h2 q2)
      · subst e
        cases q2
        rw [List.append_nil] at p
        exact p _ F H .refl (RD.tup h1 q1)
    · exact p.elim
  · rename_i xs ys
    obtain ⟨a1, vs, rfl, h1, q1⟩ := r1.lst
    obtain ⟨a2, ws, rfl, h2, q2⟩ := r2.lst
    cases o <;> try exact p.elim
    simp only at p
    split at p
    · rename_i h
      refine op_cat pins s σ H _ _ v u Q I rx ry ⟨a1, a2, vs, ws, rfl, rfl, h1, h2, ?_, fun q hq => p.lst cl (q1.append q2) hq⟩
      rw [← q1.length, ← q2.length]; exact line_ok h
    · exact p.elim
  · rename_i xs k
    obtain ⟨a1, vs, rfl, h1, q1⟩ := r1.lst
    cases r2.int
    cases o <;> try exact p.elim
    simp only at p
    split at p
    · rename_i h
      refine op_rep pins s σ H _ _ v u Q I rx ry ⟨a1, k, vs, rfl, rfl, h1, by omega, by omega, ?_, fun q hq => p.lst cl (q1.rep _) hq⟩
      rw [← q1.length]
      have h3 : k.toNat ≤ 100000 := by omega
      exact sizeLine_ge (Nat.le_trans (Nat.mul_le_mul h.2.2 h3) (by decide))
    · exact p.elim
  · exact p.elim
theorem noX_bin (o : BOp) (x y : D) : noX (Dn.bin o x y) := by
  unfold Dn.bin
  split
  · cases o <;> simp only [Dn.binI] <;> (try split) <;> trivial
  · cases o <;> simp only <;> (try split) <;> trivial
  · cases o <;> simp only <;> (try split) <;> trivial
  · cases o <;> simp only <;> (try split) <;> trivial
  · trivial
theorem cmp_bl (o : COp) (x y : D) : (∃ b, Dn.cmp o x y = .ok (.bl b)) ∨ Dn.cmp o x y = .bad := by
  cases o <;> simp only [Dn.cmp] <;> repeat' (first | exact .inl ⟨_, rfl⟩ | exact .inr rfl | split)
theorem d_bin (o : BOp) (fit : Fit X c) (ha : DE X c .rd a ia) (hb : DE X c .rd b ib) : DE X c own (.BinOp a (opB o) b pos) (.bin o ia ib) :=
  DE.any ⟨(pe_op (op_bin o fit) ha.pe hb.pe).of fun σ H Q ⟨ρ, F, E, p⟩ => E1 E p fun d1 v1 F1 H1 _ g1 E1' r1 p1 => E1 E1' p1 fun d2 v2 F2 H2 _ g2 E2' r2 p2 =>
    ⟨F2, d1, d2, E2'.cl, Rw.mono r1 g2, r2, p2.val (noX_bin o d1 d2)⟩⟩
theorem d_neg (ha : DE X c .rd a ia) : DE X c own (.UnaryOp .USub a pos) (.neg ia) :=
  DE.any ⟨(pe_un un_neg ha.pe).of fun σ H Q ⟨ρ, F, E, p⟩ => E1 E p fun d1 v1 F1 H1 _ g1 E1' r1 p1 => by
    split at p1
    · cases r1.int
      exact ⟨_, rfl, PostV.int (Post.val p1 (show noX (.ok _) from trivial))⟩
    · exact p1.elim⟩
theorem Post.bl {b : Bool} {Q : VK} (p : Post c .fr ρ σ (.ok (.bl b)) F H Q) : Q (.bl b) H := p _ F H .refl (RD.bl b)
theorem d_cmp (o : COp) (fit : Fit X c) (ha : DE X c .rd a ia) (hb : DE X c .rd b ib) (hm : behindInMarks (opC o) b = false) : DE X c own (.Compare a [opC o] [b] pos) (.cmp o ia ib) :=
  DE.any ⟨(pe_cmpR (op_cmp fit o) ha.pe hb.pe hm).of fun σ H Q ⟨ρ, F, E, p⟩ => E1 E p fun d1 v1 F1 H1 _ g1 E1' r1 p1 => E1 E1' p1 fun d2 v2 F2 H2 _ g2 E2' r2 p2 => by
    rcases cmp_bl o d1 d2 with ⟨b, e⟩ | e
    · rw [e] at p2
      exact ⟨F2, d1, d2, b, Rw.mono r1 g2, r2, e, Post.bl p2⟩
    · rw [e] at p2; exact p2.elim⟩
theorem d_cmp2 {e : Expr} (o o' : COp) (fit : Fit X c) (ha : DE X c .rd a ia) (hb : DE X c .rd b ib) (hc : DE X c .rd e ic) (hm : lastMarks [opC o, opC o'] [b, e] = false) :
    DE X c own (.Compare a [opC o, opC o'] [b, e] pos) (.cmp2 o o' ia ib ic) :=
  DE.any ⟨(pe_chain (op_cmp fit o) (op_cmp fit o') ha.pe hb.pe hc.pe hm).of fun σ H Q ⟨ρ, F, E, p⟩ => E1 E p fun d1 v1 F1 H1 _ g1 E1' r1 p1 => E1 E1' p1 fun d2 v2 F2 H2 _ g2 E2' r2 p2 => by
    rcases cmp_bl o d1 d2 with ⟨b, e⟩ | e
    · rw [e, R.bind_ok] at p2
      refine ⟨F2, d1, d2, b, Rw.mono r1 g2, r2, e, b, rfl, ?_⟩
      cases b with
      | false => exact Post.bl p2
      | true =>
        show tE c .rd _ σ H2 _
        refine E1 E2' p2 fun d3 v3 F3 H3 _ g3 E3' r3 p3 => ?_
        rcases cmp_bl o' d2 d3 with ⟨b, e⟩ | e
        · rw [e] at p3
          exact ⟨F3, d2, d3, b, Rw.mono r2 g3, r3, e, Post.bl p3⟩
        · rw [e] at p3; exact p3.elim
    · rw [e] at p2; exact p2.elim⟩

/-! ### truth -/
theorem tru_of {d : D} {v : V} {k : Bool} (r : Rw c own F H d v) (h : truth d = some k) : TruV c.G.K v H k := by
  cases d with
  | non => cases r.non; simp only [truth, Option.some.injEq] at h; exact h.symm
  | bl b => cases r.bl; simp only [truth, Option.some.injEq] at h; exact h.symm
  | int i => cases r.int; simp only [truth, Option.some.injEq] at h; exact h.symm
  | str x =>
    cases r.str
    simp only [truth] at h
    split at h
    · rename_i hl
      simp only [Option.some.injEq] at h
      exact ⟨sizeLine_ge (by omega), h.symm⟩
    · cases h
  | tup xs =>
    obtain ⟨p, vs, rfl, h1, q⟩ := r.tup
    simp only [truth, Option.some.injEq] at h
    refine .inr (.inl ⟨vs, h1, ?_⟩)
    cases q <;> exact h.symm
  | lst xs =>
    obtain ⟨p, vs, rfl, h1, q⟩ := r.lst
    simp only [truth, Option.some.injEq] at h
    refine .inl ⟨vs, .of h1, ?_⟩
    cases q <;> exact h.symm
  | fls xs =>
    obtain ⟨p, vs, rfl, h1, q⟩ := r.fls
    simp only [truth, Option.some.injEq] at h
    refine .inl ⟨vs, h1, ?_⟩
    cases q <;> exact h.symm
  | ins n xs => simp [truth] at h
  | exn n xs => simp [truth] at h
theorem Res.rw {H0 : Hp} {d : D} {v : V} (r : Res c own H0 F H d v) : Rw c .rd F H d v := by
  cases own with
  | st => exact Rw.wide r
  | rd => exact r
  | fr =>
    have r : FrR c H0 F H d v := r
    cases d with
    | lst xs => exact .inr ⟨rfl, r.1⟩
    | ins k xs => exact .inr ⟨rfl, r.1⟩
    | _ => exact .inl r
theorem Res.here {H0 H1 : Hp} {d : D} {v : V} (r : Res c own H0 F H d v) (ho : own ≠ .fr) : Res c own H1 F H d v := by
  cases own with
  | st => exact r
  | rd => exact r
  | fr => exact absurd rfl ho
theorem tru_res {H0 : Hp} {d : D} {v : V} {k : Bool} (r : Res c own H0 F H d v) (h : truth d = some k) : TruV c.G.K v H k := tru_of r.rw h
theorem d_not (fit : Fit X c) (ha : DE X c .rd a ia) : DE X c own (.UnaryOp .Not a pos) (.not ia) :=
  DE.any ⟨(pe_notT ha.pe).of fun σ H Q ⟨ρ, F, E, p⟩ => E1 E p fun d1 v1 F1 H1 _ g1 E1' r1 p1 => by
    cases h : truth d1 with
    | none => simp only [h] at p1; exact p1.elim
    | some k =>
      simp only [h] at p1
      exact ⟨k, fit.K ▸ tru_res r1 h, Post.bl p1⟩⟩
theorem d_one {op : BoolOp} (ha : DE X c own a ia) : DE X c own (.BoolOp op [a] pos) ia := ⟨pe_one ha.pe⟩
theorem d_and {rest : List Expr} (fit : Fit X c) (ha : DE X c own a ia) (hb : DE X c own (.BoolOp .And (b :: rest) pos) ib) (ho : own ≠ .fr := by decide) : DE X c own (.BoolOp .And (a :: b :: rest) pos) (.and ia ib) :=
  ⟨(pe_andT ha.pe hb.pe).of fun σ H Q ⟨ρ, F, E, p⟩ => E1 E p fun d1 v1 F1 H1 _ g1 E1' r1 p1 => by
    cases h : truth d1 with
    | none => simp only [h] at p1; exact p1.elim
    | some k =>
      simp only [h] at p1
      refine ⟨k, fit.K ▸ tru_res r1 h, ?_⟩
      cases k with
      | true => exact ⟨ρ, F1, E1', p1⟩
      | false => exact p1 _ F1 H1 .refl (r1.here ho)⟩
theorem d_or {rest : List Expr} (fit : Fit X c) (ha : DE X c own a ia) (hb : DE X c own (.BoolOp .Or (b :: rest) pos) ib) (ho : own ≠ .fr := by decide) : DE X c own (.BoolOp .Or (a :: b :: rest) pos) (.or ia ib) :=
  ⟨(pe_orT ha.pe hb.pe).of fun σ H Q ⟨ρ, F, E, p⟩ => E1 E p fun d1 v1 F1 H1 _ g1 E1' r1 p1 => by
    cases h : truth d1 with
    | none => simp only [h] at p1; exact p1.elim
    | some k =>
      simp only [h] at p1
      refine ⟨k, fit.K ▸ tru_res r1 h, ?_⟩
      cases k with
      | false => exact ⟨ρ, F1, E1', p1⟩
      | true => exact p1 _ F1 H1 .refl (r1.here ho)⟩

/-! ### tests -/
structure DW (X : Cx) (c : Cn) (e : Expr) (ie : IE) : Prop where
  pw : PW X e (tT c (Dn.eval c.G.T c.C ie))
theorem DW.dt (h : DW X c e ie) : DT X c e ie := ⟨h.pw.pt⟩
theorem _root_.L2.PW.of {X : Cx} {e : Expr} {t t' : TT} (h : PW X e t) (m : ∀ σ H Q, t' σ H Q → t σ H Q) : PW X e t' := ⟨fun whole pins s σ H Q I q => h.run whole pins s σ H Q I (m σ H Q q)⟩
theorem PostT.mono {r : R D} {Q : Bool → Hp → Prop} (p : PostT c σ r F H Q) (g : Grow F H F' H') : PostT c σ r F' H' Q := by
  cases r with
  | ok d => exact ⟨p.choose, p.choose_spec.1, fun F2 H2 g2 => p.choose_spec.2 F2 H2 (g.trans g2)⟩
  | exc k ds => exact fun dx vs F2 H2 g2 h l r => p dx vs F2 H2 (g.trans g2) h l r
  | bad => exact p
theorem T1 {g : D → R D} {Q : Bool → Hp → Prop} {R' : VK} (E : ER c ρ F σ H) (p : PostT c σ ((Dn.eval c.G.T c.C ia ρ).bind g) F H Q)
    (k : ∀ d v F1 H1, Dn.eval c.G.T c.C ia ρ = .ok d → Grow F H F1 H1 → ER c ρ F1 σ H1 → Res c own1 H F1 H1 d v → PostT c σ (g d) F1 H1 Q → R' v H1) : tE c own1 (Dn.eval c.G.T c.C ia) σ H R' := by
  refine ⟨ρ, F, E, ?_⟩
  cases q : Dn.eval c.G.T c.C ia ρ with
  | ok d =>
    rw [q] at p
    exact fun v F1 H1 gr r => k d v F1 H1 q gr (E.mono gr) r (PostT.mono p gr)
  | exc n ds => rw [q] at p; exact p
  | bad => rw [q] at p; exact p
/-- .. a test first -/
theorem T2 {g : D → R D} {Q : Bool → Hp → Prop} {R' : Bool → Hp → Prop} (E : ER c ρ F σ H) (p : PostT c σ ((Dn.eval c.G.T c.C ia ρ).bind g) F H Q)
    (hb : ∀ d, Dn.eval c.G.T c.C ia ρ = .ok d → truth d = none → g d = .bad)
    (k : ∀ d b F1 H1, Dn.eval c.G.T c.C ia ρ = .ok d → truth d = some b → Grow F H F1 H1 → ER c ρ F1 σ H1 → PostT c σ (g d) F1 H1 Q → R' b H1) : tT c (Dn.eval c.G.T c.C ia) σ H R' := by
  refine ⟨ρ, F, E, ?_⟩
  cases q : Dn.eval c.G.T c.C ia ρ with
  | ok d =>
    rw [q] at p
    cases h : truth d with
    | none =>
      have p' : PostT c σ (g d) F H Q := p
      rw [hb d q h] at p'; exact p'.elim
    | some b => exact ⟨b, h, fun F1 H1 gr => k d b F1 H1 q h gr (E.mono gr) (PostT.mono p gr)⟩
  | exc n ds => rw [q] at p; exact p
  | bad => rw [q] at p; exact p
/-- .. ahead of a value -/
theorem T3 {g : D → R D} {Q : VK} {R' : Bool → Hp → Prop} (E : ER c ρ F σ H) (p : Post c own ρ σ ((Dn.eval c.G.T c.C ia ρ).bind g) F H Q)
    (hb : ∀ d, Dn.eval c.G.T c.C ia ρ = .ok d → truth d = none → g d = .bad)
    (k : ∀ d b F1 H1, Dn.eval c.G.T c.C ia ρ = .ok d → truth d = some b → Grow F H F1 H1 → ER c ρ F1 σ H1 → Post c own ρ σ (g d) F1 H1 Q → R' b H1) : tT c (Dn.eval c.G.T c.C ia) σ H R' := by
  refine ⟨ρ, F, E, ?_⟩
  cases q : Dn.eval c.G.T c.C ia ρ with
  | ok d =>
    rw [q] at p
    cases h : truth d with
    | none =>
      have p' : Post c own ρ σ (g d) F H Q := p
      rw [hb d q h] at p'; exact p'.elim
    | some b => exact ⟨b, h, fun F1 H1 gr => k d b F1 H1 q h gr (E.mono gr) (Post.mono p gr)⟩
  | exc n ds => rw [q] at p; exact p
  | bad => rw [q] at p; exact p
theorem PostT.bl {b : Bool} {Q : Bool → Hp → Prop} (p : PostT c σ (.ok (.bl b)) F H Q) : Q b H := by
  obtain ⟨k, h, q⟩ := p
  simp only [truth, Option.some.injEq] at h
  subst h
  exact q F H .refl
theorem dt_val (fit : Fit X c) (ha : DE X c .rd a ia) (he : ∀ whole, isTrue a X.env whole = (do let v ← whole; standAt a.pos; holding [v] (truthy v))) : DT X c a ia := by
  refine ⟨(pt_truth ha.pe he).of fun σ H Q ⟨ρ, F, E, p⟩ => ⟨ρ, F, E, ?_⟩⟩
  cases q : Dn.eval c.G.T c.C ia ρ with
  | ok d =>
    rw [q] at p
    obtain ⟨k, h, q⟩ := p
    exact fun v F1 H1 g r => ⟨k, fit.K ▸ tru_of r h, q F1 H1 g⟩
  | exc n ds => rw [q] at p; exact p
  | bad => rw [q] at p; exact p
theorem dt_cmp (o : COp) (fit : Fit X c) (ha : DE X c .rd a ia) (hb : DE X c .rd b ib) (hm : behindInMarks (opC o) b = false) : DT X c (.Compare a [opC o] [b] pos) (.cmp o ia ib) :=
  ⟨(pt_cmpR (op_cmp fit o) ha.pe hb.pe hm).of fun σ H Q ⟨ρ, F, E, p⟩ => T1 E p fun d1 v1 F1 H1 _ g1 E1' r1 p1 => T1 E1' p1 fun d2 v2 F2 H2 _ g2 E2' r2 p2 => by
    rcases cmp_bl o d1 d2 with ⟨b, e⟩ | e
    · rw [e] at p2
      exact ⟨F2, d1, d2, b, Rw.mono r1 g2, r2, e, b, rfl, p2.bl⟩
    · rw [e] at p2; exact p2.elim⟩
theorem dt_cmp2 {e : Expr} (o o' : COp) (fit : Fit X c) (ha : DE X c .rd a ia) (hb : DE X c .rd b ib) (hc : DE X c .rd e ic) (hm : lastMarks [opC o, opC o'] [b, e] = false) :
    DT X c (.Compare a [opC o, opC o'] [b, e] pos) (.cmp2 o o' ia ib ic) :=
  ⟨(pt_chain (op_cmp fit o) (op_cmp fit o') ha.pe hb.pe hc.pe hm).of fun σ H Q ⟨ρ, F, E, p⟩ => T1 E p fun d1 v1 F1 H1 _ g1 E1' r1 p1 => T1 E1' p1 fun d2 v2 F2 H2 _ g2 E2' r2 p2 => by
    rcases cmp_bl o d1 d2 with ⟨b, e⟩ | e
    · rw [e, R.bind_ok] at p2
      refine ⟨F2, d1, d2, b, Rw.mono r1 g2, r2, e, b, rfl, ?_⟩
      cases b with
      | false => exact ⟨false, rfl, PostT.bl p2⟩
      | true =>
        show tE c .rd _ σ H2 _
        refine T1 E2' p2 fun d3 v3 F3 H3 _ g3 E3' r3 p3 => ?_
        rcases cmp_bl o' d2 d3 with ⟨b, e⟩ | e
        · rw [e] at p3
          exact ⟨F3, d2, d3, b, Rw.mono r2 g3, r3, e, b, rfl, p3.bl⟩
        · rw [e] at p3; exact p3.elim
    · rw [e] at p2; exact p2.elim⟩
theorem dt_not (ha : DT X c a ia) : DT X c (.UnaryOp .Not a pos) (.not ia) :=
  ⟨(pt_not ha.pt).of fun σ H Q ⟨ρ, F, E, p⟩ => T2 E p (fun d _ h => by simp only [h]) fun d b F1 H1 _ h g1 E1' p1 => by
    simp only [h] at p1; exact PostT.bl p1⟩
theorem dw_and1 (ha : DT X c a ia) : DW X c (.BoolOp .And [a] pos) ia := ⟨pw_and1 ha.pt⟩
theorem dw_or1 (ha : DT X c a ia) : DW X c (.BoolOp .Or [a] pos) ia := ⟨pw_or1 ha.pt⟩
theorem dw_and {rest : List Expr} (ha : DT X c a ia) (hb : DW X c (.BoolOp .And (b :: rest) pos) ib) : DW X c (.BoolOp .And (a :: b :: rest) pos) (.and ia ib) :=
  ⟨(pw_and ha.pt hb.pw).of fun σ H Q ⟨ρ, F, E, p⟩ => T2 E p (fun d _ h => by simp only [h]) fun d b F1 H1 _ h g1 E1' p1 => by
    simp only [h] at p1
    cases b with
    | true => exact ⟨ρ, F1, E1', p1⟩
    | false =>
      obtain ⟨k, e, q⟩ := p1
      rw [h] at e; cases e
      exact q F1 H1 .refl⟩
theorem dw_or {rest : List Expr} (ha : DT X c a ia) (hb : DW X c (.BoolOp .Or (b :: rest) pos) ib) : DW X c (.BoolOp .Or (a :: b :: rest) pos) (.or ia ib) :=
  ⟨(pw_or ha.pt hb.pw).of fun σ H Q ⟨ρ, F, E, p⟩ => T2 E p (fun d _ h => by simp only [h]) fun d b F1 H1 _ h g1 E1' p1 => by
    simp only [h] at p1
    cases b with
    | false => exact ⟨ρ, F1, E1', p1⟩
    | true =>
      obtain ⟨k, e, q⟩ := p1
      rw [h] at e; cases e
      exact q F1 H1 .refl⟩
theorem d_ife (hc : DT X c e ic) (ha : DE X c own a ia) (hb : DE X c own b ib) : DE X c own (.IfExp e a b pos) (.ife ic ia ib) :=
  ⟨(pe_ifExp hc.pt ha.pe hb.pe).of fun σ H Q ⟨ρ, F, E, p⟩ => T3 E p (fun d _ h => by simp only [h]) fun d b F1 H1 _ h g1 E1' p1 => by
    simp only [h] at p1
    cases b with
    | true => exact ⟨ρ, F1, E1', p1⟩
    | false => exact ⟨ρ, F1, E1', p1⟩⟩

/-! ### parts -/
theorem place_ix {n : Nat} {i : Int} {j : Nat} (h : place n i = some j) : ixN n i = some j := by
  unfold place at h
  unfold ixN
  split at h
  · rename_i h0
    rw [if_pos h0]; exact h
  · rename_i h0
    rw [if_neg h0]
    split at h
    · rename_i h1
      rw [if_pos (by omega)]; exact h
    · cases h
theorem d_sub (fit : Fit X c) (ha : DE X c .rd a ia) (hb : DE X c .rd b ib) (hs : PlainIx b) (ho : own ≠ .fr := by decide) : DE X c own (.Subscript a b pos) (.sub ia ib) :=
  DE.wk ⟨(pe_ix ix_seq ha.pe hb.pe hs).of fun σ H Q ⟨ρ, F, E, p⟩ => E1 E p fun d1 v1 F1 H1 _ g1 E1' r1 p1 => E1 E1' p1 fun d2 v2 F2 H2 _ g2 E2' r2 p2 => by
    unfold Dn.sub at p2
    split at p2
    · rename_i xs k hi _
      obtain ⟨q, vs, rfl, rs, sq⟩ := Rw.items (Rw.mono r1 g2) hi
      cases r2.int
      split at p2
      · rename_i j hj
        split at p2
        · rename_i d hd
          obtain ⟨w, hw, rw_⟩ := rs.get hd
          have ha : atI vs k = some w := by
            unfold atI
            rw [← rs.length, place_ix hj]; exact hw
          have fin := p2 w F2 H2 .refl (.inl rw_)
          rcases sq with sq | sq
          · exact .inr (.inl ⟨q, vs, k, w, rfl, rfl, fit.K ▸ sq, ha, fin⟩)
          · exact .inl ⟨q, vs, k, w, rfl, rfl, fit.K ▸ sq, ha, fin⟩
        · exact p2.elim
      · exact p2.elim
    · exact p2.elim⟩ ho
structure DO (X : Cx) (c : Cn) (e : Option Expr) (ie : Option IE) : Prop where
  po : PO X e (fun σ H Q => ∃ ρ F, ER c ρ F σ H ∧ match Dn.evalO c.G.T c.C ie ρ with
    | .ok d => ∀ F' H', Grow F H F' H' → Q d H'
    | .exc k ds => ∀ dx vs F' H', Grow F H F' H' → H' dx = some (.xd ((c.G.names k ds.length).zip vs)) → ds.length ≤ (c.G.T.flds k).length → RDs c.G F' H' ds vs → c.W (.ref (c.G.C k)) (some dx) σ H'
    | .bad => False)
theorem _root_.L2.PO.of {X : Cx} {e : Option Expr} {t t' : TO} (h : PO X e t) (m : ∀ σ H Q, t' σ H Q → t σ H Q) : PO X e t' := ⟨fun pins s σ H Q I q => h.run pins s σ H Q I (m σ H Q q)⟩
theorem do_none : DO X c none none := ⟨po_none.of fun σ H Q ⟨ρ, F, E, p⟩ => p F H .refl⟩
theorem do_some (h : DE X c .rd e ie) : DO X c (some e) (some ie) := ⟨(po_some h.pe).of fun σ H Q ⟨ρ, F, E, p⟩ => by
  refine ⟨ρ, F, E, ?_⟩
  simp only [Dn.evalO] at p
  cases q : Dn.eval c.G.T c.C ie ρ with
  | ok d =>
    rw [q] at p
    simp only [R.bind_ok] at p
    intro v F1 H1 g r
    cases d <;> try exact p.elim
    cases r.int
    exact ⟨_, rfl, p F1 H1 g⟩
  | exc n ds => rw [q] at p; exact p
  | bad => rw [q] at p; exact p⟩
theorem clamp_sIx (n : Nat) (i : Int) (h : i ≤ n ∨ True) : HT.sIx n n (some i) = clamp n i ∧ HT.sIx n 0 (some i) = clamp n i := by
  unfold clamp HT.sIx
  by_cases h0 : 0 ≤ i
  · simp only [if_neg (show ¬ i < 0 by omega), if_pos h0, and_self]
  · simp only [if_pos (show i < 0 by omega), if_neg h0, and_self]
theorem clamp_le (n : Nat) (i : Int) : clamp n i ≤ n := by
  unfold clamp
  split <;> omega
def cutD (xs : List D) (lo hi : Option Int) : List D := (xs.take (match hi with | some h => clamp xs.length h | none => xs.length)).drop (match lo with | some l => clamp xs.length l | none => 0)
theorem RDs.cut {G : Gl} {xs : List D} {vs : List V} (r : RDs G F H xs vs) (lo hi : Option Int) : RDs G F H (cutD xs lo hi) (cutV vs lo hi) := by
  have e : cutV vs lo hi = (vs.take (match hi with | some h => clamp vs.length h | none => vs.length)).drop (match lo with | some l => clamp vs.length l | none => 0) := by
    unfold cutV
    rw [List.drop_take]
    congr 1
    · cases hi <;> cases lo <;> simp only [HT.sIx_none, (clamp_sIx _ _ (.inr trivial)).1, (clamp_sIx _ _ (.inr trivial)).2]
    · cases lo <;> simp only [HT.sIx_none, (clamp_sIx _ _ (.inr trivial)).1, (clamp_sIx _ _ (.inr trivial)).2]
  rw [e]
  unfold cutD
  rw [r.length]
  exact (r.take _).drop _
def rSlc (c : Cn) : V → Option Int → Option Int → Hp → VK → Prop := fun x lo hi H Q => ∃ F dx, Cl c F H ∧ Rw c .rd F H dx x ∧ PostV c .fr (Dn.slc dx lo hi) F H Q
theorem sl_any (fit : Fit X c) : SlR X (rSlc c) := by
  intro pins s σ H x v vl vu lo hi sl Q I rx hs pl pu ⟨F, dx, cl, r, p⟩
  cases dx with
  | tup xs =>
    obtain ⟨q, vs, rfl, h1, rs⟩ := r.tup
    refine sl_tupA pins s σ H _ v vl vu lo hi sl Q I rx hs pl pu ⟨q, vs, rfl, fit.K ▸ h1, fun hw => ?_, fun _ y hy => PostV.tup p (rs.cut lo hi) hy⟩
    have e : cutV vs lo hi = vs := by
      unfold cutV
      rw [hw.1, hw.2]; simp
    have := rs.cut lo hi
    rw [e] at this
    exact p _ F H .refl (RD.tup h1 this)
  | lst xs =>
    obtain ⟨q, vs, rfl, h1, rs⟩ := r.lst
    exact sl_list pins s σ H _ v vl vu lo hi sl Q I rx hs pl pu ⟨q, vs, rfl, .of h1, fun y hy => PostV.lst p cl (rs.cut lo hi) hy⟩
  | fls xs =>
    obtain ⟨q, vs, rfl, h1, rs⟩ := r.fls
    exact sl_list pins s σ H _ v vl vu lo hi sl Q I rx hs pl pu ⟨q, vs, rfl, fit.K ▸ h1, fun y hy => PostV.lst p cl (rs.cut lo hi) hy⟩
  | _ => exact p.elim
theorem d_slc {lo hi : Option Expr} {il ih : Option IE} {p2 : Pos} (fit : Fit X c) (ha : DE X c .rd a ia) (hl : DO X c lo il) (hh : DO X c hi ih) : DE X c own (.Subscript a (.Slice lo hi none p2) pos) (.slc ia il ih) :=
  DE.any ⟨(pe_slice (sl_any fit) ha.pe hl.po hh.po).of fun σ H Q ⟨ρ, F, E, p⟩ => E1 E p fun d1 v1 F1 H1 _ g1 E1' r1 p1 => by
    refine ⟨ρ, F1, E1', ?_⟩
    cases q : Dn.evalO c.G.T c.C il ρ with
    | bad => rw [q] at p1; exact p1
    | exc n ds => rw [q] at p1; exact p1
    | ok l =>
      rw [q, R.bind_ok] at p1
      intro F2 H2 g2
      refine ⟨ρ, F2, E1'.mono g2, ?_⟩
      cases q2 : Dn.evalO c.G.T c.C ih ρ with
      | bad => rw [q2] at p1; exact p1
      | exc n ds => rw [q2] at p1; exact fun dx vs F3 H3 g3 => p1 dx vs F3 H3 (g2.trans g3)
      | ok h =>
        rw [q2, R.bind_ok] at p1
        intro F3 H3 g3
        refine ⟨F3, d1, ((E1'.mono g2).mono g3).cl, (Rw.mono r1 g2).mono g3, ?_⟩
        have p2 := Post.mono p1 (g2.trans g3)
        exact p2.val (by cases d1 <;> trivial)⟩
theorem lookup_zip {G : Gl} : ∀ {ns : List Str} {ds : List D} {vs : List V} {i : Nat} {x : Str} {d : D}, ns.Nodup → RDs G F H ds vs → ns[i]? = some x → ds[i]? = some d → ∃ v, (ns.zip vs).lookup x = some v ∧ RD G F H d v
  | [], _, _, _, _, _, _, _, h, _ => by simp at h
  | n :: ns, _, _, i, x, d, nd, r, h, hd => by
    cases r with
    | nil => simp at hd
    | @cons d0 v0 ds vs r rs =>
      cases i with
      | zero =>
        simp at h hd
        subst h; subst hd
        exact ⟨v0, by simp, r⟩
      | succ i =>
        simp only [List.getElem?_cons_succ] at h hd
        obtain ⟨v, h1, h2⟩ := lookup_zip (List.nodup_cons.mp nd).2 rs h hd
        refine ⟨v, ?_, h2⟩
        rw [List.zip_cons_cons, List.lookup_cons]
        have : (x == n) = false := beq_eq_false_iff_ne.mpr fun e => (List.nodup_cons.mp nd).1 (by rw [← e]; exact List.mem_of_getElem? h)
        rw [this]; exact h1
end
end Sd
set_option Elab.async false
set_option linter.all false
set_option autoImplicit false
set_option maxRecDepth 100000
set_option maxHeartbeats 4000000
/-! Attributes and calls. -/
namespace Sd
open PySem L2 Dn PyProof.Rows

/-! ### promises -/
def spP (G : Gl) (m : List D → R D) (np : Nat) : Sp := fun vs H Q E => vs.length = np ∧ ∃ ds F, (∀ a, F a → ∃ o, H a = some o) ∧ RDs G F H ds vs ∧ match m ds with
  | .ok d => ∀ v F' H', Grow F H F' H' → RD G F' H' d v → Q v H'
  | .exc k es => ∀ dx ws F' H', Grow F H F' H' → H' dx = some (.xd ((G.names k es.length).zip ws)) → es.length ≤ (G.T.flds k).length → RDs G F' H' es ws → E (.ref (G.C k)) (some dx) H'
  | .bad => False
def OwnAt (G : Gl) (F : Addr → Prop) (H : Hp) (a : Addr) : D → Prop
  | .lst ds => ∃ vs, H a = some (.lst vs) ∧ RDs G F H ds vs
  | .ins k ds => ∃ dx vs, H a = some (.ins (G.C k) dx ((G.names k ds.length).zip vs)) ∧ ds.length ≤ (G.T.flds k).length ∧ RDs G F H ds vs
  | _ => False
structure GrowI (a : Addr) (F : Addr → Prop) (H : Hp) (F' : Addr → Prop) (H' : Hp) : Prop where
  same : ∀ b o, b ≠ a → H b = some o → H' b = some o
  up : ∀ b, F b → F' b
  new : ∀ b, F' b → F b ∨ H b = none
  has : ∀ b, F' b → F b ∨ ∃ o, H' b = some o
def spI (G : Gl) (m : List D → IO) (np : Nat) : Sp := fun vs H Q E => vs.length = np ∧ ∃ a ws d ds F, vs = .ref a :: ws ∧ ¬ F a ∧ (∀ a, F a → ∃ o, H a = some o) ∧ OwnAt G F H a d ∧ RDs G F H ds ws ∧ match m (d :: ds) with
  | .ok r s => ∀ v F' H', GrowI a F H F' H' → OwnAt G F' H' a s → RD G F' H' r v → Q v H'
  | .exc k es s => ∀ dx us F' H', GrowI a F H F' H' → OwnAt G F' H' a s → H' dx = some (.xd ((G.names k es.length).zip us)) → es.length ≤ (G.T.flds k).length → RDs G F' H' es us → E (.ref (G.C k)) (some dx) H'
  | .bad => False

section
variable {c : Cn} {F F' : Addr → Prop} {H H' : Hp} {d : D} {v : V} {G : Gl}
theorem OwnR.iff : OwnR c F H d v ↔ ∃ a, v = .ref a ∧ ¬ F a ∧ (a ∈ c.P ∨ c.H0 a = none) ∧ OwnAt c.G F H a d := by
  cases d with
  | lst ds => exact ⟨fun ⟨a, vs, e, h, n, o, r⟩ => ⟨a, e, n, o, vs, h, r⟩, fun ⟨a, e, n, o, vs, h, r⟩ => ⟨a, vs, e, h, n, o, r⟩⟩
  | ins k ds => exact ⟨fun ⟨a, dx, vs, e, h, n, o, l, r⟩ => ⟨a, e, n, o, dx, vs, h, l, r⟩, fun ⟨a, e, n, o, dx, vs, h, l, r⟩ => ⟨a, dx, vs, e, h, n, o, l, r⟩⟩
  | _ => exact ⟨fun z => z.elim, fun ⟨_, _, _, _, z⟩ => z⟩
/-- hard data lean on no frozen set -/
theorem hards_cons {d : D} {ds : List D} (h : hards (d :: ds) = true) : hard d = true ∧ hards ds = true := by
  rw [hards, Bool.and_eq_true] at h; exact h
mutual
theorem RD.hardF {d : D} {v : V} : RD G F H d v → hard d = true → RD G F' H d v
  | .non, _ => .non
  | .bl b, _ => .bl b
  | .int i, _ => .int i
  | .str x, _ => .str x
  | .tup h r, k => .tup h (RDs.hardF r (by rw [hard] at k; exact k))
  | .lst _ _ _, k => by rw [hard] at k; cases k
  | .fls _ _, k => by rw [hard] at k; cases k
  | .ins _ _ _ _ _, k => by rw [hard] at k; cases k
theorem RDs.hardF {ds : List D} {vs : List V} : RDs G F H ds vs → hards ds = true → RDs G F' H ds vs
  | .nil, _ => .nil
  | .cons r rs, k => .cons (RD.hardF r (hards_cons k).1) (RDs.hardF rs (hards_cons k).2)
end
/-- owned things lent: frozen for a while -/
theorem RWs.lend {own : Md} {ds : List D} {vs : List V} (r : RWs c own F H ds vs) : ∃ F2 : Addr → Prop, (∀ a, F a → F2 a) ∧ (∀ a, F2 a → F a ∨ ∃ o, H a = some o) ∧ RDs c.G F2 H ds vs := by
  induction r with
  | nil => exact ⟨F, fun _ h => h, fun _ h => .inl h, .nil⟩
  | cons r _ ih =>
    obtain ⟨F2, h1, h2, h3⟩ := ih
    rcases r with r | ⟨_, r⟩
    · exact ⟨F2, h1, h2, .cons (r.grow (fun _ _ h => h) h1) h3⟩
    · obtain ⟨a, _, ho, q⟩ := r.rd
      exact ⟨fun b => F2 b ∨ b = a, fun b h => .inl (h1 b h), fun b h => h.elim (h2 b) fun e => .inr (e ▸ ho),
        .cons (q.grow (fun _ _ h => h) fun b h => h.imp (h1 b) id) (h3.grow (fun _ _ h => h) fun b h => .inl h)⟩
theorem Rw.lend {own : Md} (r : Rw c own F H d v) : ∃ F2 : Addr → Prop, (∀ a, F a → F2 a) ∧ (∀ a, F2 a → F a ∨ ∃ o, H a = some o) ∧ RD c.G F2 H d v := by
  obtain ⟨F2, h1, h2, h3⟩ := RWs.lend (RWs.cons r .nil)
  cases h3 with
  | cons r _ => exact ⟨F2, h1, h2, r⟩
end

section
variable {X : Cx} {c : Cn} {F F' : Addr → Prop} {H H' : Hp} {ρ : Dn.Env} {σ : L2.St} {own own1 own2 : Md} {a b e : Expr} {ia ib ie ic : IE} {pos : Pos} {Q : VK}
theorem sp_strict {m : List D → R D} {ds : List D} {vs : List V} {np : Nat} (hl : vs.length = np) (E : ER c ρ F σ H) (r : RDs c.G F H ds vs) (p : Post c .st ρ σ (m ds) F H Q) : spP c.G m np vs H Q (fun cls d H' => c.W cls d σ H') := by
  refine ⟨hl, ds, F, E.there, r, ?_⟩
  cases q : m ds with
  | ok d => rw [q] at p; exact fun v F' H' g r => p v F' H' g (.inl r)
  | exc k es => rw [q] at p; exact p
  | bad => rw [q] at p; exact p
theorem sp_lent {m : List D → R D} {ds : List D} {vs : List V} {np : Nat} (hl : vs.length = np) (E : ER c ρ F σ H) (r : RWs c own F H ds vs) (p : Post c .st ρ σ (hardR (m ds)) F H Q) : spP c.G m np vs H Q (fun cls d H' => c.W cls d σ H') := by
  obtain ⟨F2, h1, h2, r2⟩ := r.lend
  refine ⟨hl, ds, F2, fun a h => (h2 a h).elim (E.there a) id, r2, ?_⟩
  cases q : m ds with
  | ok d =>
    rw [q] at p
    simp only [hardR] at p
    split at p
    · rename_i hh
      exact fun v F' H' g r => p v F H' ⟨g.same, fun _ h => h, fun _ h => .inl h, fun _ h => .inl h⟩ (.inl (r.hardF hh))
    · exact p.elim
  | exc k es =>
    rw [q] at p
    simp only [hardR] at p
    split at p
    · rename_i hh
      exact fun dx ws F' H' g h l r => p dx ws F H' ⟨g.same, fun _ h => h, fun _ h => .inl h, fun _ h => .inl h⟩ h l (r.hardF hh)
    · exact p.elim
  | bad => rw [q] at p; exact p

/-! ### attributes -/
theorem names_get {G : Gl} {k i n : Nat} {m : Nat} (h : (G.T.flds k)[i]? = some n) (hi : i < m) : (G.names k m)[i]? = some (G.F n) := by
  unfold Gl.names
  rw [List.getElem?_map, List.getElem?_take_of_lt hi, h]; rfl
theorem names_nd {G : Gl} (ok : GOk G) (k m : Nat) : (G.names k m).Nodup := by
  unfold Gl.names
  rw [List.map_take]
  exact (ok.nd k).sublist (List.take_sublist _ _)
theorem idx_get {l : List Nat} {n : Nat} (h : l.idxOf n < l.length) : l[l.idxOf n]? = some n := by
  rw [List.getElem?_eq_getElem h, List.getElem_idxOf]
theorem d_att {f : Str} {n : Nat} (fit : Fit X c) (ha : DE X c .rd a ia) (hf : c.G.F n = f) (hb : attributeBase a f X.env (PySem.eval a X.env) = PySem.eval a X.env := by rfl) (ho : own ≠ .fr := by decide) : DE X c own (.Attribute a f pos) (.att ia n) :=
  DE.wk ⟨(pe_fld ha.pe hb).of fun σ H Q ⟨ρ, F, E, p⟩ => E1 E p fun d1 v1 F1 H1 _ g1 E1' r1 p1 => by
    unfold Dn.attD at p1
    split at p1
    · rename_i k xs _
      split at p1
      · rename_i hi
        split at p1
        · rename_i x hx
          obtain ⟨q, dx, vs, rfl, h1, l, rs⟩ := Rw.ins r1
          have hlt : (c.G.T.flds k).idxOf n < xs.length := (List.getElem?_eq_some_iff.mp hx).1
          have hn := idx_get (Nat.lt_of_lt_of_le hlt l)
          obtain ⟨w, hw, rw_⟩ := lookup_zip (names_nd fit.ok k xs.length) rs (names_get hn hlt) hx
          subst hf
          exact ⟨q, _, dx, _, w, rfl, h1, fit.K ▸ fit.ok.cls k hi, fit.K ▸ fit.ok.no k n hi (List.mem_of_getElem? hn), hw, p1 w F1 H1 .refl (.inl rw_)⟩
        · exact p1.elim
      · exact p1.elim
    · exact p1.elim⟩ ho

/-! ### calls -/
/-- a def of the module, callable here -/
structure CalO (X : Cx) (x : Str) (sp : Sp) : Prop where
  ex : ∃ k f fd ps, FnOk X.prog X.w X.K X.mg X.base (CX X.prog X.w) k f fd ps sp ∧ Room k X.A ∧ X.mg x = some (.ref f) ∧ PySem.W.keepIn X.K (.ref f) = true ∧ Binds X.K fd ps []
structure MetO (X : Cx) (C : Addr) (m : Str) (sp : Sp) : Prop where
  ex : ∃ k f fd ps, FnOk X.prog X.w X.K X.mg X.base (CX X.prog X.w) k f fd ps sp ∧ Room k X.A ∧ Meth X.K C m f ∧ Binds X.K fd ps []
structure MakO (X : Cx) (x : Str) (C : Addr) (sp : Sp) : Prop where
  ex : ∃ k f fd ps, FnOk X.prog X.w X.K X.mg X.base (CX X.prog X.w) k f fd ps sp ∧ Room (k + 1) X.A ∧ X.mg x = some (.ref C) ∧ Mk X.K C f ∧ Binds X.K fd ps []
structure PrpO (X : Cx) (C : Addr) (f : Str) (sp : Sp) : Prop where
  ex : ∃ k p g fd ps, FnOk X.prog X.w X.K X.mg X.base (CX X.prog X.w) k g fd ps sp ∧ Room (k + 1) X.A ∧ PropOf X.K C f p g ∧ Binds X.K fd ps []
theorem run_fnW {W : WX} {k : Nat} {f : Addr} {fd : FuncData} {ps : List Str} {sp : Sp} {pins : List (Addr × Obj)} {s : Shared} {us : List Value} {vs : List V} (tk : Takes X W)
    (Fo : FnOk X.prog X.w X.K X.mg X.base (CX X.prog X.w) k f fd ps sp) (hr : Room k X.A) (hb : Binds X.K fd ps []) (I : Inv X pins σ H s) (r : Vals vs us) (h : sp vs H Q (fun cls d H' => W cls d σ H')) :
    wpAny (model X.prog X.w) X.A (call (.ref f) us) (EP X pins σ Q) X.xe s := by
  have hl : (us ++ []).length = ps.length := by rw [List.append_nil, ← r.length]; exact Fo.len _ _ _ _ h
  have hb' := hb s us I.kIn hl
  rw [List.append_nil] at hb'
  refine wpAny_call (codeAny_mono (Fo.run X.A X.stack s H ⟨us, []⟩ us vs Q _ hr I.env0 hb' r h) fun r s' hq => ?_)
  cases r with
  | error e => exact tk e s' (XE.of_call I (fun cls d H' h => h) hq)
  | ok fl =>
    cases fl with
    | ret u => exact I.after hq
    | next => exact False.elim hq
    | brk => exact False.elim hq
    | cont => exact False.elim hq
def tCallW (sp : Sp) (W : WX) (t : TA) : TE := fun σ H Q => t σ H fun vs H1 => sp vs H1 Q (fun cls d H' => W cls d σ H')
theorem pe_callW {W : WX} {x : Str} {sp : Sp} {p : Pos} {es : List Expr} {t : TA} (tk : Takes X W) (co : CalO X x sp) (hg : L2.Gl X x)
    (ha : PA X (e :: es) t) (hdb : (x == ("__debug__" : Str)) = false) (he : starEach (e :: es) X.env = (false, PySem.eval e X.env) :: starEach es X.env) (hpl : (backTo pos (starEach es X.env)).any (·.1) = false) :
    PE X (.Call (.Name x p) (e :: es) [] pos) (tCallW sp W t) := by
  obtain ⟨k, f, fd, ps, Fo, hr, hm, hk, hb⟩ := co.ex
  refine ⟨fun pins s σ H Q I h => ?_⟩
  refine wpAny_Call_Name_kw (ld_glob I hg hm ?_ hdb)
  refine PySem.W.callWith_K (h₀ := X.base) I.ok.mod.kin hk (thn (ha.run pos pins s σ H _ I h) fun us s1 ⟨vs, H1, I1, r, q⟩ => ⟨I1.kIn, ?_⟩) he hpl
  exact run_fnW tk Fo hr hb I1 r q
def tMethW (X : Cx) (m : Str) (W : WX) (ta : TE) (t : TA) : TE := fun σ H Q => ta σ H fun x H1 => ∃ C a dx fs sp, x = .ref a ∧ H1 a = some (.ins C dx fs) ∧ Cls X.K C ∧ MetO X C m sp ∧ fs.lookup m = none ∧
  t σ H1 fun vs H2 => sp (.ref a :: vs) H2 Q (fun cls d H' => W cls d σ H')
theorem pe_methW {W : WX} {pl : Sem Bool} {o : Expr} {m : Str} {ta : TE} {apos : Pos} {es : List Expr} {t : TA} (tk : Takes X W) (he : PE X o ta) (ha : PA X (e :: es) t)
    (hst : starEach (e :: es) X.env = (false, PySem.eval e X.env) :: starEach es X.env) (hpl : (backTo pos (starEach es X.env)).any (·.1) = false)
    (ht : PySem.eval (.Call (.Attribute o m apos) (e :: es) [] pos) X.env = (do
      let ov ← PySem.eval o X.env
      standAt apos.atName
      let (f, first) ← holding [ov] (getMethod ov m pl)
      callWith pos f first (backTo pos (starEach (e :: es) X.env)) (backToKw pos (keywordEach [] X.env)))) :
    PE X (.Call (.Attribute o m apos) (e :: es) [] pos) (tMethW X m W ta t) := by
  refine ⟨fun pins s σ H Q I h => ?_⟩
  refine PySem.W.methodCall_KW (pl := pl) (thn (he.run pins s σ H _ I h) fun u s1 ⟨x, H1, I1, rx, C, a, dx, fs, sp, ex, ea, cl, co, l, q⟩ => ?_) ht
  subst ex
  obtain rfl : u = Value.ref a := rx
  obtain ⟨k, f, fd, ps, Fo, hr, hm, hb⟩ := co.ex
  refine getmeth_ok I1 ea cl hm l ?_
  refine PySem.W.callWith_K (first := [.ref a]) (h₀ := X.base) I.ok.mod.kin hm.kp (thn (ha.run pos pins s1 σ H1 _ I1 q) fun us s2 ⟨vs, H2, I2, r, q2⟩ => ⟨I2.kIn, ?_⟩) hst hpl
  exact run_fnW (us := .ref a :: us) (vs := .ref a :: vs) tk Fo hr hb I2 (.cons rfl r) q2
theorem pe_methW0 {W : WX} {pl : Sem Bool} {o : Expr} {m : Str} {ta : TE} {apos : Pos} (tk : Takes X W) (he : PE X o ta)
    (ht : PySem.eval (.Call (.Attribute o m apos) [] [] pos) X.env = (do
      let ov ← PySem.eval o X.env
      standAt apos.atName
      let (f, first) ← holding [ov] (getMethod ov m pl)
      callWith pos f first (backTo pos (starEach [] X.env)) (backToKw pos (keywordEach [] X.env)))) :
    PE X (.Call (.Attribute o m apos) [] [] pos) (tMethW X m W ta tNil) := by
  refine ⟨fun pins s σ H Q I h => ?_⟩
  refine PySem.W.methodCall_KW (pl := pl) (thn (he.run pins s σ H _ I h) fun u s1 ⟨x, H1, I1, rx, C, a, dx, fs, sp, ex, ea, cl, co, l, q⟩ => ?_) ht
  subst ex
  obtain rfl : u = Value.ref a := rx
  obtain ⟨k, f, fd, ps, Fo, hr, hm, hb⟩ := co.ex
  refine getmeth_ok I1 ea cl hm l ?_
  exact PySem.W.callWith_K0 (first := [.ref a]) I1.kIn hm.kp (run_fnW (us := [.ref a]) (vs := [.ref a]) tk Fo hr hb I1 (.cons rfl .nil) q)
def tMakeW (C : Addr) (sp : Sp) (W : WX) (t : TA) : TE := fun σ H Q => t σ H fun vs H1 => ∀ x dx, H1 x = none → H1 dx = none → dx ≠ x →
  sp (.ref x :: vs) (upd (upd H1 dx (.own x)) x (.ins C dx [])) (fun v H2 => v = .non ∧ Q (.ref x) H2) (fun cls d H' => W cls d σ H')
theorem pe_makeW {W : WX} {x : Str} {C : Addr} {sp : Sp} {p : Pos} {es : List Expr} {t : TA} (tk : Takes X W) (co : MakO X x C sp) (hg : L2.Gl X x)
    (ha : PA X (e :: es) t) (hdb : (x == ("__debug__" : Str)) = false) (he : starEach (e :: es) X.env = (false, PySem.eval e X.env) :: starEach es X.env) (hpl : (backTo pos (starEach es X.env)).any (·.1) = false) :
    PE X (.Call (.Name x p) (e :: es) [] pos) (tMakeW C sp W t) := by
  obtain ⟨k, f, fd, ps, Fo, hr, hm, M, hb⟩ := co.ex
  refine ⟨fun pins s σ H Q I h => ?_⟩
  refine wpAny_Call_Name_kw (ld_glob I hg hm ?_ hdb)
  refine PySem.W.callWith_K (h₀ := X.base) I.ok.mod.kin M.kp (thn (ha.run pos pins s σ H _ I h) fun us s1 ⟨vs, H1, I1, r, q⟩ => ⟨I1.kIn, ?_⟩) he hpl
  have hq := q (s1.heap.objs.size + 1) s1.heap.objs.size (I1.hok.fresh (Nat.le_succ _)) (I1.hok.fresh (Nat.le_refl _)) (Nat.ne_of_lt (Nat.lt_succ_self _))
  have I2 := Inv.made (C := C) I1
  have r2 : Vals (V.ref (s1.heap.objs.size + 1) :: vs) (Value.ref (s1.heap.objs.size + 1) :: us) := .cons rfl r
  have hl : ((Value.ref (s1.heap.objs.size + 1) :: us) ++ []).length = ps.length := by
    have e := r2.length
    rw [Fo.len _ _ _ _ hq] at e
    rw [List.append_nil]; exact e.symm
  have hb' := hb _ (Value.ref (s1.heap.objs.size + 1) :: us) I2.kIn hl
  rw [List.append_nil] at hb'
  refine wpAny_call (make_map (f := f) I1.kIn M.makes M.init (beq_iff_eq.mp M.fn) (codeAny_mono (Fo.run _ X.stack _ _ ⟨Value.ref (s1.heap.objs.size + 1) :: us, []⟩ (Value.ref (s1.heap.objs.size + 1) :: us) _ _ _ (hr.make C us [])
    (I2.env0.make C us []) hb' r2 hq) fun r s' hq' => ?_))
  cases r with
  | error e => exact tk e s' (XE.of_call I2 (fun cls d H' h => h) hq')
  | ok fl =>
    cases fl with
    | ret u =>
      obtain ⟨v, H', I3, rv, ev, q3⟩ := I2.after hq'
      subst ev
      exact ⟨rv, ⟨V.ref (s1.heap.objs.size + 1), H', I3, rfl, q3⟩⟩
    | next => exact False.elim hq'
    | brk => exact False.elim hq'
    | cont => exact False.elim hq'
def tPropW (X : Cx) (f : Str) (ta : TE) : TE := fun σ H Q => ta σ H fun x H1 => ∃ C a dx fs sp, x = .ref a ∧ H1 a = some (.ins C dx fs) ∧ Cls X.K C ∧ PrpO X C f sp ∧ sp [.ref a] H1 Q (fun _ _ _ => False)
theorem pe_propW {f : Str} {ta : TE} (he : PE X e ta) (hab : attributeBase e f X.env (PySem.eval e X.env) = PySem.eval e X.env) : PE X (.Attribute e f pos) (tPropW X f ta) := by
  refine ⟨fun pins s σ H Q I h => ?_⟩
  refine attr_of hab (thn (he.run pins s σ H _ I h) fun u s1 ⟨x, H1, I1, rx, C, a, dx, fs, sp, ex, ea, cl, co, q⟩ => ?_)
  subst ex
  obtain rfl : u = Value.ref a := rx
  obtain ⟨k, p, g, fd, ps, Fo, hr, hp, hb⟩ := co.ex
  exact getprop_ok (dvs := []) (ds := []) I1 ea cl hp Fo hr hb .nil (fun pins σ H s e s' I ⟨_, _, _, _, _, _, _, _, _, _, _, _, z⟩ => z.elim) q

/-! .. on data -/
theorem d_call {x : Str} {f np : Nat} {p : Pos} {es : List Expr} {ies : List IE} (fit : Fit X c) (co : CalO X x (spP c.G (c.C.pure f) np)) (hg : L2.Gl X x) (ha : DA X c .st (e :: es) ies) (hn : ies.length = np := by rfl) (ho : own ≠ .fr := by decide)
    (hdb : (x == ("__debug__" : Str)) = false := by decide) (he : starEach (e :: es) X.env = (false, PySem.eval e X.env) :: starEach es X.env := by rfl) (hpl : (backTo pos (starEach es X.env)).any (·.1) = false := by rfl) :
    DE X c own (.Call (.Name x p) (e :: es) [] pos) (.call f ies) :=
  DE.wk ⟨(pe_callW fit.tk co hg ha.pa hdb he hpl).of fun σ H Q ⟨ρ, F, E, p⟩ => EA E p fun ds vs F1 H1 q g1 E1' r1 p1 =>
    sp_strict (by rw [← r1.length, evals_length _ _ q, hn]) E1' r1.st p1⟩ ho
theorem d_callL {x : Str} {f np : Nat} {p : Pos} {es : List Expr} {ies : List IE} (fit : Fit X c) (co : CalO X x (spP c.G (c.C.pure f) np)) (hg : L2.Gl X x) (ha : DA X c .rd (e :: es) ies) (hn : ies.length = np := by rfl) (ho : own ≠ .fr := by decide)
    (hdb : (x == ("__debug__" : Str)) = false := by decide) (he : starEach (e :: es) X.env = (false, PySem.eval e X.env) :: starEach es X.env := by rfl) (hpl : (backTo pos (starEach es X.env)).any (·.1) = false := by rfl) :
    DE X c own (.Call (.Name x p) (e :: es) [] pos) (.callL f ies) :=
  DE.wk ⟨(pe_callW fit.tk co hg ha.pa hdb he hpl).of fun σ H Q ⟨ρ, F, E, p⟩ => EA E p fun ds vs F1 H1 q g1 E1' r1 p1 =>
    sp_lent (by rw [← r1.length, evals_length _ _ q, hn]) E1' r1 p1⟩ ho
/-- the method n, of every class that has it -/
def Mths (X : Cx) (c : Cn) (n np : Nat) (m : Str) : Prop := ∀ k f, c.G.T.meth k n = some f → (c.G.T.init k).isSome = true ∧ MetO X (c.G.C k) m (spP c.G (c.C.pure f) np) ∧ m ∉ (c.G.T.flds k).map c.G.F
theorem lookup_out {G : Gl} {k : Nat} {m : Str} (h : m ∉ (G.T.flds k).map G.F) {l : Nat} {vs : List V} : ((G.names k l).zip vs).lookup m = none := by
  rw [List.lookup_eq_none_iff]
  intro p hp
  have h1 := (List.of_mem_zip (a := p.1) (b := p.2) hp).1
  refine bne_iff_ne.mpr fun e => h ?_
  unfold Gl.names at h1
  rw [List.map_take] at h1
  rw [e]; exact List.mem_of_mem_take h1
theorem d_mth {n np : Nat} {m : Str} {pl : Sem Bool} {apos : Pos} {es : List Expr} {ies : List IE} (fit : Fit X c) (co : Mths X c n np m) (ha : DE X c .st a ia) (hs : DA X c .st (e :: es) ies) (hn : ies.length + 1 = np := by rfl) (ho : own ≠ .fr := by decide)
    (hst : starEach (e :: es) X.env = (false, PySem.eval e X.env) :: starEach es X.env := by rfl) (hpl : (backTo pos (starEach es X.env)).any (·.1) = false := by rfl)
    (ht : PySem.eval (.Call (.Attribute a m apos) (e :: es) [] pos) X.env = (do
      let ov ← PySem.eval a X.env
      standAt apos.atName
      let (f, first) ← holding [ov] (getMethod ov m pl)
      callWith pos f first (backTo pos (starEach (e :: es) X.env)) (backToKw pos (keywordEach [] X.env))) := by rfl) : DE X c own (.Call (.Attribute a m apos) (e :: es) [] pos) (.mth n ia ies) :=
  DE.wk ⟨(pe_methW fit.tk ha.pe hs.pa hst hpl ht).of fun σ H Q ⟨ρ, F, E, p⟩ => E1 E p fun d1 v1 F1 H1 _ g1 E1' r1 p1 => by
    cases hf : mthF c.G.T d1 n with
    | none => simp only [hf] at p1; exact p1.elim
    | some f =>
      simp only [hf] at p1
      cases d1 <;> try (simp [mthF] at hf; done)
      rename_i k xs _
      obtain ⟨hi, mo, nf⟩ := co k f hf
      obtain ⟨q, dx, vs, rfl, h1, l, rs⟩ := Rw.ins r1
      refine ⟨c.G.C k, q, dx, _, _, rfl, h1, fit.K ▸ fit.ok.cls k hi, mo, lookup_out nf, ?_⟩
      exact EA E1' p1 fun ds ws F2 H2 q2 g2 E2' r2 p2 =>
        sp_strict (by simp only [List.length_cons]; rw [← r2.length, evals_length _ _ q2, hn]) E2' (.cons (Rw.strict (Rw.mono r1 g2)) r2.st) p2⟩ ho
theorem d_mthL {n np : Nat} {m : Str} {pl : Sem Bool} {apos : Pos} {es : List Expr} {ies : List IE} (fit : Fit X c) (co : Mths X c n np m) (ha : DE X c .rd a ia) (hs : DA X c .rd (e :: es) ies) (hn : ies.length + 1 = np := by rfl) (ho : own ≠ .fr := by decide)
    (hst : starEach (e :: es) X.env = (false, PySem.eval e X.env) :: starEach es X.env := by rfl) (hpl : (backTo pos (starEach es X.env)).any (·.1) = false := by rfl)
    (ht : PySem.eval (.Call (.Attribute a m apos) (e :: es) [] pos) X.env = (do
      let ov ← PySem.eval a X.env
      standAt apos.atName
      let (f, first) ← holding [ov] (getMethod ov m pl)
      callWith pos f first (backTo pos (starEach (e :: es) X.env)) (backToKw pos (keywordEach [] X.env))) := by rfl) : DE X c own (.Call (.Attribute a m apos) (e :: es) [] pos) (.mthL n ia ies) :=
  DE.wk ⟨(pe_methW fit.tk ha.pe hs.pa hst hpl ht).of fun σ H Q ⟨ρ, F, E, p⟩ => E1 E p fun d1 v1 F1 H1 _ g1 E1' r1 p1 => by
    cases hf : mthF c.G.T d1 n with
    | none => simp only [hf] at p1; exact p1.elim
    | some f =>
      simp only [hf] at p1
      cases d1 <;> try (simp [mthF] at hf; done)
      rename_i k xs _
      obtain ⟨hi, mo, nf⟩ := co k f hf
      obtain ⟨q, dx, vs, rfl, h1, l, rs⟩ := Rw.ins r1
      refine ⟨c.G.C k, q, dx, _, _, rfl, h1, fit.K ▸ fit.ok.cls k hi, mo, lookup_out nf, ?_⟩
      exact EA E1' p1 fun ds ws F2 H2 q2 g2 E2' r2 p2 =>
        sp_lent (by simp only [List.length_cons]; rw [← r2.length, evals_length _ _ q2, hn]) E2' (.cons (Rw.mono r1 g2) r2) p2⟩ ho
/-- the property n, of every class that has it -/
def Prps (X : Cx) (c : Cn) (n : Nat) (m : Str) : Prop := ∀ k f, c.G.T.prop k n = some f → (c.G.T.init k).isSome = true ∧ PrpO X (c.G.C k) m (spP c.G (c.C.pure f) 1)
theorem spP.calm {G : Gl} {m : List D → R D} {np : Nat} {vs : List V} {E : XK} (h : spP G (fun ds => Dn.calm (m ds)) np vs H Q E) (E' : XK) : spP G m np vs H Q E' := by
  obtain ⟨hl, ds, F, h1, h2, h3⟩ := h
  refine ⟨hl, ds, F, h1, h2, ?_⟩
  cases q : m ds with
  | ok d => simp only [q, Dn.calm] at h3; exact h3
  | exc k es => simp only [q, Dn.calm] at h3
  | bad => simp only [q, Dn.calm] at h3
theorem d_prp {n : Nat} {m : Str} (fit : Fit X c) (co : Prps X c n m) (ha : DE X c .st a ia) (ho : own ≠ .fr := by decide) (hab : attributeBase a m X.env (PySem.eval a X.env) = PySem.eval a X.env := by rfl) : DE X c own (.Attribute a m pos) (.prp ia n) :=
  DE.wk ⟨(pe_propW ha.pe hab).of fun σ H Q ⟨ρ, F, E, p⟩ => E1 E p fun d1 v1 F1 H1 _ g1 E1' r1 p1 => by
    unfold Dn.prpD at p1
    split at p1
    · rename_i k xs _
      split at p1
      · rename_i f hf
        obtain ⟨hi, po⟩ := co k f hf
        obtain ⟨q, dx, vs, rfl, h1, l, rs⟩ := Rw.ins r1
        refine ⟨c.G.C k, q, dx, _, _, rfl, h1, fit.K ▸ fit.ok.cls k hi, po, ?_⟩
        exact (sp_strict (m := fun ds => Dn.calm (c.C.pure f ds)) (np := 1) rfl E1' (.cons (Rw.strict r1) .nil) p1).calm _
      · exact p1.elim
    · exact p1.elim⟩ ho
theorem hard_calm (r : R D) : Dn.calm (hardR r) = hardR (Dn.calm r) := by
  cases r with
  | ok d => by_cases h : hard d = true <;> simp [hardR, Dn.calm, h]
  | exc k es => by_cases h : hards es = true <;> simp [hardR, Dn.calm, h]
  | bad => rfl
theorem d_prpL {n : Nat} {m : Str} (fit : Fit X c) (co : Prps X c n m) (ha : DE X c .rd a ia) (ho : own ≠ .fr := by decide) (hab : attributeBase a m X.env (PySem.eval a X.env) = PySem.eval a X.env := by rfl) : DE X c own (.Attribute a m pos) (.prpL ia n) :=
  DE.wk ⟨(pe_propW ha.pe hab).of fun σ H Q ⟨ρ, F, E, p⟩ => E1 E p fun d1 v1 F1 H1 _ g1 E1' r1 p1 => by
    unfold Dn.prpD at p1
    split at p1
    · rename_i k xs _
      split at p1
      · rename_i f hf
        obtain ⟨hi, po⟩ := co k f hf
        obtain ⟨q, dx, vs, rfl, h1, l, rs⟩ := Rw.ins r1
        refine ⟨c.G.C k, q, dx, _, _, rfl, h1, fit.K ▸ fit.ok.cls k hi, po, ?_⟩
        rw [hard_calm] at p1
        exact (sp_lent (own := .rd) (m := fun ds => Dn.calm (c.C.pure f ds)) (np := 1) rfl E1' (.cons r1 .nil) p1).calm _
      · exact p1.elim
    · exact p1.elim⟩ ho

/-! C(..) -/
theorem GrowI.grow {a : Addr} {F0 : Addr → Prop} {H0 H1 : Hp} (g : GrowI a F0 H1 F' H') (h0 : ∀ b o, H0 b = some o → b ≠ a ∧ H1 b = some o) : Grow F0 H0 F' H' :=
  ⟨fun b o h => g.same b o (h0 b o h).1 (h0 b o h).2, g.up, fun b h => (g.new b h).imp id fun z => (by
    cases e : H0 b with
    | none => rfl
    | some o => rw [(h0 b o e).2] at z; cases z), g.has⟩
theorem sp_make {m : List D → IO} {k : Nat} {ds : List D} {vs : List V} {np : Nat} (hl : vs.length + 1 = np) (E : ER c ρ F σ H) (r : RDs c.G F H ds vs)
    (p : Post c .fr ρ σ (match m (.ins k [] :: ds) with | .ok .non s => .ok s | .exc k es _ => .exc k es | _ => .bad) F H Q) {x dx : Addr} (hx : H x = none) (hd : H dx = none) (ne : dx ≠ x) :
    spI c.G m np (.ref x :: vs) (upd (upd H dx (.own x)) x (.ins (c.G.C k) dx [])) (fun v H2 => v = .non ∧ Q (.ref x) H2) (fun cls d H' => c.W cls d σ H') := by
  have h0 : ∀ b o, H b = some o → b ≠ x ∧ (upd (upd H dx (.own x)) x (.ins (c.G.C k) dx [])) b = some o := fun b o e =>
    ⟨ne_of_none e hx, by rw [upd_ne (ne_of_none e hx), upd_ne (ne_of_none e hd)]; exact e⟩
  refine ⟨by simp only [List.length_cons]; exact hl, x, vs, .ins k [], ds, F, rfl, (E.cl x hx).2, fun a h => let ⟨o, q⟩ := E.there a h; ⟨o, (h0 a o q).2⟩, ⟨dx, [], by rw [upd_same]; rfl, Nat.zero_le _, .nil⟩, r.grow (fun b o h => (h0 b o h).2) fun _ h => h, ?_⟩
  cases q : m (.ins k [] :: ds) with
  | ok d s =>
    rw [q] at p
    cases d with
    | non =>
      intro v F' H' g o rv
      cases rv
      refine ⟨rfl, p _ F' H' (g.grow h0) ?_⟩
      have nf : ¬ F' x := fun h => (g.new x h).elim (E.cl x hx).2 fun z => by rw [upd_same] at z; cases z
      cases s with
      | lst es => exact ⟨OwnR.iff.mpr ⟨x, rfl, nf, .inr (E.cl x hx).1, o⟩, x, rfl, hx⟩
      | ins k2 es => exact ⟨OwnR.iff.mpr ⟨x, rfl, nf, .inr (E.cl x hx).1, o⟩, x, rfl, hx⟩
      | _ => exact o.elim
    | _ => exact p.elim
  | exc n es s =>
    rw [q] at p
    exact fun dx us F' H' g o h l r => p dx us F' H' (g.grow h0) h l r
  | bad => rw [q] at p; exact p
theorem sp_makeL {m : List D → IO} {k : Nat} {ds : List D} {vs : List V} {np : Nat} (hl : vs.length + 1 = np) (E : ER c ρ F σ H) (r : RWs c own F H ds vs)
    (p : Post c .fr ρ σ (hardI (match m (.ins k [] :: ds) with | .ok .non s => .ok s | .exc k es _ => .exc k es | _ => .bad)) F H Q) {x dx : Addr} (hx : H x = none) (hd : H dx = none) (ne : dx ≠ x) :
    spI c.G m np (.ref x :: vs) (upd (upd H dx (.own x)) x (.ins (c.G.C k) dx [])) (fun v H2 => v = .non ∧ Q (.ref x) H2) (fun cls d H' => c.W cls d σ H') := by
  have h0 : ∀ b o, H b = some o → b ≠ x ∧ (upd (upd H dx (.own x)) x (.ins (c.G.C k) dx [])) b = some o := fun b o e =>
    ⟨ne_of_none e hx, by rw [upd_ne (ne_of_none e hx), upd_ne (ne_of_none e hd)]; exact e⟩
  obtain ⟨F2, f1, f2, r2⟩ := r.lend
  have th : ∀ a, F2 a → ∃ o, H a = some o := fun a h => (f2 a h).elim (E.there a) id
  have nx : ¬ F2 x := fun h => by
    obtain ⟨o, e⟩ := th x h
    rw [hx] at e; cases e
  refine ⟨by simp only [List.length_cons]; exact hl, x, vs, .ins k [], ds, F2, rfl, nx, fun a h => let ⟨o, q⟩ := th a h; ⟨o, (h0 a o q).2⟩, ⟨dx, [], by rw [upd_same]; rfl, Nat.zero_le _, .nil⟩, r2.grow (fun b o h => (h0 b o h).2) fun _ h => h, ?_⟩
  have gr : ∀ {F' H'}, GrowI x F2 (upd (upd H dx (.own x)) x (.ins (c.G.C k) dx [])) F' H' → Grow F H F H' := fun g =>
    ⟨fun b o h => g.same b o (h0 b o h).1 (h0 b o h).2, fun _ h => h, fun _ h => .inl h, fun _ h => .inl h⟩
  cases q : m (.ins k [] :: ds) with
  | ok d s =>
    rw [q] at p
    cases d with
    | non =>
      intro v F' H' g o rv
      cases rv
      refine ⟨rfl, ?_⟩
      cases s with
      | ins k2 es =>
        simp only [hardI] at p
        split at p
        · rename_i hh
          obtain ⟨dx2, us, h3, l3, r3⟩ := o
          exact p _ F H' (gr g) ⟨OwnR.iff.mpr ⟨x, rfl, (E.cl x hx).2, .inr (E.cl x hx).1, dx2, us, h3, l3, r3.hardF hh⟩, x, rfl, hx⟩
        · exact p.elim
      | _ => exact p.elim
    | _ => exact p.elim
  | exc n es s =>
    rw [q] at p
    simp only [hardI] at p
    split at p
    · rename_i hh
      exact fun dx us F' H' g o h l r => p dx us F H' (gr g) h l (r.hardF hh)
    · exact p.elim
  | bad => rw [q] at p; exact p
theorem d_mk {x : Str} {k f np : Nat} {p : Pos} {es : List Expr} {ies : List IE} (fit : Fit X c) (hk : c.G.T.init k = some f) (co : MakO X x (c.G.C k) (spI c.G (c.C.io f) np)) (hg : L2.Gl X x) (ha : DA X c .st (e :: es) ies) (hn : ies.length + 1 = np := by rfl)
    (hdb : (x == ("__debug__" : Str)) = false := by decide) (he : starEach (e :: es) X.env = (false, PySem.eval e X.env) :: starEach es X.env := by rfl) (hpl : (backTo pos (starEach es X.env)).any (·.1) = false := by rfl) :
    DE X c own (.Call (.Name x p) (e :: es) [] pos) (.mk k ies) :=
  DE.any ⟨(pe_makeW fit.tk co hg ha.pa hdb he hpl).of fun σ H Q ⟨ρ, F, E, p⟩ => EA E p fun ds vs F1 H1 q g1 E1' r1 p1 => fun x dx hx hd ne => by
    unfold Dn.mkIns at p1
    rw [hk] at p1
    exact sp_make (by rw [← r1.length, evals_length _ _ q, hn]) E1' r1.st p1 hx hd ne⟩
theorem d_mkL {x : Str} {k f np : Nat} {p : Pos} {es : List Expr} {ies : List IE} (fit : Fit X c) (hk : c.G.T.init k = some f) (co : MakO X x (c.G.C k) (spI c.G (c.C.io f) np)) (hg : L2.Gl X x) (ha : DA X c .rd (e :: es) ies) (hn : ies.length + 1 = np := by rfl)
    (hdb : (x == ("__debug__" : Str)) = false := by decide) (he : starEach (e :: es) X.env = (false, PySem.eval e X.env) :: starEach es X.env := by rfl) (hpl : (backTo pos (starEach es X.env)).any (·.1) = false := by rfl) :
    DE X c own (.Call (.Name x p) (e :: es) [] pos) (.mkL k ies) :=
  DE.any ⟨(pe_makeW fit.tk co hg ha.pa hdb he hpl).of fun σ H Q ⟨ρ, F, E, p⟩ => EA E p fun ds vs F1 H1 q g1 E1' r1 p1 => fun x dx hx hd ne => by
    unfold Dn.mkIns at p1
    rw [hk] at p1
    exact sp_makeL (own := .rd) (by rw [← r1.length, evals_length _ _ q, hn]) E1' r1 p1 hx hd ne⟩
end
end Sd
set_option Elab.async false
set_option linter.all false
set_option autoImplicit false
set_option maxRecDepth 100000
set_option maxHeartbeats 4000000
/-! enumerate over a tuple. -/
/-! ### enumerate of a tuple -/
namespace PySem
open Sem (wp)
theorem meets_enumerate_new1 {v : Value} {o : Obj} {H : Heap → Prop} (B : Begins v o H) :
    Meets (Builtin.«enumerate.__new__» ⟨[.type "enumerate", v], []⟩) (fun _ R s => H s.heap ∧
      R (.ok (.ret (.ref (s.heap.push o).objs.size))) { s with heap := (s.heap.push o).push { cls := .type "enumerate", data := .fields #[.none, .bool false, .ref s.heap.objs.size, rawInt 0, .none, .none] } }) :=
  .of_wp fun prog w A R s h => by
    obtain ⟨hp, g, d, tk, os⟩ := s; obtain ⟨h1, h⟩ := h
    have hsub := sub_enumerate
    have q1 : ∀ {A' : Around} {E : Value → Shared → Prop} {Q : Value → Shared → Prop}, Q (.ref hp.objs.size) ⟨hp.push o, g, d, tk, os⟩ → wpAny (model prog w) A' (pyIter v) Q E ⟨hp, g, d, tk, os⟩ :=
      fun q => B.iter prog w _ _ ⟨hp, g, d, tk, os⟩ _ h1 q
    wp_walk using q1
    refine wpAny_stack_any fun st => wpAny_pure ?_
    split
    · rename_i c _ _ _ _ _
      cases (c == Value.type "enumerate")
      · wp_walk using q1
        exact ⟨_, rfl, h⟩
      · wp_walk using q1
        exact ⟨_, rfl, h⟩
    · wp_walk using q1
      exact ⟨_, rfl, h⟩
theorem call_enumerate_tuple {prog : Program} {w : World} {A : Around} {E : Value → Shared → Prop} {s : Shared} {l : Addr} {items : Array Value} {Q : Value → Shared → Prop} (hL : s.heap.IsTuple l items)
    (h : ∀ h', IsEnum h' (s.heap.objs.size + 1) s.heap.objs.size 0 .none → h'.IsTupleIter s.heap.objs.size l 0 → h'.objs.size = s.heap.objs.size + 2 →
      (∀ b o, s.heap.get? b = some o → h'.get? b = some o) → Q (.ref (s.heap.objs.size + 1)) { s with heap := h' }) :
    wpAny (model prog w) A (call (.type "enumerate") [.ref l]) Q E s := by
  refine callType_new F.called_enumerate (by decide) (F.typeCall_enumerate_1 _) (F.newCall_enumerate_1 _) (fun obj => F.args_object_init_2 obj _) F.entry_enumerate_new
    (meets_enumerate_new1 (begins_tuple l items)) ⟨hL, ?_⟩
  have hz : (s.heap.push { cls := .type "tuple_iterator", data := .fields #[.ref l, .int 0 0] }).objs.size = s.heap.objs.size + 1 := Heap.size_push ..
  show _ ∧ _
  rw [hz]
  have he : IsEnum ((s.heap.push { cls := .type "tuple_iterator", data := .fields #[.ref l, .int 0 0] }).push
      { cls := .type "enumerate", data := .fields #[.none, .bool false, .ref s.heap.objs.size, rawInt 0, .none, .none] }) (s.heap.objs.size + 1) s.heap.objs.size 0 .none := by
    have := Heap.get?_push_size (s.heap.push { cls := .type "tuple_iterator", data := .fields #[.ref l, .int 0 0] })
      (o := { cls := .type "enumerate", data := .fields #[.none, .bool false, .ref s.heap.objs.size, rawInt 0, .none, .none] }) rfl
    rw [hz] at this; exact this
  refine ⟨⟨_, he, rfl⟩, h _ he ⟨_, Heap.get?_push_of_some _ (Heap.get?_push_size _ rfl), rfl, rfl⟩ (by rw [Heap.size_push, hz]) fun b o x => Heap.get?_push_of_some _ (Heap.get?_push_of_some _ x)⟩
end PySem
namespace L2
open PySem PySem.Spec PyProof.Rows
/-- the tuple at a, each item in a new pair with its place -/
def IteT (K : PySem.W.Frag) (a : Addr) : It :=
  ⟨fun i H => ∃ (xs : List V) (x : V), SqT K H a xs ∧ xs[i]? = some x, fun i H v H' => ∃ T x, v = .ref T ∧ H T = none ∧ H' = upd H T (.tup [.int (i : Nat), x]) ∧ ∀ xs, SqT K H a xs → xs[i]? = some x, fun i H => ∃ xs : List V, SqT K H a xs ∧ xs.length = i⟩
theorem turn_enumT {P : Program} {w : World} {K : PySem.W.Frag} {elts : List Expr} {kk : Nat} {tpos : Pos} (a e it : Addr) :
    Turn P w K (.Tuple elts kk tpos) (IteT K a) [e, it] e (fun i h => (∃ old, IsEnum h e it ((i : Nat) : Int) old) ∧ h.IsTupleIter it a i ∧ e ≠ it ∧ a ≠ it) where
  mem := by simp
  obj := fun i h st b hb => by
    obtain ⟨⟨old, he⟩, ⟨o, ho, hc, hd⟩, _⟩ := st
    have e' : b = e ∨ b = it := by simpa using hb
    rcases e' with z | z
    · rw [z]; exact ⟨_, he, fun v q => nomatch q⟩
    · rw [z]; exact ⟨o, ho, fun v q => by rw [hd] at q; cases q⟩
  keep := fun i h h' st k => let ⟨⟨old, he⟩, hi, hne⟩ := st; ⟨⟨old, k e (by simp) _ he⟩, hi.at fun o q => k it (by simp) o q, hne⟩
  item := by
    intro X hP hw hK hc i pins s σ H E I hf st hg
    subst hP hw hK
    obtain ⟨⟨old, he⟩, hit, hne, hai⟩ := st
    obtain ⟨xs, x, hq, hx⟩ := hg
    obtain ⟨its, rv, p, hz⟩ := I.tuple hq
    obtain ⟨u, hu, ru⟩ := rv.get hx
    have hel : e < s.heap.objs.size := Heap.lt_size he
    have hil : it < s.heap.objs.size := by obtain ⟨_, q, _⟩ := hit; exact Heap.lt_size q
    have p' : s.heap.IsTuple a its.toArray := p
    have hea : e ∉ [it, a] := by
      intro hm
      have : e = it ∨ e = a := by simpa using hm
      rcases this with z | z
      · exact hne z
      · obtain ⟨o, ho, hcl, _⟩ := p'
        rw [← z, he] at ho
        cases ho
        exact absurd (Value.type.inj hcl) (by decide)
    have hlt : i < its.toArray.size := by
      have := (List.getElem?_eq_some_iff.mp hu).1
      simpa using this
    refine wpAny_pyNext_enum_itemD (Draws.tuple (prog := X.prog) (w := X.w) (A := X.A.in1) (I.ok.hd hc) it a hai its.toArray) he ⟨hit, p'⟩ hlt hne hea fun x' h' tk hPx ho hst' hT hsz hk => ?_
    obtain rfl : x' = u := by
      have : its[i]? = some x' := by simpa using hPx
      rw [hu] at this; cases this; rfl
    have hit' := hst'.1
    refine ⟨_, rfl, wpAny_letOwnedTupleGo_enum (s := { s with heap := h', toks := tk + 1 }) ho fun h'' he' sb => ?_⟩
    have hT2 : h''.get? s.heap.objs.size = some { cls := .type "tuple", data := .seq #[.int i tk, x'] } := (sb.2 _ (Nat.ne_of_gt hel)).trans hT
    have new : ObjOk X.prog X.w (upd H s.heap.objs.size (.tup [.int (i : Nat), x])) h'' s.heap.objs.size (.tup [.int (i : Nat), x]) :=
      ⟨by show 2 ≤ sizeLine; decide, [.int i tk, x'], .cons ⟨_, rfl⟩ (.cons ru .nil), ⟨_, hT2, rfl, _, rfl⟩⟩
    have I1 : Inv X pins σ (upd H s.heap.objs.size (.tup [.int (i : Nat), x])) { s with heap := h'', toks := tk + 1 } :=
      I.turnedNew (ch := [e, it]) (fun b ob hb q => (sb.2 b (fun z => hb (by simp [z]))).trans (hk b ob (fun z => hb (by simp [z])) (fun z => hb (by simp [z])) q)) hf (Nat.le_refl _) new
    refine ⟨.ref s.heap.objs.size, _, I1, rfl, ⟨_, x, rfl, I.hok.fresh (Nat.le_refl _), rfl, fun ys hy => by rw [I.tuple_inj hy hq]; exact hx⟩, ⟨⟨x', ?_⟩, hit'.at fun o q => (sb.2 it (Ne.symm hne)).trans q, hne, hai⟩, fun b hb => ?_⟩
    · have e1 : ((i + 1 : Nat) : Int) = (i : Int) + 1 := by omega
      rw [e1]; exact he'
    · have hb' : b < s.heap.objs.size := by
        have e' : b = e ∨ b = it := by simpa using hb
        rcases e' with z | z
        · rw [z]; exact hel
        · rw [z]; exact hil
      rw [upd_ne (Nat.ne_of_lt hb')]
      exact (hf b hb).1
  done := by
    intro X hP hw hK hc i pins s σ H E I hf st hg
    subst hP hw hK
    obtain ⟨⟨old, he⟩, hit, hne, hai⟩ := st
    obtain ⟨xs, hq, hx⟩ := hg
    obtain ⟨its, rv, p, hz⟩ := I.tuple hq
    obtain ⟨f0, f1, f2, f3, f4, f5⟩ := hf it (by simp)
    have hl := rv.length
    have e1 : i = its.toArray.size := by simp; omega
    subst e1
    exact wpAny_pyNext_enum_endD (Draws.tuple (prog := X.prog) (w := X.w) (A := X.A.in1) (I.ok.hd hc) it a hai its.toArray) he ⟨hit, p⟩ fun h' eb => ⟨rfl, I.turned (t' := s.toks) (fun b o hb q => eb b o hb q) f0 f1 f3 f4 f5⟩
  self := fun A i s Q E st h => let ⟨⟨_, he⟩, _⟩ := st; wpAny_pyIter_enum he h
def iEnumT (K : PySem.W.Frag) (ta : TA) : TI := fun σ H R => ta σ H fun vs H1 => ∃ a xs, vs = [.ref a] ∧ SqT K H1 a xs ∧ R (IteT K a) H1
theorem pi_enumT {X : Cx} {e : Expr} {ta : TA} {p pos tpos : Pos} {elts : List Expr} {kk : Nat} (hg : Gl X "enumerate") (hm : X.mg "enumerate" = none) (ha : PA X [e] ta) (hs : starEach [e] X.env = [(false, eval e X.env)] := by rfl) :
    PI X (.Tuple elts kk tpos) (.Call (.Name "enumerate" p) [e] [] pos) (iEnumT X.K ta) := by
  refine ⟨fun pins s σ H R I h => ?_⟩
  refine Call_ (ld_blt I hg hm boot_enumerate (PyProof.Rows.callWith_type1 (thn (ha.run pos pins s σ H _ I h) fun us s1 ⟨vs, H1, I1, r1, q1⟩ => ?_) hs rfl))
  obtain ⟨a, xs, ex, hq, q⟩ := q1
  subst ex
  cases r1 with
  | cons r rr =>
    cases rr
    cases r
    obtain ⟨its, rv, p', hz⟩ := I1.tuple hq
    refine call_enumerate_tuple (show s1.heap.IsTuple a its.toArray from p') fun h' he hit hsz hk => wpAny_pyIter_enum he ?_
    have I2 : Inv X pins σ H1 { s1 with heap := h' } := I1.kept (t' := s1.toks) hk
    have hal : a < s1.heap.objs.size := by obtain ⟨_, q, _⟩ := p'; exact Heap.lt_size q
    refine ⟨s1.heap.objs.size + 1, [s1.heap.objs.size + 1, s1.heap.objs.size], _, _, H1, rfl, I2, turn_enumT a (s1.heap.objs.size + 1) s1.heap.objs.size, ⟨⟨.none, he⟩, hit, Nat.succ_ne_self _, Nat.ne_of_lt hal⟩, fun b hb => ?_, q⟩
    have e' : b = s1.heap.objs.size + 1 ∨ b = s1.heap.objs.size := by simpa using hb
    have hle : s1.heap.objs.size ≤ b := by
      rcases e' with z | z
      · rw [z]; exact Nat.le_add_right _ _
      · rw [z]; exact Nat.le_refl _
    exact I1.fpOk hle (I1.hok.fresh hle)
theorem walk_enumT {K : PySem.W.Frag} {a : Addr} {xs : List V} : Walk (IteT K a) xs.length (fun H => SqT K H a xs) (YPair (fun i => some (.int (i : Nat))) (fun i => xs[i]?)) := by
  refine ⟨fun i _ hi q => ⟨xs, xs[i], q, by simp [hi]⟩, fun _ q => ⟨xs, q, rfl⟩, fun i H v H' _ q y => ?_⟩
  obtain ⟨T, x, h1, h2, h3, h4⟩ := y
  exact ⟨T, .int (i : Nat), x, h1, h2, h3, rfl, h4 xs q⟩
end L2
set_option Elab.async false
set_option linter.all false
set_option autoImplicit false
set_option maxRecDepth 100000
set_option maxHeartbeats 4000000
/-! Targets, what stays behind statements. -/
namespace Sd
open PySem L2 Dn PyProof.Rows
/-! ### what stays behind statements -/
def soft : HO → Bool
  | .lst _ => true
  | .ins _ _ _ => true
  | _ => false
structure Keep (F : Addr → Prop) (H : Hp) (F' : Addr → Prop) (H' : Hp) : Prop where
  up : ∀ a, F a → F' a
  fz : ∀ a o, F a → H a = some o → H' a = some o
  st : ∀ a o, H a = some o → soft o = false → H' a = some o
section
variable {G : Gl} {F F' F2 : Addr → Prop} {H H' H2 : Hp}
theorem Keep.refl : Keep F H F H := ⟨fun _ h => h, fun _ _ _ h => h, fun _ _ h _ => h⟩
theorem Keep.trans (a : Keep F H F' H') (b : Keep F' H' F2 H2) : Keep F H F2 H2 :=
  ⟨fun x h => b.up x (a.up x h), fun x o f h => b.fz x o (a.up x f) (a.fz x o f h), fun x o h s => b.st x o (a.st x o h s) s⟩
theorem Grow.keep (g : Grow F H F' H') : Keep F H F' H' := ⟨g.up, fun a o _ h => g.same a o h, fun a o h _ => g.same a o h⟩
theorem Keep.write {a : Addr} {u : HO} (o : OutW H F a) : Keep F H F (upd H a u) :=
  ⟨fun _ h => h, fun b x f h => by
    have n : b ≠ a := fun e => o.1 (by rw [← e]; exact f)
    rw [upd_ne n]; exact h, fun b x h s => by
    by_cases e : b = a
    · subst e
      rcases o.2 with ⟨xs, q⟩ | ⟨C, dx, fs, q⟩ <;> rw [q] at h <;> cases h <;> cases s
    · rw [upd_ne e]; exact h⟩
theorem Keep.sqT {a : Addr} {vs : List V} (k : Keep F H F' H') (h : SqT G.K H a vs) : SqT G.K H' a vs :=
  h.elim (fun h => .inl (h.elim (fun h => .inl (k.st _ _ h rfl)) fun ⟨o, h⟩ => .inr ⟨o, k.st _ _ h rfl⟩)) .inr
theorem Keep.fzL {a : Addr} {vs : List V} (k : Keep F H F' H') (h : FzL G.K F H a vs) : FzL G.K F' H' a vs :=
  h.elim (fun ⟨h, f⟩ => .inl ⟨h.elim (fun h => .inl (k.fz _ _ f h)) fun ⟨o, h⟩ => .inr ⟨o, k.fz _ _ f h⟩, k.up _ f⟩) .inr
mutual
theorem RD.keep {d : D} {v : V} (k : Keep F H F' H') : RD G F H d v → RD G F' H' d v
  | .non => .non
  | .bl b => .bl b
  | .int i => .int i
  | .str x => .str x
  | .tup h r => .tup (k.sqT h) (RDs.keep k r)
  | .lst h f r => .lst (k.fz _ _ f h) (k.up _ f) (RDs.keep k r)
  | .fls h r => .fls (k.fzL h) (RDs.keep k r)
  | .ins h f n l r => .ins (k.fz _ _ f h) (k.up _ f) n l (RDs.keep k r)
theorem RDs.keep {ds : List D} {vs : List V} (k : Keep F H F' H') : RDs G F H ds vs → RDs G F' H' ds vs
  | .nil => .nil
  | .cons r rs => .cons (RD.keep k r) (RDs.keep k rs)
end
end

/-! ### names stored -/
section
variable {X : Cx} {c : Cn} {F F' : Addr → Prop} {H H' : Hp} {ρ ρ' : Dn.Env} {σ : L2.St} {own : Md} {d : D} {v : V} {pos : Pos}
theorem RD.not_exn {G : Gl} {k : Nat} {ds : List D} (r : RD G F H (.exn k ds) v) : False := by cases r
theorem getV_ne {α : Type} {l : List α} {i j : Nat} {x : α} (h : i ≠ j) : (l.set i x)[j]? = l[j]? := List.getElem?_set_ne h
theorem get_set {α : Type} {l : List α} {i : Nat} {x y : α} (h : (l.set i x)[i]? = some y) : y = x := by
  rw [List.getElem?_set] at h
  split at h
  · split at h <;> simp_all
  · rename_i n; exact absurd rfl n
theorem set_get {α β : Type} {l : List α} {m : List β} {i : Nat} {x y : α} {z : β} (hl : l.length = m.length) (h : (l.set i x)[i]? = some y) : (m.set i z)[i]? = some z := by
  have hi : i < l.length := by
    rw [List.getElem?_set] at h
    split at h
    · split at h
      · assumption
      · cases h
    · rename_i n; exact absurd rfl n
  exact List.getElem?_set_self (by omega)
/-- a name that holds frozen things -/
theorem ER.set (E : ER c ρ F σ H) {i : Nat} (hm : i ∉ c.M) (r : RD c.G F H d v) : ER c (ρ.set i (some d)) F (σ.set i (some v)) H where
  self := fun a ha => ⟨(E.self a ha).1, fun w hw => by
    have : i ≠ 0 := fun z => hm (z ▸ (E.self a ha).1)
    rw [List.getElem?_set_ne this] at hw
    exact (E.self a ha).2 w hw⟩
  len := by rw [List.length_set, List.length_set]; exact E.len
  same := E.same
  up := E.up
  new := E.new
  pin := E.pin
  there := E.there
  at_ := fun j e h => by
    by_cases hj : i = j
    · subst hj
      have q := get_set h
      cases q
      refine ⟨v, set_get E.len h, ?_⟩
      have : if i ∈ c.M then OwnR c F H d v else RD c.G F H d v := by rw [if_neg hm]; exact r
      cases d with
      | exn k ds => exact r.not_exn.elim
      | _ => exact this
    · rw [List.getElem?_set_ne hj] at h
      rw [List.getElem?_set_ne hj]
      exact E.at_ j e h
  apart := fun j k d e v hj hk hne h1 h2 h3 => by
    have e1 : i ≠ j := fun z => hm (z ▸ hj)
    have e2 : i ≠ k := fun z => hm (z ▸ hk)
    rw [List.getElem?_set_ne e1] at h1 h3
    rw [List.getElem?_set_ne e2] at h2 ⊢
    exact E.apart j k d e v hj hk hne h1 h2 h3
theorem ER.wipe1 (E : ER c ρ F σ H) (i : Nat) : ER c (ρ.set i none) F (σ.set i none) H where
  self := fun a ha => ⟨(E.self a ha).1, fun w hw => by
    by_cases hi : i = 0
    · subst hi; have q := get_set hw; cases q
    · rw [List.getElem?_set_ne hi] at hw
      exact (E.self a ha).2 w hw⟩
  len := by rw [List.length_set, List.length_set]; exact E.len
  same := E.same
  up := E.up
  new := E.new
  pin := E.pin
  there := E.there
  at_ := fun j e h => by
    by_cases hj : i = j
    · subst hj
      have q := get_set h
      cases q
    · rw [List.getElem?_set_ne hj] at h
      rw [List.getElem?_set_ne hj]
      exact E.at_ j e h
  apart := fun j k d e v hj hk hne h1 h2 h3 => by
    by_cases e1 : i = j
    · subst e1; have q := get_set h1; cases q
    · by_cases e2 : i = k
      · subst e2; have q := get_set h2; cases q
      · rw [List.getElem?_set_ne e1] at h1 h3
        rw [List.getElem?_set_ne e2] at h2 ⊢
        exact E.apart j k d e v hj hk hne h1 h2 h3
theorem ER.wipe (E : ER c ρ F σ H) : ∀ vs : List Nat, ER c (wipeD ρ vs) F (L2.wipe σ vs) H
  | [] => E
  | i :: vs => (ER.wipe E vs).wipe1 i
theorem wipe_wipe_set {σ τ : L2.St} {x : Option V} : ∀ {vs : List Nat} {i : Nat}, i ∈ vs → L2.wipe (σ.set i x) vs = L2.wipe σ vs
  | [], _, h => by simp at h
  | v :: vs, i, h => by
    show (L2.wipe (σ.set i x) vs).set v none = (L2.wipe σ vs).set v none
    by_cases hi : i ∈ vs
    · rw [wipe_wipe_set (σ := σ) (τ := τ) (x := x) hi]
    · have e : i = v := (List.mem_cons.mp h).resolve_right hi
      subst e
      apply List.ext_getElem?
      intro j
      by_cases hj : i = j
      · subst hj
        simp [List.getElem?_set, wipe_length]
      · rw [List.getElem?_set_ne hj, List.getElem?_set_ne hj]
        by_cases hjv : j ∈ vs
        · have a1 : ∀ (σ : L2.St), (L2.wipe σ vs)[j]? = none ∨ (L2.wipe σ vs)[j]? = some none := fun σ => by
            cases q : (L2.wipe σ vs)[j]? with
            | none => exact .inl rfl
            | some o => cases o with
              | none => exact .inr rfl
              | some w => exact absurd hjv (wipe_some q).2
          have l1 : (L2.wipe (σ.set i x) vs).length = (L2.wipe σ vs).length := by rw [wipe_length, wipe_length, List.length_set]
          rcases a1 (σ.set i x) with q1 | q1 <;> rcases a1 σ with q2 | q2 <;> rw [q1, q2]
          · have := List.getElem?_eq_none_iff.mp q1
            rw [l1] at this
            rw [List.getElem?_eq_none_iff.mpr this] at q2; cases q2
          · have := List.getElem?_eq_none_iff.mp q2
            rw [← l1] at this
            rw [List.getElem?_eq_none_iff.mpr this] at q1; cases q1
        · rw [wipe_out hjv, wipe_out hjv, List.getElem?_set_ne hj]
theorem wipe_again {σ : L2.St} : ∀ vs : List Nat, L2.wipe (L2.wipe σ vs) vs = L2.wipe σ vs := fun vs => by
  apply List.ext_getElem?
  intro j
  by_cases hjv : j ∈ vs
  · have a1 : ∀ (σ : L2.St), (L2.wipe σ vs)[j]? = none ∨ (L2.wipe σ vs)[j]? = some none := fun σ => by
      cases q : (L2.wipe σ vs)[j]? with
      | none => exact .inl rfl
      | some o => cases o with
        | none => exact .inr rfl
        | some w => exact absurd hjv (wipe_some q).2
    have l1 : (L2.wipe (L2.wipe σ vs) vs).length = (L2.wipe σ vs).length := by rw [wipe_length]
    rcases a1 (L2.wipe σ vs) with q1 | q1 <;> rcases a1 σ with q2 | q2 <;> rw [q1, q2]
    · have := List.getElem?_eq_none_iff.mp q1
      rw [l1] at this
      rw [List.getElem?_eq_none_iff.mpr this] at q2; cases q2
    · have := List.getElem?_eq_none_iff.mp q2
      rw [← l1] at this
      rw [List.getElem?_eq_none_iff.mpr this] at q1; cases q1
  · rw [wipe_out hjv]

/-! targets -/
def gD (c : Cn) (t : Tg) : TG := fun v σ H Q => ∃ ρ F d ρ', ER c ρ F σ H ∧ RD c.G F H d v ∧ bindT t d ρ = some ρ' ∧ ∀ σ', ER c ρ' F σ' H → (∀ vs : List Nat, (∀ i ∈ tgs t, i ∈ vs) → L2.wipe σ' vs = L2.wipe σ vs) → Q σ' H
def gDs (c : Cn) (is : List Nat) : TGs := fun us σ H Q => ∃ ρ F ds, ER c ρ F σ H ∧ RDs c.G F H ds us ∧ is.length = ds.length ∧ ∀ σ', ER c (setAll is ds ρ) F σ' H → (∀ vs : List Nat, (∀ i ∈ is, i ∈ vs) → L2.wipe σ' vs = L2.wipe σ vs) → Q σ' H
structure DG (X : Cx) (c : Cn) (tg : Expr) (t : Tg) : Prop where
  pg : PG X tg (gD c t)
structure DGs (X : Cx) (c : Cn) (ts : List Expr) (is : List Nat) : Prop where
  pgs : PGs X ts (gDs c is)
theorem _root_.L2.PG.of {X : Cx} {e : Expr} {t t' : TG} (h : PG X e t) (m : ∀ v σ H Q, t' v σ H Q → t v σ H Q) : PG X e t' := ⟨fun pins s σ H v u Q I r q => h.run pins s σ H v u Q I r (m v σ H Q q)⟩
theorem _root_.L2.PGs.of {X : Cx} {e : List Expr} {t t' : TGs} (h : PGs X e t) (m : ∀ v σ H Q, t' v σ H Q → t v σ H Q) : PGs X e t' := ⟨fun pins s σ H v u Q I r q => h.run pins s σ H v u Q I r (m v σ H Q q)⟩
theorem dg_nm {i : Nat} {x : Str} (hN : X.N.Nodup) (hi : X.N[i]? = some x) (hx : Loc X.env.scope x) (hm : c.M.contains i = false := by rfl) (hf : X.fn x = true ∨ X.env.scope.names.lookup x = some .local := by first | exact .inl rfl | exact .inr rfl | assumption) : DG X c (.Name x pos) (.nm i) :=
  ⟨(pg_name hN hi hx hf).of fun v σ H Q ⟨ρ, F, d, ρ', E, r, hb, k⟩ => by
    have hm' : i ∉ c.M := fun z => by rw [List.contains_iff_mem.mpr z] at hm; cases hm
    simp only [bindT, Option.some.injEq] at hb
    subst hb
    exact k _ (E.set hm' r) fun vs hv => wipe_wipe_set (τ := σ) (hv i (by simp [tgs]))⟩
theorem dgs_nil : DGs X c [] [] := ⟨pgs_nil.of fun us σ H Q ⟨ρ, F, ds, E, r, hl, k⟩ => by
  cases r with
  | nil => exact ⟨rfl, k σ E fun _ _ => rfl⟩
  | cons _ _ => cases hl⟩
theorem dgs_cons {i : Nat} {is : List Nat} {e : Expr} {es : List Expr} (h : DG X c e (.nm i)) (hs : DGs X c es is)
    (ha : (assignEach (e :: es) X.env).map (·.2) = assign e X.env :: (assignEach es X.env).map (·.2) := by rfl) : DGs X c (e :: es) (i :: is) :=
  ⟨(pgs_cons h.pg hs.pgs ha).of fun us σ H Q ⟨ρ, F, ds, E, r, hl, k⟩ => by
    cases r with
    | nil => cases hl
    | @cons d v ds vs r rs =>
      refine ⟨v, vs, rfl, ρ, F, d, _, E, r, rfl, fun σ1 E1 w1 => ⟨_, F, ds, E1, rs, by simpa using hl, fun σ2 E2 w2 => k σ2 E2 fun ws hw => ?_⟩⟩
      rw [w2 ws fun j hj => hw j (List.mem_cons_of_mem _ hj)]
      exact w1 ws fun j hj => hw j (by simp [tgs] at hj; simp [hj])⟩
theorem dg_tp {is : List Nat} {es : List Expr} {k : Nat} (hK : X.K = c.G.K) (hc : X.calm = true) (h : DGs X c es is) (hn : (assignEach es X.env).length = is.length := by rfl) (hst : (assignEach es X.env).findIdx? (·.1) = none := by rfl) : DG X c (.Tuple es k pos) (.tp is) :=
  ⟨(pg_tup hc h.pgs hn hst).of fun v σ H Q ⟨ρ, F, d, ρ', E, r, hb, k⟩ => by
    cases d <;> try (simp [bindT] at hb; done)
    rename_i xs
    simp only [bindT] at hb
    split at hb
    · rename_i hl
      cases hb
      cases r with
      | @tup a vs ds h r => exact ⟨a, vs, rfl, hK ▸ h, by rw [← r.length, hl], ρ, F, xs, E, r, hl, k⟩
    · cases hb⟩
end
end Sd
set_option Elab.async false
set_option linter.all false
set_option autoImplicit false
set_option maxRecDepth 100000
set_option maxHeartbeats 4000000
/-! What loops walk, comprehensions. -/
namespace Sd
open PySem L2 Dn PyProof.Rows

structure Wk (c : Cn) (xs : List D) (F : Addr → Prop) (H : Hp) (J : It) : Prop where
  ex : ∃ Gd Y, Walk J xs.length Gd Y ∧ (∀ F2 H2, Keep F H F2 H2 → Gd H2) ∧ ∀ i d x F2 H2 H3, xs[i]? = some d → Keep F H F2 H2 → Y i H2 x H3 → Grow F2 H2 F2 H3 ∧ RD c.G F2 H3 d x
def ExW (c : Cn) (σ : L2.St) (F : Addr → Prop) (H : Hp) (k : Nat) (ds : List D) : Prop :=
  ∀ dx vs F' H', Grow F H F' H' → H' dx = some (.xd ((c.G.names k ds.length).zip vs)) → ds.length ≤ (c.G.T.flds k).length → RDs c.G F' H' ds vs → c.W (.ref (c.G.C k)) (some dx) σ H'
def PostI (c : Cn) (σ : L2.St) (r : R D) (F : Addr → Prop) (H : Hp) (R' : It → Hp → Prop) : Prop := match r with
  | .ok x => match items x with
    | some xs => ∀ J F' H', Grow F H F' H' → Wk c xs F' H' J → R' J H'
    | none => False
  | .exc k ds => ExW c σ F H k ds
  | .bad => False
def tI (c : Cn) (ie : IE) : TI := fun σ H R' => ∃ ρ F, ER c ρ F σ H ∧ PostI c σ (Dn.eval c.G.T c.C ie ρ) F H R'
structure DI (X : Cx) (c : Cn) (tg e : Expr) (ie : IE) : Prop where
  pi : PI X tg e (tI c ie)
section
variable {X : Cx} {c : Cn} {F F' : Addr → Prop} {H H' : Hp} {ρ ρ' : Dn.Env} {σ : L2.St} {own : Md} {d : D} {v : V} {pos : Pos} {tg e a b : Expr} {ie ia ib : IE}
theorem Wk.tup {xs : List D} {q : Addr} {vs : List V} (h : SqT c.G.K H q vs) (r : RDs c.G F H xs vs) : Wk c xs F H (Itt c.G.K q) :=
  ⟨fun H => SqT c.G.K H q vs, YAt vs, by rw [r.length]; exact walk_tup, fun F2 H2 k => k.sqT (G := c.G) h, fun i d x F2 H2 H3 hd k y => by
    obtain ⟨rfl, hx⟩ := y
    obtain ⟨w, hw, rw_⟩ := r.get hd
    rw [hw] at hx; cases hx
    exact ⟨.refl, rw_.keep k⟩⟩
theorem Wk.lst {xs : List D} {q : Addr} {vs : List V} (h : FzL c.G.K F H q vs) (r : RDs c.G F H xs vs) : Wk c xs F H (Itl c.G.K q) :=
  ⟨fun H => SqL c.G.K H q vs, YAt vs, by rw [r.length]; exact walk_list, fun F2 H2 k => (k.fzL (G := c.G) h).sq, fun i d x F2 H2 H3 hd k y => by
    obtain ⟨rfl, hx⟩ := y
    obtain ⟨w, hw, rw_⟩ := r.get hd
    rw [hw] at hx; cases hx
    exact ⟨.refl, rw_.keep k⟩⟩
theorem di_val (fit : Fit X c) (h : DE X c .st e ie) : DI X c tg e ie := ⟨⟨fun pins s σ H R' I ⟨ρ, F, E, p⟩ => by
  cases q : Dn.eval c.G.T c.C ie ρ with
  | bad => rw [q] at p; exact p.elim
  | exc k ds => rw [q] at p; exact (pi_tup h.pe).run pins s σ H R' I ⟨ρ, F, E, by rw [q]; exact p⟩
  | ok x =>
    rw [q] at p
    cases x with
    | tup xs => exact (pi_tup h.pe).run pins s σ H R' I ⟨ρ, F, E, by
        rw [q]
        intro v F' H' g r
        obtain ⟨a, vs, rfl, h1, r1⟩ := Rw.tup r
        exact ⟨a, rfl, ⟨vs, fit.K ▸ h1⟩, by rw [fit.K]; exact p _ F' H' g (.tup h1 r1)⟩⟩
    | lst xs => exact (pi_list h.pe).run pins s σ H R' I ⟨ρ, F, E, by
        rw [q]
        intro v F' H' g r
        have r := Rw.strict r
        cases r with
        | @lst a vs _ h1 f r1 => exact ⟨a, rfl, ⟨vs, .of h1⟩, by rw [fit.K]; exact p _ F' H' g (.lst (.inl ⟨.of h1, f⟩) r1)⟩⟩
    | fls xs => exact (pi_list h.pe).run pins s σ H R' I ⟨ρ, F, E, by
        rw [q]
        intro v F' H' g r
        have r := Rw.strict r
        cases r with
        | @fls a vs _ h1 r1 => exact ⟨a, rfl, ⟨vs, fit.K ▸ h1.sq⟩, by rw [fit.K]; exact p _ F' H' g (.lst h1 r1)⟩⟩
    | _ => exact p.elim⟩⟩
theorem short_ok {i : Int} (h : short i = true) : -(2 ^ 62) ≤ i ∧ i < 2 ^ 62 := by
  unfold short at h
  have h := of_decide_eq_true h
  omega
theorem Wk.rng {i j : Int} : Wk c (rangeD i j) F H (Itr i (j - i).toNat) :=
  ⟨fun _ => True, YFn fun k => .int (i + k), by
    have : (rangeD i j).length = (j - i).toNat := by simp [rangeD]
    rw [this]; exact walk_range, fun _ _ _ => trivial, fun k d x F2 H2 H3 hd _ y => by
    obtain ⟨rfl, rfl⟩ := y
    unfold rangeD at hd
    rw [List.getElem?_map] at hd
    cases q : (List.range (j - i).toNat)[k]? with
    | none => rw [q] at hd; cases hd
    | some m =>
      rw [q] at hd
      cases hd
      have := List.getElem?_eq_some_iff.mp q
      obtain ⟨h1, h2⟩ := this
      rw [List.getElem_range] at h2
      subst h2
      exact ⟨.refl, .int _⟩⟩
theorem Wk.down {i j : Int} : Wk c (downD i j) F H (Itc i (-1) (i - j).toNat) :=
  ⟨fun _ => True, YFn fun k => .int (i + (k : Nat) * (-1)), by
    have : (downD i j).length = (i - j).toNat := by simp [downD]
    rw [this]; exact walk_rangeC, fun _ _ _ => trivial, fun k d x F2 H2 H3 hd _ y => by
    obtain ⟨rfl, rfl⟩ := y
    unfold downD at hd
    rw [List.getElem?_map] at hd
    cases q : (List.range (i - j).toNat)[k]? with
    | none => rw [q] at hd; cases hd
    | some m =>
      rw [q] at hd
      cases hd
      have := List.getElem?_eq_some_iff.mp q
      obtain ⟨h1, h2⟩ := this
      rw [List.getElem_range] at h2
      subst h2
      have e : i + (k : Nat) * (-1 : Int) = i - (k : Int) := by omega
      simp only [e]
      exact ⟨.refl, .int _⟩⟩
theorem di_range2 {p : Pos} (hg : L2.Gl X "range") (hm : X.mg "range" = none) (ha : DA X c .st [a, b] [ia, ib])
    (hs : starEach [a, b] X.env = [(false, PySem.eval a X.env), (false, PySem.eval b X.env)] := by rfl) (hs2 : starEach [b] X.env = [(false, PySem.eval b X.env)] := by rfl) : DI X c tg (.Call (.Name "range" p) [a, b] [] pos) (.range ia ib) :=
  ⟨⟨fun pins s σ H R' I ⟨ρ, F, E, p⟩ => (pi_range2 hg hm ha.pa hs hs2).run pins s σ H R' I ⟨ρ, F, E, by
    simp only [Dn.eval, Dn.evals] at p ⊢
    cases q1 : Dn.eval c.G.T c.C ia ρ with
    | bad => rw [q1] at p; exact p.elim
    | exc k ds => rw [q1] at p; exact p
    | ok x =>
      rw [q1, R.bind_ok] at p
      rw [R.bind_ok]
      cases q2 : Dn.eval c.G.T c.C ib ρ with
      | bad => rw [q2] at p; exact p.elim
      | exc k ds => rw [q2] at p; exact p
      | ok y =>
        rw [q2, R.bind_ok] at p
        intro vs F' H' g r
        cases x <;> try exact p.elim
        cases y <;> try exact p.elim
        rename_i i j
        simp only at p
        cases r with
        | cons r1 rr =>
          cases rr with
          | cons r2 rr =>
            cases rr
            cases r1.int
            cases r2.int
            split at p
            · rename_i h
              rw [Bool.and_eq_true] at h
              obtain ⟨h1, h2⟩ := short_ok h.1
              obtain ⟨h3, h4⟩ := short_ok h.2
              exact ⟨i, j, rfl, ⟨h1, h2, h3, h4⟩, p _ F' H' g .rng⟩
            · exact p.elim⟩⟩⟩
theorem di_range1 {p : Pos} (hg : L2.Gl X "range") (hm : X.mg "range" = none) (ha : DA X c .st [a] [ia])
    (hs : starEach [a] X.env = [(false, PySem.eval a X.env)] := by rfl) : DI X c tg (.Call (.Name "range" p) [a] [] pos) (.range (.int 0) ia) :=
  ⟨⟨fun pins s σ H R' I ⟨ρ, F, E, p⟩ => (pi_range1 hg hm ha.pa hs).run pins s σ H R' I ⟨ρ, F, E, by
    simp only [Dn.eval, Dn.evals, R.bind_ok] at p ⊢
    cases q1 : Dn.eval c.G.T c.C ia ρ with
    | bad => rw [q1] at p; exact p.elim
    | exc k ds => rw [q1] at p; exact p
    | ok x =>
      rw [q1, R.bind_ok] at p
      rw [R.bind_ok]
      intro vs F' H' g r
      cases x <;> try exact p.elim
      rename_i j
      simp only at p
      cases r with
      | cons r1 rr =>
        cases rr
        cases r1.int
        split at p
        · rename_i h
          rw [Bool.and_eq_true] at h
          obtain ⟨h3, h4⟩ := short_ok h.2
          refine ⟨j, rfl, h3, h4, p _ F' H' g ?_⟩
          have := Wk.rng (c := c) (F := F') (H := H') (i := 0) (j := j)
          rw [show (j - 0).toNat = j.toNat by omega] at this
          exact this
        · exact p.elim⟩⟩⟩
theorem di_down {t : Expr} {p : Pos} (hg : L2.Gl X "range") (hm : X.mg "range" = none) (ha : DA X c .st [a, b, t] [ia, ib, .neg (.int 1)])
    (hs : starEach [a, b, t] X.env = (false, PySem.eval a X.env) :: starEach [b, t] X.env := by rfl) (hpl : (backTo pos (starEach [b, t] X.env)).any (·.1) = false := by rfl) : DI X c tg (.Call (.Name "range" p) [a, b, t] [] pos) (.down ia ib) :=
  ⟨⟨fun pins s σ H R' I ⟨ρ, F, E, p⟩ => (pi_range3 hg hm ha.pa hs hpl).run pins s σ H R' I ⟨ρ, F, E, by
    simp only [Dn.eval, Dn.evals, R.bind_ok] at p ⊢
    cases q1 : Dn.eval c.G.T c.C ia ρ with
    | bad => rw [q1] at p; exact p.elim
    | exc k ds => rw [q1] at p; exact p
    | ok x =>
      rw [q1, R.bind_ok] at p
      rw [R.bind_ok]
      cases q2 : Dn.eval c.G.T c.C ib ρ with
      | bad => rw [q2] at p; exact p.elim
      | exc k ds => rw [q2] at p; exact p
      | ok y =>
        rw [q2, R.bind_ok] at p
        intro vs F' H' g r
        cases x <;> try exact p.elim
        cases y <;> try exact p.elim
        rename_i i j
        simp only at p
        cases r with
        | cons r1 rr =>
          cases rr with
          | cons r2 rr =>
            cases rr with
            | cons r3 rr =>
              cases rr
              cases r1.int
              cases r2.int
              cases r3.int
              split at p
              · rename_i h
                rw [Bool.and_eq_true] at h
                obtain ⟨h1, h2⟩ := short_ok h.1
                obtain ⟨h3, h4⟩ := short_ok h.2
                exact ⟨i, j, -1, _, rfl, .neg h1 h2 h3 h4, p _ F' H' g .down⟩
              · exact p.elim⟩⟩⟩
theorem enum_get {xs : List D} {i : Nat} {d : D} (h : (enumD 0 xs)[i]? = some d) : ∃ e, xs[i]? = some e ∧ d = .tup [.int (i : Nat), e] := by
  unfold enumD at h
  rw [List.getElem?_map] at h
  cases q : (List.range xs.length)[i]? with
  | none => rw [q] at h; cases h
  | some m =>
    rw [q] at h
    obtain ⟨h1, h2⟩ := List.getElem?_eq_some_iff.mp q
    rw [List.getElem_range] at h2
    subst h2
    have hi : i < xs.length := by simpa using h1
    simp only [Option.map_some, Option.some.injEq] at h
    refine ⟨xs[i], by simp [hi], ?_⟩
    rw [← h]
    simp [List.getD, hi]
theorem Wk.pairs {xs : List D} {vs : List V} {J : It} {Gd : Hp → Prop} (w : Walk J vs.length Gd (YPair (fun i => some (.int (i : Nat))) (fun i => vs[i]?))) (hG : ∀ F2 H2, Keep F H F2 H2 → Gd H2) (r : RDs c.G F H xs vs) : Wk c (enumD 0 xs) F H J := by
  have hl : (enumD 0 xs).length = vs.length := by rw [← r.length]; simp [enumD]
  refine ⟨Gd, _, by rw [hl]; exact w, hG, fun i d x F2 H2 H3 hd k y => ?_⟩
  obtain ⟨T, x1, y1, rfl, hT, rfl, h1, h2⟩ := y
  obtain ⟨e, he, rfl⟩ := enum_get hd
  obtain ⟨w1, hw, rw_⟩ := r.get he
  simp only at h1 h2
  rw [hw] at h2
  cases h2; cases h1
  exact ⟨.laid hT, .tup (.of upd_same) (.cons (.int _) (.cons ((rw_.keep k).mono (.laid hT)) .nil))⟩
theorem di_enum {p tpos : Pos} {elts : List Expr} {kk : Nat} (fit : Fit X c) (hg : L2.Gl X "enumerate") (hm : X.mg "enumerate" = none) (ha : DA X c .st [a] [ia])
    (hs : starEach [a] X.env = [(false, PySem.eval a X.env)] := by rfl) : DI X c (.Tuple elts kk tpos) (.Call (.Name "enumerate" p) [a] [] pos) (.enum ia 0) := ⟨⟨fun pins s σ H R' I ⟨ρ, F, E, p⟩ => by
  simp only [Dn.eval] at p
  cases q : Dn.eval c.G.T c.C ia ρ with
  | bad => rw [q] at p; exact p.elim
  | exc k ds => rw [q] at p; exact (pi_enum hg hm ha.pa hs).run pins s σ H R' I ⟨ρ, F, E, by simp only [Dn.evals]; rw [q]; exact p⟩
  | ok x =>
    rw [q, R.bind_ok] at p
    cases x with
    | tup xs => exact (pi_enumT hg hm ha.pa hs).run pins s σ H R' I ⟨ρ, F, E, by
        simp only [Dn.evals, R.bind_ok]
        rw [q, R.bind_ok]
        intro vs F' H' g r
        cases r with
        | cons r rr =>
          cases rr
          obtain ⟨a, vs, rfl, h1, r1⟩ := Rw.tup r
          refine ⟨a, vs, rfl, fit.K ▸ h1, ?_⟩
          rw [fit.K]
          exact p _ F' H' g (.pairs walk_enumT (fun F2 H2 k => k.sqT (G := c.G) h1) r1)⟩
    | lst xs => exact (pi_enum hg hm ha.pa hs).run pins s σ H R' I ⟨ρ, F, E, by
        simp only [Dn.evals, R.bind_ok]
        rw [q, R.bind_ok]
        intro vs F' H' g r
        cases r with
        | cons r rr =>
          cases rr
          have r := Rw.strict r
          cases r with
          | @lst a vs _ h1 f r1 =>
            refine ⟨a, vs, rfl, .of h1, ?_⟩
            rw [fit.K]
            exact p _ F' H' g (.pairs walk_enum (fun F2 H2 k => (k.fzL (G := c.G) (.inl ⟨.of h1, f⟩)).sq) r1)⟩
    | fls xs => exact (pi_enum hg hm ha.pa hs).run pins s σ H R' I ⟨ρ, F, E, by
        simp only [Dn.evals, R.bind_ok]
        rw [q, R.bind_ok]
        intro vs F' H' g r
        cases r with
        | cons r rr =>
          cases rr
          have r := Rw.strict r
          cases r with
          | @fls a vs _ h1 r1 =>
            refine ⟨a, vs, rfl, fit.K ▸ h1.sq, ?_⟩
            rw [fit.K]
            exact p _ F' H' g (.pairs walk_enum (fun F2 H2 k => (k.fzL (G := c.G) h1).sq) r1)⟩
    | _ => exact p.elim⟩⟩

/-! ### comprehensions -/
def _root_.Sd.Cn.hush (c : Cn) : Cn := { c with W := fun _ _ _ _ => False }
theorem ER.hush (E : ER c ρ F σ H) : ER c.hush ρ F σ H := ⟨E.len, E.same, E.up, E.new, E.at_, E.pin, E.there, E.self, E.apart⟩
theorem Fit.blk (fit : Fit X c) {s : Shared} {H : Hp} {scope : Scope} {ce : PySem.Env} {fp : List Addr} : Fit (X.blk s H scope ce fp) c.hush :=
  ⟨fit.ok, fit.K, fit.mg, fit.un, fun u s' ⟨_, _, _, _, _, _, _, _, _, _, _, _, _, _, _, _, z⟩ => z.elim⟩
theorem CalO.blk {x : Str} {sp : Sp} (h : CalO X x sp) {s : Shared} {H : Hp} {scope : Scope} {ce : PySem.Env} {fp : List Addr} : CalO (X.blk s H scope ce fp) x sp := ⟨h.ex⟩
theorem MakO.blk {x : Str} {C : Addr} {sp : Sp} (h : MakO X x C sp) {s : Shared} {H : Hp} {scope : Scope} {ce : PySem.Env} {fp : List Addr} : MakO (X.blk s H scope ce fp) x C sp := ⟨h.ex⟩
theorem Mths.blk {n np : Nat} {m : Str} (h : Mths X c n np m) {s : Shared} {H : Hp} {scope : Scope} {ce : PySem.Env} {fp : List Addr} : Mths (X.blk s H scope ce fp) c.hush n np m := fun k f e => let ⟨a, b, d⟩ := h k f e; ⟨a, ⟨b.ex⟩, d⟩
theorem Prps.blk {n : Nat} {m : Str} (h : Prps X c n m) {s : Shared} {H : Hp} {scope : Scope} {ce : PySem.Env} {fp : List Addr} : Prps (X.blk s H scope ce fp) c.hush n m := fun k f e => let ⟨a, b⟩ := h k f e; ⟨a, ⟨b.ex⟩⟩
def PostC (c : Cn) (ic : Option IE) (ρ : Dn.Env) (σ : L2.St) (F : Addr → Prop) (H : Hp) (Q : Bool → Hp → Prop) : Prop := match ic with
  | none => ∀ F' H', Grow F H F' H' → Q true H'
  | some e => PostT c σ (Dn.eval c.G.T c.C e ρ) F H Q
structure DTs (X : Cx) (c : Cn) (ifs : List Expr) (ic : Option IE) : Prop where
  pts : PTs X ifs (fun σ H Q => ∃ ρ F, ER c ρ F σ H ∧ PostC c ic ρ σ F H Q)
theorem _root_.L2.PTs.of {X : Cx} {e : List Expr} {t t' : TT} (h : PTs X e t) (m : ∀ σ H Q, t' σ H Q → t σ H Q) : PTs X e t' := ⟨fun pins s σ H Q I q => h.run pins s σ H Q I (m σ H Q q)⟩
theorem dts_nil : DTs X c [] none := ⟨pts_nil.of fun σ H Q ⟨ρ, F, E, p⟩ => p F H .refl⟩
theorem dts_one {ic : IE} (h : DT X c e ic) : DTs X c [e] (some ic) := ⟨(pts_one h.pt).of fun σ H Q ⟨ρ, F, E, p⟩ => ⟨ρ, F, E, p⟩⟩
theorem turns_app (f : D → R (Option D)) : ∀ (l : List D) (d : D), turns f (l ++ [d]) = (turns f l).bind fun ys => (f d).bind fun y => .ok (ys ++ y.toList)
  | [], d => by
    simp only [List.nil_append, turns, R.bind_ok]
    cases f d with
    | ok y => cases y <;> rfl
    | exc k ds => rfl
    | bad => rfl
  | x :: l, d => by
    simp only [List.cons_append, turns, turns_app f l d]
    cases f x with
    | ok y =>
      simp only [R.bind_ok]
      cases turns f l with
      | ok ys =>
        simp only [R.bind_ok]
        cases f d with
        | ok z => cases y <;> rfl
        | exc k ds => rfl
        | bad => rfl
      | exc k ds => rfl
      | bad => rfl
    | exc k ds => rfl
    | bad => rfl
theorem turns_split (f : D → R (Option D)) : ∀ (l m : List D) (ys : List D), turns f (l ++ m) = .ok ys → ∃ y1 y2, turns f l = .ok y1 ∧ turns f m = .ok y2 ∧ ys = y1 ++ y2
  | [], m, ys, h => ⟨[], ys, rfl, h, rfl⟩
  | x :: l, m, ys, h => by
    simp only [List.cons_append, turns] at h ⊢
    cases q : f x with
    | ok y =>
      rw [q, R.bind_ok] at h
      cases q2 : turns f (l ++ m) with
      | ok zs =>
        rw [q2] at h
        obtain ⟨y1, y2, h1, h2, h3⟩ := turns_split f l m zs q2
        simp only [R.bind_ok] at h
        cases h
        exact ⟨_, y2, by rw [R.bind_ok, h1, R.bind_ok], h2, by cases y <;> simp [h3]⟩
      | exc k ds => rw [q2] at h; cases h
      | bad => rw [q2] at h; cases h
    | exc k ds => rw [q] at h; cases h
    | bad => rw [q] at h; cases h
/-- one turn -/
theorem turns_step (f : D → R (Option D)) {xs ys : List D} (h : turns f xs = .ok ys) {i : Nat} (hi : i < xs.length) : ∃ done y, turns f (xs.take i) = .ok done ∧ f xs[i] = .ok y ∧ turns f (xs.take (i + 1)) = .ok (done ++ y.toList) ∧ (done ++ y.toList).length ≤ ys.length := by
  have e : xs = xs.take (i + 1) ++ xs.drop (i + 1) := (List.take_append_drop _ _).symm
  rw [e] at h
  obtain ⟨y1, y2, h1, h2, h3⟩ := turns_split f _ _ _ h
  have e2 : xs.take (i + 1) = xs.take i ++ [xs[i]] := by rw [List.take_succ, List.getElem?_eq_getElem hi]; rfl
  rw [e2] at h1
  obtain ⟨y3, y4, h4, h5, h6⟩ := turns_split f _ _ _ h1
  have h7 := turns_app f (xs.take i) xs[i]
  rw [h1, h4] at h7
  cases q : f xs[i] with
  | ok y =>
    rw [q] at h7
    simp only [R.bind_ok, R.ok.injEq] at h7
    refine ⟨y3, y, h4, rfl, by rw [e2, h1, h7], ?_⟩
    rw [← h7, h3]; simp
  | exc k ds => rw [q] at h7; simp only [R.bind_ok, R.bind_exc] at h7; cases h7
  | bad => rw [q] at h7; simp only [R.bind_ok, R.bind_bad] at h7; cases h7

def turnF (T : Tab) (C : Calls) (ie : IE) (t : Tg) (ic : Option IE) (ρ : Dn.Env) (d : D) : R (Option D) := match bindT t d (wipeD ρ (tgs t)) with
  | some ρ' => (match ic with
    | none => (Dn.eval T C ie ρ').bind fun y => .ok (some y)
    | some c => (Dn.eval T C c ρ').bind fun b => match truth b with
      | some true => (Dn.eval T C ie ρ').bind fun y => .ok (some y)
      | some false => .ok none
      | none => .bad)
  | none => .bad
theorem eval_lc {T : Tab} {C : Calls} {ie it : IE} {t : Tg} {ic : Option IE} {ρ : Dn.Env} : Dn.eval T C (.lc ie t it ic) ρ = (Dn.eval T C it ρ).bind fun x => match items x with
    | some xs => calm ((turns (turnF T C ie t ic ρ) xs).bind fun ys => if ys.length ≤ line then .ok (.lst ys) else .bad)
    | none => .bad := by
  cases ic <;> simp only [Dn.eval] <;> (congr)
theorem lc_red {ie it : IE} {t : Tg} {ic : Option IE} {vs : List Nat} {Q : VK} (ho : vs = tgs t) (h : tE c .fr (Dn.eval c.G.T c.C (.lc ie t it ic)) σ H Q) :
    tLc (tI c it) (gD c.hush t) (fun σ H Q => ∃ ρ F, ER c.hush ρ F σ H ∧ PostC c.hush ic ρ σ F H Q) (tE c.hush .st (Dn.eval c.G.T c.C ie)) vs σ H Q := by
  obtain ⟨ρ, F, E, p⟩ := h
  refine ⟨ρ, F, E, ?_⟩
  rw [eval_lc] at p
  cases q : Dn.eval c.G.T c.C it ρ with
  | bad => rw [q] at p; exact p.elim
  | exc k ds => rw [q] at p; exact p
  | ok x =>
    rw [q, R.bind_ok] at p
    cases hx : items x with
    | none => simp only [hx] at p; exact p.elim
    | some xs =>
      simp only [hx] at p
      show PostI c σ (.ok x) F H _
      unfold PostI
      simp only [hx]
      intro J F1 H1 g1 wk D hD
      obtain ⟨Gd, Y, w, hG, hY⟩ := wk.ex
      cases hq : turns (turnF c.G.T c.C ie t ic ρ) xs with
      | bad => rw [hq] at p; exact p.elim
      | exc k ds => rw [hq] at p; exact p.elim
      | ok ys =>
        rw [hq, R.bind_ok] at p
        split at p
        · rename_i hl
          have E1 := E.mono g1
          have p : ∀ v F' H', Grow F H F' H' → FrR c H F' H' (.lst ys) v → Q v H' := p
          refine lc_it w (g := gD c.hush t) (tt := fun σ H Q => ∃ ρ F, ER c.hush ρ F σ H ∧ PostC c.hush ic ρ σ F H Q) (te := tE c.hush .st (Dn.eval c.G.T c.C ie)) (vs := vs) (σ := σ) (Qd := fun H => Q (.ref D) H) (fun i H2 => ∃ F2 done acc, Grow F1 H1 F2 H2 ∧ H2 D = some (.lst acc) ∧ ¬ F2 D ∧ RDs c.G F2 H2 done acc ∧ turns (turnF c.G.T c.C ie t ic ρ) (xs.take i) = .ok done)
            ⟨F1, [], [], .laid hD, upd_same, (E1.cl D hD).2, .nil, by simp [turns]⟩ (fun i H2 _ ⟨F2, _, _, g2, _⟩ => hG F2 H2 g2.keep) (fun i x H2 H3 hlt ⟨F2, done, acc, g2, hDa, nF, rs, htk⟩ y => ?_) (fun H2 ⟨F2, done, acc, g2, hDa, nF, rs, htk⟩ => ?_)
          · obtain ⟨done', y', t1, t2, t3, t4⟩ := turns_step _ hq hlt
            rw [htk] at t1
            cases t1
            have hd : xs[i]? = some xs[i] := List.getElem?_eq_getElem hlt
            obtain ⟨g3, rd⟩ := hY i xs[i] x F2 H2 H3 hd g2.keep y
            unfold turnF at t2
            split at t2
            · rename_i ρ' hb
              have Ew := ((E1.mono (g2.trans g3)).wipe (tgs t)).hush
              have len1 : done.length = acc.length := rs.length
              rw [ho]
              refine ⟨wipeD ρ (tgs t), F2, xs[i], ρ', Ew, rd, hb, fun σ2 E2 w2 => ⟨?_, ?_⟩⟩
              · rw [w2 (tgs t) fun i h => h, wipe_again]
              have fin : ∀ F3 H4 F4 H5 yv ny, Grow F2 H3 F3 H4 → Grow F3 H4 F4 H5 → RD c.G F4 H5 ny yv → y' = some ny → ∃ acc, H5 D = some (.lst acc) ∧ acc.length < sizeLine ∧
                  ∃ F2 done acc_1, Grow F1 H1 F2 (upd H5 D (.lst (acc ++ [yv]))) ∧ upd H5 D (.lst (acc ++ [yv])) D = some (.lst acc_1) ∧ ¬ F2 D ∧ RDs c.G F2 (upd H5 D (.lst (acc ++ [yv]))) done acc_1 ∧ turns (turnF c.G.T c.C ie t ic ρ) (xs.take (i + 1)) = .ok done := by
                intro F3 H4 F4 H5 yv ny g4 g5 ry ey
                subst ey
                have gg := (g3.trans g4).trans g5
                have hD5 : H5 D = some (.lst acc) := gg.same _ _ hDa
                have nF4 : ¬ F4 D := fun f => (gg.new D f).elim nF fun z => by rw [hDa] at z; cases z
                have ow : OutW H5 F4 D := ⟨nF4, .inl ⟨_, hD5⟩⟩
                refine ⟨acc, hD5, ?_, F4, done ++ [ny], acc ++ [yv], ?_, upd_same, nF4, ?_, t3⟩
                · simp only [Option.toList, List.length_append, List.length_cons, List.length_nil] at t4
                  have h1 : acc.length < 16000000 := by
                    have : ys.length ≤ 16000000 := hl
                    omega
                  rw [sizeLine_eq]; omega
                · have g6 := g2.trans gg
                  exact ⟨fun a o h => by rw [upd_ne (ne_of_none h hD)]; exact g6.same a o h, g6.up, g6.new, fun a h => (g6.has a h).imp id fun ⟨o, e⟩ => ⟨o, by
                    have : a ≠ D := fun e => nF4 (e ▸ h)
                    rw [upd_ne this]; exact e⟩⟩
                · exact ((rs.mono gg).append (.cons ry .nil)).write ow
              cases ic with
              | none =>
                refine ⟨ρ', F2, E2, fun F3 H4 g4 => ?_⟩
                simp only [if_true]
                refine ⟨ρ', F3, E2.mono g4, ?_⟩
                simp only at t2
                show Post c.hush .st ρ' σ2 (Dn.eval c.G.T c.C ie ρ') F3 H4 _
                cases q3 : Dn.eval c.G.T c.C ie ρ' with
                | ok ny =>
                  rw [q3, R.bind_ok] at t2
                  cases t2
                  exact fun yv F4 H5 g5 r => fin F3 H4 F4 H5 yv ny g4 g5 (Rw.strict r) rfl
                | exc k ds => rw [q3] at t2; cases t2
                | bad => rw [q3] at t2; cases t2
              | some cc =>
                refine ⟨ρ', F2, E2, ?_⟩
                simp only at t2
                show PostT c.hush σ2 (Dn.eval c.G.T c.C cc ρ') F2 H3 _
                cases q2 : Dn.eval c.G.T c.C cc ρ' with
                | ok bd =>
                  rw [q2, R.bind_ok] at t2
                  cases hb2 : truth bd with
                  | none => simp only [hb2] at t2; cases t2
                  | some b =>
                    refine ⟨b, hb2, fun F3 H4 g4 => ?_⟩
                    simp only [hb2] at t2
                    cases b with
                    | true =>
                      simp only [if_true]
                      refine ⟨ρ', F3, E2.mono g4, ?_⟩
                      show Post c.hush .st ρ' σ2 (Dn.eval c.G.T c.C ie ρ') F3 H4 _
                      cases q3 : Dn.eval c.G.T c.C ie ρ' with
                      | ok ny =>
                        simp only [q3, R.bind_ok] at t2
                        cases t2
                        exact fun yv F4 H5 g5 r => fin F3 H4 F4 H5 yv ny g4 g5 (Rw.strict r) rfl
                      | exc k ds => simp only [q3, R.bind_exc] at t2; cases t2
                      | bad => simp only [q3, R.bind_bad] at t2; cases t2
                    | false =>
                      simp only [Bool.false_eq_true, if_false]
                      simp only at t2
                      cases t2
                      have gg := g3.trans g4
                      refine ⟨F3, done, acc, g2.trans gg, gg.same _ _ hDa, fun f => (gg.new D f).elim nF fun z => (by rw [hDa] at z; cases z), rs.mono gg, ?_⟩
                      rw [t3]; simp
                | exc k ds => rw [q2] at t2; cases t2
                | bad => rw [q2] at t2; cases t2
            · cases t2
          · rw [List.take_length, hq] at htk
            cases htk
            exact p (.ref D) F2 H2 (g1.trans g2) ⟨⟨D, acc, rfl, hDa, nF, .inr (E1.cl D hD).1, rs⟩, D, rfl, (g1.free hD)⟩
        · exact p.elim
theorem d_lc {elt iter : Expr} {ifs : List Expr} {scope : Scope} {own : List (Str × Nat)} {t : Tg} {ie it : IE} {ic : Option IE} {m : Md} (hc : X.calm = true) (hN : X.N.Nodup) (hi : DI X c tg iter it) (ok : BlkOk X.N X.env.scope scope own) (ho : own.map (·.2) = tgs t)
    (hg : ∀ (s : Shared) (H : Hp) (C : Addr) (cl : List (Str × Addr)) (fp : List Addr), DG (X.blk s H scope (compEnvC scope cl C X.env) fp) c.hush tg t) (ht : ∀ (s : Shared) (H : Hp) (C : Addr) (cl : List (Str × Addr)) (fp : List Addr), DTs (X.blk s H scope (compEnvC scope cl C X.env) fp) c.hush ifs ic)
    (he : ∀ (s : Shared) (H : Hp) (C : Addr) (cl : List (Str × Addr)) (fp : List Addr), DE (X.blk s H scope (compEnvC scope cl C X.env) fp) c.hush .st elt ie) (hs : ∀ x, foldedSetIterable iter X.env x = pure x := by intro _; rfl) :
    DE X c m (.ListComp elt [⟨tg, iter, ifs, 0⟩] scope pos) (.lc ie t it ic) :=
  DE.any ⟨(pe_lc hc hN hi.pi ok (fun s H C cl fp => (hg s H C cl fp).pg) (fun s H C cl fp => (ht s H C cl fp).pts) (fun s H C cl fp => (he s H C cl fp).pe) hs).of fun σ H Q h => lc_red ho h⟩
end
end Sd
set_option Elab.async false
set_option linter.all false
set_option autoImplicit false
set_option maxRecDepth 100000
set_option maxHeartbeats 4000000
/-! Built-ins. -/
namespace Sd
open PySem L2 Dn PyProof.Rows

section
variable {X : Cx} {c : Cn} {F F' : Addr → Prop} {H H' : Hp} {ρ ρ' : Dn.Env} {σ : L2.St} {own : Md} {d : D} {v : V} {pos p : Pos} {e : Expr} {es : List Expr} {ie : IE} {ies : List IE} {x : Str}
theorem noX_built (b : Bi) (ds : List D) : noX (built b ds) := by
  unfold built
  split <;> repeat' (first | trivial | split)
/-- one argument -/
theorem bi1 {b : Bi} {ds : List D} {vs : List V} {Q : VK} (n0 : built b [] = .bad) (n2 : ∀ d e r, built b (d :: e :: r) = .bad) (r : RWs c own F H ds vs) (p : Post c .fr ρ σ (built b ds) F H Q) :
    ∃ d v, ds = [d] ∧ vs = [v] ∧ Rw c own F H d v ∧ PostV c .fr (built b [d]) F H Q := by
  have p2 := p.val (noX_built _ _)
  cases r with
  | nil => rw [n0] at p2; exact p2.elim
  | cons r rr =>
    cases rr with
    | nil => exact ⟨_, _, rfl, rfl, r, p2⟩
    | cons r2 rr => rw [n2] at p2; exact p2.elim
theorem PostV.bl {b : Bool} {Q : VK} (p : PostV c .fr (.ok (.bl b)) F H Q) : Q (.bl b) H := p _ F H .refl (RD.bl b)
theorem d_abs (hg : L2.Gl X "abs") (hm : X.mg "abs" = none) (ha : DA X c .rd (e :: es) ies)
    (he : starEach (e :: es) X.env = (false, PySem.eval e X.env) :: starEach es X.env := by rfl) (hpl : (backTo pos (starEach es X.env)).any (·.1) = false := by rfl) :
    DE X c own (.Call (.Name "abs" p) (e :: es) [] pos) (.bi .abs ies) :=
  DE.any ⟨(pe_callB call_abs hg hm (by rfl) ha.pa (by decide) (by decide) he hpl).of fun σ H Q ⟨ρ, F, E, p⟩ => EA E p fun ds vs F1 H1 q g1 E1' r1 p1 => by
    obtain ⟨d, v, rfl, rfl, r, p2⟩ := bi1 rfl (fun d _ _ => by cases d <;> rfl) r1 p1
    cases d <;> try exact p2.elim
    rename_i i
    cases r.int
    refine ⟨i, rfl, ?_⟩
    have e : (if i < 0 then -i else i) = (i.natAbs : Int) := by split <;> omega
    rw [e]; exact p2.int⟩
theorem d_len (fit : Fit X c) (hg : L2.Gl X "len") (hm : X.mg "len" = none) (ha : DA X c .rd (e :: es) ies)
    (he : starEach (e :: es) X.env = (false, PySem.eval e X.env) :: starEach es X.env := by rfl) (hpl : (backTo pos (starEach es X.env)).any (·.1) = false := by rfl) :
    DE X c own (.Call (.Name "len" p) (e :: es) [] pos) (.bi .len ies) :=
  DE.any ⟨(pe_callB call_len_seq hg hm (by rfl) ha.pa (by decide) (by decide) he hpl).of fun σ H Q ⟨ρ, F, E, p⟩ => EA E p fun ds vs F1 H1 q g1 E1' r1 p1 => by
    obtain ⟨d, v, rfl, rfl, r, p2⟩ := bi1 rfl (fun d _ _ => by cases d <;> rfl) r1 p1
    simp only [built] at p2
    split at p2
    · rename_i xs hx
      obtain ⟨a, ws, rfl, rs, sq⟩ := r.items hx
      refine ⟨a, ws, rfl, fit.K ▸ sq.symm, ?_⟩
      rw [← rs.length]; exact p2.int
    · exact p2.elim⟩
theorem d_intB (hg : L2.Gl X "int") (hm : X.mg "int" = none) (ha : DA X c .rd (e :: es) ies)
    (he : starEach (e :: es) X.env = (false, PySem.eval e X.env) :: starEach es X.env := by rfl) (hpl : (backTo pos (starEach es X.env)).any (·.1) = false := by rfl) :
    DE X c own (.Call (.Name "int" p) (e :: es) [] pos) (.bi .int ies) :=
  DE.any ⟨(pe_callTy call_int1 hg hm (by rfl) ha.pa (by decide) (by decide) he hpl).of fun σ H Q ⟨ρ, F, E, p⟩ => EA E p fun ds vs F1 H1 q g1 E1' r1 p1 => by
    obtain ⟨d, v, rfl, rfl, r, p2⟩ := bi1 rfl (fun d _ _ => by cases d <;> rfl) r1 p1
    cases d <;> try exact p2.elim
    · rename_i b
      cases r.bl
      exact .inr ⟨b, rfl, p2.int⟩
    · rename_i i
      cases r.int
      exact .inl ⟨i, rfl, p2.int⟩⟩
theorem d_tupB (fit : Fit X c) (hg : L2.Gl X "tuple") (hm : X.mg "tuple" = none) (ha : DA X c .rd (e :: es) ies)
    (he : starEach (e :: es) X.env = (false, PySem.eval e X.env) :: starEach es X.env := by rfl) (hpl : (backTo pos (starEach es X.env)).any (·.1) = false := by rfl) :
    DE X c own (.Call (.Name "tuple" p) (e :: es) [] pos) (.bi .tuple ies) :=
  DE.any ⟨(pe_callTy call_tuple_of hg hm (by rfl) ha.pa (by decide) (by decide) he hpl).of fun σ H Q ⟨ρ, F, E, p⟩ => EA E p fun ds vs F1 H1 q g1 E1' r1 p1 => by
    obtain ⟨d, v, rfl, rfl, r, p2⟩ := bi1 rfl (fun d _ _ => by cases d <;> rfl) r1 p1
    simp only [built] at p2
    split at p2
    · rename_i xs hx
      obtain ⟨a, ws, rfl, rs, sq⟩ := r.items hx
      refine ⟨a, ws, rfl, ?_⟩
      rcases sq with sq | sq
      · exact .inr ⟨fit.K ▸ sq, p2 _ F1 H1 .refl (RD.tup sq rs)⟩
      · exact .inl ⟨fit.K ▸ sq, fun l hl => p2.tup rs hl⟩
    · exact p2.elim⟩
theorem d_listB (fit : Fit X c) (hg : L2.Gl X "list") (hm : X.mg "list" = none) (ha : DA X c .rd (e :: es) ies)
    (he : starEach (e :: es) X.env = (false, PySem.eval e X.env) :: starEach es X.env := by rfl) (hpl : (backTo pos (starEach es X.env)).any (·.1) = false := by rfl) :
    DE X c own (.Call (.Name "list" p) (e :: es) [] pos) (.bi .list ies) :=
  DE.any ⟨(pe_callTy call_list_of hg hm (by rfl) ha.pa (by decide) (by decide) he hpl).of fun σ H Q ⟨ρ, F, E, p⟩ => EA E p fun ds vs F1 H1 q g1 E1' r1 p1 => by
    obtain ⟨d, v, rfl, rfl, r, p2⟩ := bi1 rfl (fun d _ _ => by cases d <;> rfl) r1 p1
    simp only [built] at p2
    split at p2
    · rename_i xs hx
      obtain ⟨a, ws, rfl, rs, sq⟩ := r.items hx
      exact ⟨a, ws, rfl, fit.K ▸ sq.symm, fun l hl => p2.lst E1'.cl rs hl⟩
    · exact p2.elim⟩
theorem bools_vals : ∀ {xs : List D} {bs : List Bool} {vs : List V}, RDs c.G F H xs vs → boolsD xs = some bs → vs = bs.map V.bl
  | [], bs, _, .nil, h => by cases h; rfl
  | d :: xs, bs, _, .cons (vs := vs) r rs, h => by
    cases d <;> simp only [boolsD] at h <;> try (cases h; done)
    cases q : boolsD xs with
    | none => rw [q] at h; cases h
    | some cs =>
      rw [q] at h
      cases h
      cases r
      rw [bools_vals rs q]; rfl
theorem sum_vals : ∀ {xs : List D} {i : Int} {vs : List V}, RDs c.G F H xs vs → sumD xs = some i → ∃ ns : List Int, vs = ns.map V.int ∧ ns.sum = i
  | [], i, _, .nil, h => by cases h; exact ⟨[], rfl, rfl⟩
  | d :: xs, i, _, .cons (vs := vs) r rs, h => by
    cases d <;> simp only [sumD] at h <;> try (cases h; done)
    rename_i j
    cases q : sumD xs with
    | none => rw [q] at h; cases h
    | some k =>
      rw [q] at h
      cases h
      cases r
      obtain ⟨ns, e1, e2⟩ := sum_vals rs q
      exact ⟨j :: ns, by rw [e1]; rfl, by rw [List.sum_cons, e2]⟩
theorem Rw.listed {own : Md} (r : Rw c own F H d v) {ds : List D} (h : Dn.listed d = some ds) : ∃ a vs, v = .ref a ∧ RDs c.G F H ds vs ∧ SqL c.G.K H a vs := by
  cases d with
  | lst xs =>
    cases h
    obtain ⟨a, vs, rfl, h, q⟩ := r.lst
    exact ⟨a, vs, rfl, q, .of h⟩
  | fls xs =>
    cases h
    obtain ⟨a, vs, rfl, h, q⟩ := r.fls
    exact ⟨a, vs, rfl, q, h⟩
  | _ => cases h
theorem d_allB (fit : Fit X c) (hc : X.calm = true) (hg : L2.Gl X "all") (hm : X.mg "all" = none) (ha : DA X c .rd (e :: es) ies)
    (he : starEach (e :: es) X.env = (false, PySem.eval e X.env) :: starEach es X.env := by rfl) (hpl : (backTo pos (starEach es X.env)).any (·.1) = false := by rfl) :
    DE X c own (.Call (.Name "all" p) (e :: es) [] pos) (.bi .all ies) :=
  DE.any ⟨(pe_callB (cr_all hc) hg hm (by rfl) ha.pa (by decide) (by decide) he hpl).of fun σ H Q ⟨ρ, F, E, p⟩ => EA E p fun ds vs F1 H1 q g1 E1' r1 p1 => by
    obtain ⟨d, v, rfl, rfl, r, p2⟩ := bi1 rfl (fun d _ _ => by cases d <;> rfl) r1 p1
    simp only [built] at p2
    split at p2
    · rename_i bs hx
      cases hl : Dn.listed d with
      | none => rw [hl] at hx; cases hx
      | some xs =>
        rw [hl] at hx
        obtain ⟨a, ws, rfl, rs, sq⟩ := r.listed hl
        refine ⟨a, bs, rfl, ?_, p2.bl⟩
        rw [← bools_vals rs hx]; exact fit.K ▸ sq
    · exact p2.elim⟩
theorem d_anyB (fit : Fit X c) (hc : X.calm = true) (hg : L2.Gl X "any") (hm : X.mg "any" = none) (ha : DA X c .rd (e :: es) ies)
    (he : starEach (e :: es) X.env = (false, PySem.eval e X.env) :: starEach es X.env := by rfl) (hpl : (backTo pos (starEach es X.env)).any (·.1) = false := by rfl) :
    DE X c own (.Call (.Name "any" p) (e :: es) [] pos) (.bi .any ies) :=
  DE.any ⟨(pe_callB (cr_any hc) hg hm (by rfl) ha.pa (by decide) (by decide) he hpl).of fun σ H Q ⟨ρ, F, E, p⟩ => EA E p fun ds vs F1 H1 q g1 E1' r1 p1 => by
    obtain ⟨d, v, rfl, rfl, r, p2⟩ := bi1 rfl (fun d _ _ => by cases d <;> rfl) r1 p1
    simp only [built] at p2
    split at p2
    · rename_i bs hx
      cases hl : Dn.listed d with
      | none => rw [hl] at hx; cases hx
      | some xs =>
        rw [hl] at hx
        obtain ⟨a, ws, rfl, rs, sq⟩ := r.listed hl
        refine ⟨a, bs, rfl, ?_, p2.bl⟩
        rw [← bools_vals rs hx]; exact fit.K ▸ sq
    · exact p2.elim⟩
theorem d_sumB (fit : Fit X c) (hc : X.calm = true) (hg : L2.Gl X "sum") (hm : X.mg "sum" = none) (ha : DA X c .rd (e :: es) ies)
    (he : starEach (e :: es) X.env = (false, PySem.eval e X.env) :: starEach es X.env := by rfl) (hpl : (backTo pos (starEach es X.env)).any (·.1) = false := by rfl) :
    DE X c own (.Call (.Name "sum" p) (e :: es) [] pos) (.bi .sum ies) :=
  DE.any ⟨(pe_callB (cr_sum hc) hg hm (by rfl) ha.pa (by decide) (by decide) he hpl).of fun σ H Q ⟨ρ, F, E, p⟩ => EA E p fun ds vs F1 H1 q g1 E1' r1 p1 => by
    obtain ⟨d, v, rfl, rfl, r, p2⟩ := bi1 rfl (fun d _ _ => by cases d <;> rfl) r1 p1
    simp only [built] at p2
    split at p2
    · rename_i i hx
      cases hl : Dn.listed d with
      | none => rw [hl] at hx; cases hx
      | some xs =>
        rw [hl] at hx
        obtain ⟨a, ws, rfl, rs, sq⟩ := r.listed hl
        obtain ⟨ns, e1, e2⟩ := sum_vals rs hx
        refine ⟨a, ns, rfl, ?_, ?_⟩
        · rw [← e1]; exact fit.K ▸ sq
        · rw [e2]; exact p2.int
    · exact p2.elim⟩
/-- two arguments -/
theorem bi2 {b : Bi} {ds : List D} {vs : List V} {Q : VK} (n0 : built b [] = .bad) (n1 : ∀ d, built b [d] = .bad) (n3 : ∀ d e f r, built b (d :: e :: f :: r) = .bad) (r : RWs c own F H ds vs) (p : Post c .fr ρ σ (built b ds) F H Q) :
    ∃ d e v w, ds = [d, e] ∧ vs = [v, w] ∧ Rw c own F H d v ∧ Rw c own F H e w ∧ PostV c .fr (built b [d, e]) F H Q := by
  have p2 := p.val (noX_built _ _)
  cases r with
  | nil => rw [n0] at p2; exact p2.elim
  | cons r rr =>
    cases rr with
    | nil => rw [n1] at p2; exact p2.elim
    | cons r2 rr =>
      cases rr with
      | nil => exact ⟨_, _, _, _, rfl, rfl, r, r2, p2⟩
      | cons r3 rr => rw [n3] at p2; exact p2.elim
theorem d_minB (hc : X.calm = true) (hg : L2.Gl X "min") (hm : X.mg "min" = none) (ha : DA X c .rd (e :: es) ies)
    (he : starEach (e :: es) X.env = (false, PySem.eval e X.env) :: starEach es X.env := by rfl) (hpl : (backTo pos (starEach es X.env)).any (·.1) = false := by rfl) :
    DE X c own (.Call (.Name "min" p) (e :: es) [] pos) (.bi .min ies) :=
  DE.any ⟨(pe_callB (call_min2 hc) hg hm (by rfl) ha.pa (by decide) (by decide) he hpl).of fun σ H Q ⟨ρ, F, E, p⟩ => EA E p fun ds vs F1 H1 q g1 E1' r1 p1 => by
    obtain ⟨d, f, v, w, rfl, rfl, r, r2, p2⟩ := bi2 rfl (fun d => by cases d <;> rfl) (fun d e _ _ => by cases d <;> cases e <;> rfl) r1 p1
    cases d <;> try exact p2.elim
    cases f <;> try exact p2.elim
    cases r.int
    cases r2.int
    exact ⟨_, _, rfl, p2.int⟩⟩
theorem d_maxB (hc : X.calm = true) (hg : L2.Gl X "max") (hm : X.mg "max" = none) (ha : DA X c .rd (e :: es) ies)
    (he : starEach (e :: es) X.env = (false, PySem.eval e X.env) :: starEach es X.env := by rfl) (hpl : (backTo pos (starEach es X.env)).any (·.1) = false := by rfl) :
    DE X c own (.Call (.Name "max" p) (e :: es) [] pos) (.bi .max ies) :=
  DE.any ⟨(pe_callB (call_max2 hc) hg hm (by rfl) ha.pa (by decide) (by decide) he hpl).of fun σ H Q ⟨ρ, F, E, p⟩ => EA E p fun ds vs F1 H1 q g1 E1' r1 p1 => by
    obtain ⟨d, f, v, w, rfl, rfl, r, r2, p2⟩ := bi2 rfl (fun d => by cases d <;> rfl) (fun d e _ _ => by cases d <;> cases e <;> rfl) r1 p1
    cases d <;> try exact p2.elim
    cases f <;> try exact p2.elim
    cases r.int
    cases r2.int
    exact ⟨_, _, rfl, p2.int⟩⟩

/-! ### isinstance -/
def tyName : Ty → String
  | .int => "int" | .bool => "bool" | .str => "str" | .tuple => "tuple" | .list => "list" | .ve => "ValueError" | .cls _ => ""
def tyVal (G : Gl) : Ty → V
  | .cls k => .ref (G.C k)
  | t => .ty (tyName t)
def tyVl (G : Gl) : Ty → Value
  | .cls k => .ref (G.C k)
  | t => .type (tyName t)
theorem ty_clsV (G : Gl) (t : Ty) : ClsV (tyVal G t) (tyVl G t) := by
  cases t <;> first | exact .ty _ | exact .own _
/-- what isinstance asks of the own classes -/
structure IsOk (G : Gl) : Prop where
  ha : ∀ k, (G.T.init k).isSome = true → PySem.W.findIn G.K (.ref (G.C k)) "__class__" = some (some (.builtin "object.__class__"))
  hn : PySem.W.specialIn G.K (.builtin "object.__class__") "__get__" = some (some (.builtin "getset_descriptor.__get__"))
  htk : PySem.W.takesIn G.K (.builtin "object.__class__") = some true
  hm : ∀ k, (G.T.init k).isSome = true → PySem.W.mroIn G.K (G.C k) (.type "object") = some true
  sub : ∀ k k', (G.T.init k).isSome = true → (G.T.init k').isSome = true → PySem.W.kitOne G.K (.ref (G.C k)) (.ref (G.C k')) = some (G.T.subs k k')
def tagName : Ty → String := tyName
theorem tag_kit (K : PySem.W.Frag) : ∀ (g t : Ty), (∀ k, g ≠ .cls k) → (∀ k, t ≠ .cls k) → g ≠ .ve → t ≠ .ve →
    PySem.W.kitOne K (.type (tyName g)) (.type (tyName t)) = some (decide (g = t) || (decide (g = .bool) && decide (t = .int))) := by
  intro g t h1 h2 h3 h4
  refine kit_ty ?_
  cases g <;> first | exact absurd rfl (h1 _) | exact absurd rfl h3 | skip
  all_goals (cases t <;> first | exact absurd rfl (h2 _) | exact absurd rfl h4 | decide +kernel)
theorem tag_tyX {K : PySem.W.Frag} {g : Ty} (r : Rw c own F H d v) (hK : K = c.G.K) (h : tag d = some g) : TyX K H v (.type (tyName g)) ∧ (∀ k, g ≠ .cls k) ∧ g ≠ .ve := by
  subst hK
  cases d <;> simp only [tag, Option.some.injEq] at h <;> try (cases h; done)
  all_goals (subst h; refine ⟨?_, fun k => nofun, nofun⟩)
  · cases r.bl; exact .base (.bl _)
  · cases r.int; exact .base (.int _)
  · cases r.str; exact .base (.str _)
  · obtain ⟨a, vs, rfl, h, _⟩ := r.tup
    rcases h with (h | ⟨o, h⟩) | ⟨o, its, n, h, hc, _⟩
    · exact .base (.tup h)
    · exact .fTuple h
    · exact .kTuple h hc
  · obtain ⟨a, vs, rfl, h, _⟩ := r.lst
    exact .base (.lst h)
theorem d_isi {cl : Expr} (t : Ty) (fit : Fit X c) (io : IsOk c.G) (hg : L2.Gl X "isinstance") (hm : X.mg "isinstance" = none) (ha : DE X c .rd e ie) (hcl : PE X cl (tC (tyVal c.G t)))
    (he : starEach [e, cl] X.env = (false, PySem.eval e X.env) :: starEach [cl] X.env := by rfl) (he2 : starEach [cl] X.env = (false, PySem.eval cl X.env) :: starEach [] X.env := by rfl) (hpl : (backTo pos (starEach [cl] X.env)).any (·.1) = false := by rfl) :
    DE X c own (.Call (.Name "isinstance" p) [e, cl] [] pos) (.isi ie t) :=
  DE.any ⟨(pe_callB call_isi hg hm (by rfl) (pa_cons ha.pe (pa_cons hcl pa_nil he2) he) (by decide) (by decide) he hpl).of fun σ H Q ⟨ρ, F, E, p⟩ => E1 E p fun d1 v1 F1 H1 _ g1 E1' r1 p1 => by
    cases hi : isTy c.G.T d1 t with
    | none => simp only [hi] at p1; exact p1.elim
    | some b =>
      simp only [hi] at p1
      have fin : Q (.bl b) H1 := (p1.val trivial).bl
      have r1 : Rw c .rd F1 H1 d1 v1 := r1
      show rIsi X.K [v1, tyVal c.G t] H1 Q
      have prim : ∀ g, tag d1 = some g → (∀ k, t ≠ .cls k) → t ≠ .ve → (decide (g = t) || (decide (g = .bool) && decide (t = .int))) = b → rIsi X.K [v1, tyVal c.G t] H1 Q := fun g hg h1 h2 e => by
        obtain ⟨ty, n1, n2⟩ := tag_tyX r1 fit.K hg
        refine ⟨v1, _, _, tyVl c.G t, b, rfl, ty_clsV _ t, ty, ?_, fin⟩
        have := tag_kit X.K g t n1 h1 n2 h2
        rw [e] at this
        cases t <;> first | exact absurd rfl (h1 _) | exact this
      have alls : (∀ k, t ≠ .cls k) → t ≠ .ve → (tag d1).map (fun g => decide (g = t) || (decide (g = .bool) && decide (t = .int))) = some b → rIsi X.K [v1, tyVal c.G t] H1 Q := fun h1 h2 hi => by
        cases hg : tag d1 with
        | none => rw [hg] at hi; cases hi
        | some g =>
          rw [hg] at hi
          simp only [Option.map_some, Option.some.injEq] at hi
          exact prim g hg h1 h2 hi
      cases t with
      | cls k' =>
        cases d1 <;> simp only [isTy] at hi <;> try (cases hi; done)
        · rename_i k xs _ _
          split at hi
          · rename_i hh
            rw [Bool.and_eq_true] at hh
            cases hi
            obtain ⟨a, dx, vs, rfl, h1, l, rs⟩ := r1.ins
            exact ⟨_, _, _, _, _, rfl, ty_clsV _ _, .base (.ins h1 (fit.K ▸ fit.ok.cls k hh.1) (fit.K ▸ io.ha k hh.1) (fit.K ▸ io.hn) (fit.K ▸ io.htk) (fit.K ▸ io.hm k hh.1)), fit.K ▸ io.sub k k' hh.1 hh.2, fin⟩
          · cases hi
        · exact r1.not_exn.elim
      | ve =>
        cases d1 <;> simp only [isTy] at hi <;> try (cases hi; done)
        exact r1.not_exn.elim
      | _ => exact alls (fun k => nofun) nofun (by cases d1 <;> exact hi)⟩
end
end Sd
set_option Elab.async false
set_option linter.all false
set_option autoImplicit false
set_option maxRecDepth 100000
set_option maxHeartbeats 4000000
/-! Statements. -/
namespace Sd
open PySem L2 Dn PyProof.Rows

/-- with other names whose things change -/
abbrev _root_.Sd.Cn.wM (c : Cn) (M : List Nat) : Cn := { c with M := M }
/-- what a def returns: frozen beyond what its slots have -/
structure RtR (c : Cn) (ρ : Dn.Env) (F' : Addr → Prop) (σ : L2.St) (H : Hp) : Prop where
  ex : ∃ M F, (0 ∈ c.M → 0 ∈ M) ∧ ER (c.wM M) ρ F σ H ∧ (∀ a, F a → F' a) ∧ ∀ a, F' a → F a ∨ (a ∉ c.P ∧ c.H0 a = none ∧ ∃ o, H a = some o)
def PostS (c : Cn) (o : O) (F : Addr → Prop) (H : Hp) (Z : Ends) : Prop := match o with
  | .nx ρ => ∀ σ' F' H', Keep F H F' H' → ER c ρ F' σ' H' → Z.nx σ' H'
  | .bk ρ => ∀ σ' F' H', Keep F H F' H' → ER c ρ F' σ' H' → Z.bk σ' H'
  | .ct ρ => ∀ σ' F' H', Keep F H F' H' → ER c ρ F' σ' H' → Z.ct σ' H'
  | .rt d ρ => ∀ v σ' F' H', RtR c ρ F' σ' H' → RD c.G F' H' d v → Z.rt v H'
  | .ex k ds ρ => ∀ dx vs σ' F' H', Keep F H F' H' → ER c ρ F' σ' H' → H' dx = some (.xd ((c.G.names k ds.length).zip vs)) → ds.length ≤ (c.G.T.flds k).length → RDs c.G F' H' ds vs → c.W (.ref (c.G.C k)) (some dx) σ' H'
  | .bad => False
def tS (c : Cn) (f : Dn.Env → O) : TS := fun Z σ H => ∃ ρ F, ER c ρ F σ H ∧ PostS c (f ρ) F H Z
structure DS (X : Cx) (c : Cn) (st : Stmt) (is : IS) : Prop where
  ps : PS X st (tS c (Dn.exec c.G.T c.C c.N is))
structure DSs (X : Cx) (c : Cn) (sts : List Stmt) (is : List IS) : Prop where
  pss : PSs X sts (tS c (Dn.execs c.G.T c.C c.N is))
theorem _root_.L2.PS.of {X : Cx} {e : Stmt} {t t' : TS} (h : PS X e t) (m : ∀ D σ H, t' D σ H → t D σ H) : PS X e t' := ⟨fun pins s σ H D I q => h.run pins s σ H D I (m D σ H q)⟩
theorem _root_.L2.PSs.of {X : Cx} {e : List Stmt} {t t' : TS} (h : PSs X e t) (m : ∀ D σ H, t' D σ H → t D σ H) : PSs X e t' := ⟨fun pins s σ H D I q => h.run pins s σ H D I (m D σ H q)⟩
section
variable {X : Cx} {c : Cn} {F F' : Addr → Prop} {H H' : Hp} {ρ ρ' : Dn.Env} {σ : L2.St} {own : Md} {d : D} {v : V} {pos pos' : Pos} {e cd : Expr} {ie icd : IE} {Z Z' : Ends} {o : O} {st : Stmt} {sts ats bts : List Stmt} {is : IS} {iss ia ib : List IS}
theorem PostS.mono (p : PostS c o F H Z) (k : Keep F H F' H') : PostS c o F' H' Z := by
  cases o with
  | nx ρ => exact fun σ F2 H2 k2 E => p σ F2 H2 (k.trans k2) E
  | bk ρ => exact fun σ F2 H2 k2 E => p σ F2 H2 (k.trans k2) E
  | ct ρ => exact fun σ F2 H2 k2 E => p σ F2 H2 (k.trans k2) E
  | rt d ρ => exact p
  | ex n ds ρ => exact fun dx vs σ F2 H2 k2 E => p dx vs σ F2 H2 (k.trans k2) E
  | bad => exact p
/-- other ends, where it counts -/
theorem PostS.ends (p : PostS c o F H Z) (hx : ∀ σ H, Z.nx σ H → Z'.nx σ H) (hr : Z.rt = Z'.rt) (hb : ∀ σ H, Z.bk σ H → Z'.bk σ H) (hc : ∀ σ H, Z.ct σ H → Z'.ct σ H) : PostS c o F H Z' := by
  cases o with
  | nx ρ => exact fun σ F2 H2 k2 E => hx _ _ (p σ F2 H2 k2 E)
  | bk ρ => exact fun σ F2 H2 k2 E => hb _ _ (p σ F2 H2 k2 E)
  | ct ρ => exact fun σ F2 H2 k2 E => hc _ _ (p σ F2 H2 k2 E)
  | rt d ρ => exact fun v σ F2 H2 r q => hr ▸ p v σ F2 H2 r q
  | ex n ds ρ => exact p
  | bad => exact p
theorem dss_nil : DSs X c [] [] := ⟨pss_nil.of fun Z σ H ⟨ρ, F, E, p⟩ => p σ F H .refl E⟩
theorem dss_cons (h1 : DS X c st is) (h2 : DSs X c sts iss) : DSs X c (st :: sts) (is :: iss) := by
  refine ⟨(pss_cons h1.ps h2.pss).of fun Z σ H ⟨ρ, F, E, p⟩ => ⟨ρ, F, E, ?_⟩⟩
  simp only [Dn.execs] at p
  cases q : Dn.exec c.G.T c.C c.N is ρ with
  | nx ρ1 =>
    rw [q] at p
    exact fun σ1 F1 H1 k E1 => ⟨ρ1, F1, E1, PostS.mono p k⟩
  | bk ρ1 => rw [q] at p; exact p
  | ct ρ1 => rw [q] at p; exact p
  | rt d ρ1 => rw [q] at p; exact p
  | ex n ds ρ1 => rw [q] at p; exact p
  | bad => rw [q] at p; exact p
/-- an expression first -/
theorem S1 {f : D → O} {R' : VK} (E : ER c ρ F σ H) (p : PostS c (ev (Dn.eval c.G.T c.C ie ρ) ρ f) F H Z)
    (k : ∀ d v F1 H1, Dn.eval c.G.T c.C ie ρ = .ok d → Grow F H F1 H1 → ER c ρ F1 σ H1 → Res c own H F1 H1 d v → PostS c (f d) F1 H1 Z → R' v H1) : tE c own (Dn.eval c.G.T c.C ie) σ H R' := by
  refine ⟨ρ, F, E, ?_⟩
  cases q : Dn.eval c.G.T c.C ie ρ with
  | ok d =>
    rw [q] at p
    exact fun v F1 H1 gr r => k d v F1 H1 q gr (E.mono gr) r (PostS.mono p gr.keep)
  | exc n ds => rw [q] at p; exact fun dx vs F1 H1 g h l r => p dx vs σ F1 H1 g.keep (E.mono g) h l r
  | bad => rw [q] at p; exact p
theorem S2 {f : D → O} {R' : Bool → Hp → Prop} (E : ER c ρ F σ H) (p : PostS c (ev (Dn.eval c.G.T c.C ie ρ) ρ f) F H Z) (hb : ∀ d, truth d = none → f d = .bad)
    (k : ∀ d b F1 H1, Dn.eval c.G.T c.C ie ρ = .ok d → truth d = some b → Grow F H F1 H1 → ER c ρ F1 σ H1 → PostS c (f d) F1 H1 Z → R' b H1) : tT c (Dn.eval c.G.T c.C ie) σ H R' := by
  refine ⟨ρ, F, E, ?_⟩
  cases q : Dn.eval c.G.T c.C ie ρ with
  | ok d =>
    rw [q] at p
    cases h : truth d with
    | none =>
      have p' : PostS c (f d) F H Z := p
      rw [hb d h] at p'; exact p'.elim
    | some b => exact ⟨b, h, fun F1 H1 gr => k d b F1 H1 q h gr (E.mono gr) (PostS.mono p gr.keep)⟩
  | exc n ds => rw [q] at p; exact fun dx vs F1 H1 g h l r => p dx vs σ F1 H1 g.keep (E.mono g) h l r
  | bad => rw [q] at p; exact p
theorem SA {f : List D → O} {es : List IE} {R' : List V → Hp → Prop} (E : ER c ρ F σ H) (p : PostS c (ev (Dn.evals c.G.T c.C es ρ) ρ f) F H Z)
    (k : ∀ ds vs F1 H1, Dn.evals c.G.T c.C es ρ = .ok ds → Grow F H F1 H1 → ER c ρ F1 σ H1 → RWs c own F1 H1 ds vs → PostS c (f ds) F1 H1 Z → R' vs H1) : tA c own (Dn.evals c.G.T c.C es) σ H R' := by
  refine ⟨ρ, F, E, ?_⟩
  cases q : Dn.evals c.G.T c.C es ρ with
  | ok d =>
    rw [q] at p
    exact fun v F1 H1 gr r => k d v F1 H1 q gr (E.mono gr) r (PostS.mono p gr.keep)
  | exc n ds => rw [q] at p; exact fun dx vs F1 H1 g h l r => p dx vs σ F1 H1 g.keep (E.mono g) h l r
  | bad => rw [q] at p; exact p
theorem notM {i : Nat} (h : c.M.contains i = false) : i ∉ c.M := fun z => by rw [List.contains_iff_mem.mpr z] at h; cases h
theorem isM {i : Nat} (h : c.M.contains i = true) : i ∈ c.M := List.contains_iff_mem.mp h

/-! plain ones -/
theorem ds_pass : DS X c (.Pass pos) .pas := ⟨ps_pass.of fun Z σ H ⟨ρ, F, E, p⟩ => p σ F H .refl E⟩
theorem ds_brk : DS X c (.Break pos) .brk := ⟨ps_break.of fun Z σ H ⟨ρ, F, E, p⟩ => p σ F H .refl E⟩
theorem ds_cnt : DS X c (.Continue pos) .cnt := ⟨ps_continue.of fun Z σ H ⟨ρ, F, E, p⟩ => p σ F H .refl E⟩
theorem ds_exp (he : DE X c .rd e ie) (hs : swapsWith e none pos.line X.env = pure false := by rfl) : DS X c (.Expr e pos) (.exp ie) :=
  ⟨(ps_expr he.pe hs).of fun Z σ H ⟨ρ, F, E, p⟩ => S1 E p fun d v F1 H1 _ g E1 _ p1 => p1 σ F1 H1 .refl E1⟩
theorem RtR.of (E : ER c ρ F σ H) : RtR c ρ F σ H := ⟨c.M, F, id, E, fun _ h => h, fun _ h => .inl h⟩
theorem ds_ret (he : DE X c .st e ie) : DS X c (.Return (some e) pos) (.ret ie) :=
  ⟨(ps_ret he.pe).of fun Z σ H ⟨ρ, F, E, p⟩ => S1 E p fun d v F1 H1 _ g E1 r p1 => p1 v σ F1 H1 (.of E1) (Rw.strict r)⟩
/-- .. one's own thing -/
theorem ds_retO {i : Nat} {x : Str} (hP : c.P = []) (hN : X.N[i]? = some x) (hv : Vis X.env.scope x) (hm : c.M.contains i = true := by rfl) (hd : (x == ("__debug__" : Str)) = false := by decide) (hcd : (x == ("__classdict__" : Str)) = false := by decide) :
    DS X c (.Return (some (.Name x pos')) pos) (.ret (.var i)) :=
  ⟨(ps_ret (pe_var hN hv hd hcd)).of fun Z σ H ⟨ρ, F, E, p⟩ => by
    simp only [Dn.exec, Dn.eval] at p
    cases q : getV ρ i with
    | bad => rw [q] at p; exact p.elim
    | exc k ds => unfold getV at q; split at q <;> cases q
    | ok d =>
      rw [q] at p
      obtain ⟨v, h1, _, _, h4⟩ := E.read q
      have ow := h4 (isM hm)
      obtain ⟨a, e, nf, ho, oa⟩ := OwnR.iff.mp ow
      obtain ⟨a2, e2, ⟨ob, hob⟩, r⟩ := ow.rd
      rw [e] at e2; cases e2
      refine ⟨v, h1, p v σ _ H ⟨c.M, F, id, E, fun _ h => .inl h, fun b h => h.imp id fun z => ?_⟩ r⟩
      subst z
      refine ⟨by rw [hP]; simp, ?_, ob, hob⟩
      exact ho.elim (fun z => by rw [hP] at z; cases z) id⟩
theorem ds_retN : DS X c (.Return none pos) (.ret .non) := ⟨ps_retN.of fun Z σ H ⟨ρ, F, E, p⟩ => p .non σ F H (.of E) .non⟩
theorem ds_ife (hc : DT X c cd icd) (ha : DSs X c ats ia) (hb : DSs X c bts ib) : DS X c (.If cd ats bts pos) (.ife icd ia ib) :=
  ⟨(ps_if hc.pt ha.pss hb.pss).of fun Z σ H ⟨ρ, F, E, p⟩ => by
    simp only [Dn.exec] at p
    refine S2 E p (fun d h => by simp only [h]) fun d b F1 H1 _ h g E1 p1 => ?_
    simp only [h] at p1
    cases b with
    | true => exact ⟨ρ, F1, E1, p1⟩
    | false => exact ⟨ρ, F1, E1, p1⟩⟩

/-! names -/
theorem ds_set {i : Nat} {x : Str} (hN : X.N.Nodup) (hi : X.N[i]? = some x) (hx : Loc X.env.scope x) (he : DE X c .st e ie) (hm : c.M.contains i = false := by rfl) (hs : swapsWith e (some (.Name x pos')) pos.line X.env = pure false := by rfl) (hf : X.fn x = true ∨ X.env.scope.names.lookup x = some .local := by first | exact .inl rfl | exact .inr rfl | assumption) :
    DS X c (.Assign [.Name x pos'] e pos) (.asg (.nm i) ie) :=
  ⟨(ps_set hN hi hx he.pe hs hf).of fun Z σ H ⟨ρ, F, E, p⟩ => by
    simp only [Dn.exec] at p
    exact S1 E p fun d v F1 H1 _ g E1 r p1 => p1 _ F1 H1 .refl (E1.set (notM hm) (Rw.strict r))⟩
/-- a name whose thing changes -/
theorem ER.setM {H1 : Hp} {F1 : Addr → Prop} (E0 : ER c ρ F σ H) (E : ER c ρ F1 σ H1) {i : Nat} (hm : i ∈ c.M) (h0 : i ≠ 0) (r : OwnR c F1 H1 d v) (fr : ∃ a, v = .ref a ∧ H a = none) : ER c (ρ.set i (some d)) F1 (σ.set i (some v)) H1 where
  self := fun a ha => ⟨(E.self a ha).1, fun w hw => by
    rw [List.getElem?_set_ne h0] at hw
    exact (E.self a ha).2 w hw⟩
  len := by rw [List.length_set, List.length_set]; exact E.len
  same := E.same
  up := E.up
  new := E.new
  pin := E.pin
  there := E.there
  at_ := fun j e h => by
    by_cases hj : i = j
    · subst hj
      have q := get_set h
      cases q
      refine ⟨v, set_get E.len h, ?_⟩
      have : if i ∈ c.M then OwnR c F1 H1 d v else RD c.G F1 H1 d v := by rw [if_pos hm]; exact r
      cases d with
      | exn k ds => exact r.elim
      | _ => exact this
    · rw [List.getElem?_set_ne hj] at h
      rw [List.getElem?_set_ne hj]
      exact E.at_ j e h
  apart := fun j k d' e' v' hj hk hne h1 h2 h3 => by
    obtain ⟨a, rfl, ha⟩ := fr
    have old : ∀ n x w, n ∈ c.M → ρ[n]? = some (some x) → σ[n]? = some (some w) → w ≠ .ref a := fun n x w hn q1 q2 => by
      obtain ⟨w', h4, h5⟩ := E0.at_ n x q1
      rw [q2] at h4; cases h4
      have h6 : OwnR c F H x w := by
        cases x with
        | exn k ds => exact absurd hn h5.1
        | _ =>
          have h5 : if n ∈ c.M then OwnR c F H _ w else RD c.G F H _ w := h5
          rw [if_pos hn] at h5; exact h5
      obtain ⟨b, rfl, _, _, ob⟩ := OwnR.iff.mp h6
      intro z
      cases z
      cases x with
      | lst ds => obtain ⟨vs, q, _⟩ := ob; rw [ha] at q; cases q
      | ins k ds => obtain ⟨dx, vs, q, _⟩ := ob; rw [ha] at q; cases q
      | _ => exact ob.elim
    by_cases e1 : i = j
    · subst e1
      have q := set_get (m := σ) (z := some (V.ref a)) E.len h1
      rw [h3] at q
      cases q
      rw [List.getElem?_set_ne hne] at h2 ⊢
      intro z
      exact old k e' _ hk h2 z rfl
    · rw [List.getElem?_set_ne e1] at h1 h3
      by_cases e2 : i = k
      · subst e2
        intro z
        have q := get_set z
        cases q
        exact old j d' _ hj h1 h3 rfl
      · rw [List.getElem?_set_ne e2] at h2 ⊢
        exact E.apart j k d' e' v' hj hk hne h1 h2 h3
theorem own_res {F1 : Addr → Prop} {H1 : Hp} (r : FrR c H F1 H1 d v) (h : ownable d = true) : OwnR c F1 H1 d v ∧ ∃ a, v = .ref a ∧ H a = none := by
  cases d <;> first | (cases h; done) | exact r
theorem ds_setF {i : Nat} {x : Str} (hN : X.N.Nodup) (hi : X.N[i]? = some x) (hx : Loc X.env.scope x) (he : DE X c .fr e ie) (h0 : i ≠ 0 := by decide) (hm : c.M.contains i = true := by rfl) (hs : swapsWith e (some (.Name x pos')) pos.line X.env = pure false := by rfl) (hf : X.fn x = true ∨ X.env.scope.names.lookup x = some .local := by first | exact .inl rfl | exact .inr rfl | assumption) :
    DS X c (.Assign [.Name x pos'] e pos) (.asgF i ie) :=
  ⟨(ps_set hN hi hx he.pe hs hf).of fun Z σ H ⟨ρ, F, E, p⟩ => by
    simp only [Dn.exec] at p
    refine S1 E p fun d v F1 H1 _ g E1 r p1 => ?_
    split at p1
    · rename_i ho
      obtain ⟨r1, r2⟩ := own_res r ho
      exact p1 _ F1 H1 .refl (ER.setM E E1 (isM hm) h0 r1 r2)
    · exact p1.elim⟩
/-- name = [..] -/
theorem ds_setLc {elt tg iter : Expr} {ifs : List Expr} {scope : Scope} {own : List (Str × Nat)} {t : Tg} {ie it : IE} {ic : Option IE} {i : Nat} {y : Str} {py : Pos} {spos : Pos} (hc : X.calm = true) (hN : X.N.Nodup) (hy : X.N[i]? = some y) (hyl : X.env.scope.names.lookup y = some .local) (hm : c.M.contains i = false)
    (hsw : swapsWith (.ListComp elt [⟨tg, iter, ifs, 0⟩] scope pos) (some (.Name y py)) spos.line X.env = pure true) (hi : DI X c tg iter it) (ok : BlkOk X.N X.env.scope scope own) (ho : own.map (·.2) = tgs t)
    (hg : ∀ (s : Shared) (H : Hp) (C : Addr) (cl : List (Str × Addr)) (fp : List Addr), DG (X.blk s H scope (compEnvC scope cl C X.env) fp) c.hush tg t) (ht : ∀ (s : Shared) (H : Hp) (C : Addr) (cl : List (Str × Addr)) (fp : List Addr), DTs (X.blk s H scope (compEnvC scope cl C X.env) fp) c.hush ifs ic)
    (he : ∀ (s : Shared) (H : Hp) (C : Addr) (cl : List (Str × Addr)) (fp : List Addr), DE (X.blk s H scope (compEnvC scope cl C X.env) fp) c.hush .st elt ie) (hs : ∀ x, foldedSetIterable iter X.env x = pure x := by intro _; rfl) :
    DS X c (.Assign [.Name y py] (.ListComp elt [⟨tg, iter, ifs, 0⟩] scope pos) spos) (.asg (.nm i) (.lc ie t it ic)) :=
  ⟨(ps_setLc hc hN hy hyl hsw hi.pi ok (fun s H C cl fp => (hg s H C cl fp).pg) (fun s H C cl fp => (ht s H C cl fp).pts) (fun s H C cl fp => (he s H C cl fp).pe) hs).of fun Z σ H ⟨ρ, F, E, p⟩ => by
    simp only [Dn.exec] at p
    refine lc_red ho (S1 E p fun d v F1 H1 _ g E1 r p1 => ?_)
    have r : FrR c H F1 H1 d v := r
    obtain ⟨F3, g3, up, r3⟩ := r.freeze g
    have k : Keep F1 H1 F3 H1 := ⟨up, fun _ _ _ h => h, fun _ _ h _ => h⟩
    exact p1 _ F3 H1 k ((E.mono g3).set (notM hm) r3)⟩
/-! loops -/
theorem DG.turn {t : Tg} {v : V} {Q : L2.St → Hp → Prop} (E : ER c ρ F σ H) (r : RD c.G F H d v) (hb : bindT t d ρ = some ρ') (k : ∀ σ', ER c ρ' F σ' H → Q σ' H) : gD c t v σ H Q := ⟨ρ, F, d, ρ', E, r, hb, fun σ' E' _ => k σ' E'⟩
theorem forL_cons (body : Dn.Env → O) (t : Tg) (d : D) (ds : List D) (ρ : Dn.Env) : forL body t (d :: ds) ρ = match bindT t d ρ with
    | none => .bad
    | some ρ1 => match body ρ1 with
      | .nx ρ2 => forL body t ds ρ2
      | .ct ρ2 => forL body t ds ρ2
      | .bk ρ2 => .nx ρ2
      | o => o := rfl
theorem ds_for {tg iter : Expr} {body : List Stmt} {t : Tg} {it : IE} {ib : List IS} (hp : PassesOwn (model X.prog X.w) X.A X.env X.xe) (hc : X.calm = true) (hi : DI X c tg iter it) (hg : DG X c tg t) (hb : DSs X c body ib)
    (hs : ∀ x, foldedSetIterable iter X.env x = pure x := by intro _; rfl) : DS X c (.For tg iter body [] pos) (.for_ t it ib) :=
  ⟨(ps_for hp hc hi.pi hg.pg hb.pss hs).of fun Z σ H ⟨ρ, F, E, p⟩ => by
    simp only [Dn.exec] at p
    refine ⟨ρ, F, E, ?_⟩
    cases q : Dn.eval c.G.T c.C it ρ with
    | bad => rw [q] at p; exact p.elim
    | exc k ds => rw [q] at p; exact fun dx vs F1 H1 g h l r => p dx vs σ F1 H1 g.keep (E.mono g) h l r
    | ok x =>
      rw [q] at p
      simp only [ev_ok] at p
      unfold PostI
      cases hx : items x with
      | none => simp only [hx] at p; exact p.elim
      | some xs =>
        simp only [hx] at p ⊢
        intro J F1 H1 g1 wk
        obtain ⟨Gd, Y, w, hG, hY⟩ := wk.ex
        refine for_it w (g := gD c t) (tb := tS c (Dn.execs c.G.T c.C c.N ib)) (fun i σ H => ∃ ρ F, ER c ρ F σ H ∧ Keep F1 H1 F H ∧ PostS c (forL (fun ρ => Dn.execs c.G.T c.C c.N ib ρ) t (xs.drop i) ρ) F H Z)
          ⟨ρ, F1, E.mono g1, .refl, PostS.mono p g1.keep⟩ (fun i σ H _ ⟨ρ, F, E, k, _⟩ => hG F H k) (fun i x σ2 H2 H3 hlt ⟨ρ2, F2, E2, k2, p2⟩ y => ?_) (fun σ2 H2 ⟨ρ2, F2, E2, k2, p2⟩ => ?_)
        · have hd : xs[i]? = some xs[i] := List.getElem?_eq_getElem hlt
          obtain ⟨g3, rd⟩ := hY i xs[i] x F2 H2 H3 hd k2 y
          rw [List.drop_eq_getElem_cons hlt, forL_cons] at p2
          cases hb : bindT t xs[i] ρ2 with
          | none => simp only [hb] at p2; exact p2.elim
          | some ρ3 =>
            simp only [hb] at p2
            refine DG.turn (E2.mono g3) rd hb fun σ3 E3 => ⟨ρ3, F2, E3, ?_⟩
            have p3 := PostS.mono p2 g3.keep
            cases hbd : Dn.execs c.G.T c.C c.N ib ρ3 with
            | nx ρ4 =>
              simp only [hbd] at p3
              exact fun σ4 F4 H4 k4 E4 => ⟨ρ4, F4, E4, (k2.trans g3.keep).trans k4, PostS.mono p3 k4⟩
            | ct ρ4 =>
              simp only [hbd] at p3
              exact fun σ4 F4 H4 k4 E4 => ⟨ρ4, F4, E4, (k2.trans g3.keep).trans k4, PostS.mono p3 k4⟩
            | bk ρ4 => simp only [hbd] at p3; exact p3
            | rt d ρ4 => simp only [hbd] at p3; exact p3
            | ex n ds ρ4 => simp only [hbd] at p3; exact p3
            | bad => simp only [hbd] at p3; exact p3
        · rw [List.drop_length] at p2
          exact p2 σ2 F2 H2 .refl E2⟩
theorem ds_whl {body : List Stmt} {ib : List IS} (hp : PassesOwn (model X.prog X.w) X.A X.env X.xe) (hc : DT X c cd icd) (hb : DSs X c body ib) : DS X c (.While cd body [] pos) (.whl icd ib) :=
  ⟨(ps_while hp hc.pt hb.pss).of fun Z σ H ⟨ρ, F, E, p⟩ => by
    simp only [Dn.exec] at p
    refine ⟨fun m σ H => ∃ ρ F, ER c ρ F σ H ∧ PostS c (whlL (Dn.eval c.G.T c.C icd) (fun ρ => Dn.execs c.G.T c.C c.N ib ρ) m ρ) F H Z, ⟨c.N, ρ, F, E, p⟩, fun m σ H ⟨ρ, F, E, p⟩ => ?_⟩
    cases m with
    | zero => exact p.elim
    | succ m =>
      simp only [whlL] at p
      refine S2 E p (fun d h => by simp only [h]) fun d b F1 H1 _ h g E1 p1 => ?_
      simp only [h] at p1
      cases b with
      | false =>
        simp only [Bool.false_eq_true, if_false]
        exact p1 σ F1 H1 .refl E1
      | true =>
        simp only [if_true]
        refine ⟨fun σ' H' => ∃ ρ F, ER c ρ F σ' H' ∧ PostS c (whlL (Dn.eval c.G.T c.C icd) (fun ρ => Dn.execs c.G.T c.C c.N ib ρ) m ρ) F H' Z, fun σ' H' q => ⟨m, Nat.lt_succ_self m, q⟩, ρ, F1, E1, ?_⟩
        cases hbd : Dn.execs c.G.T c.C c.N ib ρ with
        | nx ρ4 => simp only [hbd] at p1; exact fun σ4 F4 H4 k4 E4 => ⟨ρ4, F4, E4, PostS.mono p1 k4⟩
        | ct ρ4 => simp only [hbd] at p1; exact fun σ4 F4 H4 k4 E4 => ⟨ρ4, F4, E4, PostS.mono p1 k4⟩
        | bk ρ4 => simp only [hbd] at p1; exact p1
        | rt d ρ4 => simp only [hbd] at p1; exact p1
        | ex n ds ρ4 => simp only [hbd] at p1; exact p1
        | bad => simp only [hbd] at p1; exact p1⟩

/-! ### things that change -/
theorem ER.owns (E : ER c ρ F σ H) {i : Nat} (hm : i ∈ c.M) (h : slotD ρ i = some d) : ∃ v, σ[i]? = some (some v) ∧ OwnR c F H d v := by
  have h : ρ[i]? = some (some d) := by
    unfold slotD at h
    cases q : ρ[i]? with
    | none => rw [q] at h; cases h
    | some o => rw [q] at h; cases o <;> cases h; rfl
  obtain ⟨v, h1, h2⟩ := E.at_ i d h
  refine ⟨v, h1, ?_⟩
  cases d with
  | exn k ds => exact absurd hm h2.1
  | _ =>
    have h2 : if i ∈ c.M then OwnR c F H _ v else RD c.G F H _ v := h2
    rw [if_pos hm] at h2; exact h2
theorem OwnAt.out {a : Addr} (h : OwnAt c.G F H a d) (nf : ¬ F a) : OutW H F a := by
  cases d with
  | lst ds => obtain ⟨vs, q, _⟩ := h; exact ⟨nf, .inl ⟨_, q⟩⟩
  | ins k ds => obtain ⟨dx, vs, q, _⟩ := h; exact ⟨nf, .inr ⟨_, _, _, q⟩⟩
  | _ => exact h.elim
theorem GrowI.keep {a : Addr} (o : OutW H F a) (g : GrowI a F H F' H') : Keep F H F' H' :=
  ⟨g.up, fun b x f h => g.same b x (fun e => o.1 (e ▸ f)) h, fun b x h s => g.same b x (fun e => by
    subst e
    rcases o.2 with ⟨xs, q⟩ | ⟨C, dx, fs, q⟩ <;> rw [q] at h <;> cases h <;> cases s) h⟩
theorem OwnAt.keep {G : Gl} {b : Addr} (k : Keep F H F' H') (hb : ∀ o, H b = some o → H' b = some o) (h : OwnAt G F H b d) : OwnAt G F' H' b d := by
  cases d with
  | lst ds => obtain ⟨vs, q, r⟩ := h; exact ⟨vs, hb _ q, r.keep k⟩
  | ins n ds => obtain ⟨dx, vs, q, l, r⟩ := h; exact ⟨dx, vs, hb _ q, l, r.keep k⟩
  | _ => exact h.elim
/-- the thing at a slot has changed -/
theorem ER.io (E : ER c ρ F σ H) {i : Nat} {a : Addr} {s : D} (hm : i ∈ c.M) (hi : σ[i]? = some (some (.ref a))) (hd : slotD ρ i = some d) (g : GrowI a F H F' H') (oa : OwnAt c.G F' H' a s) : ER c (ρ.set i (some s)) F' σ H' := by
  obtain ⟨v, h1, ow⟩ := E.owns hm hd
  rw [hi] at h1
  cases h1
  obtain ⟨a2, e2, nf, ho, oa0⟩ := OwnR.iff.mp ow
  cases e2
  have out := oa0.out nf
  have k := g.keep out
  have nf' : ¬ F' a := fun f => (g.new a f).elim nf fun z => by
    rcases out.2 with ⟨xs, q⟩ | ⟨C, dx, fs, q⟩ <;> rw [q] at z <;> cases z
  have hρi : ρ[i]? = some (some d) := by
    unfold slotD at hd
    cases q : ρ[i]? with
    | none => rw [q] at hd; cases hd
    | some o => rw [q] at hd; cases o <;> cases hd; rfl
  have ha' : ∃ o, H' a = some o := by
    cases s with
    | lst ds => exact ⟨_, oa.choose_spec.1⟩
    | ins n ds => exact ⟨_, oa.choose_spec.choose_spec.1⟩
    | _ => exact oa.elim
  exact {
    self := E.self
    len := by rw [List.length_set]; exact E.len
    same := fun b o hb h0 => g.same b o (fun e => by subst e; exact ho.elim hb fun z => by rw [h0] at z; cases z) (E.same b o hb h0)
    up := fun b h => g.up b (E.up b h)
    new := fun b h => (g.new b h).elim (E.new b) fun z => .inr (E.cl b z).1
    pin := fun b hb => by
      by_cases e : b = a
      · subst e; exact ha'
      · obtain ⟨o, q⟩ := E.pin b hb; exact ⟨o, g.same b o e q⟩
    there := fun b h => (g.has b h).elim (fun f => let ⟨o, q⟩ := E.there b f; ⟨o, g.same b o (fun e => nf (e ▸ f)) q⟩) id
    at_ := fun j e h => by
      by_cases hj : i = j
      · subst hj
        have q := get_set h
        cases q
        refine ⟨.ref a, hi, ?_⟩
        have : if i ∈ c.M then OwnR c F' H' s (.ref a) else RD c.G F' H' s (.ref a) := by rw [if_pos hm]; exact OwnR.iff.mpr ⟨a, rfl, nf', ho, oa⟩
        cases s with
        | exn k ds => exact oa.elim
        | _ => exact this
      · rw [List.getElem?_set_ne hj] at h
        obtain ⟨w, h2, h3⟩ := E.at_ j e h
        refine ⟨w, h2, ?_⟩
        have gen : (if j ∈ c.M then OwnR c F H e w else RD c.G F H e w) → (if j ∈ c.M then OwnR c F' H' e w else RD c.G F' H' e w) := fun h3 => by
          split at h3
          · rename_i hjm
            rw [if_pos hjm]
            obtain ⟨b, e4, nb, hob, ob⟩ := OwnR.iff.mp h3
            subst e4
            have hba : b ≠ a := fun z => by
              subst z
              exact E.apart i j d e (.ref b) hm hjm hj hρi h hi h2
            refine OwnR.iff.mpr ⟨b, rfl, fun f => (g.new b f).elim nb fun z => ?_, hob, ob.keep k fun o q => g.same b o hba q⟩
            cases e with
            | lst ds => rw [ob.choose_spec.1] at z; cases z
            | ins n ds => rw [ob.choose_spec.choose_spec.1] at z; cases z
            | _ => exact ob.elim
          · rename_i hjm
            rw [if_neg hjm]
            exact h3.keep k
        cases e with
        | exn n ds =>
          obtain ⟨n1, x, dx, vs, e1, e2, q, l, r⟩ := h3
          exact ⟨n1, x, dx, vs, e1, e2, k.st _ _ q rfl, l, r.keep k⟩
        | _ => exact gen h3
    apart := fun j n e f w hj hn hne h2 h3 h4 => by
      have back : ∀ (j : Nat) (e : D), (ρ.set i (some s))[j]? = some (some e) → ∃ e', ρ[j]? = some (some e') := fun j e h => by
        by_cases hj : i = j
        · subst hj; exact ⟨d, hρi⟩
        · rw [List.getElem?_set_ne hj] at h; exact ⟨e, h⟩
      obtain ⟨e', h2'⟩ := back j e h2
      obtain ⟨f', h3'⟩ := back n f h3
      exact E.apart j n e' f' w hj hn hne h2' h3' h4 }
theorem GrowI.put {a : Addr} {u : HO} : GrowI a F H F (upd H a u) := ⟨fun b o n h => by rw [upd_ne n]; exact h, fun _ h => h, fun _ h => .inl h, fun _ h => .inl h⟩
end
end Sd
set_option Elab.async false
set_option linter.all false
set_option autoImplicit false
set_option maxRecDepth 100000
set_option maxHeartbeats 4000000
/-! Statements that change things. -/
namespace Sd
open PySem L2 Dn PyProof.Rows

section
variable {X : Cx} {c : Cn} {F F' : Addr → Prop} {H H' : Hp} {ρ ρ' : Dn.Env} {σ : L2.St} {own : Md} {d : D} {v : V} {pos pos' p1 apos cpos : Pos} {e : Expr} {ie : IE} {Z : Ends} {i j n : Nat} {x y f : Str} {es : List Expr} {ies : List IE}
theorem slot_lst {xs : List D} (E : ER c ρ F σ H) (hm : i ∈ c.M) (h : slotD ρ i = some (.lst xs)) : ∃ a vs, σ[i]? = some (some (.ref a)) ∧ H a = some (.lst vs) ∧ OutW H F a ∧ RDs c.G F H xs vs := by
  obtain ⟨v, h1, ow⟩ := E.owns hm h
  obtain ⟨a, rfl, nf, _, vs, h2, r⟩ := OwnR.iff.mp ow
  exact ⟨a, vs, h1, h2, ⟨nf, .inl ⟨_, h2⟩⟩, r⟩
theorem ds_app (hN : X.N[i]? = some x) (hv : Vis X.env.scope x) (he : DE X c .st e ie) (hm : c.M.contains i = true := by rfl) (hd : (x == ("__debug__" : Str)) = false := by decide) (hcd : (x == ("__classdict__" : Str)) = false := by decide)
    (hse : starEach [e] X.env = (false, PySem.eval e X.env) :: starEach [] X.env := by rfl)
    (hs : swapsWith (.Call (.Attribute (.Name x p1) "append" apos) [e] [] cpos) none pos.line X.env = pure false := by rfl) (hbase : attributeBase (.Name x p1) "append" X.env (PySem.eval (.Name x p1) X.env) = PySem.eval (.Name x p1) X.env := by rfl)
    (hfew : ((backTo cpos (starEach [e] X.env)).all (fun x => !x.1) && (backToKw cpos (keywordEach [] X.env)).all (fun x => x.1.isSome)
      && decide ([e].length + ([] : List Keyword).length + (if ([] : List Keyword).isEmpty then 0 else 1) < 30)) = true := by rfl)
    (hline : (apos.endLine == cpos.line) = true := by rfl) (hplain : (backTo cpos (starEach [] X.env)).any (·.1) = false := by rfl) :
    DS X c (.Expr (.Call (.Attribute (.Name x p1) "append" apos) [e] [] cpos) pos) (.app i ie) :=
  ⟨(ps_expr (pe_bm PySem.F.plainAttrs_list PySem.F.slot_list_append PySem.F.type_list_append mt_append (pe_var hN hv hd hcd) (pa_cons he.pe pa_nil hse) hbase hfew hline hse hplain) hs).of fun Z σ H ⟨ρ, F, E, p⟩ => by
    simp only [Dn.exec] at p
    split at p
    · rename_i xs hsl
      obtain ⟨a, vs, h1, h2, ow, r⟩ := slot_lst E (isM hm) hsl
      refine ⟨.ref a, h1, .inl ⟨rfl, vs, .of h2⟩, ?_⟩
      refine S1 E p fun d v F1 H1 _ g E1 rv p1 => ?_
      split at p1
      · rename_i hl
        obtain ⟨a', vs', h1', h2', ow', r'⟩ := slot_lst E1 (isM hm) hsl
        rw [h1] at h1'; cases h1'
        refine ⟨a, vs', v, rfl, rfl, h2', ?_, ?_⟩
        · rw [← r'.length, sizeLine_eq]
          have : xs.length < 16000000 := hl
          omega
        · refine p1 σ F1 _ (.write ow') (E1.io (isM hm) h1 hsl .put ⟨_, upd_same, ?_⟩)
          exact (r'.append (.cons (Rw.strict rv) .nil)).write ow'
      · exact p1.elim
    · exact p.elim⟩
theorem ds_pop (hN : X.N.Nodup) (hj : X.N[j]? = some y) (hy : Loc X.env.scope y) (hi : X.N[i]? = some x) (hv : Vis X.env.scope x) (hm : c.M.contains i = true := by rfl) (hm2 : c.M.contains j = false := by rfl) (hd : (x == ("__debug__" : Str)) = false := by decide) (hcd : (x == ("__classdict__" : Str)) = false := by decide)
    (hs : swapsWith (.Call (.Attribute (.Name x p1) "pop" apos) [] [] cpos) (some (.Name y pos')) pos.line X.env = pure false := by rfl) (hf : X.fn y = true ∨ X.env.scope.names.lookup y = some .local := by first | exact .inl rfl | exact .inr rfl | assumption)
    (hbase : attributeBase (.Name x p1) "pop" X.env (PySem.eval (.Name x p1) X.env) = PySem.eval (.Name x p1) X.env := by rfl) (hline : (apos.endLine == cpos.line) = true := by rfl) :
    DS X c (.Assign [.Name y pos'] (.Call (.Attribute (.Name x p1) "pop" apos) [] [] cpos) pos) (.pop j i) :=
  ⟨(ps_set hN hj hy (pe_bm0 PySem.F.plainAttrs_list PySem.F.slot_list_pop PySem.F.type_list_pop mt_pop (pe_var hi hv hd hcd) hbase hline) hs hf).of fun Z σ H ⟨ρ, F, E, p⟩ => by
    simp only [Dn.exec] at p
    split at p
    · rename_i xs hsl
      obtain ⟨a, vs, h1, h2, ow, r⟩ := slot_lst E (isM hm) hsl
      split at p
      · rename_i d hd
        obtain ⟨w, hw, rw_⟩ := r.get hd
        refine ⟨.ref a, h1, .inl ⟨rfl, vs, .of h2⟩, a, vs, w, rfl, rfl, h2, by rw [← r.length]; exact hw, ?_⟩
        have E2 : ER c (ρ.set i (some (.lst xs.dropLast))) F σ (upd H a (.lst vs.dropLast)) := E.io (isM hm) h1 hsl .put ⟨_, upd_same, by
          have := (r.take (xs.length - 1)).write (u := .lst vs.dropLast) ow
          rw [List.dropLast_eq_take, List.dropLast_eq_take, ← r.length]
          rw [List.dropLast_eq_take, ← r.length] at this
          exact this⟩
        exact p _ F _ (.write ow) (E2.set (notM hm2) (rw_.write ow))
      · exact p.elim
    · exact p.elim⟩
theorem ds_aug (o : BOp) (ho : PIp X (opB o) (ipI fun a b => match o with | .add => a + b | .sub => a - b | _ => 0)) (h2 : o = .add ∨ o = .sub) (hN : X.N.Nodup) (hi : X.N[i]? = some x) (hx : Loc X.env.scope x) (he : DE X c .rd e ie) (hm : c.M.contains i = false := by rfl) (hf : X.fn x = true ∨ X.env.scope.names.lookup x = some .local := by first | exact .inl rfl | exact .inr rfl | assumption) :
    DS X c (.AugAssign (.Name x pos') (opB o) e pos) (.aug i o ie) :=
  ⟨(ps_aug hN hi hx he.pe ho hf).of fun Z σ H ⟨ρ, F, E, p⟩ => by
    simp only [Dn.exec] at p
    split at p
    · rename_i a hsl
      have hρ : ρ[i]? = some (some (.int a)) := by
        unfold slotD at hsl
        cases q : ρ[i]? with
        | none => rw [q] at hsl; cases hsl
        | some o => rw [q] at hsl; cases o <;> cases hsl; rfl
      obtain ⟨v, h1, h3⟩ := E.at_ i _ hρ
      have h3 : if i ∈ c.M then OwnR c F H (.int a) v else RD c.G F H (.int a) v := h3
      rw [if_neg (notM hm)] at h3
      cases h3
      refine ⟨.int a, h1, S1 E p fun d v F1 H1 _ g E1 r p1 => ?_⟩
      split at p1
      · rename_i b _
        cases Rw.int r
        refine ⟨a, b, rfl, rfl, ?_⟩
        rcases h2 with rfl | rfl
        · exact p1 _ F1 H1 .refl (E1.set (notM hm) (.int _))
        · exact p1 _ F1 H1 .refl (E1.set (notM hm) (.int _))
      · exact p1.elim
    · exact p.elim⟩

/-! fields -/
theorem putF_out {f : Str} {v : V} : ∀ {ns : List Str} {vs : List V}, f ∉ ns → ns.length = vs.length → putF f v (ns.zip vs) = (ns ++ [f]).zip (vs ++ [v])
  | [], [], _, _ => rfl
  | n :: ns, w :: vs, h, hl => by
    have h1 : ¬ n = f := fun e => h (by rw [e]; exact List.mem_cons_self)
    simp only [List.zip_cons_cons, List.cons_append, putF, if_neg h1]
    rw [putF_out (fun m => h (List.mem_cons_of_mem _ m)) (by simpa using hl)]
  | [], _ :: _, _, hl => by cases hl
  | _ :: _, [], _, hl => by cases hl
theorem putF_at {f : Str} {v : V} : ∀ {ns : List Str} {vs : List V} {i : Nat}, ns.Nodup → ns[i]? = some f → ns.length = vs.length → putF f v (ns.zip vs) = ns.zip (vs.set i v)
  | [], [], _, _, h, _ => by cases h
  | n :: ns, w :: vs, 0, nd, h, hl => by
    simp only [List.getElem?_cons_zero, Option.some.injEq] at h
    subst h
    simp [putF]
  | n :: ns, w :: vs, i + 1, nd, h, hl => by
    simp only [List.getElem?_cons_succ] at h
    have h1 : ¬ n = f := fun e => (List.nodup_cons.mp nd).1 (by rw [e]; exact List.mem_of_getElem? h)
    simp only [List.zip_cons_cons, List.set_cons_succ, putF, if_neg h1]
    rw [putF_at (List.nodup_cons.mp nd).2 h (by simpa using hl)]
  | [], _ :: _, _, _, _, hl => by cases hl
  | _ :: _, [], _, _, _, hl => by cases hl
theorem names_len {G : Gl} {k m : Nat} (h : m ≤ (G.T.flds k).length) : (G.names k m).length = m := by
  unfold Gl.names
  simp; omega
theorem names_succ {G : Gl} {k m n : Nat} (h : (G.T.flds k)[m]? = some n) : G.names k (m + 1) = G.names k m ++ [G.F n] := by
  unfold Gl.names
  rw [List.take_succ, h]; simp
/-- a field put -/
theorem put_fld {k : Nat} {xs : List D} {vs : List V} {s' : D} {w : V} {dx a : Addr} (ok : GOk c.G) (l : xs.length ≤ (c.G.T.flds k).length) (r : RDs c.G F H xs vs) (h : putFld c.G.T (.ins k xs) n d = some s') (rd : RD c.G F H d w) (ow : OutW H F a) :
    (c.G.T.init k).isSome = true ∧ n ∈ c.G.T.flds k ∧ OwnAt c.G F (upd H a (.ins (c.G.C k) dx (putF (c.G.F n) w ((c.G.names k xs.length).zip vs)))) a s' := by
  simp only [putFld] at h
  have hlen : (c.G.names k xs.length).length = vs.length := by rw [names_len l]; exact r.length
  split at h
  · rename_i hi
    refine ⟨hi, ?_⟩
    split at h
    · rename_i hlt
      cases h
      have hn := idx_get (Nat.lt_of_lt_of_le hlt l)
      refine ⟨List.mem_of_getElem? hn, dx, vs.set ((c.G.T.flds k).idxOf n) w, ?_, by rw [List.length_set]; exact l, (r.set rd _).write ow⟩
      rw [upd_same, putF_at (names_nd ok k xs.length) (names_get hn hlt) hlen, List.length_set]
    · split at h
      · rename_i hlt he
        cases h
        have hn : (c.G.T.flds k)[xs.length]? = some n := by
          rw [← he.1]; exact idx_get (by rw [he.1]; exact he.2)
        refine ⟨List.mem_of_getElem? hn, dx, vs ++ [w], ?_, by rw [List.length_append]; exact he.2, (r.append (.cons rd .nil)).write ow⟩
        have out : c.G.F n ∉ c.G.names k xs.length := by
          have nd := names_nd ok k (xs.length + 1)
          rw [names_succ hn] at nd
          intro hm
          exact (List.nodup_append.mp nd).2.2 _ hm _ (by simp) rfl
        rw [upd_same, putF_out out hlen, List.length_append]
        show _ = some (HO.ins _ _ ((c.G.names k (xs.length + 1)).zip _))
        rw [names_succ hn]
      · cases h
  · cases h
theorem slot_ins {k : Nat} {xs : List D} (E : ER c ρ F σ H) (hm : i ∈ c.M) (h : slotD ρ i = some (.ins k xs)) : ∃ a dx vs, σ[i]? = some (some (.ref a)) ∧ H a = some (.ins (c.G.C k) dx ((c.G.names k xs.length).zip vs)) ∧ OutW H F a ∧ xs.length ≤ (c.G.T.flds k).length ∧ RDs c.G F H xs vs := by
  obtain ⟨v, h1, ow⟩ := E.owns hm h
  obtain ⟨a, rfl, nf, _, dx, vs, h2, l, r⟩ := OwnR.iff.mp ow
  exact ⟨a, dx, vs, h1, h2, ⟨nf, .inr ⟨_, _, _, h2⟩⟩, l, r⟩
theorem ds_sat (fit : Fit X c) (hF : c.G.F n = f) (hi : X.N[i]? = some x) (hv : Vis X.env.scope x) (he : DE X c .st e ie) (hm : c.M.contains i = true := by rfl) (hd : (x == ("__debug__" : Str)) = false := by decide) (hcd : (x == ("__classdict__" : Str)) = false := by decide)
    (hs : swapsWith e (some (.Attribute (.Name x p1) f pos')) pos.line X.env = pure false := by rfl) : DS X c (.Assign [.Attribute (.Name x p1) f pos'] e pos) (.sat i n ie) :=
  ⟨(ps_fld (pe_var hi hv hd hcd) he.pe hs).of fun Z σ H ⟨ρ, F, E, p⟩ => by
    simp only [Dn.exec] at p
    refine S1 E p fun d v F1 H1 _ g E1 rv p1 => ?_
    cases hsl : slotD ρ i with
    | none => rw [hsl] at p1; exact p1.elim
    | some s =>
      rw [hsl] at p1
      simp only [Option.bind_some] at p1
      cases hp : putFld c.G.T s n d with
      | none => rw [hp] at p1; exact p1.elim
      | some s' =>
        rw [hp] at p1
        cases s <;> try (simp [putFld] at hp; done)
        rename_i k xs
        obtain ⟨a, dx, vs, h1, h2, ow, l, r⟩ := slot_ins E1 (isM hm) hsl
        obtain ⟨q1, q2, q3⟩ := put_fld (dx := dx) fit.ok l r hp (Rw.strict rv) ow
        subst hF
        refine ⟨.ref a, h1, a, _, dx, _, rfl, h2, fit.K ▸ fit.ok.cls k q1, fit.K ▸ fit.ok.no k n q1 q2, ?_, ?_⟩
        · rw [List.length_zip, names_len l, ← r.length, Nat.min_self]
          exact Nat.lt_of_le_of_lt l (fit.ok.few k)
        · exact p1 σ F1 _ (.write ow) (E1.io (isM hm) h1 hsl .put q3)⟩
theorem ds_aat (fit : Fit X c) (hF : c.G.F n = f) (hi : X.N[i]? = some x) (hv : Vis X.env.scope x) (he : DE X c .rd e ie) (hm : c.M.contains i = true := by rfl) (hd : (x == ("__debug__" : Str)) = false := by decide) (hcd : (x == ("__classdict__" : Str)) = false := by decide) :
    DS X c (.AugAssign (.Attribute (.Name x p1) f pos') .Add e pos) (.aat i n .add ie) :=
  ⟨(ps_fldaug (pe_var hi hv hd hcd) he.pe in_add).of fun Z σ H ⟨ρ, F, E, p⟩ => by
    simp only [Dn.exec] at p
    cases hsl : slotD ρ i with
    | none => rw [hsl] at p; exact p.elim
    | some s =>
      simp only [hsl] at p
      split at p
      · rename_i z hat
        cases s <;> try (simp [attD] at hat; done)
        rename_i k xs
        simp only [attD] at hat
        split at hat
        · rename_i hk
          split at hat
          · rename_i y hy
            cases hat
            obtain ⟨a, dx, vs, h1, h2, ow, l, r⟩ := slot_ins E (isM hm) hsl
            have hlt : (c.G.T.flds k).idxOf n < xs.length := (List.getElem?_eq_some_iff.mp hy).1
            have hn := idx_get (Nat.lt_of_lt_of_le hlt l)
            obtain ⟨w, hw, rw_⟩ := lookup_zip (names_nd fit.ok k xs.length) r (names_get hn hlt) hy
            cases rw_
            subst hF
            refine ⟨.ref a, h1, a, _, dx, _, _, rfl, h2, fit.K ▸ fit.ok.cls k hk, fit.K ▸ fit.ok.no k n hk (List.mem_of_getElem? hn), hw, ?_⟩
            refine S1 E p fun d v F1 H1 _ g E1 rv p1 => ?_
            split at p1
            · rename_i b _
              cases Rw.int rv
              refine ⟨z, b, rfl, rfl, ?_⟩
              simp only [Dn.binI, ev_ok] at p1
              cases hp : putFld c.G.T (.ins k xs) n (.int (z + b)) with
              | none => rw [hp] at p1; exact p1.elim
              | some s' =>
                rw [hp] at p1
                obtain ⟨a', dx', vs', h1', h2', ow', l', r'⟩ := slot_ins E1 (isM hm) hsl
                rw [h1] at h1'; cases h1'
                obtain ⟨q1, q2, q3⟩ := put_fld (w := .int (z + b)) (dx := dx') fit.ok l' r' hp (.int _) ow'
                refine ⟨dx', (c.G.names k xs.length).zip vs', h2', ?_, ?_⟩
                · rw [List.length_zip, names_len l', ← r'.length, Nat.min_self]
                  exact Nat.lt_of_le_of_lt l' (fit.ok.few k)
                · exact p1 σ F1 _ (.write ow') (E1.io (isM hm) h1 hsl .put q3)
            · exact p1.elim
          · cases hat
        · cases hat
      · exact p.elim⟩

/-! calls that change a thing -/
theorem io_call {m : List D → IO} {a : Addr} {s : D} {ds : List D} {ws : List V} {np : Nat} {t : D → Dn.Env → O} {Q : VK} (hl : ws.length + 1 = np) (E : ER c ρ F σ H) (hm : i ∈ c.M) (h1 : σ[i]? = some (some (.ref a))) (hsl : slotD ρ i = some s) (r : RDs c.G F H ds ws)
    (p : PostS c (match m (s :: ds) with | .ok d s' => t d (ρ.set i (some s')) | .exc k xs s' => .ex k xs (ρ.set i (some s')) | .bad => .bad) F H Z)
    (k : ∀ d v s' F' H', Keep F H F' H' → ER c (ρ.set i (some s')) F' σ H' → RD c.G F' H' d v → PostS c (t d (ρ.set i (some s'))) F' H' Z → Q v H') : spI c.G m np (.ref a :: ws) H Q (fun cls d H' => c.W cls d σ H') := by
  obtain ⟨v, h2, ow⟩ := E.owns hm hsl
  rw [h1] at h2; cases h2
  obtain ⟨a2, e2, nf, ho, oa⟩ := OwnR.iff.mp ow
  cases e2
  have out := oa.out nf
  refine ⟨by simp only [List.length_cons]; exact hl, a, ws, s, ds, F, rfl, nf, E.there, oa, r, ?_⟩
  cases q : m (s :: ds) with
  | ok d s' =>
    rw [q] at p
    exact fun v F' H' g o rv => k d v s' F' H' (g.keep out) (E.io hm h1 hsl g o) rv (PostS.mono p (g.keep out))
  | exc n es s' =>
    rw [q] at p
    exact fun dx us F' H' g o h l rv => p dx us σ F' H' (g.keep out) (E.io hm h1 hsl g o) h l rv
  | bad => rw [q] at p; exact p
theorem ds_ical {g : Str} {k np : Nat} {p : Pos} (fit : Fit X c) (hN : X.N.Nodup) (hj : X.N[j]? = some y) (hy : Loc X.env.scope y) (co : CalO X g (spI c.G (c.C.io k) np)) (hg : L2.Gl X g) (hi : X.N[i]? = some x) (hv : Vis X.env.scope x) (ha : DA X c .st es ies)
    (hn : ies.length + 1 = np := by rfl) (hm : c.M.contains i = true := by rfl) (hm2 : c.M.contains j = false := by rfl) (hd : (x == ("__debug__" : Str)) = false := by decide) (hcd : (x == ("__classdict__" : Str)) = false := by decide) (hdb : (g == ("__debug__" : Str)) = false := by decide)
    (he : starEach (.Name x p1 :: es) X.env = (false, PySem.eval (.Name x p1) X.env) :: starEach es X.env := by rfl) (hpl : (backTo cpos (starEach es X.env)).any (·.1) = false := by rfl)
    (hs : swapsWith (.Call (.Name g p) (.Name x p1 :: es) [] cpos) (some (.Name y pos')) pos.line X.env = pure false := by rfl) (hf : X.fn y = true ∨ X.env.scope.names.lookup y = some .local := by first | exact .inl rfl | exact .inr rfl | assumption) :
    DS X c (.Assign [.Name y pos'] (.Call (.Name g p) (.Name x p1 :: es) [] cpos) pos) (.ical (.tg (.nm j)) k i ies) :=
  ⟨(ps_set hN hj hy (pe_callW fit.tk co hg (pa_cons (pe_var hi hv hd hcd) ha.pa he) hdb he hpl) hs hf).of fun Z σ H ⟨ρ, F, E, p⟩ => by
    simp only [Dn.exec] at p
    cases hsl : slotD ρ i with
    | none => rw [hsl] at p; exact p.elim
    | some s =>
      simp only [hsl] at p
      obtain ⟨v, h1, ow⟩ := E.owns (isM hm) hsl
      obtain ⟨a, rfl, _⟩ := OwnR.iff.mp ow
      refine ⟨.ref a, h1, SA E p fun ds ws F1 H1 q g1 E1 r p1 => ?_⟩
      refine io_call (t := fun d ρ => otO (.tg (.nm j)) d ρ) (by rw [← r.length, evals_length _ _ q, hn]) E1 (isM hm) h1 hsl r.st p1 fun d v s' F' H' k E2 rv p2 => ?_
      exact p2 _ F' H' .refl (E2.set (notM hm2) rv)⟩
def MthsI (X : Cx) (c : Cn) (n np : Nat) (m : Str) : Prop := ∀ k f, c.G.T.meth k n = some f → (c.G.T.init k).isSome = true ∧ MetO X (c.G.C k) m (spI c.G (c.C.io f) np) ∧ m ∉ (c.G.T.flds k).map c.G.F
theorem ds_imth {m : Str} {np : Nat} {pl : Sem Bool} {e0 : Expr} (fit : Fit X c) (hN : X.N.Nodup) (hj : X.N[j]? = some y) (hy : Loc X.env.scope y) (co : MthsI X c n np m) (hi : X.N[i]? = some x) (hv : Vis X.env.scope x) (ha : DA X c .st (e0 :: es) ies)
    (hn : ies.length + 1 = np := by rfl) (hm : c.M.contains i = true := by rfl) (hm2 : c.M.contains j = false := by rfl) (hd : (x == ("__debug__" : Str)) = false := by decide) (hcd : (x == ("__classdict__" : Str)) = false := by decide)
    (hst : starEach (e0 :: es) X.env = (false, PySem.eval e0 X.env) :: starEach es X.env := by rfl) (hpl : (backTo cpos (starEach es X.env)).any (·.1) = false := by rfl)
    (ht : PySem.eval (.Call (.Attribute (.Name x p1) m apos) (e0 :: es) [] cpos) X.env = (do
      let ov ← PySem.eval (.Name x p1) X.env
      standAt apos.atName
      let (f, first) ← holding [ov] (getMethod ov m pl)
      callWith cpos f first (backTo cpos (starEach (e0 :: es) X.env)) (backToKw cpos (keywordEach [] X.env))) := by rfl)
    (hs : swapsWith (.Call (.Attribute (.Name x p1) m apos) (e0 :: es) [] cpos) (some (.Name y pos')) pos.line X.env = pure false := by rfl) (hf : X.fn y = true ∨ X.env.scope.names.lookup y = some .local := by first | exact .inl rfl | exact .inr rfl | assumption) :
    DS X c (.Assign [.Name y pos'] (.Call (.Attribute (.Name x p1) m apos) (e0 :: es) [] cpos) pos) (.imth (.tg (.nm j)) n i ies) :=
  ⟨(ps_set hN hj hy (pe_methW fit.tk (pe_var hi hv hd hcd) ha.pa hst hpl ht) hs hf).of fun Z σ H ⟨ρ, F, E, p⟩ => by
    simp only [Dn.exec] at p
    split at p
    · rename_i k xs hsl
      split at p
      · rename_i f hf2
        obtain ⟨hk, mo, nf⟩ := co k f hf2
        obtain ⟨a, dx, vs, h1, h2, ow, l, r0⟩ := slot_ins E (isM hm) hsl
        refine ⟨.ref a, h1, c.G.C k, a, dx, _, _, rfl, h2, fit.K ▸ fit.ok.cls k hk, mo, lookup_out nf, SA E p fun ds ws F1 H1 q g1 E1 r p1 => ?_⟩
        refine io_call (t := fun d ρ => otO (.tg (.nm j)) d ρ) (by rw [← r.length, evals_length _ _ q, hn]) E1 (isM hm) h1 hsl r.st p1 fun d v s' F' H' k E2 rv p2 => ?_
        exact p2 _ F' H' .refl (E2.set (notM hm2) rv)
      · exact p.elim
    · exact p.elim⟩
end
end Sd
set_option Elab.async false
set_option linter.all false
set_option autoImplicit false
set_option maxRecDepth 100000
set_option maxHeartbeats 4000000
/-! Defs. -/
namespace Sd
open PySem L2 Dn PyProof.Rows

section
variable {c : Cn} {F F' : Addr → Prop} {H H' : Hp} {ρ ρ' : Dn.Env} {σ : L2.St} {d : D} {v : V} {G : Gl}
theorem start_get {np ns i : Nat} {ds : List D} {d : D} (h : (startE np ns ds)[i]? = some (some d)) : ds[i]? = some d := by
  unfold startE at h
  by_cases hi : i < ds.length
  · rw [List.getElem?_append_left (by simpa using hi), List.getElem?_map] at h
    cases q : ds[i]? with
    | none => rw [q] at h; cases h
    | some e => rw [q] at h; cases h; rfl
  · rw [List.getElem?_append_right (by simpa using hi), List.getElem?_replicate] at h
    split at h <;> cases h
theorem startV_get {N : List Str} {vs : List V} {i : Nat} {v : V} (h : vs[i]? = some v) : (L2.start N vs)[i]? = some (some v) := by
  unfold L2.start
  have hi := (List.getElem?_eq_some_iff.mp h).1
  rw [List.getElem?_append_left (by simpa using hi), List.getElem?_map, h]; rfl
theorem start_of {N : List Str} {vs : List V} {i : Nat} {v : V} (h : (L2.start N vs)[i]? = some (some v)) : vs[i]? = some v := by
  unfold L2.start at h
  by_cases hi : i < vs.length
  · rw [List.getElem?_append_left (by simpa using hi), List.getElem?_map] at h
    cases q : vs[i]? with
    | none => rw [q] at h; cases h
    | some e => rw [q] at h; cases h; rfl
  · rw [List.getElem?_append_right (by simpa using hi), List.getElem?_replicate] at h
    split at h <;> cases h
/-- the entry of a def that changes nothing it is given -/
theorem ER.begin {N : List Str} {np : Nat} {ds : List D} {vs : List V} (hP : c.P = []) (hF : c.F0 = F) (hH : c.H0 = H) (hM : ∀ i ∈ c.M, np ≤ i) (hd : ds.length = np) (hn : np ≤ N.length) (th : ∀ a, F a → ∃ o, H a = some o) (r : RDs c.G F H ds vs) : ER c (startE np N.length ds) F (L2.start N vs) H where
  len := by
    unfold startE L2.start
    rw [List.length_append, List.length_append, List.length_map, List.length_map, List.length_replicate, List.length_replicate, ← r.length, hd]
  same := fun a o _ h => hH ▸ h
  up := fun a h => hF ▸ h
  new := fun a h => .inl (hF ▸ h)
  at_ := fun i d h => by
    have h1 := start_get h
    obtain ⟨v, h2, rd⟩ := r.get h1
    refine ⟨v, startV_get h2, ?_⟩
    have hm : i ∉ c.M := fun z => by
      have := hM i z
      have := (List.getElem?_eq_some_iff.mp h1).1
      omega
    have : if i ∈ c.M then OwnR c F H d v else RD c.G F H d v := by rw [if_neg hm]; exact rd
    cases d with
    | exn k xs => exact rd.not_exn.elim
    | _ => exact this
  pin := fun a h => by rw [hP] at h; cases h
  there := th
  self := fun a h => by rw [hP] at h; cases h
  apart := fun i j d e v hi hj hne h1 h2 => by
    have h3 := (List.getElem?_eq_some_iff.mp (start_get h1)).1
    have := hM i hi
    omega
theorem ER.grow (E : ER c ρ F' σ H') (hP : c.P = []) (hF : c.F0 = F) (hH : c.H0 = H) : Grow F H F' H' :=
  ⟨fun a o h => E.same a o (by rw [hP]; simp) (hH ▸ h), fun a h => E.up a (hF ▸ h), fun a h => by rw [← hF, ← hH]; exact E.new a h, fun a h => .inr (E.there a h)⟩
theorem RtR.grow (r : RtR c ρ F' σ H') (hP : c.P = []) (hF : c.F0 = F) (hH : c.H0 = H) : Grow F H F' H' := by
  obtain ⟨M', F1, _, E, h1, h2⟩ := r.ex
  have g := E.grow hP hF hH
  exact ⟨g.same, fun a h => h1 a (g.up a h), fun a h => (h2 a h).elim (g.new a) fun ⟨_, z, _⟩ => .inr (hH ▸ z), fun a h => (h2 a h).elim (g.has a) fun ⟨_, _, z⟩ => .inr z⟩
end

theorem OwnAt.wide {G : Gl} {F F' : Addr → Prop} {H : Hp} {a : Addr} {d : D} (h : OwnAt G F H a d) (u : ∀ a, F a → F' a) : OwnAt G F' H a d := by
  cases d with
  | lst ds => obtain ⟨vs, q, r⟩ := h; exact ⟨vs, q, r.grow (fun _ _ h => h) u⟩
  | ins k ds => obtain ⟨dx, vs, q, l, r⟩ := h; exact ⟨dx, vs, q, l, r.grow (fun _ _ h => h) u⟩
  | _ => exact h.elim
/-! ### a def's whole body -/
def PostB (c : Cn) (o : O) (Z : Ends) : Prop := match o with
  | .nx ρ => ∀ σ' F' H', RtR c ρ F' σ' H' → Z.nx σ' H'
  | .rt d ρ => ∀ v σ' F' H', RtR c ρ F' σ' H' → RD c.G F' H' d v → Z.rt v H'
  | .ex k ds ρ => ∀ dx vs σ' F' H', RtR c ρ F' σ' H' → H' dx = some (.xd ((c.G.names k ds.length).zip vs)) → ds.length ≤ (c.G.T.flds k).length → RDs c.G F' H' ds vs → c.W (.ref (c.G.C k)) (some dx) σ' H'
  | _ => False
def tB (c : Cn) (f : Dn.Env → O) : TS := fun Z σ H => ∃ ρ F, ER c ρ F σ H ∧ PostB c (f ρ) Z
structure DB (X : Cx) (c : Cn) (sts : List Stmt) (is : List IS) : Prop where
  pss : PSs X sts (tB c (Dn.execs c.G.T c.C c.N is))
theorem PostB.s {c : Cn} {o : O} {Z : Ends} {F : Addr → Prop} {H : Hp} (p : PostB c o Z) : PostS c o F H Z := by
  cases o with
  | nx ρ => exact fun σ F' H' _ E => p σ F' H' (.of E)
  | rt d ρ => exact p
  | ex k ds ρ => exact fun dx vs σ F' H' _ E => p dx vs σ F' H' (.of E)
  | bk ρ => exact p.elim
  | ct ρ => exact p.elim
  | bad => exact p.elim
section
variable {X : Cx} {c : Cn} {st : Stmt} {sts : List Stmt} {is : IS} {iss : List IS}
theorem DSs.b (h : DSs X c sts iss) : DB X c sts iss := ⟨h.pss.of fun Z σ H ⟨ρ, F, E, p⟩ => ⟨ρ, F, E, p.s⟩⟩
theorem db_nil : DB X c [] [] := dss_nil.b
theorem db_cons (h1 : DS X c st is) (h2 : DB X c sts iss) : DB X c (st :: sts) (is :: iss) := by
  refine ⟨(pss_cons h1.ps h2.pss).of fun Z σ H ⟨ρ, F, E, p⟩ => ⟨ρ, F, E, ?_⟩⟩
  simp only [Dn.execs] at p
  cases q : Dn.exec c.G.T c.C c.N is ρ with
  | nx ρ1 =>
    rw [q] at p
    exact fun σ1 F1 H1 k E1 => ⟨ρ1, F1, E1, p⟩
  | bk ρ1 => rw [q] at p; exact p.elim
  | ct ρ1 => rw [q] at p; exact p.elim
  | rt d ρ1 => rw [q] at p; exact p
  | ex n ds ρ1 => rw [q] at p; exact fun dx vs σ F' H' _ E => p dx vs σ F' H' (.of E)
  | bad => rw [q] at p; exact p.elim
theorem RtR.wM {M : List Nat} {ρ : Dn.Env} {F' : Addr → Prop} {σ : L2.St} {H : Hp} (hM : 0 ∈ c.M → 0 ∈ M) (r : RtR (c.wM M) ρ F' σ H) : RtR c ρ F' σ H := by
  obtain ⟨M', F, h0, E, h1, h2⟩ := r.ex
  exact ⟨M', F, fun h => h0 (hM h), E, h1, h2⟩
theorem PostB.wM {M : List Nat} {o : O} {Z : Ends} (hM : 0 ∈ c.M → 0 ∈ M) (p : PostB c o Z) : PostB (c.wM M) o Z := by
  cases o with
  | nx ρ => exact fun σ F' H' r => p σ F' H' (r.wM hM)
  | rt d ρ => exact fun v σ F' H' r => p v σ F' H' (r.wM hM)
  | ex k ds ρ => exact fun dx vs σ F' H' r => p dx vs σ F' H' (r.wM hM)
  | bk ρ => exact p
  | ct ρ => exact p
  | bad => exact p
theorem mem_wM {i j : Nat} : j ∈ c.M.filter (· != i) ↔ j ∈ c.M ∧ j ≠ i := by
  rw [List.mem_filter]; simp
/-- the thing at slot i is frozen -/
theorem ER.frz {ρ : Dn.Env} {F : Addr → Prop} {σ : L2.St} {H : Hp} (E : ER c ρ F σ H) {i : Nat} (hP : c.P = []) (hm : i ∈ c.M) {d : D} (hd : slotD ρ i = some d) : ∃ F2, ER (c.wM (c.M.filter (· != i))) ρ F2 σ H := by
  obtain ⟨v, h1, ow⟩ := E.owns hm hd
  obtain ⟨a, rfl, nf, ho, oa⟩ := OwnR.iff.mp ow
  obtain ⟨a2, e2, hob, rd⟩ := ow.rd
  cases e2
  have h0 : c.H0 a = none := ho.elim (fun z => by rw [hP] at z; cases z) id
  have hρi : ρ[i]? = some (some d) := by
    unfold slotD at hd
    cases q : ρ[i]? with
    | none => rw [q] at hd; cases hd
    | some o => rw [q] at hd; cases o <;> cases hd; rfl
  refine ⟨fun b => F b ∨ b = a, {
    len := E.len
    same := E.same
    up := fun b h => .inl (E.up b h)
    new := fun b h => h.elim (E.new b) fun e => .inr (e ▸ h0)
    pin := E.pin
    there := fun b h => h.elim (E.there b) fun e => e ▸ hob
    self := fun b h => by rw [show (c.wM (c.M.filter (· != i))).P = [] from hP] at h; cases h
    apart := fun j k d e v hj hk => E.apart j k d e v (mem_wM.mp hj).1 (mem_wM.mp hk).1
    at_ := fun j e h => ?_ }⟩
  obtain ⟨w, h2, h3⟩ := E.at_ j e h
  refine ⟨w, h2, ?_⟩
  have gen : (if j ∈ c.M then OwnR c F H e w else RD c.G F H e w) → (if j ∈ c.M.filter (· != i) then OwnR (c.wM (c.M.filter (· != i))) (fun b => F b ∨ b = a) H e w else RD c.G (fun b => F b ∨ b = a) H e w) := fun h3 => by
    by_cases hji : j = i
    · subst hji
      rw [if_neg (fun z => (mem_wM.mp z).2 rfl)]
      rw [hρi] at h; cases h
      rw [h1] at h2; cases h2
      exact rd
    · by_cases hjm : j ∈ c.M
      · rw [if_pos hjm] at h3
        rw [if_pos (mem_wM.mpr ⟨hjm, hji⟩)]
        obtain ⟨b, e4, nb, hob, ob⟩ := OwnR.iff.mp h3
        subst e4
        refine OwnR.iff.mpr ⟨b, rfl, fun f => f.elim nb fun z => ?_, hob, ob.wide fun _ h => .inl h⟩
        subst z
        exact E.apart i j d e (.ref b) hm hjm (Ne.symm hji) hρi h h1 h2
      · rw [if_neg hjm] at h3
        rw [if_neg (fun z => hjm (mem_wM.mp z).1)]
        exact h3.grow (fun _ _ h => h) fun _ h => .inl h
  cases e with
  | exn n ds =>
    obtain ⟨n1, x, dx, vs, e1, e2, q, l, r⟩ := h3
    exact ⟨fun z => n1 (mem_wM.mp z).1, x, dx, vs, e1, e2, q, l, r.grow (fun _ _ h => h) fun _ h => .inl h⟩
  | _ => exact gen h3
theorem db_frz {i : Nat} (hP : c.P = []) (hm : c.M.contains i = true) (h0 : 0 ∈ c.M → 0 ∈ c.M.filter (· != i)) (h : DB X (c.wM (c.M.filter (· != i))) sts iss) : DB X c sts (.frz i :: iss) :=
  ⟨h.pss.of fun Z σ H ⟨ρ, F, E, p⟩ => by
    simp only [Dn.execs, Dn.exec] at p
    cases hd : slotD ρ i with
    | none => simp only [hd, O.seq_bad] at p; exact p.elim
    | some d =>
      simp only [hd, O.seq_nx] at p
      obtain ⟨F2, E2⟩ := E.frz hP (isM hm) hd
      exact ⟨ρ, F2, E2, p.wM h0⟩⟩
end

section
variable {P : Program} {w : World} {base : Heap} {x qual : Str} {params : Arguments} {body : List Stmt} {scope : Scope} {f : Addr} {fd : FuncData} {N ps : List Str} {k : Nat}
abbrev bodyX (P : Program) (w : World) (G : Gl) (base : Heap) (N : List Str) (qual : Str) (scope : Scope) (f : Addr) (cdv : Value) (A : Around) (outer : List PySem.Env) (s : Shared) (H : Hp) (E : XK) : Cx := cxOf (L2.CX P w) P w G.K G.mg base N qual scope f cdv A outer s H E
/-- what a def's body may lean on -/
structure Bd (X : Cx) (c : Cn) (k : Nat) : Prop where
  fit : Fit X c
  room : Room k X.A
  calm : X.calm = true
  pss : PassesOwn (model X.prog X.w) X.A X.env X.xe
abbrev cnP (G : Gl) (M : List Nat) (C : Calls) (fuel : Nat) (F : Addr → Prop) (H : Hp) (E : XK) : Cn := ⟨G, M, [], F, H, none, fun cls d _ H' => E cls d H', C, fuel⟩
abbrev cnI (G : Gl) (M : List Nat) (C : Calls) (fuel : Nat) (a : Addr) (F : Addr → Prop) (H : Hp) (E : XK) : Cn := ⟨G, M, [a], F, H, none, fun cls d _ H' => E cls d H', C, fuel⟩
theorem def_pure {G : Gl} {M : List Nat} {C : Calls} {fuel : Nat} {fn : Fn} {np : Nat} (ok : GOk G) (Fd : FunD G.K x qual params body scope [] [] f fd) (S : FnScope N ps scope) (hnp : ps.length = np) (hf : fn.np = np) (hns : fn.ns = N.length) (hle : np ≤ N.length) (hM : ∀ i ∈ M, np ≤ i)
    (hb : ∀ (cdv : Value) (A : Around) (outer : List PySem.Env) (s : Shared) (H : Hp) (E : XK) (F : Addr → Prop), Bd (bodyX P w G base N qual scope f cdv A outer s H E) (cnP G M C fuel F H E) k → DB (bodyX P w G base N qual scope f cdv A outer s H E) (cnP G M C fuel F H E) body fn.body) :
    FnOk P w G.K G.mg base (L2.CX P w) (k + 1) f fd ps (spP G (runP G.T C fuel fn) np) := by
  refine Fd.ok S (fun vs H Q E h => h.1.trans hnp.symm) fun cdv A outer s H vs Q E hr h => ?_
  obtain ⟨hl, ds, F, th, r, m⟩ := h
  let c : Cn := cnP G M C fuel F H E
  have fit : Fit (bodyX P w G base N qual scope f cdv A outer s H E) c := ⟨ok, rfl, rfl, by have := hr.un; exact (by
    show (A.deeper _).units + 100 < cLine
    omega), takes_of rfl rfl rfl rfl⟩
  have D := hb cdv A outer s H E F ⟨fit, hr, rfl, passes_of rfl⟩
  refine ⟨_, D.pss, ?_⟩
  have hdl : ds.length = np := by rw [r.length]; exact hl
  refine ⟨startE np N.length ds, F, ER.begin rfl rfl rfl hM hdl hle th r, ?_⟩
  unfold runP at m
  rw [if_pos (by rw [hf]; exact hdl), hf, hns] at m
  show PostB c (Dn.execs G.T C fuel fn.body (startE np N.length ds)) _
  cases q : Dn.execs G.T C fuel fn.body (startE np N.length ds) with
  | nx ρ => rw [q] at m; exact fun σ F' H' rt => m .non F' H' (rt.grow rfl rfl rfl) .non
  | rt d ρ => rw [q] at m; exact fun v σ F' H' rt rd => m v F' H' (rt.grow rfl rfl rfl) rd
  | ex n es ρ => rw [q] at m; exact fun dx us σ F' H' rt h l rs => m dx us F' H' (rt.grow rfl rfl rfl) h l rs
  | bk ρ => rw [q] at m; exact m.elim
  | ct ρ => rw [q] at m; exact m.elim
  | bad => rw [q] at m; exact m.elim

/-! a def that changes its first argument -/
theorem ER.beginI {c : Cn} {F : Addr → Prop} {H : Hp} {np : Nat} {d : D} {ds : List D} {vs : List V} {a : Addr} (hP : c.P = [a]) (hF : c.F0 = F) (hH : c.H0 = H) (h0 : 0 ∈ c.M) (hM : ∀ i ∈ c.M, i = 0 ∨ np ≤ i) (hd : ds.length + 1 = np) (hn : np ≤ N.length) (nf : ¬ F a) (th : ∀ a, F a → ∃ o, H a = some o) (oa : OwnAt c.G F H a d) (r : RDs c.G F H ds vs) :
    ER c (startE np N.length (d :: ds)) F (L2.start N (.ref a :: vs)) H where
  len := by
    unfold startE L2.start
    rw [List.length_append, List.length_append, List.length_map, List.length_map, List.length_replicate, List.length_replicate, List.length_cons, List.length_cons, ← r.length, hd]
  same := fun a o _ h => hH ▸ h
  up := fun a h => hF ▸ h
  new := fun a h => .inl (hF ▸ h)
  at_ := fun i e h => by
    have h1 := start_get h
    cases i with
    | zero =>
      simp only [List.getElem?_cons_zero, Option.some.injEq] at h1
      subst h1
      refine ⟨.ref a, startV_get rfl, ?_⟩
      have : if 0 ∈ c.M then OwnR c F H d (.ref a) else RD c.G F H d (.ref a) := by
        rw [if_pos h0]; exact OwnR.iff.mpr ⟨a, rfl, nf, .inl (by rw [hP]; simp), oa⟩
      cases d with
      | exn k xs => exact oa.elim
      | _ => exact this
    | succ i =>
      simp only [List.getElem?_cons_succ] at h1
      obtain ⟨v, h2, rd⟩ := r.get h1
      refine ⟨v, startV_get (by simpa using h2), ?_⟩
      have hm : i + 1 ∉ c.M := fun z => by
        rcases hM _ z with q | q
        · cases q
        · have := (List.getElem?_eq_some_iff.mp h1).1
          omega
      have : if i + 1 ∈ c.M then OwnR c F H e v else RD c.G F H e v := by rw [if_neg hm]; exact rd
      cases e with
      | exn k xs => exact rd.not_exn.elim
      | _ => exact this
  pin := fun b h => by
    rw [hP] at h
    cases List.mem_singleton.mp h
    cases d with
    | lst xs => exact ⟨_, oa.choose_spec.1⟩
    | ins k xs => exact ⟨_, oa.choose_spec.choose_spec.1⟩
    | _ => exact oa.elim
  there := th
  self := fun b h => by
    rw [hP] at h
    cases List.mem_singleton.mp h
    refine ⟨h0, fun v hv => ?_⟩
    have := start_of hv
    simp only [List.getElem?_cons_zero, Option.some.injEq] at this
    exact this.symm
  apart := fun i j e f v hi hj hne h1 h2 => by
    have h3 := (List.getElem?_eq_some_iff.mp (start_get h1)).1
    have h4 := (List.getElem?_eq_some_iff.mp (start_get h2)).1
    simp only [List.length_cons] at h3 h4
    rcases hM i hi with q | q <;> rcases hM j hj with q' | q' <;> omega
theorem ER.growI {c : Cn} {F F' : Addr → Prop} {H H' : Hp} {ρ : Dn.Env} {σ : L2.St} {a : Addr} {s : D} (E : ER c ρ F' σ H') (hP : c.P = [a]) (hF : c.F0 = F) (hH : c.H0 = H) (hs : slotD ρ 0 = some s) : GrowI a F H F' H' ∧ OwnAt c.G F' H' a s ∧ ¬ F' a := by
  have ha : a ∈ c.P := by rw [hP]; simp
  obtain ⟨h0, hv⟩ := E.self a ha
  obtain ⟨v, h1, ow⟩ := E.owns h0 hs
  have := hv v h1
  subst this
  obtain ⟨b, e, nf, _, oa⟩ := OwnR.iff.mp ow
  cases e
  exact ⟨⟨fun b o n h => E.same b o (by rw [hP]; simpa using n) (hH ▸ h), fun b h => E.up b (hF ▸ h), fun b h => by rw [← hF, ← hH]; exact E.new b h, fun b h => .inr (E.there b h)⟩, oa, nf⟩
theorem RtR.growI {c : Cn} {F F' : Addr → Prop} {H H' : Hp} {ρ : Dn.Env} {σ : L2.St} {a : Addr} {s : D} (r : RtR c ρ F' σ H') (hP : c.P = [a]) (hF : c.F0 = F) (hH : c.H0 = H) (hs : slotD ρ 0 = some s) : GrowI a F H F' H' ∧ OwnAt c.G F' H' a s := by
  obtain ⟨M', F1, _, E, h1, h2⟩ := r.ex
  obtain ⟨g, oa, nf⟩ := E.growI hP hF hH hs
  exact ⟨⟨g.same, fun b h => h1 b (g.up b h), fun b h => (h2 b h).elim (g.new b) fun ⟨_, z, _⟩ => .inr (hH ▸ z), fun b h => (h2 b h).elim (g.has b) fun ⟨_, _, z⟩ => .inr z⟩, oa.wide h1⟩
theorem def_io {G : Gl} {M : List Nat} {C : Calls} {fuel : Nat} {fn : Fn} {np : Nat} (ok : GOk G) (Fd : FunD G.K x qual params body scope [] [] f fd) (S : FnScope N ps scope) (hnp : ps.length = np) (hf : fn.np = np) (hns : fn.ns = N.length) (hle : np ≤ N.length) (h0 : 0 ∈ M) (hM : ∀ i ∈ M, i = 0 ∨ np ≤ i)
    (hb : ∀ (cdv : Value) (A : Around) (outer : List PySem.Env) (s : Shared) (H : Hp) (E : XK) (a : Addr) (F : Addr → Prop), Bd (bodyX P w G base N qual scope f cdv A outer s H E) (cnI G M C fuel a F H E) k → DB (bodyX P w G base N qual scope f cdv A outer s H E) (cnI G M C fuel a F H E) body fn.body) :
    FnOk P w G.K G.mg base (L2.CX P w) (k + 1) f fd ps (spI G (runI G.T C fuel fn) np) := by
  refine Fd.ok S (fun vs H Q E h => h.1.trans hnp.symm) fun cdv A outer s H vs Q E hr h => ?_
  obtain ⟨hl, a, ws, d, ds, F, rfl, nf, th, oa, r, m⟩ := h
  let c : Cn := cnI G M C fuel a F H E
  have fit : Fit (bodyX P w G base N qual scope f cdv A outer s H E) c := ⟨ok, rfl, rfl, by have := hr.un; exact (by
    show (A.deeper _).units + 100 < cLine
    omega), takes_of rfl rfl rfl rfl⟩
  have D := hb cdv A outer s H E a F ⟨fit, hr, rfl, passes_of rfl⟩
  refine ⟨_, D.pss, ?_⟩
  have hdl : (d :: ds).length = np := by simp only [List.length_cons] at hl ⊢; rw [r.length]; exact hl
  refine ⟨startE np N.length (d :: ds), F, ER.beginI rfl rfl rfl h0 hM (by simpa using hdl) hle nf th oa r, ?_⟩
  unfold Dn.runI at m
  rw [if_pos (by rw [hf]; exact hdl), hf, hns] at m
  show PostB c (Dn.execs G.T C fuel fn.body (startE np N.length (d :: ds))) _
  cases q : Dn.execs G.T C fuel fn.body (startE np N.length (d :: ds)) with
  | nx ρ =>
    simp only [q] at m
    cases hs : slotD ρ 0 with
    | none => simp only [hs] at m
    | some s =>
      simp only [hs] at m
      exact fun σ F' H' rt => let ⟨g, o⟩ := rt.growI rfl rfl rfl hs; m .non F' H' g o .non
  | rt d ρ =>
    simp only [q] at m
    cases hs : slotD ρ 0 with
    | none => simp only [hs] at m
    | some s =>
      simp only [hs] at m
      exact fun v σ F' H' rt rd => let ⟨g, o⟩ := rt.growI rfl rfl rfl hs; m v F' H' g o rd
  | ex n es ρ =>
    simp only [q] at m
    cases hs : slotD ρ 0 with
    | none => simp only [hs] at m
    | some s =>
      simp only [hs] at m
      exact fun dx us σ F' H' rt h l rs => let ⟨g, o⟩ := rt.growI rfl rfl rfl hs; m dx us F' H' g o h l rs
  | bk ρ => simp only [q] at m
  | ct ρ => simp only [q] at m
  | bad => simp only [q] at m
end
end Sd
set_option Elab.async false
set_option linter.all false
set_option autoImplicit false
set_option maxRecDepth 100000
set_option maxHeartbeats 4000000
/-! A class's constants, ==, raising, catching. -/
namespace Sd
open PySem L2 Dn PyProof.Rows
section
variable {X : Cx} {c : Cn} {F F' : Addr → Prop} {H H' : Hp} {ρ ρ' : Dn.Env} {σ : L2.St} {own : Md} {pos pos' p : Pos} {e a b : Expr} {ie ia ib : IE} {x f : Str} {es : List Expr} {ies : List IE}
theorem d_con {C : Addr} {mc u : Value} {i : Int} (hK : X.K = c.G.K) (hg : L2.Gl X x) (hm : X.mg x = some (.ref C)) (r : ClX.CRead X.K C mc) (k : ClX.CVal X.K C mc f (.int i) u) (hd : (x == ("__debug__" : Str)) = false := by decide)
    (hb : attributeBase (.Name x p) f X.env (PySem.eval (.Name x p) X.env) = PySem.eval (.Name x p) X.env := by rfl) : DE X c own (.Attribute (.Name x p) f pos) (.int i) :=
  DE.any ⟨(ClX.pe_cval (pe_glob (v := .ref C) hg hm rfl hd) hb).of fun σ H Q ⟨ρ, F, E, p⟩ => ⟨C, mc, .int i, u, rfl, r, k, p _ F H .refl (RD.int i)⟩⟩
/-- == of a class of one's own -/
structure EqoO (X : Cx) (C : Addr) (sp : Sp) : Prop where
  ex : ∃ k f fd ps, FnOk X.prog X.w X.K X.mg X.base (L2.CX X.prog X.w) k f fd ps sp ∧ Room k X.A ∧ PySem.W.findIn X.K (.ref C) "__eq__" = some (some (.ref f)) ∧ PySem.W.isFn X.K (.ref f) = true ∧ Binds X.K fd ps []
def rEqo (c : Cn) (k f : Nat) : R2 := fun x y H Q => ∃ F dx dy xs ys r, Rw c .st F H dx x ∧ Rw c .st F H dy y ∧ (∀ a, F a → ∃ o, H a = some o) ∧ dx = .ins k xs ∧ dy = .ins k ys ∧ c.C.pure f [dx, dy] = .ok (.bl r) ∧ ∀ F' H', Grow F H F' H' → Q (.bl r) H'
theorem op_eqo {k f : Nat} (fit : Fit X c) (co : EqoO X (c.G.C k) (spP c.G (c.C.pure f) 2)) : OpR X (compareOp .Eq) (rEqo c k f) := by
  intro pins s σ H x y v u Q I rx ry ⟨F, dx, dy, xs, ys, r, r1, r2, th, e1, e3, e2, q⟩
  subst e1
  subst e3
  obtain ⟨n, fa, fd, ps, Fo, hr, hs, hf, hb⟩ := co.ex
  obtain ⟨a, dxa, vs, rfl, h1, l, rs⟩ := r1.ins
  obtain ⟨a2, dxa2, vs2, rfl, h2, l2, rs2⟩ := r2.ins
  cases rx
  cases ry
  obtain ⟨mA, J, _⟩ := ins_get I.hok h1
  obtain ⟨mB, J2, _⟩ := ins_get I.hok h2
  obtain ⟨od, J, _⟩ := J.look
  obtain ⟨od2, J2, _⟩ := J2.look
  obtain ⟨m, hF⟩ := I.fr
  have hsp : spP c.G (c.C.pure f) 2 [.ref a, .ref a2] H (fun v H' => v = .bl r ∧ Q (.bl r) H') (fun _ _ _ => False) := by
    refine ⟨rfl, [.ins k xs, .ins k ys], F, th, .cons r1.strict (.cons r2.strict .nil), ?_⟩
    rw [e2]
    exact fun v F' H' g rv => by cases rv; exact ⟨rfl, q F' H' g⟩
  have both : Vals [V.ref a, V.ref a2] [Value.ref a, Value.ref a2] := .cons rfl (.cons rfl .nil)
  show wpAny (model X.prog X.w) X.A (richCompare .Eq (.ref a) (.ref a2)) (EP X pins σ Q) X.xe s
  refine PySem.W.cmp_K (op := .Eq) (tb := .ref (c.G.C k)) hr.units0 hF I.ok.mod.kin J J2.type (by simp [PySem.W.notFirst]) hs hf ?_
  have hl := Fo.len _ _ _ _ hsp
  refine wpAny_call (codeAny_mono (Fo.run X.A X.stack s H ⟨[.ref a, .ref a2], []⟩ [.ref a, .ref a2] [.ref a, .ref a2] _ _ hr I.env0 (by
    have := hb s [.ref a, .ref a2] I.kIn (by simpa using hl)
    simpa using this) both hsp) fun r s' hq => ?_)
  cases r with
  | error e =>
    obtain ⟨_, _, _, _, _, _, _, _, _, _, _, _, z⟩ := hq
    exact z.elim
  | ok fl =>
    cases fl with
    | ret w =>
      obtain ⟨z, H', I', rz, ez, ex⟩ := I.after hq
      subst ez
      cases rz
      exact ⟨.bl _, H', I', rfl, ex⟩
    | next => exact False.elim hq
    | brk => exact False.elim hq
    | cont => exact False.elim hq
theorem eqo_red (C : Calls) (k f : Nat) (x y : D) : eqoD C k f x y = .bad ∨ ∃ xs ys b, x = .ins k xs ∧ y = .ins k ys ∧ C.pure f [x, y] = .ok (.bl b) ∧ eqoD C k f x y = .ok (.bl b) := by
  generalize hr : eqoD C k f x y = r
  unfold eqoD at hr
  split at hr
  · split at hr
    · rename_i h
      obtain ⟨rfl, rfl⟩ := h
      split at hr
      · rename_i b hb
        exact .inr ⟨_, _, b, rfl, rfl, hb, hr.symm⟩
      · exact .inl hr.symm
    · exact .inl hr.symm
  · exact .inl hr.symm
theorem d_eqo {k f : Nat} (fit : Fit X c) (co : EqoO X (c.G.C k) (spP c.G (c.C.pure f) 2)) (ha : DE X c .st a ia) (hb : DE X c .st b ib) : DE X c own (.Compare a [.Eq] [b] pos) (.eqo k f ia ib) :=
  DE.any ⟨(pe_cmpR (op_eqo fit co) ha.pe hb.pe (nomark _)).of fun σ H Q ⟨ρ, F, E, p⟩ => E1 E p fun d1 v1 F1 H1 _ g1 E1' r1 p1 => E1 E1' p1 fun d2 v2 F2 H2 _ g2 E2' r2 p2 => by
    rcases eqo_red c.C k f d1 d2 with e | ⟨xs, ys, b, e1, e2, e3, e4⟩
    · rw [e] at p2; exact p2.elim
    · rw [e4] at p2
      exact ⟨F2, d1, d2, xs, ys, b, Rw.mono r1 g2, r2, E2'.there, e1, e2, e3, fun F' H' g => Post.bl (Post.mono p2 g)⟩⟩
theorem dt_eqo {k f : Nat} (fit : Fit X c) (co : EqoO X (c.G.C k) (spP c.G (c.C.pure f) 2)) (ha : DE X c .st a ia) (hb : DE X c .st b ib) : DT X c (.Compare a [.Eq] [b] pos) (.eqo k f ia ib) :=
  ⟨(pt_cmpR (op_eqo fit co) ha.pe hb.pe (nomark _)).of fun σ H Q ⟨ρ, F, E, p⟩ => T1 E p fun d1 v1 F1 H1 _ g1 E1' r1 p1 => T1 E1' p1 fun d2 v2 F2 H2 _ g2 E2' r2 p2 => by
    rcases eqo_red c.C k f d1 d2 with e | ⟨xs, ys, b, e1, e2, e3, e4⟩
    · rw [e] at p2; exact p2.elim
    · rw [e4] at p2
      exact ⟨F2, d1, d2, xs, ys, b, Rw.mono r1 g2, r2, E2'.there, e1, e2, e3, fun F' H' g => ⟨b, rfl, (PostT.mono p2 g).bl⟩⟩⟩

/-! ### raising -/
/-- a new exception of the own class at C with the one field f -/
structure ExO (X : Cx) (x : Str) (C : Addr) (f : Str) : Prop where
  mks : ∀ (e : Expr) (t : TA) (p pos : Pos), PA X [e] t → starEach [e] X.env = (false, PySem.eval e X.env) :: starEach [] X.env → PMk X (.Call (.Name x p) [e] [] pos) (fun σ H Q => t σ H fun vs H1 => ∃ y, vs = [y] ∧ ∀ d, H1 d = none → Q (.ref C) (some d) (upd H1 d (.xd [(f, y)])))
theorem ds_rse {k : Nat} (n : Nat) {x : Str} (fit : Fit X c) (hc : X.calm = true) (xo : ExO X x (c.G.C k) (c.G.F n)) (hf : c.G.T.flds k = [n]) (ha : DA X c .st [e] [ie]) (he : starEach [e] X.env = (false, PySem.eval e X.env) :: starEach [] X.env := by rfl) : DS X c (.Raise (some (.Call (.Name x p) [e] [] pos')) none pos) (.rse k [ie]) :=
  ⟨(ps_raise hc fit.tk (xo.mks e _ p pos' ha.pa he)).of fun Z σ H ⟨ρ, F, E, p⟩ => by
    simp only [Dn.exec] at p
    refine SA E p fun ds vs F1 H1 q g1 E1 r p1 => ?_
    cases r with
    | nil => have := evals_length _ _ q; cases this
    | @cons d v ds vs r rr =>
      cases rr with
      | cons _ _ => have := evals_length _ _ q; simp at this
      | nil =>
        refine ⟨v, rfl, fun dx hd => ?_⟩
        refine p1 dx [v] σ F1 _ (Grow.laid hd).keep (E1.mono (.laid hd)) ?_ (by rw [hf]; exact Nat.le_refl _) (.cons ((Rw.strict r).mono (.laid hd)) .nil)
        rw [upd_same]
        unfold Gl.names
        rw [hf]; rfl⟩

/-! ### catching -/
structure XOk (G : Gl) : Prop where
  xf : ∀ k, G.T.exc k = true → XfC G.K (G.C k)
  xc : ∀ k, G.T.exc k = true → ExcC G.K (G.C k)
  no : ∀ k n, G.T.exc k = true → n ∈ G.T.flds k → PySem.W.findIn G.K (.ref (G.C k)) (G.F n) = some none
  exm : ∀ k k', G.T.exc k = true → G.T.exc k' = true → PySem.W.exmOne G.K (.ref (G.C k)) (.ref (G.C k')) = some (G.T.subs k k')
  sub : ∀ k k', G.T.exc k = true → G.T.exc k' = true → PySem.W.kitOne G.K (.ref (G.C k)) (.ref (G.C k')) = some (G.T.subs k k')
  ve : ∀ k, G.T.exc k = true → PySem.W.kitOne G.K (.ref (G.C k)) (.type "ValueError") = some true
abbrev _root_.Sd.Cn.wW (c : Cn) (W : WX) : Cn := { c with W := W }
abbrev _root_.Sd.Cn.suite (c : Cn) (a dx : Addr) (k : Nat) : Cn := { c with xo := some (a, dx, k), W := fun _ _ _ _ => False }
theorem ER.wW {W : WX} (E : ER c ρ F σ H) : ER (c.wW W) ρ F σ H := ⟨E.len, E.same, E.up, E.new, E.at_, E.pin, E.there, E.self, E.apart⟩
theorem ER.ofW {W : WX} (E : ER (c.wW W) ρ F σ H) : ER c ρ F σ H := ⟨E.len, E.same, E.up, E.new, E.at_, E.pin, E.there, E.self, E.apart⟩
/-- no exception is held yet: no slot holds one -/
theorem slot_no {i : Nat} {d : D} {v : V} (hx : c.xo = none) (h : SlotR c F H i d v) : ∀ k ds, d ≠ .exn k ds := fun k ds e => by
  subst e
  obtain ⟨_, _, _, _, z, _⟩ := h
  rw [hx] at z; cases z
theorem ER.toS {a dx : Addr} {k : Nat} (hx : c.xo = none) (E : ER c ρ F σ H) {i : Nat} (hm : i ∉ c.M) {es : List D} {vs : List V} (hd : H dx = some (.xd ((c.G.names k es.length).zip vs))) (l : es.length ≤ (c.G.T.flds k).length) (r : RDs c.G F H es vs) :
    ER (c.suite a dx k) (ρ.set i (some (.exn k es))) F (σ.set i (some (.ref a))) H where
  len := by rw [List.length_set, List.length_set]; exact E.len
  same := E.same
  up := E.up
  new := E.new
  pin := E.pin
  there := E.there
  self := fun b hb => ⟨(E.self b hb).1, fun w hw => by
    have : i ≠ 0 := fun z => hm (z ▸ (E.self b hb).1)
    rw [List.getElem?_set_ne this] at hw
    exact (E.self b hb).2 w hw⟩
  at_ := fun j e h => by
    by_cases hj : i = j
    · subst hj
      have q := get_set h
      cases q
      exact ⟨.ref a, set_get E.len h, hm, a, dx, vs, rfl, rfl, hd, l, r⟩
    · rw [List.getElem?_set_ne hj] at h
      rw [List.getElem?_set_ne hj]
      obtain ⟨w, h1, h2⟩ := E.at_ j e h
      refine ⟨w, h1, ?_⟩
      have no := slot_no hx h2
      cases e with
      | exn n ds => exact absurd rfl (no n ds)
      | _ => exact h2
  apart := fun j n d e v hj hn hne h1 h2 h3 => by
    have e1 : i ≠ j := fun z => hm (z ▸ hj)
    have e2 : i ≠ n := fun z => hm (z ▸ hn)
    rw [List.getElem?_set_ne e1] at h1 h3
    rw [List.getElem?_set_ne e2] at h2 ⊢
    exact E.apart j n d e v hj hn hne h1 h2 h3
theorem noExn_at {ρ : Dn.Env} (h : noExn ρ = true) {j n : Nat} {ds : List D} : ρ[j]? ≠ some (some (.exn n ds)) := fun e => by
  unfold noExn at h
  have := List.all_eq_true.mp h _ (List.mem_of_getElem? e)
  cases this
theorem ER.ofS {a dx : Addr} {k i : Nat} (E : ER (c.suite a dx k) ρ F σ H) (only : noExn (ρ.set i none) = true) : ER c (ρ.set i none) F (σ.set i none) H := by
  have E1 := E.wipe1 i
  exact { len := E1.len, same := E1.same, up := E1.up, new := E1.new, pin := E1.pin, there := E1.there, self := E1.self, apart := E1.apart
          at_ := fun j e h => by
            obtain ⟨w, h1, h2⟩ := E1.at_ j e h
            refine ⟨w, h1, ?_⟩
            cases e with
            | exn n ds => exact absurd h (noExn_at only)
            | _ => exact h2 }
theorem ds_try {i kc : Nat} {n x : Str} {np p2 : Pos} {body suite : List Stmt} {b₀ : Stmt} {ib is : List IS} (hx : c.xo = none) (fit : Fit X c) (xk : XOk c.G) (hS : X.stack = X.env :: X.outer) (hfr : X.env.frame = some X.env.locals) (hN : X.N.Nodup) (hi : X.N[i]? = some n) (hln : X.env.kindOf n = some .local) (hc : Names X x (.ref (c.G.C kc))) (hm : c.M.contains i = false)
    (hb : ∀ (W : WX) (pn : List (Addr × Obj)) (xe : Value → Shared → Prop), Fit (X.tr pn xe) (c.wW W) → PassesOwn (model X.prog X.w) X.A X.env xe → DSs (X.tr pn xe) (c.wW W) body ib)
    (hsu : ∀ (k : Nat) (a : Addr) (oe : Obj) (dx : Addr) (pn : List (Addr × Obj)), c.G.T.exc k = true → Zc (.ref (c.G.C k)) (some dx) oe → (∃ vs, oe.data = .fields vs) → Fit (X.suite a ((a, oe) :: pn)) (c.suite a dx k) → DSs (X.suite a ((a, oe) :: pn)) (c.suite a dx k) (b₀ :: suite) is) :
    DS X c (.Try body [.ExceptHandler (some (.Name x np)) (some n) (b₀ :: suite) p2] [] [] pos) (.try_ ib (.cons kc (some i) is .nil)) := by
  refine ⟨(ps_try_as (X := X) (tb := fun W => tS (c.wW W) (Dn.execs c.G.T c.C c.N ib)) (ts := fun a cls d Z σ H => ∃ k dx, c.G.T.exc k = true ∧ cls = .ref (c.G.C k) ∧ d = some dx ∧ tS (c.suite a dx k) (Dn.execs c.G.T c.C c.N is) Z σ H)
    hS hfr hN hi hln hc fit.tk (fun W pn xe tk ps => (hb W pn xe ⟨fit.ok, fit.K, fit.mg, fit.un, tk⟩ ps).pss) ?_).of fun Z σ H ⟨ρ, F, E, p⟩ => ⟨ρ, F, E.wW, ?_⟩⟩
  · intro a oe cls d pn hz hv
    refine ⟨fun pins s σ H D I h => ?_⟩
    obtain ⟨k, dx, hk, rfl, rfl, h⟩ := h
    exact (hsu k a oe dx pn hk hz hv ⟨fit.ok, fit.K, fit.mg, fit.un, fun u s' ⟨_, _, _, _, _, _, _, _, _, _, _, _, _, _, _, _, z⟩ => z.elim⟩).pss.run pins s σ H D I h
  · simp only [Dn.exec] at p
    show PostS (c.wW _) (Dn.execs c.G.T c.C c.N ib ρ) F H Z
    cases q : Dn.execs c.G.T c.C c.N ib ρ with
    | nx ρ1 => rw [q] at p; exact fun σ' F' H' k E' => p σ' F' H' k E'.ofW
    | bk ρ1 => rw [q] at p; exact fun σ' F' H' k E' => p σ' F' H' k E'.ofW
    | ct ρ1 => rw [q] at p; exact fun σ' F' H' k E' => p σ' F' H' k E'.ofW
    | rt d ρ1 =>
      rw [q] at p
      exact fun v σ' F' H' r rd => p v σ' F' H' (by
        obtain ⟨M, F1, h0, E1, h1, h2⟩ := r.ex
        exact ⟨M, F1, h0, ER.ofW (c := c.wM M) E1, h1, h2⟩) rd
    | bad => rw [q] at p; exact p.elim
    | ex n ds ρ1 =>
      rw [q] at p
      simp only [Dn.catches] at p
      intro dx vs σ' F' H' k E' hd l rs
      have E' := E'.ofW
      split at p
      · exact p.elim
      · rename_i hh
        have hh : (c.G.T.exc n && c.G.T.exc kc) = true := by simpa using hh
        rw [Bool.and_eq_true] at hh
        refine ⟨c.G.T.subs n kc, fit.K ▸ xk.exm n kc hh.1 hh.2, fun hs a ha => ?_, fun hs => ?_⟩
        · rw [if_pos hs] at p
          refine ⟨n, dx, hh.1, rfl, rfl, ρ1.set i (some (.exn n ds)), F', ER.toS hx E' (notM hm) hd l rs, ?_⟩
          show PostS (c.suite a dx n) (Dn.execs c.G.T c.C c.N is (ρ1.set i (some (.exn n ds)))) F' H' _
          cases q2 : Dn.execs c.G.T c.C c.N is (ρ1.set i (some (.exn n ds))) with
          | nx ρ2 =>
            simp only [q2] at p
            split at p
            · rename_i ho
              exact fun σ2 F2 H2 k2 E2 => p _ F2 H2 (k.trans k2) (E2.ofS ho)
            · exact p.elim
          | rt d ρ2 =>
            simp only [q2] at p
            split at p
            · rename_i ho
              exact fun v σ2 F2 H2 r rd => p v (σ2.set i none) F2 H2 (by
                obtain ⟨M, F1, h0, E1, h1, h2⟩ := r.ex
                exact ⟨M, F1, h0, ER.ofS (c := c.wM M) E1 ho, h1, h2⟩) rd
            · exact p.elim
          | bk ρ2 => simp only [q2] at p; exact p.elim
          | ct ρ2 => simp only [q2] at p; exact p.elim
          | ex _ _ ρ2 => simp only [q2] at p; exact p.elim
          | bad => simp only [q2] at p; exact p.elim
        · rw [if_neg (by rw [hs]; decide)] at p
          exact p dx vs σ' F' H' k E' hd l rs
theorem CalO.tr {sp : Sp} {pn : List (Addr × Obj)} {xe : Value → Shared → Prop} (h : CalO X x sp) : CalO (X.tr pn xe) x sp := ⟨h.ex⟩
theorem Mths.tr {n np : Nat} {m : Str} {pn : List (Addr × Obj)} {xe : Value → Shared → Prop} {W : WX} (h : Mths X c n np m) : Mths (X.tr pn xe) (c.wW W) n np m := fun k f e => let ⟨a, b, d⟩ := h k f e; ⟨a, ⟨b.ex⟩, d⟩
theorem MthsI.tr {n np : Nat} {m : Str} {pn : List (Addr × Obj)} {xe : Value → Shared → Prop} {W : WX} (h : MthsI X c n np m) : MthsI (X.tr pn xe) (c.wW W) n np m := fun k f e => let ⟨a, b, d⟩ := h k f e; ⟨a, ⟨b.ex⟩, d⟩

/-! what is asked of the exception that is held -/
section
variable {a : Addr} {dx : Addr} {k : Nat} {oe : Obj} {pn : List (Addr × Obj)} {cl : Expr}
theorem slot_x {i n : Nat} {ds : List D} (E : ER (c.suite a dx k) ρ F σ H) (h : slotX ρ i = some (n, ds)) : n = k ∧ σ[i]? = some (some (.ref a)) ∧ ∃ vs, H dx = some (.xd ((c.G.names k ds.length).zip vs)) ∧ ds.length ≤ (c.G.T.flds k).length ∧ RDs c.G F H ds vs := by
  have hρ : ρ[i]? = some (some (.exn n ds)) := by
    unfold slotX at h
    split at h
    · rename_i q; cases h; exact q
    · cases h
  obtain ⟨v, h1, _, b, dy, vs, e1, rfl, h2, l, r⟩ := E.at_ i _ hρ
  cases e1
  exact ⟨rfl, h1, vs, h2, l, r⟩
theorem d_xatt {i n : Nat} {y f : Str} {own : Md} (fit : Fit X c) (xk : XOk c.G) (hk : c.G.T.exc k = true) (hz : Zc (.ref (c.G.C k)) (some dx) oe) (hv : ∃ vs, oe.data = .fields vs) (hF : c.G.F n = f) (hN : X.N[i]? = some y) (hvi : Vis X.env.scope y) (ho : own ≠ .fr := by decide) (hd : (y == ("__debug__" : Str)) = false := by decide) (hcd : (y == ("__classdict__" : Str)) = false := by decide)
    (hb : attributeBase (.Name y p) f X.env (PySem.eval (.Name y p) X.env) = PySem.eval (.Name y p) X.env := by rfl) :
    DE (X.suite a ((a, oe) :: pn)) (c.suite a dx k) own (.Attribute (.Name y p) f pos) (.xatt i n) := by
  refine DE.wk ⟨⟨fun pins s σ H Q I ⟨ρ, F, E, p⟩ => ?_⟩⟩ ho
  simp only [Dn.eval] at p
  cases hs : slotX ρ i with
  | none => simp only [hs] at p; exact p.elim
  | some q =>
    obtain ⟨m, ds⟩ := q
    simp only [hs] at p
    obtain ⟨rfl, h1, vs, h2, l, r⟩ := slot_x E hs
    rw [if_pos hk] at p
    split at p
    · rename_i z hz2
      have hlt : (c.G.T.flds m).idxOf n < ds.length := (List.getElem?_eq_some_iff.mp hz2).1
      have hn := idx_get (Nat.lt_of_lt_of_le hlt l)
      obtain ⟨w, hw, rw_⟩ := lookup_zip (names_nd fit.ok m ds.length) r (names_get hn hlt) hz2
      subst hF
      exact (pe_xf (fit.K ▸ xk.xf m hk) (fit.K ▸ xk.no m n hk (List.mem_of_getElem? hn)) hz hv (pe_var (X := X.suite a ((a, oe) :: pn)) hN hvi hd hcd) hb).run pins s σ H Q I
        ⟨.ref a, h1, rfl, rfl, dx, _, w, rfl, h2, hw, p w F H .refl (.inl rw_)⟩
    · exact p.elim
/-- isinstance(e, c) of the exception that is held, with its dict -/
theorem call_isX {cv : Value} {b : Bool} {D : Addr} {fs : List (Str × V)} {pins : List (Addr × Obj)} {s : Shared} {us : List Value} {Q : VK} (C : ExcC X.K D) (hz : Zc (.ref D) (some dx) oe) (hf : ∃ vs, oe.data = .fields vs) (hk : PySem.W.kitOne X.K (.ref D) cv = some b)
    (I : Inv (X.suite a ((a, oe) :: pn)) pins σ H s) (hd : H dx = some (.xd fs)) (r : us = [.ref a, cv]) (q : Q (.bl b) H) :
    wpAny (model X.prog X.w) (X.suite a ((a, oe) :: pn)).A (call (.builtin "isinstance") us) (EP (X.suite a ((a, oe) :: pn)) pins σ Q) (X.suite a ((a, oe) :: pn)).xe s := by
  subst r
  obtain ⟨there, _⟩ := I.pin (a, oe) (List.mem_append.mpr (.inl List.mem_cons_self))
  obtain ⟨vs, hv⟩ := hf
  obtain ⟨mA, hns, _⟩ := (show ObjOk X.prog X.w H s.heap dx (.xd fs) from I.hok dx _ hd)
  obtain ⟨od, hod, _⟩ := lookIn_ns hns
  have J : PySem.W.InstAt s.heap a oe D (some od) := by
    obtain ⟨oc, odd, oda, osl⟩ := oe
    obtain ⟨z1, z2⟩ := hz
    dsimp only at z1 z2 hv
    subst z1
    subst z2
    subst hv
    exact ⟨there, rfl, rfl, hod⟩
  have hcl : (PySem.W.clsIn X.K D).isSome = true := by
    obtain ⟨cd, hc, _⟩ := PySem.W.any_some C.hd
    rw [hc]; rfl
  exact PySem.W.kia_one (PySem.W.kitx_exc hcl C.hg C.hk C.hs C.ha C.hn C.ht C.hm) I.kIn J hk (fun z => nomatch z) fun tk => ⟨.bl b, H, I.kept (t' := tk) fun _ _ z => z, rfl, q⟩
theorem d_xisi {i : Nat} {y : Str} {own : Md} {p3 : Pos} (t : Ty) (fit : Fit X c) (xk : XOk c.G) (hk : c.G.T.exc k = true) (hz : Zc (.ref (c.G.C k)) (some dx) oe) (hv : ∃ vs, oe.data = .fields vs) (hN : X.N[i]? = some y) (hvi : Vis X.env.scope y) (hg : L2.Gl X "isinstance") (hm : X.mg "isinstance" = none) (hcl : PE (X.suite a ((a, oe) :: pn)) cl (tC (tyVal c.G t)))
    (hd : (y == ("__debug__" : Str)) = false := by decide) (hcd : (y == ("__classdict__" : Str)) = false := by decide)
    (he : starEach [.Name y p3, cl] X.env = (false, PySem.eval (.Name y p3) X.env) :: starEach [cl] X.env := by rfl) (he2 : starEach [cl] X.env = (false, PySem.eval cl X.env) :: starEach [] X.env := by rfl) (hpl : (backTo pos (starEach [cl] X.env)).any (·.1) = false := by rfl) :
    DE (X.suite a ((a, oe) :: pn)) (c.suite a dx k) own (.Call (.Name "isinstance" p) [.Name y p3, cl] [] pos) (.xisi i t) := by
  refine DE.any ⟨⟨fun pins s σ H Q I ⟨ρ, F, E, p⟩ => ?_⟩⟩
  simp only [Dn.eval] at p
  cases hs : slotX ρ i with
  | none => simp only [hs] at p; exact p.elim
  | some q =>
    obtain ⟨m, ds⟩ := q
    simp only [hs] at p
    obtain ⟨rfl, h1, vs, h2, l, r⟩ := slot_x E hs
    have fin : ∀ b, isTy c.G.T (.exn m ds) t = some b → PySem.W.kitOne X.K (.ref (c.G.C m)) (tyVl c.G t) = some b := fun b hb => by
      cases t <;> simp only [isTy] at hb <;> try (cases hb; done)
      · rw [if_pos hk] at hb; cases hb; exact fit.K ▸ xk.ve m hk
      · split at hb
        · rename_i hh
          rw [Bool.and_eq_true] at hh
          cases hb; exact fit.K ▸ xk.sub m _ hh.1 hh.2
        · cases hb
    cases hb : isTy c.G.T (.exn m ds) t with
    | none => simp only [hb] at p; exact p.elim
    | some b =>
      simp only [hb] at p
      have q : Q (.bl b) H := Post.bl p
      refine wpAny_Call_Name_kw (ld_blt (X := X.suite a ((a, oe) :: pn)) I hg hm (by rfl) ?_ (by decide) (by decide))
      refine PyProof.Rows.callWith_builtin1 (thn ((pa_cons (X := X.suite a ((a, oe) :: pn)) (pe_var (X := X.suite a ((a, oe) :: pn)) hN hvi hd hcd) (pa_cons hcl pa_nil he2) he).run pos pins s σ H (fun vs H' => vs = [.ref a, tyVal c.G t] ∧ H' = H) I ⟨.ref a, h1, rfl, rfl⟩) fun us s1 ⟨ws, H1, I1, rr, e1, e2⟩ => ?_) he hpl
      subst e1
      subst e2
      cases rr with
      | cons ra rr =>
        cases rr with
        | cons rb rr =>
          cases rr
          cases ra
          have eb := (ty_clsV c.G t).eq rb
          subst eb
          exact call_isX (fit.K ▸ xk.xc m hk) hz hv (fin b hb) I1 h2 rfl q
end
end
end Sd
set_option Elab.async false
set_option linter.all false
set_option autoImplicit false
set_option maxRecDepth 100000
set_option maxHeartbeats 2000000
/-! Sorting tuples, empty ones among them. -/
namespace Ss
open PySem PySem.W PySem.SeqAt PySem.Calls PyProof.Rows
section
variable {prog : Program} {w : World} {A : Around} {E : Value → Shared → Prop} {s : Shared}
theorem tup_lt {Q : Value → Shared → Prop} {l b : Addr} {items items2 : Array Value} {e r : Nat → Bool} (hl : s.heap.IsTuple l items) (hb : s.heap.IsTuple b items2)
    (he : ∀ j (h1 : j < items.size) (h2 : j < items2.size), EqAt A.in1 s items[j] items2[j] (e j)) (hr : ∀ j (h1 : j < items.size) (h2 : j < items2.size), e j = false → RcLt A.in1 s items[j] items2[j] (r j))
    (h : Q (.bool (firstLt e r (decide (items.size < items2.size)) (List.range (min items.size items2.size)))) s) : wpAny (model prog w) A (call (.builtin "tuple.__lt__") [.ref l, .ref b]) Q E s := by
  obtain ⟨⟨c1, d1, t1, z1⟩, o1, k1, n1, q1⟩ := hl
  obtain ⟨⟨c2, d2, t2, z2⟩, o2, k2, n2, q2⟩ := hb
  dsimp only at k1 q1 k2 q2
  subst k1; subst q1; subst k2; subst q2
  exact call_meets F.slot_tuple_lt ⟨_, o1, rfl⟩ F.entry_tuple_lt (F.args_tuple_lt_2 _ _) (tuple_ltAt l b items items2 n1 n2 d1 d2 z1 z2 e r) ⟨o1, o2, he, hr, h⟩
/-- one tuple against another, in either of the plain ways -/
theorem one_tup {f : Bool} {xs ys : List PyData} {a b : Value} {as bs : List Addr} {Q : Bool → Shared → Prop} (ra : Reads s.heap a (.tuple xs) as) (rb : Reads s.heap b (.tuple ys) bs) (h : alike (.tuple xs) (.tuple ys) = true)
    (hu : A.units + min (PyData.tuple xs).depth (PyData.tuple ys).depth < cLine) (hq : Q (dataLt (.tuple xs) (.tuple ys)) s) : wpAny (model prog w) A (oneLt' f a b) Q E s := by
  cases f with
  | false => exact oneLt_alike (fun z => nomatch z) ra rb h (fun z => nomatch z) hu hq
  | true =>
    have al : alikeAll xs ys = true := by simpa [alike] using h
    cases ra with
    | @tuple l o vs n _ _ a1 a2 a3 a4 =>
      cases rb with
      | @tuple l' o' vs' n' _ _ b1 b2 b3 b4 =>
        have m1 : vs.size = xs.length := by simpa using ReadsAll.length _ _ _ a4
        have m2 : vs'.size = ys.length := by simpa using ReadsAll.length _ _ _ b4
        rw [dataLt_tuple, ← firstLt_toks xs ys al, ← m1, ← m2] at hq
        rw [oneLt'_eq]
        simp only [if_true]
        refine wpAny_bind (wpAny_cRoomFor (room_here hu) (wpAny_bind (wpAny_callSpecialIfBound?_slot (T := "tuple") ⟨_, a1, a2⟩ F.slot_tuple_lt (tup_lt (e := pairEq xs ys) (r := fun j => dataLt (xs.getD j .none) (ys.getD j .none)) ⟨_, a1, a2, _, a3⟩ ⟨_, b1, b2, _, b3⟩ ?_ ?_ (wpAny_truthy_bool hq)))))
        · intro j j1 j2
          have q := eqAt_alikeAll xs ys A.in1 s vs.toList vs'.toList _ _ a4 b4 al (room_in hu) j (by simpa using j1) (by simpa using j2)
          simpa using q
        · intro j j1 j2 hj
          have q := rcLt_alikeAll xs ys A.in1 s vs.toList vs'.toList _ _ a4 b4 al (room_in hu) j (by simpa using j1) (by simpa using j2) hj
          simpa using q
/-- the first items, where there are such -/
theorem firsts_any : ∀ {vs : List Value} {ds : List PyData}, EachIs (fun v d => ∃ as, Reads s.heap v d as) vs ds → (∀ d ∈ ds, ∃ xs, d = .tuple xs) →
    ∃ fs : List (Option Value), fs.map (·.isSome) = ds.map (fun d => match d with | .tuple (_ :: _) => true | _ => false) ∧ ∀ (M : Model) (A : Around) (E : Value → Shared → Prop) (Q : List (Option Value) → Shared → Prop), Q fs s → wpAny M A (vs.mapM firstOfTuple') Q E s
  | _, _, .nil, _ => ⟨[], rfl, fun M A E Q h => by rw [List.mapM_nil]; exact wpAny_pure h⟩
  | _, _, .cons (b := d) ⟨as, r⟩ t, hd => by
    obtain ⟨fs, e1, e2⟩ := firsts_any t fun x hx => hd x (List.mem_cons_of_mem _ hx)
    obtain ⟨xs, rfl⟩ := hd d List.mem_cons_self
    cases r with
    | @tuple l o its n _ _ a1 a2 a3 a4 =>
      refine ⟨its[0]? :: fs, ?_, fun M A E Q h => ?_⟩
      · have m1 : its.size = xs.length := by simpa using ReadsAll.length _ _ _ a4
        simp only [List.map_cons, e1]
        congr 1
        cases xs with
        | nil => simp at m1; simp [m1]
        | cons x xs => simp only [List.length_cons] at m1; simp [m1]
      · rw [List.mapM_cons, kas_first_eq]
        refine wpAny_bind (wpAny_bind (wpAny_typeOf ⟨_, a1, a2⟩ ?_))
        rw [if_neg (by decide)]
        refine wpAny_bind ?_
        unfold Builtin.List.listItems
        refine wpAny_bind (wpAny_seqItems a1 a3 (wpAny_pure (wpAny_pure ?_)))
        exact wpAny_bind (e2 M A E _ (wpAny_pure h))
theorem map_same {T : Value} : ∀ (l : List Value) {M : Model} {Q : List Value → Shared → Prop}, (∀ v ∈ l, Looks M s.heap (typeOf v) T) → Q (l.map fun _ => T) s → wpAny M A (l.mapM typeOf) Q E s
  | [], _, _, _, h => by rw [List.mapM_nil]; exact wpAny_pure h
  | v :: l, _, _, hl, h => by
    rw [List.mapM_cons]
    exact wpAny_bind ((hl v List.mem_cons_self).here (wpAny_bind (map_same l (fun x hx => hl x (List.mem_cons_of_mem _ hx)) (wpAny_pure h))))
/-- the kind of the keys: tuples, one of them empty -/
theorem kind_mix {vs : List Value} {ds : List PyData} (e : EachIs (fun v d => ∃ as, Reads s.heap v d as) vs ds) (ht : ∀ d ∈ ds, ∃ xs, d = .tuple xs) (hm : ∃ d ∈ ds, d = .tuple []) :
    ∃ kd : SortKind, (kd = general' ∨ kd = oneType') ∧ ∀ (E : Value → Shared → Prop) {Q : SortKind → Shared → Prop}, Q kd s → wpAny (model prog w) A (keyKind' vs.toArray) Q E s := by
  obtain ⟨fs, e1, e2⟩ := firsts_any e ht
  have no : (fs.toArray.all (·.isSome)) = false := by
    rw [List.all_toArray]
    refine Bool.eq_false_iff.mpr fun q => ?_
    obtain ⟨d, hd, rfl⟩ := hm
    have m : false ∈ fs.map (·.isSome) := by
      rw [e1]; exact List.mem_map.mpr ⟨_, hd, rfl⟩
    obtain ⟨o, ho, hn⟩ := List.mem_map.mp m
    have := List.all_eq_true.mp q o ho
    rw [hn] at this; cases this
  cases hf : ((fs.toArray[0]?).bind id).isSome with
  | true =>
    refine ⟨general', .inl rfl, fun E Q hq => ?_⟩
    rw [keyKind'_eq, List.mapM_toArray, map_eq_pure_bind]
    refine wpAny_bind (wpAny_bind (e2 _ _ _ _ (wpAny_pure ?_)))
    rw [if_neg (by rw [no]; decide), if_pos hf]
    exact wpAny_pure hq
  | false =>
    refine ⟨oneType', .inr rfl, fun E Q hq => ?_⟩
    rw [keyKind'_eq, List.mapM_toArray, map_eq_pure_bind]
    refine wpAny_bind (wpAny_bind (e2 _ _ _ _ (wpAny_pure ?_)))
    rw [if_neg (by rw [no]; decide), if_neg (by rw [hf]; decide), oneTypeOnly'_eq, List.mapM_toArray, map_eq_pure_bind]
    refine wpAny_bind (wpAny_bind (wpAny_bind (map_same (T := .type "tuple") _ (fun v hv => ?_) (wpAny_pure ?_))))
    · obtain ⟨d, hd, as, r⟩ := e.left v hv
      obtain ⟨xs, rfl⟩ := ht d hd
      exact looks_reads r
    · cases vs with
      | nil =>
        cases e
        obtain ⟨d, hd, _⟩ := hm
        cases hd
      | cons v vs =>
        have hall : ((List.map (fun _ => Value.type "tuple") (v :: vs)).toArray.all fun x => x == Value.type "tuple") = true := by
          simp only [List.all_toArray, List.all_map, List.all_eq_true]
          intro _ _
          exact beq_self_eq_true _
        have h0 : (List.map (fun _ => Value.type "tuple") (v :: vs)).toArray[0]? = some (Value.type "tuple") := by simp
        rw [h0]
        simp only [hall, if_true]
        exact wpAny_pure (wpAny_pure hq)
theorem sorts_mix {vs : List Value} {ds : List PyData} (e : EachIs (fun v d => ∃ as, Reads s.heap v d as) vs ds) (hal : AllAlike ds) (ht : ∀ d ∈ ds, ∃ xs, d = .tuple xs) (hm : ∃ d ∈ ds, d = .tuple []) (hu : ∀ d, d ∈ ds → A.units + d.depth < cLine) : SortsAt prog w A s (dataKind s.heap ds) vs := by
  refine ⟨fun v hv => ?_, ?_⟩
  · obtain ⟨d, hd, as, r⟩ := e.left v hv
    exact ⟨_, dataKind_some hal hd r⟩
  · obtain ⟨kd, hk, hK⟩ := kind_mix (prog := prog) (w := w) (A := A) e ht hm
    refine ⟨kd, ?_, fun _ E Q hq => hK E hq⟩
    intro E x y a b Q ha hb hq
    obtain ⟨d, as, hd, ra, rfl⟩ := dataKind_inv ha
    obtain ⟨d', as', hd', rb, rfl⟩ := dataKind_inv hb
    obtain ⟨xs, rfl⟩ := ht d hd
    obtain ⟨ys, rfl⟩ := ht d' hd'
    have room : A.units + min (PyData.tuple xs).depth (PyData.tuple ys).depth < cLine := Nat.lt_of_le_of_lt (Nat.add_le_add_left (Nat.min_le_left _ _) _) (hu _ hd)
    rcases hk with rfl | rfl
    · exact one_tup (f := false) ra rb (hal _ hd _ hd') room hq
    · rw [keyLt'_oneType]
      exact one_tup ra rb (hal _ hd _ hd') room hq
/-- sorted(xs) of alike data, none of them None -/
theorem sorted_all {β : Type} {R : Value → β → Prop} {enc : β → PyData} {vs : List Value} {bs : List β} {l : Addr} {Q : Value → Shared → Prop} (hl : s.heap.IsList l vs.toArray) (e : EachIs R vs bs) (er : EachIs (fun v b => ∃ as, Reads s.heap v (enc b) as) vs bs) (hal : AllAlike (bs.map enc)) (hn : ∀ d ∈ bs.map enc, d ≠ .none)
    (hL : bs.length ≤ sizeLine) (hu : ∀ b, b ∈ bs → A.units + 2 + (enc b).depth < cLine) (h : ∀ out, out.length = bs.length → EachIs R out (bs.mergeSort (dataLe false enc)) → Q (.ref (s.heap.objs.size + 1)) { s with heap := sortedAll s.heap vs (List.toArray out) }) :
    wpAny (model prog w) A (call (.builtin "sorted") [.ref l]) Q E s := by
  by_cases ht : ∃ d ∈ bs.map enc, ∃ xs, d = .tuple xs
  · have all : ∀ d ∈ bs.map enc, ∃ xs, d = .tuple xs := fun d hd => by
      obtain ⟨d0, h0, xs, rfl⟩ := ht
      have := hal d hd _ h0
      cases d <;> simp [alike] at this
      exact ⟨_, rfl⟩
    by_cases hm : ∃ d ∈ bs.map enc, d = .tuple []
    · have er' : EachIs (fun v b => ∃ as, Reads (sortingHeap (copyHeap s.heap vs) (s.heap.objs.size + 1) vs) v (enc b) as) vs bs := er.mono fun _ _ ⟨as, r⟩ => ⟨as, PyProof.Rows.Reads.keeps (fun _ _ => sorting_copy_old) r⟩
      exact sorted_vals hl (sorts_mix (s := { s with heap := sortingHeap (copyHeap s.heap vs) (s.heap.objs.size + 1) vs }) (each_map (R := fun v d => ∃ as, Reads (sortingHeap (copyHeap s.heap vs) (s.heap.objs.size + 1) vs) v d as) enc er') hal all hm (bound_map hu)) (by rw [e.length]; exact hL)
        (h _ (by rw [sortVals_length false rfl]; exact e.length) (sortVals_data false e er' hal))
    · refine sorted_data hl e er hal (.inl fun d hd => ?_) hL hu h
      obtain ⟨xs, rfl⟩ := all d hd
      cases xs with
      | nil => exact absurd ⟨_, hd, rfl⟩ hm
      | cons x xs => exact ⟨x, xs, rfl⟩
  · exact sorted_data hl e er hal (.inr fun d hd => ⟨hn d hd, fun xs ex => ht ⟨d, hd, xs, ex⟩⟩) hL hu h
end
end Ss
set_option Elab.async false
set_option linter.all false
set_option autoImplicit false
set_option maxRecDepth 100000
set_option maxHeartbeats 4000000
/-! sorted(..). -/
namespace Sd
open PySem L2 Dn PyProof.Rows
theorem pys_map : ∀ xs : List D, pys xs = xs.map py
  | [] => by rw [pys]; rfl
  | x :: xs => by rw [pys, pys_map xs]; rfl
theorem ltOk_parts {a b : D} (h : ltOk a b = true) : eqOk a = true ∧ eqOk b = true ∧ PySem.W.alike (py a) (py b) = true ∧ py a ≠ .none := by
  unfold ltOk at h
  rw [Bool.and_eq_true, Bool.and_eq_true, Bool.and_eq_true] at h
  obtain ⟨⟨⟨h1, h2⟩, h3⟩, h4⟩ := h
  refine ⟨h1, h2, h3, ?_⟩
  cases a <;> simp [py] at h4 ⊢
theorem allAlike_at {xs : List D} (h : allAlike xs = true) {a b : D} (ha : a ∈ xs) (hb : b ∈ xs) : ltOk a b = true :=
  List.all_eq_true.mp (List.all_eq_true.mp h a ha) b hb
theorem leD_eq : leD = PySem.W.dataLe false py := by
  rw [PySem.W.dataLe_eq]
  rfl
section
variable {G : Gl} {F : Addr → Prop} {H : Hp}
theorem each_of : ∀ {ds : List D} {vs : List V} {us : List Value}, RDs G F H ds vs → Vals vs us → PySem.W.EachIs (fun u d => ∃ v, RelV v u ∧ RD G F H d v) us ds
  | _, _, _, .nil, .nil => .nil
  | _, _, _, .cons r rs, .cons q qs => .cons ⟨_, q, r⟩ (each_of rs qs)
theorem of_each : ∀ {ds : List D} {us : List Value}, PySem.W.EachIs (fun u d => ∃ v, RelV v u ∧ RD G F H d v) us ds → ∃ vs, RDs G F H ds vs ∧ Vals vs us
  | _, _, .nil => ⟨[], .nil, .nil⟩
  | _, _, .cons ⟨v, q, r⟩ t => let ⟨vs, rs, qs⟩ := of_each t; ⟨v :: vs, .cons r rs, .cons q qs⟩
end
section
variable {X : Cx} {c : Cn} {pos p : Pos} {own : Md} {e : Expr} {es : List Expr} {ies : List IE}
def rSort (c : Cn) : List V → Hp → VK → Prop := fun vs H Q => ∃ F d v, vs = [v] ∧ Cl c F H ∧ Rw c .rd F H d v ∧ PostV c .fr (built .sorted [d]) F H Q
theorem cr_sort (fit : Fit X c) : CallR X (.builtin "sorted") (rSort c) := by
  intro pins s σ H vs us Q I r ⟨F, d, v, ev, cl, rd, p⟩
  subst ev
  simp only [built] at p
  split at p
  · rename_i xs hx
    obtain ⟨a, ws, rfl, rs, sq⟩ := rd.listed hx
    split at p
    · rename_i hh
      rw [Bool.and_eq_true] at hh
      have hal := hh.1
      have hlen : xs.length ≤ 16000000 := of_decide_eq_true hh.2
      obtain ⟨its, rv, hl, hz⟩ := I.list (fit.K ▸ sq)
      rw [Vals.ref1 r]
      have ez := each_of rs rv
      have lim := fit.un
      refine Ss.sorted_all (enc := py) (R := fun u d => ∃ v, RelV v u ∧ RD c.G F H d v) hl.isList ez ?_ ?_ ?_ (sizeLine_ge hlen) (fun b hb => ?_) fun out h1 h2 => ?_
      · refine (PySem.W.each_mem ez).mono fun u d ⟨⟨v, q, r⟩, hd⟩ => ?_
        exact Dp.reads I (py d) v u (fit.K ▸ r.dp (eqOk_shaped (ltOk_parts (allAlike_at hal hd hd)).1).1) q
      · intro x hx y hy
        obtain ⟨d1, m1, rfl⟩ := List.mem_map.mp hx
        obtain ⟨d2, m2, rfl⟩ := List.mem_map.mp hy
        exact (ltOk_parts (allAlike_at hal m1 m2)).2.2.1
      · intro x hx
        obtain ⟨d1, m1, rfl⟩ := List.mem_map.mp hx
        exact (ltOk_parts (allAlike_at hal m1 m1)).2.2.2
      · have := (eqOk_shaped (ltOk_parts (allAlike_at hal hb hb)).1).2.2
        omega
      · obtain ⟨vs2, rs2, q2⟩ := of_each h2
        obtain ⟨ep, he'⟩ := sortedAll_at s.heap its out.toArray
        have hl2 : vs2.length ≤ sizeLine := by
          rw [q2.length, h1]; exact sizeLine_ge hlen
        have hn : H (s.heap.objs.size + 1) = none := I.hok.fresh (Nat.le_succ _)
        refine ⟨.ref (s.heap.objs.size + 1), upd H (s.heap.objs.size + 1) (.lst vs2), I.laid (t' := s.toks) (fun _ _ => sortedAll_old) (Nat.le_succ _) ⟨hl2, out, ep, q2, he'⟩, rfl, ?_⟩
        rw [leD_eq] at p
        exact p.lst cl rs2 hn
    · exact p.elim
  · exact p.elim
theorem d_sorted (fit : Fit X c) (hg : L2.Gl X "sorted") (hc : X.calm = true) (hm : X.mg "sorted" = none) (ha : DA X c .rd (e :: es) ies)
    (he : starEach (e :: es) X.env = (false, PySem.eval e X.env) :: starEach es X.env := by rfl) (hpl : (backTo pos (starEach es X.env)).any (·.1) = false := by rfl) :
    DE X c own (.Call (.Name "sorted" p) (e :: es) [] pos) (.bi .sorted ies) :=
  DE.any ⟨(pe_callB (cr_sort fit) hg hm (by rfl) ha.pa (by decide) (by decide) he hpl).of fun σ H Q ⟨ρ, F, E, p⟩ => EA E p fun ds vs F1 H1 q g1 E1' r1 p1 => by
    obtain ⟨d, v, rfl, rfl, r, p2⟩ := bi1 rfl (fun d _ _ => by cases d <;> rfl) r1 p1
    exact ⟨F1, d, v, rfl, E1'.cl, r, p2⟩⟩
end
end Sd
set_option Elab.async false
set_option linter.all false
set_option autoImplicit false
set_option maxRecDepth 100000
set_option maxHeartbeats 2000000
/-! Sets whose elements are of any kind of key that asks nothing of the text: the kind says what the table needs. -/
namespace Sn
open PySem PySem.Spec L2 PyProof.Rows
/-- a kind of set elements -/
structure Kd (P : Program) (w : World) (α : Type) where
  is : Heap → α → Value → Prop
  hash : α → Int
  draw : α → Nat
  keep : ∀ {h h' : Heap} {k : α} {v : Value}, is h k v → (∀ b o m n, h.get? b = some o → o.data = .seq m n → h'.get? b = some o) → is h' k v
  one : ∀ {h : Heap} {k k' : α} {v : Value}, is h k v → is h k' v → k = k'
  ref : ∀ {h : Heap} {k : α} {v : Value}, is h k v → ∃ b, v = .ref b
  hsh : ∀ {A : Around} {E : Value → Shared → Prop} {s : Shared} {k : α} {v : Value} {Q : Int → Shared → Prop}, A.units + 9 < cLine → is s.heap k v → Q (hash k) { s with toks := s.toks + draw k } → wpAny (model P w) A (pyHash v) Q E s
  eqb : ∀ {A : Around} {E : Value → Shared → Prop} {s : Shared} {k k' : α} {u v : Value} {Q : Bool → Shared → Prop}, A.units + 9 < cLine → is s.heap k u → is s.heap k' v → (∀ b : Bool, (b = true ↔ k = k') → Q b s) → wpAny (model P w) A (eqBool u v) Q E s
  calm : ∀ {A : Around} {E : Value → Shared → Prop} {s : Shared} {k : α} {v : Value} {Q : Bool → Shared → Prop}, is s.heap k v → Q true s → wpAny (model P w) A (eqIsQuiet 8 v) Q E s
  ofA : ∀ {A : Around} {E : Value → Shared → Prop} {s : Shared} {k : α} {v : Value} {Q : Bool → Shared → Prop}, is s.heap k v → Q false s → wpAny (model P w) A (ofAClassStatement 8 v) Q E s
  byV : ∀ {A : Around} {E : Value → Shared → Prop} {s : Shared} {k : α} {v : Value} {Q : Bool → Shared → Prop}, is s.heap k v → Q true s → wpAny (model P w) A (hashByValue 8 v) Q E s

/-! ### nested tuples of numbers -/
mutual
def plainK : NestedKey → Bool
  | .text _ => false
  | .tup ks => plainKs ks
  | _ => true
def plainKs : List NestedKey → Bool
  | [] => true
  | k :: ks => plainK k && plainKs ks
end

section
variable {P : Program} {w : World}
/-- a question of a value, that goes into tuples and shows nothing -/
abbrev Ask (P : Program) (w : World) (f : Value → Sem Bool) (r : Bool) (s : Shared) (v : Value) : Prop := ∀ (A : Around) (E : Value → Shared → Prop) (Q : Bool → Shared → Prop), Q r s → wpAny (model P w) A (f v) Q E s
/-- .. asked of each in turn -/
theorem ask_all {s : Shared} {A : Around} {E : Value → Shared → Prop} (vs : Array Value) (body : Value → (Option Bool × Unit) → Sem (ForInStep (Option Bool × Unit)))
    (hb : ∀ v ∈ vs.toList, ∀ (Q : ForInStep (Option Bool × Unit) → Shared → Prop), Q (.yield (none, ())) s → wpAny (model P w) A (body v (none, ())) Q E s) (R : (Option Bool × Unit) → Shared → Prop) (h : R (none, ()) s) :
    wpAny (model P w) A (forIn vs ((none, ()) : (Option Bool × Unit)) body) R E s := by
  rw [← Array.forIn_toList]
  generalize hl : vs.toList = l at hb
  clear hl
  induction l with
  | nil => exact wpAny_pure h
  | cons v l ih =>
    rw [List.forIn_cons]
    exact wpAny_bind (hb v List.mem_cons_self _ (ih fun u hu => hb u (List.mem_cons_of_mem _ hu)))


mutual
theorem ask_cls : ∀ (k : NestedKey) (v : Value) (n : Nat) (s : Shared), NestedIs s.heap k v → k.depth ≤ n → Ask P w (ofAClassStatement n) false s v
  | .none, _, n, s, x, _ => by cases x; cases n <;> exact fun A E Q h => wpAny_pure h
  | .num _, _, n, s, x, _ => by cases x <;> cases n <;> exact fun A E Q h => wpAny_pure h
  | .text _, _, n, s, x, _ => by cases x; cases n <;> exact fun A E Q h => wpAny_pure h
  | .tup ks, _, n, s, x, hn => by
    cases x with
    | @tup a o its m _ g1 g2 g3 g4 =>
      simp only [NestedKey.depth] at hn
      obtain ⟨n, rfl⟩ : ∃ n', n = n' + 1 := ⟨n - 1, by omega⟩
      intro A E Q h
      unfold ofAClassStatement
      refine wpAny_bind (wpAny_typeOf ⟨o, g1, g2⟩ ?_)
      dsimp only
      rw [if_pos (by decide)]
      refine wpAny_bind (wpAny_pure ?_)
      rw [if_neg (by decide)]
      refine wpAny_bind (wpAny_seqItems g1 g3 (wpAny_bind ?_))
      refine ask_all its _ (fun v hv Q hq => ?_) _ (wpAny_pure h)
      refine wpAny_bind (ask_clss ks _ n s g4 (by omega) v hv A _ _ ?_)
      rw [if_neg (by decide)]
      exact wpAny_pure hq
theorem ask_clss : ∀ (ks : List NestedKey) (vs : List Value) (n : Nat) (s : Shared), NestedAll s.heap ks vs → NestedKey.depthAll ks ≤ n → ∀ v ∈ vs, Ask P w (ofAClassStatement n) false s v
  | [], _, _, _, x, _, v, hv => by cases x; cases hv
  | k :: ks, _, n, s, x, hn, v, hv => by
    cases x with
    | cons x1 x2 =>
      simp only [NestedKey.depthAll] at hn
      cases hv with
      | head => exact ask_cls k _ n s x1 (by omega)
      | tail _ hv => exact ask_clss ks _ n s x2 (by omega) v hv
end
mutual
theorem ask_val : ∀ (k : NestedKey) (v : Value) (n : Nat) (s : Shared), NestedIs s.heap k v → k.depth ≤ n → plainK k = true → Ask P w (hashByValue n) true s v
  | .none, _, n, s, x, _, _ => by cases x; cases n <;> exact fun A E Q h => wpAny_pure h
  | .num _, _, n, s, x, _, _ => by cases x <;> cases n <;> exact fun A E Q h => wpAny_pure h
  | .text _, _, n, s, x, _, hp => by simp [plainK] at hp
  | .tup ks, _, n, s, x, hn, hp => by
    cases x with
    | @tup a o its m _ g1 g2 g3 g4 =>
      simp only [NestedKey.depth] at hn
      obtain ⟨n, rfl⟩ : ∃ n', n = n' + 1 := ⟨n - 1, by omega⟩
      rw [plainK] at hp
      intro A E Q h
      unfold hashByValue
      refine wpAny_bind (wpAny_specialOf ⟨o, g1, g2⟩ F.slot_tuple_hash.lookup ?_)
      refine wpAny_bind (wpAny_seqItems g1 g3 (wpAny_bind ?_))
      refine ask_all its _ (fun v hv Q hq => ?_) _ (wpAny_pure h)
      refine wpAny_bind (ask_vals ks _ n s g4 (by omega) hp v hv A _ _ ?_)
      rw [if_neg (by decide)]
      exact wpAny_pure hq
theorem ask_vals : ∀ (ks : List NestedKey) (vs : List Value) (n : Nat) (s : Shared), NestedAll s.heap ks vs → NestedKey.depthAll ks ≤ n → plainKs ks = true → ∀ v ∈ vs, Ask P w (hashByValue n) true s v
  | [], _, _, _, x, _, _, v, hv => by cases x; cases hv
  | k :: ks, _, n, s, x, hn, hp, v, hv => by
    rw [plainKs, Bool.and_eq_true] at hp
    cases x with
    | cons x1 x2 =>
      simp only [NestedKey.depthAll] at hn
      cases hv with
      | head => exact ask_val k _ n s x1 (by omega) hp.1
      | tail _ hv => exact ask_vals ks _ n s x2 (by omega) hp.2 v hv
end
/-- nested tuples of numbers (and None) as elements of a set -/
def nums (P : Program) (w : World) : Kd P w NestedKey where
  is := fun h k v => NestedIs h k v ∧ k.depth ≤ 8 ∧ plainK k = true ∧ ∃ b, v = .ref b
  hash := fun k => k.hash w
  draw := fun k => k.draws
  keep := fun x hk => ⟨NestedIs.at hk _ _ x.1, x.2⟩
  one := fun x y => NestedIs.inj _ _ _ x.1 y.1
  ref := fun x => x.2.2.2
  hsh := fun hu x h => pyHash_key _ _ _ _ _ x.1 (by have := x.2.1; omega) h
  eqb := fun {A E s k k' u v Q} hu x y h => eqAt_key k k' A s _ _ x.1 y.1 (by have := x.2.1; omega) _ _ _ _ (h _ (by rw [← NestedKey.decide_eq, decide_eq_true_eq]))
  calm := fun {A E s k v Q} x h => quiet_key _ _ 8 s x.1 x.2.1 A E Q h
  ofA := fun {A E s k v Q} x h => ask_cls _ _ 8 s x.1 x.2.1 A E Q h
  byV := fun {A E s k v Q} x h => ask_val _ _ 8 s x.1 x.2.1 x.2.2.1 A E Q h
end
end Sn
set_option Elab.async false
set_option linter.all false
set_option autoImplicit false
set_option maxRecDepth 100000
set_option maxHeartbeats 4000000
/-! A set of elements of a kind: searching. -/
namespace Sn
open PySem PySem.Spec L2 PyProof.Rows
section
variable {P : Program} {w : World} {α : Type} (I : Kd P w α)
abbrev hsOf (L : List (Value × α)) : List Int := L.map fun q => I.hash q.2
abbrev rwOf (L : List (Value × α)) : List (Int × Value) := L.map fun q => (I.hash q.2, q.1)
/-- the set at a holds the elements L, in the order of its table -/
structure Has (h : Heap) (a : Addr) (L : List (Value × α)) (es : Array (Int × Value)) (ep : Nat) (t : SetTable) : Prop where
  obj : ∃ o, h.get? a = some o ∧ o.ExactSet ∧ o.data = .set es ep t
  row : es.toList = rwOf I L
  tab : TabOk t (hsOf I L)
  dis : (L.map (·.2)).Nodup
  ele : ∀ q ∈ L, I.is h q.2 q.1
  pln : t.plain = true
  ldd : w.params.followText "set-order" = true ∨ t.led = true
  gap : L.length * 5 < t.mask * 3
  few : L.length < 64
/-- the probe after c steps -/
abbrev prb (t : SetTable) (h : Int) (c : Nat) : SetTable.Probe := nth t.mask (runAt t.mask (SetTable.bits h % (t.mask + 1)) (SetTable.bits h)) c
theorem prb_way (t : SetTable) (h : Int) (c : Nat) : (prb t h c).j = way t.mask h c := rfl
theorem prb_on (t : SetTable) (h : Int) (c d : Nat) : nth t.mask (prb t h c) d = prb t h (c + d) := (nth_add t.mask c _ d).symm
theorem adv_dm (m : Nat) (p : SetTable.Probe) (h : p.dummy = none) : (adv m p).dummy = none := by
  unfold adv
  split <;> exact h
theorem nth_dm (m : Nat) : ∀ (n : Nat) (p : SetTable.Probe), p.dummy = none → (nth m p n).dummy = none
  | 0, _, h => h
  | n + 1, p, h => nth_dm m n _ (adv_dm m p h)
variable {I} {A : Around} {E : Value → Shared → Prop} {s : Shared} {a : Addr} {L : List (Value × α)} {es : Array (Int × Value)} {ep : Nat} {t : SetTable}
theorem row_len (h : es.toList = rwOf I L) : es.size = L.length := by
  rw [← Array.length_toList, h, List.length_map]
theorem row_at (h : es.toList = rwOf I L) {i : Nat} {q : Value × α} (hi : L[i]? = some q) : es[i]? = some (I.hash q.2, q.1) := by
  rw [← Array.getElem?_toList, h, List.getElem?_map, hi]
  rfl
theorem Has.plc (R : Has I s.heap a L es ep t) : t.place.toList.length = L.length := by
  rw [Array.length_toList, R.tab.sz, List.length_map]
theorem fits_of (h1 : t.place.size = es.size) (h2 : t.dummies = #[]) (h3 : es.size ≤ t.mask) : t.fits es.size = true := by
  unfold SetTable.fits SetTable.fill
  rw [h2, Bool.and_eq_true, beq_iff_eq, decide_eq_true_eq]
  exact ⟨h1, by show _ + 0 ≤ _; omega⟩
theorem Has.fits (R : Has I s.heap a L es ep t) : t.fits es.size = true := by
  have h1 := R.plc
  have h2 := row_len R.row
  have h3 := R.gap
  rw [Array.length_toList] at h1
  exact fits_of (by omega) R.tab.dm (by omega)
theorem no_way_out (R : Has I s.heap a L es ep t) : t.gaveWay = false := by
  unfold SetTable.gaveWay
  rw [mask_odd R.tab.mok]
  decide
/-- what a search shows of its candidates -/
theorem shows_none {k : α} {x : Value} (hx : I.is s.heap k x) : ∀ (ys : List Value) {Q : Bool → Shared → Prop}, (∀ y ∈ ys, ∃ k', I.is s.heap k' y) → Q false s → wpAny (model P w) A (searchCouldBeSeen x ys) Q E s := by
  intro ys Q hy h
  unfold searchCouldBeSeen
  refine wpAny_bind (Q := _) ?_
  suffices ∀ (R : Option Bool × Unit → Shared → Prop), R (none, ()) s → wpAny (model P w) A (forIn ys ((none, ()) : Option Bool × Unit) _) R E s from this _ (wpAny_pure h)
  induction ys with
  | nil => exact fun R hR => wpAny_pure hR
  | cons y ys ih =>
    intro R hR
    obtain ⟨k', h'⟩ := hy y List.mem_cons_self
    have more := ih (fun u hu => hy u (List.mem_cons_of_mem _ hu)) R hR
    obtain ⟨b0, rfl⟩ := I.ref hx
    obtain ⟨b1, rfl⟩ := I.ref h'
    rw [List.forIn_cons]
    refine wpAny_bind ?_
    dsimp only
    by_cases hc : (b0 == b1 || carriedByValue (.ref b0) && carriedByValue (.ref b1)) = true
    · rw [if_pos hc]
      exact wpAny_pure more
    · rw [if_neg hc]
      refine wpAny_bind (I.calm hx ?_)
      rw [if_neg (by decide)]
      refine wpAny_bind (I.calm h' ?_)
      rw [if_neg (by decide)]
      refine wpAny_bind (I.ofA hx ?_)
      rw [if_neg (by decide)]
      refine wpAny_bind (I.ofA h' ?_)
      rw [if_neg (by decide)]
      exact wpAny_pure more
end
end Sn
set_option Elab.async false
set_option linter.all false
set_option autoImplicit false
set_option maxRecDepth 100000
set_option maxHeartbeats 4000000
/-! .. the search itself. -/
namespace Sn
open PySem PySem.Spec L2 PyProof.Rows
section
variable {P : Program} {w : World} {α : Type} {I : Kd P w α} {A : Around} {E : Value → Shared → Prop} {s : Shared} {a : Addr} {L : List (Value × α)} {es : Array (Int × Value)} {ep : Nat} {t : SetTable}
/-- one candidate, asked -/
theorem ask_one (R : Has I s.heap a L es ep t) {k : α} {x : Value} (hx : I.is s.heap k x) (hu : A.units + 9 < cLine) {i j f : Nat} {nx : SetTable.Probe} {q : Value × α} (hq : L[i]? = some q) (hj : t.place.toList[i]? = some j) {Q : SetFound → Shared → Prop}
    (yes : q.2 = k → Q (.there none) s) (no : q.2 ≠ k → wpAny (model P w) A (setSearchFrom a x (I.hash k) true f (some nx)) Q E s) :
    wpAny (model P w) A (searchRest a x (I.hash k) true f es t j i nx) Q E s := by
  obtain ⟨o, ho, -, hd⟩ := R.obj
  have hy := R.ele q (List.mem_of_getElem? hq)
  have hrow := row_at R.row hq
  obtain ⟨b, hb⟩ := I.ref hy
  have hlive : t.slot j = .live i := slot_live R.tab.ris hj
  unfold searchRest
  rw [hrow]
  dsimp only
  refine wpAny_bind (wpAny_holding (I.eqb hu hy hx fun r hr => ?_))
  refine wpAny_bind (wpAny_setState_of ho hd R.fits ?_)
  dsimp only
  cases r with
  | true => exact wpAny_pure (yes (hr.mp rfl))
  | false =>
    have ne : q.2 ≠ k := fun z => nomatch hr.mpr z
    rw [if_neg (by decide), sameMem]
    dsimp only
    simp only [if_true, hlive, hrow]
    rw [hb]
    refine wpAny_bind (wpAny_isSame_ref_self (wpAny_bind (wpAny_pure ?_)))
    simp only [if_true]
    rw [if_neg (by decide)]
    exact no ne
theorem hunt (R : Has I s.heap a L es ep t) {k : α} {x : Value} (hx : I.is s.heap k x) (hu : A.units + 9 < cLine) {K : Nat} (lim : K < 10 * SetTable.turns t.mask)
    (free : way t.mask (I.hash k) K ∉ t.place.toList) (full : ∀ c, c < K → way t.mask (I.hash k) c ∈ t.place.toList) {Q : SetFound → Shared → Prop}
    (yes : k ∈ L.map (·.2) → Q (.there none) s) (no : k ∉ L.map (·.2) → Q (.free (way t.mask (I.hash k) K) false) s) :
    ∀ (f c : Nat) (st : Option SetTable.Probe), st.getD (t.probeStart (I.hash k)) = prb t (I.hash k) c → c ≤ K → K - c < f →
      (∀ (i : Nat) q, L[i]? = some q → q.2 = k → ∃ d, c ≤ d ∧ d < K ∧ t.place.toList[i]? = some (way t.mask (I.hash k) d)) →
      wpAny (model P w) A (setSearchFrom a x (I.hash k) true f st) Q E s := by
  intro f
  induction f with
  | zero => intro c st _ _ hf; omega
  | succ f ih =>
    intro c st hst hc hf ahead
    obtain ⟨o, ho, -, hd⟩ := R.obj
    have ofI : ∀ {i : Nat} {q : Value × α}, L[i]? = some q → (es[i]?.map (·.1)).getD 0 = I.hash q.2 := fun hq => by rw [row_at R.row hq]; rfl
    rw [setSearchFrom_succ]
    refine wpAny_bind (wpAny_setState_of ho hd R.fits ?_)
    dsimp only
    rw [no_way_out R, if_neg (by decide)]
    have spec := go_spec t R.tab.ris R.tab.dm (fun i => (es[i]?.map (·.1)).getD 0) (I.hash k) (10 * SetTable.turns t.mask) (K - c) (prb t (I.hash k) c) (nth_dm _ _ _ rfl) (by omega)
      (fun d hd => by rw [prb_on]; exact full (c + d) (by omega)) (by rw [prb_on, show c + (K - c) = K by omega]; exact free)
    simp only [prb_on] at spec
    rw [hst]
    rcases spec with ⟨d, i, hdK, hi, hh, fst, e⟩ | ⟨none', e⟩
    · rw [show t.probe (fun i => (es[i]?.map (·.1)).getD 0) (I.hash k) (prb t (I.hash k) c) = _ from e]
      dsimp only
      have hil : i < L.length := R.plc ▸ (List.getElem?_eq_some_iff.mp hi).1
      obtain ⟨q, hq⟩ : ∃ q, L[i]? = some q := ⟨_, List.getElem?_eq_getElem hil⟩
      have go : wpAny (model P w) A (searchRest a x (I.hash k) true f es t (prb t (I.hash k) (c + d)).j i (prb t (I.hash k) (c + (d + 1)))) Q E s := by
        refine ask_one R hx hu hq hi (fun z => yes (List.mem_map.mpr ⟨q, List.mem_of_getElem? hq, z⟩)) fun ne => ih (c + (d + 1)) _ rfl (by omega) (by omega) fun i' q' hq' hk' => ?_
        obtain ⟨m, m1, m2, m3⟩ := ahead i' q' hq' hk'
        refine ⟨m, ?_, m2, m3⟩
        refine Nat.not_lt.mp fun (le : m < c + (d + 1)) => ?_
        have lt : m ≠ c + d := by
          intro z
          rw [z] at m3
          have two := (slot_live R.tab.ris m3).symm.trans (slot_live R.tab.ris hi)
          injection two with two
          rw [two, hq] at hq'
          exact ne (by rw [Option.some.inj hq']; exact hk')
        refine fst (m - c) i' (by omega) (by rw [show c + (m - c) = m by omega]; exact m3) ?_
        rw [ofI hq', hk']
      by_cases hl : t.led = true
      · rw [hl, if_neg (by decide)]
        exact go
      · rw [if_pos (by simp [hl])]
        refine wpAny_bind (shows_none hx _ (fun y hy => ?_) ?_)
        · obtain ⟨r, hr, hr2⟩ := List.mem_map.mp hy
          have hr3 : r ∈ es := (Array.mem_filter.mp (Array.mem_toList_iff.mp hr)).1
          have hr4 := Array.mem_toList_iff.mpr hr3
          rw [R.row] at hr4
          obtain ⟨q', hq', e'⟩ := List.mem_map.mp hr4
          refine ⟨q'.2, ?_⟩
          rw [← hr2, ← e']
          exact R.ele q' hq'
        · rw [if_neg (by decide)]
          exact go
    · rw [show t.probe (fun i => (es[i]?.map (·.1)).getD 0) (I.hash k) (prb t (I.hash k) c) = _ from e]
      dsimp only
      rw [show c + (K - c) = K by omega]
      refine wpAny_pure (no fun hm => ?_)
      obtain ⟨q, hq, hk⟩ := List.mem_map.mp hm
      obtain ⟨i, hi⟩ := List.mem_iff_getElem?.mp hq
      obtain ⟨m, m1, m2, m3⟩ := ahead i q hi hk
      refine none' (m - c) i (by omega) (by rw [show c + (m - c) = m by omega]; exact m3) ?_
      rw [ofI hi, hk]
theorem hunt_all (R : Has I s.heap a L es ep t) {k : α} {x : Value} (hx : I.is s.heap k x) (hu : A.units + 9 < cLine) {Q : SetFound → Shared → Prop} (yes : k ∈ L.map (·.2) → Q (.there none) s)
    (no : ∀ K, k ∉ L.map (·.2) → way t.mask (I.hash k) K ∉ t.place.toList → (∀ c, c < K → way t.mask (I.hash k) c ∈ t.place.toList) → Q (.free (way t.mask (I.hash k) K) false) s) :
    wpAny (model P w) A (setSearch a x (I.hash k) true) Q E s := by
  have hg := R.gap
  obtain ⟨K, h1, h2, h3⟩ := R.tab.first (by rw [List.length_map]; omega) (I.hash k)
  have top : 10 * SetTable.turns t.mask ≤ 2000 := by
    unfold SetTable.turns
    rcases R.tab.mok with e | e | e <;> omega
  unfold setSearch
  refine hunt R hx hu h1 h2 h3 yes (fun n => no K n h2 h3) _ 0 none rfl (Nat.zero_le _) (by omega) fun i q hq hk => ?_
  have lt : i < t.place.toList.length := by rw [R.plc]; exact (List.getElem?_eq_some_iff.mp hq).1
  obtain ⟨c, hc, e⟩ := R.tab.before h2 (i := i) (by rw [List.getElem?_map, hq, ← hk]; rfl) (List.getElem?_eq_getElem lt)
  exact ⟨c, Nat.zero_le _, hc, by rw [List.getElem?_eq_getElem lt, e]⟩
end
end Sn
set_option Elab.async false
set_option linter.all false
set_option autoImplicit false
set_option maxRecDepth 100000
set_option maxHeartbeats 4000000
/-! .. adding to it. -/
namespace Sn
open PySem PySem.Spec L2 PyProof.Rows
section
variable {P : Program} {w : World} {α : Type} {I : Kd P w α} {A : Around} {E : Value → Shared → Prop} {s : Shared} {a : Addr} {L : List (Value × α)} {es : Array (Int × Value)} {ep : Nat} {t : SetTable}
/-- elements outlive a change of the set -/
theorem ele_keep {h h' : Heap} {k : α} {v : Value} {o : Obj} (x : I.is h k v) (ho : h.get? a = some o) (hd : o.data = .set es ep t) (hs : Heap.SameBut a h h') : I.is h' k v :=
  I.keep x fun b u m n hu hm => (hs.2 b fun e => by rw [e, ho] at hu; cases hu; rw [hd] at hm; cases hm).trans hu
theorem range_get {β : Type} : ∀ l : List β, (List.range l.length).filterMap (fun i => l[i]?) = l
  | [] => rfl
  | x :: l => by
    rw [List.length_cons, List.range_succ_eq_map, List.filterMap_cons_some (f := fun i => (x :: l)[i]?) (a := 0) (b := x) rfl, List.filterMap_map]
    exact congrArg _ (range_get l)
/-- the rows in another order -/
theorem reorder (hr : es.toList = rwOf I L) {ord : Array Nat} (hp : ord.toList.Perm (List.range L.length)) :
    ∃ M, (ord.filterMap (es[·]?)).toList = rwOf I M ∧ M.Perm L ∧ hsOf I M = ord.toList.map fun i => (es.map (·.1)).getD i 0 := by
  have got : ∀ i, i < L.length → ∃ q, L[i]? = some q := fun i hi => ⟨_, List.getElem?_eq_getElem hi⟩
  refine ⟨ord.toList.filterMap fun i => L[i]?, ?_, ?_, ?_⟩
  · rw [Array.toList_filterMap]
    have all : ∀ i ∈ ord.toList, i < L.length := fun i hi => List.mem_range.mp (hp.mem_iff.mp hi)
    generalize ord.toList = l at all
    clear hp
    induction l with
    | nil => rfl
    | cons i l ih =>
      obtain ⟨q, hq⟩ := got i (all i List.mem_cons_self)
      rw [List.filterMap_cons_some (row_at hr hq), List.filterMap_cons_some hq, ih fun j hj => all j (List.mem_cons_of_mem _ hj)]
      rfl
  · have := hp.filterMap fun i => L[i]?
    rwa [range_get] at this
  · have all : ∀ i ∈ ord.toList, i < L.length := fun i hi => List.mem_range.mp (hp.mem_iff.mp hi)
    generalize ord.toList = l at all
    clear hp
    induction l with
    | nil => rfl
    | cons i l ih =>
      obtain ⟨q, hq⟩ := got i (all i List.mem_cons_self)
      have one : (es.map (·.1)).getD i 0 = I.hash q.2 := by
        rw [Array.getD_eq_getD_getElem?, Array.getElem?_map, row_at hr hq]
        rfl
      rw [List.map_cons, one, ← ih fun j hj => all j (List.mem_cons_of_mem _ hj), List.filterMap_cons_some (f := fun i => L[i]?) hq]
      rfl
/-- a larger table -/
theorem grow {o : Obj} (ho : s.heap.get? a = some o) (hx : o.ExactSet) (hd : o.data = .set es ep t) (hr : es.toList = rwOf I L) (tab : TabOk t (hsOf I L)) (le : L.length ≤ t.mask) (dis : (L.map (·.2)).Nodup) (ele : ∀ q ∈ L, I.is s.heap q.2 q.1)
    (pl : t.plain = true) (ld : w.params.followText "set-order" = true ∨ t.led = true) (few : L.length < 64) {n M : Nat} (hw : SetTable.sizeAbove n - 1 = M) (hM : MaskOk M) (hs : SetTable.sizeAbove n ≤ 128) (hn : L.length * 5 < M * 3) {Q : Unit → Shared → Prop}
    (hQ : ∀ h' L' es' ep' t', Heap.SameBut a s.heap h' → Has I h' a L' es' ep' t' → L'.Perm L → Q () { s with heap := h' }) : wpAny (model P w) A (setRelay a n) Q E s := by
  have sz := row_len hr
  have pz : t.place.size = es.size := by rw [tab.sz, List.length_map, sz]
  obtain ⟨t', ord, e, hp, tb, em, el, epl, -⟩ := relaid_ok t (hs := es.map (·.1)) (wanted := n) hw hM (by rw [Array.size_map, sz]; omega)
  rw [Array.size_map, sz] at hp
  obtain ⟨L2, r1, r2, r3⟩ := reorder hr hp
  rw [← r3] at tb
  have z2 : (ord.filterMap (es[·]?)).size = L.length := by rw [row_len r1, r2.length_eq]
  rw [setRelay_eq]
  refine wpAny_bind (wpAny_setState_of ho hd (fits_of pz tab.dm (by omega)) ?_)
  dsimp only
  rw [if_neg (by rw [sizeLine_eq]; omega), e]
  dsimp only
  rw [if_neg (by rw [z2, sz]; simp)]
  refine wpAny_bind (wpAny_pure ?_)
  refine wpAny_storeSet_of ho hd ?_ (by rw [z2, sizeLine_eq]; omega)
  have sb : Heap.SameBut a s.heap (s.heap.update a (Obj.putSet (ord.filterMap (es[·]?)) t')) := Heap.SameBut.update ..
  exact hQ _ L2 _ (ep + 1) t' sb ⟨⟨_, store_at ho hd, ⟨hx.1, hx.2.1, hx.2.2⟩, rfl⟩, r1, tb, (r2.map (·.2)).nodup_iff.mpr dis, fun q hq => ele_keep (ele q (r2.mem_iff.mp hq)) ho hd sb, by rw [epl]; exact pl, by rw [el]; exact ld,
    by rw [r2.length_eq, em]; exact hn, by rw [r2.length_eq]; exact few⟩ r2
/-- set.add -/
theorem put (R : Has I s.heap a L es ep t) {k : α} {x : Value} (hx : I.is s.heap k x) (hu : A.units + 9 < cLine) (room : L.length + 1 < 64) {Q : Bool → Shared → Prop}
    (hQ : ∀ b h' L' es' ep' t', Heap.SameBut a s.heap h' → Has I h' a L' es' ep' t' → (k ∈ L.map (·.2) → L' = L) → (k ∉ L.map (·.2) → L'.Perm ((x, k) :: L)) → Q b { s with heap := h' }) :
    wpAny (model P w) A (setAddHashed a x (I.hash k)) Q E s := by
  obtain ⟨o, ho, ex, hd⟩ := R.obj
  have sz := row_len R.row
  have hg := R.gap
  obtain ⟨b0, hb0⟩ := I.ref hx
  have scan : byScan x es = false := by rw [hb0]; simp [byScan, Value.scannable]
  unfold setAddHashed
  refine wpAny_holding ?_
  rw [show (100000 : Nat) = 99999 + 1 from rfl, setAddHashedIn_succ]
  refine wpAny_bind (wpAny_setState_of ho hd R.fits ?_)
  dsimp only
  rw [scan, if_neg (by decide)]
  refine wpAny_bind (hunt_all R hx hu (fun hm => ?_) fun K hm free full => ?_)
  · exact wpAny_pure (hQ false s.heap L es ep t (Heap.SameBut.refl a s.heap) R (fun _ => rfl) fun z => absurd hm z)
  · dsimp only
    refine wpAny_bind (wpAny_setState_of ho hd R.fits ?_)
    dsimp only
    obtain ⟨e1, e2, tb, em, el, epl, -, -, efl⟩ := R.tab.put free full
    generalize t.put (way t.mask (I.hash k) K) = pt at e1 tb em el epl efl ⊢
    obtain ⟨t1, p⟩ := pt
    dsimp only at e1 tb em el epl efl ⊢
    generalize SetTable.below t.place (way t.mask (I.hash k) K) = m at e1 e2 tb ⊢
    subst e1
    rw [if_pos (epl.trans R.pln)]
    refine wpAny_bind (I.byV hx ?_)
    simp only [if_true]
    have perm := put_perm L p (x, k)
    have row1 : (SetTable.insertAt es p (I.hash k, x)).toList = rwOf I (L.take p ++ (x, k) :: L.drop p) := by
      rw [SetTable.toList_insertAt, R.row]
      simp only [List.map_append, List.map_cons, List.map_take, List.map_drop]
    have hs1 : hsOf I (L.take p ++ (x, k) :: L.drop p) = (hsOf I L).take p ++ I.hash k :: (hsOf I L).drop p := by
      simp only [List.map_append, List.map_cons, List.map_take, List.map_drop]
    rw [← hs1] at tb
    generalize SetTable.insertAt es p (I.hash k, x) = es1 at row1 ⊢
    generalize L.take p ++ (x, k) :: L.drop p = L1 at perm row1 tb
    have len1 : L1.length = L.length + 1 := perm.length_eq
    have sz1 := row_len row1
    have dis1 : (L1.map (·.2)).Nodup := (perm.map (·.2)).nodup_iff.mpr (List.nodup_cons.mpr ⟨hm, R.dis⟩)
    refine wpAny_bind (wpAny_storeSet_of ho hd ?_ (by rw [sz1, sizeLine_eq]; omega))
    have sb : Heap.SameBut a s.heap (s.heap.update a (Obj.putSet es1 t1)) := Heap.SameBut.update ..
    have ho1 := store_at (es' := es1) (t' := t1) ho hd
    generalize s.heap.update a (Obj.putSet es1 t1) = h1 at sb ho1 ⊢
    have ele1 : ∀ q ∈ L1, I.is h1 q.2 q.1 := fun q hq => by
      rcases List.mem_cons.mp (perm.mem_iff.mp hq) with rfl | hq
      · exact ele_keep hx ho hd sb
      · exact ele_keep (R.ele q hq) ho hd sb
    have ld1 : w.params.followText "set-order" = true ∨ t1.led = true := el ▸ R.ldd
    have pl1 : t1.plain = true := epl.trans R.pln
    have few1 : L1.length < 64 := by omega
    by_cases hf : t1.tooFull = true
    · have full1 : t1.mask * 3 ≤ (L.length + 1) * 5 := by
        have h := hf
        unfold SetTable.tooFull at h
        rw [decide_eq_true_eq, efl, List.length_map] at h
        exact h
      rw [em] at full1
      have which : (t.mask = 7 ∧ L.length = 4) ∨ (t.mask = 31 ∧ L.length = 18) := by
        rcases R.tab.mok with z | z | z <;> rw [z] at full1 hg
        · exact .inl ⟨z, by omega⟩
        · exact .inr ⟨z, by omega⟩
        · omega
      rw [hf, sz]
      refine wpAny_bind ?_
      have more : ∀ M, SetTable.sizeAbove (SetTable.grown (L.length + 1)) - 1 = M → MaskOk M → SetTable.sizeAbove (SetTable.grown (L.length + 1)) ≤ 128 → (L.length + 1) * 5 < M * 3 →
          wpAny (model P w) A (setRelay a (SetTable.grown (L.length + 1))) (fun _ s' => wpAny (model P w) A (pure true) Q E s') E { s with heap := h1 } := fun M a1 a2 a3 a4 =>
        grow (s := { s with heap := h1 }) ho1 ⟨ex.1, ex.2.1, ex.2.2⟩ rfl row1 tb (by rw [em]; omega) dis1 ele1 pl1 ld1 few1 a1 a2 a3 (by rw [len1]; exact a4) fun h2 L2 es2 ep2 t2 sb2 R2 pm2 =>
          wpAny_pure (hQ true h2 L2 es2 ep2 t2 (sb.trans sb2) R2 (fun z => absurd z hm) fun _ => pm2.trans perm)
      rcases which with ⟨_, z⟩ | ⟨_, z⟩
      · exact more 31 (by rw [z, size_20]) (.inr (.inl rfl)) (by rw [z, size_20]; decide) (by omega)
      · exact more 127 (by rw [z, size_76]) (.inr (.inr rfl)) (by rw [z, size_76]; decide) (by omega)
    · rw [if_neg (by simp [hf])]
      refine wpAny_pure (hQ true h1 L1 es1 (ep + 1) t1 sb ⟨⟨_, ho1, ⟨ex.1, ex.2.1, ex.2.2⟩, rfl⟩, row1, tb, dis1, ele1, pl1, ld1, ?_, few1⟩ (fun z => absurd z hm) fun _ => perm)
      have h := hf
      unfold SetTable.tooFull at h
      rw [decide_eq_true_eq, efl, List.length_map] at h
      omega
end
end Sn
set_option Elab.async false
set_option linter.all false
set_option autoImplicit false
set_option maxRecDepth 100000
set_option maxHeartbeats 4000000
/-! set(xs) of a list. -/
namespace Sn
open PySem PySem.Spec L2 PyProof.Rows
section
variable {P : Program} {w : World} {α : Type} {I : Kd P w α} {A : Around} {E : Value → Shared → Prop} {s : Shared}
/-- what came of the first i -/
structure Upto (ks : List (Value × α)) (i : Nat) (L : List (Value × α)) : Prop where
  from_ : ∀ q ∈ L, q ∈ ks.take i
  each : ∀ q ∈ ks.take i, q.2 ∈ L.map (·.2)
  size : L.length ≤ i
theorem Upto.nil (ks : List (Value × α)) : Upto ks 0 [] where
  from_ := fun q h => nomatch h
  each := fun q h => by rw [List.take_zero] at h; cases h
  size := Nat.le_refl _
theorem upto_take {ks : List (Value × α)} {i : Nat} {x q : Value × α} (h : ks[i]? = some x) : q ∈ ks.take (i + 1) ↔ q ∈ ks.take i ∨ q = x := by
  rw [List.take_succ, h, List.mem_append]
  simp
theorem Upto.old {ks L : List (Value × α)} {i : Nat} {x : Value × α} (g : Upto ks i L) (h : ks[i]? = some x) (hm : x.2 ∈ L.map (·.2)) : Upto ks (i + 1) L where
  from_ := fun q hq => (upto_take h).mpr (.inl (g.from_ q hq))
  each := fun q hq => ((upto_take h).mp hq).elim (g.each q) fun e => e ▸ hm
  size := Nat.le_succ_of_le g.size
theorem Upto.new {ks L M : List (Value × α)} {i : Nat} {x : Value × α} (g : Upto ks i L) (h : ks[i]? = some x) (pm : M.Perm (x :: L)) : Upto ks (i + 1) M where
  from_ := fun q hq => (upto_take h).mpr ((List.mem_cons.mp (pm.mem_iff.mp hq)).elim .inr fun z => .inl (g.from_ q z))
  each := fun q hq => (pm.map (·.2)).mem_iff.mpr (((upto_take h).mp hq).elim (fun z => List.mem_cons_of_mem _ (g.each q z)) fun e => e ▸ List.mem_cons_self)
  size := by rw [pm.length_eq, List.length_cons]; exact Nat.succ_le_succ g.size
abbrev HeapUp (h h' : Heap) : Prop := ∀ b o, h.get? b = some o → h'.get? b = some o
theorem up_is {h h' : Heap} {k : α} {v : Value} (x : I.is h k v) (u : HeapUp h h') : I.is h' k v := I.keep x fun b o _ _ e _ => u b o e
theorem Has.up {h h' : Heap} {a : Addr} {L : List (Value × α)} {es : Array (Int × Value)} {ep : Nat} {t : SetTable} (R : Has I h a L es ep t) (ha : ∀ o, h.get? a = some o → h'.get? a = some o) (he : ∀ q ∈ L, I.is h' q.2 q.1) : Has I h' a L es ep t :=
  let ⟨o, ho, r⟩ := R.obj
  { R with obj := ⟨o, ha o ho, r⟩, ele := he }
theorem has_new {h : Heap} {a : Addr} (ho : h.get? a = some { cls := .type "set", dict := none, data := .set #[] 0 (.fresh 0 0 (!w.params.followText "set-order")) }) : Has I h a [] #[] 0 (.fresh 0 0 (!w.params.followText "set-order")) where
  obj := ⟨_, ho, ⟨rfl, rfl, rfl⟩, rfl⟩
  row := rfl
  tab := { ris := .nil, dm := rfl, sz := rfl, mok := .inl rfl, bd := fun _ h => (by cases h), reach := fun i h j e => (by simp at e) }
  dis := .nil
  ele := fun _ h => nomatch h
  pln := rfl
  ldd := by
    cases h : w.params.followText "set-order" with
    | true => exact .inl rfl
    | false => exact .inr rfl
  gap := (by decide : 0 * 5 < 7 * 3)
  few := (by decide : 0 < 64)
/-- the loop of set.update -/
theorem fill {W : Addr} {fp wr : List Addr} {G : Array GenState → Array GenState → Prop} {n : Nat} {Pv : Nat → Value → Prop} {St : Nat → Shared → Prop} {R : Result → Shared → Prop} (wk : WalksS P w A.in1 W fp wr G n Pv St) (S : Addr) (hS : S ∉ fp) (ks : List (Value × α)) (hn : n = ks.length) (few : ks.length < 64)
    (val : ∀ i v, Pv i v → ∃ q, ks[i]? = some q ∧ v = q.1) (h0 : Heap) (el : ∀ q ∈ ks, I.is h0 q.2 q.1) (out : h0.get? S = none) (outw : ∀ b ∈ wr, h0.get? b = none) (hu : A.in1.units + 9 < cLine) :
    ∀ (m i : Nat) (s : Shared), n - i = m → i ≤ n → St i s → HeapUp h0 s.heap → (∃ L es ep t, Has I s.heap S L es ep t ∧ Upto ks i L) →
      (∀ s' L es ep t, Moved (S :: wr) G s s' → Has I s'.heap S L es ep t → Upto ks n L → HeapUp h0 s'.heap → R (.ok (.ret .none)) s') → codeAny (model P w) A (.builtin "set.update.loop" ⟨[.ref S, .ref W], []⟩) R s := by
  have sw : S ∉ wr := fun h => hS (wk.sub _ h)
  have up : ∀ {u v : Shared}, Moved wr G u v → HeapUp h0 u.heap → HeapUp h0 v.heap := fun hm k b o e => hm.heap b o (fun hb => by rw [outw b hb] at e; cases e) (k b o e)
  have wide : ∀ b ∈ wr, b ∈ S :: wr := fun b hb => List.mem_cons_of_mem _ hb
  have stays : ∀ {i : Nat} {L es ep t} {u v : Shared}, Upto ks i L → Has I u.heap S L es ep t → Moved wr G u v → HeapUp h0 v.heap → Has I v.heap S L es ep t := fun g H hm k =>
    H.up (fun o e => hm.heap S o sw e) fun q hq => up_is (el q (List.mem_of_mem_take (g.from_ q hq))) k
  intro m
  induction m with
  | zero =>
    intro i s hm hi st k ⟨L, es, ep, t, H, g⟩ hR
    obtain rfl : i = n := by omega
    refine codeAny_builtin F.entry_set_update_loop ?_
    rw [Around.under_plainId F.plain_set_update_loop _]
    show wpAny _ A.in1 (pyNext (.ref W) >>= _) _ _ s
    exact wpAny_bind (wk.done s _ _ st fun s' mv => wpAny_pure (hR s' L es ep t (mv.mono wide) (stays g H mv (up mv k)) g (up mv k)))
  | succ m ih =>
    intro i s hm hi st k ⟨L, es, ep, t, H, g⟩ hR
    have lt : i < n := by omega
    refine codeAny_builtin F.entry_set_update_loop ?_
    rw [Around.under_plainId F.plain_set_update_loop _]
    show wpAny _ A.in1 (pyNext (.ref W) >>= _) _ _ s
    refine wpAny_bind (wk.item i s _ _ lt st fun v s1 pv st1 mv => ?_)
    obtain ⟨q, hq, rfl⟩ := val i v pv
    have k1 := up mv k
    have x1 : I.is s1.heap q.2 q.1 := up_is (el q (List.mem_of_getElem? hq)) k1
    have bound := g.size
    have H1 := stays g H mv k1
    obtain ⟨b0, hb0⟩ := I.ref x1
    show wpAny _ A.in1 (holding [q.1] (setAdd S q.1) >>= _) _ _ s1
    refine wpAny_bind (wpAny_holding ?_)
    unfold setAdd
    refine wpAny_holding (wpAny_bind (I.hsh hu x1 ?_))
    refine put (s := { s1 with toks := s1.toks + I.draw q.2 }) H1 x1 hu (by omega) fun b h' L' es' ep' t' sb H' same more => ?_
    have g' : Upto ks (i + 1) L' := (Classical.em (q.2 ∈ L.map (·.2))).elim (fun c => by rw [same c]; exact g.old hq c) fun c => g.new hq (more c)
    have k2 : HeapUp h0 h' := fun b o e => (sb.2 b fun z => by rw [z, out] at e; cases e).trans (k1 b o e)
    refine wpAny_pure ⟨plainId_quiet F.plain_set_update_loop _, ih (i + 1) _ (by omega) lt (wk.frame _ s1 _ _ st1 (Nat.le_add_right _ _) fun b hb o e => ?_) k2 ⟨L', es', ep', t', H', g'⟩ fun s2 L2 es2 ep2 t2 mv2 H2 g2 k3 => ?_⟩
    · exact (sb.2 b fun z => hS (z ▸ hb)).trans e
    · exact hR s2 L2 es2 ep2 t2 (Moved.trans wk.gtrans ((mv.mono wide).then_heap (Nat.le_add_right _ _) fun b o hb e => (sb.2 b fun z => hb (z ▸ List.mem_cons_self)).trans e) mv2) H2 g2 k3
end
end Sn
set_option Elab.async false
set_option linter.all false
set_option autoImplicit false
set_option maxRecDepth 100000
set_option maxHeartbeats 4000000
/-! set(xs) of a list, called. -/
namespace Sn
open PySem PySem.Spec L2 PyProof.Rows
section
variable {P : Program} {w : World} {α : Type} {I : Kd P w α} {A : Around} {E : Value → Shared → Prop} {s : Shared}
/-- a new, empty set -/
abbrev emptySet (w : World) : Obj := { cls := .type "set", dict := none, data := .set #[] 0 (.fresh 0 0 (!w.params.followText "set-order")) }
theorem nothing {h : Heap} {b : Addr} (hb : h.objs.size ≤ b) : h.get? b = none := by
  cases q : h.get? b with
  | none => rfl
  | some o => exact absurd (Heap.lt_size q) (Nat.not_lt.mpr hb)
/-- what is left behind the loop -/
abbrev Left (I : Kd P w α) (s : Shared) (ks : List (Value × α)) (s' : Shared) : Prop := ∃ h' tk L es ep t, s' = { s with heap := h', toks := tk } ∧ Has I h' s.heap.objs.size L es ep t ∧ Upto ks ks.length L ∧ HeapUp s.heap h'
/-- set(xs) -/
theorem of_list {l : Addr} {its : Array Value} (ks : List (Value × α)) {Q : Value → Shared → Prop} (hh : A.handled = none) (hl : s.heap.IsList l its) (hit : its.toList = ks.map (·.1)) (el : ∀ q ∈ ks, I.is s.heap q.2 q.1) (few : ks.length < 64) (hu : A.units + 14 < cLine)
    (h : ∀ (h' : Heap) (tk : Nat) L es ep t, Has I h' s.heap.objs.size L es ep t → Upto ks ks.length L → HeapUp s.heap h' → Q (.ref s.heap.objs.size) { s with heap := h', toks := tk }) :
    wpAny (model P w) A (call (.type "set") [.ref l]) Q E s := by
  have isz : its.size = ks.length := by rw [← Array.length_toList, hit, List.length_map]
  obtain ⟨c, tl, hmro⟩ := F.called_set.mro
  have q1 := F.called_set.made
  have q2 := F.called_set.sub
  refine wpAny_call (codeAny_of_tree ?_)
  show wpAny _ _ (callAny (.type "set") _) _ _ _
  refine wpAny_pure ⟨Code.quiet_builtin _ (by decide +kernel), codeAny_builtin F.entry_type_call ?_⟩
  rw [Around.under_plain (weight_type_call_type "set" [.ref l] []) rfl]
  have q3 := F.called_set.notType
  have q4 := F.called_set.canCreate
  have q5 := F.typeCall_set_1 (.ref l)
  repeat (any_goals (first | assumption | wp_step))
  refine codeAny_mono (code_set_led1 (.ref l) (E := E) (Q₁ := fun u s₁ => u = .ref s.heap.objs.size ∧ s₁ = { s with heap := s.heap.push (emptySet w) }) ⟨rfl, rfl⟩) fun r s₁ hr => ?_
  cases r with
  | error e => exact hr
  | ok fl =>
    cases fl with
    | ret u =>
      obtain ⟨rfl, rfl⟩ := hr
      have hS : (s.heap.push (emptySet w)).get? s.heap.objs.size = some (emptySet w) := Heap.get?_push_size _ rfl
      have hT : Shared.TypeIs { s with heap := s.heap.push (emptySet w) } (.ref s.heap.objs.size) "set" := ⟨_, hS, rfl⟩
      have q6 := F.called_set.init.lookup
      have q7 := F.called_set.init.bind (.ref s.heap.objs.size)
      repeat (any_goals (first | assumption | wp_step))
      refine codeAny_mono (codeAny_call_builtin (R := wants (fun r s₂ => r = .none ∧ Left I s ks s₂) E) F.called_set.init.plain F.entry_set_init (check_set_init_1 hT ?_)) fun r₂ s₂ hr₂ => ?_
      · obtain ⟨⟨oc, od, odt, os⟩, hol, hc, nl, hd⟩ := hl
        simp only at hc hd
        subst hc; subst hd
        have old : (s.heap.push (emptySet w)).get? l = some { cls := .type "list", dict := od, data := .seq its nl, slots := os } := Heap.get?_push_of_some _ hol
        have q8 := F.sub_list_set
        have q9 := F.sub_list_frozenset
        have q10 : (Value.type "list" == Value.type "dict") = false := by decide
        have l1 : (s.heap.push (emptySet w)).IsList l its := ⟨_, old, rfl, nl, rfl⟩
        have lS : l < s.heap.objs.size := Heap.lt_size hol
        unfold Builtin.«set.__init__» noKeywords Builtin.Frozenset.updateFrom
        generalize hPI : pyIter = PI
        wp_walk
        subst hPI
        refine wpAny_pyIter_list l1 (wpAny_bind (wpAny_runValue ?_))
        have sz : (s.heap.push (emptySet w)).objs.size = s.heap.objs.size + 1 := Heap.size_push ..
        have hh3 : A.in1.in1.in1.handled = none := by simp [hh]
        have ne : l ≠ (s.heap.push (emptySet w)).objs.size := by rw [sz]; exact Nat.ne_of_lt (Nat.lt_succ_of_lt lS)
        have away : s.heap.objs.size ∉ [(s.heap.push (emptySet w)).objs.size, l] := by
          simp only [List.mem_cons, List.mem_singleton, List.not_mem_nil, or_false, not_or]
          exact ⟨by rw [sz]; omega, Nat.ne_of_gt lS⟩
        have room : A.in1.in1.in1.units + 9 < cLine := by
          simp only [Around.in1_units]
          omega
        refine fill ((Walks.list hh3 _ l ne its).toS) s.heap.objs.size away ks isz few (fun i v hv => ?_) s.heap el (nothing (Nat.le_refl _)) (fun b hb => nothing (by rw [List.mem_singleton.mp hb, sz]; exact Nat.le_succ _)) room (its.size - 0) 0 _ rfl (Nat.zero_le _)
          ⟨⟨_, Heap.get?_push_size _ rfl, rfl, rfl⟩, l1.push _⟩ (fun b o e => Heap.get?_push_of_some _ (Heap.get?_push_of_some _ e)) ⟨[], #[], 0, _, has_new (Heap.get?_push_of_some _ hS), Upto.nil ks⟩ fun s' L es ep t mv H g k => ?_
        · have z : its.toList[i]? = some v := (Array.getElem?_toList ..).trans hv
          rw [hit, List.getElem?_map, Option.map_eq_some_iff] at z
          obtain ⟨q, z1, z2⟩ := z
          exact ⟨q, z1, z2.symm⟩
        · obtain ⟨h', g2, d', tk', os'⟩ := s'
          obtain rfl : g2 = s.gens := mv.gens
          obtain rfl : d' = s.drawn := mv.drawn
          obtain rfl : os' = s.os := mv.os
          rw [isz] at g
          exact wpAny_pure (wpAny_pure ⟨rfl, h', tk', L, es, ep, t, rfl, H, g, k⟩)
      · cases r₂ with
        | error e => exact hr₂
        | ok fl₂ =>
          cases fl₂ with
          | ret r =>
            obtain ⟨rfl, h', tk, L, es, ep, t, rfl, H, g, k⟩ := hr₂
            repeat (any_goals (first | assumption | wp_step))
            exact h _ _ _ _ _ _ H g k
          | _ => exact hr₂.elim
    | _ => exact hr.elim
end
end Sn
set_option Elab.async false
set_option linter.all false
set_option autoImplicit false
set_option maxRecDepth 100000
set_option maxHeartbeats 2000000
/-! sorted(..) of a set. -/
namespace Sn
open PySem PySem.Spec PySem.W PySem.Calls L2 PyProof.Rows
section
variable {P : Program} {w : World} {α : Type} {I : Kd P w α} {A : Around} {E : Value → Shared → Prop} {s : Shared} {a : Addr} {L : List (Value × α)} {es : Array (Int × Value)} {ep : Nat} {t : SetTable}
theorem sorted_set {Q : Value → Shared → Prop} (R : Has I s.heap a L es ep t) (hh : A.handled = none)
    (h : ∀ (s1 : Shared) (vs : List Value), HeapUp s.heap s1.heap → s.heap.objs.size ≤ s1.heap.objs.size → s1.gens = s.gens → s1.os = s.os → vs.Perm (L.map (·.1)) →
      ∃ κ : KeyKind, SortsAt P w A.in1.in1 { s1 with heap := sortingHeap (s1.heap.push (seqObj "list" vs.toArray 0)) s1.heap.objs.size vs } κ vs ∧
      Q (.ref s1.heap.objs.size) { s1 with heap := sortedHeap (s1.heap.push (seqObj "list" vs.toArray 0)) s1.heap.objs.size vs (sortVals κ false vs vs).toArray }) :
    wpAny (model P w) A (call (.builtin "sorted") [.ref a]) Q E s := by
  obtain ⟨o, ho, ex, hd⟩ := R.obj
  have sz := row_len R.row
  have few := R.few
  refine Calls.call_function_entry kind_sorted plain_sorted entry_sorted (args_sorted1 _) ?_
  unfold Builtin.«sorted»
  refine wpAny_bind (m := checkCount "sorted" 1 1 _) (wpAny_pure ?_)
  refine wpAny_bind (collect_set (A := A.in1) hh ⟨o, ho, ex.1, hd⟩ R.fits (by unfold scanBound; omega) R.tab.ris R.ldd fun s1 vs k1 z1 g1 o1 pm => ?_)
  have pm' : vs.Perm (L.map (·.1)) := by
    have e : es.toList.map (·.2) = L.map (·.1) := by
      rw [R.row, List.map_map]
      rfl
    rw [← e]
    exact pm
  obtain ⟨κ, S, q⟩ := h s1 vs k1 z1 g1 o1 pm'
  have hL : vs.length ≤ sizeLine := by
    rw [pm'.length_eq, List.length_map, sizeLine_eq]
    omega
  refine wpAny_bind (wpAny_newList ?_ hL)
  have new : (s1.heap.push (seqObj "list" vs.toArray 0)).get? s1.heap.objs.size = some (seqObj "list" vs.toArray 0) := Heap.get?_push_size _ rfl
  refine wpAny_bind (wpAny_holding (wpAny_call_entry_kw slot_list_sort ⟨_, new, rfl⟩ entry_list_sort ?body (args_list_sort _)))
  case body =>
    refine list_sort_vals (s := { s1 with heap := s1.heap.push (seqObj "list" vs.toArray 0) }) new S hL ?_
    exact ⟨_, rfl, wpAny_pure ⟨_, rfl, q⟩⟩
end
end Sn
set_option Elab.async false
set_option linter.all false
set_option autoImplicit false
set_option maxRecDepth 100000
set_option maxHeartbeats 2000000
/-! Data as set elements. -/
namespace Sn
open PySem PySem.Spec L2 PyProof.Rows Dn Sd
mutual
/-- a datum's key: no bool, no text, no list within -/
def keyD : D → Option NestedKey
  | .non => some .none
  | .int i => some (.num i)
  | .tup xs => match keysD xs with
    | some ks => some (.tup ks)
    | none => none
  | _ => none
def keysD : List D → Option (List NestedKey)
  | [] => some []
  | x :: xs => match keyD x, keysD xs with
    | some k, some ks => some (k :: ks)
    | _, _ => none
end
mutual
theorem keyD_inj : ∀ {d e : D} {k : NestedKey}, keyD d = some k → keyD e = some k → d = e
  | .non, e, k, h1, h2 => by
    rw [keyD] at h1; cases h1
    cases e <;> simp [keyD] at h2 ⊢
    · split at h2 <;> simp at h2
  | .int i, e, k, h1, h2 => by
    rw [keyD] at h1; cases h1
    cases e <;> simp [keyD] at h2 ⊢
    · exact h2.symm
    · split at h2 <;> simp at h2
  | .tup xs, e, k, h1, h2 => by
    rw [keyD] at h1
    split at h1
    · rename_i ks hk
      cases h1
      cases e <;> simp [keyD] at h2 ⊢
      split at h2
      · rename_i ks' hk'
        simp at h2
        subst h2
        exact keysD_inj hk hk'
      · cases h2
    · cases h1
  | .bl _, _, _, h1, _ => by simp [keyD] at h1
  | .str _, _, _, h1, _ => by simp [keyD] at h1
  | .lst _, _, _, h1, _ => by simp [keyD] at h1
  | .fls _, _, _, h1, _ => by simp [keyD] at h1
  | .ins _ _, _, _, h1, _ => by simp [keyD] at h1
  | .exn _ _, _, _, h1, _ => by simp [keyD] at h1
theorem keysD_inj : ∀ {xs ys : List D} {ks : List NestedKey}, keysD xs = some ks → keysD ys = some ks → xs = ys
  | [], ys, ks, h1, h2 => by
    rw [keysD] at h1; cases h1
    cases ys with
    | nil => rfl
    | cons y ys =>
      rw [keysD] at h2
      split at h2 <;> simp at h2
  | x :: xs, ys, ks, h1, h2 => by
    rw [keysD] at h1
    split at h1
    · rename_i k ks' e1 e2
      cases h1
      cases ys with
      | nil => simp [keysD] at h2
      | cons y ys =>
        rw [keysD] at h2
        split at h2
        · rename_i k2 ks2 e3 e4
          simp at h2
          obtain ⟨rfl, rfl⟩ := h2
          rw [keyD_inj e1 e3, keysD_inj e2 e4]
        · cases h2
    · cases h1
end
end Sn
namespace Sn
open PySem PySem.Spec L2 PyProof.Rows Dn Sd
mutual
theorem keyD_facts : ∀ {d : D} {k : NestedKey}, keyD d = some k → plainK k = true ∧ k.depth = dep d
  | .non, k, h => by rw [keyD] at h; cases h; exact ⟨rfl, rfl⟩
  | .int i, k, h => by rw [keyD] at h; cases h; exact ⟨rfl, rfl⟩
  | .tup xs, k, h => by
    rw [keyD] at h
    split at h
    · rename_i ks hk
      cases h
      have := keysD_facts hk
      exact ⟨by rw [plainK]; exact this.1, by rw [NestedKey.depth, dep, this.2]⟩
    · cases h
  | .bl _, _, h => by simp [keyD] at h
  | .str _, _, h => by simp [keyD] at h
  | .lst _, _, h => by simp [keyD] at h
  | .fls _, _, h => by simp [keyD] at h
  | .ins _ _, _, h => by simp [keyD] at h
  | .exn _ _, _, h => by simp [keyD] at h
theorem keysD_facts : ∀ {xs : List D} {ks : List NestedKey}, keysD xs = some ks → plainKs ks = true ∧ NestedKey.depthAll ks = deps xs
  | [], ks, h => by rw [keysD] at h; cases h; exact ⟨rfl, rfl⟩
  | x :: xs, ks, h => by
    rw [keysD] at h
    split at h
    · rename_i k ks' e1 e2
      cases h
      have a := keyD_facts e1
      have b := keysD_facts e2
      exact ⟨by rw [plainKs, a.1, b.1]; rfl, by rw [NestedKey.depthAll, deps, a.2, b.2]⟩
    · cases h
end
end Sn
namespace Sn
open PySem PySem.Spec L2 PyProof.Rows Dn Sd
mutual
theorem keyed_some : ∀ {d : D}, keyed d = true → ∃ k, keyD d = some k
  | .non, _ => ⟨_, by rw [keyD]⟩
  | .int i, _ => ⟨_, by rw [keyD]⟩
  | .tup xs, h => by
    rw [keyed] at h
    obtain ⟨ks, e⟩ := keyeds_some h
    exact ⟨.tup ks, by rw [keyD, e]⟩
  | .bl _, h => by simp [keyed] at h
  | .str _, h => by simp [keyed] at h
  | .lst _, h => by simp [keyed] at h
  | .fls _, h => by simp [keyed] at h
  | .ins _ _, h => by simp [keyed] at h
  | .exn _ _, h => by simp [keyed] at h
theorem keyeds_some : ∀ {xs : List D}, keyeds xs = true → ∃ ks, keysD xs = some ks
  | [], _ => ⟨[], by rw [keysD]⟩
  | x :: xs, h => by
    rw [keyeds, Bool.and_eq_true] at h
    obtain ⟨k, e1⟩ := keyed_some h.1
    obtain ⟨ks, e2⟩ := keyeds_some h.2
    exact ⟨k :: ks, by rw [keysD, e1, e2]⟩
end
end Sn
namespace Sn
open PySem PySem.Spec L2 PyProof.Rows Dn Sd
section
variable {X : Cx} {pins : List (Addr × Obj)} {σ : L2.St} {H : Hp} {s : Shared} {G : Sd.Gl} {F : Addr → Prop}
mutual
/-- a datum's value is its key -/
theorem is_of (I : Inv X pins σ H s) (hK : G.K = X.K) : ∀ {d : D} {v : V} {u : Value} {k : NestedKey}, RD G F H d v → RelV v u → keyD d = some k → NestedIs s.heap k u
  | .non, _, u, k, .non, q, h => by
    rw [keyD] at h; cases h
    cases q
    exact .none
  | .int i, _, u, k, .int _, q, h => by
    rw [keyD] at h; cases h
    obtain ⟨t, rfl⟩ := q
    exact .int _ t
  | .tup xs, _, u, k, .tup (a := a) hs r, q, h => by
    rw [keyD] at h
    split at h
    · rename_i ks hk
      cases h
      cases q
      obtain ⟨its, r2, ⟨o, ho, hc, n, hd⟩, _⟩ := I.tuple (hK ▸ hs)
      exact .tup ho hc hd (all_of I hK r r2 hk)
    · cases h
theorem all_of (I : Inv X pins σ H s) (hK : G.K = X.K) : ∀ {ds : List D} {vs : List V} {us : List Value} {ks : List NestedKey}, RDs G F H ds vs → Vals vs us → keysD ds = some ks → NestedAll s.heap ks us
  | [], _, _, ks, .nil, .nil, h => by rw [keysD] at h; cases h; exact .nil
  | d :: ds, _, _, ks, .cons r rs, .cons q qs, h => by
    rw [keysD] at h
    split at h
    · rename_i k ks' e1 e2
      cases h
      exact .cons (is_of I hK r q e1) (all_of I hK rs qs e2)
    · cases h
end
end
end Sn
set_option Elab.async false
set_option linter.all false
set_option autoImplicit false
set_option maxRecDepth 100000
set_option maxHeartbeats 4000000
/-! sorted(set(..)). -/
namespace Sd
open PySem PySem.W PySem.Spec L2 Dn PyProof.Rows Sn
/-- how an element of the set is a datum -/
def Elt (c : Cn) (F : Addr → Prop) (H : Hp) (q : Value × NestedKey) (d : D) : Prop := (∃ v, RelV v q.1 ∧ RD c.G F H d v) ∧ keyD d = some q.2
/-- a set's object, its values aside -/
structure SObj (P : Program) (w : World) (o : Obj) (L : List (Value × NestedKey)) (es : Array (Int × Value)) (ep : Nat) (t : SetTable) : Prop where
  ex : o.ExactSet
  hd : o.data = .set es ep t
  row : es.toList = rwOf (nums P w) L
  tab : TabOk t (hsOf (nums P w) L)
  dis : (L.map (·.2)).Nodup
  pln : t.plain = true
  ldd : w.params.followText "set-order" = true ∨ t.led = true
  gap : L.length * 5 < t.mask * 3
  few : L.length < 64
theorem dep_le : ∀ {xs : List D} {d : D}, d ∈ xs → dep d ≤ deps xs
  | x :: xs, d, h => by
    rw [deps]
    rcases List.mem_cons.mp h with rfl | h
    · exact Nat.le_max_left _ _
    · exact Nat.le_trans (dep_le h) (Nat.le_max_right _ _)
theorem each_right {α β : Type} {R : α → β → Prop} : ∀ {as : List α} {bs : List β}, EachIs R as bs → ∀ b ∈ bs, ∃ a ∈ as, R a b
  | _, _, .nil, b, h => nomatch h
  | _, _, .cons r t, b, h => by
    rcases List.mem_cons.mp h with rfl | h
    · exact ⟨_, List.mem_cons_self, r⟩
    · obtain ⟨a, ha, k⟩ := each_right t b h
      exact ⟨a, List.mem_cons_of_mem _ ha, k⟩
theorem each_build {α β : Type} {R : α → β → Prop} : ∀ {as : List α}, (∀ a ∈ as, ∃ b, R a b) → ∃ bs, EachIs R as bs
  | [], _ => ⟨[], .nil⟩
  | a :: as, h => by
    obtain ⟨b, hb⟩ := h a List.mem_cons_self
    obtain ⟨bs, hs⟩ := each_build fun x hx => h x (List.mem_cons_of_mem _ hx)
    exact ⟨b :: bs, .cons hb hs⟩
theorem each_fst {α β γ : Type} {R : α → β → Prop} {f : γ → α} : ∀ {qs : List γ} {bs : List β}, EachIs (fun q b => R (f q) b) qs bs → EachIs R (qs.map f) bs
  | _, _, .nil => .nil
  | _, _, .cons r t => .cons r (each_fst t)
theorem each_perm {α β : Type} {R : α → β → Prop} {as cs : List α} (p : cs.Perm as) : ∀ {bs : List β}, EachIs R as bs → ∃ ds, ds.Perm bs ∧ EachIs R cs ds := by
  induction p with
  | nil => intro bs h; exact ⟨bs, List.Perm.refl _, h⟩
  | cons x _ ih =>
    intro bs h
    cases h with
    | cons r t =>
      obtain ⟨ds, h1, h2⟩ := ih t
      exact ⟨_ :: ds, h1.cons _, .cons r h2⟩
  | swap x y l =>
    intro bs h
    cases h with
    | cons r t =>
      cases t with
      | cons r2 t => exact ⟨_, List.Perm.swap _ _ _, .cons r2 (.cons r t)⟩
  | trans _ _ ih1 ih2 =>
    intro bs h
    obtain ⟨ds, h1, h2⟩ := ih2 h
    obtain ⟨es, h3, h4⟩ := ih1 h2
    exact ⟨es, h3.trans h1, h4⟩
section
variable {c : Cn} {F : Addr → Prop} {H : Hp}
theorem elts : ∀ {xs : List D} {ws : List V} {its : List Value} {kk : List NestedKey}, RDs c.G F H xs ws → Vals ws its → keysD xs = some kk → EachIs (Elt c F H) (its.zip kk) xs ∧ (its.zip kk).map (·.1) = its
  | _, _, _, _, .nil, .nil, h => by rw [keysD] at h; cases h; exact ⟨.nil, rfl⟩
  | d :: xs, _, _, kk, .cons r rs, .cons q qs, h => by
    rw [keysD] at h
    split at h
    · rename_i k ks e1 e2
      cases h
      obtain ⟨h1, h2⟩ := elts rs qs e2
      exact ⟨.cons ⟨⟨_, q, r⟩, e1⟩ h1, by rw [List.zip_cons_cons, List.map_cons, h2]⟩
    · cases h
theorem elts_nodup : ∀ {L : List (Value × NestedKey)} {ds : List D}, EachIs (Elt c F H) L ds → (L.map (·.2)).Nodup → ds.Nodup
  | _, _, .nil, _ => .nil
  | q :: L, d :: ds, .cons r t, n => by
    rw [List.map_cons] at n
    obtain ⟨n1, n2⟩ := List.nodup_cons.mp n
    refine List.nodup_cons.mpr ⟨fun hd => ?_, elts_nodup t n2⟩
    obtain ⟨q', hq', e⟩ := each_right t d hd
    have := r.2.symm.trans e.2
    exact n1 (List.mem_map.mpr ⟨q', hq', (Option.some.inj this).symm⟩)
end
section
variable {X : Cx} {c : Cn} {pins : List (Addr × Obj)} {σ : L2.St} {s : Shared} {F : Addr → Prop} {H : Hp}
theorem elt_is (I : Inv X pins σ H s) (hK : c.G.K = X.K) {q : Value × NestedKey} {d : D} (e : Elt c F H q d) (ht : isTup d = true) (hd : dep d ≤ 8) : (nums X.prog X.w).is s.heap q.2 q.1 := by
  obtain ⟨⟨v, rv, rd⟩, hk⟩ := e
  have f := keyD_facts hk
  refine ⟨is_of I hK rd rv hk, by rw [f.2]; exact hd, f.1, ?_⟩
  cases d <;> simp [isTup] at ht
  cases rd with
  | tup h r =>
    generalize q.1 = u at rv
    cases rv
    exact ⟨_, rfl⟩
def rSet (X : Cx) (c : Cn) : List V → Hp → VK → Prop := fun vs H Q => ∃ F xs ws a, vs = [.ref a] ∧ RDs c.G F H xs ws ∧ SqL c.G.K H a ws ∧ keyeds xs = true ∧ xs.all isTup = true ∧ deps xs ≤ 8 ∧ xs.length < 64 ∧
  ∀ b o L es ep t ds, H b = none → SObj X.prog X.w o L es ep t → EachIs (Elt c F H) L ds → ds.Nodup → (∀ d, d ∈ ds ↔ d ∈ xs) → Q (.ref b) (upd H b (.ext fun h => h.get? b = some o))
theorem cr_set (fit : Fit X c) (hc : X.calm = true) : CallR X (.type "set") (rSet X c) := by
  intro pins s σ H vs us Q I r ⟨F, xs, ws, a, ev, rs, sq, hk, ht, hd, hl, post⟩
  subst ev
  obtain ⟨its, rv, hlst, hz⟩ := I.list (fit.K ▸ sq)
  rw [Vals.ref1 r]
  obtain ⟨kk, ek⟩ := keyeds_some hk
  obtain ⟨e1, e2⟩ := elts rs rv ek
  have hlen : (its.zip kk).length = xs.length := e1.length
  have lim := fit.un
  have isq : ∀ q ∈ its.zip kk, (nums X.prog X.w).is s.heap q.2 q.1 := fun q hq => by
    obtain ⟨d, hd', e⟩ := e1.left q hq
    exact elt_is I fit.K.symm e (List.all_eq_true.mp ht d hd') (Nat.le_trans (dep_le hd') hd)
  refine Sn.of_list (I := nums X.prog X.w) (its.zip kk) (I.ok.hd hc) hlst.isList (by rw [e2]) isq (by omega) (by omega) fun h' tk L es ep t R g up => ?_
  obtain ⟨o, ho, ex, hdt⟩ := R.obj
  have fr : ∀ q ∈ L, q ∈ its.zip kk := fun q hq => by
    have := g.from_ q hq
    rwa [List.take_length] at this
  obtain ⟨ds, hds⟩ := each_build (R := fun q d => Elt c F H q d ∧ d ∈ xs) fun q hq => by
    obtain ⟨d, hd', e⟩ := e1.left q (fr q hq)
    exact ⟨d, e, hd'⟩
  have hds1 : EachIs (Elt c F H) L ds := hds.mono fun _ _ h => h.1
  refine ⟨.ref s.heap.objs.size, upd H s.heap.objs.size (.ext fun h => h.get? s.heap.objs.size = some o), ?_, rfl, ?_⟩
  · exact I.laid (t' := tk) up (Nat.le_refl _) ⟨ho, ⟨o, ho⟩, fun h1 h2 p k => k _ p⟩
  · refine post _ o L es ep t ds (I.hok.fresh (Nat.le_refl _)) ⟨ex, hdt, R.row, R.tab, R.dis, R.pln, R.ldd, R.gap, R.few⟩ hds1 (elts_nodup hds1 R.dis) fun d => ⟨fun h => ?_, fun h => ?_⟩
    · obtain ⟨q, hq, e⟩ := each_right hds d h
      exact e.2
    · obtain ⟨q, hq, e⟩ := each_right e1 d h
      have m := g.each q (by rw [List.take_length]; exact hq)
      obtain ⟨q', hq', e'⟩ := List.mem_map.mp m
      obtain ⟨d', hd', z⟩ := hds1.left q' hq'
      have : d' = d := keyD_inj (k := q.2) (by rw [← e']; exact z.2) e.2
      rw [← this]; exact hd'
def rSortSet (X : Cx) (c : Cn) : List V → Hp → VK → Prop := fun vs H Q => ∃ F b o L es ep t ds xs, vs = [.ref b] ∧ H b = some (.ext fun h => h.get? b = some o) ∧ SObj X.prog X.w o L es ep t ∧ EachIs (Elt c F H) L ds ∧ ds.Nodup ∧ (∀ d, d ∈ ds ↔ d ∈ xs) ∧
  allAlike xs = true ∧ keyeds xs = true ∧ xs.all isTup = true ∧ deps xs ≤ 8 ∧ Cl c F H ∧ PostV c .fr (.ok (.lst ((dedup xs).mergeSort leD))) F H Q
theorem cr_sortset (fit : Fit X c) (hc : X.calm = true) : CallR X (.builtin "sorted") (rSortSet X c) := by
  intro pins s σ H vs us Q I r ⟨F, b, o, L, es, ep, t, ds, xs, ev, hb, so, eL, nd, mem, hal, hk, ht, hd, cl, p⟩
  subst ev
  rw [Vals.ref1 r]
  have ho : s.heap.get? b = some o := (I.hok b _ hb).1
  have dm : ∀ d ∈ ds, d ∈ xs := fun d h => (mem d).mp h
  have R : Has (nums X.prog X.w) s.heap b L es ep t := ⟨⟨o, ho, so.ex, so.hd⟩, so.row, so.tab, so.dis, fun q hq => by
    obtain ⟨d, hd', e⟩ := eL.left q hq
    exact elt_is I fit.K.symm e (List.all_eq_true.mp ht d (dm d hd')) (Nat.le_trans (dep_le (dm d hd')) hd), so.pln, so.ldd, so.gap, so.few⟩
  have lim := fit.un
  refine Sn.sorted_set R (I.ok.hd hc) fun s1 ys k1 z1 g1 o1 pm => ?_
  have e0 : EachIs (fun u d => ∃ v, RelV v u ∧ RD c.G F H d v) (L.map (·.1)) ds := each_fst (eL.mono fun _ _ h => h.1)
  obtain ⟨ds', pd, ed⟩ := each_perm pm e0
  have dm' : ∀ d ∈ ds', d ∈ xs := fun d h => dm d (pd.mem_iff.mp h)
  have old : ∀ (x : Addr) (u : Obj), s.heap.get? x = some u → (sortingHeap (s1.heap.push (seqObj "list" ys.toArray 0)) s1.heap.objs.size ys).get? x = some u := fun x u e => by
    have e1 := k1 x u e
    exact sortingHeap_old (Nat.ne_of_lt (Heap.lt_size e1)) (Heap.get?_push_of_some _ e1)
  have er : EachIs (fun v d => ∃ as, Reads (sortingHeap (s1.heap.push (seqObj "list" ys.toArray 0)) s1.heap.objs.size ys) v (py d) as) ys ds' := by
    refine (PySem.W.each_mem ed).mono fun u d ⟨⟨v, q, r⟩, hd'⟩ => ?_
    obtain ⟨as, rr⟩ := Dp.reads I (py d) v u (fit.K ▸ r.dp (eqOk_shaped (ltOk_parts (allAlike_at hal (dm' d hd') (dm' d hd'))).1).1) q
    exact ⟨as, PyProof.Rows.Reads.keeps old rr⟩
  have hal' : AllAlike (ds'.map py) := by
    intro x hx y hy
    obtain ⟨d1, m1, rfl⟩ := List.mem_map.mp hx
    obtain ⟨d2, m2, rfl⟩ := List.mem_map.mp hy
    exact (ltOk_parts (allAlike_at hal (dm' _ m1) (dm' _ m2))).2.2.1
  have tups : ∀ x ∈ ds'.map py, ∃ zs, x = .tuple zs := fun x hx => by
    obtain ⟨d1, m1, rfl⟩ := List.mem_map.mp hx
    have := List.all_eq_true.mp ht d1 (dm' _ m1)
    cases d1 <;> simp [isTup] at this
    exact ⟨_, by rw [py]⟩
  have room : ∀ x ∈ ds'.map py, X.A.in1.in1.units + x.depth < cLine := fun x hx => by
    obtain ⟨d1, m1, rfl⟩ := List.mem_map.mp hx
    have := (eqOk_shaped (ltOk_parts (allAlike_at hal (dm' _ m1) (dm' _ m1))).1).2.2
    simp only [Around.in1_units]
    omega
  refine ⟨dataKind (sortingHeap (s1.heap.push (seqObj "list" ys.toArray 0)) s1.heap.objs.size ys) (ds'.map py), ?_, ?_⟩
  · by_cases hm : ∃ d ∈ ds'.map py, d = .tuple []
    · exact Ss.sorts_mix (s := { s1 with heap := sortingHeap (s1.heap.push (seqObj "list" ys.toArray 0)) s1.heap.objs.size ys }) (each_map (R := fun v d => ∃ as, Reads (sortingHeap (s1.heap.push (seqObj "list" ys.toArray 0)) s1.heap.objs.size ys) v d as) py er) hal' tups hm room
    · refine SortsAt.data (s := { s1 with heap := sortingHeap (s1.heap.push (seqObj "list" ys.toArray 0)) s1.heap.objs.size ys }) (each_map (R := fun v d => ∃ as, Reads (sortingHeap (s1.heap.push (seqObj "list" ys.toArray 0)) s1.heap.objs.size ys) v d as) py er) hal' (.inl fun d hd' => ?_) room
      obtain ⟨zs, rfl⟩ := tups d hd'
      cases zs with
      | nil => exact absurd ⟨_, hd', rfl⟩ hm
      | cons x zs => exact ⟨x, zs, rfl⟩
  · have h2 := sortVals_data (R := fun u d => ∃ v, RelV v u ∧ RD c.G F H d v) false ed er hal'
    generalize hout : sortVals (dataKind (sortingHeap (s1.heap.push (seqObj "list" ys.toArray 0)) s1.heap.objs.size ys) (ds'.map py)) false ys ys = out at h2
    obtain ⟨vs2, rs2, q2⟩ := of_each h2
    obtain ⟨e', he'⟩ := sortedHeap_at (vs := ys) (out := out.toArray) (h := s1.heap.push (seqObj "list" ys.toArray 0)) (n := 0) (Heap.get?_push_size _ rfl)
    have hn : H s1.heap.objs.size = none := I.hok.fresh z1
    have hlen : vs2.length ≤ sizeLine := by
      rw [q2.length, h2.length, List.length_mergeSort, pd.length_eq, ← eL.length, sizeLine_eq]
      have := so.few
      omega
    have kept : ∀ (x : Addr) (u : Obj), s.heap.get? x = some u → (sortedHeap (s1.heap.push (seqObj "list" ys.toArray 0)) s1.heap.objs.size ys out.toArray).get? x = some u := fun x u e => by
      have e1 := k1 x u e
      have lt := Heap.lt_size e1
      rw [sortedHeap_old (Nat.ne_of_lt lt) (by rw [Heap.size_push]; exact Nat.lt_succ_of_lt lt)]
      exact Heap.get?_push_of_some _ e1
    have new : ObjOk X.prog X.w (upd H s1.heap.objs.size (.lst vs2)) (sortedHeap (s1.heap.push (seqObj "list" ys.toArray 0)) s1.heap.objs.size ys out.toArray) s1.heap.objs.size (.lst vs2) := ⟨hlen, out, e', q2, he'⟩
    refine ⟨.ref s1.heap.objs.size, upd H s1.heap.objs.size (.lst vs2), ?_, rfl, ?_⟩
    · refine I.call' (s' := { s1 with heap := sortedHeap (s1.heap.push (seqObj "list" ys.toArray 0)) s1.heap.objs.size ys out.toArray }) (ch := []) o1 (Un.laid kept z1 hn) (I.hok.laid kept z1 new) (by rw [g1]; exact I.bare) fun _ h => (by cases h)
    · have one := sset_one (ys := ds') hk hal (pd.nodup_iff.mpr nd) fun d => (pd.mem_iff).trans (mem d)
      rw [← one, leD_eq] at p
      exact p.lst cl rs2 hn
theorem d_sset {own : Md} {pos pos2 p p2 : Pos} {e : Expr} {es : List Expr} {ies : List IE} (fit : Fit X c) (hg : L2.Gl X "sorted") (hc : X.calm = true) (hm : X.mg "sorted" = none) (hg2 : L2.Gl X "set") (hm2 : X.mg "set" = none) (ha : DA X c .rd (e :: es) ies)
    (he : starEach (e :: es) X.env = (false, PySem.eval e X.env) :: starEach es X.env := by rfl) (hpl : (backTo pos2 (starEach es X.env)).any (·.1) = false := by rfl)
    (he2 : starEach [Expr.Call (.Name "set" p2) (e :: es) [] pos2] X.env = (false, PySem.eval (.Call (.Name "set" p2) (e :: es) [] pos2) X.env) :: starEach [] X.env := by rfl) (hpl2 : (backTo pos (starEach [] X.env)).any (·.1) = false := by rfl) :
    DE X c own (.Call (.Name "sorted" p) [.Call (.Name "set" p2) (e :: es) [] pos2] [] pos) (.bi .sset ies) :=
  DE.any ⟨(pe_callB (cr_sortset fit hc) hg hm (by rfl) (pa_cons (pe_callTy (cr_set fit hc) hg2 hm2 (by rfl) ha.pa (by decide) (by decide) he hpl) pa_nil he2) (by decide) (by decide) he2 hpl2).of fun σ H Q ⟨ρ, F, E, p⟩ => EA E p fun ds vs F1 H1 q g1 E1' r1 p1 => by
    obtain ⟨d, v, rfl, rfl, r, p2⟩ := bi1 rfl (fun d _ _ => by cases d <;> rfl) r1 p1
    simp only [built] at p2
    split at p2
    · rename_i xs hx
      obtain ⟨a, ws, rfl, rs, sq⟩ := r.listed hx
      split at p2
      · rename_i hh
        simp only [Bool.and_eq_true, decide_eq_true_eq] at hh
        obtain ⟨⟨⟨⟨h1, h2⟩, h3⟩, h4⟩, h5⟩ := hh
        refine ⟨F1, xs, ws, a, rfl, rs, sq, h2, h3, h4, h5, fun b o L es ep t ds hb so eL nd mem => ?_⟩
        have gr : Grow F1 H1 F1 (upd H1 b (.ext fun h => h.get? b = some o)) := .laid hb
        refine ⟨F1, b, o, L, es, ep, t, ds, xs, rfl, upd_same, so, eL.mono fun q d h => ⟨let ⟨v, h1, h2⟩ := h.1; ⟨v, h1, h2.mono gr⟩, h.2⟩, nd, mem, h1, h2, h3, h4, (E1'.mono gr).cl, ?_⟩
        exact fun v F2 H2 g2 r => p2 v F2 H2 (gr.trans g2) (r.free gr)
      · exact p2.elim
    · exact p2.elim⟩
end
end Sd
set_option Elab.async false
set_option linter.all false
set_option autoImplicit false
set_option maxRecDepth 100000
set_option maxHeartbeats 4000000
/-! Short names for the printed terms. -/
namespace Sd
open PySem L2 Dn PyProof.Rows
section
variable {X : Cx} {c : Cn} {own : Md} {pos pos' p1 p2 p3 : Pos} {x : Str} {k : Nat}
theorem v (i : Nat) (hN : X.N[i]? = some x := by rfl) (hv : Vis X.env.scope x := by first | exact .inl rfl | exact .inr (.inl rfl) | exact .inr (.inr rfl)) (ho : own ≠ .fr := by decide) (hm : c.M.contains i = false := by rfl)
    (hd : (x == ("__debug__" : Str)) = false := by decide) (hcd : (x == ("__classdict__" : Str)) = false := by decide) : DE X c own (.Name x pos) (.var i) := d_var hN hv ho hm hd hcd
theorem vo (i : Nat) (hN : X.N[i]? = some x := by rfl) (hv : Vis X.env.scope x := by first | exact .inl rfl | exact .inr (.inl rfl) | exact .inr (.inr rfl))
    (hd : (x == ("__debug__" : Str)) = false := by decide) (hcd : (x == ("__classdict__" : Str)) = false := by decide) : DE X c .rd (.Name x pos) (.var i) := d_varO hN hv hd hcd
theorem g (i : Nat) (hN : X.N.Nodup) (hi : X.N[i]? = some x := by rfl) (hx : Loc X.env.scope x := by first | exact .inl rfl | exact .inr rfl) (hm : c.M.contains i = false := by rfl) (hf : X.fn x = true ∨ X.env.scope.names.lookup x = some .local := by first | exact .inl rfl | exact .inr rfl) : DG X c (.Name x pos) (.nm i) := dg_nm hN hi hx hm hf
theorem st_set {e : Expr} {ie : IE} (i : Nat) (hN : X.N.Nodup) (he : DE X c .st e ie) (hi : X.N[i]? = some x := by rfl) (hx : Loc X.env.scope x := by first | exact .inl rfl | exact .inr rfl) (hm : c.M.contains i = false := by rfl) (hs : swapsWith e (some (.Name x pos')) pos.line X.env = pure false := by rfl) (hf : X.fn x = true ∨ X.env.scope.names.lookup x = some .local := by first | exact .inl rfl | exact .inr rfl) :
    DS X c (.Assign [.Name x pos'] e pos) (.asg (.nm i) ie) := ds_set hN hi hx he hm hs hf
theorem st_setF {e : Expr} {ie : IE} (i : Nat) (hN : X.N.Nodup) (he : DE X c .fr e ie) (h0 : i ≠ 0 := by decide) (hi : X.N[i]? = some x := by rfl) (hx : Loc X.env.scope x := by first | exact .inl rfl | exact .inr rfl) (hm : c.M.contains i = true := by rfl) (hs : swapsWith e (some (.Name x pos')) pos.line X.env = pure false := by rfl) (hf : X.fn x = true ∨ X.env.scope.names.lookup x = some .local := by first | exact .inl rfl | exact .inr rfl) :
    DS X c (.Assign [.Name x pos'] e pos) (.asgF i ie) := ds_setF hN hi hx he h0 hm hs hf
theorem st_setLc {elt tg iter : Expr} {ifs : List Expr} {scope : Scope} {t : Tg} {ie it : IE} {ic : Option IE} {y : Str} {py : Pos} {spos : Pos} (i : Nat) (own : List (Str × Nat)) (hc : X.calm = true) (hN : X.N.Nodup) (hi : DI X c tg iter it)
    (hg : ∀ (s : Shared) (H : Hp) (C : Addr) (cl : List (Str × Addr)) (fp : List Addr), DG (X.blk s H scope (compEnvC scope cl C X.env) fp) c.hush tg t) (ht : ∀ (s : Shared) (H : Hp) (C : Addr) (cl : List (Str × Addr)) (fp : List Addr), DTs (X.blk s H scope (compEnvC scope cl C X.env) fp) c.hush ifs ic)
    (he : ∀ (s : Shared) (H : Hp) (C : Addr) (cl : List (Str × Addr)) (fp : List Addr), DE (X.blk s H scope (compEnvC scope cl C X.env) fp) c.hush .st elt ie) (hy : X.N[i]? = some y := by rfl) (hyl : X.env.scope.names.lookup y = some .local := by rfl) (hm : c.M.contains i = false := by rfl)
    (hsw : swapsWith (.ListComp elt [⟨tg, iter, ifs, 0⟩] scope pos) (some (.Name y py)) spos.line X.env = pure true := by exact sw_true rfl rfl rfl rfl) (ok : BlkOk X.N X.env.scope scope own := by exact blkOk_by rfl) (ho : own.map (·.2) = tgs t := by rfl) (hs : ∀ x, foldedSetIterable iter X.env x = pure x := by intro _; rfl) :
    DS X c (.Assign [.Name y py] (.ListComp elt [⟨tg, iter, ifs, 0⟩] scope pos) spos) (.asg (.nm i) (.lc ie t it ic)) := ds_setLc hc hN hy hyl hm hsw hi ok ho hg ht he hs
theorem lc {elt tg iter : Expr} {ifs : List Expr} {scope : Scope} {t : Tg} {ie it : IE} {ic : Option IE} {m : Md} (own : List (Str × Nat)) (hc : X.calm = true) (hN : X.N.Nodup) (hi : DI X c tg iter it)
    (hg : ∀ (s : Shared) (H : Hp) (C : Addr) (cl : List (Str × Addr)) (fp : List Addr), DG (X.blk s H scope (compEnvC scope cl C X.env) fp) c.hush tg t) (ht : ∀ (s : Shared) (H : Hp) (C : Addr) (cl : List (Str × Addr)) (fp : List Addr), DTs (X.blk s H scope (compEnvC scope cl C X.env) fp) c.hush ifs ic)
    (he : ∀ (s : Shared) (H : Hp) (C : Addr) (cl : List (Str × Addr)) (fp : List Addr), DE (X.blk s H scope (compEnvC scope cl C X.env) fp) c.hush .st elt ie) (ok : BlkOk X.N X.env.scope scope own := by exact blkOk_by rfl) (ho : own.map (·.2) = tgs t := by rfl) (hs : ∀ x, foldedSetIterable iter X.env x = pure x := by intro _; rfl) :
    DE X c m (.ListComp elt [⟨tg, iter, ifs, 0⟩] scope pos) (.lc ie t it ic) := d_lc hc hN hi ok ho hg ht he hs
theorem st_app {e : Expr} {ie : IE} {apos cpos : Pos} (i : Nat) (he : DE X c .st e ie) (hN : X.N[i]? = some x := by rfl) (hv : Vis X.env.scope x := by first | exact .inl rfl | exact .inr (.inl rfl) | exact .inr (.inr rfl)) (hm : c.M.contains i = true := by rfl) (hd : (x == ("__debug__" : Str)) = false := by decide) (hcd : (x == ("__classdict__" : Str)) = false := by decide)
    (hse : starEach [e] X.env = (false, PySem.eval e X.env) :: starEach [] X.env := by rfl)
    (hs : swapsWith (.Call (.Attribute (.Name x p1) "append" apos) [e] [] cpos) none pos.line X.env = pure false := by rfl) (hbase : attributeBase (.Name x p1) "append" X.env (PySem.eval (.Name x p1) X.env) = PySem.eval (.Name x p1) X.env := by rfl)
    (hfew : ((backTo cpos (starEach [e] X.env)).all (fun x => !x.1) && (backToKw cpos (keywordEach [] X.env)).all (fun x => x.1.isSome)
      && decide ([e].length + ([] : List Keyword).length + (if ([] : List Keyword).isEmpty then 0 else 1) < 30)) = true := by rfl)
    (hline : (apos.endLine == cpos.line) = true := by rfl) (hplain : (backTo cpos (starEach [] X.env)).any (·.1) = false := by rfl) :
    DS X c (.Expr (.Call (.Attribute (.Name x p1) "append" apos) [e] [] cpos) pos) (.app i ie) := ds_app hN hv he hm hd hcd hse hs hbase hfew hline hplain
theorem st_pop {y : Str} {apos cpos : Pos} (j i : Nat) (hN : X.N.Nodup) (hj : X.N[j]? = some y := by rfl) (hy : Loc X.env.scope y := by first | exact .inl rfl | exact .inr rfl) (hi : X.N[i]? = some x := by rfl) (hv : Vis X.env.scope x := by first | exact .inl rfl | exact .inr (.inl rfl) | exact .inr (.inr rfl)) (hm : c.M.contains i = true := by rfl) (hm2 : c.M.contains j = false := by rfl) (hd : (x == ("__debug__" : Str)) = false := by decide) (hcd : (x == ("__classdict__" : Str)) = false := by decide)
    (hs : swapsWith (.Call (.Attribute (.Name x p1) "pop" apos) [] [] cpos) (some (.Name y pos')) pos.line X.env = pure false := by rfl) (hf : X.fn y = true ∨ X.env.scope.names.lookup y = some .local := by first | exact .inl rfl | exact .inr rfl)
    (hbase : attributeBase (.Name x p1) "pop" X.env (PySem.eval (.Name x p1) X.env) = PySem.eval (.Name x p1) X.env := by rfl) (hline : (apos.endLine == cpos.line) = true := by rfl) :
    DS X c (.Assign [.Name y pos'] (.Call (.Attribute (.Name x p1) "pop" apos) [] [] cpos) pos) (.pop j i) := ds_pop hN hj hy hi hv hm hm2 hd hcd hs hf hbase hline
theorem st_sat {e : Expr} {ie : IE} {f : Str} (i n : Nat) (fit : Fit X c) (he : DE X c .st e ie) (hF : c.G.F n = f := by rfl) (hi : X.N[i]? = some x := by rfl) (hv : Vis X.env.scope x := by first | exact .inl rfl | exact .inr (.inl rfl) | exact .inr (.inr rfl)) (hm : c.M.contains i = true := by rfl) (hd : (x == ("__debug__" : Str)) = false := by decide) (hcd : (x == ("__classdict__" : Str)) = false := by decide)
    (hs : swapsWith e (some (.Attribute (.Name x p1) f pos')) pos.line X.env = pure false := by rfl) : DS X c (.Assign [.Attribute (.Name x p1) f pos'] e pos) (.sat i n ie) := ds_sat fit hF hi hv he hm hd hcd hs
theorem st_aat {e : Expr} {ie : IE} {f : Str} (i n : Nat) (fit : Fit X c) (he : DE X c .rd e ie) (hF : c.G.F n = f := by rfl) (hi : X.N[i]? = some x := by rfl) (hv : Vis X.env.scope x := by first | exact .inl rfl | exact .inr (.inl rfl) | exact .inr (.inr rfl)) (hm : c.M.contains i = true := by rfl) (hd : (x == ("__debug__" : Str)) = false := by decide) (hcd : (x == ("__classdict__" : Str)) = false := by decide) :
    DS X c (.AugAssign (.Attribute (.Name x p1) f pos') .Add e pos) (.aat i n .add ie) := ds_aat fit hF hi hv he hm hd hcd
theorem st_retO (i : Nat) (hP : c.P = [] := by rfl) (hN : X.N[i]? = some x := by rfl) (hv : Vis X.env.scope x := by first | exact .inl rfl | exact .inr (.inl rfl) | exact .inr (.inr rfl)) (hm : c.M.contains i = true := by rfl) (hd : (x == ("__debug__" : Str)) = false := by decide) (hcd : (x == ("__classdict__" : Str)) = false := by decide) :
    DS X c (.Return (some (.Name x pos')) pos) (.ret (.var i)) := ds_retO hP hN hv hm hd hcd
theorem st_ical {y gn : Str} {es : List Expr} {ies : List IE} {k np : Nat} {p cpos : Pos} (j i : Nat) (fit : Fit X c) (hN : X.N.Nodup) (co : CalO X gn (spI c.G (c.C.io k) np)) (hg : L2.Gl X gn) (ha : DA X c .st es ies) (hj : X.N[j]? = some y := by rfl) (hy : Loc X.env.scope y := by first | exact .inl rfl | exact .inr rfl) (hi : X.N[i]? = some x := by rfl) (hv : Vis X.env.scope x := by first | exact .inl rfl | exact .inr (.inl rfl) | exact .inr (.inr rfl))
    (hn : ies.length + 1 = np := by rfl) (hm : c.M.contains i = true := by rfl) (hm2 : c.M.contains j = false := by rfl) (hd : (x == ("__debug__" : Str)) = false := by decide) (hcd : (x == ("__classdict__" : Str)) = false := by decide) (hdb : (gn == ("__debug__" : Str)) = false := by decide)
    (he : starEach (.Name x p1 :: es) X.env = (false, PySem.eval (.Name x p1) X.env) :: starEach es X.env := by rfl) (hpl : (backTo cpos (starEach es X.env)).any (·.1) = false := by rfl)
    (hs : swapsWith (.Call (.Name gn p) (.Name x p1 :: es) [] cpos) (some (.Name y pos')) pos.line X.env = pure false := by rfl) (hf : X.fn y = true ∨ X.env.scope.names.lookup y = some .local := by first | exact .inl rfl | exact .inr rfl) :
    DS X c (.Assign [.Name y pos'] (.Call (.Name gn p) (.Name x p1 :: es) [] cpos) pos) (.ical (.tg (.nm j)) k i ies) := ds_ical fit hN hj hy co hg hi hv ha hn hm hm2 hd hcd hdb he hpl hs hf
theorem st_imth {m y : Str} {np : Nat} {pl : Sem Bool} {e0 : Expr} {es : List Expr} {ies : List IE} {apos cpos : Pos} (j i n : Nat) (fit : Fit X c) (hN : X.N.Nodup) (co : MthsI X c n np m) (ha : DA X c .st (e0 :: es) ies) (hj : X.N[j]? = some y := by rfl) (hy : Loc X.env.scope y := by first | exact .inl rfl | exact .inr rfl) (hi : X.N[i]? = some x := by rfl) (hv : Vis X.env.scope x := by first | exact .inl rfl | exact .inr (.inl rfl) | exact .inr (.inr rfl))
    (hn : ies.length + 1 = np := by rfl) (hm : c.M.contains i = true := by rfl) (hm2 : c.M.contains j = false := by rfl) (hd : (x == ("__debug__" : Str)) = false := by decide) (hcd : (x == ("__classdict__" : Str)) = false := by decide)
    (hst : starEach (e0 :: es) X.env = (false, PySem.eval e0 X.env) :: starEach es X.env := by rfl) (hpl : (backTo cpos (starEach es X.env)).any (·.1) = false := by rfl)
    (ht : PySem.eval (.Call (.Attribute (.Name x p1) m apos) (e0 :: es) [] cpos) X.env = (do
      let ov ← PySem.eval (.Name x p1) X.env
      standAt apos.atName
      let (f, first) ← holding [ov] (getMethod ov m pl)
      callWith cpos f first (backTo cpos (starEach (e0 :: es) X.env)) (backToKw cpos (keywordEach [] X.env))) := by rfl)
    (hs : swapsWith (.Call (.Attribute (.Name x p1) m apos) (e0 :: es) [] cpos) (some (.Name y pos')) pos.line X.env = pure false := by rfl) (hf : X.fn y = true ∨ X.env.scope.names.lookup y = some .local := by first | exact .inl rfl | exact .inr rfl) :
    DS X c (.Assign [.Name y pos'] (.Call (.Attribute (.Name x p1) m apos) (e0 :: es) [] cpos) pos) (.imth (.tg (.nm j)) n i ies) := ds_imth fit hN hj hy co hi hv ha hn hm hm2 hd hcd hst hpl ht hs hf
theorem Fit.wM {M : List Nat} (fit : Fit X c) : Fit X (c.wM M) := ⟨fit.ok, fit.K, fit.mg, fit.un, fit.tk⟩
theorem Mths.one {n np k0 f0 : Nat} {m : Str} (hT : ∀ k f, c.G.T.meth k n = some f → k = k0 ∧ f = f0) (ho : MetO X (c.G.C k0) m (spP c.G (c.C.pure f0) np)) (hi : (c.G.T.init k0).isSome = true := by rfl) (hx : m ∉ (c.G.T.flds k0).map c.G.F := by exact of_decide_eq_true rfl) : Mths X c n np m := fun k f h => by
  obtain ⟨rfl, rfl⟩ := hT k f h
  exact ⟨hi, ho, hx⟩
theorem MthsI.one {n np k0 f0 : Nat} {m : Str} (hT : ∀ k f, c.G.T.meth k n = some f → k = k0 ∧ f = f0) (ho : MetO X (c.G.C k0) m (spI c.G (c.C.io f0) np)) (hi : (c.G.T.init k0).isSome = true := by rfl) (hx : m ∉ (c.G.T.flds k0).map c.G.F := by exact of_decide_eq_true rfl) : MthsI X c n np m := fun k f h => by
  obtain ⟨rfl, rfl⟩ := hT k f h
  exact ⟨hi, ho, hx⟩
theorem Prps.one {n k0 f0 : Nat} {m : Str} (hT : ∀ k f, c.G.T.prop k n = some f → k = k0 ∧ f = f0) (ho : PrpO X (c.G.C k0) m (spP c.G (c.C.pure f0) 1)) (hi : (c.G.T.init k0).isSome = true := by rfl) : Prps X c n m := fun k f h => by
  obtain ⟨rfl, rfl⟩ := hT k f h
  exact ⟨hi, ho⟩
def clsBody (s : Stmt) : List Stmt := match s with
  | .ClassDef _ _ _ b _ _ _ _ _ _ _ => b
  | _ => []
/-- a def of the module -/
structure CalF (P : Program) (w : World) (G : Gl) (base : Heap) (k : Nat) (x : Str) (sp : Sp) : Prop where
  ex : ∃ f fd ps, FnOk P w G.K G.mg base (L2.CX P w) k f fd ps sp ∧ G.mg x = some (.ref f) ∧ PySem.W.keepIn G.K (.ref f) = true ∧ Binds G.K fd ps []
structure MetF (P : Program) (w : World) (G : Gl) (base : Heap) (k : Nat) (C : Addr) (m : Str) (sp : Sp) : Prop where
  ex : ∃ f fd ps, FnOk P w G.K G.mg base (L2.CX P w) k f fd ps sp ∧ Meth G.K C m f ∧ Binds G.K fd ps []
structure MakF (P : Program) (w : World) (G : Gl) (base : Heap) (k : Nat) (x : Str) (C : Addr) (sp : Sp) : Prop where
  ex : ∃ f fd ps, FnOk P w G.K G.mg base (L2.CX P w) k f fd ps sp ∧ G.mg x = some (.ref C) ∧ Mk G.K C f ∧ Binds G.K fd ps []
structure PrpF (P : Program) (w : World) (G : Gl) (base : Heap) (k : Nat) (C : Addr) (f : Str) (sp : Sp) : Prop where
  ex : ∃ p g fd ps, FnOk P w G.K G.mg base (L2.CX P w) k g fd ps sp ∧ PropOf G.K C f p g ∧ Binds G.K fd ps []
end
section
variable {P : Program} {w : World} {G : Gl} {base : Heap} {j k : Nat} {x : Str} {sp : Sp} {C : Addr} {m : Str} {N : List Str} {qual : Str} {scope : Scope} {f : Addr} {cdv : Value} {A : Around} {outer : List PySem.Env} {s : Shared} {H : Hp} {E : XK}
theorem CalF.o (h : CalF P w G base j x sp) (hr : Room k (bodyX P w G base N qual scope f cdv A outer s H E).A) (hj : j ≤ k := by omega) : CalO (bodyX P w G base N qual scope f cdv A outer s H E) x sp := by
  obtain ⟨f, fd, ps, h1, h2, h3, h4⟩ := h.ex
  exact ⟨⟨j, f, fd, ps, h1, hr.mono hj, h2, h3, h4⟩⟩
theorem MetF.o (h : MetF P w G base j C m sp) (hr : Room k (bodyX P w G base N qual scope f cdv A outer s H E).A) (hj : j ≤ k := by omega) : MetO (bodyX P w G base N qual scope f cdv A outer s H E) C m sp := by
  obtain ⟨f, fd, ps, h1, h2, h3⟩ := h.ex
  exact ⟨⟨j, f, fd, ps, h1, hr.mono hj, h2, h3⟩⟩
theorem MakF.o (h : MakF P w G base j x C sp) (hr : Room k (bodyX P w G base N qual scope f cdv A outer s H E).A) (hj : j + 1 ≤ k := by omega) : MakO (bodyX P w G base N qual scope f cdv A outer s H E) x C sp := by
  obtain ⟨f, fd, ps, h1, h2, h3, h4⟩ := h.ex
  exact ⟨⟨j, f, fd, ps, h1, hr.mono hj, h2, h3, h4⟩⟩
theorem PrpF.o (h : PrpF P w G base j C m sp) (hr : Room k (bodyX P w G base N qual scope f cdv A outer s H E).A) (hj : j + 1 ≤ k := by omega) : PrpO (bodyX P w G base N qual scope f cdv A outer s H E) C m sp := by
  obtain ⟨p, g, fd, ps, h1, h2, h3⟩ := h.ex
  exact ⟨⟨j, p, g, fd, ps, h1, hr.mono hj, h2, h3⟩⟩
structure EqoF (P : Program) (w : World) (G : Gl) (base : Heap) (k : Nat) (C : Addr) (sp : Sp) : Prop where
  ex : ∃ f fd ps, FnOk P w G.K G.mg base (L2.CX P w) k f fd ps sp ∧ PySem.W.findIn G.K (.ref C) "__eq__" = some (some (.ref f)) ∧ PySem.W.isFn G.K (.ref f) = true ∧ Binds G.K fd ps []
theorem EqoF.o (h : EqoF P w G base j C sp) (hr : Room k (bodyX P w G base N qual scope f cdv A outer s H E).A) (hj : j ≤ k := by omega) : EqoO (bodyX P w G base N qual scope f cdv A outer s H E) C sp := by
  obtain ⟨f, fd, ps, h1, h2, h3, h4⟩ := h.ex
  exact ⟨⟨j, f, fd, ps, h1, hr.mono hj, h2, h3, h4⟩⟩
/-- C(e) makes an exception with one field -/
structure ExF (P : Program) (w : World) (G : Gl) (base : Heap) (k : Nat) (x : Str) (C : Addr) (f : Str) : Prop where
  all : ∀ X : Cx, X.prog = P → X.w = w → X.K = G.K → X.mg = G.mg → X.base = base → Room k X.A → L2.Gl X x → ExO X x C f
theorem ExF.o (h : ExF P w G base j x C m) (hr : Room k (bodyX P w G base N qual scope f cdv A outer s H E).A) (hg : L2.Gl (bodyX P w G base N qual scope f cdv A outer s H E) x := by rfl) (hj : j ≤ k := by omega) : ExO (bodyX P w G base N qual scope f cdv A outer s H E) x C m :=
  h.all _ rfl rfl rfl rfl rfl (hr.mono hj) hg
structure ConF (K : PySem.W.Frag) (C : Addr) (f : Str) (i : Int) : Prop where
  ex : ∃ mc u, ClX.CRead K C mc ∧ ClX.CVal K C mc f (.int i) u
theorem d_conF {X : Cx} {c : Cn} {own : Md} {C : Addr} {i : Int} {f x : Str} {p pos : Pos} (hK : X.K = c.G.K) (h : ConF X.K C f i) (hm : X.mg x = some (.ref C)) (hg : L2.Gl X x := by rfl) (hd : (x == ("__debug__" : Str)) = false := by decide)
    (hb : attributeBase (.Name x p) f X.env (PySem.eval (.Name x p) X.env) = PySem.eval (.Name x p) X.env := by rfl) : DE X c own (.Attribute (.Name x p) f pos) (.int i) := by
  obtain ⟨mc, u, r, k⟩ := h.ex
  exact d_con hK hg hm r k hd hb
end
end Sd
set_option Elab.async false
set_option linter.all false
set_option autoImplicit false
set_option maxRecDepth 100000
set_option maxHeartbeats 4000000
/-! An own exception over an own base, whose __init__ says super().__init__('..') and stores its one argument. -/
namespace Sd
open PySem PySem.Spec L2 Dn PyProof.Rows NdefX
section
open PySem.W PySem.Calls
variable {prog : Program} {w : World} {A : Around} {E : Value → Shared → Prop} {h : Heap} {g : Array GenState} {d : Drawn} {t : Nat} {os : OsState}
variable {nm q : Str} {C N : Addr} {bs bm : List Value} {hdct : Bool} {sn : List Str} {sub : List Value} {ab : Bool} {col : Option Bool} {dd : Option Addr} {k0 k1 k2 k3 k5 : Option Value}
/-- ValueError.__init__, bound, called -/
theorem bound_call {u e t0 : Addr} {rest : List Value} {Q : Value → Shared → Prop}
    (hC : h.get? C = some (excClassObj nm q C N bs bm hdct sn sub ab col dd k0 k1 k2 k3 k5 "ValueError.__new__")) (he : h.get? e = some (HandSPX.excO C t0)) (hu : h.get? u = some (kxs_mw "ValueError.__init__" e)) (hrest : rest.length ≤ sizeLine)
    (hq : ∀ h' t1, (∀ b o, b ≠ e → h.get? b = some o → h'.get? b = some o) → h'.get? e = some (HandSPX.excO C t1) → Q .none ⟨h', g, d, t, os⟩) :
    wpAny (model prog w) A (call (.ref u) rest) Q E ⟨h, g, d, t, os⟩ := by
  have way : (Value.type "method-wrapper" == Value.type "method" || Value.type "method-wrapper" == Value.type "builtin_function_or_method" || Value.type "method-wrapper" == Value.type "method-wrapper") = true := by decide
  refine wpAny_call (codeAny_of_tree (show wpAny _ A.in1 (callAny (.ref u) ⟨rest, []⟩) _ _ _ from ?_))
  unfold callAny
  refine wpAny_bind (wpAny_load hu ?_)
  dsimp only
  simp only [way, if_true]
  refine W.KFB.if_so (by decide) (wpAny_bind (ESX.check_bound F.excBase_ValueError hC he rfl (wpAny_bind (wpAny_pure (wpAny_pure ?_)))))
  refine ⟨Code.quiet_builtin _ (by decide +kernel), codeAny_builtin F.excBase_ValueError.initEntry ?_⟩
  rw [Around.under_plainId F.excBase_ValueError.init.plain _]
  wp_walk
  refine hq _ h.objs.size (fun b o hb ho => (Heap.get?_update_other _ _ (Ne.symm hb)).trans (Heap.get?_push_of_some _ ho)) ?_
  rw [Heap.get?_update_self _ (Heap.get?_push_of_some _ he) rfl]
  rfl
end
/-- where the __init__ stands, what it is -/
structure SupD where
  name : Str
  qual : Str
  params : Arguments
  body : List Stmt
  scope : Scope
  fld : Str
/-- what the written part says of the class at C and its __init__ at f -/
structure SupC (P : Program) (K : PySem.W.Frag) (D : SupD) (C f : Addr) : Prop where
  ox : OexC K C
  fn : ∃ oc od osl kV doc pm an ct cda cc, K.lookup f = some ⟨oc, od, .func (PySem.W.ksFn D.name D.qual D.params D.body D.scope .none kV doc pm an (.ref cda) ct cc), osl⟩ ∧ PySem.W.codeIn K (.ref cda) D.qual = true ∧
    (∃ cl cld csl, K.lookup cc = some ⟨cl, cld, .cell (some (.ref C)), csl⟩) ∧ ∃ ccl cdd vs ccs file tf, K.lookup cda = some ⟨ccl, cdd, .fields vs, ccs⟩ ∧ vs[2]? = some (.str file tf) ∧ ((P.main.file : Str) == file) = true
  cls : ∃ cd, PySem.W.clsIn K C = some cd
  sup : PySem.W.nsIn K mainGlobals "super" = some none
  tp : PySem.W.nsIn K cStatics "thirdparty.any" = some none
  mr : PySem.W.mroIn K C (.ref C) = some true
  ve : PySem.W.subIn K (.ref C) (.type "ValueError") = some true
  si : PySem.W.ks_superIn K C C "__init__" = some (some (.builtin "ValueError.__init__"))
  no : PySem.W.findIn K (.ref C) D.fld = some none
  ini : PySem.W.findIn K (.ref C) "__init__" = some (some (.ref f))
  ty : PySem.W.typeIn K (.ref f) = some (.type "function")
/-- what its text says -/
structure SupT (P : Program) (D : SupD) : Prop where
  sc : NScope ["self", D.fld, "__class__"] ["self", D.fld] ["__class__"] D.scope
  sup : D.scope.names.lookup ("super" : Str) = some .globalImplicit
  par : ∃ ar, (D.params.posonlyargs ++ D.params.args).head? = some ar ∧ ar.arg = "self"
  body : ∃ (txt : Str) (j : Nat) (p0 p1 p2 p3 p4 p5 q1 q2 q3 q4 : Pos), D.body = [.Expr (.Call (.Attribute (.Call (.Name "super" p0) [] [] p1) "__init__" p2) [.Constant (.str txt) j p3] [] p4) p5, .Assign [.Attribute (.Name "self" q1) D.fld q2] (.Name D.fld q3) q4] ∧
    ∀ env : PySem.Env, ∃ pl : Sem Bool, PySem.eval (.Call (.Attribute (.Call (.Name "super" p0) [] [] p1) "__init__" p2) [.Constant (.str txt) j p3] [] p4) env = (do
      let ov ← attributeBase (.Call (.Name "super" p0) [] [] p1) "__init__" env (PySem.eval (.Call (.Name "super" p0) [] [] p1) env)
      standAt p2.atName
      let (f, first) ← holding [ov] (getMethod ov "__init__" pl)
      callWith p4 f first (backTo p4 (starEach [.Constant (.str txt) j p3] env)) [])
  top : (P.main.scope.names.lookup ("super" : Str)).isSome = false
  nd1 : (D.fld == ("__debug__" : Str)) = false
  nd2 : (D.fld == ("__classdict__" : Str)) = false
def spSup (D : SupD) (C : Addr) : Sp := fun vs H Q _ => ∃ a y, vs = [.ref a, y] ∧ H a = some (exo a C none) ∧ ∀ dx, H dx = none → dx ≠ a → Q .non (upd (upd H dx (exd dx [(D.fld, y)])) a (exo a C (some dx)))

theorem sup_init {P : Program} {w : World} {K : PySem.W.Frag} {mg : Str → Option Value} {base : Heap} {D : SupD} {C f : Addr} (Tx : SupT P D) (Cx : SupC P K D C f) (hmg : mg "super" = none) :
    ∃ fd, FnOk P w K mg base L2.CX0 1 f fd ["self", D.fld] (spSup D C) ∧ ((∀ kV doc pm an cdv ct cc (us : List Value), us.length = 2 → bindArgs (PySem.W.ksFn D.name D.qual D.params D.body D.scope .none kV doc pm an cdv ct cc) ⟨us, []⟩ = pure ((["self", D.fld] : List Str).zip us)) → Binds K fd ["self", D.fld] []) := by
  obtain ⟨oc, od, osl, kV, doc, pm, an, ct, cda, cc, lk, hcd, ⟨cl, cld, csl, hcell⟩, ccl, cdd, vsC, ccs, file, tf, hcode, hvs, hfile⟩ := Cx.fn
  obtain ⟨cdC, hcC⟩ := Cx.cls
  obtain ⟨ar, har, hself⟩ := Tx.par
  obtain ⟨txt, j, p0, p1, p2, p3, p4, p5, q1, q2, q3, q4, hbody, heval⟩ := Tx.body
  refine ⟨_, ⟨?_, fun A outer s H args us vs Q E hr e0 hb r hsp => ?_⟩, fun h => .all fun us hl => h kV doc pm an (.ref cda) ct cc us (by simpa using hl)⟩
  · rintro vs H Q E ⟨a, y, rfl, _⟩
    rfl
  obtain ⟨a, y, rfl, ha, hq⟩ := hsp
  have KX : K.In s.heap := e0.mod.kin.keeps fun b o e => (e0.bs b o e).1
  have lim : s.heap.NoLimit := e0.mod.nolimit.keeps fun b o e => (e0.bs b o e).1
  let Fn : NF := ⟨D.name, D.qual, D.params, D.body, D.scope, [("__class__", cc)], cda⟩
  have hloc : ∀ z ∈ (["self", D.fld] : List Str).zip us, D.scope.names.lookup z.1 = some .local := fun ⟨n, v⟩ hz => Tx.sc.par n (List.of_mem_zip hz).1
  refine PySem.ks_codeAny_call_defAt (fd := PySem.W.ksFn D.name D.qual D.params D.body D.scope .none kV doc pm an (.ref cda) ct cc) (body := D.body) (binds := (["self", D.fld] : List Str).zip us) hr.depth (KX _ _ lk) rfl lim (PySem.W.codeRec_of KX hcd) rfl hb Tx.sc.nocell hloc (fun h₁ hns kp => ?_) Tx.sc.co Tx.sc.gen Tx.sc.kind
  have bcc : base.get? cc = some ⟨cl, cld, .cell (some (.ref C)), csl⟩ := e0.mod.kin _ _ hcell
  have CA : CellsAt Fn.cl ["__class__"] [some (.ref C)] s.heap H := {
    len := rfl
    all := fun z c e => by
      have : c = cc := by
        have e' : List.lookup z [(("__class__" : Str), cc)] = some c := e
        simp only [List.lookup] at e'
        split at e'
        · exact (Option.some.inj e').symm
        · cases e'
      subst this
      exact ⟨(e0.bs _ _ bcc).2, _, _, (e0.bs _ _ bcc).1, rfl⟩
    inj := fun x z c e1 e2 => by
      have k : ∀ z c, List.lookup z [(("__class__" : Str), cc)] = some c → z = "__class__" := fun z c e => by
        simp only [List.lookup] at e
        split at e
        · rename_i q; exact eq_of_beq q
        · cases e
      rw [k x c e1, k z c e2]
    has := fun i z e => by
      cases i with
      | zero =>
        simp at e
        subst e
        refine ⟨cc, rfl, fun v hv => ?_⟩
        simp at hv
        subst hv
        exact ⟨.ref C, rfl, _, (e0.bs _ _ bcc).1, rfl⟩
      | succ i => simp at e }
  have I : Inv (ncx L2.CX0 P w K mg base ["self", D.fld, "__class__"] Fn f A outer s H E) [] (startF ["self", D.fld, "__class__"] [.ref a, y] [some (.ref C)]) H { s with heap := h₁, toks := s.toks + ((["self", D.fld] : List Str).zip us).length } :=
    inv_startN (F := Fn) Tx.sc hr.hd e0 rfl r CA hns kp
  let X := ncx L2.CX0 P w K mg base ["self", D.fld, "__class__"] Fn f A outer s H E
  have hbx : execs D.body X.env = execs [.Expr (.Call (.Attribute (.Call (.Name "super" p0) [] [] p1) "__init__" p2) [.Constant (.str txt) j p3] [] p4) p5, .Assign [.Attribute (.Name "self" q1) D.fld q2] (.Name D.fld q3) q4] X.env := by rw [hbody]
  have ndP : (["self", D.fld] : List Str).Nodup := by
    have q := Tx.sc.nd.sublist (List.take_sublist 2 _)
    exact q
  have KX1 : K.In h₁ := KX.keeps kp
  have hself' : ((["self", D.fld] : List Str).zip us).reverse.lookup ("self" : Str) = some (.ref a) := by
    cases r with
    | cons r1 r2 =>
      cases r1
      exact zip_look (i := 0) ndP rfl rfl
  obtain ⟨pl, he⟩ := heval X.env
  obtain ⟨t1, hoa⟩ := exo_at I.hok ha
  obtain ⟨oD, hD1, hD2⟩ : ∃ oD, h₁.get? C = some oD ∧ oD.data = .cls cdC := by
    unfold PySem.W.clsIn at hcC
    split at hcC
    · rename_i c d cd' sl ho
      cases hcC
      exact ⟨_, KX1 _ _ ho, rfl⟩
    · cases hcC
  obtain ⟨mb, b1, b2⟩ := I.mod.blt
  have kself : X.env.kindOf ("self" : Str) = some .local := Tx.sc.par _ List.mem_cons_self
  have kcls : X.env.kindOf ("__class__" : Str) = some .free := Tx.sc.frk _ List.mem_cons_self
  show PySem.wpAt (model P w) X.A (.func D.body X.env) (execs D.body X.env) _ X.xe { s with heap := h₁, toks := s.toks + ((["self", D.fld] : List Str).zip us).length }
  rw [hbx]
  refine ks_wpAt_execs_cons (ks_wpAt_Expr_any (ks_wpAt_MethodCall (pl := pl) ?_ he) I.quiet rfl)
  refine ks_wpAt_super_base (env := X.env) Tx.sup kcls rfl rfl (KX1 _ _ lk) rfl har rfl (KX1 _ _ hcode) rfl hvs hfile Tx.top ?_
  refine PySem.W.ks_loadName_global Tx.sc.kind Tx.sup (Calls.loadGlobal_builtin (I.mod.glob.keeps I.bk) hmg (b1.keeps I.bk) ((b2 _ (by decide)).trans (by rfl : bootBuiltins "super" = some (.type "super"))) ⟨rfl, ?_⟩)
  refine wpAny_loadName_free Tx.sc.kind kcls rfl ⟨_, KX1 _ _ hcell, rfl⟩ ?_
  rw [hself]
  refine wpAny_loadName_local Tx.sc.kind kself hns hself' ?_
  refine ks_wpAny_isType_cls hD1 hD2 ⟨rfl, ?_⟩
  refine ks_wpAny_call_super hD1 hD2 hoa rfl (fun c z => by cases z) (PySem.W.looks_mroIn KX1 Cx.mr) fun h2 eS k2 => ?_
  have I1 := I.kept (t' := s.toks + ((["self", D.fld] : List Str).zip us).length) k2
  have KX2 : K.In h2 := KX1.keeps k2
  have inst : PySem.W.InstAt h2 a ({ cls := .ref C, dict := none, data := .fields #[.ref t1, .none, .none, .none, .bool false, .none] } : Obj) C none := ⟨k2 _ _ hoa, rfl, rfl, trivial⟩
  have hal : PySem.W.alongIn K "__init__" ((cdC.mro.dropWhile (· != .ref C)).drop 1) = some (some (.builtin "ValueError.__init__")) := by
    have z := Cx.si
    unfold PySem.W.ks_superIn at z
    rw [hcC] at z
    exact z
  refine PySem.W.kxs_getMethod PySem.W.kxs_ValueError eS (PySem.W.looks_opaque KX2 Cx.tp) (l₀ := cdC.mro) (fun A Q E s k q => wpAny_bind ((PySem.W.looks_clsIn KX2 hcC) A _ E s k (wpAny_pure q))) rfl KX2 hal (inst.type.andThen (PySem.W.looks_subIn KX2 Cx.ve)) (PySem.W.ks_ne KX2 inst hcC) rfl ?_
  have I2 := I1.kept (t' := s.toks + ((["self", D.fld] : List Str).zip us).length + 1) (h' := h2.push (PySem.W.kxs_mw "ValueError.__init__" a)) fun b u z => Heap.get?_push_of_some _ z
  have hu : (h2.push (PySem.W.kxs_mw "ValueError.__init__" a)).get? h2.objs.size = some (PySem.W.kxs_mw "ValueError.__init__" a) := Heap.get?_push_size _ rfl
  have I3 : Inv X [(h2.objs.size, PySem.W.kxs_mw "ValueError.__init__" a)] _ H _ := I2.pins_of fun p hp => by
    rw [List.mem_singleton.mp hp]
    exact ⟨hu, I1.hok.fresh (Nat.le_refl _), Nat.ne_of_gt I1.lt, I1.nofs (Nat.le_refl _), fun v z => by cases z⟩
  refine PySem.W.kxs_callWith (i := "ValueError.__init__") (x := a) rfl (Calls.evalArgs_plain ?_)
  refine thn ((pa_cons (X := X) (pe_str (x := txt) (j := j) (pos := p3)) pa_nil rfl).run p4 _ _ _ H (fun vs H1 => vs.length = 1 ∧ H1 = H) I3 ⟨rfl, rfl⟩) fun us4 s4 hs4 => ?_
  obtain ⟨vs4, H4, I4, r4, hl4, eH⟩ := hs4
  subst eH
  have hu4 := (I4.pin (h2.objs.size, PySem.W.kxs_mw "ValueError.__init__" a) (List.mem_append_right _ List.mem_cons_self)).1
  refine ⟨hu4, ?_⟩
  obtain ⟨t4, ho4⟩ := exo_at I4.hok ha
  obtain ⟨nm, q, N, bs, bm, sn, sub, ab, col, dd, k0, k1, k2', k3, k5, hC, hbm⟩ := Cx.ox.cls
  obtain ⟨h4, g4, d4, tk4, os4⟩ := s4
  refine bound_call (I4.kIn _ _ hC) ho4 hu4 (by
    have : us4.length = vs4.length := r4.length.symm
    rw [List.nil_append, this, hl4, sizeLine_eq]; omega) fun h5 t5 k5' hx5 => ?_
  have J := I4.write (t' := tk4) (x := a) (e := a) (o := exo a C none) (by rw [ha]; exact True.intro) (.inl rfl) k5' ⟨_, hx5⟩ (exo_ok hx5)
  have eu : upd H4 a (exo a C none) = H4 := by
    funext b
    by_cases hb : b = a
    · rw [hb, upd_same, ha]
    · rw [upd_ne hb]
  rw [eu] at J
  have J' : Inv X [] _ H4 _ := J.pins_of fun p hp => J.pin p (List.mem_append_left _ (by simpa using hp))
  refine wpAt_of_wpAny ?_
  have st : PS X (.Assign [.Attribute (.Name "self" q1) D.fld q2] (.Name D.fld q3) q4) (tOst X.K D.fld (tVar 0) (tVar 1)) :=
    ps_ost (pe_var (X := X) (i := 0) (x := "self") rfl (.inl (Tx.sc.par _ List.mem_cons_self)) (by decide) (by decide)) (pe_var (X := X) (i := 1) (x := D.fld) rfl (.inl (Tx.sc.par _ (List.mem_cons_of_mem _ List.mem_cons_self))) Tx.nd1 Tx.nd2) rfl
  refine wpAny_mono ((pss_one st).run [] _ _ H4 { nx := fun _ H' => Q .non H', rt := fun _ _ => False } J' ?_) (fun fl s' hs => ?_) fun e s' hs => hs
  · exact ⟨y, rfl, .ref a, rfl, a, C, rfl, Cx.ox, Cx.no, .inl ⟨ha, fun dx n ne => hq dx n ne⟩⟩
  · cases fl with
    | next =>
      obtain ⟨σ', H', J, q⟩ := hs
      exact ⟨.non, H', J.os, J.bare, J.base, J.hok, rfl, q⟩
    | ret u => obtain ⟨_, _, _, _, _, q⟩ := hs; exact q.elim
    | brk => obtain ⟨_, _, _, q⟩ := hs; exact False.elim q
    | cont => obtain ⟨_, _, _, q⟩ := hs; exact False.elim q
/-- C(e) -/
theorem sup_made {P : Program} {w : World} {G : Sd.Gl} {base : Heap} {D : SupD} {C f : Addr} {x : Str} (Tx : SupT P D) (Cx : SupC P G.K D C f) (hsup : G.mg "super" = none) (hx : G.mg x = some (.ref C)) (hxd : (x == ("__debug__" : Str)) = false)
    (hb : ∀ kV doc pm an cdv ct cc (us : List Value), us.length = 2 → bindArgs (PySem.W.ksFn D.name D.qual D.params D.body D.scope .none kV doc pm an cdv ct cc) ⟨us, []⟩ = pure ((["self", D.fld] : List Str).zip us)) : ExF P w G base 2 x C D.fld := by
  refine ⟨fun X eP ew eK em eb hr hg => ⟨fun e t p pos ha he => ?_⟩⟩
  subst eP ew eb
  obtain ⟨fd, F1, hB⟩ := sup_init (w := X.w) (base := X.base) Tx Cx hsup
  rw [← eK] at F1 hB
  rw [← em] at F1
  have T : OexC X.K C := eK ▸ Cx.ox
  let t' : TA := fun σ H Q' => ∃ Q0, t σ H Q0 ∧ ∀ vs H1, Q0 vs H1 → Q' vs H1
  have ha' : PA X [e] t' := ⟨fun pos pins s σ H Q' I ⟨Q0, q, m⟩ => thn (ha.run pos pins s σ H Q0 I q) fun us s1 ⟨vs, H1, I1, r1, q1⟩ => ⟨vs, H1, I1, r1, m vs H1 q1⟩⟩
  have mk := pmk_oex (pos := pos) (p := p) (CX := L2.CX0) (sp := spSup D C) (dvs := []) (ds := []) T (eK ▸ Cx.ini) (eK ▸ Cx.ty) F1 hr (hB hb) .nil (fun _ _ _ _ _ _ _ h => h.elim) hg (em ▸ hx) ha' hxd he rfl
  refine fun pins s σ H Q I h => mk pins s σ H Q I ⟨_, h, fun vs H1 ⟨y, ev, q⟩ => ?_⟩
  subst ev
  refine ⟨by show 1 ≤ 1000; decide, fun a na => ⟨a, y, rfl, upd_same, fun dx nd ne => ⟨rfl, dx, [(D.fld, y)], upd_same, ?_, ?_, ?_⟩⟩⟩
  · rw [upd_ne ne, upd_same]
  · rw [upd_ne ne] at nd; exact nd
  · have n1 : H1 dx = none := by rw [upd_ne ne] at nd; exact nd
    have eq : upd (L2.del (upd (upd (upd H1 a (exo a C none)) dx (exd dx [(D.fld, y)])) a (exo a C (some dx))) a) dx (.xd [(D.fld, y)]) = upd H1 dx (.xd [(D.fld, y)]) := by
      funext b
      by_cases h1 : b = dx
      · rw [h1, upd_same, upd_same]
      · rw [upd_ne h1, upd_ne h1]
        by_cases h2 : b = a
        · rw [h2, del_same, na]
        · rw [del_ne h2, upd_ne h2, upd_ne h1, upd_ne h2]
    rw [eq]
    exact q dx n1
end Sd
set_option Elab.async false
set_option linter.all false
set_option autoImplicit false
set_option maxRecDepth 100000
set_option maxHeartbeats 2000000
/-! What the head tells: defs at addresses of any kind, facts as booleans. -/
namespace Hd
open PySem PySem.Spec PyProof.Rows L2 He
abbrev Row : Type := Option (Str × Str × Arguments × FuncBody × Scope × Addr × List Str × Addr)
/-- a def: where it stands; cls: the class that its cell __class__ holds -/
structure Ent where
  adr : PySem.W.Frag → Addr
  name : Str
  qual : Str
  params : Arguments
  body : List Stmt
  scope : Scope
  cls : Option (PySem.W.Frag → Addr)
def Ent.row (e : Ent) (K : PySem.W.Frag) : Row := match K.lookup (e.adr K) with
  | some ⟨_, _, .func fd, _⟩ => some (fd.name, fd.qualname, fd.params, fd.body, fd.scope, fd.globals, fd.closure.map (·.1), fd.builtins)
  | _ => none
def Ent.val (e : Ent) : Row := some (e.name, e.qual, e.params, .stmts e.body, e.scope, mainGlobals, if e.cls.isSome then ["__class__"] else [], builtinsNs)
def isNone : Value → Bool
  | .none => true
  | _ => false
def cellB (K : PySem.W.Frag) (cl : List (Str × Addr)) (C : Addr) : Bool := match cl with
  | [(_, cc)] => (match K.lookup cc with
    | some ⟨_, _, .cell (some (.ref d)), _⟩ => decide (d = C)
    | _ => false)
  | _ => false
def fileB (K : PySem.W.Frag) (cdv : Value) (file : Str) : Bool := match cdv with
  | .ref cda => (match K.lookup cda with
    | some ⟨_, _, .fields vs, _⟩ => (match vs[2]? with
      | some (Value.str f _) => decide (file = f)
      | _ => false)
    | _ => false)
  | _ => false
def Ent.fnOk (e : Ent) (file : Str) (K : PySem.W.Frag) (fd : FuncData) : Bool := PySem.W.codeIn K fd.code e.qual && (isNone fd.defaults && (match e.cls with
  | none => true
  | some g => cellB K fd.closure (g K) && fileB K fd.code file))
def Ent.ok (e : Ent) (file : Str) (K : PySem.W.Frag) : Bool := PySem.W.keepIn K (.ref (e.adr K)) && (match K.lookup (e.adr K) with
  | some ⟨_, _, .func fd, _⟩ => e.fnOk file K fd
  | _ => false)
theorem Ent.get {e : Ent} {file : Str} {K : PySem.W.Frag} (hv : e.row K = e.val) (hk : e.ok file K = true) : ∃ oc od fd osl, K.lookup (e.adr K) = some ⟨oc, od, .func fd, osl⟩ ∧ PySem.W.keepIn K (.ref (e.adr K)) = true ∧ e.fnOk file K fd = true ∧
    (some (fd.name, fd.qualname, fd.params, fd.body, fd.scope, fd.globals, fd.closure.map (·.1), fd.builtins) : Row) = e.val := by
  obtain ⟨k1, k2⟩ := ba hk
  unfold Ent.row at hv
  cases q : K.lookup (e.adr K) with
  | none => rw [q] at k2; cases k2
  | some o =>
    obtain ⟨oc, od, dt, osl⟩ := o
    rw [q] at k2 hv
    cases dt with
    | func fd => exact ⟨oc, od, fd, osl, rfl, k1, k2, hv⟩
    | _ => cases k2
theorem isNone_ok {v : Value} (h : isNone v = true) : v = .none := by cases v <;> first | rfl | cases h
/-- a plain def -/
theorem Ent.fun_ {e : Ent} {file : Str} {K : PySem.W.Frag} (hc : e.cls = none) (hv : e.row K = e.val) (hk : e.ok file K = true) : ∃ fd, FunD K e.name e.qual e.params e.body e.scope [] [] (e.adr K) fd := by
  obtain ⟨oc, od, fd, osl, lk, kp, h1, h2⟩ := Ent.get hv hk
  obtain ⟨n1, n2, n3, n4, n5, n6, n7, n8, n9, n10, n11, n12, n13, n14, n15⟩ := fd
  obtain ⟨c1, c2⟩ := ba h1
  obtain ⟨c3, -⟩ := ba c2
  have c3 := isNone_ok c3
  unfold Ent.val at h2
  rw [hc] at h2
  simp only [Option.some.injEq, Prod.mk.injEq, Option.isSome_none, Bool.false_eq_true, if_false, List.map_eq_nil_iff] at h2
  obtain ⟨z1, z2, z3, z4, z5, z6, z7, z8⟩ := h2
  subst z1 z2 z3 z4 z5 z6 z7 z8
  dsimp only at c3
  subst c3
  exact ⟨_, ⟨oc, od, _, n9, n10, n11, n12, n13, n14, osl, rfl, lk, c1, .inl ⟨rfl, rfl⟩, .inl rfl⟩, kp⟩
/-- a def with the cell __class__ -/
theorem Ent.sup {e : Ent} {file : Str} {K : PySem.W.Frag} {g : PySem.W.Frag → Addr} (hc : e.cls = some g) (hv : e.row K = e.val) (hk : e.ok file K = true) :
    ∃ oc od osl kV doc pm an ct cda cc, K.lookup (e.adr K) = some ⟨oc, od, .func (PySem.W.ksFn e.name e.qual e.params e.body e.scope .none kV doc pm an (.ref cda) ct cc), osl⟩ ∧ PySem.W.codeIn K (.ref cda) e.qual = true ∧
    (∃ cl cld csl, K.lookup cc = some ⟨cl, cld, .cell (some (.ref (g K))), csl⟩) ∧ ∃ ccl cdd vs ccs fl tf, K.lookup cda = some ⟨ccl, cdd, .fields vs, ccs⟩ ∧ vs[2]? = some (.str fl tf) ∧ (file == fl) = true := by
  obtain ⟨oc, od, fd, osl, lk, kp, h1, h2⟩ := Ent.get hv hk
  obtain ⟨n1, n2, n3, n4, n5, n6, n7, n8, n9, n10, n11, n12, n13, n14, n15⟩ := fd
  obtain ⟨c1, c2⟩ := ba h1
  obtain ⟨c3, c4⟩ := ba c2
  have c3 := isNone_ok c3
  rw [hc] at c4
  obtain ⟨c5, c6⟩ := ba c4
  unfold Ent.val at h2
  rw [hc] at h2
  simp only [Option.some.injEq, Prod.mk.injEq, Option.isSome_some, if_true] at h2
  obtain ⟨z1, z2, z3, z4, z5, z6, z7, z8⟩ := h2
  dsimp only at c1 c3 c5 c6
  unfold cellB at c5
  split at c5
  · rename_i nm cc
    simp only [List.map_cons, List.map_nil, List.cons.injEq, and_true] at z7
    subst z7
    split at c5
    · rename_i cl cld d csl hcell
      have c5 := of_decide_eq_true c5
      unfold fileB at c6
      split at c6
      · rename_i cda
        split at c6
        · rename_i ccl cdd vs ccs hcode
          split at c6
          · rename_i fl tf hvs
            have c6 := of_decide_eq_true c6
            replace c3 : n8 = .none := by assumption
            subst z1 z2 z3 z4 z5 z6 z8 c3 c5 c6
            exact ⟨oc, od, osl, n9, n10, n11, n12, n14, cda, cc, lk, c1, ⟨cl, cld, csl, hcell⟩, ccl, cdd, vs, ccs, _, tf, hcode, hvs, by simp⟩
          · cases c6
        · cases c6
      · cases c6
    · cases c5
  · cases c5
/-! ### the Hook -/
def gather (g : Addr → Option Obj) : Nat → List Addr
  | 0 => [mainGlobals, cStatics]
  | n + 1 => growD g (gather g n)
abbrev Seen : Type := Bool × List Row
def look (file : Str) (fa : List Fa) (es : List Ent) (xs : PySem.W.Frag → List Bool) (K : PySem.W.Frag) : Seen := ((fa.all fun f => f.ok K) && ((es.all fun e => e.ok file K) && (xs K).all id), es.map fun e => e.row K)
def want (es : List Ent) : Seen := (true, es.map Ent.val)
def Told (file : Str) (fa : List Fa) (es : List Ent) (xs : PySem.W.Frag → List Bool) (K : PySem.W.Frag) : Prop := look file fa es xs K = want es
def lookG (n : Nat) (file : Str) (fa : List Fa) (es : List Ent) (xs : PySem.W.Frag → List Bool) (g : Addr → Option Obj) : Seen := look file fa es xs (frG g (gather g n))
def hook (n : Nat) (file : Str) (fa : List Fa) (es : List Ent) (xs : PySem.W.Frag → List Bool) : PySem.W.Hook where
  α := Seen
  obs := fun s => lookG n file fa es xs s.heap.get?
  val := fun _ => want es
  says := fun _ h => ∃ K : PySem.W.Frag, K.In h ∧ Told file fa es xs K
  of := fun _ _ e => ⟨_, frG_in, e⟩
  keeps := fun _ _ _ ⟨K, hK, c⟩ k => ⟨K, PySem.W.Frag.In.keeps hK k, c⟩
theorem look_eq {n : Nat} {file : Str} {fa : List Fa} {es : List Ent} {xs : PySem.W.Frag → List Bool} {g : Addr → Option Obj} {s : Shared} (h : ∀ a, g a = s.heap.get? a) : lookG n file fa es xs g = (hook n file fa es xs).obs s := by
  have e : g = s.heap.get? := funext h
  rw [e] <;> rfl
section
variable {file : Str} {fa : List Fa} {es : List Ent} {xs : PySem.W.Frag → List Bool} {K : PySem.W.Frag}
theorem Told.all (c : Told file fa es xs K) : (fa.all fun f => f.ok K) = true ∧ (es.all fun e => e.ok file K) = true ∧ (xs K).all id = true := by
  obtain ⟨c1, c2⟩ := ba (congrArg (fun z : Seen => z.1) c)
  obtain ⟨c3, c4⟩ := ba c2
  exact ⟨c1, c3, c4⟩
theorem Told.fact (c : Told file fa es xs K) (i : Nat) {f : Fa} (h : fa[i]? = some f := by rfl) : f.ok K = true := List.all_eq_true.mp c.all.1 f (List.mem_of_getElem? h)
theorem Told.x (c : Told file fa es xs K) (i : Nat) {b : Bool} (h : (xs K)[i]? = some b := by rfl) : b = true := List.all_eq_true.mp c.all.2.2 b (List.mem_of_getElem? h)
theorem Told.row (c : Told file fa es xs K) (i : Nat) {e : Ent} (h : es[i]? = some e := by rfl) : e.row K = e.val ∧ e.ok file K = true := by
  have e1 : es.map (fun e => e.row K) = es.map Ent.val := congrArg (fun z : Seen => z.2) c
  have e2 : (es.map fun e => e.row K)[i]? = (es.map Ent.val)[i]? := by rw [e1]
  rw [List.getElem?_map, List.getElem?_map, h] at e2
  exact ⟨Option.some.inj e2, List.all_eq_true.mp c.all.2.1 e (List.mem_of_getElem? h)⟩
theorem Told.fn (c : Told file fa es xs K) (i : Nat) {e : Ent} (h : es[i]? = some e := by rfl) (hc : e.cls = none := by rfl) : ∃ fd, FunD K e.name e.qual e.params e.body e.scope [] [] (e.adr K) fd := Ent.fun_ hc (c.row i h).1 (c.row i h).2
end
/-! ### more facts -/
def eqV (a b : Option (Option Value)) : Bool := decide (a = b)
def oexB (K : PySem.W.Frag) (C : Addr) : Bool := (match K.lookup C with
    | some ⟨.type "type", _, .cls cd, sl⟩ => (match cd.mro, sl.toList with
      | .ref C' :: bm, [_, _, _, _, some (.builtin n), _] => decide (C' = C) && (decide (n = "ValueError.__new__") && (!cd.hasDel && (cd.hasDict && HandSPX.refsVE bm)))
      | _, _ => false)
    | _ => false) && (eqV (PySem.W.findIn K (.ref C) "__setattr__") (some (some (.builtin "object.__setattr__"))) && (decide (PySem.W.subIn K (.ref C) (.type "BaseException") = some true) && (decide (PySem.W.typeIn K (.ref C) = some (.type "type")) && PySem.W.keepIn K (.ref C))))
theorem oexB_ok {K : PySem.W.Frag} {C : Addr} (h : oexB K C = true) : OexC K C := by
  obtain ⟨h0, h⟩ := ba h
  obtain ⟨h1, h⟩ := ba h
  obtain ⟨h2, h⟩ := ba h
  obtain ⟨h3, h4⟩ := ba h
  refine ⟨?_, of_decide_eq_true h1, of_decide_eq_true h2, of_decide_eq_true h3, h4⟩
  split at h0
  · rename_i dd cd sl ho
    split at h0
    · rename_i C' bm k0 k1 k2 k3 n k5 hm hs
      obtain ⟨q1, q⟩ := ba h0
      obtain ⟨q2, q⟩ := ba q
      obtain ⟨q3, q⟩ := ba q
      obtain ⟨q4, q5⟩ := ba q
      have q1 := of_decide_eq_true q1
      have q2 := of_decide_eq_true q2
      subst q1 q2
      obtain ⟨nm, bs, mro, ns, qn, hd, sn, sb, ab, col, del⟩ := cd
      dsimp only at hm q3 q4
      subst hm
      have q3 : del = false := by simpa using q3
      subst q3 q4
      have hsl : sl = #[k0, k1, k2, k3, some (.builtin "ValueError.__new__"), k5] := Array.toList_inj.mp hs
      subst hsl
      exact ⟨nm, qn, ns, bs, bm, sn, sb, ab, col, dd, k0, k1, k2, k3, k5, ho, q5⟩
    · cases h0
  · cases h0
/-- an exception class that is made by its own __init__ at f -/
def supB (K : PySem.W.Frag) (C f : Addr) (fld : Str) : Bool := oexB K C && ((PySem.W.clsIn K C).isSome && (eqV (PySem.W.nsIn K cStatics "thirdparty.any") (some none) && (decide (PySem.W.mroIn K C (.ref C) = some true) && (decide (PySem.W.subIn K (.ref C) (.type "ValueError") = some true) &&
  (eqV (PySem.W.ks_superIn K C C "__init__") (some (some (.builtin "ValueError.__init__"))) && (eqV (PySem.W.findIn K (.ref C) fld) (some none) && (eqV (PySem.W.findIn K (.ref C) "__init__") (some (some (.ref f))) && decide (PySem.W.typeIn K (.ref f) = some (.type "function")))))))))
theorem supB_ok {P : Program} {K : PySem.W.Frag} {C f : Addr} {D : Sd.SupD} (h : supB K C f D.fld = true) (hs : PySem.W.nsIn K mainGlobals "super" = some none)
    (hf : ∃ oc od osl kV doc pm an ct cda cc, K.lookup f = some ⟨oc, od, .func (PySem.W.ksFn D.name D.qual D.params D.body D.scope .none kV doc pm an (.ref cda) ct cc), osl⟩ ∧ PySem.W.codeIn K (.ref cda) D.qual = true ∧
    (∃ cl cld csl, K.lookup cc = some ⟨cl, cld, .cell (some (.ref C)), csl⟩) ∧ ∃ ccl cdd vs ccs fl tf, K.lookup cda = some ⟨ccl, cdd, .fields vs, ccs⟩ ∧ vs[2]? = some (.str fl tf) ∧ ((P.main.file : Str) == fl) = true) : Sd.SupC P K D C f := by
  obtain ⟨h1, h⟩ := ba h
  obtain ⟨h2, h⟩ := ba h
  obtain ⟨h3, h⟩ := ba h
  obtain ⟨h4, h⟩ := ba h
  obtain ⟨h5, h⟩ := ba h
  obtain ⟨h6, h⟩ := ba h
  obtain ⟨h7, h⟩ := ba h
  obtain ⟨h8, h9⟩ := ba h
  exact ⟨oexB_ok h1, hf, Option.isSome_iff_exists.mp h2, hs, of_decide_eq_true h3, of_decide_eq_true h4, of_decide_eq_true h5, of_decide_eq_true h6, of_decide_eq_true h7, of_decide_eq_true h8, of_decide_eq_true h9⟩
/-- an exception class in except clauses -/
def xclB (K : PySem.W.Frag) (C : Addr) : Bool := xfB K C && (eqV (PySem.W.findIn K (.ref C) "__class__") (some (some (.builtin "object.__class__"))) && (decide (PySem.W.mroIn K C (.type "object") = some true)))
def objB (K : PySem.W.Frag) : Bool := eqV (PySem.W.specialIn K (.builtin "object.__class__") "__get__") (some (some (.builtin "getset_descriptor.__get__"))) && decide (PySem.W.takesIn K (.builtin "object.__class__") = some true)
theorem xclB_ok {K : PySem.W.Frag} {C : Addr} (h : xclB K C = true) (o : objB K = true) : XfC K C ∧ ExcC K C := by
  obtain ⟨h1, h⟩ := ba h
  obtain ⟨h2, h3⟩ := ba h
  obtain ⟨o1, o2⟩ := ba o
  have x := xfB_ok h1
  exact ⟨x, x.ga, x.gg, x.exC, x.hdC, of_decide_eq_true h2, of_decide_eq_true o1, of_decide_eq_true o2, of_decide_eq_true h3⟩
/-- a class of instances -/
def clB (K : PySem.W.Frag) (C : Addr) : Bool := eqV (PySem.W.findIn K (.ref C) "__class__") (some (some (.builtin "object.__class__"))) && decide (PySem.W.mroIn K C (.type "object") = some true)
/-- a constant of a class -/
def conB (K : PySem.W.Frag) (C : Addr) (f : Str) (i : Int) : Bool := PySem.W.readsIn K C (.type "type") && (eqV (PySem.W.specialIn K (.ref C) "__getattribute__") (some (some (.builtin "type.__getattribute__"))) && (match PySem.W.findCls K (.ref C) (.type "type") f with
  | some (.val (.int j _)) => decide (j = i)
  | _ => false))
theorem conB_ok {K : PySem.W.Frag} {C : Addr} {f : Str} {i : Int} (h : conB K C f i = true) : Sd.ConF K C f i := by
  obtain ⟨h1, h⟩ := ba h
  obtain ⟨h2, h3⟩ := ba h
  split at h3
  · rename_i j t hj
    have h3 := of_decide_eq_true h3
    subst h3
    exact ⟨_, _, ⟨h1, of_decide_eq_true h2⟩, ⟨hj, t, rfl⟩⟩
  · cases h3
/-- a property's getter -/
def getter (C : PySem.W.Frag → Addr) (m : Str) (K : PySem.W.Frag) : Addr := match PySem.W.recIn K (ma K (C K) m) "property" with
  | some (.ref g :: _) => g
  | _ => 0
def prpB (K : PySem.W.Frag) (C : PySem.W.Frag → Addr) (m : Str) : Bool := eqV (PySem.W.findIn K (.ref (C K)) m) (some (some (.ref (ma K (C K) m)))) && (eqV (PySem.W.specialIn K (.ref (ma K (C K) m)) "__get__") (some (some (.builtin "property.__get__"))) && (decide (PySem.W.takesIn K (.ref (ma K (C K) m)) = some true) &&
  (match PySem.W.recIn K (ma K (C K) m) "property" with
    | some (.ref _ :: _) => true
    | _ => false)))
theorem prpB_ok {K : PySem.W.Frag} {C : PySem.W.Frag → Addr} {m : Str} (h : prpB K C m = true) : PropOf K (C K) m (ma K (C K) m) (getter C m K) := by
  obtain ⟨h1, h⟩ := ba h
  obtain ⟨h2, h⟩ := ba h
  obtain ⟨h3, h4⟩ := ba h
  refine ⟨of_decide_eq_true h1, of_decide_eq_true h2, of_decide_eq_true h3, ?_⟩
  unfold getter
  split at h4
  · rename_i g rest q
    exact ⟨rest, by rw [q]⟩
  · cases h4
def eqmB (K : PySem.W.Frag) (C : Addr) : Bool := eqV (PySem.W.findIn K (.ref C) "__eq__") (some (some (.ref (ma K C "__eq__")))) && PySem.W.isFn K (.ref (ma K C "__eq__"))
end Hd
set_option Elab.async false
set_option linter.all false
set_option autoImplicit false
set_option maxRecDepth 100000
set_option maxHeartbeats 2000000
/-! The layer's conditions on the classes, by booleans; promises that nothing asks. -/
namespace Hd
open PySem PySem.Spec PyProof.Rows L2 He Dn Sd
section
variable {G : Sd.Gl} {cN : Nat → Str} {n : Nat}
def gokB (T : Tab) (F : Nat → Str) (n : Nat) (cN : Nat → Str) (K : PySem.W.Frag) : Bool := (List.range n).all fun k => !(T.init k).isSome || ((Fa.cls (cN k)).ok K && (T.flds k).all fun f => (Fa.noat (cN k) (F f)).ok K)
def iokB (T : Tab) (n : Nat) (cN : Nat → Str) (K : PySem.W.Frag) : Bool := objB K && (List.range n).all fun k => !(T.init k).isSome || (clB K (ga K (cN k)) && (List.range n).all fun k' => !(T.init k').isSome || decide (PySem.W.kitOne K (.ref (ga K (cN k))) (.ref (ga K (cN k'))) = some (T.subs k k')))
def xokB (T : Tab) (F : Nat → Str) (n : Nat) (cN : Nat → Str) (K : PySem.W.Frag) : Bool := (List.range n).all fun k => !T.exc k || (xclB K (ga K (cN k)) && (((T.flds k).all fun f => eqV (PySem.W.findIn K (.ref (ga K (cN k))) (F f)) (some none)) && (decide (PySem.W.kitOne K (.ref (ga K (cN k))) (.type "ValueError") = some true) &&
  (List.range n).all fun k' => !T.exc k' || (decide (PySem.W.exmOne K (.ref (ga K (cN k))) (.ref (ga K (cN k'))) = some (T.subs k k')) && decide (PySem.W.kitOne K (.ref (ga K (cN k))) (.ref (ga K (cN k'))) = some (T.subs k k'))))))
theorem of_or {a b : Bool} (h : (!a || b) = true) (ha : a = true) : b = true := by rw [ha] at h; exact h
theorem in_range {p : Nat → Bool} (h : (List.range n).all p = true) {k : Nat} (hk : k < n) : p k = true := List.all_eq_true.mp h k (List.mem_range.mpr hk)
theorem gok_of (h : gokB G.T G.F n cN G.K = true) (hC : ∀ k, G.C k = ga G.K (cN k)) (hn : ∀ k, (G.T.init k).isSome = true → k < n) (nd : ∀ k, ((G.T.flds k).map G.F).Nodup) (few : ∀ k, (G.T.flds k).length < 1000) : GOk G := by
  have at_ : ∀ k, (G.T.init k).isSome = true → _ := fun k hk => ba (of_or (in_range h (hn k hk)) hk)
  exact ⟨fun k hk => by rw [hC]; exact cls_ok (at_ k hk).1, fun k f hk hf => by rw [hC]; exact noat_ok (List.all_eq_true.mp (at_ k hk).2 f hf), nd, few⟩
theorem iok_of (h : iokB G.T n cN G.K = true) (hC : ∀ k, G.C k = ga G.K (cN k)) (hn : ∀ k, (G.T.init k).isSome = true → k < n) : IsOk G := by
  obtain ⟨h0, h⟩ := ba h
  obtain ⟨o1, o2⟩ := ba h0
  have at_ : ∀ k, (G.T.init k).isSome = true → _ := fun k hk => ba (of_or (in_range h (hn k hk)) hk)
  have c1 : ∀ k, (G.T.init k).isSome = true → _ := fun k hk => ba (at_ k hk).1
  exact ⟨fun k hk => by rw [hC]; exact of_decide_eq_true (c1 k hk).1, of_decide_eq_true o1, of_decide_eq_true o2, fun k hk => by rw [hC]; exact of_decide_eq_true (c1 k hk).2,
    fun k k' hk hk' => by rw [hC, hC]; exact of_decide_eq_true (of_or (in_range (at_ k hk).2 (hn k' hk')) hk')⟩
theorem xok_of (h : xokB G.T G.F n cN G.K = true) (o : objB G.K = true) (hC : ∀ k, G.C k = ga G.K (cN k)) (hn : ∀ k, G.T.exc k = true → k < n) : XOk G := by
  have at_ : ∀ k, G.T.exc k = true → _ := fun k hk => ba (of_or (in_range h (hn k hk)) hk)
  have b_ : ∀ k, G.T.exc k = true → _ := fun k hk => ba (at_ k hk).2
  have d_ : ∀ k, G.T.exc k = true → _ := fun k hk => ba (b_ k hk).2
  have p_ : ∀ k k', G.T.exc k = true → G.T.exc k' = true → _ := fun k k' hk hk' => ba (of_or (in_range (d_ k hk).2 (hn k' hk')) hk')
  exact ⟨fun k hk => by rw [hC]; exact (xclB_ok (at_ k hk).1 o).1, fun k hk => by rw [hC]; exact (xclB_ok (at_ k hk).1 o).2, fun k f hk hf => by rw [hC]; exact of_decide_eq_true (List.all_eq_true.mp (b_ k hk).1 f hf),
    fun k k' hk hk' => by rw [hC, hC]; exact of_decide_eq_true (p_ k k' hk hk').1, fun k k' hk hk' => by rw [hC, hC]; exact of_decide_eq_true (p_ k k' hk hk').2, fun k hk => by rw [hC]; exact of_decide_eq_true (d_ k hk).1⟩
end
section
variable {P : Program} {w : World} {G : Sd.Gl} {base : Heap} {k j : Nat} {f C : Addr} {fd : FuncData} {ps : List Str} {x m : Str}
theorem bad_pure {CX : CXT} {np : Nat} (hl : ps.length = np) : FnOk P w G.K G.mg base CX k f fd ps (spP G (fun _ => .bad) np) :=
  ⟨fun vs H Q E h => h.1.trans hl.symm, fun A outer s H args us vs Q E hr e0 hb r h => by obtain ⟨_, ds, F, _, _, m⟩ := h; exact m.elim⟩
theorem bad_io {CX : CXT} {np : Nat} (hl : ps.length = np) : FnOk P w G.K G.mg base CX k f fd ps (spI G (fun _ => .bad) np) :=
  ⟨fun vs H Q E h => h.1.trans hl.symm, fun A outer s H args us vs Q E hr e0 hb r h => by obtain ⟨_, a, ws, d, ds, F, _, _, _, _, _, m⟩ := h; exact m.elim⟩
theorem exF_up (h : ExF P w G base j x C m) (hj : j ≤ k) : ExF P w G base k x C m := ⟨fun X a b c d e hr hg => h.all X a b c d e (hr.mono hj) hg⟩
end
end Hd
set_option Elab.async false
set_option linter.all false
set_option autoImplicit false
set_option maxRecDepth 100000
set_option maxHeartbeats 4000000
/-! A loop over a generator, its body and the generator's by turns: the two see each other's things stay. -/
namespace Gn
open PySem PySem.Spec L2 Dn PyProof.Rows Sd
/-! ### a heap cut -/
def gone : Obj := ⟨.none, none, .freed, #[]⟩
def cut (h : Heap) (L : Nat) (p : Addr → Bool) : Heap := { h with objs := (Array.range L).map fun i => if p i then h.objs.getD i gone else gone }
theorem cut_size (h : Heap) (L : Nat) (p : Addr → Bool) : (cut h L p).objs.size = L := by simp [cut]
theorem cut_get (h : Heap) (L : Nat) (p : Addr → Bool) (b : Addr) : (cut h L p).get? b = if b < L ∧ p b = true then h.get? b else none := by
  have e : (cut h L p).objs[b]? = if b < L then some (if p b then h.objs.getD b gone else gone) else none := by
    show ((Array.range L).map _)[b]? = _
    rw [Array.getElem?_map]
    by_cases hb : b < L
    · rw [if_pos hb, Array.getElem?_range, if_pos hb]; rfl
    · rw [if_neg hb, Array.getElem?_range, if_neg hb]; rfl
  unfold Heap.get?
  by_cases hb : b < L
  · rw [if_pos hb] at e
    rw [e]
    by_cases hp : p b = true
    · rw [if_pos hp, if_pos (show b < L ∧ p b = true from ⟨hb, hp⟩)]
      cases q : h.objs[b]? with
      | none =>
        have : h.objs.getD b gone = gone := by rw [Array.getD_eq_getD_getElem?, q]; rfl
        rw [this]; rfl
      | some o =>
        have : h.objs.getD b gone = o := by rw [Array.getD_eq_getD_getElem?, q]; rfl
        rw [this]
    · rw [if_neg hp, if_neg (show ¬ (b < L ∧ p b = true) from fun z => hp z.2)]; rfl
  · rw [if_neg hb] at e
    rw [e, if_neg (show ¬ (b < L ∧ p b = true) from fun z => hb z.1)]
theorem cut_some {h : Heap} {L : Nat} {p : Addr → Bool} {b : Addr} {o : Obj} (e : (cut h L p).get? b = some o) : b < L ∧ p b = true ∧ h.get? b = some o := by
  rw [cut_get] at e
  split at e
  · rename_i z; exact ⟨z.1, z.2, e⟩
  · cases e
theorem funs_cut {h : Heap} {base : Heap} {L : Nat} {p : Addr → Bool} : ∀ {l : List PySem.Env}, h.FunFrames base l → (∀ b ∈ frs l, b < L ∧ p b = true) → (cut h L p).FunFrames base l
  | [], _, _ => trivial
  | env :: r, ⟨hk, ⟨L', o, hf, hn, ho, hd⟩, hr⟩, hs => by
    have m : L' ∈ frs (env :: r) := by unfold frs; rw [List.filterMap_cons, hf]; exact List.mem_cons_self
    refine ⟨hk, ⟨L', o, hf, hn, ?_, hd⟩, funs_cut hr fun b hb => hs b (by unfold frs; rw [List.filterMap_cons, hf]; exact List.mem_cons_of_mem _ hb)⟩
    rw [cut_get, if_pos (hs L' m)]; exact ho
/-! ### what both know -/
def tupF : Option HO → Option HO
  | some (.tup xs) => some (.tup xs)
  | some (.frz _ (.tup xs)) => some (.tup xs)
  | _ => none
theorem tupF_of {x : Option HO} {o : HO} (h : tupF x = some o) : ∃ xs, o = .tup xs ∧ (x = some (.tup xs) ∨ ∃ w, x = some (.frz w (.tup xs))) := by
  unfold tupF at h
  split at h
  · rename_i xs; cases h; exact ⟨xs, rfl, .inl rfl⟩
  · rename_i w xs; cases h; exact ⟨xs, rfl, .inr ⟨w, rfl⟩⟩
  · cases h
def mrg (H G : Hp) : Hp := fun b => match H b with
  | some o => some o
  | none => tupF (G b)
theorem mrg_l {H G : Hp} {b : Addr} {o : HO} (h : H b = some o) : mrg H G b = some o := by unfold mrg; rw [h]
theorem mrg_r {H G : Hp} {b : Addr} (h : H b = none) : mrg H G b = tupF (G b) := by unfold mrg; rw [h]
theorem mrg_of {H G : Hp} {b : Addr} {o : HO} (h : mrg H G b = some o) : H b = some o ∨ H b = none ∧ ∃ xs, o = .tup xs ∧ (G b = some (.tup xs) ∨ ∃ w, G b = some (.frz w (.tup xs))) := by
  cases q : H b with
  | some u => rw [mrg_l q] at h; exact .inl h
  | none => rw [mrg_r q] at h; exact .inr ⟨rfl, tupF_of h⟩
theorem mrg_none {H G : Hp} {b : Addr} (h : H b = none) (g : G b = none) : mrg H G b = none := by rw [mrg_r h, g]; rfl
def tupC (H : Hp) : Hp := fun b => match H b with
  | some (.tup xs) => some (.tup xs)
  | _ => none
theorem tupC_tup {H : Hp} {b : Addr} {xs : List V} (h : H b = some (.tup xs)) : tupC H b = some (.tup xs) := by unfold tupC; rw [h]
theorem tupC_of {H : Hp} {b : Addr} {o : HO} (h : tupC H b = some o) : ∃ xs, o = .tup xs ∧ H b = some (.tup xs) := by
  unfold tupC at h
  split at h
  · rename_i xs q; cases h; exact ⟨xs, rfl, q⟩
  · cases h
theorem tupC_none {H : Hp} {b : Addr} (h : H b = none) : tupC H b = none := by unfold tupC; rw [h]
/-- the generator: its def's names and words, its frame at L, its object at a; m: the slot of its list -/
structure GD where
  N : List Str
  qual : Str
  scope : Scope
  f : Addr
  cd : Value
  L : Addr
  a : Addr
  go : Obj
  m : Nat
abbrev GD.env (D : GD) : PySem.Env := envOfC D.qual D.scope D.L D.f D.cd
abbrev Wl := Option (Addr × Obj × List V)
def wakeH (H : Hp) (wl : Wl) : Hp := fun b => match wl with
  | some (aw, _, vs) => if b = aw then some (.lst vs) else tupC H b
  | none => tupC H b
section
variable {H : Hp} {wl : Wl} {b aw : Addr} {ob : Obj} {vs : List V} {o : HO}
theorem wake_at : wakeH H (some (aw, ob, vs)) aw = some (.lst vs) := if_pos rfl
theorem wake_off (h : ∀ aw ob vs, wl = some (aw, ob, vs) → b ≠ aw) : wakeH H wl b = tupC H b := by
  unfold wakeH
  cases wl with
  | none => rfl
  | some q => obtain ⟨aw, ob, vs⟩ := q; exact if_neg (h aw ob vs rfl)
theorem wake_none (n : H b = none) (h : ∀ aw ob vs, wl = some (aw, ob, vs) → b ≠ aw) : wakeH H wl b = none := by rw [wake_off h, tupC_none n]
theorem wake_of (h : wakeH H wl b = some o) : (∃ ob vs, wl = some (b, ob, vs) ∧ o = .lst vs) ∨ ∃ xs, o = .tup xs ∧ H b = some (.tup xs) := by
  unfold wakeH at h
  cases wl with
  | none => exact .inr (tupC_of h)
  | some q =>
    obtain ⟨aw, ob, vs⟩ := q
    dsimp only at h
    split at h
    · rename_i e; subst e; cases h; exact .inl ⟨ob, vs, rfl, rfl⟩
    · exact .inr (tupC_of h)
theorem wake_tupC (n : wakeH H wl b = none) : tupC H b = none := by
  unfold wakeH at n
  cases wl with
  | none => exact n
  | some q =>
    obtain ⟨aw, ob, vs⟩ := q
    dsimp only at n
    split at n
    · cases n
    · exact n
/-- what is no tuple is cut out of nothing -/
theorem wake_other (h : H b = some o) (nt : ∀ xs, o ≠ .tup xs) (hw : ∀ aw ob vs, wl = some (aw, ob, vs) → b ≠ aw) : wakeH H wl b = none := by
  rw [wake_off hw]
  unfold tupC
  rw [h]
  split
  · rename_i xs q; exact absurd (Option.some.inj q) (nt xs)
  · rfl
end
def Xg (X : Cx) (D : GD) (sw : Shared) (H : Hp) (wl : Wl) : Cx where
  prog := X.prog
  w := X.w
  K := X.K
  mg := X.mg
  base := X.base
  A := X.A.in1.deeper D.env
  N := D.N
  s_0 := { sw with heap := cut sw.heap D.L fun b => (wakeH H wl b).isNone }
  H_0 := tupC H
  env := D.env
  outer := X.stack
  stack := D.env :: X.stack
  ex := []
  fn := fun _ => true
  calm := true
  pn := []
  xe := fun _ _ => False
structure Lp where
  X : Cx
  c : Cn
  D : GD
  C : Calls
  N : Nat
  pins : List (Addr × Obj)
  HL : Hp
  FL : Addr → Prop
  hL : Heap
  all : List Dn.D
  rs : Nat → Dn.Env
abbrev cgOf (G : Sd.Gl) (m : Nat) (H : Hp) (C : Calls) (N : Nat) : Cn := ⟨G, [m], [], fun _ => False, tupC H, none, fun _ _ _ _ => False, C, N⟩
abbrev Lp.cg (l : Lp) (H : Hp) : Cn := cgOf l.c.G l.D.m H l.C l.N
/-- what stands through the loop -/
structure LpOk (l : Lp) : Prop where
  kind : l.D.scope.kind = .function
  noc : l.D.env.cells = []
  nok : ∀ x, l.D.scope.names.lookup x ≠ some .cell ∧ l.D.scope.names.lookup x ≠ some .free
  x0 : l.X.s_0.heap.objs.size ≤ l.D.L
  hh : l.X.A.handled = none
  la : l.D.L < l.D.a
  god : ∀ v, l.D.go.data ≠ .cell v
  lo : ∀ p ∈ l.X.pn ++ l.pins, p.1 < l.D.L
  loc : l.X.env.locals < l.D.L
  cel : ∀ x c, l.X.env.cells.lookup x = some c → c < l.D.L
  ex : l.X.ex = []
  M : l.c.M = []
  P : l.c.P = []
  lt : ∀ b o, l.HL b = some o → b < l.D.L
  hok : HOk l.X.prog l.X.w l.HL l.hL
  tups : ∀ b xs, l.X.H_0 b = some (.tup xs) → l.HL b = some (.tup xs)
  frzs : ∀ b o u, l.X.H_0 b = some (.frz o u) → l.HL b = some (.frz o u)
  tbls : ∀ b ps, l.X.H_0 b = some (.tbl ps) → ∃ more, l.HL b = some (.tbl (ps ++ more))
  h0 : ∀ b o, l.c.H0 b = some o → l.HL b = some o
  hk : ∀ b o, l.HL b = some o → soft o = false ∨ l.FL b ∨ l.c.H0 b = some o
  f0 : ∀ b, l.c.F0 b → l.FL b
  fn : ∀ b, l.FL b → l.c.F0 b ∨ l.c.H0 b = none
  ft : ∀ b, l.FL b → ∃ o, l.HL b = some o
def WlOk (l : Lp) (wl : Wl) : Prop := ∀ aw ob vs, wl = some (aw, ob, vs) → l.X.s_0.heap.get? aw = none ∧ (∀ p ∈ l.X.pn ++ l.pins, p.1 ≠ aw) ∧ aw ≠ l.D.a ∧ aw ≠ l.D.L ∧ vs.length ≤ sizeLine ∧
  ∃ (its : List Value) (n : Nat), Vals vs its ∧ ob = { cls := .type "list", data := .seq its.toArray n }
def gpOf (D : GD) (oL : Obj) (wl : Wl) : List (Addr × Obj) := (D.L, oL) :: (D.a, D.go) :: (match wl with | some (aw, ob, _) => [(aw, ob)] | none => [])
theorem gp_L {D : GD} {oL : Obj} {wl : Wl} : (D.L, oL) ∈ gpOf D oL wl := List.mem_cons_self
theorem gp_a {D : GD} {oL : Obj} {wl : Wl} : (D.a, D.go) ∈ gpOf D oL wl := List.mem_cons_of_mem _ List.mem_cons_self
theorem gp_w {D : GD} {oL : Obj} {wl : Wl} {aw : Addr} {ob : Obj} {vs : List V} (h : wl = some (aw, ob, vs)) : (aw, ob) ∈ gpOf D oL wl := by
  subst h
  exact List.mem_cons_of_mem _ (List.mem_cons_of_mem _ List.mem_cons_self)
theorem of_gp {D : GD} {oL : Obj} {wl : Wl} {p : Addr × Obj} (h : p ∈ gpOf D oL wl) : p = (D.L, oL) ∨ p = (D.a, D.go) ∨ ∃ vs, wl = some (p.1, p.2, vs) := by
  unfold gpOf at h
  rcases List.mem_cons.mp h with h | h
  · exact .inl h
  rcases List.mem_cons.mp h with h | h
  · exact .inr (.inl h)
  cases wl with
  | none => cases h
  | some q =>
    obtain ⟨aw, ob, vs⟩ := q
    have e := List.mem_singleton.mp h
    subst e
    exact .inr (.inr ⟨vs, rfl⟩)
/-- the consumer about to wake it for its turn i (or, i being all, at the end) -/
structure Rdy (l : Lp) (i : Nat) (σ : L2.St) (H : Hp) (oL : Obj) (wl : Wl) (s : Shared) : Prop where
  inv : Inv l.X (gpOf l.D oL wl ++ l.pins) σ H s
  er : ER l.c (l.rs i) l.FL σ H
  hl : ∀ b o, l.HL b = some o → H b = some o
  cl : ∀ b o, H b = some o → l.HL b = some o ∨ ∃ xs, o = .tup xs
  wl : WlOk l wl
/-- the generator's things as it sleeps -/
structure Slp (D : GD) (G : Sd.Gl) (ρ : Dn.Env) (σ : L2.St) (mp : Str → Option Value) (oL : Obj) (wl : Wl) (H : Hp) : Prop where
  ns : ∀ h : Heap, h.get? D.L = some oL → h.Ns D.L mp
  val : ∀ (i : Nat) (x : Str) (v : V), D.N[i]? = some x → σ[i]? = some (some v) → Vis D.scope x → ∃ u, RelV v u ∧ D.scope.names.lookup x = some .local ∧ mp x = some u
  len : σ.length = D.N.length
  lenρ : ρ.length = σ.length
  slot : ∀ i d, i ≠ D.m → ρ[i]? = some (some d) → hard d = true ∧ ∃ v, σ[i]? = some (some v) ∧ RD G (fun _ => False) (tupC H) d v
  own : ∀ d, ρ[D.m]? = some (some d) → ∃ ds aw ob vs, wl = some (aw, ob, vs) ∧ d = .lst ds ∧ σ[D.m]? = some (some (.ref aw)) ∧ RDs G (fun _ => False) (tupC H) ds vs ∧ hards ds = true
section
variable {l : Lp} {i : Nat} {σ : L2.St} {H : Hp} {oL : Obj} {wl : Wl} {s : Shared}
theorem Rdy.p (R : Rdy l i σ H oL wl s) {q : Addr × Obj} (h : q ∈ gpOf l.D oL wl) : s.heap.get? q.1 = some q.2 ∧ H q.1 = none ∧ q.1 ≠ l.X.env.locals ∧ q.1 ∉ l.X.fs ∧ ∀ v, q.2.data ≠ .cell v :=
  R.inv.pin q (List.mem_append_right _ (List.mem_append_left _ h))
theorem Rdy.nstk (R : Rdy l i σ H oL wl s) {b : Addr} (h : b ≠ l.X.env.locals) (h2 : b ∉ l.X.fs) : b ∉ frs l.X.stack := fun m => (List.mem_cons.mp (R.inv.stkSub b m)).elim h h2
theorem Rdy.low (K : LpOk l) (R : Rdy l i σ H oL wl s) {b : Addr} (hb : b ∈ frs l.X.stack) : b < l.D.L := by
  rcases List.mem_cons.mp (R.inv.stkSub b hb) with e | h
  · rw [e]; exact K.loc
  · obtain ⟨_, o, ho, _⟩ := R.inv.ok.funs.mem h
    exact Nat.lt_of_lt_of_le (Heap.lt_size ho) K.x0
/-- it is not the list's address -/
theorem Rdy.offX (R : Rdy l i σ H oL wl s) {b : Addr} {o : Obj} (hb : l.X.s_0.heap.get? b = some o) : ∀ aw ob vs, wl = some (aw, ob, vs) → b ≠ aw := fun aw ob vs e z => by
  have := (R.wl aw ob vs e).1
  rw [← z, hb] at this; cases this
theorem Rdy.offH (R : Rdy l i σ H oL wl s) {b : Addr} {o : HO} (hb : H b = some o) : ∀ aw ob vs, wl = some (aw, ob, vs) → b ≠ aw := fun aw ob vs e z => by
  have := (R.p (gp_w e)).2.1
  rw [← z, hb] at this; cases this
theorem Rdy.offS (R : Rdy l i σ H oL wl s) {b : Addr} (hb : b ∈ frs l.X.stack) : ∀ aw ob vs, wl = some (aw, ob, vs) → b ≠ aw := fun aw ob vs e z => by
  obtain ⟨_, _, h1, h2, _⟩ := R.p (gp_w e)
  exact R.nstk h1 h2 (z ▸ hb)
theorem isNone_of {α : Type} {x : Option α} (h : x = none) : x.isNone = true := by rw [h]; rfl
theorem Rdy.okg (K : LpOk l) (R : Rdy l i σ H oL wl s) : (Xg l.X l.D s H wl).Ok where
  mod := R.inv.ok.mod
  kind := K.kind
  glob := rfl
  blt := rfl
  above := by show (cut _ _ _).objs.size ≤ l.D.L; rw [cut_size]; exact Nat.le_refl _
  inj := fun x y c h => by
    have h : l.D.env.cells.lookup x = some c := h
    rw [K.noc] at h; cases h
  has := fun x h => by
    have h : l.D.scope.names.lookup x = some .cell ∨ l.D.scope.names.lookup x = some .free := h
    exact h.elim (fun h => absurd h (K.nok x).1) fun h => absurd h (K.nok x).2
  cab := fun x c _ h => by
    have h : l.D.env.cells.lookup x = some c := h
    rw [K.noc] at h; cases h
  hd := fun _ => K.hh
  frames := Around.frames_deeper (show l.X.A.in1.frames = some l.X.stack from R.inv.ok.frames)
  stk := .inr ⟨rfl, rfl⟩
  exf := fun b h => by cases (show b ∈ ([] : List Addr) from h)
  bs := fun b o e => by
    have e1 := R.inv.bs b o e
    have e0 := (R.inv.ok.bs b o e).1
    refine ⟨?_, tupC_none e1.2⟩
    show (cut _ _ _).get? b = some o
    rw [cut_get, if_pos ⟨Nat.lt_of_lt_of_le (Heap.lt_size e0) K.x0, isNone_of (wake_none e1.2 (R.offX e0))⟩]
    exact e1.1
  bsz := by
    show _ ≤ (cut _ _ _).objs.size
    rw [cut_size]
    exact Nat.le_trans R.inv.ok.bsz K.x0
  noex := fun b o _ h => by cases (show b ∈ ([] : List Addr) from h)
  exfs := fun b h => by cases (show b ∈ ([] : List Addr) from h)
  funs := funs_cut R.inv.stack fun b hb => ⟨R.low K hb, isNone_of (wake_none (R.inv.stkFree b hb) (R.offS hb))⟩
  frf := fun b hb => tupC_none (R.inv.stkFree b hb)
/-- WOKEN -/
theorem Rdy.wake (K : LpOk l) (R : Rdy l i σ H oL wl s) {ρ : Dn.Env} {σg : L2.St} {mp : Str → Option Value} (S : Slp l.D l.c.G ρ σg mp oL wl H) :
    Inv (Xg l.X l.D s H wl) [(l.D.a, l.D.go)] σg (wakeH H wl) s ∧ ER (l.cg H) ρ (fun _ => False) σg (wakeH H wl) := by
  obtain ⟨pL1, pL2, pL3, pL4, _⟩ := R.p gp_L
  obtain ⟨pa1, pa2, pa3, pa4, _⟩ := R.p gp_a
  have offL : ∀ aw ob vs, wl = some (aw, ob, vs) → l.D.L ≠ aw := fun aw ob vs e => Ne.symm (R.wl aw ob vs e).2.2.2.1
  have offa : ∀ aw ob vs, wl = some (aw, ob, vs) → l.D.a ≠ aw := fun aw ob vs e => Ne.symm (R.wl aw ob vs e).2.2.1
  have up : ∀ b xs, tupC H b = some (.tup xs) → wakeH H wl b = some (.tup xs) := fun b xs e => by
    obtain ⟨ys, e2, h⟩ := tupC_of e
    rw [wake_off (R.offH h)]; exact e
  have noP : ∀ b : Addr, b ∉ (l.cg H).P := fun b h => by cases (show b ∈ ([] : List Addr) from h)
  constructor
  · refine ⟨R.okg K, rfl, R.inv.bare, ⟨fun b o e _ _ _ => (cut_some e).2.2, fun b o e _ _ _ => ⟨o.slots, (cut_some e).2.2⟩, fun b o e _ _ => ?_, fun b o e _ => ⟨o, (cut_some e).2.2⟩, up, fun b o u e => ?_, fun b ps e => ?_⟩,
      ⟨mp, S.ns _ pL1, fun i x v h1 h2 h3 => ?_⟩, fun x c h => ?_, wake_none pL2 offL, fun x c h => ?_, fun p hp => ?_, fun b o e => ?_, S.len⟩
    · have := (cut_some e).2.1
      cases q : wakeH H wl b with
      | none => rfl
      | some z => rw [q] at this; cases this
    · obtain ⟨_, h, _⟩ := tupC_of (show tupC H b = _ from e); cases h
    · obtain ⟨_, h, _⟩ := tupC_of (show tupC H b = _ from e); cases h
    · obtain ⟨u, r, k, q⟩ := S.val i x v h1 h2 h3
      exact ⟨u, r, .inl ⟨k, q⟩⟩
    · have h : l.D.env.cells.lookup x = some c := h
      rw [K.noc] at h; cases h
    · have h : l.D.env.cells.lookup x = some c := h
      rw [K.noc] at h; cases h
    · have e : p = (l.D.a, l.D.go) := List.mem_singleton.mp (show p ∈ [(l.D.a, l.D.go)] from hp)
      subst e
      exact ⟨pa1, wake_none pa2 offa, Nat.ne_of_gt K.la, R.nstk pa3 pa4, K.god⟩
    · rcases wake_of e with ⟨ob, vs, e1, rfl⟩ | ⟨xs, rfl, e1⟩
      · obtain ⟨_, _, _, _, hz, its, n, r, eo⟩ := R.wl b ob vs e1
        exact ⟨hz, its, n, r, by rw [← eo]; exact (R.p (gp_w e1)).1⟩
      · exact R.inv.hok b _ e1
  · refine ⟨S.lenρ, fun b o _ e => ?_, fun b h => h.elim, fun b h => h.elim, fun j d hj => ?_, fun b h => absurd h (noP b), fun b h => h.elim, fun b h => absurd h (noP b), fun j k d e v hj hk hne => ?_⟩
    · obtain ⟨xs, rfl, _⟩ := tupC_of (show tupC H b = _ from e)
      exact up b xs e
    · by_cases hm : j = l.D.m
      · subst hm
        obtain ⟨ds, aw, ob, vs, e1, rfl, e2, r, hd⟩ := S.own d hj
        refine ⟨_, e2, ?_⟩
        show if l.D.m ∈ [l.D.m] then OwnR (l.cg H) _ _ (.lst ds) _ else _
        rw [if_pos (List.mem_singleton.mpr rfl)]
        subst e1
        refine ⟨aw, vs, rfl, wake_at, fun h => h, .inr (tupC_none (R.p (gp_w rfl)).2.1), r.grow (fun b o h => ?_) fun _ h => h⟩
        obtain ⟨xs, rfl, _⟩ := tupC_of h
        exact up b xs h
      · obtain ⟨hd, v, e2, r⟩ := S.slot j d hm hj
        refine ⟨v, e2, ?_⟩
        have nm : j ∉ (l.cg H).M := fun z => hm (List.mem_singleton.mp (show j ∈ [l.D.m] from z))
        have r2 : RD l.c.G (fun _ => False) (wakeH H wl) d v := r.grow (fun b o h => by
          obtain ⟨xs, rfl, _⟩ := tupC_of h
          exact up b xs h) fun _ h => h
        have : if j ∈ (l.cg H).M then OwnR (l.cg H) (fun _ => False) (wakeH H wl) d v else RD (l.cg H).G (fun _ => False) (wakeH H wl) d v := by rw [if_neg nm]; exact r2
        cases d with
        | exn k xs => cases r2
        | _ => exact this
    · have e1 := List.mem_singleton.mp (show j ∈ [l.D.m] from hj)
      have e2 := List.mem_singleton.mp (show k ∈ [l.D.m] from hk)
      exact absurd (e1.trans e2.symm) hne
end
end Gn
set_option Elab.async false
set_option linter.all false
set_option autoImplicit false
set_option maxRecDepth 100000
set_option maxHeartbeats 4000000
/-! The generator falls asleep: what the consumer then has. -/
namespace Gn
open PySem PySem.Spec L2 Dn PyProof.Rows Sd
theorem objHas {P : Program} {w : World} {H : Hp} {h : Heap} {a : Addr} {o : HO} (x : ObjOk P w H h a o) : ∃ u, h.get? a = some u := by
  cases o with
  | lst xs => obtain ⟨_, _, _, _, e⟩ := x; exact ⟨_, e⟩
  | tup xs => obtain ⟨_, _, _, _, e, _⟩ := x; exact ⟨_, e⟩
  | dK kvs => obtain ⟨_, _, _, _, o, _, _, e, _⟩ := x; exact ⟨_, e⟩
  | dT kvs => obtain ⟨_, _, _, _, o, _, _, e, _⟩ := x; exact ⟨_, e⟩
  | set S n => obtain ⟨o, _, _, _, e, _⟩ := x; exact ⟨_, e⟩
  | ins C dx fs => obtain ⟨_, _, _, e, _⟩ := x; exact ⟨_, e⟩
  | own y => exact x
  | xd fs => obtain ⟨_, ⟨_, _, _, e, _⟩, _⟩ := x; exact ⟨_, e⟩
  | rng lo hi => obtain ⟨_, _, _, e⟩ := x; exact ⟨_, e⟩
  | frz ob u => exact ⟨_, x.1⟩
  | tbl ps => exact ⟨_, (show h.get? a = some _ from x)⟩
  | met f y => exact ⟨_, (show h.get? a = some _ from x)⟩
  | ext φ => exact x.2.1
mutual
/-- hard data lean on the tuples alone -/
theorem rdH {G : Sd.Gl} {F F' : Addr → Prop} {H H' : Hp} (t : ∀ a xs, SqT G.K H a xs → SqT G.K H' a xs) {d : Dn.D} {v : V} : RD G F H d v → hard d = true → RD G F' H' d v
  | .non, _ => .non
  | .bl b, _ => .bl b
  | .int i, _ => .int i
  | .str x, _ => .str x
  | .tup h r, k => .tup (t _ _ h) (rdsH t r (by rw [hard] at k; exact k))
  | .lst _ _ _, k => by rw [hard] at k; cases k
  | .fls _ _, k => by rw [hard] at k; cases k
  | .ins _ _ _ _ _, k => by rw [hard] at k; cases k
theorem rdsH {G : Sd.Gl} {F F' : Addr → Prop} {H H' : Hp} (t : ∀ a xs, SqT G.K H a xs → SqT G.K H' a xs) {ds : List Dn.D} {vs : List V} : RDs G F H ds vs → hards ds = true → RDs G F' H' ds vs
  | .nil, _ => .nil
  | .cons r rs, k => .cons (rdH t r (hards_cons k).1) (rdsH t rs (hards_cons k).2)
end
section
variable {l : Lp} {i : Nat} {σ σg : L2.St} {H Hg : Hp} {oL oL1 : Obj} {wl wl1 : Wl} {sw s : Shared}
theorem gBase (I : Inv (Xg l.X l.D sw H wl) [(l.D.a, l.D.go)] σg Hg s) : Un (frs l.X.stack) [] (tupC H) Hg (cut sw.heap l.D.L fun b => (wakeH H wl b).isNone) s.heap := I.base
theorem cutHas {b : Addr} {u : Obj} (n : wakeH H wl b = none) (lt : b < l.D.L) (e : sw.heap.get? b = some u) : (cut sw.heap l.D.L fun b => (wakeH H wl b).isNone).get? b = some u := by
  rw [cut_get, if_pos (show b < l.D.L ∧ (wakeH H wl b).isNone = true from ⟨lt, isNone_of n⟩)]
  exact e
theorem gKept (I : Inv (Xg l.X l.D sw H wl) [(l.D.a, l.D.go)] σg Hg s) {b : Addr} {u : Obj} (n : wakeH H wl b = none) (lt : b < l.D.L) (nf : b ∉ frs l.X.stack) (e : sw.heap.get? b = some u) : s.heap.get? b = some u :=
  (gBase I).keep b u (cutHas n lt e) (wake_tupC n) nf (by simp)
theorem gAny (I : Inv (Xg l.X l.D sw H wl) [(l.D.a, l.D.go)] σg Hg s) {b : Addr} {u : Obj} (n : wakeH H wl b = none) (lt : b < l.D.L) (e : sw.heap.get? b = some u) : ∃ sl, s.heap.get? b = some { u with slots := sl } :=
  (gBase I).any (cutHas n lt e) (wake_tupC n) (by simp)
theorem gFree (I : Inv (Xg l.X l.D sw H wl) [(l.D.a, l.D.go)] σg Hg s) {b : Addr} {u : Obj} (n : wakeH H wl b = none) (lt : b < l.D.L) (e : sw.heap.get? b = some u) : Hg b = none :=
  (gBase I).free b u (cutHas n lt e) (wake_tupC n) (by simp)
/-- what the consumer has besides tuples the generator does not know -/
theorem gNot (K : LpOk l) (R : Rdy l i σ H oL wl sw) (I : Inv (Xg l.X l.D sw H wl) [(l.D.a, l.D.go)] σg Hg s) {b : Addr} {o : HO} (e : H b = some o) (nt : ∀ xs, o ≠ .tup xs) : b < l.D.L ∧ wakeH H wl b = none ∧ Hg b = none := by
  have lt : b < l.D.L := (R.cl b o e).elim (K.lt b o) fun ⟨xs, h⟩ => absurd h (nt xs)
  have n : wakeH H wl b = none := wake_other e nt (R.offH e)
  obtain ⟨u, hu⟩ := objHas (R.inv.hok b o e)
  exact ⟨lt, n, gFree I n lt hu⟩
theorem gTup (I : Inv (Xg l.X l.D sw H wl) [(l.D.a, l.D.go)] σg Hg s) {b : Addr} {xs : List V} (e : H b = some (.tup xs)) : Hg b = some (.tup xs) := (gBase I).tups b xs (tupC_tup e)
theorem gBoth (K : LpOk l) (R : Rdy l i σ H oL wl sw) (I : Inv (Xg l.X l.D sw H wl) [(l.D.a, l.D.go)] σg Hg s) {b : Addr} {o o' : HO} (e : H b = some o) (g : Hg b = some o') : ∃ xs, o = .tup xs ∧ o' = .tup xs := by
  by_cases ht : ∃ xs, o = .tup xs
  · obtain ⟨xs, rfl⟩ := ht
    have := gTup I e
    rw [g] at this
    exact ⟨xs, rfl, Option.some.inj this⟩
  · have := (gNot K R I e fun xs h => ht ⟨xs, h⟩).2.2
    rw [g] at this; cases this
theorem gSq (K : LpOk l) (R : Rdy l i σ H oL wl sw) (I : Inv (Xg l.X l.D sw H wl) [(l.D.a, l.D.go)] σg Hg s) {K' : PySem.W.Frag} {b : Addr} {xs : List V} (h : SqT K' Hg b xs) : SqT K' (tupC (mrg H Hg)) b xs := by
  refine h.elim (fun h => .inl (.inl (tupC_tup ?_))) .inr
  rcases h with h | ⟨w, h⟩
  · cases q : H b with
    | some o =>
      obtain ⟨ys, e1, e2⟩ := gBoth K R I q h
      cases e2
      rw [mrg_l q, e1]
    | none => rw [mrg_r q, h]; rfl
  · cases q : H b with
    | some o =>
      obtain ⟨ys, e1, e2⟩ := gBoth K R I q h
      cases e2
    | none => rw [mrg_r q, h]; rfl
theorem sqC {K' : PySem.W.Frag} {H : Hp} {b : Addr} {xs : List V} (h : SqT K' (tupC H) b xs) : SqT K' H b xs := by
  refine h.elim (fun h => .inl ?_) .inr
  rcases h with h | ⟨w, h⟩
  · obtain ⟨ys, e, q⟩ := tupC_of h
    cases e
    exact .inl q
  · obtain ⟨ys, e, q⟩ := tupC_of h
    cases e
/-- ASLEEP -/
theorem Rdy.sleep (K : LpOk l) (R : Rdy l i σ H oL wl sw) (I : Inv (Xg l.X l.D sw H wl) [(l.D.a, l.D.go)] σg Hg s) (hL : s.heap.get? l.D.L = some oL1)
    (W1 : ∀ aw ob vs, wl1 = some (aw, ob, vs) → Hg aw = some (.lst vs) ∧ s.heap.get? aw = some ob) : Rdy l i σ (mrg H Hg) oL1 wl1 s := by
  have noX : ∀ b : Addr, b ∉ l.X.ex := fun b h => by rw [K.ex] at h; cases h
  have s0 : ∀ b o, l.X.s_0.heap.get? b = some o → b < l.D.L ∧ b ≠ l.X.env.locals := fun b o e => ⟨Nat.lt_of_lt_of_le (Heap.lt_size e) K.x0, Nat.ne_of_lt (Nat.lt_of_lt_of_le (Heap.lt_size e) R.inv.ok.above)⟩
  have pinG : ∀ p ∈ l.X.pn ++ l.pins, s.heap.get? p.1 = some p.2 ∧ H p.1 = none ∧ Hg p.1 = none ∧ p.1 ≠ l.X.env.locals ∧ p.1 ∉ l.X.fs ∧ ∀ v, p.2.data ≠ .cell v := fun p hp => by
    have hp' : p ∈ l.X.pn ++ (gpOf l.D oL wl ++ l.pins) := (List.mem_append.mp hp).elim (fun h => List.mem_append_left _ h) fun h => List.mem_append_right _ (List.mem_append_right _ h)
    obtain ⟨h1, h2, h3, h4, h5⟩ := R.inv.pin p hp'
    have n : wakeH H wl p.1 = none := wake_none h2 fun aw ob vs e => (R.wl aw ob vs e).2.1 p hp
    exact ⟨gKept I n (K.lo p hp) (R.nstk h3 h4) h1, h2, gFree I n (K.lo p hp) h1, h3, h4, h5⟩
  have awH : ∀ aw ob vs, wl1 = some (aw, ob, vs) → H aw = none := fun aw ob vs e => by
    cases q : H aw with
    | none => rfl
    | some o =>
      obtain ⟨xs, _, z⟩ := gBoth K R I q (W1 aw ob vs e).1
      cases z
  have gL : Hg l.D.L = none := I.free
  have gA : Hg l.D.a = none := (I.pin (l.D.a, l.D.go) (List.mem_singleton.mpr rfl)).2.1
  have lst : ∀ aw ob vs, wl1 = some (aw, ob, vs) → vs.length ≤ sizeLine ∧ ∃ (its : List Value) (n : Nat), Vals vs its ∧ ob = { cls := .type "list", data := .seq its.toArray n } := fun aw ob vs e => by
    obtain ⟨h1, h2⟩ := W1 aw ob vs e
    obtain ⟨hz, its, n, r, q⟩ := I.hok aw _ h1
    rw [h2] at q
    exact ⟨hz, its, n, r, Option.some.inj q⟩
  have wok : WlOk l wl1 := fun aw ob vs e => by
    have h1 := (W1 aw ob vs e).1
    refine ⟨?_, fun p hp z => ?_, fun z => ?_, fun z => ?_, lst aw ob vs e⟩
    · cases q : l.X.s_0.heap.get? aw with
      | none => rfl
      | some o =>
        obtain ⟨o', ho⟩ := R.inv.base.there aw o q (noX aw)
        have := gFree I (wake_none (awH aw ob vs e) (R.offX q)) (s0 aw o q).1 ho
        rw [h1] at this; cases this
    · have := (pinG p hp).2.2.1
      rw [z, h1] at this; cases this
    · rw [z, gA] at h1; cases h1
    · rw [z, gL] at h1; cases h1
  obtain ⟨pL1, pL2, pL3, pL4, _⟩ := R.p gp_L
  obtain ⟨pa1, pa2, pa3, pa4, pa5⟩ := R.p gp_a
  have locOff : ∀ aw ob vs, wl = some (aw, ob, vs) → l.X.env.locals ≠ aw := fun aw ob vs e => Ne.symm (R.p (gp_w e)).2.2.1
  have celOff : ∀ x c, l.X.env.cells.lookup x = some c → ∀ aw ob vs, wl = some (aw, ob, vs) → c ≠ aw := fun x c h aw ob vs e z => by
    obtain ⟨v, o, ho, hd⟩ := R.inv.cell x c h
    obtain ⟨h1, _, _, _, h5⟩ := R.p (gp_w e)
    rw [z, h1] at ho
    have ho : ob = o := Option.some.inj ho
    exact h5 v (by rw [ho]; exact hd)
  have cellK : ∀ x c, l.X.env.cells.lookup x = some c → ∀ v, sw.heap.IsCell c v → s.heap.IsCell c v := fun x c h v ⟨o, ho, hd⟩ => by
    obtain ⟨sl, q⟩ := gAny I (wake_none (R.inv.freeC x c h) (celOff x c h)) (K.cel x c h) ho
    exact ⟨_, q, hd⟩
  have nstkL : l.D.L ∉ l.X.fs := pL4
  refine ⟨⟨R.inv.ok, I.os.trans R.inv.os, I.bare, ⟨fun b o e n nf ne => ?_, fun b o e n nf ne => ?_, fun b o e n ne => ?_, fun b o e ne => ?_, fun b xs e => mrg_l (R.inv.base.tups b xs e), fun b o u e => mrg_l (R.inv.base.frzs b o u e), fun b ps e => ?_⟩,
    ?_, fun x c e => ?_, mrg_none R.inv.free ?_, fun x c e => mrg_none (R.inv.freeC x c e) ?_, fun p hp => ?_, fun b o e => ?_, R.inv.len⟩,
    R.er.mono ⟨fun b o e => mrg_l e, fun _ h => h, fun _ h => .inl h, fun _ h => .inl h⟩, fun b o e => mrg_l (R.hl b o e), fun b o e => (mrg_of e).elim (R.cl b o) fun ⟨_, xs, h, _⟩ => .inr ⟨xs, h⟩, wok⟩
  · have h := R.inv.base.free b o e n ne
    exact gKept I (wake_none h (R.offX e)) (s0 b o e).1 (R.nstk (s0 b o e).2 nf) (R.inv.base.keep b o e n nf ne)
  · have h := R.inv.base.free b o e n ne
    obtain ⟨sl, q⟩ := R.inv.base.slot b o e n nf ne
    obtain ⟨sl2, q2⟩ := gAny I (wake_none h (R.offX e)) (s0 b o e).1 q
    exact ⟨sl2, q2⟩
  · have h := R.inv.base.free b o e n ne
    obtain ⟨o', ho⟩ := R.inv.base.there b o e ne
    exact mrg_none h (gFree I (wake_none h (R.offX e)) (s0 b o e).1 ho)
  · obtain ⟨o', ho⟩ := R.inv.base.there b o e ne
    cases q : wakeH H wl b with
    | none =>
      obtain ⟨sl, q2⟩ := gAny I q (s0 b o e).1 ho
      exact ⟨_, q2⟩
    | some z =>
      rcases wake_of q with ⟨ob, vs, e1, _⟩ | ⟨xs, _, e1⟩
      · exact absurd rfl (R.offX e b ob vs e1)
      · exact objHas (I.hok b _ (gTup I e1))
  · obtain ⟨more, q⟩ := R.inv.base.tbls b ps e
    exact ⟨more, mrg_l q⟩
  · obtain ⟨m, ⟨o, es, ep, ho, r⟩, q⟩ := R.inv.loc
    obtain ⟨sl, hL2⟩ := gAny I (wake_none R.inv.free locOff) K.loc ho
    refine ⟨m, ⟨_, es, ep, hL2, r⟩, fun i x v e1 e2 e3 => ?_⟩
    obtain ⟨u, ru, k⟩ := q i x v e1 e2 e3
    refine ⟨u, ru, k.imp id fun ⟨hk, c, hc, z⟩ => ⟨hk, c, hc, cellK x c hc _ z⟩⟩
  · obtain ⟨v, z⟩ := R.inv.cell x c e
    exact ⟨v, cellK x c e v z⟩
  · obtain ⟨m, ⟨o, es, ep, ho, r⟩, q⟩ := R.inv.loc
    exact gFree I (wake_none R.inv.free locOff) K.loc ho
  · obtain ⟨v, o, ho, hd⟩ := R.inv.cell x c e
    exact gFree I (wake_none (R.inv.freeC x c e) (celOff x c e)) (K.cel x c e) ho
  · have hp' : p ∈ l.X.pn ++ l.pins ∨ p ∈ gpOf l.D oL1 wl1 := by
      rcases List.mem_append.mp hp with h | h
      · exact .inl (List.mem_append_left _ h)
      · rcases List.mem_append.mp h with h | h
        · exact .inr h
        · exact .inl (List.mem_append_right _ h)
    rcases hp' with hp | hp
    · obtain ⟨h1, h2, h3, h4, h5, h6⟩ := pinG p hp
      exact ⟨h1, mrg_none h2 h3, h4, h5, h6⟩
    · rcases of_gp hp with e | e | ⟨vs, e⟩
      · subst e
        refine ⟨hL, mrg_none pL2 gL, pL3, pL4, fun v z => ?_⟩
        obtain ⟨m, ⟨o, es, ep, ho, hd, _⟩, _⟩ := I.loc
        have ho : s.heap.get? l.D.L = some o := ho
        rw [hL] at ho
        have ho : oL1 = o := Option.some.inj ho
        have z : oL1.data = .cell v := z
        rw [ho, hd] at z; cases z
      · subst e
        exact ⟨(I.pin (l.D.a, l.D.go) (List.mem_singleton.mpr rfl)).1, mrg_none pa2 gA, pa3, pa4, pa5⟩
      · obtain ⟨h1, h2⟩ := W1 _ _ _ e
        obtain ⟨_, its, n, _, eo⟩ := lst _ _ _ e
        have hn := awH _ _ _ e
        refine ⟨h2, ?_, fun z => ?_, fun z => ?_, fun v z => by rw [eo] at z; cases z⟩
        · rw [mrg_r hn, h1]; rfl
        · obtain ⟨m, ⟨o, es, ep, ho, r⟩, q⟩ := R.inv.loc
          have := gFree I (wake_none R.inv.free locOff) K.loc ho
          rw [← z, h1] at this; cases this
        · obtain ⟨_, o, ho, _⟩ := R.inv.ok.funs.mem z
          have := (wok _ _ _ e).1
          rw [ho] at this; cases this
  · by_cases ht : ∃ xs, o = .tup xs
    · obtain ⟨xs, rfl⟩ := ht
      rcases mrg_of e with h | ⟨_, ys, e1, h | ⟨w, h⟩⟩
      · exact I.hok b _ (gTup I h)
      · cases e1
        exact I.hok b _ h
      · cases e1
        exact (I.hok b _ h).2
    · have nt : ∀ xs, o ≠ .tup xs := fun xs h => ht ⟨xs, h⟩
      rcases mrg_of e with h | ⟨_, ys, e1, _⟩
      · have kp : ∀ c o' u, H c = some o' → (∀ xs, o' ≠ .tup xs) → sw.heap.get? c = some u → s.heap.get? c = some u := fun c o' u h1 h2 h3 => by
          obtain ⟨q1, q2, _⟩ := gNot K R I h1 h2
          exact gKept I q2 q1 (fun m => by rw [R.inv.stkFree c m] at h1; cases h1) h3
        refine (R.inv.hok b o h).stay (fun c u hc q => ?_) (fun c q => mrg_l q) fun c xs q => mrg_l q
        rcases hc with rfl | hc
        · exact kp _ _ _ h nt q
        · exact kp _ _ _ hc (fun xs z => by cases z) q
      · exact absurd e1 (nt ys)
/-- .. its own things then -/
theorem Rdy.slp (K : LpOk l) (R : Rdy l i σ H oL wl sw) (I : Inv (Xg l.X l.D sw H wl) [(l.D.a, l.D.go)] σg Hg s) {ρ : Dn.Env} {F : Addr → Prop} (E : ER (l.cg H) ρ F σg Hg) (g : gOk l.D.m ρ = true) :
    ∃ mp oL1 wl1, Rdy l i σ (mrg H Hg) oL1 wl1 s ∧ Slp l.D l.c.G ρ σg mp oL1 wl1 (mrg H Hg) := by
  obtain ⟨mp, hns, q⟩ := I.loc
  obtain ⟨oL1, es, ep, ho, r⟩ := id hns
  unfold gOk at g
  rw [Bool.and_eq_true] at g
  have hm : l.D.m ∈ (l.cg H).M := List.mem_singleton.mpr rfl
  have slot : ∀ j d, j ≠ l.D.m → ρ[j]? = some (some d) → hard d = true ∧ ∃ v, σg[j]? = some (some v) ∧ RD l.c.G (fun _ => False) (tupC (mrg H Hg)) d v := fun j d hj e => by
    have e1 : (ρ.set l.D.m none)[j]? = some (some d) := by rw [List.getElem?_set_ne (Ne.symm hj)]; exact e
    have hd : hard d = true := by
      have := List.all_eq_true.mp g.1 (some d) (List.mem_of_getElem? e1)
      exact this
    obtain ⟨v, h1, h2⟩ := E.at_ j d e
    refine ⟨hd, v, h1, ?_⟩
    have nm : j ∉ (l.cg H).M := fun z => hj (List.mem_singleton.mp (show j ∈ [l.D.m] from z))
    have h3 : RD l.c.G F Hg d v := by
      cases d with
      | exn k ds => rw [hard] at hd; cases hd
      | _ =>
        have h2 : if j ∈ (l.cg H).M then OwnR (l.cg H) F Hg _ v else RD (l.cg H).G F Hg _ v := h2
        rw [if_neg nm] at h2; exact h2
    exact rdH (fun a xs h => gSq K R I h) h3 hd
  have val : ∀ (i : Nat) (x : Str) (v : V), l.D.N[i]? = some x → σg[i]? = some (some v) → Vis l.D.scope x → ∃ u, RelV v u ∧ l.D.scope.names.lookup x = some .local ∧ mp x = some u := fun i x v h1 h2 h3 => by
    obtain ⟨u, ru, k⟩ := q i x v h1 h2 h3
    refine ⟨u, ru, ?_⟩
    rcases k with ⟨k, e⟩ | ⟨k, _⟩
    · exact ⟨k, e⟩
    · have k : l.D.scope.names.lookup x = some .cell ∨ l.D.scope.names.lookup x = some .free := k
      exact k.elim (fun h => absurd h (K.nok x).1) fun h => absurd h (K.nok x).2
  have ns : ∀ h : Heap, h.get? l.D.L = some oL1 → h.Ns l.D.L mp := fun h e => ⟨oL1, es, ep, e, r⟩
  cases q1 : slotD ρ l.D.m with
  | none =>
    refine ⟨mp, oL1, none, R.sleep K I ho (fun aw ob vs e => (by cases e)), ns, val, I.len, E.len, slot, fun d e => ?_⟩
    unfold slotD at q1
    rw [e] at q1; cases q1
  | some d0 =>
    rw [q1] at g
    cases d0 with
    | lst ds =>
      have hds : hards ds = true := g.2
      obtain ⟨v, h1, h2⟩ := E.owns hm q1
      obtain ⟨aw, vs, rfl, h3, h4, h5, h6⟩ := h2
      obtain ⟨hz, its, n, rv, h7⟩ := I.hok aw _ h3
      refine ⟨mp, oL1, some (aw, { cls := .type "list", data := .seq its.toArray n }, vs), R.sleep K I ho fun aw' ob' vs' e => ?_, ns, val, I.len, E.len, slot, fun d e => ?_⟩
      · cases e
        exact ⟨h3, h7⟩
      · have ed : slotD ρ l.D.m = some d := by unfold slotD; rw [e]; rfl
        rw [q1] at ed
        cases ed
        exact ⟨ds, aw, _, vs, rfl, rfl, h1, rdsH (fun a xs h => gSq K R I h) h6 hds, hds⟩
    | _ => cases g.2
theorem Slp.up {D : GD} {G : Sd.Gl} {ρ : Dn.Env} {mp : Str → Option Value} {H H' : Hp} (S : Slp D G ρ σg mp oL wl H) (u : ∀ b xs, H b = some (.tup xs) → H' b = some (.tup xs)) : Slp D G ρ σg mp oL wl H' :=
  have t : ∀ b o, tupC H b = some o → tupC H' b = some o := fun b o e => by
    obtain ⟨xs, rfl, h⟩ := tupC_of e
    exact tupC_tup (u b xs h)
  ⟨S.ns, S.val, S.len, S.lenρ, fun i d hi e => let ⟨h1, v, h2, h3⟩ := S.slot i d hi e; ⟨h1, v, h2, h3.grow t fun _ h => h⟩,
    fun d e => let ⟨ds, aw, ob, vs, h1, h2, h3, h4, h5⟩ := S.own d e; ⟨ds, aw, ob, vs, h1, h2, h3, h4.grow t fun _ h => h, h5⟩⟩
end
end Gn
set_option Elab.async false
set_option linter.all false
set_option autoImplicit false
set_option maxRecDepth 100000
set_option maxHeartbeats 4000000
/-! What the consumer knows besides what stands through the loop is let go, but for the tuples. -/
namespace Gn
open PySem PySem.Spec L2 Dn PyProof.Rows Sd
theorem objTwo {P : Program} {w : World} {H1 H2 H' : Hp} {h1 h2 : Heap} {a : Addr} {o : HO} (x : ObjOk P w H1 h1 a o) (y : ObjOk P w H2 h2 a o) (ho : ∀ b, H1 b = some (.own a) → H' b = some (.own a)) (ht : ∀ b xs, H2 b = some (.tup xs) → H' b = some (.tup xs)) : ObjOk P w H' h2 a o := by
  induction o with
  | dT kvs =>
    obtain ⟨z, n, xs, r, c⟩ := y
    exact ⟨z, n, xs, Paired.mapP r fun p q z => ⟨z.1, ht _ _ z.2.1, z.2.2⟩, c⟩
  | ins C dx fs => exact ⟨ho _ x.1, y.2⟩
  | frz ob u ih => exact ⟨y.1, ih x.2 y.2⟩
  | _ => exact y
section
variable {l : Lp} {i : Nat} {σ : L2.St} {H H1 : Hp} {F : Addr → Prop} {ρ : Dn.Env} {oL : Obj} {wl : Wl} {s : Shared}
theorem hl_keep (K : LpOk l) (hl : ∀ b o, l.HL b = some o → H1 b = some o) (k : Keep l.FL H1 F H) (E : ER l.c ρ F σ H) : ∀ b o, l.HL b = some o → H b = some o := fun b o e => by
  rcases K.hk b o e with h | h | h
  · exact k.st b o (hl b o e) h
  · exact k.fz b o h (hl b o e)
  · exact E.same b o (by rw [K.P]; simp) h
theorem sqM {K' : PySem.W.Frag} {HL : Hp} {b : Addr} {xs : List V} (hl : ∀ b o, HL b = some o → H b = some o) (h : SqT K' H b xs) : SqT K' (mrg HL H) b xs := by
  refine h.elim (fun h => .inl ?_) .inr
  rcases h with h | ⟨w, h⟩
  · refine .inl ?_
    cases q : HL b with
    | some o => rw [mrg_l q, ← hl b o q]; exact h
    | none => rw [mrg_r q, h]; rfl
  · cases q : HL b with
    | some o => exact .inr ⟨w, by rw [mrg_l q, ← hl b o q]; exact h⟩
    | none => exact .inl (by rw [mrg_r q, h]; rfl)
theorem Lp.nox (K : LpOk l) (b : Addr) : b ∉ l.X.ex := fun h => by rw [K.ex] at h; cases h
/-- CLEANED -/
theorem clean (K : LpOk l) (I : Inv l.X (gpOf l.D oL wl ++ l.pins) σ H s) (E : ER l.c ρ F σ H) (hl : ∀ b o, l.HL b = some o → H b = some o) (hd : hardEnv ρ = true) (hi : l.rs i = ρ) (wok : WlOk l wl) : Rdy l i σ (mrg l.HL H) oL wl s := by
  have nn : ∀ b, H b = none → mrg l.HL H b = none := fun b h => by
    cases q : l.HL b with
    | some o => rw [hl b o q] at h; cases h
    | none => exact mrg_none q h
  have noM : ∀ j : Nat, j ∉ l.c.M := fun j h => by rw [K.M] at h; cases h
  have noP : ∀ j : Addr, j ∉ l.c.P := fun j h => by rw [K.P] at h; cases h
  refine ⟨⟨I.ok, I.os, I.bare, ⟨I.base.keep, I.base.slot, fun b o e n x => nn b (I.base.free b o e n x), I.base.there, fun b xs e => mrg_l (K.tups b xs e), fun b o u e => mrg_l (K.frzs b o u e), fun b ps e => ?_⟩,
    I.loc, I.cell, nn _ I.free, fun x c e => nn _ (I.freeC x c e), fun p hp => ?_, fun b o e => ?_, I.len⟩,
    ⟨by rw [hi]; exact E.len, fun b o _ e => mrg_l (K.h0 b o e), K.f0, K.fn, fun j d e => ?_, fun b h => absurd h (noP b), fun b h => ?_, fun b h => absurd h (noP b), fun j k d e v hj => absurd hj (noM j)⟩,
    fun b o e => mrg_l e, fun b o e => (mrg_of e).imp id fun ⟨_, xs, h, _⟩ => ⟨xs, h⟩, wok⟩
  · obtain ⟨more, q⟩ := K.tbls b ps e
    exact ⟨more, mrg_l q⟩
  · obtain ⟨h1, h2, h3⟩ := I.pin p hp
    exact ⟨h1, nn _ h2, h3⟩
  · rcases mrg_of e with h | ⟨_, xs, e1, h | ⟨w, h⟩⟩
    · refine objTwo (K.hok b o h) (I.hok b o (hl b o h)) (fun c q => mrg_l q) fun c xs q => ?_
      cases q2 : l.HL c with
      | some u => rw [mrg_l q2, ← hl c u q2]; exact q
      | none => rw [mrg_r q2, q]; rfl
    · subst e1; exact I.hok b _ h
    · subst e1; exact (I.hok b _ h).2
  · rw [hi] at e
    have hj : hard d = true := List.all_eq_true.mp hd (some d) (List.mem_of_getElem? e)
    obtain ⟨v, h1, h2⟩ := E.at_ j d e
    refine ⟨v, h1, ?_⟩
    have h3 : RD l.c.G F H d v := by
      cases d with
      | exn k ds => rw [hard] at hj; cases hj
      | _ =>
        have h2 : if j ∈ l.c.M then OwnR l.c F H _ v else RD l.c.G F H _ v := h2
        rw [if_neg (noM j)] at h2; exact h2
    have h4 : RD l.c.G l.FL (mrg l.HL H) d v := rdH (fun a xs h => sqM hl h) h3 hj
    have : if j ∈ l.c.M then OwnR l.c l.FL (mrg l.HL H) d v else RD l.c.G l.FL (mrg l.HL H) d v := by rw [if_neg (noM j)]; exact h4
    cases d with
    | exn k ds => rw [hard] at hj; cases hj
    | _ => exact this
  · obtain ⟨o, h⟩ := K.ft b h
    exact ⟨o, mrg_l h⟩
end
/-! ### at the loop's begin -/
open Classical in
noncomputable def startH (c : Cn) (F : Addr → Prop) (H : Hp) : Hp := fun b => match H b with
  | some o => if soft o = false ∨ F b ∨ c.H0 b = some o then some o else none
  | none => none
theorem startH_of {c : Cn} {F : Addr → Prop} {H : Hp} {b : Addr} {o : HO} (h : startH c F H b = some o) : H b = some o ∧ (soft o = false ∨ F b ∨ c.H0 b = some o) := by
  unfold startH at h
  cases q : H b with
  | none => rw [q] at h; cases h
  | some u =>
    rw [q] at h
    dsimp only at h
    split at h
    · rename_i z; cases h; exact ⟨rfl, z⟩
    · cases h
theorem startH_in {c : Cn} {F : Addr → Prop} {H : Hp} {b : Addr} {o : HO} (h : H b = some o) (z : soft o = false ∨ F b ∨ c.H0 b = some o) : startH c F H b = some o := by
  unfold startH
  rw [h]
  dsimp only
  rw [if_pos z]
noncomputable def lpOf (X : Cx) (c : Cn) (D : GD) (C : Calls) (N : Nat) (pins : List (Addr × Obj)) (F : Addr → Prop) (H : Hp) (h : Heap) (all : List Dn.D) (rs : Nat → Dn.Env) : Lp := ⟨X, c, D, C, N, pins, startH c F H, F, h, all, rs⟩
theorem lpOk {X : Cx} {c : Cn} {D : GD} {C : Calls} {N : Nat} {pins : List (Addr × Obj)} {F : Addr → Prop} {H : Hp} {all : List Dn.D} {rs : Nat → Dn.Env} {σ : L2.St} {ρ : Dn.Env} {s : Shared} (I : Inv X pins σ H s) (E : ER c ρ F σ H)
    (kind : D.scope.kind = .function) (noc : D.env.cells = []) (nok : ∀ x, D.scope.names.lookup x ≠ some .cell ∧ D.scope.names.lookup x ≠ some .free) (hL : D.L = s.heap.objs.size) (la : D.L < D.a) (god : ∀ v, D.go.data ≠ .cell v)
    (ex : X.ex = []) (hc : X.calm = true) (hM : c.M = []) (hP : c.P = []) : LpOk (lpOf X c D C N pins F H s.heap all rs) where
  kind := kind
  noc := noc
  nok := nok
  x0 := by show _ ≤ D.L; rw [hL]; exact I.sz
  hh := I.ok.hd hc
  la := la
  god := god
  lo := fun p hp => by show p.1 < D.L; rw [hL]; exact Heap.lt_size (I.pin p hp).1
  loc := by show _ < D.L; rw [hL]; exact I.lt
  cel := fun x c h => by
    obtain ⟨v, o, ho, _⟩ := I.cell x c h
    show c < D.L
    rw [hL]; exact Heap.lt_size ho
  ex := ex
  M := hM
  P := hP
  lt := fun b o h => by show b < D.L; rw [hL]; exact I.hok.lt (startH_of h).1
  hok := fun b o h => (I.hok b o (startH_of h).1).stay (fun _ _ _ q => q) (fun c q => startH_in q (.inl rfl)) fun c xs q => startH_in q (.inl rfl)
  tups := fun b xs h => startH_in (I.base.tups b xs h) (.inl rfl)
  frzs := fun b o u h => startH_in (I.base.frzs b o u h) (.inl rfl)
  tbls := fun b ps h => let ⟨more, q⟩ := I.base.tbls b ps h; ⟨more, startH_in q (.inl rfl)⟩
  h0 := fun b o h => startH_in (E.same b o (by rw [hP]; simp) h) (.inr (.inr h))
  hk := fun b o h => (startH_of h).2
  f0 := E.up
  fn := E.new
  ft := fun b h => let ⟨o, q⟩ := E.there b h; ⟨o, startH_in q (.inr (.inl h))⟩
end Gn
set_option Elab.async false
set_option linter.all false
set_option autoImplicit false
set_option maxRecDepth 100000
set_option maxHeartbeats 4000000
/-! The generator's statements. -/
namespace Gn
open PySem PySem.Spec L2 Dn PyProof.Rows Sd
/-- running, woken for the turn i -/
def Run (l : Lp) (i : Nat) (ρ : Dn.Env) (s : Shared) : Prop :=
  ∃ (σ : L2.St) (H : Hp) (oL : Obj) (wl : Wl) (sw : Shared) (σg : L2.St) (Hg : Hp) (F : Addr → Prop), Rdy l i σ H oL wl sw ∧ Inv (Xg l.X l.D sw H wl) [(l.D.a, l.D.go)] σg Hg s ∧ ER (l.cg H) ρ F σg Hg
def Ran (l : Lp) (i : Nat) (s : Shared) : Prop :=
  ∃ (σ : L2.St) (H : Hp) (oL : Obj) (wl : Wl) (sw : Shared) (σg : L2.St) (Hg : Hp), Rdy l i σ H oL wl sw ∧ Inv (Xg l.X l.D sw H wl) [(l.D.a, l.D.go)] σg Hg s
theorem Run.ran {l : Lp} {i : Nat} {ρ : Dn.Env} {s : Shared} : Run l i ρ s → Ran l i s := fun ⟨σ, H, oL, wl, sw, σg, Hg, _, R, I, _⟩ => ⟨σ, H, oL, wl, sw, σg, Hg, R, I⟩
theorem Ran.rdy {l : Lp} {i : Nat} {s : Shared} (K : LpOk l) : Ran l i s → ∃ σ H oL wl, Rdy l i σ H oL wl s := fun ⟨σ, H, oL, wl, sw, σg, Hg, R, I⟩ => by
  obtain ⟨mp, ⟨o, es, ep, ho, r⟩, q⟩ := I.loc
  exact ⟨σ, mrg H Hg, o, none, R.sleep K I ho fun aw ob vs e => (by cases e)⟩
def GR (l : Lp) : GenEnd := fun n _ r s => r = .ok (.ret .none) ∧ n = 1 ∧ ∃ σ H oL wl, Rdy l l.all.length σ H oL wl s
/-- woken for the next turn -/
def GY (l : Lp) : Protocol := fun m _ v s kap => ∃ (i : Nat) (d : Dn.D), m + i = l.all.length ∧ l.all[i]? = some d ∧ ∃ (σ : L2.St) (H : Hp) (oL : Obj) (wl : Wl) (x : V), RelV x v ∧ Rdy l i σ H oL wl s ∧ RD l.c.G l.FL H d x ∧ hard d = true ∧
  ∀ s' σ' H', Rdy l (i + 1) σ' H' oL wl s' → (∀ b xs, H b = some (.tup xs) → H' b = some (.tup xs)) → kap (.send .none) s'
structure GC (l : Lp) (c : Code) (fs : List Frame) (gd : Bool → Bool) : Prop where
  over : l.X.A.in1.over c fs = l.X.A.in1.deeper l.D.env
  split : splitAtGen fs = none
  guard : fs.any Frame.guarded = false
  gd : gd false = false
theorem GC.loop {l : Lp} {c c' : Code} {fs : List Frame} {gd : Bool → Bool} (g : GC l c fs gd) {k : Result → Sem PySem.Fin} {lv kp : List Value} {p : Pos} (hw : c'.weight = 0) (hu : c'.cUnits = 0) : GC l c' (.ret k none (gd false) lv c p kp :: fs) id where
  over := (GenW.over_loop hw hu).trans g.over
  split := by
    have : splitAtGen (Frame.ret k none (gd false) lv c p kp :: fs) = (splitAtGen fs).map _ := rfl
    rw [this, g.split]; rfl
  guard := by
    have : (Frame.ret k none (gd false) lv c p kp :: fs).any Frame.guarded = (gd false || fs.any Frame.guarded) := rfl
    rw [this, g.gd, g.guard]; rfl
  gd := rfl
def fineO : O → Prop
  | .nx _ => True
  | .bk _ => True
  | .ct _ => True
  | .rt d _ => d = .non
  | _ => False
def Out (l : Lp) (i : Nat) (o : O) (f : Flow) (s : Shared) : Prop := match o, f with
  | .nx ρ, .next => Run l i ρ s
  | .bk ρ, .brk => Run l i ρ s
  | .ct ρ, .cont => Run l i ρ s
  | .rt _ _, .ret u => u = Value.none ∧ Ran l i s
  | _, _ => False
abbrev GM (l : Lp) : Model := model l.X.prog l.X.w
def GK (l : Lp) (c : Code) (fs : List Frame) (K : Flow → Sem PySem.Fin) (i : Nat) (r : List Dn.D × O) : Prop :=
  ∀ (n' : Nat) (s₀' s' : Shared) (fl : Flow), n' + (i + r.1.length) = l.all.length + 1 → Out l (i + r.1.length) r.2 fl s' → Seg (GM l) l.X.A.in1 (GR l) (GY l) n' s₀' c (K fl) fs s'
structure GJ (l : Lp) (t : Sem Flow) (f : Dn.Env → List Dn.D × O) : Prop where
  run : ∀ (c : Code) (fs : List Frame) (K : Flow → Sem PySem.Fin) (J : Value → Sem PySem.Fin) (gd : Bool → Bool) (lv : List Value → List Value) (n i : Nat) (s₀ s : Shared) (ρ : Dn.Env) (zs : List Dn.D), GC l c fs gd → n + i = l.all.length + 1 → Run l i ρ s →
    l.all.drop i = (f ρ).1 ++ zs → fineO (f ρ).2 → GK l c fs K i (f ρ) → Seg (GM l) l.X.A.in1 (GR l) (GY l) n s₀ c (t.wrap K J gd lv) fs s
abbrev GS (l : Lp) (st : Stmt) (is : IS) : Prop := GJ l (PySem.exec st l.D.env) (Dn.execG l.c.G.T l.C l.N is)
abbrev GSs (l : Lp) (st : List Stmt) (is : List IS) : Prop := GJ l (PySem.execs st l.D.env) (Dn.execsG l.c.G.T l.C l.N is)
/-- what the generator's code may lean on -/
structure GB (l : Lp) (k : Nat) : Prop where
  ok : LpOk l
  gok : GOk l.c.G
  K : l.X.K = l.c.G.K
  mg : l.X.mg = l.c.G.mg
  room : Room (k + 2) l.X.A
section
variable {l : Lp} {k : Nat}
theorem GB.bd (B : GB l k) (sw : Shared) (H : Hp) (wl : Wl) : Bd (Xg l.X l.D sw H wl) (l.cg H) k := by
  have r : Room k (l.X.A.in1.deeper l.D.env) := (B.room.in1).deeper _
  exact ⟨⟨B.gok, B.K, B.mg, by
    have := r.un
    show (l.X.A.in1.deeper l.D.env).units + 100 < cLine
    omega, fun u s' ⟨_, _, _, _, _, _, _, _, _, _, _, _, _, _, _, _, w⟩ => w⟩, r, rfl, PassesOwn.never⟩
theorem gs_plain {st : Stmt} {is : IS} (B : GB l k) (hp : ∀ ρ, fineO (Dn.execG l.c.G.T l.C l.N is ρ).2 → Dn.execG l.c.G.T l.C l.N is ρ = ([], Dn.exec l.c.G.T l.C l.N is ρ))
    (h : ∀ sw H wl, Bd (Xg l.X l.D sw H wl) (l.cg H) k → DS (Xg l.X l.D sw H wl) (l.cg H) st is) : GS l st is := by
  refine ⟨fun c fs K J gd lv n i s₀ s ρ zs g hn hr _ hf hk => ?_⟩
  obtain ⟨σ, H, oL, wl, sw, σg, Hg, F, R, I, E⟩ := hr
  have e := hp ρ hf
  unfold GK at hk
  rw [e] at hf hk
  refine seg_wrap ?_
  rw [g.over]
  let o := Dn.exec l.c.G.T l.C l.N is ρ
  let Z : Ends := { nx := fun σ' H' => ∃ ρ' F', o = .nx ρ' ∧ ER (l.cg H) ρ' F' σ' H', rt := fun v H' => ∃ ρ', o = .rt .non ρ' ∧ v = .non, bk := fun σ' H' => ∃ ρ' F', o = .bk ρ' ∧ ER (l.cg H) ρ' F' σ' H', ct := fun σ' H' => ∃ ρ' F', o = .ct ρ' ∧ ER (l.cg H) ρ' F' σ' H' }
  have post : PostS (l.cg H) o F Hg Z := by
    have hf : fineO o := hf
    cases q : o with
    | nx ρ' => exact fun σ' F' H' _ E' => ⟨ρ', F', q, E'⟩
    | bk ρ' => exact fun σ' F' H' _ E' => ⟨ρ', F', q, E'⟩
    | ct ρ' => exact fun σ' F' H' _ E' => ⟨ρ', F', q, E'⟩
    | rt d ρ' =>
      rw [q] at hf
      have hf : d = .non := hf
      subst hf
      exact fun v σ' F' H' _ rd => ⟨ρ', q, by cases rd; rfl⟩
    | ex n ds ρ' => rw [q] at hf; exact hf.elim
    | bad => rw [q] at hf; exact hf.elim
  refine wpAny_mono ((h sw H wl (B.bd sw H wl)).ps.run _ s σg Hg Z I ⟨ρ, F, E, post⟩) (fun f s' hs => ?_) fun _ _ hx => (show False from hx).elim
  refine hk n s₀ s' f (by simpa using hn) ?_
  have hs : SP (Xg l.X l.D sw H wl) [(l.D.a, l.D.go)] Z f s' := hs
  show Out l (i + 0) o f s'
  cases f with
  | next => obtain ⟨σ', H', I', ρ', F', q, E'⟩ := hs; rw [q]; exact ⟨σ, H, oL, wl, sw, σ', H', F', R, I', E'⟩
  | brk => obtain ⟨σ', H', I', ρ', F', q, E'⟩ := hs; rw [q]; exact ⟨σ, H, oL, wl, sw, σ', H', F', R, I', E'⟩
  | cont => obtain ⟨σ', H', I', ρ', F', q, E'⟩ := hs; rw [q]; exact ⟨σ, H, oL, wl, sw, σ', H', F', R, I', E'⟩
  | ret u =>
    obtain ⟨v, σ', H', I', rv, ρ', q, hv⟩ := hs
    subst hv
    rw [q]
    exact ⟨rv, σ, H, oL, wl, sw, σ', H', R, I'⟩
theorem gss_nil : GSs l [] [] := by
  refine ⟨fun c fs K J gd lv n i s₀ s ρ zs g hn hr _ hf hk => ?_⟩
  exact seg_execs_nil (hk n s₀ s .next (by simpa [Dn.execsG] using hn) hr)
theorem gss_cons {st : Stmt} {sts : List Stmt} {is : IS} {iss : List IS} (h1 : GS l st is) (h2 : GSs l sts iss) : GSs l (st :: sts) (is :: iss) := by
  refine ⟨fun c fs K J gd lv n i s₀ s ρ zs g hn hr hd hf hk => ?_⟩
  refine seg_execs_cons ?_
  have ee : Dn.execsG l.c.G.T l.C l.N (is :: iss) ρ = match Dn.execG l.c.G.T l.C l.N is ρ with
    | (ys, .nx ρ') => (ys ++ (Dn.execsG l.c.G.T l.C l.N iss ρ').1, (Dn.execsG l.c.G.T l.C l.N iss ρ').2)
    | r => r := rfl
  cases q : Dn.execG l.c.G.T l.C l.N is ρ with
  | mk ys o =>
    rw [q] at ee
    have q1 : (Dn.execG l.c.G.T l.C l.N is ρ).1 = ys := by rw [q]
    have q2 : (Dn.execG l.c.G.T l.C l.N is ρ).2 = o := by rw [q]
    by_cases ho : ∃ ρ', o = .nx ρ'
    · obtain ⟨ρ', rfl⟩ := ho
      have ee : Dn.execsG l.c.G.T l.C l.N (is :: iss) ρ = (ys ++ (Dn.execsG l.c.G.T l.C l.N iss ρ').1, (Dn.execsG l.c.G.T l.C l.N iss ρ').2) := ee
      unfold GK at hk
      rw [ee] at hd hf hk
      refine h1.run c fs _ J gd lv n i s₀ s ρ ((Dn.execsG l.c.G.T l.C l.N iss ρ').1 ++ zs) g hn hr (by rw [q1, hd, List.append_assoc]) (by rw [q2]; trivial) fun n' s₀' s' fl hn' ho => ?_
      rw [q1] at hn' ho
      rw [q2] at ho
      cases fl with
      | next =>
        refine h2.run c fs K J gd lv n' (i + ys.length) s₀' s' ρ' zs g hn' ho ?_ hf fun n2 s2 s3 fl2 hn2 ho2 => ?_
        · rw [← List.drop_drop, hd, List.append_assoc, List.drop_left]
        · refine hk n2 s2 s3 fl2 ?_ ?_
          · rw [List.length_append]; omega
          · rw [List.length_append, ← Nat.add_assoc]; exact ho2
      | brk => exact ho.elim
      | cont => exact ho.elim
      | ret u => exact ho.elim
    · have ee : Dn.execsG l.c.G.T l.C l.N (is :: iss) ρ = (ys, o) := by
        rw [ee]
        cases o with
        | nx ρ' => exact absurd ⟨ρ', rfl⟩ ho
        | _ => rfl
      unfold GK at hk
      rw [ee] at hd hf hk
      refine h1.run c fs _ J gd lv n i s₀ s ρ zs g hn hr (by rw [q1, hd]) (by rw [q2]; exact hf) fun n' s₀' s' fl hn' h4 => ?_
      rw [q1] at hn' h4
      rw [q2] at h4
      have := hk n' s₀' s' fl hn' h4
      cases fl with
      | next =>
        have h4 : Out l (i + ys.length) o .next s' := h4
        cases o with
        | nx ρ' => exact absurd ⟨ρ', rfl⟩ ho
        | _ => exact h4.elim
      | brk => exact this
      | cont => exact this
      | ret u => exact this
/-- a yield -/
theorem gs_yld {e : Expr} {ie : IE} {yp pos : Pos} (B : GB l k) (he : ∀ sw H wl, Bd (Xg l.X l.D sw H wl) (l.cg H) k → DE (Xg l.X l.D sw H wl) (l.cg H) .st e ie) (hco : l.D.scope.isCoroutine = false) (hi : interactive l.D.env = false := by rfl) : GS l (.Expr (.Yield (some e) yp) pos) (.yld l.D.m ie) := by
  refine ⟨fun c fs K J gd lv n i s₀ s ρ zs g hn hr hd hf hk => ?_⟩
  obtain ⟨σ, H, oL, wl, sw, σg, Hg, F, R, I, E⟩ := hr
  have ee : Dn.execG l.c.G.T l.C l.N (.yld l.D.m ie) ρ = match Dn.eval l.c.G.T l.C ie ρ with
    | .ok d => if hard d && gOk l.D.m ρ then ([d], .nx ρ) else ([], .bad)
    | _ => ([], .bad) := rfl
  cases q : Dn.eval l.c.G.T l.C ie ρ with
  | ok d =>
    rw [q] at ee
    by_cases hg : (hard d && gOk l.D.m ρ) = true
    · have ee : Dn.execG l.c.G.T l.C l.N (.yld l.D.m ie) ρ = ([d], .nx ρ) := by rw [ee]; exact if_pos hg
      unfold GK at hk
      rw [ee] at hd hk
      rw [Bool.and_eq_true] at hg
      have hlt : i < l.all.length := by
        by_cases h : i < l.all.length
        · exact h
        · rw [List.drop_eq_nil_of_le (Nat.le_of_not_lt h)] at hd; cases hd
      obtain ⟨m, rfl⟩ : ∃ m, n = m + 1 := ⟨n - 1, by omega⟩
      have hdi : l.all[i]? = some d := by
        have h0 : (l.all.drop i)[0]? = l.all[i]? := by rw [List.getElem?_drop]; rfl
        rw [← h0, hd]; rfl
      refine seg_Expr_Yield g.split g.gd g.guard ?_ hco hi
      rw [g.over]
      refine wpAny_mono ((he sw H wl (B.bd sw H wl)).pe.run _ s σg Hg (fun v H1 => ∃ F1, Grow F Hg F1 H1 ∧ RD l.c.G F1 H1 d v) I ⟨ρ, F, E, ?_⟩) (fun v s' hv => ?_) fun x s' hx => (show False from hx).elim
      · show Post (l.cg H) .st ρ σg (Dn.eval l.c.G.T l.C ie ρ) F Hg _
        rw [q]
        exact fun v F' H' g' r => ⟨F', g', Rw.strict (c := l.cg H) r⟩
      · obtain ⟨x, H1, I1, rv, F1, g1, rd⟩ := hv
        have E1 := E.mono g1
        obtain ⟨mp, oL1, wl1, R1, S1⟩ := R.slp B.ok I1 E1 hg.2
        intro kap hkap
        refine ⟨i, d, by omega, hdi, σ, mrg H H1, oL1, wl1, x, rv, R1, rdH (fun a xs h => sqC (gSq B.ok R I1 h)) rd hg.1, hg.1, fun s'' σ' H' R' up => hkap .none s'' ?_⟩
        obtain ⟨I2, E2⟩ := R'.wake B.ok (S1.up up)
        exact hk m s'' s'' .next (by simp only [List.length_singleton]; omega) ⟨σ', H', oL1, wl1, s'', σg, _, _, R', I2, E2⟩
    · have ee : Dn.execG l.c.G.T l.C l.N (.yld l.D.m ie) ρ = ([], .bad) := by rw [ee]; exact if_neg hg
      rw [ee] at hf; exact hf.elim
  | exc n ds => rw [q] at ee; rw [ee] at hf; exact hf.elim
  | bad => rw [q] at ee; rw [ee] at hf; exact hf.elim
end
end Gn
set_option Elab.async false
set_option linter.all false
set_option autoImplicit false
set_option maxRecDepth 100000
set_option maxHeartbeats 4000000
/-! while in a generator; statements that hand out nothing; a generator's whole body. -/
namespace Gn
open PySem PySem.Spec L2 Dn PyProof.Rows Sd
section
variable {l : Lp} {k : Nat}
theorem whlG_succ (cf : Dn.Env → R Dn.D) (bf : Dn.Env → List Dn.D × O) (n : Nat) (ρ : Dn.Env) : whlG cf bf (n + 1) ρ = match cf ρ with
    | .ok x => match truth x with
      | none => ([], .bad)
      | some false => ([], .nx ρ)
      | some true => match bf ρ with
        | (ys, .nx ρ2) => (ys ++ (whlG cf bf n ρ2).1, (whlG cf bf n ρ2).2)
        | (ys, .ct ρ2) => (ys ++ (whlG cf bf n ρ2).1, (whlG cf bf n ρ2).2)
        | (ys, .bk ρ2) => (ys, .nx ρ2)
        | (ys, o) => (ys, o)
    | _ => ([], .bad) := rfl
theorem loopG {cd : Expr} {icd : IE} {body : List Stmt} {ib : List IS} {c : Code} {fs : List Frame} {gd : Bool → Bool} {lv : List Value} {p : Pos} {K : Flow → Sem PySem.Fin} {kr : Result → Sem PySem.Fin} (B : GB l k) (g : GC l c fs gd) (hkr : ∀ fl, kr (.ok fl) = K fl)
    (hc : ∀ sw H wl, Bd (Xg l.X l.D sw H wl) (l.cg H) k → DT (Xg l.X l.D sw H wl) (l.cg H) cd icd) (hb : GSs l body ib) :
    ∀ (m n i : Nat) (s₀ s : Shared) (ρ : Dn.Env) (zs : List Dn.D), n + i = l.all.length + 1 → Run l i ρ s → l.all.drop i = (whlG (Dn.eval l.c.G.T l.C icd) (fun ρ => Dn.execsG l.c.G.T l.C l.N ib ρ) m ρ).1 ++ zs →
      fineO (whlG (Dn.eval l.c.G.T l.C icd) (fun ρ => Dn.execsG l.c.G.T l.C l.N ib ρ) m ρ).2 → GK l c fs K i (whlG (Dn.eval l.c.G.T l.C icd) (fun ρ => Dn.execsG l.c.G.T l.C l.N ib ρ) m ρ) →
      Seg (GM l) l.X.A.in1 (GR l) (GY l) n s₀ (.whileLoop cd body [] l.D.env) ((GM l).den (.whileLoop cd body [] l.D.env)) (.ret kr none (gd false) lv c p [] :: fs) s := by
  intro m
  induction m with
  | zero => intro n i s₀ s ρ zs _ _ _ hf; exact hf.elim
  | succ m ih =>
    intro n i s₀ s ρ zs hn hr hd hf hk
    have gl : GC l (.whileLoop cd body [] l.D.env) (.ret kr none (gd false) lv c p [] :: fs) id := g.loop rfl rfl
    obtain ⟨σ, H, oL, wl, sw, σg, Hg, F, R, I, E⟩ := hr
    refine seg_whileLoop ?_
    rw [gl.over]
    have hw := whlG_succ (Dn.eval l.c.G.T l.C icd) (fun ρ => Dn.execsG l.c.G.T l.C l.N ib ρ) m ρ
    unfold GK at hk
    rw [hw] at hd hf hk
    cases q : Dn.eval l.c.G.T l.C icd ρ with
    | exc a b => simp only [q] at hf; exact hf.elim
    | bad => simp only [q] at hf; exact hf.elim
    | ok x =>
      simp only [q] at hd hf hk
      cases hx : truth x with
      | none => simp only [hx] at hf; exact hf.elim
      | some b0 =>
        simp only [hx] at hd hf hk
        refine wpAny_mono ((hc sw H wl (B.bd sw H wl)).pt.run _ s σg Hg (fun b H1 => b = b0 ∧ ∃ F1, Grow F Hg F1 H1) I ⟨ρ, F, E, ?_⟩) (fun b s' hv => ?_) fun x s' hx => (show False from hx).elim
        · show PostT (l.cg H) σg (Dn.eval l.c.G.T l.C icd ρ) F Hg _
          rw [q]
          exact ⟨b0, hx, fun F' H' g' => ⟨rfl, F', g'⟩⟩
        · obtain ⟨H1, I1, eb, F1, g1⟩ := hv
          subst eb
          have hr1 : Run l i ρ s' := ⟨σ, H, oL, wl, sw, σg, H1, F1, R, I1, E.mono g1⟩
          cases b with
          | false =>
            rw [if_neg Bool.false_ne_true]
            refine seg_execs_nil ?_
            refine seg_leaf (.ok .next) ?_
            rw [hkr]
            exact hk n s₀ s' .next (by simpa using hn) hr1
          | true =>
            rw [if_pos rfl]
            cases qb : Dn.execsG l.c.G.T l.C l.N ib ρ with
            | mk ys o =>
              simp only [qb] at hd hf hk
              have q1 : (Dn.execsG l.c.G.T l.C l.N ib ρ).1 = ys := by rw [qb]
              have q2 : (Dn.execsG l.c.G.T l.C l.N ib ρ).2 = o := by rw [qb]
              have more : ∀ ρ2, (o = .nx ρ2 ∨ o = .ct ρ2) →
                  l.all.drop i = (ys ++ (whlG (Dn.eval l.c.G.T l.C icd) (fun ρ => Dn.execsG l.c.G.T l.C l.N ib ρ) m ρ2).1) ++ zs → fineO (whlG (Dn.eval l.c.G.T l.C icd) (fun ρ => Dn.execsG l.c.G.T l.C l.N ib ρ) m ρ2).2 →
                  GK l c fs K i (ys ++ (whlG (Dn.eval l.c.G.T l.C icd) (fun ρ => Dn.execsG l.c.G.T l.C l.N ib ρ) m ρ2).1, (whlG (Dn.eval l.c.G.T l.C icd) (fun ρ => Dn.execsG l.c.G.T l.C l.N ib ρ) m ρ2).2) →
                  ∀ (n' : Nat) (s₀' s'' : Shared), n' + (i + ys.length) = l.all.length + 1 → Run l (i + ys.length) ρ2 s'' →
                    Seg (GM l) l.X.A.in1 (GR l) (GY l) n' s₀' (.whileLoop cd body [] l.D.env) (.pure (.again (.whileLoop cd body [] l.D.env))) (.ret kr none (gd false) lv c p [] :: fs) s'' := by
                intro ρ2 _ hd2 hf2 hk2 n' s₀' s'' hn' hr2
                refine seg_again rfl (ih n' (i + ys.length) s₀' s'' ρ2 zs hn' hr2 ?_ hf2 fun n3 s3 s4 fl hn3 ho => ?_)
                · rw [← List.drop_drop, hd2, List.append_assoc, List.drop_left]
                · refine hk2 n3 s3 s4 fl ?_ ?_
                  · simp only [List.length_append]; omega
                  · simp only [List.length_append, ← Nat.add_assoc]; exact ho
              cases o with
              | nx ρ2 =>
                refine hb.run _ _ _ _ id id n i s₀ s' ρ ((whlG (Dn.eval l.c.G.T l.C icd) (fun ρ => Dn.execsG l.c.G.T l.C l.N ib ρ) m ρ2).1 ++ zs) gl hn hr1 (by rw [q1, hd, List.append_assoc]) (by rw [q2]; trivial) fun n' s₀' s'' fl hn' ho => ?_
                rw [q1] at hn' ho
                rw [q2] at ho
                cases fl with
                | next => exact more ρ2 (.inl rfl) hd hf hk n' s₀' s'' hn' ho
                | _ => exact ho.elim
              | ct ρ2 =>
                refine hb.run _ _ _ _ id id n i s₀ s' ρ ((whlG (Dn.eval l.c.G.T l.C icd) (fun ρ => Dn.execsG l.c.G.T l.C l.N ib ρ) m ρ2).1 ++ zs) gl hn hr1 (by rw [q1, hd, List.append_assoc]) (by rw [q2]; trivial) fun n' s₀' s'' fl hn' ho => ?_
                rw [q1] at hn' ho
                rw [q2] at ho
                cases fl with
                | cont => exact more ρ2 (.inr rfl) hd hf hk n' s₀' s'' hn' ho
                | _ => exact ho.elim
              | bk ρ2 =>
                refine hb.run _ _ _ _ id id n i s₀ s' ρ zs gl hn hr1 (by rw [q1, hd]) (by rw [q2]; trivial) fun n' s₀' s'' fl hn' ho => ?_
                rw [q1] at hn' ho
                rw [q2] at ho
                cases fl with
                | brk =>
                  refine seg_leaf (.ok .next) ?_
                  rw [hkr]
                  exact hk n' s₀' s'' .next hn' ho
                | _ => exact ho.elim
              | rt d ρ2 =>
                refine hb.run _ _ _ _ id id n i s₀ s' ρ zs gl hn hr1 (by rw [q1, hd]) (by rw [q2]; exact hf) fun n' s₀' s'' fl hn' ho => ?_
                rw [q1] at hn' ho
                rw [q2] at ho
                cases fl with
                | ret u =>
                  refine seg_leaf (.ok (.ret u)) ?_
                  rw [hkr]
                  exact hk n' s₀' s'' (.ret u) hn' ho
                | _ => exact ho.elim
              | ex a b ρ2 => exact hf.elim
              | bad => exact hf.elim
theorem gs_whl {cd : Expr} {icd : IE} {body : List Stmt} {ib : List IS} {pos : Pos} (B : GB l k) (hc : ∀ sw H wl, Bd (Xg l.X l.D sw H wl) (l.cg H) k → DT (Xg l.X l.D sw H wl) (l.cg H) cd icd) (hb : GSs l body ib) : GS l (.While cd body [] pos) (.whl icd ib) := by
  refine ⟨fun c fs K J gd lv n i s₀ s ρ zs g hn hr hd hf hk => ?_⟩
  exact seg_While fun p => loopG B g (fun fl => rfl) hc hb l.N n i s₀ s ρ zs hn hr hd hf hk
end
/-! ### what hands out nothing -/
section
variable {T : Tab} {C : Calls} {N : Nat}
def PG (T : Tab) (C : Calls) (N : Nat) (is : IS) : Prop := ∀ ρ, fineO (Dn.execG T C N is ρ).2 → Dn.execG T C N is ρ = ([], Dn.exec T C N is ρ)
def PGs (T : Tab) (C : Calls) (N : Nat) (is : List IS) : Prop := ∀ ρ, fineO (Dn.execsG T C N is ρ).2 → Dn.execsG T C N is ρ = ([], Dn.execs T C N is ρ)
theorem pgs_nil : PGs T C N [] := fun ρ _ => by simp only [Dn.execsG, Dn.execs]
theorem pgs_cons {is : IS} {iss : List IS} (a : PG T C N is) (b : PGs T C N iss) : PGs T C N (is :: iss) := fun ρ h => by
  have e : Dn.execsG T C N (is :: iss) ρ = match Dn.execG T C N is ρ with
    | (ys, .nx ρ') => (ys ++ (Dn.execsG T C N iss ρ').1, (Dn.execsG T C N iss ρ').2)
    | r => r := rfl
  have e2 : Dn.execs T C N (is :: iss) ρ = (Dn.exec T C N is ρ).seq fun ρ' => Dn.execs T C N iss ρ' := by simp only [Dn.execs]
  have fa : fineO (Dn.execG T C N is ρ).2 := by
    rw [e] at h
    cases q : Dn.execG T C N is ρ with
    | mk ys o => rw [q] at h; cases o <;> first | trivial | exact h
  rw [e, e2]
  have ea := a ρ fa
  rw [e] at h
  rw [ea] at h ⊢
  cases q : Dn.exec T C N is ρ with
  | nx ρ' =>
    rw [q] at h
    have h : fineO (Dn.execsG T C N iss ρ').2 := h
    show ([] ++ (Dn.execsG T C N iss ρ').1, (Dn.execsG T C N iss ρ').2) = ([], Dn.execs T C N iss ρ')
    rw [b ρ' h]; rfl
  | _ => rfl
theorem pg_ife {c : IE} {a b : List IS} (ha : PGs T C N a) (hb : PGs T C N b) : PG T C N (.ife c a b) := fun ρ h => by
  have e : Dn.execG T C N (.ife c a b) ρ = match Dn.eval T C c ρ with
    | .ok x => match truth x with
      | some true => Dn.execsG T C N a ρ
      | some false => Dn.execsG T C N b ρ
      | none => ([], .bad)
    | _ => ([], .bad) := rfl
  have e2 : Dn.exec T C N (.ife c a b) ρ = ev (Dn.eval T C c ρ) ρ fun x => match truth x with
    | some true => Dn.execs T C N a ρ
    | some false => Dn.execs T C N b ρ
    | none => .bad := by simp only [Dn.exec] <;> rfl
  rw [e, e2]
  rw [e] at h
  cases q : Dn.eval T C c ρ with
  | ok x =>
    simp only [q, ev_ok] at h ⊢
    cases hx : truth x with
    | none => simp only [hx] at h; exact h.elim
    | some t =>
      simp only [hx] at h ⊢
      cases t with
      | true => exact ha ρ h
      | false => exact hb ρ h
  | exc n ds => rw [q] at h; exact h.elim
  | bad => rw [q] at h; exact h.elim
theorem forG_plain {b : List IS} {t : Tg} (hb : PGs T C N b) : ∀ (xs : List Dn.D) (ρ : Dn.Env), fineO (forG (fun ρ => Dn.execsG T C N b ρ) t xs ρ).2 → forG (fun ρ => Dn.execsG T C N b ρ) t xs ρ = ([], forL (fun ρ => Dn.execs T C N b ρ) t xs ρ)
  | [], ρ, _ => rfl
  | x :: xs, ρ, h => by
    have e : forG (fun ρ => Dn.execsG T C N b ρ) t (x :: xs) ρ = match bindT t x ρ with
      | none => ([], .bad)
      | some ρ1 => match Dn.execsG T C N b ρ1 with
        | (ys, .nx ρ2) => (ys ++ (forG (fun ρ => Dn.execsG T C N b ρ) t xs ρ2).1, (forG (fun ρ => Dn.execsG T C N b ρ) t xs ρ2).2)
        | (ys, .ct ρ2) => (ys ++ (forG (fun ρ => Dn.execsG T C N b ρ) t xs ρ2).1, (forG (fun ρ => Dn.execsG T C N b ρ) t xs ρ2).2)
        | (ys, .bk ρ2) => (ys, .nx ρ2)
        | (ys, o) => (ys, o) := rfl
    rw [e, forL_cons]
    rw [e] at h
    cases q : bindT t x ρ with
    | none => simp only [q] at h; exact h.elim
    | some ρ1 =>
      simp only [q] at h ⊢
      have fb : fineO (Dn.execsG T C N b ρ1).2 := by
        cases q2 : Dn.execsG T C N b ρ1 with
        | mk ys o => rw [q2] at h; cases o <;> first | trivial | exact h
      have eb := hb ρ1 fb
      rw [eb] at h ⊢
      cases q3 : Dn.execs T C N b ρ1 with
      | nx ρ2 =>
        rw [q3] at h
        have h : fineO (forG (fun ρ => Dn.execsG T C N b ρ) t xs ρ2).2 := h
        have ih := forG_plain hb xs ρ2 h
        show ([] ++ (forG (fun ρ => Dn.execsG T C N b ρ) t xs ρ2).1, (forG (fun ρ => Dn.execsG T C N b ρ) t xs ρ2).2) = _
        rw [ih]; rfl
      | ct ρ2 =>
        rw [q3] at h
        have h : fineO (forG (fun ρ => Dn.execsG T C N b ρ) t xs ρ2).2 := h
        have ih := forG_plain hb xs ρ2 h
        show ([] ++ (forG (fun ρ => Dn.execsG T C N b ρ) t xs ρ2).1, (forG (fun ρ => Dn.execsG T C N b ρ) t xs ρ2).2) = _
        rw [ih]; rfl
      | _ => rfl
theorem pg_for {t : Tg} {it : IE} {b : List IS} (hb : PGs T C N b) : PG T C N (.for_ t it b) := fun ρ h => by
  have e : Dn.execG T C N (.for_ t it b) ρ = match Dn.eval T C it ρ with
    | .ok x => match items x with
      | some xs => forG (fun ρ => Dn.execsG T C N b ρ) t xs ρ
      | none => ([], .bad)
    | _ => ([], .bad) := rfl
  have e2 : Dn.exec T C N (.for_ t it b) ρ = ev (Dn.eval T C it ρ) ρ fun x => match items x with
    | some xs => forL (fun ρ => Dn.execs T C N b ρ) t xs ρ
    | none => .bad := by simp only [Dn.exec] <;> rfl
  rw [e, e2]
  rw [e] at h
  cases q : Dn.eval T C it ρ with
  | ok x =>
    simp only [q, ev_ok] at h ⊢
    cases hx : items x with
    | none => simp only [hx] at h; exact h.elim
    | some xs =>
      simp only [hx] at h ⊢
      exact forG_plain hb xs ρ h
  | exc n ds => rw [q] at h; exact h.elim
  | bad => rw [q] at h; exact h.elim
end
/-! ### the whole body -/
theorem gen_body {l : Lp} {k : Nat} {body : List Stmt} {iss : List IS} {σ : L2.St} {H : Hp} {oL : Obj} {wl : Wl} {s s₀ : Shared} {σg : L2.St} {mp : Str → Option Value} {ρ : Dn.Env} (B : GB l k) (hb : GSs l body iss) (R : Rdy l 0 σ H oL wl s) (S : Slp l.D l.c.G ρ σg mp oL wl H)
    (ha : l.all = (Dn.execsG l.c.G.T l.C l.N iss ρ).1) (hf : (∃ ρ', (Dn.execsG l.c.G.T l.C l.N iss ρ).2 = .nx ρ') ∨ ∃ ρ', (Dn.execsG l.c.G.T l.C l.N iss ρ).2 = .rt .non ρ') :
    Seg (GM l) l.X.A.in1 (GR l) (GY l) (l.all.length + 1) s₀ (.func body l.D.env) ((GM l).den (.func body l.D.env)) [] s := by
  obtain ⟨I, E⟩ := R.wake B.ok S
  refine seg_func ?_
  refine hb.run _ [] _ _ id id (l.all.length + 1) 0 s₀ s ρ [] ⟨GenW.over_func, rfl, rfl, rfl⟩ (Nat.add_zero _) ⟨σ, H, oL, wl, s, σg, _, _, R, I, E⟩ (by rw [List.drop_zero, List.append_nil]; exact ha) ?_ fun n' s₀' s' fl hn' ho => ?_
  · rcases hf with ⟨ρ', h⟩ | ⟨ρ', h⟩ <;> rw [h]
    · trivial
    · rfl
  · rw [← ha, Nat.zero_add] at hn' ho
    have hn0 : n' = 1 := by omega
    subst hn0
    rcases hf with ⟨ρ', h⟩ | ⟨ρ', h⟩
    · rw [h] at ho
      cases fl with
      | next => exact seg_end (.ok (.ret .none)) ⟨rfl, rfl, Ran.rdy B.ok (Run.ran ho)⟩
      | _ => exact ho.elim
    · rw [h] at ho
      cases fl with
      | ret u =>
        obtain ⟨e, hr⟩ := ho
        subst e
        exact seg_end (.ok (.ret .none)) ⟨rfl, rfl, Ran.rdy B.ok hr⟩
      | _ => exact ho.elim
end Gn
set_option Elab.async false
set_option linter.all false
set_option autoImplicit false
set_option maxRecDepth 100000
set_option maxHeartbeats 4000000
/-! A generator is made by a call. -/
namespace Gn
open PySem PySem.Spec L2 Dn PyProof.Rows Sd
def Made (l : Lp) (u : Value) (s : Shared) : Prop := u = .ref l.D.a ∧ LpOk l ∧ ∃ (g : Nat) (c : Code), (∀ h : Heap, h.get? l.D.a = some l.D.go → h.IsGen l.D.a g) ∧ s.heap.get? l.D.a = some l.D.go ∧ s.gens[g]? = some (.fresh c) ∧ s.heap.NoLimit ∧ AllBare s.gens ∧
  ∀ G : Array GenState, AllBare G → Seg (GM l) l.X.A.in1 (GR l) (GY l) (l.all.length + 1) { s with gens := G } c ((GM l).den c) [] { s with gens := G }
/-- what a generator def promises -/
structure GenF (P : Program) (w : World) (G : Sd.Gl) (base : Heap) (k : Nat) (x : Str) (fn : List Dn.D → R (List Dn.D)) (np : Nat) : Prop where
  ne : ∀ ds k xs, fn ds ≠ .exc k xs
  ex : ∃ (f : Addr) (fd : FuncData) (ps : List Str), G.mg x = some (.ref f) ∧ PySem.W.keepIn G.K (.ref f) = true ∧ ps.length = np ∧ Binds G.K fd ps [] ∧
    ∀ (X : Cx) (c : Cn) (pins : List (Addr × Obj)) (s : Shared) (σ : L2.St) (H : Hp) (F : Addr → Prop) (ρ : Dn.Env) (ds : List Dn.D) (us : List Value) (vs : List V) (all : List Dn.D) (rs : Nat → Dn.Env) (args : Args),
      X.prog = P → X.w = w → X.K = G.K → X.mg = G.mg → X.base = base → c.G = G → Room k X.A → X.ex = [] → X.calm = true → c.M = [] → c.P = [] → Inv X pins σ H s → ER c ρ F σ H → hardEnv ρ = true → ds.length = np → RDs G F H ds vs → ds.all atom = true → Vals vs us →
      BindsTo s fd args (ps.zip us) → fn ds = .ok all → rs 0 = ρ →
      codeAny (model X.prog X.w) X.A (.call (.ref f) args) (fun r s' => ∃ u, r = .ok (.ret u) ∧ ∃ D C N, Made (lpOf X c D C N pins F H s.heap all rs) u s') s
theorem Rdy.gens {l : Lp} {i : Nat} {σ : L2.St} {H : Hp} {oL : Obj} {wl : Wl} {s : Shared} (R : Rdy l i σ H oL wl s) {G : Array GenState} (h : AllBare G) : Rdy l i σ H oL wl { s with gens := G } :=
  ⟨⟨R.inv.ok, R.inv.os, h, R.inv.base, R.inv.loc, R.inv.cell, R.inv.free, R.inv.freeC, R.inv.pin, R.inv.hok, R.inv.len⟩, R.er, R.hl, R.cl, R.wl⟩
theorem atom_hard {G : Sd.Gl} {F F' : Addr → Prop} {H H' : Hp} {d : Dn.D} {v : V} (r : RD G F H d v) (h : atom d = true) : hard d = true ∧ RD G F' H' d v := by
  cases r with
  | non => exact ⟨rfl, .non⟩
  | bl b => exact ⟨rfl, .bl b⟩
  | int i => exact ⟨rfl, .int i⟩
  | str x => exact ⟨rfl, .str x⟩
  | _ => cases h
theorem runG_ok {T : Tab} {C : Calls} {N : Nat} {f : Fn} {ds all : List Dn.D} (h : runG T C N f ds = .ok all) : ds.length = f.np ∧ all = (Dn.execsG T C N f.body (startE f.np f.ns ds)).1 ∧
    ((∃ ρ', (Dn.execsG T C N f.body (startE f.np f.ns ds)).2 = .nx ρ') ∨ ∃ ρ', (Dn.execsG T C N f.body (startE f.np f.ns ds)).2 = .rt .non ρ') := by
  unfold runG at h
  split at h
  · rename_i hl
    refine ⟨hl, ?_⟩
    split at h
    · rename_i ys ρ' q
      cases h
      rw [q]
      exact ⟨rfl, .inl ⟨_, rfl⟩⟩
    · rename_i ys ρ' q
      cases h
      rw [q]
      exact ⟨rfl, .inr ⟨_, rfl⟩⟩
    · cases h
  · cases h
theorem runG_ne {T : Tab} {C : Calls} {N : Nat} {f : Fn} (ds : List Dn.D) (k : Nat) (xs : List Dn.D) : runG T C N f ds ≠ .exc k xs := fun h => by
  unfold runG at h
  split at h
  · split at h <;> cases h
  · cases h
theorem gen_of {P : Program} {w : World} {G : Sd.Gl} {base : Heap} {k m fuel np : Nat} {x qual : Str} {params : Arguments} {body : List Stmt} {scope : Scope} {f : Addr} {fd : FuncData} {N ps : List Str} {C : Calls} {fn : Fn} (ok : GOk G)
    (Fd : FunD G.K x qual params body scope [] [] f fd) (S : GScope N ps scope) (hx : G.mg x = some (.ref f)) (hB : Binds G.K fd ps []) (hps : ps.length = np) (hnp : fn.np = np) (hns : fn.ns = N.length) (hle : np ≤ N.length) (hm : np ≤ m)
    (hnc : ∀ n, cellsFrom n scope.names [] = []) (hnk : ∀ y ∈ scope.names, y.2 ≠ .cell ∧ y.2 ≠ .free)
    (hbody : ∀ (X : Cx) (M : List Nat) (Pp : List Addr) (F0 : Addr → Prop) (H0 : Hp) (xo : Option (Addr × Addr × Nat)) (W : WX) (C0 : Calls) (N0 : Nat) (L a : Addr) (cdv : Value) (go : Obj) (pins : List (Addr × Obj)) (HL : Hp) (FL : Addr → Prop) (hL : Heap) (all : List Dn.D) (rs : Nat → Dn.Env),
      GB ⟨X, ⟨G, M, Pp, F0, H0, xo, W, C0, N0⟩, ⟨N, qual, scope, f, cdv, L, a, go, m⟩, C, fuel, pins, HL, FL, hL, all, rs⟩ k →
      GSs ⟨X, ⟨G, M, Pp, F0, H0, xo, W, C0, N0⟩, ⟨N, qual, scope, f, cdv, L, a, go, m⟩, C, fuel, pins, HL, FL, hL, all, rs⟩ body fn.body) :
    GenF P w G base (k + 2) x (runG G.T C fuel fn) np := by
  obtain ⟨oc, od, dV, kV, doc, pm, an, cdv, ct, osl, rfl, lk, hcd, _, _⟩ := Fd.ex
  refine ⟨runG_ne, f, _, ps, hx, Fd.kp, hps, hB, fun X c pins s σ H F ρ ds us vs all rs args e1 e2 e3 e4 e5 e6 hr hex hc hM hP I E hd hdl rd hat rv hb hfn hrs => ?_⟩
  obtain ⟨cG, cM, cP, cF0, cH0, cxo, cW, cC, cN⟩ := c
  have e6 : cG = G := e6
  subst e6
  have hl : vs.length = ps.length := by rw [← rd.length, hdl, hps]
  have KX : cG.K.In s.heap := e3 ▸ I.kIn
  have loc : ∀ y ∈ ps, scope.names.lookup y = some .local := fun y hy => (S.par y hy).elim id fun q => absurd rfl (hnk _ (PySem.mem_of_lookup q)).1
  have hkind : ∀ y ∈ ps.zip us, scope.names.lookup y.1 = some .local ∨ (scope.names.lookup y.1 = some .cell ∧ ((cellsFrom (s.heap.objs.size + 1) scope.names []).lookup y.1).isSome = true) := fun y hy => .inl (loc y.1 (List.of_mem_zip (a := y.1) (b := y.2) hy).1)
  refine codeAny_call_generator hr.depth (KX _ _ lk) rfl S.co S.gen rfl (PySem.W.codeRec_of KX hcd) (hb _ _ _ _ ?_)
  refine wpAny_newFunctionEnv_cells S.kind hkind fun env he s1 hin => ?_
  subst he
  obtain ⟨h1, tk, es1, hk1⟩ := hin.done
  have lim1 : s1.heap.NoLimit := I.nolimit.keeps hin.toInCall.keep
  refine ⟨lim1, ?_⟩
  have ns1 : s1.heap.Ns s.heap.objs.size (bindL (envOfC qual scope s.heap.objs.size f cdv).kindOf (ps.zip us) fun _ => none) := hin.toInCall.ns
  have lt1 : s.heap.objs.size < s1.heap.objs.size := ns1.lt
  have nok : ∀ y, scope.names.lookup y ≠ some .cell ∧ scope.names.lookup y ≠ some .free := fun y => ⟨fun q => (hnk _ (PySem.mem_of_lookup q)).1 rfl, fun q => (hnk _ (PySem.mem_of_lookup q)).2 rfl⟩
  have I1 : Inv X pins σ H s1 := by rw [es1]; exact I.kept hk1
  have gen1 : s1.gens = s.gens := by rw [es1]
  have main : ∀ (go : Obj) (nm qn : Value) (tk2 : Nat), go.cls = .type "generator" → go.data = .fields #[.int s1.gens.size 0, nm, qn] → go.slots = #[] → (∀ h : Heap, (h.push go).get? h.objs.size = some go) →
      ∃ D C N, Made (lpOf X ⟨cG, cM, cP, cF0, cH0, cxo, cW, cC, cN⟩ D C N pins F H s.heap all rs) (.ref s1.heap.objs.size) { s1 with gens := s1.gens.push (.fresh (.func body (envOfC qual scope s.heap.objs.size f cdv))), toks := tk2, heap := s1.heap.push go } := by
    intro go nm qn tk2 hgc hgd hgs hgp
    have god : ∀ v, go.data ≠ .cell v := fun v z => by rw [hgd] at z; cases z
    have K : LpOk (lpOf X ⟨cG, cM, cP, cF0, cH0, cxo, cW, cC, cN⟩ ⟨N, qual, scope, f, cdv, s.heap.objs.size, s1.heap.objs.size, go, m⟩ C fuel pins F H s.heap all rs) :=
      lpOk I E S.kind (hnc _) nok rfl lt1 god hex hc hM hP
    refine ⟨⟨N, qual, scope, f, cdv, s.heap.objs.size, s1.heap.objs.size, go, m⟩, C, fuel, rfl, K, s1.gens.size, _, fun h e => ⟨go, nm, qn, e, hgc, hgd, hgs⟩, hgp _, Array.getElem?_push_size .., lim1.keeps fun b o e => Heap.get?_push_of_some _ e, AllBare.push I1.bare rfl, fun Gs hGs => ?_⟩
    have I2 : Inv X pins σ H { s1 with gens := Gs, toks := tk2, heap := s1.heap.push go } :=
      I1.call' (ch := []) rfl (Un.kept fun b o e => Heap.get?_push_of_some _ e) (I1.hok.kept fun b o e => Heap.get?_push_of_some _ e) hGs fun b z => by cases z
    obtain ⟨oL, esL, epL, hoL, hdL, hrL⟩ := ns1
    have fresh : ∀ b, s.heap.objs.size ≤ b → H b = none ∧ b ≠ X.env.locals ∧ b ∉ X.fs := fun b hb => ⟨I.hok.fresh hb, Nat.ne_of_gt (Nat.lt_of_lt_of_le I.lt hb), I.nofs hb⟩
    have I3 : Inv X (gpOf ⟨N, qual, scope, f, cdv, s.heap.objs.size, s1.heap.objs.size, go, m⟩ oL none ++ pins) σ H { s1 with gens := Gs, toks := tk2, heap := s1.heap.push go } := by
      refine I2.pins_of fun p hp => ?_
      rcases List.mem_append.mp hp with hp | hp
      · rcases of_gp hp with e | e | ⟨_, e⟩
        · subst e
          obtain ⟨q1, q2, q3⟩ := fresh s.heap.objs.size (Nat.le_refl _)
          exact ⟨Heap.get?_push_of_some _ hoL, q1, q2, q3, fun v z => by
            have z : oL.data = .cell v := z
            rw [hdL] at z; cases z⟩
        · subst e
          obtain ⟨q1, q2, q3⟩ := fresh s1.heap.objs.size (Nat.le_of_lt lt1)
          exact ⟨hgp _, q1, q2, q3, god⟩
        · cases e
      · exact I2.pin p (List.mem_append_right _ hp)
    have R := clean K I3 E (fun b o h => (startH_of h).1) hd hrs fun aw ob vs z => by cases z
    obtain ⟨hfl, hall, hfin⟩ := runG_ok hfn
    have pre : ∀ i y, ps[i]? = some y → N[i]? = some y := fun i y e => by
      rw [← S.pre, List.getElem?_take] at e
      split at e
      · exact e
      · cases e
    have ndP : ps.Nodup := by rw [← S.pre]; exact S.nd.sublist (List.take_sublist _ _)
    have B : GB (lpOf X ⟨cG, cM, cP, cF0, cH0, cxo, cW, cC, cN⟩ ⟨N, qual, scope, f, cdv, s.heap.objs.size, s1.heap.objs.size, go, m⟩ C fuel pins F H s.heap all rs) k := ⟨K, ok, e3, e4, hr⟩
    refine gen_body B (hbody _ _ _ _ _ _ _ _ _ _ _ _ _ _ _ _ _ _ _ B) R (σg := L2.start N vs) (mp := bindL (envOfC qual scope s.heap.objs.size f cdv).kindOf (ps.zip us) fun _ => none) (ρ := startE fn.np fn.ns ds) ?_ hall hfin
    refine ⟨fun h e => ⟨oL, esL, epL, e, hdL, hrL⟩, fun i y v h1 h2 h3 => ?_, ?_, ?_, fun i d hi e => ?_, fun d e => ?_⟩
    · have h1 : N[i]? = some y := h1
      have hv := start_of h2
      obtain ⟨u, hu, ru⟩ := rv.get hv
      have hi : i < ps.length := by rw [← hl]; exact (List.getElem?_eq_some_iff.mp hv).1
      have hy : ps[i]? = some y := by
        have := pre i ps[i] (List.getElem?_eq_getElem hi)
        rw [h1] at this
        rw [List.getElem?_eq_getElem hi, ← Option.some.inj this]
      have ky := loc y (List.mem_of_getElem? hy)
      exact ⟨u, ru, ky, bindL_get ndP hy hu ky⟩
    · show (L2.start N vs).length = N.length
      unfold L2.start
      rw [List.length_append, List.length_map, List.length_replicate]
      omega
    · unfold startE L2.start
      rw [List.length_append, List.length_append, List.length_map, List.length_map, List.length_replicate, List.length_replicate, ← rd.length, hnp, hns, hdl]
    · have h1 := start_get e
      obtain ⟨v, h2, r⟩ := rd.get h1
      have ha := List.all_eq_true.mp hat d (List.mem_of_getElem? h1)
      obtain ⟨q1, q2⟩ := atom_hard (F' := fun _ => False) (H' := tupC (mrg (startH ⟨cG, cM, cP, cF0, cH0, cxo, cW, cC, cN⟩ F H) H)) r ha
      exact ⟨q1, v, startV_get h2, q2⟩
    · have h1 := start_get e
      have := (List.getElem?_eq_some_iff.mp h1).1
      have hm' : np ≤ m := hm
      have : m < ds.length := this
      omega
  exact ⟨_, rfl, main _ _ _ _ rfl rfl rfl fun h => Heap.get?_push_size _ rfl⟩
end Gn
set_option Elab.async false
set_option linter.all false
set_option autoImplicit false
set_option maxRecDepth 100000
set_option maxHeartbeats 4000000
/-! next: the generator sleeps behind it. -/
namespace Gn
open PySem PySem.Spec L2 Dn PyProof.Rows Sd
/-- it goes on for one turn less -/
def Goon (M : Model) (A : Around) (R : GenEnd) (Y : Protocol) (gs : GenState) : Nat → Resume → Shared → Prop
  | 0 => fun _ _ => False
  | m + 1 => fun r s => gs.Goes M A R Y m r s
section
variable {M : Model} {A : Around} {R : GenEnd} {Y : Protocol} {n : Nat} {E : Value → Shared → Prop} {s : Shared} {g : Nat} {gs : GenState}
theorem resumeS {r : Resume} {l : List Value} {α : Type} {k : GenResult → Sem α} {Q : α → Shared → Prop} (hg : s.gens[g]? = some gs) (hgo : gs.Goes M A R Y n r (s.setGen g .running))
    (hR : ∀ x s1, R n (s.setGen g .running) x s1 → wpAny M A (k (End.ret x).result) Q E (s1.setGen g .finished))
    (hY : ∀ v s1 gs', Pz.asleep gs' = true → gs'.bare = true → Y (n - 1) (s.setGen g .running) v s1 (Goon M A R Y gs' n) → wpAny M A (k (.yielded v)) Q E (s1.setGen g gs')) :
    wpAny M A (.resume g r l k) Q E s := by
  intro Γ p hΓ
  have key : ∀ (e : End) (s1 : Shared), SegEnd R Y n (Seg.next M A R Y n) (s.setGen g .running) e s1 → e.quiet = true ∧ Sem.wp M Γ (k e.result) (fun a _ s' => Q a s') (fun e _ s' => E e s') p (s1.setGen g e.genState) := fun e s1 h => by
    cases e with
    | ret x => exact ⟨rfl, hR x s1 h Γ p hΓ⟩
    | susp v g0 l0 k0 c0 p0 fs0 => exact ⟨h.1, hY v s1 _ rfl (End.bare_of_quiet h.1) (by cases n <;> exact h.2) Γ p hΓ⟩
  rw [Sem.wp_resume]
  cases gs with
  | running => cases hgo
  | finished => cases hgo
  | fresh c =>
    obtain ⟨e1, hs⟩ := hgo
    subst e1
    obtain ⟨e, s1, hr, h⟩ := seg_iff.mp hs (Γ.wake c p) p rfl (hΓ.wake c p)
    refine ⟨e.result, s1.setGen g e.genState, ?_, (key e s1 h).2⟩
    unfold Wakes; rw [hg]
    exact ⟨e, s1, hr, (key e s1 h).1, rfl, rfl⟩
  | suspended k1 l1 c1 p1 fs1 cl =>
    obtain ⟨e, s1, hr, h⟩ := seg_iff.mp hgo (Γ.wake c1 p) p1 rfl (hΓ.wake c1 p)
    refine ⟨e.result, s1.setGen g e.genState, ?_, (key e s1 h).2⟩
    unfold Wakes; rw [hg]
    exact ⟨e, s1, hr, (key e s1 h).1, rfl, rfl⟩
end
section
variable {P : Program} {w : World} {A : Around} {E : Value → Shared → Prop} {s : Shared}
theorem nextS {a : Addr} {g n : Nat} {gs : GenState} {Rp : Nat → Shared → Shared → Prop} {Y : Protocol} {Q : Option Value → Shared → Prop} (hh : A.handled = none) (hl : s.heap.NoLimit) (hd : A.depth < recursionLimit) (hg : s.heap.IsGen a g) (hgs : s.gens[g]? = some gs)
    (hgo : gs.Goes (model P w) A.in1 (fun n s0 r s1 => r = .ok (.ret .none) ∧ Rp n s0 s1) Y n (.send .none) (s.setGen g .running))
    (hY : ∀ v s1 gs', Pz.asleep gs' = true → gs'.bare = true → Y (n - 1) (s.setGen g .running) v s1 (Goon (model P w) A.in1 (fun n s0 r s1 => r = .ok (.ret .none) ∧ Rp n s0 s1) Y gs' n) → Q (some v) (s1.setGen g gs'))
    (hP : ∀ s1, Rp n (s.setGen g .running) s1 → ∀ h', (∀ b o, s1.heap.get? b = some o → h'.get? b = some o) → Q none { s1.setGen g .finished with heap := h' }) :
    wpAny (model P w) A (pyNext (.ref a)) Q E s := by
  unfold pyNext
  refine wpAny_bind ?_
  refine wpAny_attempt ?_
  refine wpAny_callSpecial?_slot (name := Str.ofString "__next__") hg.typeIs slot_gen_next ?_
  refine wpAny_call_entry slot_gen_next hg.typeIs entry_gen_next ?_ (args_gen_next _)
  show wpAny _ A.in1 (Builtin.Generator.genWake (.ref a) (.send .none)) _ _ s
  unfold Builtin.Generator.genWake
  refine wpAny_bind (wpAny_holding ?_)
  refine wpAny_genNumber hg ?_
  refine wpAny_bind (wpAny_genState hgs ?_)
  cases gs with
  | running => cases hgo
  | finished => cases hgo
  | _ =>
    refine wpAny_bind (wpAny_roomToWake hl hd ?_)
    show wpAny _ A.in1 (.resume g (.send .none) [] _) _ _ s
    refine resumeS hgs hgo (fun x s1 hx => ?_) fun v s1 gs' h1 h2 hv => wpAny_pure ⟨v, rfl, wpAny_pure (hY v s1 gs' h1 h2 hv)⟩
    obtain ⟨ex, hp⟩ := hx
    subst ex
    show wpAny _ A.in1 (newExc (.type "StopIteration") [] >>= _) _ _ _
    unfold newExc
    refine wpAny_bind ?_
    simp only [newTuple]
    refine wpAny_bind (wpAny_newObj_type ?_ (by size_fits))
    refine wpAny_bind (m := firstArgMember _ _) (wpAny_of_eq (a := Value.none) (by first | rfl | (simp only [firstArgMember]; rfl)) ?_)
    refine wpAny_newObj_type ?_ (by size_fits)
    unfold raiseNew
    refine wpAny_bind ?_
    refine wpAny_bind (wpAny_handled ?_)
    rw [show A.in1.handled = none from hh]
    refine wpAny_throw ?_
    refine wpAny_bind (wpAny_isInstance (T := "StopIteration") (b := true) ⟨_, Heap.get?_push_size _ rfl, rfl⟩ isSubtype_stop ?_)
    refine wpAny_pure ?_
    exact hP s1 hp _ fun b o hb => Heap.get?_push_of_some _ (Heap.get?_push_of_some _ hb)
end
end Gn
set_option Elab.async false
set_option linter.all false
set_option autoImplicit false
set_option maxRecDepth 100000
set_option maxHeartbeats 4000000
/-! The loop. -/
namespace Gn
open PySem PySem.Spec L2 Dn PyProof.Rows Sd
/-! ### the names by the turns -/
def rsOf (body : Dn.Env → O) (t : Tg) (all : List Dn.D) (ρ : Dn.Env) : Nat → Dn.Env
  | 0 => ρ
  | i + 1 => match all[i]? with
    | some d => match bindT t d (rsOf body t all ρ i) with
      | some ρ1 => match body ρ1 with
        | .nx ρ2 => ρ2
        | .ct ρ2 => ρ2
        | _ => []
      | none => []
    | none => []
theorem forH_cons (body : Dn.Env → O) (t : Tg) (d : Dn.D) (ds : List Dn.D) (ρ : Dn.Env) : forH body t (d :: ds) ρ = match bindT t d ρ with
    | none => .bad
    | some ρ1 => match body ρ1 with
      | .nx ρ2 => if hardEnv ρ2 then forH body t ds ρ2 else .bad
      | .ct ρ2 => if hardEnv ρ2 then forH body t ds ρ2 else .bad
      | _ => .bad := rfl
theorem forH_two (body : Dn.Env → O) (t : Tg) : ∀ (ds : List Dn.D) (ρ : Dn.Env), (∃ ρ', forH body t ds ρ = .nx ρ') ∨ forH body t ds ρ = .bad
  | [], ρ => .inl ⟨ρ, rfl⟩
  | d :: ds, ρ => by
    rw [forH_cons]
    cases bindT t d ρ with
    | none => exact .inr rfl
    | some ρ1 =>
      dsimp only
      cases body ρ1 with
      | nx ρ2 =>
        dsimp only
        split
        · exact forH_two body t ds ρ2
        · exact .inr rfl
      | ct ρ2 =>
        dsimp only
        split
        · exact forH_two body t ds ρ2
        · exact .inr rfl
      | _ => exact .inr rfl
theorem forH_turn {body : Dn.Env → O} {t : Tg} {d : Dn.D} {ds : List Dn.D} {ρ ρe : Dn.Env} (h : forH body t (d :: ds) ρ = .nx ρe) :
    ∃ ρ1 ρ2, bindT t d ρ = some ρ1 ∧ (body ρ1 = .nx ρ2 ∨ body ρ1 = .ct ρ2) ∧ hardEnv ρ2 = true ∧ forH body t ds ρ2 = .nx ρe := by
  rw [forH_cons] at h
  cases q : bindT t d ρ with
  | none => simp only [q] at h; cases h
  | some ρ1 =>
    simp only [q] at h
    cases q2 : body ρ1 with
    | nx ρ2 =>
      simp only [q2] at h
      split at h
      · rename_i hd; exact ⟨ρ1, ρ2, rfl, .inl q2, hd, h⟩
      · cases h
    | ct ρ2 =>
      simp only [q2] at h
      split at h
      · rename_i hd; exact ⟨ρ1, ρ2, rfl, .inr q2, hd, h⟩
      · cases h
    | _ => simp only [q2] at h; cases h
theorem rsOf_succ {body : Dn.Env → O} {t : Tg} {all : List Dn.D} {ρ ρ1 ρ2 : Dn.Env} {i : Nat} {d : Dn.D} (hd : all[i]? = some d) (hb : bindT t d (rsOf body t all ρ i) = some ρ1) (h : body ρ1 = .nx ρ2 ∨ body ρ1 = .ct ρ2) : rsOf body t all ρ (i + 1) = ρ2 := by
  unfold rsOf
  rw [hd]
  dsimp only
  rw [hb]
  dsimp only
  rcases h with h | h <;> rw [h]
theorem forH_at {body : Dn.Env → O} {t : Tg} {all : List Dn.D} {ρ ρe : Dn.Env} (h : forH body t all ρ = .nx ρe) : ∀ i, i ≤ all.length → forH body t (all.drop i) (rsOf body t all ρ i) = .nx ρe
  | 0, _ => h
  | i + 1, hi => by
    have ih := forH_at h i (Nat.le_of_succ_le hi)
    rw [List.drop_eq_getElem_cons hi] at ih
    obtain ⟨ρ1, ρ2, hb, hbd, _, hr⟩ := forH_turn ih
    rw [rsOf_succ (List.getElem?_eq_getElem hi) hb hbd]
    exact hr
/-! ### the rule -/
/-- what is wanted of an exception does not lean on sleeping generators -/
def XeBack (X : Cx) : Prop := ∀ (e : Value) (s s' s1 : Shared), AllBare s.gens → Pz.Back s s' s1 → X.xe e s1 → X.xe e s'
theorem Inv.gens {X : Cx} {pins : List (Addr × Obj)} {σ : L2.St} {H : Hp} {s : Shared} (I : Inv X pins σ H s) {s' : Shared} (G : Array GenState) (h : AllBare G) (e : s' = { s with gens := G }) : Inv X pins σ H s' := by
  subst e
  exact ⟨I.ok, I.os, h, I.base, I.loc, I.cell, I.free, I.freeC, I.pin, I.hok, I.len⟩
theorem bare_mask {G : Array GenState} (h : AllBare G) : AllBare (G.map Pz.mask) := fun y hy => by
  obtain ⟨x, hx, rfl⟩ := Array.mem_map.mp hy
  rw [Pz.mask_bare]
  exact h x hx
/-- a run on the masked state -/
theorem masked {X : Cx} {α : Type} {t : Sem α} {Q : α → Shared → Prop} {s : Shared} {A : Around} {M : Model} (hx : XeBack X) (hb : AllBare s.gens) (h : wpAny M A t Q X.xe { s with gens := s.gens.map Pz.mask }) : wpAny M A t (fun a s' => ∃ s1, Q a s1 ∧ Pz.Back s s' s1) X.xe s :=
  wpAny_mono (Pz.wpAny_mask h) (fun _ _ h => h) fun e s' ⟨s1, h1, b⟩ => hx e s s' s1 hb b h1
section
variable {X : Cx} {c : Cn} {k : Nat} {y gname : Str} {py p cpos pos : Pos} {e : Expr} {es : List Expr} {ies : List IE} {body : List Stmt} {ib : List IS} {fnum np j : Nat}
theorem ds_forg (fit : Fit X c) (hp : PassesOwn (model X.prog X.w) X.A X.env X.xe) (hx : XeBack X) (hc : X.calm = true) (hex : X.ex = []) (hM : c.M = []) (hP : c.P = []) (gf : GenF X.prog X.w c.G X.base k gname (c.C.gen fnum) np) (hr : Room k X.A) (hg : L2.Gl X gname)
    (ha : DA X c .st (e :: es) ies) (hn : ies.length = np) (hgt : DG X c (.Name y py) (.nm j)) (hb : DSs X c body ib)
    (hdb : (gname == ("__debug__" : Str)) = false := by decide) (he : starEach (e :: es) X.env = (false, PySem.eval e X.env) :: starEach es X.env := by rfl) (hpl : (backTo cpos (starEach es X.env)).any (·.1) = false := by rfl) :
    DS X c (.For (.Name y py) (.Call (.Name gname p) (e :: es) [] cpos) body [] pos) (.forg (.nm j) fnum ies ib) := by
  refine ⟨⟨fun pins s σ H Z I ⟨ρ, F, E, pp⟩ => ?_⟩⟩
  simp only [Dn.exec] at pp
  obtain ⟨f, fd, ps, hm, hk, hps, hbd, prom⟩ := gf.ex
  refine wpAny_For ?_ (by intro _; rfl)
  refine wpAny_Call_Name_kw (ld_glob I hg (by rw [fit.mg]; exact hm) ?_ hdb)
  refine PySem.W.callWith_K (h₀ := X.base) I.ok.mod.kin (by rw [fit.K]; exact hk) (thn (ha.pa.run cpos pins s σ H (fun vs H1 => ∃ ds F1, Dn.evals c.G.T c.C ies ρ = .ok ds ∧ ER c ρ F1 σ H1 ∧ RDs c.G F1 H1 ds vs ∧
    PostS c (if ds.all atom && hardEnv ρ then ev (c.C.gen fnum ds) ρ fun xs => forH (fun ρ => Dn.execs c.G.T c.C c.N ib ρ) (.nm j) xs ρ else .bad) F1 H1 Z) I ?_) fun us s1 ⟨vs, H1, I1, rv, ds, F1, q, E1, rd, p1⟩ => ⟨I1.kIn, ?_⟩) he hpl
  · exact SA E pp fun ds vs F1 H1 q g E1 r p1 => ⟨ds, F1, q, E1, r.st, p1⟩
  by_cases hcond : (ds.all atom && hardEnv ρ) = true
  case neg => rw [if_neg hcond] at p1; exact p1.elim
  rw [if_pos hcond] at p1
  rw [Bool.and_eq_true] at hcond
  obtain ⟨hat, hhard⟩ := hcond
  cases qg : c.C.gen fnum ds with
  | bad => rw [qg] at p1; exact p1.elim
  | exc a b => exact absurd qg (gf.ne ds a b)
  | ok all =>
    rw [qg, ev_ok] at p1
    rcases forH_two (fun ρ => Dn.execs c.G.T c.C c.N ib ρ) (.nm j) all ρ with ⟨ρe, qf⟩ | qf
    case inr => rw [qf] at p1; exact p1.elim
    rw [qf] at p1
    have p2 : ∀ σ' F' H', Keep F1 H1 F' H' → ER c ρe F' σ' H' → Z.nx σ' H' := p1
    have hdl : ds.length = np := by rw [evals_length _ _ q, hn]
    have hul : us.length = ps.length := by rw [← rv.length, ← rd.length, hdl, hps]
    have hbt := hbd s1 us (fit.K ▸ I1.kIn) (by rw [List.append_nil]; exact hul)
    rw [List.append_nil] at hbt
    refine wpAny_call (codeAny_mono (prom X c pins s1 σ H1 F1 ρ ds us vs all (rsOf (fun ρ => Dn.execs c.G.T c.C c.N ib ρ) (.nm j) all ρ) ⟨us, []⟩ rfl rfl fit.K fit.mg rfl rfl hr hex hc hM hP I1 E1 hhard hdl rd hat rv hbt qg rfl) fun r s2 hmade => ?_)
    obtain ⟨u, er, D, C, N, eu, K, g, cd, hgen, hget, hst, hlim, hbare, hgo⟩ := hmade
    subst er
    subst eu
    refine wpAny_pyIter_gen (hgen _ hget) ?_
    generalize hrs : rsOf (fun ρ => Dn.execs c.G.T c.C c.N ib ρ) (.nm j) all ρ = rs at K hgo hgen hget
    have hgT : g < s2.gens.size := (Array.getElem?_eq_some_iff.mp hst).1
    have fat := fun i hi => forH_at qf i hi
    rw [hrs] at fat
    refine codeAny_forLoop_any (fun n s3 => ∃ i gs, i ≤ all.length ∧ n = all.length - i ∧ s3.heap.get? D.a = some D.go ∧ s3.heap.NoLimit ∧ AllBare s3.gens ∧ s3.gens[g]? = some gs ∧
      gs.Goes (GM (lpOf X c D C N pins F1 H1 s1.heap all rs)) X.A.in1 (GR (lpOf X c D C N pins F1 H1 s1.heap all rs)) (GY (lpOf X c D C N pins F1 H1 s1.heap all rs)) (all.length + 1 - i) (.send .none) (s3.setGen g .running)) ?_ all.length
      ⟨0, _, Nat.zero_le _, rfl, hget, hlim, hbare, hst, rfl, hgo _ (allBare_setGen hbare rfl)⟩
    rintro n s3 ⟨i, gs, hi, rfl, hget3, hlim3, hbare3, hst3, hgo3⟩
    refine GenW.wpAny_gsz (n := g + 1) (Array.getElem?_eq_some_iff.mp hst3).1 (nextS (I1.ok.hd hc) hlim3 hr.depth (hgen _ hget3) hst3 hgo3 (fun v s4 gs' hsl hgb hy hsz => ?_) fun s4 hend h' hk4 hsz => ?_)
    · obtain ⟨j', d, ej, hdj, σ4, H4, oL, wl, x, rx, R4, rd4, hd4, kap⟩ := hy
      have ej : all.length + 1 - i - 1 + j' = all.length := ej
      obtain rfl : j' = i := by omega
      have hlt : j' < all.length := (List.getElem?_eq_some_iff.mp hdj).1
      have hdj : all[j']? = some d := hdj
      have fi := fat j' hi
      rw [List.drop_eq_getElem_cons hlt] at fi
      obtain ⟨ρ1, ρ2, hb1, hb2, hb3, hb4⟩ := forH_turn fi
      have hde : all[j'] = d := Option.some.inj ((List.getElem?_eq_getElem hlt).symm.trans hdj)
      rw [hde] at hb1
      have hrs1 : rs (j' + 1) = ρ2 := by
        rw [← hrs] at hb1 ⊢
        exact rsOf_succ hdj hb1 hb2
      have hb0 : AllBare (s4.setGen g gs').gens := allBare_setGen R4.inv.bare hgb
      have hst5 : (s4.setGen g gs').gens[g]? = some gs' := setGen_at (by have e := GenW.setGen_size s4 g gs'; have : g + 1 ≤ (s4.setGen g gs').gens.size := hsz; omega)
      refine wpAny_pure ?_
      -- the target
      have I5 : Inv X (gpOf D oL wl ++ pins) σ4 H4 { (s4.setGen g gs') with gens := (s4.setGen g gs').gens.map Pz.mask } := Inv.gens R4.inv _ (bare_mask hb0) rfl
      have hER4 : ER c (rs j') F1 σ4 H4 := R4.er
      refine wpAny_passesOwn hp (wpAny_mono (masked hx hb0 (hgt.pg.run _ _ σ4 H4 x v (fun σ' H' => H' = H4 ∧ ER c ρ1 F1 σ' H4) I5 rx (DG.turn hER4 rd4 hb1 fun σ' E' => ⟨rfl, E'⟩))) (fun _ s6 h6 => ?_) fun _ _ h => h)
      obtain ⟨s6m, ⟨σ6, H6, I6, eH, E6⟩, b6⟩ := h6
      subst eH
      have hb6 : AllBare s6.gens := b6.bare I6.bare hb0
      have I7 : Inv X (gpOf D oL wl ++ pins) σ6 H6 { s6 with gens := s6.gens.map Pz.mask } := Inv.gens I6 _ (bare_mask hb6) (by rw [b6.same])
      -- the suite
      let Zb : Ends := { nx := fun σ' H' => ∃ F', Keep F1 H6 F' H' ∧ ER c ρ2 F' σ' H', rt := fun _ _ => False, ct := fun σ' H' => ∃ F', Keep F1 H6 F' H' ∧ ER c ρ2 F' σ' H' }
      have post : PostS c (Dn.execs c.G.T c.C c.N ib ρ1) F1 H6 Zb := by
        rcases hb2 with h | h <;> rw [h]
        · exact fun σ' F' H' k' E' => ⟨F', k', E'⟩
        · exact fun σ' F' H' k' E' => ⟨F', k', E'⟩
      refine wpAny_passesOwn hp (wpAny_mono (masked hx hb6 (hb.pss.run _ _ σ6 H6 Zb I7 ⟨ρ1, F1, E6, post⟩)) (fun fl s7 h7 => ?_) fun _ _ h => h)
      obtain ⟨s7m, hsp, b7⟩ := h7
      have fin : ∀ (σ7 : L2.St) (H7 : Hp) (F7 : Addr → Prop), Inv X (gpOf D oL wl ++ pins) σ7 H7 s7m → Keep F1 H6 F7 H7 → ER c ρ2 F7 σ7 H7 → ∃ m, m < all.length - j' ∧ ∃ i gs, i ≤ all.length ∧ m = all.length - i ∧ s7.heap.get? D.a = some D.go ∧ s7.heap.NoLimit ∧ AllBare s7.gens ∧ s7.gens[g]? = some gs ∧
          gs.Goes (GM (lpOf X c D C N pins F1 H1 s1.heap all rs)) X.A.in1 (GR (lpOf X c D C N pins F1 H1 s1.heap all rs)) (GY (lpOf X c D C N pins F1 H1 s1.heap all rs)) (all.length + 1 - i) (.send .none) (s7.setGen g .running) := fun σ7 H7 F7 I8 k7 E7 => by
        have hb7 : AllBare s7.gens := b7.bare I8.bare hb6
        have I9 : Inv X (gpOf D oL wl ++ pins) σ7 H7 s7 := Inv.gens I8 _ hb7 b7.same
        have hl7 := hl_keep (l := lpOf X c D C N pins F1 H1 s1.heap all rs) K R4.hl k7 E7
        have R7 := clean (l := lpOf X c D C N pins F1 H1 s1.heap all rs) K I9 E7 hl7 hb3 hrs1 R4.wl
        have go := kap (s7.setGen g .running) σ7 _ (R7.gens (allBare_setGen hb7 rfl)) fun b xs h => by
          have h7 := k7.st b _ h rfl
          cases q : (lpOf X c D C N pins F1 H1 s1.heap all rs).HL b with
          | some o => rw [mrg_l q, ← hl7 b o q]; exact h7
          | none => rw [mrg_r q, h7]; rfl
        have e1 : all.length + 1 - j' = (all.length + 1 - (j' + 1)) + 1 := by omega
        have go : Goon (GM (lpOf X c D C N pins F1 H1 s1.heap all rs)) X.A.in1 (GR (lpOf X c D C N pins F1 H1 s1.heap all rs)) (GY (lpOf X c D C N pins F1 H1 s1.heap all rs)) gs' (all.length + 1 - j') (.send .none) (s7.setGen g .running) := go
        rw [e1] at go
        exact ⟨all.length - (j' + 1), by omega, j' + 1, gs', hlt, rfl, (R7.p gp_a).1, R7.inv.nolimit, hb7, b7.slept g gs' (b6.slept g gs' hst5 hsl) hsl, go⟩
      cases fl with
      | next => obtain ⟨σ7, H7, I8, F7, k7, E7⟩ := hsp; exact fin σ7 H7 F7 I8 k7 E7
      | cont => obtain ⟨σ7, H7, I8, F7, k7, E7⟩ := hsp; exact fin σ7 H7 F7 I8 k7 E7
      | brk => obtain ⟨σ7, H7, I8, hf⟩ := hsp; exact hf.elim
      | ret u => obtain ⟨x7, σ7, H7, I8, _, hf⟩ := hsp; exact hf.elim
    · obtain ⟨hn1, σ4, H4, oL, wl, R4⟩ := hend
      refine wpAny_execs_nil ?_
      have I5 : Inv X (gpOf D oL wl ++ pins) σ4 H4 { s4.setGen g .finished with heap := h' } :=
        R4.inv.call' (ch := []) rfl (Un.kept hk4) (R4.inv.hok.kept hk4) (allBare_setGen R4.inv.bare rfl) fun b z => by cases z
      have eρ : rs all.length = ρe := by
        have := fat all.length (Nat.le_refl _)
        rw [List.drop_length] at this
        cases this; rfl
      have hER4 : ER c (rs all.length) F1 σ4 H4 := R4.er
      rw [eρ] at hER4
      exact ⟨σ4, H4, I5.pins_of fun p hp => I5.pin p (List.mem_append_right _ (List.mem_append_right _ hp)),
        p2 σ4 F1 H4 ⟨fun _ h => h, fun a o f e => R4.hl a o (startH_in e (.inr (.inl f))), fun a o e hs => R4.hl a o (startH_in e (.inl hs))⟩ hER4⟩
end
end Gn
set_option Elab.async false
set_option linter.all false
set_option autoImplicit false
set_option maxRecDepth 100000
set_option maxHeartbeats 4000000
/-! Short names for the printed terms. -/
namespace Gn
open PySem PySem.Spec L2 Dn PyProof.Rows Sd
section
variable {P : Program} {w : World} {G : Sd.Gl} {base : Heap} {j k : Nat} {N : List Str} {qual : Str} {scope : Scope} {f : Addr} {cdv : Value} {A : Around} {outer : List PySem.Env} {s : Shared} {H : Hp} {E : XK}
theorem cx_back {e : Value} {s0 s2 s3 : Shared} (h : CX P w outer H s E e s3) (hb : AllBare s0.gens) (b2 : Pz.Back s0 s2 s3) : CX P w outer H s E e s2 := by
  obtain ⟨a, B, H', cls, d, rfl, fl, z1, z2, z3, z4, z5, z6⟩ := h
  have e2 := b2.same
  have hb2 := b2.bare z5 hb
  obtain ⟨h', g', d', t', o'⟩ := s2
  cases e2
  exact ⟨a, B, H', cls, d, rfl, fl, z1, z2, z3, z4, hb2, z6⟩
theorem xe_back : XeBack (bodyX P w G base N qual scope f cdv A outer s H E) := fun e s0 s' s1 hb b h =>
  wpAny_mono (Pz.wpAny_back b h) (fun _ s2 ⟨s3, h3, b2⟩ => cx_back h3 hb b2) fun _ s2 ⟨s3, h3, b2⟩ => cx_back h3 hb b2
theorem st_forg {y gname : Str} {py p cpos pos : Pos} {e : Expr} {es : List Expr} {ies : List IE} {body : List Stmt} {ib : List IS} {C : Calls} {fuel fnum np i : Nat} {F : Addr → Prop} (B : Bd (bodyX P w G base N qual scope f cdv A outer s H E) (cnP G [] C fuel F H E) k) (gf : GenF P w G base j gname (C.gen fnum) np)
    (ha : DA (bodyX P w G base N qual scope f cdv A outer s H E) (cnP G [] C fuel F H E) .st (e :: es) ies) (hgt : DG (bodyX P w G base N qual scope f cdv A outer s H E) (cnP G [] C fuel F H E) (.Name y py) (.nm i)) (hb : DSs (bodyX P w G base N qual scope f cdv A outer s H E) (cnP G [] C fuel F H E) body ib)
    (hj : j ≤ k := by omega) (hg : L2.Gl (bodyX P w G base N qual scope f cdv A outer s H E) gname := by rfl) (hn : ies.length = np := by rfl)
    (hdb : (gname == ("__debug__" : Str)) = false := by decide) (he : starEach (e :: es) (bodyX P w G base N qual scope f cdv A outer s H E).env = (false, PySem.eval e (bodyX P w G base N qual scope f cdv A outer s H E).env) :: starEach es (bodyX P w G base N qual scope f cdv A outer s H E).env := by rfl)
    (hpl : (backTo cpos (starEach es (bodyX P w G base N qual scope f cdv A outer s H E).env)).any (·.1) = false := by rfl) :
    DS (bodyX P w G base N qual scope f cdv A outer s H E) (cnP G [] C fuel F H E) (.For (.Name y py) (.Call (.Name gname p) (e :: es) [] cpos) body [] pos) (.forg (.nm i) fnum ies ib) :=
  ds_forg B.fit B.pss xe_back rfl rfl rfl rfl gf (B.room.mono hj) hg ha hn hgt hb hdb he hpl
theorem blt {X : Cx} {c : Cn} {x : Str} (fit : Fit X c) (h : c.G.mg x = none) : X.mg x = none := by rw [fit.mg]; exact h
theorem bad_gen {x : Str} {f : Addr} {fd : FuncData} {ps : List Str} {fn : List Dn.D → R (List Dn.D)} {np : Nat} (hx : G.mg x = some (.ref f)) (hk : PySem.W.keepIn G.K (.ref f) = true) (hps : ps.length = np) (hB : Binds G.K fd ps []) (h : ∀ ds, fn ds = .bad) : GenF P w G base k x fn np where
  ne := fun ds a b z => by rw [h] at z; cases z
  ex := ⟨f, fd, ps, hx, hk, hps, hB, fun X c pins s σ H F ρ ds us vs all rs args _ _ _ _ _ _ _ _ _ _ _ _ _ _ _ _ _ _ _ z _ => by rw [h] at z; cases z⟩
end
end Gn
set_option linter.all false
set_option autoImplicit false
namespace K03
open Dn
-- classes: 0 BookError 1 BadNames 2 BadWish 3 TooMany 4 BadStand 5 BadName 6 BadText 7 Liar 8 Book
-- attributes: 0 names 1 index 2 many 3 stand 4 name 5 at 6 book 7 asked 8 wishes 9 check_free 10 hold 11 broken 12 read 13 text 14 breaks 15 widest
-- defs: 0 row_is_right 1 check_stand 2 denied 3 within 4 answer_in 5 with_answer 6 stands_of 7 plain_row 8 Liar.__init__ 9 Liar.check_free 10 Liar.hold 11 Liar.broken 12 Book.__init__ 13 Book.breaks 14 Book.__eq__ 15 _law_cell 16 _law_draws 17 _law_wish 18 _law_is_number 19 _law_is_row 20 _law_many 21 _law_stands_hold 22 _law_bad_stands_refused 23 _law_liar_is 24 _law_hold 25 law
/-- row_is_right: 0 names 1 row 2 last 3 name 4 value -/
def f_row_is_right : Fn := ⟨2, 5, .pure, [
  (.asg (.nm 2) (.int 0)),
  (.for_ (.tp [3, 4]) (.var 1) [(.ife (.or (.cmp .le (.var 3) (.var 2)) (.or (.cmp .gt (.var 3) (.var 0)) (.cmp .notin (.var 4) (.tup [(.int 0), (.int 1)])))) [(.ret (.bl false))] []), (.asg (.nm 2) (.var 3))]),
  (.ret (.bl true))]⟩
/-- check_stand: 0 names 1 stand -/
def f_check_stand : Fn := ⟨2, 2, .pure, [
  (.ife (.not (.call 0 [(.var 0), (.var 1)])) [(.rse 4 [(.var 1)])] [])]⟩
/-- denied: 0 row 1 name 2 value -/
def f_denied : Fn := ⟨1, 3, .pure, [
  (.ret (.bi .tuple [(.lc (.tup [(.var 1), (.bin .sub (.int 1) (.var 2))]) (.tp [1, 2]) (.var 0) none)]))]⟩
/-- within: 0 row 1 other 2 pair -/
def f_within : Fn := ⟨2, 3, .pure, [
  (.ret (.bi .all [(.lc (.cmp .in_ (.var 2) (.var 1)) (.nm 2) (.var 0) none)]))]⟩
/-- answer_in: 0 stand 1 name 2 key 3 value -/
def f_answer_in : Fn := ⟨2, 4, .pure, [
  (.for_ (.tp [2, 3]) (.var 0) [(.ife (.cmp .eq (.var 2) (.var 1)) [(.ret (.var 3))] [])]),
  (.ret .non)]⟩
/-- with_answer: 0 stand 1 name 2 answer 3 before 4 after 5 pair -/
def f_with_answer : Fn := ⟨3, 6, .pure, [
  (.asg (.nm 3) (.lc (.var 5) (.nm 5) (.var 0) (some (.cmp .lt (.sub (.var 5) (.int 0)) (.var 1))))),
  (.asg (.nm 4) (.lc (.var 5) (.nm 5) (.var 0) (some (.cmp .gt (.sub (.var 5) (.int 0)) (.var 1))))),
  (.ife (.cmp .lt (.bin .add (.bi .len [(.var 3)]) (.bi .len [(.var 4)])) (.bi .len [(.var 0)])) [(.rse 5 [(.var 1)])] []),
  (.ret (.bin .add (.bin .add (.bi .tuple [(.var 3)]) (.tup [(.tup [(.var 1), (.var 2)])])) (.bi .tuple [(.var 4)])))]⟩
/-- stands_of: 0 names 1 most 2 waiting 3 stand 4 last 5 name -/
def f_stands_of : Fn := ⟨2, 6, .gen, [
  (.asgF 2 (.lst [(.tup [])])),
  (.whl (.var 2) [(.pop 3 2), (.yld 2 (.var 3)), (.ife (.cmp .lt (.bi .len [(.var 3)]) (.var 1)) [(.asg (.nm 4) (.ife (.var 3) (.sub (.sub (.var 3) (.neg (.int 1))) (.int 0)) (.int 0))), (.for_ (.nm 5) (.down (.var 0) (.var 4)) [(.app 2 (.bin .add (.var 3) (.tup [(.tup [(.var 5), (.int 1)])]))), (.app 2 (.bin .add (.var 3) (.tup [(.tup [(.var 5), (.int 0)])])))])] [])])]⟩
/-- plain_row: 0 row 1 name 2 value -/
def f_plain_row : Fn := ⟨1, 3, .pure, [
  (.ret (.bi .tuple [(.bi .sorted [(.lc (.tup [(.var 1), (.var 2)]) (.tp [1, 2]) (.var 0) none)])]))]⟩
/-- Liar.__init__: 0 self 1 book -/
def f_Liar__init : Fn := ⟨2, 2, .io, [
  (.sat 0 6 (.var 1)),
  (.sat 0 3 (.tup [])),
  (.sat 0 7 (.int 0))]⟩
/-- Liar.check_free: 0 self 1 name -/
def f_Liar_check_free : Fn := ⟨2, 2, .pure, [
  (.ife (.or (.cmp .lt (.var 1) (.int 1)) (.or (.cmp .gt (.var 1) (.att (.att (.var 0) 6) 0)) (.cmp .isnot (.call 4 [(.att (.var 0) 3), (.var 1)]) .non))) [(.rse 5 [(.var 1)])] [])]⟩
/-- Liar.hold: 0 self 1 name 2 answer -/
def f_Liar_hold : Fn := ⟨3, 3, .io, [
  (.exp (.mthL 9 (.var 0) [(.var 1)])),
  (.sat 0 3 (.call 5 [(.att (.var 0) 3), (.var 1), (.var 2)])),
  (.aat 0 7 .add (.int 1)),
  (.ret (.var 2))]⟩
/-- Liar.broken: 0 self -/
def f_Liar_broken : Fn := ⟨1, 1, .pure, [
  (.ret (.mth 14 (.att (.var 0) 6) [(.att (.var 0) 3)]))]⟩
/-- Book.__init__: 0 self 1 names 2 wishes 3 rows 4 at 5 wish 6 row -/
def f_Book__init : Fn := ⟨3, 7, .io, [
  (.ife (.or (.cmp .lt (.var 1) (.int 0)) (.cmp .gt (.var 1) (.int 40))) [(.rse 1 [(.var 1)])] []),
  (.asgF 3 (.lst [])),
  (.for_ (.tp [4, 5]) (.enum (.var 2) 0) [(.asg (.nm 6) (.call 7 [(.var 5)])), (.ife (.not (.call 0 [(.var 1), (.var 6)])) [(.rse 2 [(.var 4)])] []), (.app 3 (.var 6))]),
  (.asgF 3 (.bi .sset [(.var 3)])),
  (.ife (.cmp .gt (.bi .len [(.var 3)]) (.int 128)) [(.rse 3 [(.bi .len [(.var 3)])])] []),
  (.sat 0 0 (.var 1)),
  (.sat 0 8 (.bi .tuple [(.var 3)]))]⟩
/-- Book.breaks: 0 self 1 stand 2 at 3 wish -/
def f_Book_breaks : Fn := ⟨2, 4, .pure, [
  (.exp (.call 1 [(.att (.var 0) 0), (.var 1)])),
  (.ret (.bi .tuple [(.lc (.var 2) (.tp [2, 3]) (.enum (.att (.var 0) 8) 0) (some (.call 3 [(.call 2 [(.var 3)]), (.var 1)])))]))]⟩
/-- Book.__eq__: 0 self 1 other -/
def f_Book__eq : Fn := ⟨2, 2, .pure, [
  (.ret (.and (.isi (.var 1) (.cls 8)) (.and (.cmp .eq (.att (.var 0) 0) (.att (.var 1) 0)) (.cmp .eq (.att (.var 0) 8) (.att (.var 1) 8)))))]⟩
/-- _law_cell: 0 script 1 k -/
def f_law_cell : Fn := ⟨2, 2, .pure, [
  (.ife (.cmp .lt (.var 1) (.bi .len [(.var 0)])) [(.ret (.sub (.var 0) (.var 1)))] []),
  (.ret (.int 0))]⟩
/-- _law_draws: 0 cell 1 many 2 draws 3 rest 4 k 5 state 6 other -/
def f_law_draws : Fn := ⟨2, 7, .pure, [
  (.asgF 2 (.lst [])),
  (.asg (.nm 3) (.bi .abs [(.var 0)])),
  (.ife (.cmp .ge (.var 3) (.bin .pow (.int 10) (.int 18))) [(.for_ (.nm 4) (.range (.int 0) (.var 1)) [(.app 2 (.bin .mod (.var 3) (.int 60))), (.asg (.nm 3) (.bin .fdiv (.var 3) (.int 60)))]), (.ret (.var 2))] []),
  (.asg (.nm 5) (.bin .add (.var 3) (.int 17))),
  (.for_ (.nm 4) (.range (.int 0) (.var 1)) [(.asg (.nm 5) (.bin .mod (.bi .int [(.bin .add (.bin .add (.bin .mul (.var 5) (.int 48271)) (.bin .mul (.int 12345) (.var 4))) (.int 7))]) (.int 2147483647))), (.asg (.nm 6) (.bin .mod (.bi .int [(.bin .add (.bin .mul (.var 5) (.int 69621)) (.var 4))]) (.int 1000003))), (.app 2 (.bin .mod (.bin .fdiv (.var 6) (.int 3)) (.int 60)))]),
  (.ret (.var 2))]⟩
/-- _law_wish: 0 cell 1 names 2 draws 3 k -/
def f_law_wish : Fn := ⟨2, 4, .pure, [
  (.asg (.nm 2) (.call 16 [(.var 0), (.var 1)])),
  (.ret (.bi .tuple [(.lc (.tup [(.bin .add (.var 3) (.int 1)), (.bin .sub (.bin .mod (.sub (.var 2) (.var 3)) (.int 3)) (.int 1))]) (.nm 3) (.range (.int 0) (.var 1)) (some (.cmp .gt (.bin .mod (.sub (.var 2) (.var 3)) (.int 3)) (.int 0))))]))]⟩
/-- _law_is_number: 0 actual 1 expected -/
def f_law_is_number : Fn := ⟨2, 2, .pure, [
  (.ret (.and (.isi (.var 0) .int) (.and (.not (.isi (.var 0) .bool)) (.cmp .eq (.var 0) (.var 1)))))]⟩
/-- _law_is_row: 0 actual 1 due 2 k -/
def f_law_is_row : Fn := ⟨2, 3, .pure, [
  (.ife (.or (.not (.isi (.var 0) .tuple)) (.cmp .ne (.bi .len [(.var 0)]) (.bi .len [(.var 1)]))) [(.ret (.bl false))] []),
  (.for_ (.nm 2) (.range (.int 0) (.bi .len [(.var 1)])) [(.ife (.or (.not (.isi (.sub (.var 0) (.var 2)) .tuple)) (.cmp .ne (.bi .len [(.sub (.var 0) (.var 2))]) (.int 2))) [(.ret (.bl false))] []), (.ife (.or (.not (.call 18 [(.sub (.sub (.var 0) (.var 2)) (.int 0)), (.sub (.sub (.var 1) (.var 2)) (.int 0))])) (.not (.call 18 [(.sub (.sub (.var 0) (.var 2)) (.int 1)), (.sub (.sub (.var 1) (.var 2)) (.int 1))]))) [(.ret (.bl false))] [])]),
  (.ret (.bl true))]⟩
/-- _law_many: 0 names 1 most 2 total 3 part 4 k -/
def f_law_many : Fn := ⟨2, 5, .pure, [
  (.asg (.nm 2) (.int 1)),
  (.asg (.nm 3) (.int 1)),
  (.for_ (.nm 4) (.range (.int 0) (.bi .min [(.var 0), (.var 1)])) [(.asg (.nm 3) (.bin .fdiv (.bin .mul (.bin .mul (.var 3) (.int 2)) (.bin .sub (.var 0) (.var 4))) (.bin .add (.var 4) (.int 1)))), (.asg (.nm 2) (.bin .add (.var 2) (.var 3)))]),
  (.ret (.var 2))]⟩
/-- _law_stands_hold: 0 names 1 most 2 last 3 many 4 stand 5 before 6 pair -/
def f_law_stands_hold : Fn := ⟨2, 7, .pure, [
  (.asg (.nm 2) .non),
  (.asg (.nm 3) (.int 0)),
  (.forg (.nm 4) 6 [(.var 0), (.var 1)] [(.ife (.or (.not (.isi (.var 4) .tuple)) (.or (.cmp .gt (.bi .len [(.var 4)]) (.var 1)) (.cmp .gt (.var 3) (.int 200)))) [(.ret (.bl false))] []), (.ife (.cmp .isnot (.call 1 [(.var 0), (.var 4)]) .non) [(.ret (.bl false))] []), (.asg (.nm 5) (.int 0)), (.for_ (.nm 6) (.var 4) [(.ife (.or (.not (.isi (.var 6) .tuple)) (.or (.cmp .ne (.bi .len [(.var 6)]) (.int 2)) (.not (.cmp2 .lt .le (.var 5) (.sub (.var 6) (.int 0)) (.var 0))))) [(.ret (.bl false))] []), (.ife (.or (.not (.call 18 [(.sub (.var 6) (.int 0)), (.sub (.var 6) (.int 0))])) (.or (.not (.call 18 [(.sub (.var 6) (.int 1)), (.sub (.var 6) (.int 1))])) (.cmp .notin (.sub (.var 6) (.int 1)) (.tup [(.int 0), (.int 1)])))) [(.ret (.bl false))] []), (.asg (.nm 5) (.sub (.var 6) (.int 0)))]), (.ife (.and (.cmp .isnot (.var 2) .non) (.not (.cmp .lt (.var 2) (.var 4)))) [(.ret (.bl false))] []), (.asg (.nm 2) (.var 4)), (.asg (.nm 3) (.bin .add (.var 3) (.int 1)))]),
  (.ret (.cmp .eq (.var 3) (.call 20 [(.var 0), (.var 1)])))]⟩
/-- _law_bad_stands_refused: 0 names 1 draws 2 bad 3 stand 4 e -/
def f_law_bad_stands_refused : Fn := ⟨2, 5, .pure, [
  (.asg (.nm 2) (.lst [(.tup [(.tup [(.int 0), (.int 1)])]), (.tup [(.tup [(.bin .add (.var 0) (.int 1)), (.int 0)])]), (.tup [(.tup [(.int 1), (.int 1)]), (.tup [(.int 1), (.int 0)])]), (.tup [(.tup [(.int 1), (.int 0)]), (.tup [(.int 1), (.int 0)])]), (.tup [(.tup [(.int 2), (.int 1)]), (.tup [(.int 1), (.int 1)])]), (.tup [(.tup [(.int 1), (.int 2)])]), (.tup [(.tup [(.int 1), (.bin .sub (.int 0) (.int 1))])])])),
  (.asg (.nm 3) (.sub (.var 2) (.bin .mod (.sub (.var 1) (.int 0)) (.int 7)))),
  (.try_ [(.exp (.call 1 [(.var 0), (.var 3)]))] (.cons 0 (some 4) [(.ret (.and (.xisi 4 (.cls 4)) (.and (.xisi 4 .ve) (.and (.not (.xisi 4 (.cls 5))) (.cmp .eq (.xatt 4 3) (.var 3))))))] .nil)),
  (.ret (.bl false))]⟩
/-- _law_liar_is: 0 liar 1 wishes 2 held 3 asked 4 due 5 broken 6 k 7 word 8 index -/
def f_law_liar_is : Fn := ⟨4, 9, .pure, [
  (.asg (.nm 4) (.bi .sorted [(.var 2)])),
  (.asgF 5 (.lst [])),
  (.for_ (.nm 6) (.range (.int 0) (.bi .len [(.var 1)])) [(.ife (.cmp .eq (.bi .len [(.lc (.var 7) (.nm 7) (.sub (.var 1) (.var 6)) (some (.cmp .in_ (.tup [(.sub (.var 7) (.int 0)), (.bin .sub (.int 1) (.sub (.var 7) (.int 1)))]) (.var 4))))]) (.bi .len [(.sub (.var 1) (.var 6))])) [(.app 5 (.var 6))] [])]),
  (.ife (.or (.not (.call 19 [(.att (.var 0) 3), (.var 4)])) (.not (.call 18 [(.att (.var 0) 7), (.var 3)]))) [(.ret (.bl false))] []),
  (.for_ (.nm 6) (.range (.int 0) (.int 2)) [(.ife (.or (.not (.isi (.prp (.var 0) 11) .tuple)) (.cmp .ne (.lc (.var 8) (.nm 8) (.prp (.var 0) 11) none) (.var 5))) [(.ret (.bl false))] [])]),
  (.ret (.bl true))]⟩
/-- _law_hold: 0 liar 1 name 2 answer 3 names 4 held 5 free 6 e 7 told 8 pair -/
def f_law_hold : Fn := ⟨5, 9, .io, [
  (.asg (.nm 5) (.and (.cmp2 .le .le (.int 1) (.var 1) (.var 3)) (.cmp .notin (.var 1) (.lc (.sub (.var 8) (.int 0)) (.nm 8) (.var 4) none)))),
  (.try_ [(.ife (.or (.cmp .isnot (.mthL 9 (.var 0) [(.var 1)]) .non) (.not (.var 5))) [(.ret .non)] [])] (.cons 5 (some 6) [(.ife (.or (.var 5) (.or (.cmp .ne (.xatt 6 4) (.var 1)) (.or (.not (.xisi 6 (.cls 0))) (.xisi 6 (.cls 4))))) [(.ret .non)] [])] .nil)),
  (.try_ [(.imth (.tg (.nm 7)) 10 0 [(.var 1), (.var 2)]), (.ret (.ife (.and (.var 5) (.call 18 [(.var 7), (.var 2)])) (.bin .add (.var 4) (.lst [(.tup [(.var 1), (.var 2)])])) .non))] (.cons 5 (some 6) [(.ret (.ife (.and (.not (.var 5)) (.cmp .eq (.xatt 6 4) (.var 1))) (.var 4) .non))] .nil))]⟩
/-- law: 0 script 1 first 2 names 3 most 4 draws 5 wishes 6 wish 7 turned 8 book 9 liar 10 other 11 held 12 beside 13 k 14 name 15 cell 16 word -/
def f_law : Fn := ⟨1, 17, .pure, [
  (.asg (.nm 1) (.bi .abs [(.call 15 [(.var 0), (.int 0)])])),
  (.asg (.nm 2) (.bin .mod (.var 1) (.int 5))),
  (.asg (.nm 3) (.bin .mod (.bin .fdiv (.var 1) (.int 5)) (.int 7))),
  (.ife (.cmp .eq (.bin .mod (.bin .fdiv (.var 1) (.int 35)) (.int 9)) (.int 1)) [(.asg (.nm 2) (.int 40)), (.asg (.nm 3) (.bin .mod (.var 3) (.int 2)))] []),
  (.ife (.not (.call 21 [(.var 2), (.var 3)])) [(.ret (.bl false))] []),
  (.ife (.and (.cmp .lt (.var 2) (.int 40)) (.not (.call 21 [(.var 2), (.bin .add (.var 2) (.bin .mod (.bi .abs [(.call 15 [(.var 0), (.int 2)])]) (.bin .pow (.int 10) (.int 20))))]))) [(.ret (.bl false))] []),
  (.asg (.nm 4) (.call 16 [(.bi .abs [(.call 15 [(.var 0), (.int 1)])]), (.int 40)])),
  (.ife (.not (.call 22 [(.var 2), (.var 4)])) [(.ret (.bl false))] []),
  (.asgF 5 (.lst [])),
  (.for_ (.nm 6) (.bi .sorted [(.lc (.call 17 [(.bi .abs [(.var 15)]), (.bi .min [(.var 2), (.int 4)])]) (.nm 15) (.slc (.var 0) (some (.int 2)) (some (.int 30))) none)]) [(.ife (.or (.cmp .eq (.bi .len [(.var 5)]) (.int 0)) (.cmp .ne (.sub (.var 5) (.neg (.int 1))) (.var 6))) [(.app 5 (.var 6))] [])]),
  (.frz 5),
  (.for_ (.nm 6) (.var 5) [(.asg (.nm 7) (.bi .tuple [(.lc (.tup [(.sub (.var 16) (.int 0)), (.bin .sub (.int 1) (.sub (.var 16) (.int 1)))]) (.nm 16) (.var 6) none)])), (.ife (.or (.not (.call 19 [(.call 2 [(.var 6)]), (.var 7)])) (.not (.call 19 [(.call 2 [(.call 2 [(.var 6)])]), (.var 6)]))) [(.ret (.bl false))] [])]),
  (.asg (.nm 8) (.mk 8 [(.var 2), (.var 5)])),
  (.asgF 9 (.mk 7 [(.var 8)])),
  (.asgF 10 (.mk 7 [(.mk 8 [(.var 2), (.var 5)])])),
  (.ife (.or (.not (.eqo 8 14 (.att (.var 9) 6) (.var 8))) (.not (.callL 23 [(.var 9), (.var 5), (.lst []), (.int 0)]))) [(.ret (.bl false))] []),
  (.asg (.nm 11) (.lst [])),
  (.asg (.nm 12) (.lst [])),
  (.for_ (.nm 13) (.range (.int 0) (.int 12)) [(.asg (.nm 14) (.ife (.cmp .lt (.var 2) (.int 40)) (.bin .mod (.sub (.var 4) (.var 13)) (.bin .add (.var 2) (.int 2))) (.bin .mod (.sub (.var 4) (.var 13)) (.int 42)))), (.ical (.tg (.nm 11)) 24 9 [(.var 14), (.bin .mod (.sub (.var 4) (.bin .sub (.int 39) (.var 13))) (.int 2)), (.var 2), (.var 11)]), (.ife (.or (.cmp .is_ (.var 11) .non) (.not (.callL 23 [(.var 9), (.var 5), (.var 11), (.bi .len [(.var 11)])]))) [(.ret (.bl false))] []), (.ife (.cmp .eq (.bin .mod (.var 13) (.int 3)) (.int 1)) [(.ical (.tg (.nm 12)) 24 10 [(.var 14), (.bin .sub (.int 1) (.bin .mod (.sub (.var 4) (.bin .sub (.int 39) (.var 13))) (.int 2))), (.var 2), (.var 12)]), (.ife (.cmp .is_ (.var 12) .non) [(.ret (.bl false))] [])] []), (.ife (.not (.callL 23 [(.var 10), (.var 5), (.var 12), (.bi .len [(.var 12)])])) [(.ret (.bl false))] [])]),
  (.ret (.bl true))]⟩
def prog : Nat → Option Fn
  | 0 => some f_row_is_right
  | 1 => some f_check_stand
  | 2 => some f_denied
  | 3 => some f_within
  | 4 => some f_answer_in
  | 5 => some f_with_answer
  | 6 => some f_stands_of
  | 7 => some f_plain_row
  | 8 => some f_Liar__init
  | 9 => some f_Liar_check_free
  | 10 => some f_Liar_hold
  | 11 => some f_Liar_broken
  | 12 => some f_Book__init
  | 13 => some f_Book_breaks
  | 14 => some f_Book__eq
  | 15 => some f_law_cell
  | 16 => some f_law_draws
  | 17 => some f_law_wish
  | 18 => some f_law_is_number
  | 19 => some f_law_is_row
  | 20 => some f_law_many
  | 21 => some f_law_stands_hold
  | 22 => some f_law_bad_stands_refused
  | 23 => some f_law_liar_is
  | 24 => some f_law_hold
  | 25 => some f_law
  | _ => none
def tFlds : Nat → List Nat
  | 1 => [0]
  | 2 => [1]
  | 3 => [2]
  | 4 => [3]
  | 5 => [4]
  | 6 => [5]
  | 7 => [6, 3, 7]
  | 8 => [0, 8]
  | _ => []
def tSubs : Nat → Nat → Bool
  | 0, 0 => true
  | 1, 0 => true
  | 1, 1 => true
  | 2, 0 => true
  | 2, 2 => true
  | 3, 0 => true
  | 3, 3 => true
  | 4, 0 => true
  | 4, 4 => true
  | 5, 0 => true
  | 5, 5 => true
  | 6, 0 => true
  | 6, 6 => true
  | 7, 7 => true
  | 8, 8 => true
  | _, _ => false
def tInit : Nat → Option Nat
  | 7 => some 8
  | 8 => some 12
  | _ => none
def tMeth : Nat → Nat → Option Nat
  | 7, 9 => some 9
  | 7, 10 => some 10
  | 8, 14 => some 13
  | _, _ => none
def tProp : Nat → Nat → Option Nat
  | 7, 11 => some 11
  | _, _ => none
def tExc : Nat → Bool
  | 0 => true
  | 1 => true
  | 2 => true
  | 3 => true
  | 4 => true
  | 5 => true
  | 6 => true
  | _ => false
def tab : Tab := ⟨tFlds, tSubs, tInit, tMeth, tProp, tExc⟩
end K03
set_option Elab.async false
set_option linter.all false
set_option autoImplicit false
set_option maxRecDepth 100000
set_option maxHeartbeats 0
namespace K03
open PySem L2 Dn Sd PyProof.Rows
def top (i : Nat) : Stmt := PySem.Challenge.pw_papersorliars_k03_stands_and_liars.main.body.getD i (.Pass ⟨0, 0, 0, 0⟩)
variable {P : Program} {w : World} {K : PySem.W.Frag} {mg : Str → Option Value} {Cf : Nat → Addr} {base : Heap} {f : Addr} {fd : FuncData} {C : Calls} {fuel lev : Nat}
def nm : Nat → Str
  | 0 => "names"
  | 1 => "index"
  | 2 => "many"
  | 3 => "stand"
  | 4 => "name"
  | 5 => "at"
  | 6 => "book"
  | 7 => "asked"
  | 8 => "wishes"
  | 9 => "check_free"
  | 10 => "hold"
  | 11 => "broken"
  | 12 => "read"
  | 13 => "text"
  | 14 => "breaks"
  | 15 => "widest"
  | _ => ""
abbrev gl (K : PySem.W.Frag) (mg : Str → Option Value) (Cf : Nat → Addr) : Sd.Gl := ⟨K, mg, tab, Cf, nm⟩
theorem tM_9 : ∀ k f, tMeth k 9 = some f → k = 7 ∧ f = 9 := by
  intro k f h
  unfold tMeth at h
  split at h <;> simp_all
theorem tM_10 : ∀ k f, tMeth k 10 = some f → k = 7 ∧ f = 10 := by
  intro k f h
  unfold tMeth at h
  split at h <;> simp_all
theorem tP_11 : ∀ k f, tProp k 11 = some f → k = 7 ∧ f = 11 := by
  intro k f h
  unfold tProp at h
  split at h <;> simp_all
theorem tM_14 : ∀ k f, tMeth k 14 = some f → k = 8 ∧ f = 13 := by
  intro k f h
  unfold tMeth at h
  split at h <;> simp_all
def s_row_is_right : Stmt := top 10
abbrev N_row_is_right : List Str := ["names", "row", "last", "name", "value"]
theorem sc_row_is_right : FnScope N_row_is_right ["names", "row"] (defScope s_row_is_right) := ⟨rfl, rfl, rfl, by decide +kernel, rfl, by decide +kernel, by decide +kernel⟩
theorem ok_row_is_right (ok : GOk (gl K mg Cf)) (Fd : FunD K "row_is_right" "row_is_right" (defArgs s_row_is_right) (defBody s_row_is_right) (defScope s_row_is_right) [] [] f fd)  :
    FnOk P w K mg base (L2.CX P w) (lev + 2) f fd ["names", "row"] (spP (gl K mg Cf) (runP tab C fuel f_row_is_right) 2) :=
  def_pure (G := gl K mg Cf) (M := []) ok Fd sc_row_is_right rfl rfl rfl (by decide) (by decide) fun cdv A outer s H E F B =>
    (db_cons (st_set 2 sc_row_is_right.nd d_int)
    (db_cons (ds_for B.pss rfl (di_val B.fit (v 1)) (dg_tp rfl rfl (dgs_cons (g 3 sc_row_is_right.nd) (dgs_cons (g 4 sc_row_is_right.nd) dgs_nil)))
      (dss_cons (ds_ife (DW.dt (dw_or (dt_cmp .le B.fit (v 3) (v 2) (nomark _)) (dw_or (dt_cmp .gt B.fit (v 3) (v 0) (nomark _)) (dw_or1 (dt_cmp .notin B.fit (v 4) (d_tup (da_cons d_int (da_cons d_int da_nil))) (by with_unfolding_all rfl))))))
      (dss_cons (ds_ret d_bl) dss_nil)
      dss_nil) (dss_cons (st_set 2 sc_row_is_right.nd (v 3)) dss_nil)))
    (db_cons (ds_ret d_bl)
    db_nil)))

def s_check_stand : Stmt := top 11
abbrev N_check_stand : List Str := ["names", "stand"]
theorem sc_check_stand : FnScope N_check_stand ["names", "stand"] (defScope s_check_stand) := ⟨rfl, rfl, rfl, by decide +kernel, rfl, by decide +kernel, by decide +kernel⟩
theorem ok_check_stand (ok : GOk (gl K mg Cf)) (Fd : FunD K "check_stand" "check_stand" (defArgs s_check_stand) (defBody s_check_stand) (defScope s_check_stand) [] [] f fd) (c_0 : CalF P w (gl K mg Cf) base lev "row_is_right" (spP (gl K mg Cf) (C.pure 0) 2)) (x_4 : ExF P w (gl K mg Cf) base lev "BadStand" (Cf 4) "stand") :
    FnOk P w K mg base (L2.CX P w) (lev + 2) f fd ["names", "stand"] (spP (gl K mg Cf) (runP tab C fuel f_check_stand) 2) :=
  def_pure (G := gl K mg Cf) (M := []) ok Fd sc_check_stand rfl rfl rfl (by decide) (by decide) fun cdv A outer s H E F B =>
    (db_cons (ds_ife (dt_not (dt_val B.fit (d_call B.fit (c_0.o B.room) rfl (da_cons (v 0) (da_cons (v 1) da_nil))) fun _ => rfl))
      (dss_cons (ds_rse 3 B.fit rfl (x_4.o B.room) rfl (da_cons (v 1) da_nil)) dss_nil)
      dss_nil)
    db_nil)

def s_denied : Stmt := top 12
abbrev N_denied : List Str := ["row", "name", "value"]
theorem sc_denied : FnScope N_denied ["row"] (defScope s_denied) := ⟨rfl, rfl, rfl, by decide +kernel, rfl, by decide +kernel, by decide +kernel⟩
theorem ok_denied (ok : GOk (gl K mg Cf)) (Fd : FunD K "denied" "denied" (defArgs s_denied) (defBody s_denied) (defScope s_denied) [] [] f fd) (b_tuple : mg "tuple" = none) :
    FnOk P w K mg base (L2.CX P w) (lev + 2) f fd ["row"] (spP (gl K mg Cf) (runP tab C fuel f_denied) 1) :=
  def_pure (G := gl K mg Cf) (M := []) ok Fd sc_denied rfl rfl rfl (by decide) (by decide) fun cdv A outer s H E F B =>
    (db_cons (ds_ret (d_tupB B.fit rfl b_tuple (da_cons (lc [("name", 1), ("value", 2)] rfl sc_denied.nd (di_val B.fit (v 0)) (fun s1 H1 C1 cl fp => (dg_tp rfl rfl (dgs_cons (g 1 sc_denied.nd) (dgs_cons (g 2 sc_denied.nd) dgs_nil)))) (fun s1 H1 C1 cl fp => dts_nil) (fun s1 H1 C1 cl fp => (d_tup (da_cons (v 1) (da_cons (d_bin .sub B.fit.blk d_int (v 2)) da_nil))))) da_nil)))
    db_nil)

def s_within : Stmt := top 13
abbrev N_within : List Str := ["row", "other", "pair"]
theorem sc_within : FnScope N_within ["row", "other"] (defScope s_within) := ⟨rfl, rfl, rfl, by decide +kernel, rfl, by decide +kernel, by decide +kernel⟩
theorem ok_within (ok : GOk (gl K mg Cf)) (Fd : FunD K "within" "within" (defArgs s_within) (defBody s_within) (defScope s_within) [] [] f fd) (b_all : mg "all" = none) :
    FnOk P w K mg base (L2.CX P w) (lev + 2) f fd ["row", "other"] (spP (gl K mg Cf) (runP tab C fuel f_within) 2) :=
  def_pure (G := gl K mg Cf) (M := []) ok Fd sc_within rfl rfl rfl (by decide) (by decide) fun cdv A outer s H E F B =>
    (db_cons (ds_ret (d_allB B.fit rfl rfl b_all (da_cons (lc [("pair", 2)] rfl sc_within.nd (di_val B.fit (v 0)) (fun s1 H1 C1 cl fp => (g 2 sc_within.nd)) (fun s1 H1 C1 cl fp => dts_nil) (fun s1 H1 C1 cl fp => (d_cmp .in_ B.fit.blk (v 2) (v 1) (by with_unfolding_all rfl)))) da_nil)))
    db_nil)

def s_answer_in : Stmt := top 14
abbrev N_answer_in : List Str := ["stand", "name", "key", "value"]
theorem sc_answer_in : FnScope N_answer_in ["stand", "name"] (defScope s_answer_in) := ⟨rfl, rfl, rfl, by decide +kernel, rfl, by decide +kernel, by decide +kernel⟩
theorem ok_answer_in (ok : GOk (gl K mg Cf)) (Fd : FunD K "answer_in" "answer_in" (defArgs s_answer_in) (defBody s_answer_in) (defScope s_answer_in) [] [] f fd)  :
    FnOk P w K mg base (L2.CX P w) (lev + 2) f fd ["stand", "name"] (spP (gl K mg Cf) (runP tab C fuel f_answer_in) 2) :=
  def_pure (G := gl K mg Cf) (M := []) ok Fd sc_answer_in rfl rfl rfl (by decide) (by decide) fun cdv A outer s H E F B =>
    (db_cons (ds_for B.pss rfl (di_val B.fit (v 0)) (dg_tp rfl rfl (dgs_cons (g 2 sc_answer_in.nd) (dgs_cons (g 3 sc_answer_in.nd) dgs_nil)))
      (dss_cons (ds_ife (dt_cmp .eq B.fit (v 2) (v 1) (nomark _))
      (dss_cons (ds_ret (v 3)) dss_nil)
      dss_nil) dss_nil))
    (db_cons (ds_ret d_non)
    db_nil))

def s_with_answer : Stmt := top 15
abbrev N_with_answer : List Str := ["stand", "name", "answer", "before", "after", "pair"]
theorem sc_with_answer : FnScope N_with_answer ["stand", "name", "answer"] (defScope s_with_answer) := ⟨rfl, rfl, rfl, by decide +kernel, rfl, by decide +kernel, by decide +kernel⟩
theorem ok_with_answer (ok : GOk (gl K mg Cf)) (Fd : FunD K "with_answer" "with_answer" (defArgs s_with_answer) (defBody s_with_answer) (defScope s_with_answer) [] [] f fd) (b_len : mg "len" = none) (x_5 : ExF P w (gl K mg Cf) base lev "BadName" (Cf 5) "name") (b_tuple : mg "tuple" = none) :
    FnOk P w K mg base (L2.CX P w) (lev + 2) f fd ["stand", "name", "answer"] (spP (gl K mg Cf) (runP tab C fuel f_with_answer) 3) :=
  def_pure (G := gl K mg Cf) (M := []) ok Fd sc_with_answer rfl rfl rfl (by decide) (by decide) fun cdv A outer s H E F B =>
    (db_cons (st_setLc 3 [("pair", 5)] rfl sc_with_answer.nd (di_val B.fit (v 0)) (fun s1 H1 C1 cl fp => (g 5 sc_with_answer.nd)) (fun s1 H1 C1 cl fp => dts_one (dt_cmp .lt B.fit.blk (d_sub B.fit.blk (v 5) d_int fun _ _ => rfl) (v 1) (nomark _))) (fun s1 H1 C1 cl fp => (v 5)))
    (db_cons (st_setLc 4 [("pair", 5)] rfl sc_with_answer.nd (di_val B.fit (v 0)) (fun s1 H1 C1 cl fp => (g 5 sc_with_answer.nd)) (fun s1 H1 C1 cl fp => dts_one (dt_cmp .gt B.fit.blk (d_sub B.fit.blk (v 5) d_int fun _ _ => rfl) (v 1) (nomark _))) (fun s1 H1 C1 cl fp => (v 5)))
    (db_cons (ds_ife (dt_cmp .lt B.fit (d_bin .add B.fit (d_len B.fit rfl b_len (da_cons (v 3) da_nil)) (d_len B.fit rfl b_len (da_cons (v 4) da_nil))) (d_len B.fit rfl b_len (da_cons (v 0) da_nil)) (nomark _))
      (dss_cons (ds_rse 4 B.fit rfl (x_5.o B.room) rfl (da_cons (v 1) da_nil)) dss_nil)
      dss_nil)
    (db_cons (ds_ret (d_bin .add B.fit (d_bin .add B.fit (d_tupB B.fit rfl b_tuple (da_cons (v 3) da_nil)) (d_tup (da_cons (d_tup (da_cons (v 1) (da_cons (v 2) da_nil))) da_nil))) (d_tupB B.fit rfl b_tuple (da_cons (v 4) da_nil))))
    db_nil))))

def s_stands_of : Stmt := top 16
abbrev N_stands_of : List Str := ["names", "most", "waiting", "stand", "last", "name"]
theorem sc_stands_of : GScope N_stands_of ["names", "most"] (defScope s_stands_of) := ⟨rfl, rfl, rfl, by decide +kernel, rfl, by decide +kernel, by decide +kernel⟩
theorem ok_stands_of (ok : GOk (gl K mg Cf)) (Fd : FunD K "stands_of" "stands_of" (defArgs s_stands_of) (defBody s_stands_of) (defScope s_stands_of) [] [] f fd) (hx : mg "stands_of" = some (.ref f)) (hB : Binds K fd ["names", "most"] []) (b_len : mg "len" = none) (b_range : mg "range" = none) :
    Gn.GenF P w (gl K mg Cf) base (lev + 2) "stands_of" (runG tab C fuel f_stands_of) 2 :=
  Gn.gen_of (G := gl K mg Cf) (m := 2) (scope := defScope s_stands_of) (N := N_stands_of) ok Fd sc_stands_of hx hB rfl rfl rfl (by decide) (by decide) (fun _ => rfl) (by decide +kernel) fun X0 M0 P0 F0 H0 xo W0 C0 N0 L0 a0 cdv go pins HL FL hL all rs GB =>
    (Gn.gss_cons (Gn.gs_plain GB (fun _ _ => rfl) (fun sw H wl B => (st_setF 2 sc_stands_of.nd (d_lst (da_cons (d_tup da_nil) da_nil))))) (Gn.gss_cons (Gn.gs_whl GB (fun sw H wl B => (dt_val B.fit (vo 2) fun _ => rfl))
      (Gn.gss_cons (Gn.gs_plain GB (fun _ _ => rfl) (fun sw H wl B => (st_pop 3 2 sc_stands_of.nd))) (Gn.gss_cons (Gn.gs_yld GB (fun sw H wl B => (v 3)) rfl) (Gn.gss_cons (Gn.gs_plain GB (Gn.pg_ife (Gn.pgs_cons (fun _ _ => rfl) (Gn.pgs_cons (Gn.pg_for (Gn.pgs_cons (fun _ _ => rfl) (Gn.pgs_cons (fun _ _ => rfl) Gn.pgs_nil))) Gn.pgs_nil)) Gn.pgs_nil) (fun sw H wl B => (ds_ife (dt_cmp .lt B.fit (d_len B.fit rfl (Gn.blt B.fit b_len) (da_cons (v 3) da_nil)) (v 1) (nomark _))
      (dss_cons (st_set 4 sc_stands_of.nd (d_ife (dt_val B.fit (v 3) fun _ => rfl) (d_sub B.fit (d_sub B.fit (v 3) (d_neg d_int) fun _ _ => rfl) d_int fun _ _ => rfl) d_int)) (dss_cons (ds_for B.pss rfl (di_down rfl (Gn.blt B.fit b_range) (da_cons (v 0) (da_cons (v 4) (da_cons (d_neg d_int) da_nil)))) (g 5 sc_stands_of.nd)
      (dss_cons (st_app 2 (d_bin .add B.fit (v 3) (d_tup (da_cons (d_tup (da_cons (v 5) (da_cons d_int da_nil))) da_nil)))) (dss_cons (st_app 2 (d_bin .add B.fit (v 3) (d_tup (da_cons (d_tup (da_cons (v 5) (da_cons d_int da_nil))) da_nil)))) dss_nil))) dss_nil))
      dss_nil))) Gn.gss_nil)))) Gn.gss_nil))

def s_plain_row : Stmt := top 20
abbrev N_plain_row : List Str := ["row", "name", "value"]
theorem sc_plain_row : FnScope N_plain_row ["row"] (defScope s_plain_row) := ⟨rfl, rfl, rfl, by decide +kernel, rfl, by decide +kernel, by decide +kernel⟩
theorem ok_plain_row (ok : GOk (gl K mg Cf)) (Fd : FunD K "plain_row" "plain_row" (defArgs s_plain_row) (defBody s_plain_row) (defScope s_plain_row) [] [] f fd) (b_tuple : mg "tuple" = none) (b_sorted : mg "sorted" = none) :
    FnOk P w K mg base (L2.CX P w) (lev + 2) f fd ["row"] (spP (gl K mg Cf) (runP tab C fuel f_plain_row) 1) :=
  def_pure (G := gl K mg Cf) (M := []) ok Fd sc_plain_row rfl rfl rfl (by decide) (by decide) fun cdv A outer s H E F B =>
    (db_cons (ds_ret (d_tupB B.fit rfl b_tuple (da_cons (d_sorted B.fit rfl rfl b_sorted (da_cons (lc [("name", 1), ("value", 2)] rfl sc_plain_row.nd (di_val B.fit (v 0)) (fun s1 H1 C1 cl fp => (dg_tp rfl rfl (dgs_cons (g 1 sc_plain_row.nd) (dgs_cons (g 2 sc_plain_row.nd) dgs_nil)))) (fun s1 H1 C1 cl fp => dts_nil) (fun s1 H1 C1 cl fp => (d_tup (da_cons (v 1) (da_cons (v 2) da_nil))))) da_nil)) da_nil)))
    db_nil)

def s_Liar__init : Stmt := (clsBody (top 18)).getD 0 (.Pass ⟨0, 0, 0, 0⟩)
abbrev N_Liar__init : List Str := ["self", "book"]
theorem sc_Liar__init : FnScope N_Liar__init ["self", "book"] (defScope s_Liar__init) := ⟨rfl, rfl, rfl, by decide +kernel, rfl, by decide +kernel, by decide +kernel⟩
theorem ok_Liar__init (ok : GOk (gl K mg Cf)) (Fd : FunD K "__init__" "Liar.__init__" (defArgs s_Liar__init) (defBody s_Liar__init) (defScope s_Liar__init) [] [] f fd)  :
    FnOk P w K mg base (L2.CX P w) (lev + 2) f fd ["self", "book"] (spI (gl K mg Cf) (runI tab C fuel f_Liar__init) 2) :=
  def_io (G := gl K mg Cf) (M := [0]) ok Fd sc_Liar__init rfl rfl rfl (by decide) (by decide) (by decide) fun cdv A outer s H E a F B =>
    (db_cons (st_sat 0 6 B.fit (v 1))
    (db_cons (st_sat 0 3 B.fit (d_tup da_nil))
    (db_cons (st_sat 0 7 B.fit d_int)
    db_nil)))

def s_Liar_check_free : Stmt := (clsBody (top 18)).getD 1 (.Pass ⟨0, 0, 0, 0⟩)
abbrev N_Liar_check_free : List Str := ["self", "name"]
theorem sc_Liar_check_free : FnScope N_Liar_check_free ["self", "name"] (defScope s_Liar_check_free) := ⟨rfl, rfl, rfl, by decide +kernel, rfl, by decide +kernel, by decide +kernel⟩
theorem ok_Liar_check_free (ok : GOk (gl K mg Cf)) (Fd : FunD K "check_free" "Liar.check_free" (defArgs s_Liar_check_free) (defBody s_Liar_check_free) (defScope s_Liar_check_free) [] [] f fd) (c_4 : CalF P w (gl K mg Cf) base lev "answer_in" (spP (gl K mg Cf) (C.pure 4) 2)) (x_5 : ExF P w (gl K mg Cf) base lev "BadName" (Cf 5) "name") :
    FnOk P w K mg base (L2.CX P w) (lev + 2) f fd ["self", "name"] (spP (gl K mg Cf) (runP tab C fuel f_Liar_check_free) 2) :=
  def_pure (G := gl K mg Cf) (M := []) ok Fd sc_Liar_check_free rfl rfl rfl (by decide) (by decide) fun cdv A outer s H E F B =>
    (db_cons (ds_ife (DW.dt (dw_or (dt_cmp .lt B.fit (v 1) d_int (nomark _)) (dw_or (dt_cmp .gt B.fit (v 1) (d_att B.fit (d_att B.fit (v 0) rfl) rfl) (nomark _)) (dw_or1 (dt_cmp .isnot B.fit (d_call B.fit (c_4.o B.room) rfl (da_cons (d_att B.fit (v 0) rfl) (da_cons (v 1) da_nil))) d_non (nomark _))))))
      (dss_cons (ds_rse 4 B.fit rfl (x_5.o B.room) rfl (da_cons (v 1) da_nil)) dss_nil)
      dss_nil)
    db_nil)

def s_Liar_hold : Stmt := (clsBody (top 18)).getD 2 (.Pass ⟨0, 0, 0, 0⟩)
abbrev N_Liar_hold : List Str := ["self", "name", "answer"]
theorem sc_Liar_hold : FnScope N_Liar_hold ["self", "name", "answer"] (defScope s_Liar_hold) := ⟨rfl, rfl, rfl, by decide +kernel, rfl, by decide +kernel, by decide +kernel⟩
theorem ok_Liar_hold (ok : GOk (gl K mg Cf)) (Fd : FunD K "hold" "Liar.hold" (defArgs s_Liar_hold) (defBody s_Liar_hold) (defScope s_Liar_hold) [] [] f fd) (m_9 : MetF P w (gl K mg Cf) base lev (Cf 7) "check_free" (spP (gl K mg Cf) (C.pure 9) 2)) (c_5 : CalF P w (gl K mg Cf) base lev "with_answer" (spP (gl K mg Cf) (C.pure 5) 3)) :
    FnOk P w K mg base (L2.CX P w) (lev + 2) f fd ["self", "name", "answer"] (spI (gl K mg Cf) (runI tab C fuel f_Liar_hold) 3) :=
  def_io (G := gl K mg Cf) (M := [0]) ok Fd sc_Liar_hold rfl rfl rfl (by decide) (by decide) (by decide) fun cdv A outer s H E a F B =>
    (db_cons (ds_exp (d_mthL B.fit (Mths.one tM_9 (m_9.o B.room)) (vo 0) (da_cons (v 1) da_nil)))
    (db_cons (st_sat 0 3 B.fit (d_call B.fit (c_5.o B.room) rfl (da_cons (d_att B.fit (vo 0) rfl) (da_cons (v 1) (da_cons (v 2) da_nil)))))
    (db_cons (st_aat 0 7 B.fit d_int)
    (db_cons (ds_ret (v 2))
    db_nil))))

def s_Liar_broken : Stmt := (clsBody (top 18)).getD 3 (.Pass ⟨0, 0, 0, 0⟩)
abbrev N_Liar_broken : List Str := ["self"]
theorem sc_Liar_broken : FnScope N_Liar_broken ["self"] (defScope s_Liar_broken) := ⟨rfl, rfl, rfl, by decide +kernel, rfl, by decide +kernel, by decide +kernel⟩
theorem ok_Liar_broken (ok : GOk (gl K mg Cf)) (Fd : FunD K "broken" "Liar.broken" (defArgs s_Liar_broken) (defBody s_Liar_broken) (defScope s_Liar_broken) [] [] f fd) (m_13 : MetF P w (gl K mg Cf) base lev (Cf 8) "breaks" (spP (gl K mg Cf) (C.pure 13) 2)) :
    FnOk P w K mg base (L2.CX P w) (lev + 2) f fd ["self"] (spP (gl K mg Cf) (runP tab C fuel f_Liar_broken) 1) :=
  def_pure (G := gl K mg Cf) (M := []) ok Fd sc_Liar_broken rfl rfl rfl (by decide) (by decide) fun cdv A outer s H E F B =>
    (db_cons (ds_ret (d_mth B.fit (Mths.one tM_14 (m_13.o B.room)) (d_att B.fit (v 0) rfl) (da_cons (d_att B.fit (v 0) rfl) da_nil)))
    db_nil)

def s_Book__init : Stmt := (clsBody (top 25)).getD 2 (.Pass ⟨0, 0, 0, 0⟩)
abbrev N_Book__init : List Str := ["self", "names", "wishes", "rows", "at", "wish", "row"]
theorem sc_Book__init : FnScope N_Book__init ["self", "names", "wishes"] (defScope s_Book__init) := ⟨rfl, rfl, rfl, by decide +kernel, rfl, by decide +kernel, by decide +kernel⟩
theorem ok_Book__init (ok : GOk (gl K mg Cf)) (Fd : FunD K "__init__" "Book.__init__" (defArgs s_Book__init) (defBody s_Book__init) (defScope s_Book__init) [] [] f fd) (g_Book : mg "Book" = some (.ref (Cf 8))) (k_Book_MOST_NAMES : ConF K (Cf 8) "MOST_NAMES" 40) (x_1 : ExF P w (gl K mg Cf) base lev "BadNames" (Cf 1) "names") (b_enumerate : mg "enumerate" = none) (c_0 : CalF P w (gl K mg Cf) base lev "row_is_right" (spP (gl K mg Cf) (C.pure 0) 2)) (x_2 : ExF P w (gl K mg Cf) base lev "BadWish" (Cf 2) "index") (c_7 : CalF P w (gl K mg Cf) base lev "plain_row" (spP (gl K mg Cf) (C.pure 7) 1)) (b_sorted : mg "sorted" = none) (b_set : mg "set" = none) (b_len : mg "len" = none) (k_Book_MOST_WISHES : ConF K (Cf 8) "MOST_WISHES" 128) (x_3 : ExF P w (gl K mg Cf) base lev "TooMany" (Cf 3) "many") (b_tuple : mg "tuple" = none) :
    FnOk P w K mg base (L2.CX P w) (lev + 2) f fd ["self", "names", "wishes"] (spI (gl K mg Cf) (runI tab C fuel f_Book__init) 3) :=
  def_io (G := gl K mg Cf) (M := [0, 3]) ok Fd sc_Book__init rfl rfl rfl (by decide) (by decide) (by decide) fun cdv A outer s H E a F B =>
    (db_cons (ds_ife (DW.dt (dw_or (dt_cmp .lt B.fit (v 1) d_int (nomark _)) (dw_or1 (dt_cmp .gt B.fit (v 1) (d_conF rfl k_Book_MOST_NAMES g_Book) (nomark _)))))
      (dss_cons (ds_rse 0 B.fit rfl (x_1.o B.room) rfl (da_cons (v 1) da_nil)) dss_nil)
      dss_nil)
    (db_cons (st_setF 3 sc_Book__init.nd (d_lst da_nil))
    (db_cons (ds_for B.pss rfl (di_enum B.fit rfl b_enumerate (da_cons (v 2) da_nil)) (dg_tp rfl rfl (dgs_cons (g 4 sc_Book__init.nd) (dgs_cons (g 5 sc_Book__init.nd) dgs_nil)))
      (dss_cons (st_set 6 sc_Book__init.nd (d_call B.fit (c_7.o B.room) rfl (da_cons (v 5) da_nil))) (dss_cons (ds_ife (dt_not (dt_val B.fit (d_call B.fit (c_0.o B.room) rfl (da_cons (v 1) (da_cons (v 6) da_nil))) fun _ => rfl))
      (dss_cons (ds_rse 1 B.fit rfl (x_2.o B.room) rfl (da_cons (v 4) da_nil)) dss_nil)
      dss_nil) (dss_cons (st_app 3 (v 6)) dss_nil))))
    (db_cons (st_setF 3 sc_Book__init.nd (d_sset B.fit rfl rfl b_sorted rfl b_set (da_cons (vo 3) da_nil)))
    (db_cons (ds_ife (dt_cmp .gt B.fit (d_len B.fit rfl b_len (da_cons (vo 3) da_nil)) (d_conF rfl k_Book_MOST_WISHES g_Book) (nomark _))
      (dss_cons (ds_rse 2 B.fit rfl (x_3.o B.room) rfl (da_cons (d_len B.fit rfl b_len (da_cons (vo 3) da_nil)) da_nil)) dss_nil)
      dss_nil)
    (db_cons (st_sat 0 0 B.fit (v 1))
    (db_cons (st_sat 0 8 B.fit (d_tupB B.fit rfl b_tuple (da_cons (vo 3) da_nil)))
    db_nil)))))))

def s_Book_breaks : Stmt := (clsBody (top 25)).getD 5 (.Pass ⟨0, 0, 0, 0⟩)
abbrev N_Book_breaks : List Str := ["self", "stand", "at", "wish"]
theorem sc_Book_breaks : FnScope N_Book_breaks ["self", "stand"] (defScope s_Book_breaks) := ⟨rfl, rfl, rfl, by decide +kernel, rfl, by decide +kernel, by decide +kernel⟩
theorem ok_Book_breaks (ok : GOk (gl K mg Cf)) (Fd : FunD K "breaks" "Book.breaks" (defArgs s_Book_breaks) (defBody s_Book_breaks) (defScope s_Book_breaks) [] [] f fd) (c_1 : CalF P w (gl K mg Cf) base lev "check_stand" (spP (gl K mg Cf) (C.pure 1) 2)) (b_tuple : mg "tuple" = none) (b_enumerate : mg "enumerate" = none) (c_3 : CalF P w (gl K mg Cf) base lev "within" (spP (gl K mg Cf) (C.pure 3) 2)) (c_2 : CalF P w (gl K mg Cf) base lev "denied" (spP (gl K mg Cf) (C.pure 2) 1)) :
    FnOk P w K mg base (L2.CX P w) (lev + 2) f fd ["self", "stand"] (spP (gl K mg Cf) (runP tab C fuel f_Book_breaks) 2) :=
  def_pure (G := gl K mg Cf) (M := []) ok Fd sc_Book_breaks rfl rfl rfl (by decide) (by decide) fun cdv A outer s H E F B =>
    (db_cons (ds_exp (d_call B.fit (c_1.o B.room) rfl (da_cons (d_att B.fit (v 0) rfl) (da_cons (v 1) da_nil))))
    (db_cons (ds_ret (d_tupB B.fit rfl b_tuple (da_cons (lc [("at", 2), ("wish", 3)] rfl sc_Book_breaks.nd (di_enum B.fit rfl b_enumerate (da_cons (d_att B.fit (v 0) rfl) da_nil)) (fun s1 H1 C1 cl fp => (dg_tp rfl rfl (dgs_cons (g 2 sc_Book_breaks.nd) (dgs_cons (g 3 sc_Book_breaks.nd) dgs_nil)))) (fun s1 H1 C1 cl fp => dts_one (dt_val B.fit.blk (d_call B.fit.blk (c_3.o B.room).blk rfl (da_cons (d_call B.fit.blk (c_2.o B.room).blk rfl (da_cons (v 3) da_nil)) (da_cons (v 1) da_nil))) fun _ => rfl)) (fun s1 H1 C1 cl fp => (v 2))) da_nil)))
    db_nil))

def s_Book__eq : Stmt := (clsBody (top 25)).getD 9 (.Pass ⟨0, 0, 0, 0⟩)
abbrev N_Book__eq : List Str := ["self", "other"]
theorem sc_Book__eq : FnScope N_Book__eq ["self", "other"] (defScope s_Book__eq) := ⟨rfl, rfl, rfl, by decide +kernel, rfl, by decide +kernel, by decide +kernel⟩
theorem ok_Book__eq (ok : GOk (gl K mg Cf)) (Fd : FunD K "__eq__" "Book.__eq__" (defArgs s_Book__eq) (defBody s_Book__eq) (defScope s_Book__eq) [] [] f fd) (g_Book : mg "Book" = some (.ref (Cf 8))) (io : IsOk (gl K mg Cf)) (b_isinstance : mg "isinstance" = none) :
    FnOk P w K mg base (L2.CX P w) (lev + 2) f fd ["self", "other"] (spP (gl K mg Cf) (runP tab C fuel f_Book__eq) 2) :=
  def_pure (G := gl K mg Cf) (M := []) ok Fd sc_Book__eq rfl rfl rfl (by decide) (by decide) fun cdv A outer s H E F B =>
    (db_cons (ds_ret (d_and B.fit (d_isi (.cls 8) B.fit io rfl b_isinstance (v 1) (pe_glob rfl g_Book rfl)) (d_and B.fit (d_cmp .eq B.fit (d_att B.fit (v 0) rfl) (d_att B.fit (v 1) rfl) (nomark _)) (d_one (d_cmp .eq B.fit (d_att B.fit (v 0) rfl) (d_att B.fit (v 1) rfl) (nomark _))))))
    db_nil)

def s_law_cell : Stmt := top 27
abbrev N_law_cell : List Str := ["script", "k"]
theorem sc_law_cell : FnScope N_law_cell ["script", "k"] (defScope s_law_cell) := ⟨rfl, rfl, rfl, by decide +kernel, rfl, by decide +kernel, by decide +kernel⟩
theorem ok_law_cell (ok : GOk (gl K mg Cf)) (Fd : FunD K "_law_cell" "_law_cell" (defArgs s_law_cell) (defBody s_law_cell) (defScope s_law_cell) [] [] f fd) (b_len : mg "len" = none) :
    FnOk P w K mg base (L2.CX P w) (lev + 2) f fd ["script", "k"] (spP (gl K mg Cf) (runP tab C fuel f_law_cell) 2) :=
  def_pure (G := gl K mg Cf) (M := []) ok Fd sc_law_cell rfl rfl rfl (by decide) (by decide) fun cdv A outer s H E F B =>
    (db_cons (ds_ife (dt_cmp .lt B.fit (v 1) (d_len B.fit rfl b_len (da_cons (v 0) da_nil)) (nomark _))
      (dss_cons (ds_ret (d_sub B.fit (v 0) (v 1) fun _ _ => rfl)) dss_nil)
      dss_nil)
    (db_cons (ds_ret d_int)
    db_nil))

def s_law_draws : Stmt := top 28
abbrev N_law_draws : List Str := ["cell", "many", "draws", "rest", "k", "state", "other"]
theorem sc_law_draws : FnScope N_law_draws ["cell", "many"] (defScope s_law_draws) := ⟨rfl, rfl, rfl, by decide +kernel, rfl, by decide +kernel, by decide +kernel⟩
theorem ok_law_draws (ok : GOk (gl K mg Cf)) (Fd : FunD K "_law_draws" "_law_draws" (defArgs s_law_draws) (defBody s_law_draws) (defScope s_law_draws) [] [] f fd) (b_abs : mg "abs" = none) (b_range : mg "range" = none) (b_int : mg "int" = none) :
    FnOk P w K mg base (L2.CX P w) (lev + 2) f fd ["cell", "many"] (spP (gl K mg Cf) (runP tab C fuel f_law_draws) 2) :=
  def_pure (G := gl K mg Cf) (M := [2]) ok Fd sc_law_draws rfl rfl rfl (by decide) (by decide) fun cdv A outer s H E F B =>
    (db_cons (st_setF 2 sc_law_draws.nd (d_lst da_nil))
    (db_cons (st_set 3 sc_law_draws.nd (d_abs rfl b_abs (da_cons (v 0) da_nil)))
    (db_cons (ds_ife (dt_cmp .ge B.fit (v 3) (d_bin .pow B.fit d_int d_int) (nomark _))
      (dss_cons (ds_for B.pss rfl (di_range1 rfl b_range (da_cons (v 1) da_nil)) (g 4 sc_law_draws.nd)
      (dss_cons (st_app 2 (d_bin .mod B.fit (v 3) d_int)) (dss_cons (st_set 3 sc_law_draws.nd (d_bin .fdiv B.fit (v 3) d_int)) dss_nil))) (dss_cons (st_retO 2) dss_nil))
      dss_nil)
    (db_cons (st_set 5 sc_law_draws.nd (d_bin .add B.fit (v 3) d_int))
    (db_cons (ds_for B.pss rfl (di_range1 rfl b_range (da_cons (v 1) da_nil)) (g 4 sc_law_draws.nd)
      (dss_cons (st_set 5 sc_law_draws.nd (d_bin .mod B.fit (d_intB rfl b_int (da_cons (d_bin .add B.fit (d_bin .add B.fit (d_bin .mul B.fit (v 5) d_int) (d_bin .mul B.fit d_int (v 4))) d_int) da_nil)) d_int)) (dss_cons (st_set 6 sc_law_draws.nd (d_bin .mod B.fit (d_intB rfl b_int (da_cons (d_bin .add B.fit (d_bin .mul B.fit (v 5) d_int) (v 4)) da_nil)) d_int)) (dss_cons (st_app 2 (d_bin .mod B.fit (d_bin .fdiv B.fit (v 6) d_int) d_int)) dss_nil))))
    (db_cons (st_retO 2)
    db_nil))))))

def s_law_wish : Stmt := top 29
abbrev N_law_wish : List Str := ["cell", "names", "draws", "k"]
theorem sc_law_wish : FnScope N_law_wish ["cell", "names"] (defScope s_law_wish) := ⟨rfl, rfl, rfl, by decide +kernel, rfl, by decide +kernel, by decide +kernel⟩
theorem ok_law_wish (ok : GOk (gl K mg Cf)) (Fd : FunD K "_law_wish" "_law_wish" (defArgs s_law_wish) (defBody s_law_wish) (defScope s_law_wish) [] [] f fd) (c_16 : CalF P w (gl K mg Cf) base lev "_law_draws" (spP (gl K mg Cf) (C.pure 16) 2)) (b_tuple : mg "tuple" = none) (b_range : mg "range" = none) :
    FnOk P w K mg base (L2.CX P w) (lev + 2) f fd ["cell", "names"] (spP (gl K mg Cf) (runP tab C fuel f_law_wish) 2) :=
  def_pure (G := gl K mg Cf) (M := []) ok Fd sc_law_wish rfl rfl rfl (by decide) (by decide) fun cdv A outer s H E F B =>
    (db_cons (st_set 2 sc_law_wish.nd (d_call B.fit (c_16.o B.room) rfl (da_cons (v 0) (da_cons (v 1) da_nil))))
    (db_cons (ds_ret (d_tupB B.fit rfl b_tuple (da_cons (lc [("k", 3)] rfl sc_law_wish.nd (di_range1 rfl b_range (da_cons (v 1) da_nil)) (fun s1 H1 C1 cl fp => (g 3 sc_law_wish.nd)) (fun s1 H1 C1 cl fp => dts_one (dt_cmp .gt B.fit.blk (d_bin .mod B.fit.blk (d_sub B.fit.blk (v 2) (v 3) fun _ _ => rfl) d_int) d_int (nomark _))) (fun s1 H1 C1 cl fp => (d_tup (da_cons (d_bin .add B.fit.blk (v 3) d_int) (da_cons (d_bin .sub B.fit.blk (d_bin .mod B.fit.blk (d_sub B.fit.blk (v 2) (v 3) fun _ _ => rfl) d_int) d_int) da_nil))))) da_nil)))
    db_nil))

def s_law_is_number : Stmt := top 30
abbrev N_law_is_number : List Str := ["actual", "expected"]
theorem sc_law_is_number : FnScope N_law_is_number ["actual", "expected"] (defScope s_law_is_number) := ⟨rfl, rfl, rfl, by decide +kernel, rfl, by decide +kernel, by decide +kernel⟩
theorem ok_law_is_number (ok : GOk (gl K mg Cf)) (Fd : FunD K "_law_is_number" "_law_is_number" (defArgs s_law_is_number) (defBody s_law_is_number) (defScope s_law_is_number) [] [] f fd) (b_bool : mg "bool" = none) (io : IsOk (gl K mg Cf)) (b_isinstance : mg "isinstance" = none) (b_int : mg "int" = none) :
    FnOk P w K mg base (L2.CX P w) (lev + 2) f fd ["actual", "expected"] (spP (gl K mg Cf) (runP tab C fuel f_law_is_number) 2) :=
  def_pure (G := gl K mg Cf) (M := []) ok Fd sc_law_is_number rfl rfl rfl (by decide) (by decide) fun cdv A outer s H E F B =>
    (db_cons (ds_ret (d_and B.fit (d_isi .int B.fit io rfl b_isinstance (v 0) (pe_bltn rfl b_int rfl rfl)) (d_and B.fit (d_not B.fit (d_isi .bool B.fit io rfl b_isinstance (v 0) (pe_bltn rfl b_bool rfl rfl))) (d_one (d_cmp .eq B.fit (v 0) (v 1) (nomark _))))))
    db_nil)

def s_law_is_row : Stmt := top 31
abbrev N_law_is_row : List Str := ["actual", "due", "k"]
theorem sc_law_is_row : FnScope N_law_is_row ["actual", "due"] (defScope s_law_is_row) := ⟨rfl, rfl, rfl, by decide +kernel, rfl, by decide +kernel, by decide +kernel⟩
theorem ok_law_is_row (ok : GOk (gl K mg Cf)) (Fd : FunD K "_law_is_row" "_law_is_row" (defArgs s_law_is_row) (defBody s_law_is_row) (defScope s_law_is_row) [] [] f fd) (b_len : mg "len" = none) (b_tuple : mg "tuple" = none) (io : IsOk (gl K mg Cf)) (b_isinstance : mg "isinstance" = none) (b_range : mg "range" = none) (c_18 : CalF P w (gl K mg Cf) base lev "_law_is_number" (spP (gl K mg Cf) (C.pure 18) 2)) :
    FnOk P w K mg base (L2.CX P w) (lev + 2) f fd ["actual", "due"] (spP (gl K mg Cf) (runP tab C fuel f_law_is_row) 2) :=
  def_pure (G := gl K mg Cf) (M := []) ok Fd sc_law_is_row rfl rfl rfl (by decide) (by decide) fun cdv A outer s H E F B =>
    (db_cons (ds_ife (DW.dt (dw_or (dt_not (dt_val B.fit (d_isi .tuple B.fit io rfl b_isinstance (v 0) (pe_bltn rfl b_tuple rfl rfl)) fun _ => rfl)) (dw_or1 (dt_cmp .ne B.fit (d_len B.fit rfl b_len (da_cons (v 0) da_nil)) (d_len B.fit rfl b_len (da_cons (v 1) da_nil)) (nomark _)))))
      (dss_cons (ds_ret d_bl) dss_nil)
      dss_nil)
    (db_cons (ds_for B.pss rfl (di_range1 rfl b_range (da_cons (d_len B.fit rfl b_len (da_cons (v 1) da_nil)) da_nil)) (g 2 sc_law_is_row.nd)
      (dss_cons (ds_ife (DW.dt (dw_or (dt_not (dt_val B.fit (d_isi .tuple B.fit io rfl b_isinstance (d_sub B.fit (v 0) (v 2) fun _ _ => rfl) (pe_bltn rfl b_tuple rfl rfl)) fun _ => rfl)) (dw_or1 (dt_cmp .ne B.fit (d_len B.fit rfl b_len (da_cons (d_sub B.fit (v 0) (v 2) fun _ _ => rfl) da_nil)) d_int (nomark _)))))
      (dss_cons (ds_ret d_bl) dss_nil)
      dss_nil) (dss_cons (ds_ife (DW.dt (dw_or (dt_not (dt_val B.fit (d_call B.fit (c_18.o B.room) rfl (da_cons (d_sub B.fit (d_sub B.fit (v 0) (v 2) fun _ _ => rfl) d_int fun _ _ => rfl) (da_cons (d_sub B.fit (d_sub B.fit (v 1) (v 2) fun _ _ => rfl) d_int fun _ _ => rfl) da_nil))) fun _ => rfl)) (dw_or1 (dt_not (dt_val B.fit (d_call B.fit (c_18.o B.room) rfl (da_cons (d_sub B.fit (d_sub B.fit (v 0) (v 2) fun _ _ => rfl) d_int fun _ _ => rfl) (da_cons (d_sub B.fit (d_sub B.fit (v 1) (v 2) fun _ _ => rfl) d_int fun _ _ => rfl) da_nil))) fun _ => rfl)))))
      (dss_cons (ds_ret d_bl) dss_nil)
      dss_nil) dss_nil)))
    (db_cons (ds_ret d_bl)
    db_nil)))

def s_law_many : Stmt := top 32
abbrev N_law_many : List Str := ["names", "most", "total", "part", "k"]
theorem sc_law_many : FnScope N_law_many ["names", "most"] (defScope s_law_many) := ⟨rfl, rfl, rfl, by decide +kernel, rfl, by decide +kernel, by decide +kernel⟩
theorem ok_law_many (ok : GOk (gl K mg Cf)) (Fd : FunD K "_law_many" "_law_many" (defArgs s_law_many) (defBody s_law_many) (defScope s_law_many) [] [] f fd) (b_range : mg "range" = none) (b_min : mg "min" = none) :
    FnOk P w K mg base (L2.CX P w) (lev + 2) f fd ["names", "most"] (spP (gl K mg Cf) (runP tab C fuel f_law_many) 2) :=
  def_pure (G := gl K mg Cf) (M := []) ok Fd sc_law_many rfl rfl rfl (by decide) (by decide) fun cdv A outer s H E F B =>
    (db_cons (st_set 2 sc_law_many.nd d_int)
    (db_cons (st_set 3 sc_law_many.nd d_int)
    (db_cons (ds_for B.pss rfl (di_range1 rfl b_range (da_cons (d_minB rfl rfl b_min (da_cons (v 0) (da_cons (v 1) da_nil))) da_nil)) (g 4 sc_law_many.nd)
      (dss_cons (st_set 3 sc_law_many.nd (d_bin .fdiv B.fit (d_bin .mul B.fit (d_bin .mul B.fit (v 3) d_int) (d_bin .sub B.fit (v 0) (v 4))) (d_bin .add B.fit (v 4) d_int))) (dss_cons (st_set 2 sc_law_many.nd (d_bin .add B.fit (v 2) (v 3))) dss_nil)))
    (db_cons (ds_ret (v 2))
    db_nil))))

def s_law_stands_hold : Stmt := top 33
abbrev N_law_stands_hold : List Str := ["names", "most", "last", "many", "stand", "before", "pair"]
theorem sc_law_stands_hold : FnScope N_law_stands_hold ["names", "most"] (defScope s_law_stands_hold) := ⟨rfl, rfl, rfl, by decide +kernel, rfl, by decide +kernel, by decide +kernel⟩
theorem ok_law_stands_hold (ok : GOk (gl K mg Cf)) (Fd : FunD K "_law_stands_hold" "_law_stands_hold" (defArgs s_law_stands_hold) (defBody s_law_stands_hold) (defScope s_law_stands_hold) [] [] f fd) (n_6 : Gn.GenF P w (gl K mg Cf) base lev "stands_of" (C.gen 6) 2) (c_18 : CalF P w (gl K mg Cf) base lev "_law_is_number" (spP (gl K mg Cf) (C.pure 18) 2)) (b_len : mg "len" = none) (b_tuple : mg "tuple" = none) (io : IsOk (gl K mg Cf)) (b_isinstance : mg "isinstance" = none) (c_1 : CalF P w (gl K mg Cf) base lev "check_stand" (spP (gl K mg Cf) (C.pure 1) 2)) (c_20 : CalF P w (gl K mg Cf) base lev "_law_many" (spP (gl K mg Cf) (C.pure 20) 2)) :
    FnOk P w K mg base (L2.CX P w) (lev + 2) f fd ["names", "most"] (spP (gl K mg Cf) (runP tab C fuel f_law_stands_hold) 2) :=
  def_pure (G := gl K mg Cf) (M := []) ok Fd sc_law_stands_hold rfl rfl rfl (by decide) (by decide) fun cdv A outer s H E F B =>
    (db_cons (st_set 2 sc_law_stands_hold.nd d_non)
    (db_cons (st_set 3 sc_law_stands_hold.nd d_int)
    (db_cons (Gn.st_forg B n_6 (da_cons (v 0) (da_cons (v 1) da_nil)) (g 4 sc_law_stands_hold.nd)
      (dss_cons (ds_ife (DW.dt (dw_or (dt_not (dt_val B.fit (d_isi .tuple B.fit io rfl b_isinstance (v 4) (pe_bltn rfl b_tuple rfl rfl)) fun _ => rfl)) (dw_or (dt_cmp .gt B.fit (d_len B.fit rfl b_len (da_cons (v 4) da_nil)) (v 1) (nomark _)) (dw_or1 (dt_cmp .gt B.fit (v 3) d_int (nomark _))))))
      (dss_cons (ds_ret d_bl) dss_nil)
      dss_nil) (dss_cons (ds_ife (dt_cmp .isnot B.fit (d_call B.fit (c_1.o B.room) rfl (da_cons (v 0) (da_cons (v 4) da_nil))) d_non (nomark _))
      (dss_cons (ds_ret d_bl) dss_nil)
      dss_nil) (dss_cons (st_set 5 sc_law_stands_hold.nd d_int) (dss_cons (ds_for B.pss rfl (di_val B.fit (v 4)) (g 6 sc_law_stands_hold.nd)
      (dss_cons (ds_ife (DW.dt (dw_or (dt_not (dt_val B.fit (d_isi .tuple B.fit io rfl b_isinstance (v 6) (pe_bltn rfl b_tuple rfl rfl)) fun _ => rfl)) (dw_or (dt_cmp .ne B.fit (d_len B.fit rfl b_len (da_cons (v 6) da_nil)) d_int (nomark _)) (dw_or1 (dt_not (dt_cmp2 .lt .le B.fit (v 5) (d_sub B.fit (v 6) d_int fun _ _ => rfl) (v 0) (by with_unfolding_all rfl)))))))
      (dss_cons (ds_ret d_bl) dss_nil)
      dss_nil) (dss_cons (ds_ife (DW.dt (dw_or (dt_not (dt_val B.fit (d_call B.fit (c_18.o B.room) rfl (da_cons (d_sub B.fit (v 6) d_int fun _ _ => rfl) (da_cons (d_sub B.fit (v 6) d_int fun _ _ => rfl) da_nil))) fun _ => rfl)) (dw_or (dt_not (dt_val B.fit (d_call B.fit (c_18.o B.room) rfl (da_cons (d_sub B.fit (v 6) d_int fun _ _ => rfl) (da_cons (d_sub B.fit (v 6) d_int fun _ _ => rfl) da_nil))) fun _ => rfl)) (dw_or1 (dt_cmp .notin B.fit (d_sub B.fit (v 6) d_int fun _ _ => rfl) (d_tup (da_cons d_int (da_cons d_int da_nil))) (by with_unfolding_all rfl))))))
      (dss_cons (ds_ret d_bl) dss_nil)
      dss_nil) (dss_cons (st_set 5 sc_law_stands_hold.nd (d_sub B.fit (v 6) d_int fun _ _ => rfl)) dss_nil)))) (dss_cons (ds_ife (DW.dt (dw_and (dt_cmp .isnot B.fit (v 2) d_non (nomark _)) (dw_and1 (dt_not (dt_cmp .lt B.fit (v 2) (v 4) (nomark _))))))
      (dss_cons (ds_ret d_bl) dss_nil)
      dss_nil) (dss_cons (st_set 2 sc_law_stands_hold.nd (v 4)) (dss_cons (st_set 3 sc_law_stands_hold.nd (d_bin .add B.fit (v 3) d_int)) dss_nil))))))))
    (db_cons (ds_ret (d_cmp .eq B.fit (v 3) (d_call B.fit (c_20.o B.room) rfl (da_cons (v 0) (da_cons (v 1) da_nil))) (nomark _)))
    db_nil))))

def s_law_bad_stands_refused : Stmt := top 34
abbrev N_law_bad_stands_refused : List Str := ["names", "draws", "bad", "stand", "e"]
theorem sc_law_bad_stands_refused : FnScope N_law_bad_stands_refused ["names", "draws"] (defScope s_law_bad_stands_refused) := ⟨rfl, rfl, rfl, by decide +kernel, rfl, by decide +kernel, by decide +kernel⟩
theorem ok_law_bad_stands_refused (ok : GOk (gl K mg Cf)) (Fd : FunD K "_law_bad_stands_refused" "_law_bad_stands_refused" (defArgs s_law_bad_stands_refused) (defBody s_law_bad_stands_refused) (defScope s_law_bad_stands_refused) [] [] f fd) (xk : XOk (gl K mg Cf)) (g_BookError : mg "BookError" = some (.ref (Cf 0))) (c_1 : CalF P w (gl K mg Cf) base lev "check_stand" (spP (gl K mg Cf) (C.pure 1) 2)) (g_BadName : mg "BadName" = some (.ref (Cf 5))) (b_isinstance : mg "isinstance" = none) (b_ValueError : mg "ValueError" = none) (g_BadStand : mg "BadStand" = some (.ref (Cf 4))) :
    FnOk P w K mg base (L2.CX P w) (lev + 2) f fd ["names", "draws"] (spP (gl K mg Cf) (runP tab C fuel f_law_bad_stands_refused) 2) :=
  def_pure (G := gl K mg Cf) (M := []) ok Fd sc_law_bad_stands_refused rfl rfl rfl (by decide) (by decide) fun cdv A outer s H E F B =>
    (db_cons (st_set 2 sc_law_bad_stands_refused.nd (d_lst (da_cons (d_tup (da_cons (d_tup (da_cons d_int (da_cons d_int da_nil))) da_nil)) (da_cons (d_tup (da_cons (d_tup (da_cons (d_bin .add B.fit (v 0) d_int) (da_cons d_int da_nil))) da_nil)) (da_cons (d_tup (da_cons (d_tup (da_cons d_int (da_cons d_int da_nil))) (da_cons (d_tup (da_cons d_int (da_cons d_int da_nil))) da_nil))) (da_cons (d_tup (da_cons (d_tup (da_cons d_int (da_cons d_int da_nil))) (da_cons (d_tup (da_cons d_int (da_cons d_int da_nil))) da_nil))) (da_cons (d_tup (da_cons (d_tup (da_cons d_int (da_cons d_int da_nil))) (da_cons (d_tup (da_cons d_int (da_cons d_int da_nil))) da_nil))) (da_cons (d_tup (da_cons (d_tup (da_cons d_int (da_cons d_int da_nil))) da_nil)) (da_cons (d_tup (da_cons (d_tup (da_cons d_int (da_cons (d_bin .sub B.fit d_int d_int) da_nil))) da_nil)) da_nil)))))))))
    (db_cons (st_set 3 sc_law_bad_stands_refused.nd (d_sub B.fit (v 2) (d_bin .mod B.fit (d_sub B.fit (v 1) d_int fun _ _ => rfl) d_int) fun _ _ => rfl))
    (db_cons (ds_try rfl B.fit xk rfl rfl sc_law_bad_stands_refused.nd rfl rfl ⟨rfl, by decide, .inl g_BookError⟩ rfl
      (fun W pn xe Ft Ps => (dss_cons (ds_exp (d_call Ft (c_1.o B.room).tr rfl (da_cons (v 0) (da_cons (v 3) da_nil)))) dss_nil))
      (fun k1 a1 oe1 dx1 pn1 hk hz hv Fs => (dss_cons (ds_ret (d_and Fs (d_xisi (.cls 4) B.fit xk hk hz hv rfl (by first | exact .inl rfl | exact .inr (.inl rfl) | exact .inr (.inr rfl)) rfl b_isinstance (pe_glob rfl g_BadStand rfl)) (d_and Fs (d_xisi .ve B.fit xk hk hz hv rfl (by first | exact .inl rfl | exact .inr (.inl rfl) | exact .inr (.inr rfl)) rfl b_isinstance (pe_bltn rfl b_ValueError rfl rfl)) (d_and Fs (d_not Fs (d_xisi (.cls 5) B.fit xk hk hz hv rfl (by first | exact .inl rfl | exact .inr (.inl rfl) | exact .inr (.inr rfl)) rfl b_isinstance (pe_glob rfl g_BadName rfl))) (d_one (d_cmp .eq Fs (d_xatt B.fit xk hk hz hv rfl rfl (by first | exact .inl rfl | exact .inr (.inl rfl) | exact .inr (.inr rfl))) (v 3) (nomark _))))))) dss_nil)))
    (db_cons (ds_ret d_bl)
    db_nil))))

def s_law_liar_is : Stmt := top 35
abbrev N_law_liar_is : List Str := ["liar", "wishes", "held", "asked", "due", "broken", "k", "word", "index"]
theorem sc_law_liar_is : FnScope N_law_liar_is ["liar", "wishes", "held", "asked"] (defScope s_law_liar_is) := ⟨rfl, rfl, rfl, by decide +kernel, rfl, by decide +kernel, by decide +kernel⟩
theorem ok_law_liar_is (ok : GOk (gl K mg Cf)) (Fd : FunD K "_law_liar_is" "_law_liar_is" (defArgs s_law_liar_is) (defBody s_law_liar_is) (defScope s_law_liar_is) [] [] f fd) (b_sorted : mg "sorted" = none) (b_range : mg "range" = none) (b_len : mg "len" = none) (c_18 : CalF P w (gl K mg Cf) base lev "_law_is_number" (spP (gl K mg Cf) (C.pure 18) 2)) (c_19 : CalF P w (gl K mg Cf) base lev "_law_is_row" (spP (gl K mg Cf) (C.pure 19) 2)) (r_11 : PrpF P w (gl K mg Cf) base lev (Cf 7) "broken" (spP (gl K mg Cf) (C.pure 11) 1)) (b_tuple : mg "tuple" = none) (io : IsOk (gl K mg Cf)) (b_isinstance : mg "isinstance" = none) :
    FnOk P w K mg base (L2.CX P w) (lev + 2) f fd ["liar", "wishes", "held", "asked"] (spP (gl K mg Cf) (runP tab C fuel f_law_liar_is) 4) :=
  def_pure (G := gl K mg Cf) (M := [5]) ok Fd sc_law_liar_is rfl rfl rfl (by decide) (by decide) fun cdv A outer s H E F B =>
    (db_cons (st_set 4 sc_law_liar_is.nd (d_sorted B.fit rfl rfl b_sorted (da_cons (v 2) da_nil)))
    (db_cons (st_setF 5 sc_law_liar_is.nd (d_lst da_nil))
    (db_cons (ds_for B.pss rfl (di_range1 rfl b_range (da_cons (d_len B.fit rfl b_len (da_cons (v 1) da_nil)) da_nil)) (g 6 sc_law_liar_is.nd)
      (dss_cons (ds_ife (dt_cmp .eq B.fit (d_len B.fit rfl b_len (da_cons (lc [("word", 7)] rfl sc_law_liar_is.nd (di_val B.fit (d_sub B.fit (v 1) (v 6) fun _ _ => rfl)) (fun s1 H1 C1 cl fp => (g 7 sc_law_liar_is.nd)) (fun s1 H1 C1 cl fp => dts_one (dt_cmp .in_ B.fit.blk (d_tup (da_cons (d_sub B.fit.blk (v 7) d_int fun _ _ => rfl) (da_cons (d_bin .sub B.fit.blk d_int (d_sub B.fit.blk (v 7) d_int fun _ _ => rfl)) da_nil))) (v 4) (by with_unfolding_all rfl))) (fun s1 H1 C1 cl fp => (v 7))) da_nil)) (d_len B.fit rfl b_len (da_cons (d_sub B.fit (v 1) (v 6) fun _ _ => rfl) da_nil)) (nomark _))
      (dss_cons (st_app 5 (v 6)) dss_nil)
      dss_nil) dss_nil))
    (db_cons (ds_ife (DW.dt (dw_or (dt_not (dt_val B.fit (d_call B.fit (c_19.o B.room) rfl (da_cons (d_att B.fit (v 0) rfl) (da_cons (v 4) da_nil))) fun _ => rfl)) (dw_or1 (dt_not (dt_val B.fit (d_call B.fit (c_18.o B.room) rfl (da_cons (d_att B.fit (v 0) rfl) (da_cons (v 3) da_nil))) fun _ => rfl)))))
      (dss_cons (ds_ret d_bl) dss_nil)
      dss_nil)
    (db_cons (ds_for B.pss rfl (di_range1 rfl b_range (da_cons d_int da_nil)) (g 6 sc_law_liar_is.nd)
      (dss_cons (ds_ife (DW.dt (dw_or (dt_not (dt_val B.fit (d_isi .tuple B.fit io rfl b_isinstance (d_prp B.fit (Prps.one tP_11 (r_11.o B.room)) (v 0)) (pe_bltn rfl b_tuple rfl rfl)) fun _ => rfl)) (dw_or1 (dt_cmp .ne B.fit (lc [("index", 8)] rfl sc_law_liar_is.nd (di_val B.fit (d_prp B.fit (Prps.one tP_11 (r_11.o B.room)) (v 0))) (fun s1 H1 C1 cl fp => (g 8 sc_law_liar_is.nd)) (fun s1 H1 C1 cl fp => dts_nil) (fun s1 H1 C1 cl fp => (v 8))) (vo 5) (nomark _)))))
      (dss_cons (ds_ret d_bl) dss_nil)
      dss_nil) dss_nil))
    (db_cons (ds_ret d_bl)
    db_nil))))))

def s_law_hold : Stmt := top 36
abbrev N_law_hold : List Str := ["liar", "name", "answer", "names", "held", "free", "e", "told", "pair"]
theorem sc_law_hold : FnScope N_law_hold ["liar", "name", "answer", "names", "held"] (defScope s_law_hold) := ⟨rfl, rfl, rfl, by decide +kernel, rfl, by decide +kernel, by decide +kernel⟩
theorem ok_law_hold (ok : GOk (gl K mg Cf)) (Fd : FunD K "_law_hold" "_law_hold" (defArgs s_law_hold) (defBody s_law_hold) (defScope s_law_hold) [] [] f fd) (xk : XOk (gl K mg Cf)) (g_BadName : mg "BadName" = some (.ref (Cf 5))) (m_9 : MetF P w (gl K mg Cf) base lev (Cf 7) "check_free" (spP (gl K mg Cf) (C.pure 9) 2)) (g_BadStand : mg "BadStand" = some (.ref (Cf 4))) (b_isinstance : mg "isinstance" = none) (g_BookError : mg "BookError" = some (.ref (Cf 0))) (c_18 : CalF P w (gl K mg Cf) base lev "_law_is_number" (spP (gl K mg Cf) (C.pure 18) 2)) (m_10 : MetF P w (gl K mg Cf) base lev (Cf 7) "hold" (spI (gl K mg Cf) (C.io 10) 3)) :
    FnOk P w K mg base (L2.CX P w) (lev + 2) f fd ["liar", "name", "answer", "names", "held"] (spI (gl K mg Cf) (runI tab C fuel f_law_hold) 5) :=
  def_io (G := gl K mg Cf) (M := [0]) ok Fd sc_law_hold rfl rfl rfl (by decide) (by decide) (by decide) fun cdv A outer s H E a F B =>
    (db_cons (st_set 5 sc_law_hold.nd (d_and B.fit (d_cmp2 .le .le B.fit d_int (v 1) (v 3) (by with_unfolding_all rfl)) (d_one (d_cmp .notin B.fit (v 1) (lc [("pair", 8)] rfl sc_law_hold.nd (di_val B.fit (v 4)) (fun s1 H1 C1 cl fp => (g 8 sc_law_hold.nd)) (fun s1 H1 C1 cl fp => dts_nil) (fun s1 H1 C1 cl fp => (d_sub B.fit.blk (v 8) d_int fun _ _ => rfl))) (by with_unfolding_all rfl)))))
    (db_cons (ds_try rfl B.fit xk rfl rfl sc_law_hold.nd rfl rfl ⟨rfl, by decide, .inl g_BadName⟩ rfl
      (fun W pn xe Ft Ps => (dss_cons (ds_ife (DW.dt (dw_or (dt_cmp .isnot Ft (d_mthL Ft (Mths.one tM_9 (m_9.o B.room)).tr (vo 0) (da_cons (v 1) da_nil)) d_non (nomark _)) (dw_or1 (dt_not (dt_val Ft (v 5) fun _ => rfl)))))
      (dss_cons (ds_ret d_non) dss_nil)
      dss_nil) dss_nil))
      (fun k1 a1 oe1 dx1 pn1 hk hz hv Fs => (dss_cons (ds_ife (DW.dt (dw_or (dt_val Fs (v 5) fun _ => rfl) (dw_or (dt_cmp .ne Fs (d_xatt B.fit xk hk hz hv rfl rfl (by first | exact .inl rfl | exact .inr (.inl rfl) | exact .inr (.inr rfl))) (v 1) (nomark _)) (dw_or (dt_not (dt_val Fs (d_xisi (.cls 0) B.fit xk hk hz hv rfl (by first | exact .inl rfl | exact .inr (.inl rfl) | exact .inr (.inr rfl)) rfl b_isinstance (pe_glob rfl g_BookError rfl)) fun _ => rfl)) (dw_or1 (dt_val Fs (d_xisi (.cls 4) B.fit xk hk hz hv rfl (by first | exact .inl rfl | exact .inr (.inl rfl) | exact .inr (.inr rfl)) rfl b_isinstance (pe_glob rfl g_BadStand rfl)) fun _ => rfl))))))
      (dss_cons (ds_ret d_non) dss_nil)
      dss_nil) dss_nil)))
    (db_cons (ds_try rfl B.fit xk rfl rfl sc_law_hold.nd rfl rfl ⟨rfl, by decide, .inl g_BadName⟩ rfl
      (fun W pn xe Ft Ps => (dss_cons (st_imth 7 0 10 Ft sc_law_hold.nd (MthsI.one tM_10 (m_10.o B.room)).tr (da_cons (v 1) (da_cons (v 2) da_nil))) (dss_cons (ds_ret (d_ife (DW.dt (dw_and (dt_val Ft (v 5) fun _ => rfl) (dw_and1 (dt_val Ft (d_call Ft (c_18.o B.room).tr rfl (da_cons (v 7) (da_cons (v 2) da_nil))) fun _ => rfl)))) (d_bin .add Ft (v 4) (d_lst (da_cons (d_tup (da_cons (v 1) (da_cons (v 2) da_nil))) da_nil))) d_non)) dss_nil)))
      (fun k1 a1 oe1 dx1 pn1 hk hz hv Fs => (dss_cons (ds_ret (d_ife (DW.dt (dw_and (dt_not (dt_val Fs (v 5) fun _ => rfl)) (dw_and1 (dt_cmp .eq Fs (d_xatt B.fit xk hk hz hv rfl rfl (by first | exact .inl rfl | exact .inr (.inl rfl) | exact .inr (.inr rfl))) (v 1) (nomark _))))) (v 4) d_non)) dss_nil)))
    db_nil)))

def s_law : Stmt := top 37
abbrev N_law : List Str := ["script", "first", "names", "most", "draws", "wishes", "wish", "turned", "book", "liar", "other", "held", "beside", "k", "name", "cell", "word"]
theorem sc_law : FnScope N_law ["script"] (defScope s_law) := ⟨rfl, rfl, rfl, by decide +kernel, rfl, by decide +kernel, by decide +kernel⟩
theorem ok_law (ok : GOk (gl K mg Cf)) (Fd : FunD K "law" "law" (defArgs s_law) (defBody s_law) (defScope s_law) [] [] f fd) (b_abs : mg "abs" = none) (c_15 : CalF P w (gl K mg Cf) base lev "_law_cell" (spP (gl K mg Cf) (C.pure 15) 2)) (c_21 : CalF P w (gl K mg Cf) base lev "_law_stands_hold" (spP (gl K mg Cf) (C.pure 21) 2)) (c_16 : CalF P w (gl K mg Cf) base lev "_law_draws" (spP (gl K mg Cf) (C.pure 16) 2)) (c_22 : CalF P w (gl K mg Cf) base lev "_law_bad_stands_refused" (spP (gl K mg Cf) (C.pure 22) 2)) (b_sorted : mg "sorted" = none) (c_17 : CalF P w (gl K mg Cf) base lev "_law_wish" (spP (gl K mg Cf) (C.pure 17) 2)) (b_min : mg "min" = none) (b_len : mg "len" = none) (c_19 : CalF P w (gl K mg Cf) base lev "_law_is_row" (spP (gl K mg Cf) (C.pure 19) 2)) (c_2 : CalF P w (gl K mg Cf) base lev "denied" (spP (gl K mg Cf) (C.pure 2) 1)) (b_tuple : mg "tuple" = none) (k_8 : MakF P w (gl K mg Cf) base lev "Book" (Cf 8) (spI (gl K mg Cf) (C.io 12) 3)) (k_7 : MakF P w (gl K mg Cf) base lev "Liar" (Cf 7) (spI (gl K mg Cf) (C.io 8) 2)) (c_23 : CalF P w (gl K mg Cf) base lev "_law_liar_is" (spP (gl K mg Cf) (C.pure 23) 4)) (q_14 : EqoF P w (gl K mg Cf) base lev (Cf 8) (spP (gl K mg Cf) (C.pure 14) 2)) (b_range : mg "range" = none) (c_24 : CalF P w (gl K mg Cf) base lev "_law_hold" (spI (gl K mg Cf) (C.io 24) 5)) :
    FnOk P w K mg base (L2.CX P w) (lev + 2) f fd ["script"] (spP (gl K mg Cf) (runP tab C fuel f_law) 1) :=
  def_pure (G := gl K mg Cf) (M := [5, 9, 10]) ok Fd sc_law rfl rfl rfl (by decide) (by decide) fun cdv A outer s H E F B =>
    (db_cons (st_set 1 sc_law.nd (d_abs rfl b_abs (da_cons (d_call B.fit (c_15.o B.room) rfl (da_cons (v 0) (da_cons d_int da_nil))) da_nil)))
    (db_cons (st_set 2 sc_law.nd (d_bin .mod B.fit (v 1) d_int))
    (db_cons (st_set 3 sc_law.nd (d_bin .mod B.fit (d_bin .fdiv B.fit (v 1) d_int) d_int))
    (db_cons (ds_ife (dt_cmp .eq B.fit (d_bin .mod B.fit (d_bin .fdiv B.fit (v 1) d_int) d_int) d_int (nomark _))
      (dss_cons (st_set 2 sc_law.nd d_int) (dss_cons (st_set 3 sc_law.nd (d_bin .mod B.fit (v 3) d_int)) dss_nil))
      dss_nil)
    (db_cons (ds_ife (dt_not (dt_val B.fit (d_call B.fit (c_21.o B.room) rfl (da_cons (v 2) (da_cons (v 3) da_nil))) fun _ => rfl))
      (dss_cons (ds_ret d_bl) dss_nil)
      dss_nil)
    (db_cons (ds_ife (DW.dt (dw_and (dt_cmp .lt B.fit (v 2) d_int (nomark _)) (dw_and1 (dt_not (dt_val B.fit (d_call B.fit (c_21.o B.room) rfl (da_cons (v 2) (da_cons (d_bin .add B.fit (v 2) (d_bin .mod B.fit (d_abs rfl b_abs (da_cons (d_call B.fit (c_15.o B.room) rfl (da_cons (v 0) (da_cons d_int da_nil))) da_nil)) (d_bin .pow B.fit d_int d_int))) da_nil))) fun _ => rfl)))))
      (dss_cons (ds_ret d_bl) dss_nil)
      dss_nil)
    (db_cons (st_set 4 sc_law.nd (d_call B.fit (c_16.o B.room) rfl (da_cons (d_abs rfl b_abs (da_cons (d_call B.fit (c_15.o B.room) rfl (da_cons (v 0) (da_cons d_int da_nil))) da_nil)) (da_cons d_int da_nil))))
    (db_cons (ds_ife (dt_not (dt_val B.fit (d_call B.fit (c_22.o B.room) rfl (da_cons (v 2) (da_cons (v 4) da_nil))) fun _ => rfl))
      (dss_cons (ds_ret d_bl) dss_nil)
      dss_nil)
    (db_cons (st_setF 5 sc_law.nd (d_lst da_nil))
    (db_cons (ds_for B.pss rfl (di_val B.fit (d_sorted B.fit rfl rfl b_sorted (da_cons (lc [("cell", 15)] rfl sc_law.nd (di_val B.fit (d_slc B.fit (v 0) (do_some d_int) (do_some d_int))) (fun s1 H1 C1 cl fp => (g 15 sc_law.nd)) (fun s1 H1 C1 cl fp => dts_nil) (fun s1 H1 C1 cl fp => (d_call B.fit.blk (c_17.o B.room).blk rfl (da_cons (d_abs rfl b_abs (da_cons (v 15) da_nil)) (da_cons (d_minB rfl rfl b_min (da_cons (v 2) (da_cons d_int da_nil))) da_nil))))) da_nil))) (g 6 sc_law.nd)
      (dss_cons (ds_ife (DW.dt (dw_or (dt_cmp .eq B.fit (d_len B.fit rfl b_len (da_cons (vo 5) da_nil)) d_int (nomark _)) (dw_or1 (dt_cmp .ne B.fit (d_sub B.fit (vo 5) (d_neg d_int) fun _ _ => rfl) (v 6) (nomark _)))))
      (dss_cons (st_app 5 (v 6)) dss_nil)
      dss_nil) dss_nil))
    (db_frz rfl rfl (of_decide_eq_true rfl)
    (db_cons (ds_for B.pss rfl (di_val B.fit.wM (v 5)) (g 6 sc_law.nd)
      (dss_cons (st_set 7 sc_law.nd (d_tupB B.fit.wM rfl b_tuple (da_cons (lc [("word", 16)] rfl sc_law.nd (di_val B.fit.wM (v 6)) (fun s1 H1 C1 cl fp => (g 16 sc_law.nd)) (fun s1 H1 C1 cl fp => dts_nil) (fun s1 H1 C1 cl fp => (d_tup (da_cons (d_sub B.fit.wM.blk (v 16) d_int fun _ _ => rfl) (da_cons (d_bin .sub B.fit.wM.blk d_int (d_sub B.fit.wM.blk (v 16) d_int fun _ _ => rfl)) da_nil))))) da_nil))) (dss_cons (ds_ife (DW.dt (dw_or (dt_not (dt_val B.fit.wM (d_call B.fit.wM (c_19.o B.room) rfl (da_cons (d_call B.fit.wM (c_2.o B.room) rfl (da_cons (v 6) da_nil)) (da_cons (v 7) da_nil))) fun _ => rfl)) (dw_or1 (dt_not (dt_val B.fit.wM (d_call B.fit.wM (c_19.o B.room) rfl (da_cons (d_call B.fit.wM (c_2.o B.room) rfl (da_cons (d_call B.fit.wM (c_2.o B.room) rfl (da_cons (v 6) da_nil)) da_nil)) (da_cons (v 6) da_nil))) fun _ => rfl)))))
      (dss_cons (ds_ret d_bl) dss_nil)
      dss_nil) dss_nil)))
    (db_cons (st_set 8 sc_law.nd (d_mk B.fit.wM rfl (k_8.o B.room) rfl (da_cons (v 2) (da_cons (v 5) da_nil))))
    (db_cons (st_setF 9 sc_law.nd (d_mk B.fit.wM rfl (k_7.o B.room) rfl (da_cons (v 8) da_nil)))
    (db_cons (st_setF 10 sc_law.nd (d_mk B.fit.wM rfl (k_7.o B.room) rfl (da_cons (d_mk B.fit.wM rfl (k_8.o B.room) rfl (da_cons (v 2) (da_cons (v 5) da_nil))) da_nil)))
    (db_cons (ds_ife (DW.dt (dw_or (dt_not (dt_eqo B.fit.wM (q_14.o B.room) (d_att B.fit.wM (vo 9) rfl) (v 8))) (dw_or1 (dt_not (dt_val B.fit.wM (d_callL B.fit.wM (c_23.o B.room) rfl (da_cons (vo 9) (da_cons (v 5) (da_cons (d_lst da_nil) (da_cons d_int da_nil))))) fun _ => rfl)))))
      (dss_cons (ds_ret d_bl) dss_nil)
      dss_nil)
    (db_cons (st_set 11 sc_law.nd (d_lst da_nil))
    (db_cons (st_set 12 sc_law.nd (d_lst da_nil))
    (db_cons (ds_for B.pss rfl (di_range1 rfl b_range (da_cons d_int da_nil)) (g 13 sc_law.nd)
      (dss_cons (st_set 14 sc_law.nd (d_ife (dt_cmp .lt B.fit.wM (v 2) d_int (nomark _)) (d_bin .mod B.fit.wM (d_sub B.fit.wM (v 4) (v 13) fun _ _ => rfl) (d_bin .add B.fit.wM (v 2) d_int)) (d_bin .mod B.fit.wM (d_sub B.fit.wM (v 4) (v 13) fun _ _ => rfl) d_int))) (dss_cons (st_ical 11 9 B.fit.wM sc_law.nd (c_24.o B.room) rfl (da_cons (v 14) (da_cons (d_bin .mod B.fit.wM (d_sub B.fit.wM (v 4) (d_bin .sub B.fit.wM d_int (v 13)) fun _ _ => rfl) d_int) (da_cons (v 2) (da_cons (v 11) da_nil))))) (dss_cons (ds_ife (DW.dt (dw_or (dt_cmp .is_ B.fit.wM (v 11) d_non (nomark _)) (dw_or1 (dt_not (dt_val B.fit.wM (d_callL B.fit.wM (c_23.o B.room) rfl (da_cons (vo 9) (da_cons (v 5) (da_cons (v 11) (da_cons (d_len B.fit.wM rfl b_len (da_cons (v 11) da_nil)) da_nil))))) fun _ => rfl)))))
      (dss_cons (ds_ret d_bl) dss_nil)
      dss_nil) (dss_cons (ds_ife (dt_cmp .eq B.fit.wM (d_bin .mod B.fit.wM (v 13) d_int) d_int (nomark _))
      (dss_cons (st_ical 12 10 B.fit.wM sc_law.nd (c_24.o B.room) rfl (da_cons (v 14) (da_cons (d_bin .sub B.fit.wM d_int (d_bin .mod B.fit.wM (d_sub B.fit.wM (v 4) (d_bin .sub B.fit.wM d_int (v 13)) fun _ _ => rfl) d_int)) (da_cons (v 2) (da_cons (v 12) da_nil))))) (dss_cons (ds_ife (dt_cmp .is_ B.fit.wM (v 12) d_non (nomark _))
      (dss_cons (ds_ret d_bl) dss_nil)
      dss_nil) dss_nil))
      dss_nil) (dss_cons (ds_ife (dt_not (dt_val B.fit.wM (d_callL B.fit.wM (c_23.o B.room) rfl (da_cons (vo 10) (da_cons (v 5) (da_cons (v 12) (da_cons (d_len B.fit.wM rfl b_len (da_cons (v 12) da_nil)) da_nil))))) fun _ => rfl))
      (dss_cons (ds_ret d_bl) dss_nil)
      dss_nil) dss_nil))))))
    (db_cons (ds_ret d_bl)
    db_nil))))))))))))))))))))

end K03
set_option linter.all false
set_option autoImplicit false
set_option maxRecDepth 100000
/-! What the program of k03 computes, in plain words. -/
namespace K03
open Dn
abbrev CC (N n : Nat) : Calls := calls tab prog N n
abbrev Row := List (Int × Int)
def pr (p : Int × Int) : D := .tup [.int p.1, .int p.2]
def prs (r : Row) : List D := r.map pr
def rw (r : Row) : D := .tup (prs r)
def badP (names last : Int) (p : Int × Int) : Bool := decide (p.1 ≤ last) || (decide (p.1 > names) || !(decide (p.2 = 0) || decide (p.2 = 1)))
def rightB (names : Int) : Int → Row → Bool
  | _, [] => true
  | last, p :: r => !badP names last p && rightB names p.1 r
theorem pure_at {N n f : Nat} {fn : Fn} {ds : List D} (h : prog f = some fn) (k : fn.kind = .pure) : (CC N (n + 1)).pure f ds = runP tab (CC N n) N fn ds := by
  show (match prog f with | some fn => _ | none => _) = _
  rw [h]; simp only [k]
theorem io_at {N n f : Nat} {fn : Fn} {ds : List D} (h : prog f = some fn) (k : fn.kind = .io) : (CC N (n + 1)).io f ds = runI tab (CC N n) N fn ds := by
  show (match prog f with | some fn => _ | none => _) = _
  rw [h]; simp only [k]
theorem gen_at {N n f : Nat} {fn : Fn} {ds : List D} (h : prog f = some fn) (k : fn.kind = .gen) : (CC N (n + 1)).gen f ds = runG tab (CC N n) N fn ds := by
  show (match prog f with | some fn => _ | none => _) = _
  rw [h]; simp only [k]
theorem p_rt {N n f : Nat} {fn : Fn} {ds : List D} {d : D} {ρ : Env} (h : prog f = some fn) (k : fn.kind = .pure) (hl : ds.length = fn.np) (e : execs tab (CC N n) N fn.body (startE fn.np fn.ns ds) = .rt d ρ) : (CC N (n + 1)).pure f ds = .ok d := by
  rw [pure_at h k, runP, if_pos hl, e]
theorem p_nx {N n f : Nat} {fn : Fn} {ds : List D} {ρ : Env} (h : prog f = some fn) (k : fn.kind = .pure) (hl : ds.length = fn.np) (e : execs tab (CC N n) N fn.body (startE fn.np fn.ns ds) = .nx ρ) : (CC N (n + 1)).pure f ds = .ok .non := by
  rw [pure_at h k, runP, if_pos hl, e]
theorem p_ex {N n f : Nat} {fn : Fn} {ds xs : List D} {c : Nat} {ρ : Env} (h : prog f = some fn) (k : fn.kind = .pure) (hl : ds.length = fn.np) (e : execs tab (CC N n) N fn.body (startE fn.np fn.ns ds) = .ex c xs ρ) : (CC N (n + 1)).pure f ds = .exc c xs := by
  rw [pure_at h k, runP, if_pos hl, e]
theorem i_nx {N n f : Nat} {fn : Fn} {ds : List D} {ρ : Env} {s : D} (h : prog f = some fn) (k : fn.kind = .io) (hl : ds.length = fn.np) (e : execs tab (CC N n) N fn.body (startE fn.np fn.ns ds) = .nx ρ) (hs : slotD ρ 0 = some s) : (CC N (n + 1)).io f ds = .ok .non s := by
  rw [io_at h k, runI, if_pos hl, e]; simp only [hs]
theorem i_rt {N n f : Nat} {fn : Fn} {ds : List D} {ρ : Env} {d s : D} (h : prog f = some fn) (k : fn.kind = .io) (hl : ds.length = fn.np) (e : execs tab (CC N n) N fn.body (startE fn.np fn.ns ds) = .rt d ρ) (hs : slotD ρ 0 = some s) : (CC N (n + 1)).io f ds = .ok d s := by
  rw [io_at h k, runI, if_pos hl, e]; simp only [hs]
theorem i_ex {N n f : Nat} {fn : Fn} {ds xs : List D} {c : Nat} {ρ : Env} {s : D} (h : prog f = some fn) (k : fn.kind = .io) (hl : ds.length = fn.np) (e : execs tab (CC N n) N fn.body (startE fn.np fn.ns ds) = .ex c xs ρ) (hs : slotD ρ 0 = some s) : (CC N (n + 1)).io f ds = .exc c xs s := by
  rw [io_at h k, runI, if_pos hl, e]; simp only [hs]
section
variable {C : Calls} {N : Nat} {body : Env → O} {t : Tg}
theorem forL_nx {d : D} {ds : List D} {ρ ρ1 ρ2 : Env} (h : bindT t d ρ = some ρ1) (k : body ρ1 = .nx ρ2) : forL body t (d :: ds) ρ = forL body t ds ρ2 := by
  rw [forL, h]; simp only [k]
theorem forL_rt {d v : D} {ds : List D} {ρ ρ1 ρ2 : Env} (h : bindT t d ρ = some ρ1) (k : body ρ1 = .rt v ρ2) : forL body t (d :: ds) ρ = .rt v ρ2 := by
  rw [forL, h]; simp only [k]
/-- a loop whose turns all end well -/
theorem forL_inv {α : Type} {enc : α → D} (I : List α → Env → Prop) : ∀ (xs : List α) (ρ : Env), I xs ρ → (∀ x xs ρ, I (x :: xs) ρ → ∃ ρ1 ρ2, bindT t (enc x) ρ = some ρ1 ∧ body ρ1 = .nx ρ2 ∧ I xs ρ2) → ∃ ρ', forL body t (xs.map enc) ρ = .nx ρ' ∧ I [] ρ'
  | [], ρ, h, _ => ⟨ρ, rfl, h⟩
  | x :: xs, ρ, h, k => by
    obtain ⟨ρ1, ρ2, h1, h2, h3⟩ := k x xs ρ h
    obtain ⟨ρ', e, i⟩ := forL_inv I xs ρ2 h3 k
    exact ⟨ρ', (forL_nx h1 h2).trans e, i⟩
theorem turns_ok {α : Type} {enc : α → D} {f : D → R (Option D)} {g : α → Option D} : ∀ (xs : List α), (∀ a ∈ xs, f (enc a) = .ok (g a)) → turns f (xs.map enc) = .ok (xs.filterMap g)
  | [], _ => rfl
  | x :: xs, h => by
    rw [List.map_cons, turns, h x List.mem_cons_self, R.bind_ok, turns_ok xs fun a ha => h a (List.mem_cons_of_mem _ ha), R.bind_ok, List.filterMap_cons]
    cases g x <;> rfl
theorem lc_map {α : Type} {enc : α → D} {elt it : IE} {ρ : Env} {x : D} (xs : List α) (g : α → D) (hx : eval tab C it ρ = .ok x) (hi : items x = some (xs.map enc)) (hl : xs.length ≤ line)
    (h : ∀ a ∈ xs, ∃ ρ', bindT t (enc a) (wipeD ρ (tgs t)) = some ρ' ∧ eval tab C elt ρ' = .ok (g a)) : eval tab C (.lc elt t it none) ρ = .ok (.lst (xs.map g)) := by
  rw [eval, hx, R.bind_ok, hi]
  dsimp only
  rw [turns_ok (g := fun a => some (g a)) xs fun a ha => ?_]
  · rw [R.bind_ok, List.filterMap_eq_map', if_pos (by rw [List.length_map]; exact hl)]; rfl
  · obtain ⟨ρ', h1, h2⟩ := h a ha
    rw [h1]; dsimp only; rw [h2]; rfl
theorem lc_fil {α : Type} {enc : α → D} {elt it c : IE} {ρ : Env} {x : D} (xs : List α) (g : α → D) (p : α → Bool) (hx : eval tab C it ρ = .ok x) (hi : items x = some (xs.map enc)) (hl : xs.length ≤ line)
    (h : ∀ a ∈ xs, ∃ ρ', bindT t (enc a) (wipeD ρ (tgs t)) = some ρ' ∧ eval tab C c ρ' = .ok (.bl (p a)) ∧ (p a = true → eval tab C elt ρ' = .ok (g a))) : eval tab C (.lc elt t it (some c)) ρ = .ok (.lst ((xs.filter p).map g)) := by
  rw [eval, hx, R.bind_ok, hi]
  dsimp only
  have e : xs.filterMap (fun a => if p a then some (g a) else none) = (xs.filter p).map g := by
    clear h hi hl
    induction xs with
    | nil => rfl
    | cons a xs ih =>
      rw [List.filterMap_cons, List.filter_cons]
      cases p a <;> simp [ih]
  rw [turns_ok (g := fun a => if p a then some (g a) else none) xs fun a ha => ?_]
  · rw [R.bind_ok, e, if_pos (by rw [List.length_map]; exact Nat.le_trans (List.length_filter_le _ _) hl)]; rfl
  · obtain ⟨ρ', h1, h2, h3⟩ := h a ha
    rw [h1]; dsimp only; rw [h2, R.bind_ok]
    cases q : p a with
    | true => dsimp only [truth]; rw [h3 q]; rfl
    | false => rfl
theorem eq_int (a b : Int) : eqD (.int a) (.int b) = decide (a = b) := by
  show (a == b) = _
  by_cases h : a = b
  · subst h; simp
  · rw [decide_eq_false h]; exact beq_eq_false_iff_ne.mpr h
theorem lt_int (a b : Int) : ltD (.int a) (.int b) = decide (a < b) := PySem.W.dataLt_int a b
theorem truth_bl (b : Bool) : truth (.bl b) = some b := rfl
theorem truth_tup (xs : List D) : truth (.tup xs) = some (!xs.isEmpty) := rfl
theorem truth_lst (xs : List D) : truth (.lst xs) = some (!xs.isEmpty) := rfl
theorem items_tup (xs : List D) : items (.tup xs) = some xs := rfl
theorem items_lst (xs : List D) : items (.lst xs) = some xs := rfl
theorem items_fls (xs : List D) : items (.fls xs) = some xs := rfl
theorem c_le (a b : Int) : cmp .le (.int a) (.int b) = .ok (.bl (decide (a ≤ b))) := rfl
theorem c_ge (a b : Int) : cmp .ge (.int a) (.int b) = .ok (.bl (decide (b ≤ a))) := rfl
theorem c_lt (a b : Int) : cmp .lt (.int a) (.int b) = .ok (.bl (decide (a < b))) := by rw [← lt_int]; rfl
theorem c_gt (a b : Int) : cmp .gt (.int a) (.int b) = .ok (.bl (decide (b < a))) := by rw [← lt_int]; rfl
theorem c_eq (a b : Int) : cmp .eq (.int a) (.int b) = .ok (.bl (decide (a = b))) := by rw [← eq_int]; rfl
theorem c_ne (a b : Int) : cmp .ne (.int a) (.int b) = .ok (.bl (!decide (a = b))) := by rw [← eq_int]; rfl
theorem b_add (a b : Int) : bin .add (.int a) (.int b) = .ok (.int (a + b)) := rfl
theorem b_sub (a b : Int) : bin .sub (.int a) (.int b) = .ok (.int (a - b)) := rfl
theorem b_mod {a b : Int} (h : b ≠ 0) : bin .mod (.int a) (.int b) = .ok (.int (a.fmod b)) := if_pos h
theorem b_fdiv {a b : Int} (h : b ≠ 0 ∧ b.natAbs < 1073741824) : bin .fdiv (.int a) (.int b) = .ok (.int (a.fdiv b)) := if_pos h
theorem b_cat {xs ys : List D} (h : xs.length + ys.length ≤ line) : bin .add (.tup xs) (.tup ys) = .ok (.tup (xs ++ ys)) := if_pos h
theorem okIn (v : Int) : cmp .notin (.int v) (.tup [.int 0, .int 1]) = .ok (.bl (!(decide (v = 0) || decide (v = 1)))) := by
  have e : anyEq (.int v) [.int 0, .int 1] = (decide (v = 0) || decide (v = 1)) := by
    simp only [anyEq, eq_int, Bool.or_false, eq_comm (a := v)]
  show R.ok (D.bl (!anyEq (.int v) [.int 0, .int 1])) = _
  rw [e]
theorem right_loop (names : Int) (d : Option D) : ∀ (r : Row) (last : Int) (x3 x4 : Option D), ∃ ρ', forL (fun ρ => execs tab C N [(.ife (.or (.cmp .le (.var 3) (.var 2)) (.or (.cmp .gt (.var 3) (.var 0)) (.cmp .notin (.var 4) (.tup [(.int 0), (.int 1)])))) [(.ret (.bl false))] []), (.asg (.nm 2) (.var 3))] ρ)
    (.tp [3, 4]) (prs r) [some (.int names), d, some (.int last), x3, x4] = if rightB names last r then .nx ρ' else .rt (.bl false) ρ'
  | [], last, x3, x4 => ⟨_, rfl⟩
  | p :: r, last, x3, x4 => by
    obtain ⟨ρ', ih⟩ := right_loop names d r p.1 (some (.int p.1)) (some (.int p.2))
    have one : execs tab C N [(.ife (.or (.cmp .le (.var 3) (.var 2)) (.or (.cmp .gt (.var 3) (.var 0)) (.cmp .notin (.var 4) (.tup [(.int 0), (.int 1)])))) [(.ret (.bl false))] []), (.asg (.nm 2) (.var 3))] [some (.int names), d, some (.int last), some (.int p.1), some (.int p.2)] = if badP names last p then .rt (.bl false) [some (.int names), d, some (.int last), some (.int p.1), some (.int p.2)] else .nx [some (.int names), d, some (.int p.1), some (.int p.1), some (.int p.2)] := by
      unfold badP
      cases h1 : decide (p.1 ≤ last) <;> cases h2 : decide (p.1 > names) <;> cases h3 : (decide (p.2 = 0) || decide (p.2 = 1)) <;>
        simp only [execs, exec, eval, evals, evalO, getV, slotD, ev_ok, ev_exc, ev_bad, O.seq_nx, O.seq_rt, O.seq_bk, O.seq_ct, O.seq_ex, O.seq_bad, R.bind_ok, R.bind_exc, R.bind_bad, bindT, setAll, c_le, c_ge, c_lt, c_gt, c_eq, c_ne, b_add, b_sub, okIn, truth_bl, truth_tup, truth_lst, items_tup, items_lst, items_fls, isNon, List.set_cons_zero, List.set_cons_succ, List.getElem?_cons_zero, List.getElem?_cons_succ, Option.bind_some, id_eq, List.length_cons, List.length_nil, h1, h2, h3, Bool.or_true, Bool.true_or, Bool.or_false, Bool.not_true, Bool.not_false, Bool.false_eq_true, if_false, if_true, reduceIte]
    cases hb : badP names last p with
    | true =>
      refine ⟨[some (.int names), d, some (.int last), some (.int p.1), some (.int p.2)], (forL_rt (body := fun ρ => execs tab C N _ ρ) rfl (one.trans (by rw [hb]; rfl))).trans ?_⟩
      rw [rightB, hb]; rfl
    | false =>
      refine ⟨ρ', (forL_nx (body := fun ρ => execs tab C N _ ρ) rfl (one.trans (by rw [hb]; rfl))).trans ?_⟩
      rw [rightB, hb]; exact ih
theorem v_tup {ρ : Env} {i : Nat} {xs : List D} (h : ρ[i]? = some (some (.tup xs))) : eval tab C (.var i) ρ = .ok (.tup xs) := by rw [eval, getV, h]
theorem v_int {ρ : Env} {i : Nat} {k : Int} (h : ρ[i]? = some (some (.int k))) : eval tab C (.var i) ρ = .ok (.int k) := by rw [eval, getV, h]
theorem v_pr {ρ : Env} {i : Nat} {p : Int × Int} (h : ρ[i]? = some (some (pr p))) : eval tab C (.var i) ρ = .ok (pr p) := v_tup h
theorem v_rw {ρ : Env} {i : Nat} {r : Row} (h : ρ[i]? = some (some (rw r))) : eval tab C (.var i) ρ = .ok (rw r) := v_tup h
/-! the defs -/
theorem is_right {n : Nat} {names : Int} {r : Row} (h : rightB names 0 r = true) : (CC N (n + 1)).pure 0 [.int names, rw r] = .ok (.bl true) := by
  obtain ⟨ρ', e⟩ := right_loop (C := CC N n) (N := N) names (some (rw r)) r 0 none none
  rw [h, if_pos rfl] at e
  refine p_rt (ρ := ρ') (fn := f_row_is_right) rfl rfl rfl ?_
  show execs tab (CC N n) N f_row_is_right.body [some (.int names), some (rw r), none, none, none] = _
  unfold f_row_is_right
  rw [execs, exec, eval, ev_ok]
  show (execs tab (CC N n) N _ [some (.int names), some (rw r), some (.int 0), none, none]) = _
  rw [execs, exec, v_rw (r := r) rfl, ev_ok]
  show (forL _ _ (prs r) _).seq _ = _
  rw [e]
  simp only [execs, exec, eval, evals, evalO, getV, slotD, ev_ok, ev_exc, ev_bad, O.seq_nx, O.seq_rt, O.seq_bk, O.seq_ct, O.seq_ex, O.seq_bad, R.bind_ok, R.bind_exc, R.bind_bad, bindT, setAll, c_le, c_ge, c_lt, c_gt, c_eq, c_ne, b_add, b_sub, okIn, truth_bl, truth_tup, truth_lst, items_tup, items_lst, items_fls, isNon, List.set_cons_zero, List.set_cons_succ, List.getElem?_cons_zero, List.getElem?_cons_succ, Option.bind_some, id_eq, List.length_cons, List.length_nil]
theorem check_ok {n : Nat} {names : Int} {r : Row} (h : rightB names 0 r = true) : (CC N (n + 2)).pure 1 [.int names, rw r] = .ok .non := by
  refine p_nx (ρ := [some (.int names), some (rw r)]) (fn := f_check_stand) rfl rfl rfl ?_
  show execs tab (CC N (n + 1)) N f_check_stand.body [some (.int names), some (rw r)] = _
  have z : eval tab (CC N (n + 1)) (.call 0 [(.var 0), (.var 1)]) [some (.int names), some (rw r)] = .ok (.bl true) := by
    rw [eval]
    exact is_right h
  unfold f_check_stand
  simp only [execs, exec]
  rw [eval, z]
  rfl
def den (r : Row) : Row := r.map fun p => (p.1, 1 - p.2)
theorem bi_1 {ρ : Env} {b : Bi} {e : IE} {d : D} (h : eval tab C e ρ = .ok d) : eval tab C (.bi b [e]) ρ = built b [d] := by rw [eval, evals, h, R.bind_ok, evals]; rfl
theorem denied_ok {n : Nat} {r : Row} (hl : r.length ≤ line) : (CC N (n + 1)).pure 2 [rw r] = .ok (rw (den r)) := by
  refine p_rt (ρ := [some (rw r), none, none]) (fn := f_denied) rfl rfl rfl ?_
  · show execs tab (CC N n) N f_denied.body [some (rw r), none, none] = _
    unfold f_denied
    have z := bi_1 (C := CC N n) (b := .tuple) (lc_map (C := CC N n) (t := .tp [1, 2]) (enc := pr) (elt := .tup [(.var 1), (.bin .sub (.int 1) (.var 2))]) (it := .var 0) (ρ := [some (rw r), none, none]) (x := rw r) r (fun p => pr (p.1, 1 - p.2)) (v_tup rfl) rfl hl
      fun p _ => ⟨[some (rw r), some (.int p.1), some (.int p.2)], rfl, by simp only [execs, exec, eval, evals, evalO, getV, slotD, ev_ok, ev_exc, ev_bad, O.seq_nx, O.seq_rt, O.seq_bk, O.seq_ct, O.seq_ex, O.seq_bad, R.bind_ok, R.bind_exc, R.bind_bad, bindT, setAll, c_le, c_ge, c_lt, c_gt, c_eq, c_ne, b_add, b_sub, okIn, truth_bl, truth_tup, truth_lst, items_tup, items_lst, items_fls, isNon, List.set_cons_zero, List.set_cons_succ, List.getElem?_cons_zero, List.getElem?_cons_succ, Option.bind_some, id_eq, List.length_cons, List.length_nil, pr]⟩)
    simp only [execs, exec]
    rw [z]
    simp only [built, items_lst, ev_ok, O.seq_rt, rw, prs, den, List.map_map]
    rfl
theorem eq_pr (p q : Int × Int) : eqD (pr p) (pr q) = decide (p = q) := by
  have h : keyed (pr p) = true := rfl
  have k : keyed (pr q) = true := rfl
  rw [Bool.eq_iff_iff, eqD_keyed h k, decide_eq_true_eq]
  obtain ⟨a, b⟩ := p
  obtain ⟨c, d⟩ := q
  simp [pr]
theorem any_pr (p : Int × Int) : ∀ r : Row, anyEq (pr p) (prs r) = decide (p ∈ r)
  | [] => rfl
  | q :: r => by
    show (eqD (pr q) (pr p) || anyEq (pr p) (prs r)) = _
    rw [any_pr p r, eq_pr]
    simp [List.mem_cons, eq_comm (a := p)]
theorem ok_prs : ∀ r : Row, flats (prs r) = true ∧ deps (prs r) ≤ 1 ∧ hards (prs r) = true ∧ keyeds (prs r) = true
  | [] => ⟨rfl, Nat.zero_le _, rfl, rfl⟩
  | p :: r => by
    obtain ⟨h1, h2, h3, h4⟩ := ok_prs r
    refine ⟨?_, ?_, ?_, ?_⟩
    · show (flat (pr p) && flats (prs r)) = true
      rw [h1]; rfl
    · show max (dep (pr p)) (deps (prs r)) ≤ 1
      exact Nat.max_le.mpr ⟨Nat.le_refl 1, h2⟩
    · show (hard (pr p) && hards (prs r)) = true
      rw [h3]; rfl
    · show (keyed (pr p) && keyeds (prs r)) = true
      rw [h4]; rfl
theorem eqOk_rw (r : Row) : eqOk (rw r) = true := by
  obtain ⟨h1, h2, -⟩ := ok_prs r
  show (flats (prs r) && decide (deps (prs r) + 1 ≤ 40)) = true
  rw [h1, decide_eq_true (by omega)]; rfl
theorem eqOk_pr (p : Int × Int) : eqOk (pr p) = true := rfl
theorem c_in (p : Int × Int) (r : Row) : cmp .in_ (pr p) (rw r) = .ok (.bl (decide (p ∈ r))) := by
  show (if eqOk (pr p) && eqOk (rw r) then R.ok (D.bl (anyEq (pr p) (prs r))) else R.bad) = _
  rw [eqOk_rw, eqOk_pr, any_pr]; rfl
theorem c_inl (p : Int × Int) (r : Row) : cmp .in_ (pr p) (.lst (prs r)) = .ok (.bl (decide (p ∈ r))) := by
  have : eqOk (.lst (prs r)) = true := eqOk_rw r
  show (if eqOk (pr p) && eqOk (.lst (prs r)) then R.ok (D.bl (anyEq (pr p) (prs r))) else R.bad) = _
  rw [this, eqOk_pr, any_pr]; rfl
theorem bools_map {α : Type} (f : α → Bool) : ∀ xs : List α, boolsD (xs.map fun a => .bl (f a)) = some (xs.map f)
  | [] => rfl
  | x :: xs => by rw [List.map_cons, boolsD, bools_map f xs]; rfl
theorem cmp_at {ρ : Env} {a b : IE} {x y : D} {o : COp} (h : eval tab C a ρ = .ok x) (k : eval tab C b ρ = .ok y) : eval tab C (.cmp o a b) ρ = cmp o x y := by rw [eval, h, R.bind_ok, k, R.bind_ok]
theorem within_ok {n : Nat} {r s : Row} (hl : r.length ≤ line) : (CC N (n + 1)).pure 3 [rw r, rw s] = .ok (.bl (r.all fun p => decide (p ∈ s))) := by
  refine p_rt (ρ := [some (rw r), some (rw s), none]) (fn := f_within) rfl rfl rfl ?_
  · show execs tab (CC N n) N f_within.body [some (rw r), some (rw s), none] = _
    unfold f_within
    have z := bi_1 (C := CC N n) (b := .all) (lc_map (C := CC N n) (t := .nm 2) (enc := pr) (elt := .cmp .in_ (.var 2) (.var 1)) (it := .var 0) (ρ := [some (rw r), some (rw s), none]) (x := rw r) r (fun p => .bl (decide (p ∈ s))) (v_tup rfl) rfl hl
      fun p _ => ⟨[some (rw r), some (rw s), some (pr p)], rfl, by rw [cmp_at (v_pr rfl) (v_rw rfl), c_in]⟩)
    simp only [execs, exec]
    rw [z]
    simp only [built, listed, Option.bind_some, bools_map, ev_ok, O.seq_rt, List.all_map]
    rfl
def ansIn (name : Int) : Row → Option Int
  | [] => none
  | p :: r => if p.1 = name then some p.2 else ansIn name r
def optD : Option Int → D
  | some v => .int v
  | none => .non
theorem answer_loop (name : Int) (d : Option D) : ∀ (r : Row) (x2 x3 : Option D), ∃ ρ', forL (fun ρ => execs tab C N [(.ife (.cmp .eq (.var 2) (.var 1)) [(.ret (.var 3))] [])] ρ)
    (.tp [2, 3]) (prs r) [d, some (.int name), x2, x3] = match ansIn name r with | some v => .rt (.int v) ρ' | none => .nx ρ'
  | [], x2, x3 => ⟨_, rfl⟩
  | p :: r, x2, x3 => by
    rw [prs, List.map_cons]
    by_cases h : p.1 = name
    · refine ⟨[d, some (.int name), some (.int p.1), some (.int p.2)], (forL_rt (body := fun ρ => execs tab C N _ ρ) (v := .int p.2) (ρ1 := [d, some (.int name), some (.int p.1), some (.int p.2)]) (ρ2 := [d, some (.int name), some (.int p.1), some (.int p.2)]) rfl ?_).trans ?_⟩
      · simp only [execs, exec, eval, evals, evalO, getV, slotD, ev_ok, ev_exc, ev_bad, O.seq_nx, O.seq_rt, O.seq_bk, O.seq_ct, O.seq_ex, O.seq_bad, R.bind_ok, R.bind_exc, R.bind_bad, bindT, setAll, c_le, c_ge, c_lt, c_gt, c_eq, c_ne, b_add, b_sub, okIn, truth_bl, truth_tup, truth_lst, items_tup, items_lst, items_fls, isNon, List.set_cons_zero, List.set_cons_succ, List.getElem?_cons_zero, List.getElem?_cons_succ, Option.bind_some, id_eq, List.length_cons, List.length_nil, h, decide_true]
      · rw [ansIn, if_pos h]
    · obtain ⟨ρ', ih⟩ := answer_loop name d r (some (.int p.1)) (some (.int p.2))
      refine ⟨ρ', (forL_nx (body := fun ρ => execs tab C N _ ρ) (ρ1 := [d, some (.int name), some (.int p.1), some (.int p.2)]) (ρ2 := [d, some (.int name), some (.int p.1), some (.int p.2)]) rfl ?_).trans ?_⟩
      · simp only [execs, exec, eval, evals, evalO, getV, slotD, ev_ok, ev_exc, ev_bad, O.seq_nx, O.seq_rt, O.seq_bk, O.seq_ct, O.seq_ex, O.seq_bad, R.bind_ok, R.bind_exc, R.bind_bad, bindT, setAll, c_le, c_ge, c_lt, c_gt, c_eq, c_ne, b_add, b_sub, okIn, truth_bl, truth_tup, truth_lst, items_tup, items_lst, items_fls, isNon, List.set_cons_zero, List.set_cons_succ, List.getElem?_cons_zero, List.getElem?_cons_succ, Option.bind_some, id_eq, List.length_cons, List.length_nil, decide_eq_false h]
      · rw [ansIn, if_neg h]; exact ih
theorem answer_ok {n : Nat} {r : Row} {name : Int} : (CC N (n + 1)).pure 4 [rw r, .int name] = .ok (optD (ansIn name r)) := by
  obtain ⟨ρ', e⟩ := answer_loop (C := CC N n) (N := N) name (some (rw r)) r none none
  refine p_rt (ρ := ρ') (fn := f_answer_in) rfl rfl rfl ?_
  show execs tab (CC N n) N f_answer_in.body [some (rw r), some (.int name), none, none] = _
  unfold f_answer_in
  · rw [execs, exec, v_rw (r := r) rfl, ev_ok]
    show (forL _ _ (prs r) _).seq _ = _
    rw [e]
    cases ansIn name r with
    | some v => rfl
    | none => simp only [execs, exec, eval, evals, evalO, getV, slotD, ev_ok, ev_exc, ev_bad, O.seq_nx, O.seq_rt, O.seq_bk, O.seq_ct, O.seq_ex, O.seq_bad, R.bind_ok, R.bind_exc, R.bind_bad, bindT, setAll, c_le, c_ge, c_lt, c_gt, c_eq, c_ne, b_add, b_sub, okIn, truth_bl, truth_tup, truth_lst, items_tup, items_lst, items_fls, isNon, List.set_cons_zero, List.set_cons_succ, List.getElem?_cons_zero, List.getElem?_cons_succ, Option.bind_some, id_eq, List.length_cons, List.length_nil, optD]
end
end K03
set_option linter.all false
set_option autoImplicit false
set_option maxRecDepth 100000
/-! The players and books. -/
namespace K03
open Dn
section
variable {C : Calls} {N : Nat} {body : Env → O} {t : Tg}
theorem forL_range {n : Nat} {enc : Nat → D} (J : Nat → Env → Prop) {ρ : Env} (h0 : J 0 ρ) (step : ∀ i ρ, i < n → J i ρ → ∃ ρ1 ρ2, bindT t (enc i) ρ = some ρ1 ∧ body ρ1 = .nx ρ2 ∧ J (i + 1) ρ2) :
    ∃ ρ', forL body t ((List.range n).map enc) ρ = .nx ρ' ∧ J n ρ' := by
  have key : ∀ (k i : Nat) (ρ : Env), i + k = n → J i ρ → ∃ ρ', forL body t ((List.range' i k).map enc) ρ = .nx ρ' ∧ J n ρ' := by
    intro k
    induction k with
    | zero => intro i ρ e h; exact ⟨ρ, rfl, by rwa [← e]⟩
    | succ k ih =>
      intro i ρ e h
      obtain ⟨ρ1, ρ2, h1, h2, h3⟩ := step i ρ (by omega) h
      obtain ⟨ρ', q, z⟩ := ih (i + 1) ρ2 (by omega) h3
      exact ⟨ρ', by rw [List.range'_succ, List.map_cons, forL_nx h1 h2]; exact q, z⟩
  rw [List.range_eq_range']
  exact key n 0 ρ (Nat.zero_add n) h0
theorem sub_at {d : D} {xs : List D} (h : items d = some xs) {i : Nat} {x : D} (hi : xs[i]? = some x) : sub d (.int (i : Int)) = .ok x := by
  have hlt : i < xs.length := by
    rcases List.getElem?_eq_some_iff.mp hi with ⟨z, _⟩; exact z
  have p : place xs.length (i : Int) = some i := by
    unfold place
    rw [if_pos (by omega), if_pos (by omega), Int.toNat_natCast]
  unfold sub
  rw [h]
  dsimp only
  rw [p]
  dsimp only
  rw [hi]
theorem eval_sub {ρ : Env} {a i : IE} {x y : D} (h : eval tab C a ρ = .ok x) (k : eval tab C i ρ = .ok y) : eval tab C (.sub a i) ρ = sub x y := by rw [eval, h, R.bind_ok, k, R.bind_ok]
theorem eval_bin {ρ : Env} {a b : IE} {x y : D} {o : BOp} (h : eval tab C a ρ = .ok x) (k : eval tab C b ρ = .ok y) : eval tab C (.bin o a b) ρ = bin o x y := by rw [eval, h, R.bind_ok, k, R.bind_ok]
theorem evals_1 {ρ : Env} {a : IE} {x : D} (h : eval tab C a ρ = .ok x) : evals tab C [a] ρ = .ok [x] := by rw [evals, h, R.bind_ok, evals]; rfl
theorem evals_2 {ρ : Env} {a b : IE} {x y : D} (h : eval tab C a ρ = .ok x) (k : eval tab C b ρ = .ok y) : evals tab C [a, b] ρ = .ok [x, y] := by rw [evals, h, R.bind_ok, evals_1 k]; rfl
theorem evals_3 {ρ : Env} {a b c : IE} {x y z : D} (h : eval tab C a ρ = .ok x) (k : eval tab C b ρ = .ok y) (l : eval tab C c ρ = .ok z) : evals tab C [a, b, c] ρ = .ok [x, y, z] := by rw [evals, h, R.bind_ok, evals_2 k l]; rfl
theorem evals_4 {ρ : Env} {a b c d : IE} {x y z u : D} (h : eval tab C a ρ = .ok x) (k : eval tab C b ρ = .ok y) (l : eval tab C c ρ = .ok z) (m : eval tab C d ρ = .ok u) : evals tab C [a, b, c, d] ρ = .ok [x, y, z, u] := by rw [evals, h, R.bind_ok, evals_3 k l m]; rfl
theorem eval_or {ρ : Env} {a b : IE} {x y : Bool} (h : eval tab C a ρ = .ok (.bl x)) (k : x = false → eval tab C b ρ = .ok (.bl y)) : eval tab C (.or a b) ρ = .ok (.bl (x || y)) := by
  rw [eval, h, R.bind_ok, truth_bl]
  cases x with
  | true => rfl
  | false => exact k rfl
theorem eval_and {ρ : Env} {a b : IE} {x y : Bool} (h : eval tab C a ρ = .ok (.bl x)) (k : x = true → eval tab C b ρ = .ok (.bl y)) : eval tab C (.and a b) ρ = .ok (.bl (x && y)) := by
  rw [eval, h, R.bind_ok, truth_bl]
  cases x with
  | true => exact k rfl
  | false => rfl
theorem eval_not {ρ : Env} {a : IE} {x : Bool} (h : eval tab C a ρ = .ok (.bl x)) : eval tab C (.not a) ρ = .ok (.bl (!x)) := by
  rw [eval, h, R.bind_ok, truth_bl]
theorem ife_t {ρ : Env} {c : IE} {a b : List IS} (h : eval tab C c ρ = .ok (.bl true)) : exec tab C N (.ife c a b) ρ = execs tab C N a ρ := by rw [exec, h]; rfl
theorem ife_f {ρ : Env} {c : IE} {a b : List IS} (h : eval tab C c ρ = .ok (.bl false)) : exec tab C N (.ife c a b) ρ = execs tab C N b ρ := by rw [exec, h]; rfl
/-- a test that stops nothing -/
theorem if_go {ρ : Env} {c : IE} {a b : List IS} (h : eval tab C c ρ = .ok (.bl false)) : execs tab C N (.ife c a [] :: b) ρ = execs tab C N b ρ := by rw [execs, ife_f h, execs]; rfl
theorem asg_go {ρ ρ' : Env} {t : Tg} {e : IE} {d : D} {b : List IS} (h : eval tab C e ρ = .ok d) (k : bindT t d ρ = some ρ') : execs tab C N (.asg t e :: b) ρ = execs tab C N b ρ' := by rw [execs, exec, h, ev_ok, k]; rfl
theorem ret_at {ρ : Env} {e : IE} {d : D} {b : List IS} (h : eval tab C e ρ = .ok d) : execs tab C N (.ret e :: b) ρ = .rt d ρ := by rw [execs, exec, h]; rfl
theorem for_go {ρ ρ' : Env} {it : IE} {d : D} {xs : List D} {s b : List IS} (h : eval tab C it ρ = .ok d) (hx : items d = some xs) (k : forL (fun ρ => execs tab C N s ρ) t xs ρ = .nx ρ') : execs tab C N (.for_ t it s :: b) ρ = execs tab C N b ρ' := by
  rw [execs, exec, h, ev_ok, hx]; dsimp only; rw [k]; rfl
theorem app_go {ρ : Env} {i : Nat} {e : IE} {d : D} {xs : List D} {b : List IS} (hi : slotD ρ i = some (.lst xs)) (h : eval tab C e ρ = .ok d) (hl : xs.length < line) : execs tab C N (.app i e :: b) ρ = execs tab C N b (ρ.set i (some (.lst (xs ++ [d])))) := by
  rw [execs, exec, hi]; dsimp only; rw [h, ev_ok, if_pos hl]; rfl
theorem sat_go {ρ : Env} {i n : Nat} {e : IE} {d s s' : D} {b : List IS} (hi : slotD ρ i = some s) (h : eval tab C e ρ = .ok d) (k : putFld tab s n d = some s') : execs tab C N (.sat i n e :: b) ρ = execs tab C N b (ρ.set i (some s')) := by
  rw [execs, exec, h, ev_ok, hi]; simp only [Option.bind_some, k]; rfl
theorem exp_go {ρ : Env} {e : IE} {d : D} {b : List IS} (h : eval tab C e ρ = .ok d) : execs tab C N (.exp e :: b) ρ = execs tab C N b ρ := by rw [execs, exec, h]; rfl
theorem asgF_go {ρ : Env} {i : Nat} {e : IE} {d : D} {b : List IS} (h : eval tab C e ρ = .ok d) (k : ownable d = true) : execs tab C N (.asgF i e :: b) ρ = execs tab C N b (ρ.set i (some d)) := by rw [execs, exec, h, ev_ok, if_pos k]; rfl
theorem v_any {ρ : Env} {i : Nat} {d : D} (h : ρ[i]? = some (some d)) (k : ∀ c xs, d ≠ .exn c xs) : eval tab C (.var i) ρ = .ok d := by
  rw [eval, getV, h]
  cases d <;> first | rfl | exact absurd rfl (k _ _)
theorem v_lst {ρ : Env} {i : Nat} {xs : List D} (h : ρ[i]? = some (some (.lst xs))) : eval tab C (.var i) ρ = .ok (.lst xs) := by rw [eval, getV, h]
theorem v_ins {ρ : Env} {i c : Nat} {xs : List D} (h : ρ[i]? = some (some (.ins c xs))) : eval tab C (.var i) ρ = .ok (.ins c xs) := by rw [eval, getV, h]
theorem eval_att {ρ : Env} {a : IE} {n : Nat} {x y : D} (h : eval tab C a ρ = .ok x) (k : attD tab x n = .ok y) : eval tab C (.att a n) ρ = .ok y := by rw [eval, h, R.bind_ok, k]
theorem e_int (k : Int) (ρ : Env) : eval tab C (.int k) ρ = .ok (.int k) := by rw [eval]
theorem e_non (ρ : Env) : eval tab C .non ρ = .ok .non := by rw [eval]
theorem e_bl (b : Bool) (ρ : Env) : eval tab C (.bl b) ρ = .ok (.bl b) := by rw [eval]
theorem e_tup {ρ : Env} {es : List IE} {ds : List D} (h : evals tab C es ρ = .ok ds) : eval tab C (.tup es) ρ = .ok (.tup ds) := by rw [eval, h]; rfl
theorem e_lst {ρ : Env} {es : List IE} {ds : List D} (h : evals tab C es ρ = .ok ds) : eval tab C (.lst es) ρ = .ok (.lst ds) := by rw [eval, h]; rfl
theorem len_at {ρ : Env} {e : IE} {d : D} {xs : List D} (h : eval tab C e ρ = .ok d) (k : items d = some xs) : eval tab C (.bi .len [e]) ρ = .ok (.int xs.length) := by
  rw [bi_1 h]
  simp only [built, k]
theorem range_at {ρ : Env} {a b : IE} {i j : Int} (h : eval tab C a ρ = .ok (.int i)) (k : eval tab C b ρ = .ok (.int j)) (hs : short i = true ∧ short j = true) : eval tab C (.range a b) ρ = .ok (.lst (rangeD i j)) := by
  rw [eval, h, R.bind_ok, k, R.bind_ok]
  simp only [hs.1, hs.2, Bool.and_true, if_true]
theorem range_0 (n : Nat) : rangeD 0 (n : Int) = (List.range n).map fun k : Nat => .int (k : Int) := by
  unfold rangeD
  rw [Int.sub_zero, Int.toNat_natCast]
  simp only [Int.zero_add]
end
/-! rows -/
structure Right (names : Int) (r : Row) : Prop where
  asc : r.Pairwise fun p q => p.1 < q.1
  rng : ∀ p ∈ r, 0 < p.1 ∧ p.1 ≤ names ∧ (p.2 = 0 ∨ p.2 = 1)
theorem right_at {names : Int} : ∀ {r : Row} {last : Int}, r.Pairwise (fun p q => p.1 < q.1) → (∀ p ∈ r, last < p.1 ∧ p.1 ≤ names ∧ (p.2 = 0 ∨ p.2 = 1)) → rightB names last r = true
  | [], _, _, _ => rfl
  | p :: r, last, h, k => by
    obtain ⟨h1, h2⟩ := List.pairwise_cons.mp h
    obtain ⟨k1, k2, k3⟩ := k p List.mem_cons_self
    have b : badP names last p = false := by
      unfold badP
      rw [decide_eq_false (by omega), decide_eq_false (by omega)]
      rcases k3 with k3 | k3 <;> rw [k3] <;> rfl
    rw [rightB, b, right_at h2 fun q hq => ⟨h1 q hq, (k q (List.mem_cons_of_mem _ hq)).2⟩]
    rfl
theorem Right.bool {names : Int} {r : Row} (h : Right names r) : rightB names 0 r = true := right_at h.asc h.rng
theorem Right.nil (names : Int) : Right names [] := ⟨.nil, fun _ h => nomatch h⟩
/-- the answer put in -/
def insR (r : Row) (name a : Int) : Row := r.filter (fun p => decide (p.1 < name)) ++ [(name, a)] ++ r.filter (fun p => decide (name < p.1))
theorem ansIn_none {name : Int} : ∀ {r : Row}, ansIn name r = none ↔ ∀ p ∈ r, p.1 ≠ name
  | [] => by simp [ansIn]
  | p :: r => by
    rw [ansIn]
    by_cases h : p.1 = name
    · simp [h]
    · rw [if_neg h, ansIn_none]; simp [h]
theorem split_perm {name : Int} : ∀ {r : Row}, (∀ p ∈ r, p.1 ≠ name) → (r.filter (fun p => decide (p.1 < name)) ++ r.filter (fun p => decide (name < p.1))).Perm r
  | [], _ => .nil
  | p :: r, h => by
    have ih := split_perm (name := name) (r := r) fun q hq => h q (List.mem_cons_of_mem _ hq)
    have hp := h p List.mem_cons_self
    by_cases q : p.1 < name
    · rw [List.filter_cons_of_pos (by simpa using q), List.filter_cons_of_neg (by simp; omega)]
      exact ih.cons p
    · rw [List.filter_cons_of_neg (by simpa using q), List.filter_cons_of_pos (by simp; omega)]
      exact List.perm_middle.trans (ih.cons p)
theorem insR_perm {r : Row} {name a : Int} (h : ∀ p ∈ r, p.1 ≠ name) : (insR r name a).Perm (r ++ [(name, a)]) := by
  unfold insR
  rw [List.append_assoc]
  refine List.perm_middle.trans ?_
  exact ((split_perm h).cons (name, a)).trans (List.perm_append_singleton _ _).symm
theorem insR_right {names : Int} {r : Row} {name a : Int} (h : Right names r) (h1 : 0 < name) (h2 : name ≤ names) (h3 : a = 0 ∨ a = 1) (hn : ∀ p ∈ r, p.1 ≠ name) : Right names (insR r name a) := by
  refine ⟨?_, fun p hp => ?_⟩
  · unfold insR
    rw [List.append_assoc, List.pairwise_append]
    refine ⟨h.asc.filter _, ?_, fun p hp q hq => ?_⟩
    · rw [List.singleton_append, List.pairwise_cons]
      exact ⟨fun q hq => by simpa using (List.mem_filter.mp hq).2, h.asc.filter _⟩
    · have hp' : p.1 < name := by simpa using (List.mem_filter.mp hp).2
      rw [List.singleton_append, List.mem_cons] at hq
      rcases hq with rfl | hq
      · exact hp'
      · have : name < q.1 := by simpa using (List.mem_filter.mp hq).2
        omega
  · have := (insR_perm (a := a) hn).mem_iff.mp hp
    rw [List.mem_append, List.mem_singleton] at this
    rcases this with z | rfl
    · exact h.rng p z
    · exact ⟨h1, h2, h3⟩
theorem lst_1 (p : Int × Int) : (D.tup [.int p.1, .int p.2]) = pr p := rfl
section
variable {C : Calls} {N : Nat}
theorem with_ok {n : Nat} {r : Row} {name a : Int} (hl : r.length < 1000) (hn : ∀ p ∈ r, p.1 ≠ name) : (CC N (n + 1)).pure 5 [rw r, .int name, .int a] = .ok (rw (insR r name a)) := by
  have z1 := lc_fil (C := CC N n) (t := .nm 5) (enc := pr) (elt := .var 5) (c := .cmp .lt (.sub (.var 5) (.int 0)) (.var 1)) (it := .var 0) (ρ := [some (rw r), some (.int name), some (.int a), none, none, none]) (x := rw r) r pr (fun p => decide (p.1 < name)) (v_rw rfl) rfl (by unfold line; omega)
    fun p _ => ⟨[some (rw r), some (.int name), some (.int a), none, none, some (pr p)], rfl, by rw [cmp_at (eval_sub (v_pr rfl) (e_int _ _)) (v_int rfl)]; exact c_lt _ _, fun _ => v_pr rfl⟩
  have z2 := lc_fil (C := CC N n) (t := .nm 5) (enc := pr) (elt := .var 5) (c := .cmp .gt (.sub (.var 5) (.int 0)) (.var 1)) (it := .var 0) (ρ := [some (rw r), some (.int name), some (.int a), some (.lst ((r.filter fun p => decide (p.1 < name)).map pr)), none, none]) (x := rw r) r pr (fun p => decide (name < p.1)) (v_rw rfl) rfl (by unfold line; omega)
    fun p _ => ⟨[some (rw r), some (.int name), some (.int a), some (.lst ((r.filter fun p => decide (p.1 < name)).map pr)), none, some (pr p)], rfl, by rw [cmp_at (eval_sub (v_pr rfl) (e_int _ _)) (v_int rfl)]; exact c_gt _ _, fun _ => v_pr rfl⟩
  have len := (split_perm hn).length_eq
  rw [List.length_append] at len
  generalize hB : r.filter (fun p => decide (p.1 < name)) = B at *
  generalize hA : r.filter (fun p => decide (name < p.1)) = A at *
  refine p_rt (ρ := [some (rw r), some (.int name), some (.int a), some (.lst (prs B)), some (.lst (prs A)), none]) (fn := f_with_answer) rfl rfl rfl ?_
  show execs tab (CC N n) N f_with_answer.body [some (rw r), some (.int name), some (.int a), none, none, none] = _
  unfold f_with_answer
  rw [asg_go z1 rfl]
  show execs tab (CC N n) N _ [some (rw r), some (.int name), some (.int a), some (.lst (B.map pr)), none, none] = _
  rw [asg_go z2 rfl]
  show execs tab (CC N n) N _ [some (rw r), some (.int name), some (.int a), some (.lst (prs B)), some (.lst (prs A)), none] = _
  rw [if_go (by
    rw [cmp_at (eval_bin (len_at (v_lst rfl) rfl) (len_at (v_lst rfl) rfl)) (len_at (v_rw (r := r) rfl) rfl)]
    rw [c_lt, prs, prs, prs, List.length_map, List.length_map, List.length_map, decide_eq_false (by omega)])]
  refine ret_at ?_
  have e1 : eval tab (CC N n) (.bi .tuple [.var 3]) [some (rw r), some (.int name), some (.int a), some (.lst (prs B)), some (.lst (prs A)), none] = .ok (.tup (prs B)) := by rw [bi_1 (v_lst rfl)]; rfl
  have e2 : eval tab (CC N n) (.bi .tuple [.var 4]) [some (rw r), some (.int name), some (.int a), some (.lst (prs B)), some (.lst (prs A)), none] = .ok (.tup (prs A)) := by rw [bi_1 (v_lst rfl)]; rfl
  have e3 : eval tab (CC N n) (.tup [(.tup [(.var 1), (.var 2)])]) [some (rw r), some (.int name), some (.int a), some (.lst (prs B)), some (.lst (prs A)), none] = .ok (.tup [pr (name, a)]) := e_tup (evals_1 (e_tup (evals_2 (v_int rfl) (v_int rfl))))
  have lb : B.length < 1000 ∧ A.length < 1000 := by omega
  have e4 : eval tab (CC N n) (.bin .add (.bi .tuple [.var 3]) (.tup [(.tup [(.var 1), (.var 2)])])) [some (rw r), some (.int name), some (.int a), some (.lst (prs B)), some (.lst (prs A)), none] = .ok (.tup (prs B ++ [pr (name, a)])) := by
    rw [eval_bin e1 e3, b_cat (by rw [prs, List.length_map, List.length_singleton]; unfold line; omega)]
  rw [eval_bin e4 e2, b_cat (by rw [prs, prs, List.length_append, List.length_map, List.length_map, List.length_singleton]; unfold line; omega)]
  unfold insR rw prs
  rw [hB, hA, List.map_append, List.map_append]
  rfl
end
end K03
set_option linter.all false
set_option autoImplicit false
set_option maxRecDepth 100000
/-! Players and books. -/
namespace K03
open Dn
def bookD (names : Int) (ws : List Row) : D := .ins 8 [.int names, .tup (ws.map rw)]
def liarD (b : D) (r : Row) (k : Int) : D := .ins 7 [b, rw r, .int k]
section
variable {C : Calls} {N : Nat}
theorem liar_init {n : Nat} {c : Nat} {xs : List D} : (CC N (n + 1)).io 8 [.ins 7 [], .ins c xs] = .ok .non (liarD (.ins c xs) [] 0) := by
  refine i_nx (ρ := [some (liarD (.ins c xs) [] 0), some (.ins c xs)]) (fn := f_Liar__init) rfl rfl rfl ?_ rfl
  show execs tab (CC N n) N f_Liar__init.body [some (.ins 7 []), some (.ins c xs)] = _
  unfold f_Liar__init
  rw [sat_go (s := .ins 7 []) rfl (v_ins rfl) (s' := .ins 7 [.ins c xs]) rfl]
  rw [sat_go (s := .ins 7 [.ins c xs]) rfl (e_tup (ds := []) (by rw [evals])) (s' := .ins 7 [.ins c xs, .tup []]) rfl]
  rw [sat_go (s := .ins 7 [.ins c xs, .tup []]) rfl (e_int 0 _) (s' := .ins 7 [.ins c xs, .tup [], .int 0]) rfl]
  rw [execs]; rfl
def freeB (names : Int) (r : Row) (name : Int) : Bool := !(decide (name < 1) || (decide (names < name) || (ansIn name r).isSome))
theorem isnot_opt (o : Option Int) : cmp .isnot (optD o) .non = .ok (.bl o.isSome) := by cases o <;> rfl
theorem att_0 {ρ : Env} {i c : Nat} {xs : List D} {n : Nat} {y : D} (h : ρ[i]? = some (some (.ins c xs))) (k : attD tab (.ins c xs) n = .ok y) : eval tab C (.att (.var i) n) ρ = .ok y := eval_att (v_ins h) k
theorem free_ok {n : Nat} {names : Int} {ws : List Row} {r : Row} {k name : Int} : (CC N (n + 2)).pure 9 [liarD (bookD names ws) r k, .int name] = if freeB names r name then .ok .non else .exc 5 [.int name] := by
  have e : eval tab (CC N (n + 1)) (.or (.cmp .lt (.var 1) (.int 1)) (.or (.cmp .gt (.var 1) (.att (.att (.var 0) 6) 0)) (.cmp .isnot (.call 4 [(.att (.var 0) 3), (.var 1)]) .non))) [some (liarD (bookD names ws) r k), some (.int name)] = .ok (.bl (!freeB names r name)) := by
    unfold freeB
    rw [Bool.not_not]
    refine eval_or (by rw [cmp_at (v_int rfl) (e_int _ _)]; exact c_lt _ _) fun _ => eval_or ?_ fun _ => ?_
    · rw [cmp_at (v_int rfl) (eval_att (att_0 (y := bookD names ws) rfl rfl) (y := .int names) rfl)]; exact c_gt _ _
    · refine (cmp_at (x := optD (ansIn name r)) (y := .non) ?_ (e_non _)).trans (isnot_opt _)
      rw [eval, evals_2 (att_0 (y := rw r) rfl rfl) (v_int (k := name) rfl), R.bind_ok]
      exact answer_ok
  cases q : freeB names r name with
  | true =>
    rw [if_pos rfl]
    refine p_nx (ρ := [some (liarD (bookD names ws) r k), some (.int name)]) (fn := f_Liar_check_free) rfl rfl rfl ?_
    show execs tab (CC N (n + 1)) N f_Liar_check_free.body [some (liarD (bookD names ws) r k), some (.int name)] = _
    unfold f_Liar_check_free
    rw [if_go (by rw [e, q]; rfl), execs]
  | false =>
    rw [if_neg (by decide)]
    refine p_ex (ρ := [some (liarD (bookD names ws) r k), some (.int name)]) (fn := f_Liar_check_free) rfl rfl rfl ?_
    show execs tab (CC N (n + 1)) N f_Liar_check_free.body [some (liarD (bookD names ws) r k), some (.int name)] = _
    unfold f_Liar_check_free
    rw [execs, ife_t (by rw [e, q]; rfl), execs, exec, evals_1 (v_int (k := name) rfl)]
    rfl
theorem freeB_iff {names : Int} {r : Row} {name : Int} : freeB names r name = true ↔ 1 ≤ name ∧ name ≤ names ∧ ∀ p ∈ r, p.1 ≠ name := by
  rw [← ansIn_none]
  unfold freeB
  cases ansIn name r with
  | none =>
    simp
  | some v => simp
theorem hold_ok {n : Nat} {names : Int} {ws : List Row} {r : Row} {k name a : Int} (hl : r.length < 1000) : (CC N (n + 3)).io 10 [liarD (bookD names ws) r k, .int name, .int a] =
    if freeB names r name then .ok (.int a) (liarD (bookD names ws) (insR r name a) (k + 1)) else .exc 5 [.int name] (liarD (bookD names ws) r k) := by
  have e : eval tab (CC N (n + 2)) (.mthL 9 (.var 0) [(.var 1)]) [some (liarD (bookD names ws) r k), some (.int name), some (.int a)] = if freeB names r name then .ok .non else .exc 5 [.int name] := by
    rw [eval, v_ins (c := 7) rfl, R.bind_ok]
    show ((evals tab (CC N (n + 2)) [.var 1] _).bind fun ds => hardR ((CC N (n + 2)).pure 9 (liarD (bookD names ws) r k :: ds))) = _
    rw [evals_1 (v_int (k := name) rfl), R.bind_ok, free_ok]
    cases freeB names r name <;> rfl
  cases q : freeB names r name with
  | true =>
    rw [if_pos rfl]
    rw [q, if_pos rfl] at e
    have fr := (freeB_iff.mp q).2.2
    refine i_rt (ρ := [some (liarD (bookD names ws) (insR r name a) (k + 1)), some (.int name), some (.int a)]) (fn := f_Liar_hold) rfl rfl rfl ?_ rfl
    show execs tab (CC N (n + 2)) N f_Liar_hold.body [some (liarD (bookD names ws) r k), some (.int name), some (.int a)] = _
    unfold f_Liar_hold
    rw [exp_go e]
    rw [sat_go (s := liarD (bookD names ws) r k) (d := rw (insR r name a)) (s' := liarD (bookD names ws) (insR r name a) k) rfl (by
      rw [eval, evals_3 (att_0 (y := rw r) rfl rfl) (v_int (k := name) rfl) (v_int (k := a) rfl), R.bind_ok]
      exact with_ok hl fr) rfl]
    show execs tab (CC N (n + 2)) N _ [some (liarD (bookD names ws) (insR r name a) k), some (.int name), some (.int a)] = _
    rw [execs, exec]
    show ((ev (eval tab (CC N (n + 2)) (.int 1) _) _ fun d => _).seq _) = _
    rw [e_int]
    show execs tab (CC N (n + 2)) N _ [some (liarD (bookD names ws) (insR r name a) (k + 1)), some (.int name), some (.int a)] = _
    exact ret_at (v_int rfl)
  | false =>
    rw [if_neg (by decide)]
    rw [q, if_neg (by decide)] at e
    refine i_ex (ρ := [some (liarD (bookD names ws) r k), some (.int name), some (.int a)]) (fn := f_Liar_hold) rfl rfl rfl ?_ rfl
    show execs tab (CC N (n + 2)) N f_Liar_hold.body [some (liarD (bookD names ws) r k), some (.int name), some (.int a)] = _
    unfold f_Liar_hold
    rw [execs, exec, e]; rfl
/-! breaks -/
def brk (r : Row) (w : Row) : Bool := (den w).all fun p => decide (p ∈ r)
def brks (ws : List Row) (r : Row) : List Nat := (List.range ws.length).filter fun i => brk r (ws.getD i [])
def nats (xs : List Nat) : List D := xs.map fun i : Nat => .int (i : Int)
theorem enum_0 (xs : List D) : enumD 0 xs = (List.range xs.length).map fun i : Nat => .tup [.int (0 + (i : Int)), xs.getD i .non] := rfl
theorem getD_map {ws : List Row} {i : Nat} (h : i < ws.length) : (ws.map rw).getD i .non = rw (ws.getD i []) := by
  rw [List.getD_eq_getElem?_getD, List.getD_eq_getElem?_getD, List.getElem?_map, List.getElem?_eq_getElem h]; rfl
theorem breaks_ok {n : Nat} {names : Int} {ws : List Row} {r : Row} (hr : Right names r) (hw : ∀ w ∈ ws, w.length ≤ line) (hn : ws.length ≤ line) : (CC N (n + 3)).pure 13 [bookD names ws, rw r] = .ok (.tup (nats (brks ws r))) := by
  refine p_rt (ρ := [some (bookD names ws), some (rw r), none, none]) (fn := f_Book_breaks) rfl rfl rfl ?_
  show execs tab (CC N (n + 2)) N f_Book_breaks.body [some (bookD names ws), some (rw r), none, none] = _
  unfold f_Book_breaks
  rw [exp_go (d := .non) (by
    rw [eval, evals_2 (att_0 (y := .int names) rfl rfl) (v_rw (r := r) rfl), R.bind_ok]
    exact check_ok hr.bool)]
  refine ret_at ?_
  have it : eval tab (CC N (n + 2)) (.enum (.att (.var 0) 8) 0) [some (bookD names ws), some (rw r), none, none] = .ok (.lst (enumD 0 (ws.map rw))) := by
    rw [eval, att_0 (y := .tup (ws.map rw)) rfl rfl, R.bind_ok]; rfl
  have z := lc_fil (C := CC N (n + 2)) (t := .tp [2, 3]) (enc := fun i : Nat => .tup [.int (0 + (i : Int)), (ws.map rw).getD i .non]) (elt := .var 2) (c := .call 3 [(.call 2 [(.var 3)]), (.var 1)]) (ρ := [some (bookD names ws), some (rw r), none, none])
    (List.range ws.length) (fun i : Nat => .int (i : Int)) (fun i => brk r (ws.getD i [])) it (by rw [items_lst, enum_0, List.length_map]) (by rw [List.length_range]; exact hn)
    fun i hi => by
      have hi' := List.mem_range.mp hi
      have hm : ws.getD i [] ∈ ws := by
        rw [List.getD_eq_getElem?_getD, List.getElem?_eq_getElem hi']; exact List.getElem_mem hi'
      refine ⟨[some (bookD names ws), some (rw r), some (.int (0 + (i : Int))), some (rw (ws.getD i []))], ?_, ?_, fun _ => ?_⟩
      · rw [getD_map hi']; rfl
      · have e2 : eval tab (CC N (n + 2)) (.call 2 [(.var 3)]) [some (bookD names ws), some (rw r), some (.int (0 + (i : Int))), some (rw (ws.getD i []))] = .ok (rw (den (ws.getD i []))) := by
          rw [eval, evals_1 (v_rw (r := ws.getD i []) rfl), R.bind_ok]
          exact denied_ok (hw _ hm)
        rw [eval, evals_2 e2 (v_rw (r := r) rfl), R.bind_ok]
        exact within_ok (by unfold den; rw [List.length_map]; exact hw _ hm)
      · rw [v_int (k := 0 + (i : Int)) rfl, Int.zero_add]
  rw [bi_1 z]
  rfl
theorem broken_ok {n : Nat} {names : Int} {ws : List Row} {r : Row} {k : Int} (hr : Right names r) (hw : ∀ w ∈ ws, w.length ≤ line) (hn : ws.length ≤ line) : (CC N (n + 4)).pure 11 [liarD (bookD names ws) r k] = .ok (.tup (nats (brks ws r))) := by
  refine p_rt (ρ := [some (liarD (bookD names ws) r k)]) (fn := f_Liar_broken) rfl rfl rfl ?_
  show execs tab (CC N (n + 3)) N f_Liar_broken.body [some (liarD (bookD names ws) r k)] = _
  unfold f_Liar_broken
  refine ret_at ?_
  rw [eval, att_0 (y := bookD names ws) rfl rfl, R.bind_ok]
  show ((evals tab (CC N (n + 3)) [.att (.var 0) 3] _).bind fun ds => (CC N (n + 3)).pure 13 (bookD names ws :: ds)) = _
  rw [evals_1 (att_0 (y := rw r) rfl rfl), R.bind_ok]
  exact breaks_ok hr hw hn
theorem number_ok {n : Nat} {a : Int} : (CC N (n + 1)).pure 18 [.int a, .int a] = .ok (.bl true) := by
  refine p_rt (ρ := [some (.int a), some (.int a)]) (fn := f_law_is_number) rfl rfl rfl ?_
  show execs tab (CC N n) N f_law_is_number.body [some (.int a), some (.int a)] = _
  unfold f_law_is_number
  refine ret_at ?_
  have i1 : eval tab (CC N n) (.isi (.var 0) .int) [some (.int a), some (.int a)] = .ok (.bl true) := by rw [eval, v_int (k := a) rfl]; rfl
  have i2 : eval tab (CC N n) (.isi (.var 0) .bool) [some (.int a), some (.int a)] = .ok (.bl false) := by rw [eval, v_int (k := a) rfl]; rfl
  have e := eval_and i1 fun _ => eval_and (eval_not i2) fun _ => (cmp_at (v_int (ρ := [some (.int a), some (.int a)]) (i := 0) (k := a) rfl) (v_int (i := 1) (k := a) rfl)).trans (c_eq a a)
  rw [e, decide_eq_true rfl]; rfl
theorem isi_tup {ρ : Env} {e : IE} {xs : List D} (h : eval tab C e ρ = .ok (.tup xs)) : eval tab C (.isi e .tuple) ρ = .ok (.bl true) := by rw [eval, h]; rfl
theorem short_small {k : Nat} (h : k ≤ 1000000) : short (k : Int) = true := by
  unfold short
  rw [decide_eq_true_eq]
  have : (2:Nat) ^ 62 > 1000000 := by decide
  omega
theorem row_ok {n : Nat} {r : Row} {d : D} (hd : items d = some (prs r)) (hx : ∀ c xs, d ≠ .exn c xs) (hl : r.length ≤ 1000000) : (CC N (n + 2)).pure 19 [rw r, d] = .ok (.bl true) := by
  have L : ∀ x2, eval tab (CC N (n + 1)) (.bi .len [.var 1]) [some (rw r), some d, x2] = .ok (.int r.length) := fun x2 => by rw [len_at (v_any rfl hx) hd, prs, List.length_map]
  obtain ⟨ρ', e, z⟩ := forL_range (n := r.length) (t := .nm 2) (body := fun ρ => execs tab (CC N (n + 1)) N [(.ife (.or (.not (.isi (.sub (.var 0) (.var 2)) .tuple)) (.cmp .ne (.bi .len [(.sub (.var 0) (.var 2))]) (.int 2))) [(.ret (.bl false))] []), (.ife (.or (.not (.call 18 [(.sub (.sub (.var 0) (.var 2)) (.int 0)), (.sub (.sub (.var 1) (.var 2)) (.int 0))])) (.not (.call 18 [(.sub (.sub (.var 0) (.var 2)) (.int 1)), (.sub (.sub (.var 1) (.var 2)) (.int 1))]))) [(.ret (.bl false))] [])] ρ)
    (enc := fun k : Nat => .int (k : Int)) (fun _ ρ => ∃ x2, ρ = [some (rw r), some d, x2]) (ρ := [some (rw r), some d, none]) ⟨none, rfl⟩ (by
      rintro i ρ hi ⟨x2, rfl⟩
      refine ⟨[some (rw r), some d, some (.int i)], [some (rw r), some d, some (.int i)], rfl, ?_, _, rfl⟩
      have gi : (prs r)[i]? = some (pr r[i]) := by rw [prs, List.getElem?_map, List.getElem?_eq_getElem hi]; rfl
      have s0 : eval tab (CC N (n + 1)) (.sub (.var 0) (.var 2)) [some (rw r), some d, some (.int i)] = .ok (pr r[i]) := by
        rw [eval_sub (v_rw (r := r) rfl) (v_int (k := i) rfl)]; exact sub_at rfl gi
      have s1 : eval tab (CC N (n + 1)) (.sub (.var 1) (.var 2)) [some (rw r), some d, some (.int i)] = .ok (pr r[i]) := by
        rw [eval_sub (v_any rfl hx) (v_int (k := i) rfl)]; exact sub_at hd gi
      have num : ∀ (j : Int) (v : Int), sub (pr r[i]) (.int j) = .ok (.int v) → eval tab (CC N (n + 1)) (.call 18 [(.sub (.sub (.var 0) (.var 2)) (.int j)), (.sub (.sub (.var 1) (.var 2)) (.int j))]) [some (rw r), some d, some (.int i)] = .ok (.bl true) := fun j v h => by
        rw [eval, evals_2 ((eval_sub s0 (e_int _ _)).trans h) ((eval_sub s1 (e_int _ _)).trans h), R.bind_ok]
        exact number_ok
      rw [if_go (eval_or (x := false) (y := false) (eval_not (isi_tup s0)) fun _ => by
        rw [cmp_at (len_at s0 (xs := [.int r[i].1, .int r[i].2]) rfl) (e_int _ _)]; exact c_ne _ _)]
      rw [if_go (eval_or (x := false) (y := false) (eval_not (num 0 r[i].1 rfl)) fun _ => eval_not (num 1 r[i].2 rfl)), execs])
  obtain ⟨x2, rfl⟩ := z
  refine p_rt (ρ := [some (rw r), some d, x2]) (fn := f_law_is_row) rfl rfl rfl ?_
  show execs tab (CC N (n + 1)) N f_law_is_row.body [some (rw r), some d, none] = _
  unfold f_law_is_row
  rw [if_go (eval_or (x := false) (y := false) (eval_not (isi_tup (v_rw (r := r) rfl))) fun _ => by
    rw [cmp_at (len_at (v_rw (r := r) rfl) rfl) (L _), prs, List.length_map, c_ne, decide_eq_true rfl]; rfl)]
  rw [for_go (range_at (e_int _ _) (L _) ⟨rfl, short_small hl⟩) (by rw [items_lst, range_0]) e]
  exact ret_at (e_bl _ _)
end
end K03
set_option linter.all false
set_option autoImplicit false
set_option maxRecDepth 100000
/-! Draws, wishes, books made. -/
namespace K03
open Dn PySem.W PyProof.Rows
theorem toks_int (i : Int) : keyToks (py (.int i)) = [.inl i] := by rw [py, keyToks]
theorem ltD_pr {p q : Int × Int} (h : p.1 < q.1) : ltD (pr p) (pr q) = true := by
  show dataLt _ _ = true
  unfold dataLt pr
  simp only [py, pys, keyToks, keyToksAll, List.cons_append, List.nil_append]
  rw [lex_self (O := itemOrd)]
  have ne : (Sum.inl p.1 : Int ⊕ List Nat) ≠ .inl q.1 := fun e => by
    have := Sum.inl.inj e; omega
  rw [lex_diff (O := itemOrd) ne]
  show itemLt (.inl p.1) (.inl q.1) = true
  exact decide_eq_true h
theorem alike_prs : ∀ r s : Row, alikeAll (pys (prs r)) (pys (prs s)) = true
  | [], _ => by simp [prs, pys, alikeAll]
  | _ :: _, [] => by simp [prs, pys, alikeAll]
  | p :: r, q :: s => by
    show alikeAll (py (pr p) :: pys (prs r)) (py (pr q) :: pys (prs s)) = true
    rw [alikeAll, alike_prs r s]; rfl
theorem ltOk_pr (p q : Int × Int) : ltOk (pr p) (pr q) = true := rfl
theorem ltOk_rw (r s : Row) : ltOk (rw r) (rw s) = true := by
  unfold ltOk
  rw [eqOk_rw, eqOk_rw]
  show (true && true && alikeAll (pys (prs r)) (pys (prs s)) && true) = true
  rw [alike_prs]; rfl
theorem alike_all_prs (r : Row) : allAlike (prs r) = true := by
  refine List.all_eq_true.mpr fun a ha => List.all_eq_true.mpr fun b hb => ?_
  obtain ⟨p, -, rfl⟩ := List.mem_map.mp ha
  obtain ⟨q, -, rfl⟩ := List.mem_map.mp hb
  exact ltOk_pr p q
theorem alike_all_rws (ws : List Row) : allAlike (ws.map rw) = true := by
  refine List.all_eq_true.mpr fun a ha => List.all_eq_true.mpr fun b hb => ?_
  obtain ⟨p, -, rfl⟩ := List.mem_map.mp ha
  obtain ⟨q, -, rfl⟩ := List.mem_map.mp hb
  exact ltOk_rw p q
theorem sort_prs {r h : Row} (hr : r.Pairwise fun p q => p.1 < q.1) (p : h.Perm r) : (prs h).mergeSort leD = prs r := by
  rw [sorted_one (ok_prs h).2.2.2 (fun a ha b hb => allAlike_mem (alike_all_prs h) ha hb) (p.map pr)]
  exact sort_asc (List.pairwise_map.mpr (hr.imp ltD_pr))
theorem sorted_at {C : Calls} {ρ : Env} {e : IE} {d : D} {xs : List D} (h : eval tab C e ρ = .ok d) (hd : listed d = some xs) (ha : allAlike xs = true) (hl : xs.length ≤ line) : eval tab C (.bi .sorted [e]) ρ = .ok (.lst (xs.mergeSort leD)) := by
  rw [bi_1 h]
  simp only [built, hd]
  rw [ha, decide_eq_true hl]; rfl
theorem tuple_at {C : Calls} {ρ : Env} {e : IE} {d : D} {xs : List D} (h : eval tab C e ρ = .ok d) (hd : items d = some xs) : eval tab C (.bi .tuple [e]) ρ = .ok (.tup xs) := by
  rw [bi_1 h]
  simp only [built, hd]
theorem list_at {C : Calls} {ρ : Env} {e : IE} {d : D} {xs : List D} (h : eval tab C e ρ = .ok d) (hd : items d = some xs) : eval tab C (.bi .list [e]) ρ = .ok (.lst xs) := by
  rw [bi_1 h]
  simp only [built, hd]
section
variable {C : Calls} {N : Nat}
theorem plain_ok {n : Nat} {r : Row} (hr : r.Pairwise fun p q => p.1 < q.1) (hl : r.length ≤ line) : (CC N (n + 1)).pure 7 [rw r] = .ok (rw r) := by
  refine p_rt (ρ := [some (rw r), none, none]) (fn := f_plain_row) rfl rfl rfl ?_
  show execs tab (CC N n) N f_plain_row.body [some (rw r), none, none] = _
  unfold f_plain_row
  have z := lc_map (C := CC N n) (t := .tp [1, 2]) (enc := pr) (elt := .tup [(.var 1), (.var 2)]) (it := .var 0) (ρ := [some (rw r), none, none]) (x := rw r) r pr (v_rw rfl) rfl hl
    fun p _ => ⟨[some (rw r), some (.int p.1), some (.int p.2)], rfl, e_tup (evals_2 (v_int rfl) (v_int rfl))⟩
  have y := tuple_at (sorted_at z rfl (alike_all_prs r) (by rw [List.length_map]; exact hl)) rfl
  have q : (List.map pr r).mergeSort leD = prs r := sort_prs hr (List.Perm.refl r)
  rw [q] at y
  exact ret_at y
/-- a book's init -/
theorem keyeds_rws (ws : List Row) : keyeds (ws.map rw) = true ∧ deps (ws.map rw) ≤ 2 := by
  induction ws with
  | nil => exact ⟨rfl, Nat.zero_le _⟩
  | cons w ws ih =>
    obtain ⟨h1, h2, h3, h4⟩ := ok_prs w
    refine ⟨?_, ?_⟩
    · show (keyeds (prs w) && keyeds (ws.map rw)) = true
      rw [h4, ih.1]; rfl
    · show max (deps (prs w) + 1) (deps (ws.map rw)) ≤ 2
      exact Nat.max_le.mpr ⟨by omega, ih.2⟩
theorem dedup_nodup : ∀ {xs : List D}, keyeds xs = true → xs.Nodup → dedup xs = xs
  | [], _, _ => rfl
  | x :: xs, h, n => by
    rw [keyeds, Bool.and_eq_true] at h
    obtain ⟨n1, n2⟩ := List.nodup_cons.mp n
    rw [dedup, dedup_nodup h.2 n2, if_neg fun z => n1 ((anyEq_keyed h.1 h.2).mp z)]
theorem sset_asc {ws : List Row} (h : (ws.map rw).Pairwise fun a b => ltD a b = true) : (dedup (ws.map rw)).mergeSort leD = ws.map rw := by
  have nd : (ws.map rw).Nodup := h.imp fun {a b} z e => by
    subst e; rw [ltD_irrefl] at z; cases z
  rw [dedup_nodup (keyeds_rws ws).1 nd, sort_asc h]
theorem book_init {n : Nat} {names : Int} {ws : List Row} (h0 : 0 ≤ names) (h1 : names ≤ 40) (hw : ∀ w ∈ ws, Right names w ∧ w.length ≤ 1000) (hl : ws.length < 64) (ha : (ws.map rw).Pairwise fun a b => ltD a b = true) :
    (CC N (n + 2)).io 12 [.ins 8 [], .int names, .lst (ws.map rw)] = .ok .non (bookD names ws) := by
  obtain ⟨ρ', e, z⟩ := forL_range (n := ws.length) (t := .tp [4, 5]) (body := fun ρ => execs tab (CC N (n + 1)) N [(.asg (.nm 6) (.call 7 [(.var 5)])), (.ife (.not (.call 0 [(.var 1), (.var 6)])) [(.rse 2 [(.var 4)])] []), (.app 3 (.var 6))] ρ)
    (enc := fun i : Nat => .tup [.int (0 + (i : Int)), (ws.map rw).getD i .non]) (fun i ρ => ∃ x4 x5 x6, ρ = [some (.ins 8 []), some (.int names), some (.lst (ws.map rw)), some (.lst ((ws.take i).map rw)), x4, x5, x6]) (ρ := [some (.ins 8 []), some (.int names), some (.lst (ws.map rw)), some (.lst []), none, none, none])
    ⟨none, none, none, by rw [List.take_zero]; rfl⟩ (by
      rintro i ρ hi ⟨x4, x5, x6, rfl⟩
      have hg : ws.getD i [] = ws[i] := by rw [List.getD_eq_getElem?_getD, List.getElem?_eq_getElem hi]; rfl
      have hm := hw _ (List.getElem_mem hi)
      refine ⟨[some (.ins 8 []), some (.int names), some (.lst (ws.map rw)), some (.lst ((ws.take i).map rw)), some (.int (0 + (i : Int))), some (rw ws[i]), x6],
        [some (.ins 8 []), some (.int names), some (.lst (ws.map rw)), some (.lst ((ws.take (i + 1)).map rw)), some (.int (0 + (i : Int))), some (rw ws[i]), some (rw ws[i])], ?_, ?_, _, _, _, rfl⟩
      · rw [getD_map hi, hg]; rfl
      · have c : eval tab (CC N (n + 1)) (.call 7 [(.var 5)]) [some (.ins 8 []), some (.int names), some (.lst (ws.map rw)), some (.lst ((ws.take i).map rw)), some (.int (0 + (i : Int))), some (rw ws[i]), x6] = .ok (rw ws[i]) := by
          rw [eval, evals_1 (v_rw (r := ws[i]) rfl), R.bind_ok]
          exact plain_ok hm.1.asc (Nat.le_trans hm.2 (by unfold line; omega))
        rw [asg_go c rfl]
        show execs tab (CC N (n + 1)) N _ [some (.ins 8 []), some (.int names), some (.lst (ws.map rw)), some (.lst ((ws.take i).map rw)), some (.int (0 + (i : Int))), some (rw ws[i]), some (rw ws[i])] = _
        have c2 : eval tab (CC N (n + 1)) (.call 0 [(.var 1), (.var 6)]) [some (.ins 8 []), some (.int names), some (.lst (ws.map rw)), some (.lst ((ws.take i).map rw)), some (.int (0 + (i : Int))), some (rw ws[i]), some (rw ws[i])] = .ok (.bl true) := by
          rw [eval, evals_2 (v_int (k := names) rfl) (v_rw (r := ws[i]) rfl), R.bind_ok]
          exact is_right hm.1.bool
        rw [if_go (eval_not c2)]
        rw [app_go (xs := (ws.take i).map rw) rfl (v_rw (r := ws[i]) rfl) (by rw [List.length_map, List.length_take]; unfold line; omega), execs]
        rw [List.take_succ, List.getElem?_eq_getElem hi, List.map_append]
        rfl)
  obtain ⟨x4, x5, x6, rfl⟩ := z
  rw [List.take_length] at e
  refine i_nx (ρ := [some (bookD names ws), some (.int names), some (.lst (ws.map rw)), some (.lst (ws.map rw)), x4, x5, x6]) (fn := f_Book__init) rfl rfl rfl ?_ rfl
  show execs tab (CC N (n + 1)) N f_Book__init.body [some (.ins 8 []), some (.int names), some (.lst (ws.map rw)), none, none, none, none] = _
  unfold f_Book__init
  rw [if_go (eval_or (x := false) (y := false) (by rw [cmp_at (v_int (k := names) rfl) (e_int _ _), c_lt, decide_eq_false (by omega)]) fun _ => by rw [cmp_at (v_int (k := names) rfl) (e_int _ _), c_gt, decide_eq_false (by omega)])]
  rw [asgF_go (e_lst (ds := []) (by rw [evals])) rfl]
  show execs tab (CC N (n + 1)) N _ [some (.ins 8 []), some (.int names), some (.lst (ws.map rw)), some (.lst []), none, none, none] = _
  rw [for_go (ρ := [some (.ins 8 []), some (.int names), some (.lst (ws.map rw)), some (.lst []), none, none, none]) (d := .lst (enumD 0 (ws.map rw))) (by rw [eval, v_lst (xs := ws.map rw) rfl, R.bind_ok]; rfl) rfl (by rw [enum_0, List.length_map]; exact e)]
  have s : eval tab (CC N (n + 1)) (.bi .sset [.var 3]) [some (.ins 8 []), some (.int names), some (.lst (ws.map rw)), some (.lst (ws.map rw)), x4, x5, x6] = .ok (.lst (ws.map rw)) := by
    rw [bi_1 (v_lst (xs := ws.map rw) rfl)]
    simp only [built, listed]
    rw [alike_all_rws, (keyeds_rws ws).1, show (ws.map rw).all isTup = true from List.all_eq_true.mpr (fun x hx => by obtain ⟨w, -, rfl⟩ := List.mem_map.mp hx; rfl), decide_eq_true (by have := (keyeds_rws ws).2; omega), decide_eq_true (by rw [List.length_map]; exact hl), sset_asc ha]; rfl
  rw [asgF_go s rfl]
  show execs tab (CC N (n + 1)) N _ [some (.ins 8 []), some (.int names), some (.lst (ws.map rw)), some (.lst (ws.map rw)), x4, x5, x6] = _
  rw [if_go (by rw [cmp_at (len_at (v_lst rfl) rfl) (e_int _ _), List.length_map, c_gt, decide_eq_false (by omega)])]
  rw [sat_go (s := .ins 8 []) rfl (v_int (k := names) rfl) (s' := .ins 8 [.int names]) rfl]
  rw [sat_go (s := .ins 8 [.int names]) (d := .tup (ws.map rw)) (s' := bookD names ws) rfl (tuple_at (v_lst (xs := ws.map rw) rfl) rfl) rfl, execs]
  rfl
theorem eq_refl {d : D} (h : eqOk d = true) (a : alike (py d) (py d) = true) : cmp .eq d d = .ok (.bl true) ∧ cmp .ne d d = .ok (.bl false) := by
  have : eqD d d = true := eqv_refl_alike _ a
  exact ⟨by simp only [cmp, h, Bool.and_true, if_true, this], by simp only [cmp, h, Bool.and_true, if_true, this]; rfl⟩
theorem ok_rws (ws : List Row) : flats (ws.map rw) = true ∧ deps (ws.map rw) ≤ 2 ∧ alikeAll (pys (ws.map rw)) (pys (ws.map rw)) = true := by
  induction ws with
  | nil => exact ⟨rfl, Nat.zero_le _, rfl⟩
  | cons w ws ih =>
    obtain ⟨h1, h2, h3, h4⟩ := ok_prs w
    refine ⟨?_, ?_, ?_⟩
    · show (flats (prs w) && flats (ws.map rw)) = true
      rw [h1, ih.1]; rfl
    · show max (deps (prs w) + 1) (deps (ws.map rw)) ≤ 2
      exact Nat.max_le.mpr ⟨by omega, ih.2.1⟩
    · show alikeAll (py (rw w) :: pys (ws.map rw)) (py (rw w) :: pys (ws.map rw)) = true
      rw [alikeAll, ih.2.2]
      show (alikeAll (pys (prs w)) (pys (prs w)) && true) = true
      rw [alike_prs]; rfl
theorem book_eq {n : Nat} {names : Int} {ws : List Row} : (CC N (n + 1)).pure 14 [bookD names ws, bookD names ws] = .ok (.bl true) := by
  refine p_rt (ρ := [some (bookD names ws), some (bookD names ws)]) (fn := f_Book__eq) rfl rfl rfl ?_
  show execs tab (CC N n) N f_Book__eq.body [some (bookD names ws), some (bookD names ws)] = _
  unfold f_Book__eq
  obtain ⟨h1, h2, h3⟩ := ok_rws ws
  refine ret_at (eval_and (x := true) (y := true) (by rw [eval, v_ins (c := 8) rfl]; rfl) fun _ => eval_and (x := true) (y := true) ?_ fun _ => ?_)
  · rw [cmp_at (att_0 (y := .int names) rfl rfl) (att_0 (y := .int names) rfl rfl), c_eq, decide_eq_true rfl]
  · rw [cmp_at (att_0 (y := .tup (ws.map rw)) rfl rfl) (att_0 (y := .tup (ws.map rw)) rfl rfl)]
    refine (eq_refl ?_ ?_).1
    · show (flats (ws.map rw) && decide (deps (ws.map rw) + 1 ≤ 40)) = true
      rw [h1, decide_eq_true (by omega)]; rfl
    · exact h3
/-! the script -/
def scr (s : List Int) : D := .fls (s.map .int)
theorem v_fls {ρ : Env} {i : Nat} {xs : List D} (h : ρ[i]? = some (some (.fls xs))) : eval tab C (.var i) ρ = .ok (.fls xs) := by rw [eval, getV, h]
theorem cell_ok {n : Nat} {s : List Int} {k : Nat} : (CC N (n + 1)).pure 15 [scr s, .int k] = .ok (.int (s.getD k 0)) := by
  have c : eval tab (CC N n) (.cmp .lt (.var 1) (.bi .len [(.var 0)])) [some (scr s), some (.int k)] = .ok (.bl (decide (k < s.length))) := by
    rw [cmp_at (v_int (k := k) rfl) (len_at (v_fls rfl) rfl), List.length_map, c_lt]
    congr 2
    rw [decide_eq_decide]; omega
  refine p_rt (ρ := [some (scr s), some (.int k)]) (fn := f_law_cell) rfl rfl rfl ?_
  show execs tab (CC N n) N f_law_cell.body [some (scr s), some (.int k)] = _
  unfold f_law_cell
  by_cases h : k < s.length
  · rw [decide_eq_true h] at c
    rw [execs, ife_t c, ret_at (d := .int (s.getD k 0)) (by
      rw [eval_sub (v_fls rfl) (v_int (k := k) rfl)]
      refine sub_at rfl ?_
      rw [List.getElem?_map, List.getElem?_eq_getElem h, List.getD_eq_getElem?_getD, List.getElem?_eq_getElem h]; rfl)]
    rfl
  · rw [decide_eq_false h] at c
    rw [if_go c, ret_at (e_int _ _), List.getD_eq_getElem?_getD, List.getElem?_eq_none (by omega)]
    rfl
/-- draws -/
def Drawn (ds : List Int) : Prop := ∀ d ∈ ds, 0 ≤ d ∧ d < 60
def intL (ds : List Int) : D := .lst (ds.map .int)
theorem Drawn.add {ds : List Int} (h : Drawn ds) (x : Int) : Drawn (ds ++ [x.fmod 60]) := by
  intro d hd
  rcases List.mem_append.mp hd with z | z
  · exact h d z
  · rw [List.mem_singleton.mp z]
    exact ⟨Int.fmod_nonneg_of_pos _ (by decide), Int.fmod_lt_of_pos _ (by decide)⟩
theorem draws_ok {n : Nat} {c : Int} {many : Nat} (hm : many ≤ 1000) : ∃ ds : List Int, (CC N (n + 1)).pure 16 [.int c, .int many] = .ok (intL ds) ∧ ds.length = many ∧ Drawn ds := by
  have sh : short 0 = true ∧ short (many : Int) = true := ⟨rfl, short_small (by omega)⟩
  have cnd : eval tab (CC N n) (.cmp .ge (.var 3) (.bin .pow (.int 10) (.int 18))) [some (.int c), some (.int many), some (.lst []), some (.int c.natAbs), none, none, none] = .ok (.bl (decide ((10 : Int) ^ 18 ≤ c.natAbs))) := by
    rw [cmp_at (v_int (k := c.natAbs) rfl) (y := .int ((10 : Int) ^ 18)) (by rw [eval_bin (e_int _ _) (e_int _ _)]; rfl)]; rfl
  cases hc : decide ((10 : Int) ^ 18 ≤ c.natAbs) with
  | true =>
    rw [hc] at cnd
    obtain ⟨ρ', e, z⟩ := forL_range (n := many) (t := .nm 4) (body := fun ρ => execs tab (CC N n) N [(.app 2 (.bin .mod (.var 3) (.int 60))), (.asg (.nm 3) (.bin .fdiv (.var 3) (.int 60)))] ρ)
      (enc := fun k : Nat => .int (k : Int)) (fun i ρ => ∃ ds x3 x4, ρ = [some (.int c), some (.int many), some (intL ds), some (.int x3), x4, none, none] ∧ ds.length = i ∧ Drawn ds) (ρ := [some (.int c), some (.int many), some (.lst []), some (.int c.natAbs), none, none, none]) ⟨[], _, none, rfl, rfl, fun _ h => nomatch h⟩ (by
        rintro i ρ hi ⟨ds, x3, x4, rfl, hd, hD⟩
        refine ⟨[some (.int c), some (.int many), some (intL ds), some (.int x3), some (.int i), none, none], [some (.int c), some (.int many), some (intL (ds ++ [x3.fmod 60])), some (.int (x3.fdiv 60)), some (.int i), none, none], rfl, ?_, _, _, _, rfl, by rw [List.length_append, hd]; rfl, hD.add x3⟩
        rw [app_go (xs := ds.map .int) rfl ((eval_bin (v_int (k := x3) rfl) (e_int _ _)).trans (b_mod (by decide))) (by rw [List.length_map]; unfold line; omega)]
        rw [asg_go ((eval_bin (v_int (k := x3) rfl) (e_int _ _)).trans (b_fdiv (by decide))) rfl, execs]
        unfold intL
        rw [List.map_append]
        rfl)
    obtain ⟨ds, x3, x4, rfl, hd, hD⟩ := z
    refine ⟨ds, p_rt (ρ := [some (.int c), some (.int many), some (intL ds), some (.int x3), x4, none, none]) (fn := f_law_draws) rfl rfl rfl ?_, hd, hD⟩
    show execs tab (CC N n) N f_law_draws.body [some (.int c), some (.int many), none, none, none, none, none] = _
    unfold f_law_draws
    rw [asgF_go (e_lst (ds := []) (by rw [evals])) rfl]
    show execs tab (CC N n) N _ [some (.int c), some (.int many), some (.lst []), none, none, none, none] = _
    rw [asg_go (d := .int c.natAbs) (by rw [bi_1 (v_int (k := c) rfl)]; rfl) rfl]
    show execs tab (CC N n) N _ [some (.int c), some (.int many), some (.lst []), some (.int c.natAbs), none, none, none] = _
    rw [execs, ife_t cnd, for_go (range_at (e_int _ _) (v_int (k := many) rfl) sh) (by rw [items_lst, range_0]) e, ret_at (v_lst (xs := ds.map .int) rfl)]
    rfl
  | false =>
    rw [hc] at cnd
    obtain ⟨ρ', e, z⟩ := forL_range (n := many) (t := .nm 4) (body := fun ρ => execs tab (CC N n) N [(.asg (.nm 5) (.bin .mod (.bi .int [(.bin .add (.bin .add (.bin .mul (.var 5) (.int 48271)) (.bin .mul (.int 12345) (.var 4))) (.int 7))]) (.int 2147483647))), (.asg (.nm 6) (.bin .mod (.bi .int [(.bin .add (.bin .mul (.var 5) (.int 69621)) (.var 4))]) (.int 1000003))), (.app 2 (.bin .mod (.bin .fdiv (.var 6) (.int 3)) (.int 60)))] ρ)
      (enc := fun k : Nat => .int (k : Int)) (fun i ρ => ∃ ds x5 x4 x6, ρ = [some (.int c), some (.int many), some (intL ds), some (.int c.natAbs), x4, some (.int x5), x6] ∧ ds.length = i ∧ Drawn ds) (ρ := [some (.int c), some (.int many), some (.lst []), some (.int c.natAbs), none, some (.int (c.natAbs + 17)), none]) ⟨[], _, none, none, rfl, rfl, fun _ h => nomatch h⟩ (by
        rintro i ρ hi ⟨ds, x5, x4, x6, rfl, hd, hD⟩
        have mulR : ∀ (a b : Int), small b = true → bin .mul (.int a) (.int b) = .ok (.int (a * b)) := fun a b h => by
          show (if small a || small b then _ else _) = _
          rw [h, Bool.or_true]; rfl
        have mulL : ∀ (a b : Int), small a = true → bin .mul (.int a) (.int b) = .ok (.int (a * b)) := fun a b h => by
          show (if small a || small b then _ else _) = _
          rw [h, Bool.true_or]; rfl
        have intA : ∀ {e : IE} {ρ : Env} {k : Int}, eval tab (CC N n) e ρ = .ok (.int k) → eval tab (CC N n) (.bi .int [e]) ρ = .ok (.int k) := fun h => by rw [bi_1 h]; rfl
        refine ⟨[some (.int c), some (.int many), some (intL ds), some (.int c.natAbs), some (.int i), some (.int x5), x6], ?_⟩
        have s1 : eval tab (CC N n) (.bin .mod (.bi .int [(.bin .add (.bin .add (.bin .mul (.var 5) (.int 48271)) (.bin .mul (.int 12345) (.var 4))) (.int 7))]) (.int 2147483647)) [some (.int c), some (.int many), some (intL ds), some (.int c.natAbs), some (.int i), some (.int x5), x6] = .ok (.int ((x5 * 48271 + 12345 * (i : Int) + 7).fmod 2147483647)) :=
          (eval_bin (intA ((eval_bin ((eval_bin ((eval_bin (v_int (k := x5) rfl) (e_int _ _)).trans (mulR _ _ rfl)) ((eval_bin (e_int _ _) (v_int (k := i) rfl)).trans (mulL _ _ rfl))).trans (b_add _ _)) (e_int _ _)).trans (b_add _ _))) (e_int _ _)).trans (b_mod (by decide))
        generalize (x5 * 48271 + 12345 * (i : Int) + 7).fmod 2147483647 = y5 at s1
        have s2 : eval tab (CC N n) (.bin .mod (.bi .int [(.bin .add (.bin .mul (.var 5) (.int 69621)) (.var 4))]) (.int 1000003)) [some (.int c), some (.int many), some (intL ds), some (.int c.natAbs), some (.int i), some (.int y5), x6] = .ok (.int ((y5 * 69621 + (i : Int)).fmod 1000003)) :=
          (eval_bin (intA ((eval_bin ((eval_bin (v_int (k := y5) rfl) (e_int _ _)).trans (mulR _ _ rfl)) (v_int (k := i) rfl)).trans (b_add _ _))) (e_int _ _)).trans (b_mod (by decide))
        generalize (y5 * 69621 + (i : Int)).fmod 1000003 = y6 at s2
        refine ⟨[some (.int c), some (.int many), some (intL (ds ++ [(y6.fdiv 3).fmod 60])), some (.int c.natAbs), some (.int i), some (.int y5), some (.int y6)], rfl, ?_, _, _, _, _, rfl, by rw [List.length_append, hd]; rfl, hD.add _⟩
        rw [asg_go s1 rfl]
        show execs tab (CC N n) N _ [some (.int c), some (.int many), some (intL ds), some (.int c.natAbs), some (.int i), some (.int y5), x6] = _
        rw [asg_go s2 rfl]
        show execs tab (CC N n) N _ [some (.int c), some (.int many), some (intL ds), some (.int c.natAbs), some (.int i), some (.int y5), some (.int y6)] = _
        rw [app_go (xs := ds.map .int) rfl ((eval_bin ((eval_bin (v_int (k := y6) rfl) (e_int _ _)).trans (b_fdiv (by decide))) (e_int _ _)).trans (b_mod (by decide))) (by rw [List.length_map]; unfold line; omega), execs]
        unfold intL
        rw [List.map_append]
        rfl)
    obtain ⟨ds, x5, x4, x6, rfl, hd, hD⟩ := z
    refine ⟨ds, p_rt (ρ := [some (.int c), some (.int many), some (intL ds), some (.int c.natAbs), x4, some (.int x5), x6]) (fn := f_law_draws) rfl rfl rfl ?_, hd, hD⟩
    show execs tab (CC N n) N f_law_draws.body [some (.int c), some (.int many), none, none, none, none, none] = _
    unfold f_law_draws
    rw [asgF_go (e_lst (ds := []) (by rw [evals])) rfl]
    show execs tab (CC N n) N _ [some (.int c), some (.int many), some (.lst []), none, none, none, none] = _
    rw [asg_go (d := .int c.natAbs) (by rw [bi_1 (v_int (k := c) rfl)]; rfl) rfl]
    show execs tab (CC N n) N _ [some (.int c), some (.int many), some (.lst []), some (.int c.natAbs), none, none, none] = _
    rw [if_go cnd, asg_go ((eval_bin (v_int (k := c.natAbs) rfl) (e_int _ _)).trans (b_add _ _)) rfl]
    show execs tab (CC N n) N _ [some (.int c), some (.int many), some (.lst []), some (.int c.natAbs), none, some (.int (c.natAbs + 17)), none] = _
    rw [for_go (range_at (e_int _ _) (v_int (k := many) rfl) sh) (by rw [items_lst, range_0]) e, ret_at (v_lst (xs := ds.map .int) rfl)]
    rfl
end
end K03
set_option linter.all false
set_option autoImplicit false
set_option maxRecDepth 100000
/-! Wishes, and the looks at a liar. -/
namespace K03
open Dn PySem.W PyProof.Rows
section
variable {C : Calls} {N : Nat}
theorem wish_ok {n : Nat} {c : Int} {names : Nat} (hm : names ≤ 1000) : ∃ w : Row, (CC N (n + 2)).pure 17 [.int c, .int names] = .ok (rw w) ∧ Right names w ∧ w.length ≤ names := by
  obtain ⟨ds, e, hd, hD⟩ := draws_ok (N := N) (n := n) (c := c) hm
  have sh : short 0 = true ∧ short (names : Int) = true := ⟨rfl, short_small (by omega)⟩
  have z := lc_fil (C := CC N (n + 1)) (t := .nm 3) (enc := fun k : Nat => .int (k : Int)) (elt := .tup [(.bin .add (.var 3) (.int 1)), (.bin .sub (.bin .mod (.sub (.var 2) (.var 3)) (.int 3)) (.int 1))]) (c := .cmp .gt (.bin .mod (.sub (.var 2) (.var 3)) (.int 3)) (.int 0)) (it := .range (.int 0) (.var 1))
    (ρ := [some (.int c), some (.int names), some (intL ds), none]) (List.range names) (fun k => pr ((k : Int) + 1, (ds.getD k 0).fmod 3 - 1)) (fun k => decide (0 < (ds.getD k 0).fmod 3)) (range_at (e_int _ _) (v_int (k := names) rfl) sh) (by rw [items_lst, range_0]) (by rw [List.length_range]; unfold line; omega)
    fun k hk => by
      have hk' := List.mem_range.mp hk
      have s0 : eval tab (CC N (n + 1)) (.sub (.var 2) (.var 3)) [some (.int c), some (.int names), some (intL ds), some (.int k)] = .ok (.int (ds.getD k 0)) := by
        rw [eval_sub (v_lst (xs := ds.map .int) rfl) (v_int (k := k) rfl)]
        refine sub_at rfl ?_
        rw [List.getElem?_map, List.getElem?_eq_getElem (by omega), List.getD_eq_getElem?_getD, List.getElem?_eq_getElem (by omega)]; rfl
      have s1 := (eval_bin (o := .mod) s0 (e_int 3 _)).trans (b_mod (by decide))
      refine ⟨[some (.int c), some (.int names), some (intL ds), some (.int k)], rfl, ?_, fun _ => ?_⟩
      · rw [cmp_at s1 (e_int _ _)]; exact c_gt _ _
      · exact e_tup (evals_2 ((eval_bin (v_int (k := k) rfl) (e_int _ _)).trans (b_add _ _)) ((eval_bin s1 (e_int _ _)).trans (b_sub _ _)))
  refine ⟨((List.range names).filter fun k => decide (0 < (ds.getD k 0).fmod 3)).map fun k : Nat => ((k : Int) + 1, (ds.getD k 0).fmod 3 - 1), ?_, ⟨?_, fun p hp => ?_⟩, ?_⟩
  · refine p_rt (ρ := [some (.int c), some (.int names), some (intL ds), none]) (fn := f_law_wish) rfl rfl rfl ?_
    show execs tab (CC N (n + 1)) N f_law_wish.body [some (.int c), some (.int names), none, none] = _
    unfold f_law_wish
    rw [asg_go (d := intL ds) (by rw [eval, evals_2 (v_int (k := c) rfl) (v_int (k := names) rfl), R.bind_ok]; exact e) rfl]
    show execs tab (CC N (n + 1)) N _ [some (.int c), some (.int names), some (intL ds), none] = _
    rw [ret_at (tuple_at z rfl)]
    unfold rw prs
    rw [List.map_map]
    rfl
  · rw [List.pairwise_map]
    exact (List.pairwise_lt_range.filter _).imp fun {a b} h => by simp only; omega
  · obtain ⟨k, hk, rfl⟩ := List.mem_map.mp hp
    obtain ⟨h1, h2⟩ := List.mem_filter.mp hk
    have h1 := List.mem_range.mp h1
    have h2 : 0 < (ds.getD k 0).fmod 3 := of_decide_eq_true h2
    have h3 := Int.fmod_lt_of_pos (ds.getD k 0) (b := 3) (by decide)
    simp only
    omega
  · rw [List.length_map]
    exact Nat.le_trans (List.length_filter_le _ _) (by rw [List.length_range]; exact Nat.le_refl _)
theorem all_map {α β : Type} (f : α → β) (p : β → Bool) (xs : List α) : (xs.map f).all p = xs.all fun a => p (f a) := by rw [List.all_map]; rfl
/-- how many words of a wish are denied -/
theorem brk_len {r w : Row} : decide (((w.filter fun p => decide ((p.1, 1 - p.2) ∈ r)).length : Int) = (w.length : Int)) = brk r w := by
  unfold brk den
  rw [all_map, Bool.eq_iff_iff, decide_eq_true_eq, List.all_eq_true]
  constructor
  · intro h a ha
    have h' : (w.filter fun p => decide ((p.1, 1 - p.2) ∈ r)).length = w.length := by omega
    exact List.length_filter_eq_length_iff.mp h' a ha
  · intro h
    have := List.length_filter_eq_length_iff.mpr h
    omega
theorem prp_at {n : Nat} {ρ : Env} {i : Nat} {names : Int} {ws : List Row} {r : Row} {k : Int} (h : ρ[i]? = some (some (liarD (bookD names ws) r k))) (hr : Right names r) (hw : ∀ w ∈ ws, w.length ≤ line) (hn : ws.length ≤ line) : eval tab (CC N (n + 4)) (.prp (.var i) 11) ρ = .ok (.tup (nats (brks ws r))) := by
  rw [eval, v_ins (c := 7) (xs := [bookD names ws, rw r, .int k]) h, R.bind_ok]
  show calm ((CC N (n + 4)).pure 11 [liarD (bookD names ws) r k]) = _
  rw [broken_ok hr hw hn]; rfl
theorem nats_ok (xs : List Nat) : flats (nats xs) = true ∧ deps (nats xs) = 0 ∧ alikeAll (pys (nats xs)) (pys (nats xs)) = true := by
  induction xs with
  | nil => exact ⟨rfl, rfl, rfl⟩
  | cons x xs ih =>
    refine ⟨?_, ?_, ?_⟩
    · show (true && flats (nats xs)) = true
      rw [ih.1]; rfl
    · show max 0 (deps (nats xs)) = 0
      rw [ih.2.1]; rfl
    · show alikeAll (.int x :: pys (nats xs)) (.int x :: pys (nats xs)) = true
      rw [alikeAll, ih.2.2]; rfl
theorem call_at {ρ : Env} {f : Nat} {es : List IE} {ds : List D} {d : D} (h : evals tab C es ρ = .ok ds) (k : C.pure f ds = .ok d) : eval tab C (.call f es) ρ = .ok d := by rw [eval, h, R.bind_ok, k]
theorem liar_is {n : Nat} {names : Int} {ws : List Row} {r held : Row} {k : Int} (hr : Right names r) (hp : held.Perm r) (hl : r.length ≤ 1000) (hw : ∀ w ∈ ws, w.length ≤ 1000) (hn : ws.length ≤ 1000) :
    (CC N (n + 5)).pure 23 [liarD (bookD names ws) r k, .lst (ws.map rw), .lst (prs held), .int k] = .ok (.bl true) := by
  have big : (1000 : Nat) ≤ line := by unfold line; omega
  have hw' : ∀ w ∈ ws, w.length ≤ line := fun w h => Nat.le_trans (hw w h) big
  have hn' : ws.length ≤ line := Nat.le_trans hn big
  obtain ⟨ρ1, e1, z1⟩ := forL_range (n := ws.length) (t := .nm 6) (body := fun ρ => execs tab (CC N (n + 4)) N [(.ife (.cmp .eq (.bi .len [(.lc (.var 7) (.nm 7) (.sub (.var 1) (.var 6)) (some (.cmp .in_ (.tup [(.sub (.var 7) (.int 0)), (.bin .sub (.int 1) (.sub (.var 7) (.int 1)))]) (.var 4))))]) (.bi .len [(.sub (.var 1) (.var 6))])) [(.app 5 (.var 6))] [])] ρ)
    (enc := fun k : Nat => .int (k : Int)) (fun i ρ => ∃ x6, ρ = [some (liarD (bookD names ws) r k), some (.lst (ws.map rw)), some (.lst (prs held)), some (.int k), some (.lst (prs r)), some (.lst (nats ((List.range i).filter fun i => brk r (ws.getD i [])))), x6, none, none])
    (ρ := [some (liarD (bookD names ws) r k), some (.lst (ws.map rw)), some (.lst (prs held)), some (.int k), some (.lst (prs r)), some (.lst []), none, none, none]) ⟨none, rfl⟩ (by
      rintro i ρ hi ⟨x6, rfl⟩
      have hg : ws.getD i [] = ws[i] := by rw [List.getD_eq_getElem?_getD, List.getElem?_eq_getElem hi]; rfl
      have hm := hw _ (List.getElem_mem hi)
      generalize hB : nats ((List.range i).filter fun i => brk r (ws.getD i [])) = B
      have hBl : B.length ≤ 1000 := by
        rw [← hB]; unfold nats; rw [List.length_map]
        exact Nat.le_trans (List.length_filter_le _ _) (by rw [List.length_range]; omega)
      have s0 : ∀ x7, eval tab (CC N (n + 4)) (.sub (.var 1) (.var 6)) [some (liarD (bookD names ws) r k), some (.lst (ws.map rw)), some (.lst (prs held)), some (.int k), some (.lst (prs r)), some (.lst B), some (.int i), x7, none] = .ok (rw ws[i]) := fun x7 => by
        rw [eval_sub (v_lst (xs := ws.map rw) rfl) (v_int (k := i) rfl)]
        refine sub_at rfl ?_
        rw [List.getElem?_map, List.getElem?_eq_getElem hi]; rfl
      have c : eval tab (CC N (n + 4)) (.cmp .eq (.bi .len [(.lc (.var 7) (.nm 7) (.sub (.var 1) (.var 6)) (some (.cmp .in_ (.tup [(.sub (.var 7) (.int 0)), (.bin .sub (.int 1) (.sub (.var 7) (.int 1)))]) (.var 4))))]) (.bi .len [(.sub (.var 1) (.var 6))])) [some (liarD (bookD names ws) r k), some (.lst (ws.map rw)), some (.lst (prs held)), some (.int k), some (.lst (prs r)), some (.lst B), some (.int i), none, none] = .ok (.bl (brk r ws[i])) := by
        have lc := lc_fil (C := CC N (n + 4)) (t := .nm 7) (enc := pr) (elt := .var 7) (it := .sub (.var 1) (.var 6)) (c := .cmp .in_ (.tup [(.sub (.var 7) (.int 0)), (.bin .sub (.int 1) (.sub (.var 7) (.int 1)))]) (.var 4)) (ρ := [some (liarD (bookD names ws) r k), some (.lst (ws.map rw)), some (.lst (prs held)), some (.int k), some (.lst (prs r)), some (.lst B), some (.int i), none, none])
          ws[i] pr (fun p => decide ((p.1, 1 - p.2) ∈ r)) (s0 _) rfl (by omega) fun p _ => ⟨[some (liarD (bookD names ws) r k), some (.lst (ws.map rw)), some (.lst (prs held)), some (.int k), some (.lst (prs r)), some (.lst B), some (.int i), some (pr p), none], rfl, by
            rw [cmp_at (x := pr (p.1, 1 - p.2)) (e_tup (evals_2 (eval_sub (v_pr (p := p) rfl) (e_int 0 _)) ((eval_bin (o := .sub) (x := .int 1) (y := .int p.2) (e_int 1 _) (eval_sub (v_pr (p := p) rfl) (e_int 1 _))).trans (b_sub _ _)))) (v_lst (xs := prs r) rfl)]
            exact c_inl _ _, fun _ => v_pr rfl⟩
        rw [cmp_at (len_at lc rfl) (len_at (s0 _) (xs := prs ws[i]) rfl), List.length_map, prs, List.length_map, c_eq, brk_len]
      refine ⟨_, [some (liarD (bookD names ws) r k), some (.lst (ws.map rw)), some (.lst (prs held)), some (.int k), some (.lst (prs r)), some (.lst (nats ((List.range (i + 1)).filter fun i => brk r (ws.getD i [])))), some (.int i), none, none], rfl, ?_, _, rfl⟩
      show execs tab (CC N (n + 4)) N _ [some (liarD (bookD names ws) r k), some (.lst (ws.map rw)), some (.lst (prs held)), some (.int k), some (.lst (prs r)), some (.lst B), some (.int i), none, none] = _
      rw [List.range_succ, List.filter_append]
      have fin : nats (((List.range i).filter fun i => brk r (ws.getD i [])) ++ [i].filter fun i => brk r (ws.getD i [])) = B ++ nats ([i].filter fun i => brk r (ws.getD i [])) := by rw [← hB]; unfold nats; rw [List.map_append]
      rw [fin]
      cases q : brk r ws[i] with
      | true =>
        rw [q] at c
        rw [List.filter_cons_of_pos (by rw [hg]; exact q), execs, ife_t c, app_go (xs := B) rfl (v_int (k := i) rfl) (by unfold line; omega), execs]; rfl
      | false =>
        rw [q] at c
        rw [List.filter_cons_of_neg (by rw [hg, q]; decide), if_go c, execs]
        simp [nats])
  obtain ⟨x6, rfl⟩ := z1
  change forL _ _ _ _ = O.nx [some (liarD (bookD names ws) r k), some (.lst (ws.map rw)), some (.lst (prs held)), some (.int k), some (.lst (prs r)), some (.lst (nats (brks ws r))), x6, none, none] at e1
  have sB := nats_ok (brks ws r)
  have nl : (nats (brks ws r)).length ≤ line := by
    unfold nats brks; rw [List.length_map]
    exact Nat.le_trans (List.length_filter_le _ _) (by rw [List.length_range]; exact hn')
  obtain ⟨ρ2, e2, z2⟩ := forL_range (n := 2) (t := .nm 6) (body := fun ρ => execs tab (CC N (n + 4)) N [(.ife (.or (.not (.isi (.prp (.var 0) 11) .tuple)) (.cmp .ne (.lc (.var 8) (.nm 8) (.prp (.var 0) 11) none) (.var 5))) [(.ret (.bl false))] [])] ρ)
    (enc := fun k : Nat => .int (k : Int)) (fun i ρ => ∃ x6, ρ = [some (liarD (bookD names ws) r k), some (.lst (ws.map rw)), some (.lst (prs held)), some (.int k), some (.lst (prs r)), some (.lst (nats (brks ws r))), x6, none, none])
    (ρ := [some (liarD (bookD names ws) r k), some (.lst (ws.map rw)), some (.lst (prs held)), some (.int k), some (.lst (prs r)), some (.lst (nats (brks ws r))), x6, none, none]) ⟨x6, rfl⟩ (by
      rintro i ρ hi ⟨x6, rfl⟩
      refine ⟨_, [some (liarD (bookD names ws) r k), some (.lst (ws.map rw)), some (.lst (prs held)), some (.int k), some (.lst (prs r)), some (.lst (nats (brks ws r))), some (.int i), none, none], rfl, ?_, _, rfl⟩
      show execs tab (CC N (n + 4)) N _ [some (liarD (bookD names ws) r k), some (.lst (ws.map rw)), some (.lst (prs held)), some (.int k), some (.lst (prs r)), some (.lst (nats (brks ws r))), some (.int i), none, none] = _
      have pp := prp_at (N := N) (n := n) (ρ := [some (liarD (bookD names ws) r k), some (.lst (ws.map rw)), some (.lst (prs held)), some (.int k), some (.lst (prs r)), some (.lst (nats (brks ws r))), some (.int i), none, none]) (i := 0) rfl hr hw' hn'
      have lc := lc_map (C := CC N (n + 4)) (t := .nm 8) (enc := fun k : Nat => .int (k : Int)) (elt := .var 8) (it := .prp (.var 0) 11) (ρ := [some (liarD (bookD names ws) r k), some (.lst (ws.map rw)), some (.lst (prs held)), some (.int k), some (.lst (prs r)), some (.lst (nats (brks ws r))), some (.int i), none, none])
        (brks ws r) (fun k : Nat => .int (k : Int)) pp rfl (by unfold nats at nl; rwa [List.length_map] at nl) fun j _ => ⟨_, rfl, v_int (k := j) rfl⟩
      rw [if_go (eval_or (x := false) (y := false) (eval_not (isi_tup pp)) fun _ => by
        rw [cmp_at lc (v_lst (xs := nats (brks ws r)) rfl)]
        refine (eq_refl (d := .lst (nats (brks ws r))) ?_ ?_).2
        · show (flats (nats (brks ws r)) && decide (deps (nats (brks ws r)) + 1 ≤ 40)) = true
          rw [sB.1, sB.2.1]; rfl
        · exact sB.2.2), execs])
  obtain ⟨x6', rfl⟩ := z2
  refine p_rt (ρ := [some (liarD (bookD names ws) r k), some (.lst (ws.map rw)), some (.lst (prs held)), some (.int k), some (.lst (prs r)), some (.lst (nats (brks ws r))), x6', none, none]) (fn := f_law_liar_is) rfl rfl rfl ?_
  show execs tab (CC N (n + 4)) N f_law_liar_is.body [some (liarD (bookD names ws) r k), some (.lst (ws.map rw)), some (.lst (prs held)), some (.int k), none, none, none, none, none] = _
  unfold f_law_liar_is
  rw [asg_go (d := .lst (prs r)) (by
    rw [sorted_at (v_lst (xs := prs held) rfl) rfl (alike_all_prs held) (by rw [prs, List.length_map, hp.length_eq]; omega), sort_prs hr.asc hp]) rfl]
  show execs tab (CC N (n + 4)) N _ [some (liarD (bookD names ws) r k), some (.lst (ws.map rw)), some (.lst (prs held)), some (.int k), some (.lst (prs r)), none, none, none, none] = _
  rw [asgF_go (e_lst (ds := []) (by rw [evals])) rfl]
  show execs tab (CC N (n + 4)) N _ [some (liarD (bookD names ws) r k), some (.lst (ws.map rw)), some (.lst (prs held)), some (.int k), some (.lst (prs r)), some (.lst []), none, none, none] = _
  have ln : eval tab (CC N (n + 4)) (.range (.int 0) (.bi .len [.var 1])) [some (liarD (bookD names ws) r k), some (.lst (ws.map rw)), some (.lst (prs held)), some (.int k), some (.lst (prs r)), some (.lst []), none, none, none] = .ok (.lst (rangeD 0 (ws.length : Int))) := by
    refine range_at (e_int _ _) ?_ ⟨rfl, short_small (Nat.le_trans hn (by decide))⟩
    rw [len_at (v_lst (xs := ws.map rw) rfl) rfl, List.length_map]
  rw [for_go ln (by rw [items_lst, range_0]) e1]
  rw [if_go (eval_or (x := false) (y := false) (eval_not (call_at (evals_2 (att_0 (y := rw r) rfl rfl) (v_lst (xs := prs r) rfl)) (row_ok rfl (fun _ _ h => nomatch h) (by omega)))) fun _ =>
    eval_not (call_at (evals_2 (att_0 (y := .int k) rfl rfl) (v_int (k := k) rfl)) number_ok))]
  rw [for_go (range_at (e_int _ _) (e_int _ _) ⟨rfl, rfl⟩) (by rw [items_lst]; exact congrArg some (range_0 2)) e2]
  exact ret_at (e_bl _ _)
/-! _law_hold -/
theorem any_int (a : Int) : ∀ xs : List Int, anyEq (.int a) (xs.map .int) = decide (a ∈ xs)
  | [] => rfl
  | x :: xs => by
    show (eqD (.int x) (.int a) || anyEq (.int a) (xs.map .int)) = _
    rw [any_int a xs, eq_int]
    simp [List.mem_cons, eq_comm (a := a)]
theorem ints_ok (xs : List Int) : eqOk (.lst (xs.map .int)) = true := by
  have : flats (xs.map .int) = true ∧ deps (xs.map .int) = 0 := by
    induction xs with
    | nil => exact ⟨rfl, rfl⟩
    | cons x xs ih => exact ⟨by show (true && flats (xs.map .int)) = true; rw [ih.1]; rfl, by show max 0 (deps (xs.map .int)) = 0; rw [ih.2]; rfl⟩
  show (flats (xs.map .int) && decide (deps (xs.map .int) + 1 ≤ 40)) = true
  rw [this.1, this.2]; rfl
theorem freeB_perm {names : Int} {r held : Row} {name : Int} (p : held.Perm r) : freeB names r name = (decide (1 ≤ name) && decide (name ≤ names) && !decide (name ∈ held.map (·.1))) := by
  rw [Bool.eq_iff_iff, freeB_iff]
  simp only [Bool.and_eq_true, decide_eq_true_eq, Bool.not_eq_true', decide_eq_false_iff_not, List.mem_map, not_exists, not_and]
  constructor
  · rintro ⟨h1, h2, h3⟩
    exact ⟨⟨h1, h2⟩, fun q hq e => h3 q (p.mem_iff.mp hq) e⟩
  · rintro ⟨⟨h1, h2⟩, h3⟩
    exact ⟨h1, h2, fun q hq e => h3 q (p.mem_iff.mpr hq) e⟩
theorem cmp2_at {ρ : Env} {a b c : IE} {x y z : D} {o p : COp} {u v : Bool} (h1 : eval tab C a ρ = .ok x) (h2 : eval tab C b ρ = .ok y) (h3 : cmp o x y = .ok (.bl u)) (h4 : eval tab C c ρ = .ok z) (h5 : cmp p y z = .ok (.bl v)) : eval tab C (.cmp2 o p a b c) ρ = .ok (.bl (u && v)) := by
  rw [eval, h1, R.bind_ok, h2, R.bind_ok, h3, R.bind_ok]
  cases u with
  | true => dsimp only; rw [h4, R.bind_ok, h5]; rfl
  | false => rfl
theorem imth_ok {ρ : Env} {t : Ot} {nm i f c : Nat} {xs ds : List D} {es : List IE} {d s' : D} (h : slotD ρ i = some (.ins c xs)) (hf : tab.meth c nm = some f) (h2 : evals tab C es ρ = .ok ds) (h3 : C.io f (.ins c xs :: ds) = .ok d s') : exec tab C N (.imth t nm i es) ρ = otO t d (ρ.set i (some s')) := by
  rw [exec, h]; dsimp only; rw [hf]; dsimp only; rw [h2, ev_ok, h3]
theorem imth_ex {ρ : Env} {t : Ot} {nm i f c k : Nat} {xs ds ys : List D} {es : List IE} {s' : D} (h : slotD ρ i = some (.ins c xs)) (hf : tab.meth c nm = some f) (h2 : evals tab C es ρ = .ok ds) (h3 : C.io f (.ins c xs :: ds) = .exc k ys s') : exec tab C N (.imth t nm i es) ρ = .ex k ys (ρ.set i (some s')) := by
  rw [exec, h]; dsimp only; rw [hf]; dsimp only; rw [h2, ev_ok, h3]
theorem ical_ok {ρ : Env} {t : Ot} {i f : Nat} {ds : List D} {es : List IE} {d s s' : D} (h : slotD ρ i = some s) (h2 : evals tab C es ρ = .ok ds) (h3 : C.io f (s :: ds) = .ok d s') : exec tab C N (.ical t f i es) ρ = otO t d (ρ.set i (some s')) := by
  rw [exec, h]; dsimp only; rw [h2, ev_ok, h3]
theorem catch_nx {ρ ρ' : Env} {c k i : Nat} {xs : List D} {b : List IS} {hs : HS} (h1 : (tab.exc c && tab.exc k) = true) (h2 : tab.subs c k = true) (h3 : execs tab C N b (ρ.set i (some (.exn c xs))) = .nx ρ') (h4 : noExn (ρ'.set i none) = true) : catches tab C N c xs (.cons k (some i) b hs) ρ = .nx (ρ'.set i none) := by
  simp only [catches, h1, h2, h3, h4, Bool.not_true, Bool.false_eq_true, if_false, if_true, reduceIte]
theorem catch_rt {ρ ρ' : Env} {c k i : Nat} {xs : List D} {d : D} {b : List IS} {hs : HS} (h1 : (tab.exc c && tab.exc k) = true) (h2 : tab.subs c k = true) (h3 : execs tab C N b (ρ.set i (some (.exn c xs))) = .rt d ρ') (h4 : noExn (ρ'.set i none) = true) : catches tab C N c xs (.cons k (some i) b hs) ρ = .rt d (ρ'.set i none) := by
  simp only [catches, h1, h2, h3, h4, Bool.not_true, Bool.false_eq_true, if_false, if_true, reduceIte]
theorem hold_is {n : Nat} {names : Int} {ws : List Row} {r held : Row} {k name a : Int} (hp : held.Perm r) (hl : r.length < 1000) : (CC N (n + 4)).io 24 [liarD (bookD names ws) r k, .int name, .int a, .int names, .lst (prs held)] =
    if freeB names r name then .ok (.lst (prs (held ++ [(name, a)]))) (liarD (bookD names ws) (insR r name a) (k + 1)) else .ok (.lst (prs held)) (liarD (bookD names ws) r k) := by
  have lc := lc_map (C := CC N (n + 3)) (t := .nm 8) (enc := pr) (elt := .sub (.var 8) (.int 0)) (it := .var 4) (ρ := [some (liarD (bookD names ws) r k), some (.int name), some (.int a), some (.int names), some (.lst (prs held)), none, none, none, none]) held (fun p => .int p.1) (v_lst (xs := prs held) rfl) rfl (by rw [hp.length_eq]; unfold line; omega)
    fun p _ => ⟨_, rfl, eval_sub (v_pr (p := p) rfl) (e_int 0 _)⟩
  have fr : eval tab (CC N (n + 3)) (.and (.cmp2 .le .le (.int 1) (.var 1) (.var 3)) (.cmp .notin (.var 1) (.lc (.sub (.var 8) (.int 0)) (.nm 8) (.var 4) none))) [some (liarD (bookD names ws) r k), some (.int name), some (.int a), some (.int names), some (.lst (prs held)), none, none, none, none] = .ok (.bl (freeB names r name)) := by
    rw [freeB_perm hp]
    refine eval_and (cmp2_at (e_int _ _) (v_int (k := name) rfl) (c_le _ _) (v_int (k := names) rfl) (c_le _ _)) fun _ => ?_
    rw [cmp_at (v_int (k := name) rfl) lc]
    have e : held.map (fun p => D.int p.1) = (held.map (·.1)).map .int := by rw [List.map_map]; rfl
    rw [e]
    show (if eqOk (.int name) && eqOk (.lst ((held.map (·.1)).map .int)) then R.ok (D.bl (!anyEq (.int name) ((held.map (·.1)).map .int))) else R.bad) = _
    rw [ints_ok, any_int]; rfl
  have ck : ∀ x, eval tab (CC N (n + 3)) (.mthL 9 (.var 0) [(.var 1)]) [some (liarD (bookD names ws) r k), some (.int name), some (.int a), some (.int names), some (.lst (prs held)), x, none, none, none] = if freeB names r name then .ok .non else .exc 5 [.int name] := fun x => by
    rw [eval, v_ins (c := 7) rfl, R.bind_ok]
    show ((evals tab (CC N (n + 3)) [.var 1] _).bind fun ds => hardR ((CC N (n + 3)).pure 9 (liarD (bookD names ws) r k :: ds))) = _
    rw [evals_1 (v_int (k := name) rfl), R.bind_ok, free_ok]
    cases freeB names r name <;> rfl
  cases q : freeB names r name with
  | true =>
    rw [q] at fr
    simp only [q, if_true] at ck
    rw [if_pos rfl]
    refine i_rt (ρ := [some (liarD (bookD names ws) (insR r name a) (k + 1)), some (.int name), some (.int a), some (.int names), some (.lst (prs held)), some (.bl true), none, some (.int a), none]) (fn := f_law_hold) rfl rfl rfl ?_ rfl
    show execs tab (CC N (n + 3)) N f_law_hold.body [some (liarD (bookD names ws) r k), some (.int name), some (.int a), some (.int names), some (.lst (prs held)), none, none, none, none] = _
    unfold f_law_hold
    rw [asg_go fr rfl]
    show execs tab (CC N (n + 3)) N _ [some (liarD (bookD names ws) r k), some (.int name), some (.int a), some (.int names), some (.lst (prs held)), some (.bl true), none, none, none] = _
    rw [execs, exec]
    rw [if_go (eval_or (x := false) (y := false) (by rw [cmp_at (ck _) (e_non _)]; rfl) fun _ => eval_not (x := true) (by rw [eval]; rfl)), execs]
    show execs tab (CC N (n + 3)) N _ [some (liarD (bookD names ws) r k), some (.int name), some (.int a), some (.int names), some (.lst (prs held)), some (.bl true), none, none, none] = _
    rw [execs, exec]
    have h1 : exec tab (CC N (n + 3)) N (.imth (.tg (.nm 7)) 10 0 [(.var 1), (.var 2)]) [some (liarD (bookD names ws) r k), some (.int name), some (.int a), some (.int names), some (.lst (prs held)), some (.bl true), none, none, none] =
        .nx [some (liarD (bookD names ws) (insR r name a) (k + 1)), some (.int name), some (.int a), some (.int names), some (.lst (prs held)), some (.bl true), none, some (.int a), none] := by
      rw [imth_ok (c := 7) rfl rfl (evals_2 (v_int (k := name) rfl) (v_int (k := a) rfl)) ((hold_ok hl).trans (by rw [q]; rfl))]
      rfl
    rw [execs, h1]
    show (match execs tab (CC N (n + 3)) N _ [some (liarD (bookD names ws) (insR r name a) (k + 1)), some (.int name), some (.int a), some (.int names), some (.lst (prs held)), some (.bl true), none, some (.int a), none] with | .ex c xs ρ' => _ | o => o).seq _ = _
    have cnd : eval tab (CC N (n + 3)) (.and (.var 5) (.call 18 [(.var 7), (.var 2)])) [some (liarD (bookD names ws) (insR r name a) (k + 1)), some (.int name), some (.int a), some (.int names), some (.lst (prs held)), some (.bl true), none, some (.int a), none] = .ok (.bl true) :=
      eval_and (x := true) (y := true) (by rw [eval]; rfl) fun _ => call_at (evals_2 (v_int (k := a) rfl) (v_int (k := a) rfl)) number_ok
    have val : eval tab (CC N (n + 3)) (.ife (.and (.var 5) (.call 18 [(.var 7), (.var 2)])) (.bin .add (.var 4) (.lst [(.tup [(.var 1), (.var 2)])])) .non) [some (liarD (bookD names ws) (insR r name a) (k + 1)), some (.int name), some (.int a), some (.int names), some (.lst (prs held)), some (.bl true), none, some (.int a), none] = .ok (.lst (prs (held ++ [(name, a)]))) := by
      rw [eval, cnd, R.bind_ok]
      show eval tab (CC N (n + 3)) (.bin .add (.var 4) (.lst [(.tup [(.var 1), (.var 2)])])) _ = _
      rw [eval_bin (v_lst (xs := prs held) rfl) (e_lst (ds := [pr (name, a)]) (evals_1 (e_tup (evals_2 (v_int rfl) (v_int rfl)))))]
      show (if (prs held).length + 1 ≤ line then _ else _) = _
      rw [if_pos (by rw [prs, List.length_map, hp.length_eq]; unfold line; omega)]
      unfold prs
      rw [List.map_append]; rfl
    rw [ret_at val]
    rfl
  | false =>
    rw [q] at fr
    simp only [q, Bool.false_eq_true, if_false] at ck
    rw [if_neg (by decide)]
    refine i_rt (ρ := [some (liarD (bookD names ws) r k), some (.int name), some (.int a), some (.int names), some (.lst (prs held)), some (.bl false), none, none, none]) (fn := f_law_hold) rfl rfl rfl ?_ rfl
    show execs tab (CC N (n + 3)) N f_law_hold.body [some (liarD (bookD names ws) r k), some (.int name), some (.int a), some (.int names), some (.lst (prs held)), none, none, none, none] = _
    unfold f_law_hold
    rw [asg_go fr rfl]
    show execs tab (CC N (n + 3)) N _ [some (liarD (bookD names ws) r k), some (.int name), some (.int a), some (.int names), some (.lst (prs held)), some (.bl false), none, none, none] = _
    have cn : cmp .ne (.int name) (.int name) = .ok (.bl false) := by rw [c_ne, decide_eq_true rfl]; rfl
    have ce : cmp .eq (.int name) (.int name) = .ok (.bl true) := by rw [c_eq, decide_eq_true rfl]
    have t1 : exec tab (CC N (n + 3)) N (.try_ [(.ife (.or (.cmp .isnot (.mthL 9 (.var 0) [(.var 1)]) .non) (.not (.var 5))) [(.ret .non)] [])] (.cons 5 (some 6) [(.ife (.or (.var 5) (.or (.cmp .ne (.xatt 6 4) (.var 1)) (.or (.not (.xisi 6 (.cls 0))) (.xisi 6 (.cls 4))))) [(.ret .non)] [])] .nil)) [some (liarD (bookD names ws) r k), some (.int name), some (.int a), some (.int names), some (.lst (prs held)), some (.bl false), none, none, none] =
        .nx [some (liarD (bookD names ws) r k), some (.int name), some (.int a), some (.int names), some (.lst (prs held)), some (.bl false), none, none, none] := by
      rw [exec, execs, exec, eval, eval, ck]
      show catches tab (CC N (n + 3)) N 5 [.int name] _ _ = _
      rw [catch_nx (ρ' := [some (liarD (bookD names ws) r k), some (.int name), some (.int a), some (.int names), some (.lst (prs held)), some (.bl false), some (.exn 5 [.int name]), none, none]) rfl rfl ?_ rfl]
      · rfl
      · show execs tab (CC N (n + 3)) N _ [some (liarD (bookD names ws) r k), some (.int name), some (.int a), some (.int names), some (.lst (prs held)), some (.bl false), some (.exn 5 [.int name]), none, none] = _
        rw [if_go (eval_or (x := false) (y := false) (by rw [eval]; rfl) fun _ => eval_or (x := false) (y := false) (by rw [cmp_at (x := .int name) (by rw [eval]; rfl) (v_int (k := name) rfl)]; exact cn) fun _ => eval_or (x := false) (y := false) (eval_not (x := true) (by rw [eval]; rfl)) fun _ => by rw [eval]; rfl), execs]
    rw [execs, t1]
    show execs tab (CC N (n + 3)) N _ [some (liarD (bookD names ws) r k), some (.int name), some (.int a), some (.int names), some (.lst (prs held)), some (.bl false), none, none, none] = _
    rw [execs, exec]
    have h1 : exec tab (CC N (n + 3)) N (.imth (.tg (.nm 7)) 10 0 [(.var 1), (.var 2)]) [some (liarD (bookD names ws) r k), some (.int name), some (.int a), some (.int names), some (.lst (prs held)), some (.bl false), none, none, none] =
        .ex 5 [.int name] [some (liarD (bookD names ws) r k), some (.int name), some (.int a), some (.int names), some (.lst (prs held)), some (.bl false), none, none, none] := by
      rw [imth_ex (c := 7) rfl rfl (evals_2 (v_int (k := name) rfl) (v_int (k := a) rfl)) ((hold_ok hl).trans (by rw [q]; rfl))]
      rfl
    rw [execs, h1]
    show (catches tab (CC N (n + 3)) N 5 [.int name] _ [some (liarD (bookD names ws) r k), some (.int name), some (.int a), some (.int names), some (.lst (prs held)), some (.bl false), none, none, none]).seq _ = _
    have cnd : eval tab (CC N (n + 3)) (.and (.not (.var 5)) (.cmp .eq (.xatt 6 4) (.var 1))) [some (liarD (bookD names ws) r k), some (.int name), some (.int a), some (.int names), some (.lst (prs held)), some (.bl false), some (.exn 5 [.int name]), none, none] = .ok (.bl true) :=
      eval_and (x := true) (y := true) (eval_not (x := false) (by rw [eval]; rfl)) fun _ => by rw [cmp_at (x := .int name) (by rw [eval]; rfl) (v_int (k := name) rfl)]; exact ce
    have val : eval tab (CC N (n + 3)) (.ife (.and (.not (.var 5)) (.cmp .eq (.xatt 6 4) (.var 1))) (.var 4) .non) [some (liarD (bookD names ws) r k), some (.int name), some (.int a), some (.int names), some (.lst (prs held)), some (.bl false), some (.exn 5 [.int name]), none, none] = .ok (.lst (prs held)) := by
      rw [eval, cnd, R.bind_ok]; exact v_lst (xs := prs held) rfl
    rw [catch_rt (d := .lst (prs held)) (ρ' := [some (liarD (bookD names ws) r k), some (.int name), some (.int a), some (.int names), some (.lst (prs held)), some (.bl false), some (.exn 5 [.int name]), none, none]) rfl rfl (ret_at val) rfl]
    rfl
end
end K03
set_option linter.all false
set_option autoImplicit false
set_option maxRecDepth 100000
/-! Stands. -/
namespace K03
open Dn PySem.W PyProof.Rows
section
variable {C : Calls} {N : Nat}
/-! bad stands -/
theorem is_right' {n : Nat} {names : Int} {r : Row} : (CC N (n + 1)).pure 0 [.int names, rw r] = .ok (.bl (rightB names 0 r)) := by
  cases h : rightB names 0 r with
  | true => exact is_right h
  | false =>
    obtain ⟨ρ', e⟩ := right_loop (C := CC N n) (N := N) names (some (rw r)) r 0 none none
    rw [h, if_neg (by decide)] at e
    refine p_rt (ρ := ρ') (fn := f_row_is_right) rfl rfl rfl ?_
    show execs tab (CC N n) N f_row_is_right.body [some (.int names), some (rw r), none, none, none] = _
    unfold f_row_is_right
    rw [asg_go (e_int _ _) rfl]
    show (execs tab (CC N n) N _ [some (.int names), some (rw r), some (.int 0), none, none]) = _
    rw [execs, exec, v_rw (r := r) rfl, ev_ok]
    show (forL _ _ (prs r) _).seq _ = _
    rw [e]; rfl
theorem check_bad {n : Nat} {names : Int} {r : Row} (h : rightB names 0 r = false) : (CC N (n + 2)).pure 1 [.int names, rw r] = .exc 4 [rw r] := by
  refine p_ex (ρ := [some (.int names), some (rw r)]) (fn := f_check_stand) rfl rfl rfl ?_
  show execs tab (CC N (n + 1)) N f_check_stand.body [some (.int names), some (rw r)] = _
  have z : eval tab (CC N (n + 1)) (.call 0 [(.var 0), (.var 1)]) [some (.int names), some (rw r)] = .ok (.bl false) :=
    call_at (evals_2 (v_int (k := names) rfl) (v_rw (r := r) rfl)) (is_right'.trans (by rw [h]))
  unfold f_check_stand
  rw [execs, ife_t (eval_not z), execs, exec, evals_1 (v_rw (r := r) rfl)]
  rfl
def bads (names : Int) : List Row := [[(0, 1)], [(names + 1, 0)], [(1, 1), (1, 0)], [(1, 0), (1, 0)], [(2, 1), (1, 1)], [(1, 2)], [(1, 0 - 1)]]
theorem bads_bad (names : Int) : ∀ r ∈ bads names, rightB names 0 r = false := by
  intro r hr
  simp only [bads, List.mem_cons, List.not_mem_nil, or_false] at hr
  rcases hr with rfl | rfl | rfl | rfl | rfl | rfl | rfl
  · simp [rightB, badP]
  · simp [rightB, badP]; omega
  · simp [rightB, badP]
  · simp [rightB, badP]
  · simp [rightB, badP]
  · simp [rightB, badP]
  · simp [rightB, badP]
theorem xisi_at {ρ : Env} {i c : Nat} {xs : List D} {t : Ty} {b : Bool} (h : ρ[i]? = some (some (.exn c xs))) (k : isTy tab (.exn c xs) t = some b) : eval tab C (.xisi i t) ρ = .ok (.bl b) := by
  have : slotX ρ i = some (c, xs) := by unfold slotX; rw [h]
  rw [eval, this]; dsimp only; rw [k]
theorem xatt_at {ρ : Env} {i c nm : Nat} {xs : List D} {x : D} (h : ρ[i]? = some (some (.exn c xs))) (he : tab.exc c = true) (k : xs[(tab.flds c).idxOf nm]? = some x) : eval tab C (.xatt i nm) ρ = .ok x := by
  have : slotX ρ i = some (c, xs) := by unfold slotX; rw [h]
  rw [eval, this]; dsimp only; rw [if_pos he, k]
theorem bad_ok {n : Nat} {names : Int} {ds : List Int} (hl : 0 < ds.length) : (CC N (n + 3)).pure 22 [.int names, intL ds] = .ok (.bl true) := by
  have hj := Int.fmod_nonneg_of_pos (ds.getD 0 0) (b := 7) (by decide)
  have hj2 := Int.fmod_lt_of_pos (ds.getD 0 0) (b := 7) (by decide)
  have hr : ∃ r, (bads names)[((ds.getD 0 0).fmod 7).toNat]? = some r := ⟨_, List.getElem?_eq_getElem (by show _ < 7; omega)⟩
  obtain ⟨r, hr⟩ := hr
  have bad := bads_bad names r (List.mem_of_getElem? hr)
  refine p_rt (ρ := [some (.int names), some (intL ds), some (.lst ((bads names).map rw)), some (rw r), none]) (fn := f_law_bad_stands_refused) rfl rfl rfl ?_
  show execs tab (CC N (n + 2)) N f_law_bad_stands_refused.body [some (.int names), some (intL ds), none, none, none] = _
  unfold f_law_bad_stands_refused
  have e : eval tab (CC N (n + 2)) (.lst [(.tup [(.tup [(.int 0), (.int 1)])]), (.tup [(.tup [(.bin .add (.var 0) (.int 1)), (.int 0)])]), (.tup [(.tup [(.int 1), (.int 1)]), (.tup [(.int 1), (.int 0)])]), (.tup [(.tup [(.int 1), (.int 0)]), (.tup [(.int 1), (.int 0)])]), (.tup [(.tup [(.int 2), (.int 1)]), (.tup [(.int 1), (.int 1)])]), (.tup [(.tup [(.int 1), (.int 2)])]), (.tup [(.tup [(.int 1), (.bin .sub (.int 0) (.int 1))])])]) [some (.int names), some (intL ds), none, none, none] = .ok (.lst ((bads names).map rw)) := by
    simp only [execs, exec, eval, evals, evalO, getV, slotD, ev_ok, ev_exc, ev_bad, O.seq_nx, O.seq_rt, O.seq_bk, O.seq_ct, O.seq_ex, O.seq_bad, R.bind_ok, R.bind_exc, R.bind_bad, bindT, setAll, c_le, c_ge, c_lt, c_gt, c_eq, c_ne, b_add, b_sub, okIn, truth_bl, truth_tup, truth_lst, items_tup, items_lst, items_fls, isNon, List.set_cons_zero, List.set_cons_succ, List.getElem?_cons_zero, List.getElem?_cons_succ, Option.bind_some, id_eq, List.length_cons, List.length_nil]
    rfl
  rw [asg_go e rfl]
  show execs tab (CC N (n + 2)) N _ [some (.int names), some (intL ds), some (.lst ((bads names).map rw)), none, none] = _
  have s0 : eval tab (CC N (n + 2)) (.sub (.var 1) (.int 0)) [some (.int names), some (intL ds), some (.lst ((bads names).map rw)), none, none] = .ok (.int (ds.getD 0 0)) := by
    rw [eval_sub (v_lst (xs := ds.map .int) rfl) (e_int 0 _)]
    refine sub_at (i := 0) rfl ?_
    rw [List.getElem?_map, List.getElem?_eq_getElem hl, List.getD_eq_getElem?_getD, List.getElem?_eq_getElem hl]; rfl
  have s1 : eval tab (CC N (n + 2)) (.sub (.var 2) (.bin .mod (.sub (.var 1) (.int 0)) (.int 7))) [some (.int names), some (intL ds), some (.lst ((bads names).map rw)), none, none] = .ok (rw r) := by
    rw [eval_sub (v_lst (xs := (bads names).map rw) rfl) ((eval_bin s0 (e_int _ _)).trans (b_mod (by decide)))]
    rw [show (ds.getD 0 0).fmod 7 = (((ds.getD 0 0).fmod 7).toNat : Int) by omega]
    refine sub_at rfl ?_
    rw [List.getElem?_map, hr]; rfl
  rw [asg_go s1 rfl]
  show execs tab (CC N (n + 2)) N _ [some (.int names), some (intL ds), some (.lst ((bads names).map rw)), some (rw r), none] = _
  have c : eval tab (CC N (n + 2)) (.call 1 [(.var 0), (.var 3)]) [some (.int names), some (intL ds), some (.lst ((bads names).map rw)), some (rw r), none] = .exc 4 [rw r] := by
    rw [eval, evals_2 (v_int (k := names) rfl) (v_rw (r := r) rfl), R.bind_ok]
    exact check_bad bad
  rw [execs, exec, execs, exec, c]
  show (catches tab (CC N (n + 2)) N 4 [rw r] _ [some (.int names), some (intL ds), some (.lst ((bads names).map rw)), some (rw r), none]).seq _ = _
  rw [catch_rt (d := .bl true) (ρ' := [some (.int names), some (intL ds), some (.lst ((bads names).map rw)), some (rw r), some (.exn 4 [rw r])]) rfl rfl ?_ rfl]
  · rfl
  · show execs tab (CC N (n + 2)) N _ [some (.int names), some (intL ds), some (.lst ((bads names).map rw)), some (rw r), some (.exn 4 [rw r])] = _
    refine ret_at (eval_and (x := true) (y := true) (xisi_at rfl rfl) fun _ => eval_and (x := true) (y := true) (xisi_at rfl rfl) fun _ => eval_and (x := true) (y := true) (eval_not (x := false) (xisi_at rfl rfl)) fun _ => ?_)
    rw [cmp_at (xatt_at (x := rw r) rfl rfl rfl) (v_rw (r := r) rfl)]
    exact (eq_refl (eqOk_rw r) (alike_prs r r)).1
/-! how many -/
def manyL (names : Int) : Nat → Int × Int
  | 0 => (1, 1)
  | k + 1 => ((manyL names k).1 + ((manyL names k).2 * 2 * (names - k)).fdiv (k + 1), ((manyL names k).2 * 2 * (names - k)).fdiv (k + 1))
theorem many_ok {n : Nat} {names most : Int} (h0 : 0 ≤ names) (h1 : names ≤ 40) (h2 : 0 ≤ most) : (CC N (n + 1)).pure 20 [.int names, .int most] = .ok (.int (manyL names (min names most).toNat).1) := by
  have hm : (if most < names then most else names) = min names most := by
    rw [Int.min_def]; split <;> split <;> omega
  generalize hM : (min names most).toNat = m
  have hM' : min names most = (m : Int) := by omega
  have hm40 : m ≤ 40 := by omega
  have mn : ∀ x2 x3 x4, eval tab (CC N n) (.bi .min [(.var 0), (.var 1)]) [some (.int names), some (.int most), x2, x3, x4] = .ok (.int (m : Int)) := fun x2 x3 x4 => by
    rw [eval, evals_2 (v_int (k := names) rfl) (v_int (k := most) rfl), R.bind_ok]
    show R.ok (D.int (if most < names then most else names)) = _
    rw [hm, hM']
  obtain ⟨ρ', e, z⟩ := forL_range (n := m) (t := .nm 4) (body := fun ρ => execs tab (CC N n) N [(.asg (.nm 3) (.bin .fdiv (.bin .mul (.bin .mul (.var 3) (.int 2)) (.bin .sub (.var 0) (.var 4))) (.bin .add (.var 4) (.int 1)))), (.asg (.nm 2) (.bin .add (.var 2) (.var 3)))] ρ)
    (enc := fun k : Nat => .int (k : Int)) (fun i ρ => ∃ x4, ρ = [some (.int names), some (.int most), some (.int (manyL names i).1), some (.int (manyL names i).2), x4]) (ρ := [some (.int names), some (.int most), some (.int 1), some (.int 1), none]) ⟨none, rfl⟩ (by
      rintro i ρ hi ⟨x4, rfl⟩
      have s1 : eval tab (CC N n) (.bin .fdiv (.bin .mul (.bin .mul (.var 3) (.int 2)) (.bin .sub (.var 0) (.var 4))) (.bin .add (.var 4) (.int 1))) [some (.int names), some (.int most), some (.int (manyL names i).1), some (.int (manyL names i).2), some (.int i)] = .ok (.int (manyL names (i + 1)).2) := by
        have m1 : bin .mul (.int (manyL names i).2) (.int 2) = .ok (.int ((manyL names i).2 * 2)) := by
          show (if small _ || small 2 then _ else _) = _
          rw [show small 2 = true from rfl, Bool.or_true]; rfl
        have m2 : bin .mul (.int ((manyL names i).2 * 2)) (.int (names - i)) = .ok (.int ((manyL names i).2 * 2 * (names - i))) := by
          show (if small _ || small (names - i) then _ else _) = _
          have : small (names - i) = true := by
            unfold small
            rw [decide_eq_true_eq]
            have : (2:Nat) ^ 64 > 1000 := by decide
            omega
          rw [this, Bool.or_true]; rfl
        exact (eval_bin ((eval_bin ((eval_bin (v_int (k := (manyL names i).2) rfl) (e_int _ _)).trans m1) ((eval_bin (v_int (k := names) rfl) (v_int (k := (i : Int)) rfl)).trans (b_sub _ _))).trans m2) ((eval_bin (v_int (k := (i : Int)) rfl) (e_int _ _)).trans (b_add _ _))).trans (b_fdiv (by omega))
      refine ⟨_, [some (.int names), some (.int most), some (.int (manyL names (i + 1)).1), some (.int (manyL names (i + 1)).2), some (.int i)], rfl, ?_, _, rfl⟩
      show execs tab (CC N n) N _ [some (.int names), some (.int most), some (.int (manyL names i).1), some (.int (manyL names i).2), some (.int i)] = _
      rw [asg_go s1 rfl]
      show execs tab (CC N n) N _ [some (.int names), some (.int most), some (.int (manyL names i).1), some (.int (manyL names (i + 1)).2), some (.int i)] = _
      rw [asg_go ((eval_bin (v_int (k := (manyL names i).1) rfl) (v_int (k := (manyL names (i + 1)).2) rfl)).trans (b_add _ _)) rfl, execs]
      rfl)
  obtain ⟨x4, rfl⟩ := z
  refine p_rt (ρ := [some (.int names), some (.int most), some (.int (manyL names m).1), some (.int (manyL names m).2), x4]) (fn := f_law_many) rfl rfl rfl ?_
  show execs tab (CC N n) N f_law_many.body [some (.int names), some (.int most), none, none, none] = _
  unfold f_law_many
  rw [asg_go (e_int _ _) rfl]
  show execs tab (CC N n) N _ [some (.int names), some (.int most), some (.int 1), none, none] = _
  rw [asg_go (e_int _ _) rfl]
  show execs tab (CC N n) N _ [some (.int names), some (.int most), some (.int 1), some (.int 1), none] = _
  rw [for_go (range_at (e_int _ _) (mn _ _ _) ⟨rfl, short_small (by omega)⟩) (by rw [items_lst, range_0]) e]
  exact ret_at (v_int rfl)
/-! the stands, one by one -/
def lastR (r : Row) : Int := match r.getLast? with | some p => p.1 | none => 0
def kids' (names : Int) (r : Row) : List Row := (List.range (names - lastR r).toNat).flatMap fun k : Nat => [r ++ [(names - (k : Int), 1)], r ++ [(names - (k : Int), 0)]]
def kids (names most : Int) (r : Row) : List Row := if (r.length : Int) < most then kids' names r else []
/-- the stack, its top first -/
def runR (ch : Row → List Row) : Nat → List Row → Option (List Row)
  | 0, _ => none
  | _ + 1, [] => some []
  | f + 1, r :: S => (runR ch f ((ch r).reverse ++ S)).map (r :: ·)
theorem runR_most {names most : Int} (h : names ≤ most) : ∀ (f : Nat) (S L : List Row), runR (kids' names) f S = some L → (∀ r ∈ L, (r.length : Int) < names ∨ kids' names r = []) → runR (kids names most) f S = some L
  | 0, _, _, e, _ => by cases e
  | f + 1, [], _, e, _ => e
  | f + 1, r :: S, L, e, k => by
    rw [runR] at e ⊢
    obtain ⟨L', e1, rfl⟩ := Option.map_eq_some_iff.mp e
    have kr : kids names most r = kids' names r := by
      unfold kids
      rcases k r List.mem_cons_self with z | z
      · rw [if_pos (by omega)]
      · rw [z]; split <;> rfl
    rw [kr, runR_most h f _ L' e1 fun x hx => k x (List.mem_cons_of_mem _ hx)]
    rfl
theorem forG_range {body : Env → List D × O} {t : Tg} {n : Nat} {enc : Nat → D} (J : Nat → Env → Prop) {ρ : Env} (h0 : J 0 ρ) (step : ∀ i ρ, i < n → J i ρ → ∃ ρ1 ρ2, bindT t (enc i) ρ = some ρ1 ∧ body ρ1 = ([], .nx ρ2) ∧ J (i + 1) ρ2) :
    ∃ ρ', forG body t ((List.range n).map enc) ρ = ([], .nx ρ') ∧ J n ρ' := by
  have key : ∀ (k i : Nat) (ρ : Env), i + k = n → J i ρ → ∃ ρ', forG body t ((List.range' i k).map enc) ρ = ([], .nx ρ') ∧ J n ρ' := by
    intro k
    induction k with
    | zero => intro i ρ e h; exact ⟨ρ, rfl, by rwa [← e]⟩
    | succ k ih =>
      intro i ρ e h
      obtain ⟨ρ1, ρ2, h1, h2, h3⟩ := step i ρ (by omega) h
      obtain ⟨ρ', q, z⟩ := ih (i + 1) ρ2 (by omega) h3
      refine ⟨ρ', ?_, z⟩
      rw [List.range'_succ, List.map_cons, forG, h1]
      dsimp only
      rw [h2]
      dsimp only
      rw [q]; rfl
  rw [List.range_eq_range']
  exact key n 0 ρ (Nat.zero_add n) h0
theorem getLast_at {r : Row} {p : Int × Int} (h : r.getLast? = some p) : sub (rw r) (.int (-1)) = .ok (pr p) := by
  have hne : r ≠ [] := by rintro rfl; cases h
  have hlen : 0 < r.length := List.length_pos_iff.mpr hne
  have hg : (prs r)[r.length - 1]? = some (pr p) := by
    rw [prs, List.getElem?_map, ← List.getLast?_eq_getElem?, h]; rfl
  have p1 : place (prs r).length (-1) = some (r.length - 1) := by
    unfold place
    rw [if_neg (by decide), prs, List.length_map, if_pos (by omega)]
    congr 1; omega
  unfold Dn.sub rw items
  dsimp only
  rw [p1]
  dsimp only
  rw [hg]
theorem last_at {ρ : Env} {r : Row} (h : ρ[3]? = some (some (rw r))) : eval tab C (.ife (.var 3) (.sub (.sub (.var 3) (.neg (.int 1))) (.int 0)) (.int 0)) ρ = .ok (.int (lastR r)) := by
  rw [eval, v_rw h, R.bind_ok]
  have neg : eval tab C (.neg (.int 1)) ρ = .ok (.int (-1)) := by rw [eval, e_int, R.bind_ok]
  cases r with
  | nil => exact e_int _ _
  | cons p r =>
    show eval tab C (.sub (.sub (.var 3) (.neg (.int 1))) (.int 0)) ρ = _
    have g : (p :: r).getLast? = some ((p :: r).getLast (by simp)) := List.getLast?_eq_some_getLast (by simp)
    rw [eval_sub ((eval_sub (v_rw h) neg).trans (getLast_at g)) (e_int 0 _)]
    unfold lastR
    rw [g]; rfl
theorem down_at {ρ : Env} {a b : IE} {i j : Int} (h : eval tab C a ρ = .ok (.int i)) (k : eval tab C b ρ = .ok (.int j)) (hs : short i = true ∧ short j = true) : eval tab C (.down a b) ρ = .ok (.lst (downD i j)) := by
  rw [eval, h, R.bind_ok, k, R.bind_ok]
  simp only [hs.1, hs.2, Bool.and_true, if_true]
theorem short_at {k : Int} (h : k.natAbs ≤ 1000000) : short k = true := by
  unfold short
  rw [decide_eq_true_eq]
  have : (2:Nat) ^ 62 > 1000000 := by decide
  omega
theorem app_at {ρ : Env} {i : Nat} {e : IE} {d : D} {xs : List D} (hi : slotD ρ i = some (.lst xs)) (h : eval tab C e ρ = .ok d) (hl : xs.length < line) : exec tab C N (.app i e) ρ = .nx (ρ.set i (some (.lst (xs ++ [d])))) := by
  rw [exec, hi]; dsimp only; rw [h, ev_ok, if_pos hl]
theorem asgF_at {ρ : Env} {i : Nat} {e : IE} {d : D} (h : eval tab C e ρ = .ok d) (k : ownable d = true) : exec tab C N (.asgF i e) ρ = .nx (ρ.set i (some d)) := by rw [exec, h, ev_ok, if_pos k]
theorem statG {s : IS} {ss : List IS} {ρ ρ' : Env} (h : execG tab C N s ρ = ([], .nx ρ')) : execsG tab C N (s :: ss) ρ = execsG tab C N ss ρ' := by
  rw [execsG, h]; rfl
theorem g_nx {n f : Nat} {fn : Fn} {ds ys : List D} {ρ : Env} (h : prog f = some fn) (k : fn.kind = .gen) (hl : ds.length = fn.np) (e : execsG tab (CC N n) N fn.body (startE fn.np fn.ns ds) = (ys, .nx ρ)) : (CC N (n + 1)).gen f ds = .ok ys := by
  rw [gen_at h k, runG, if_pos hl, e]
theorem g_pop {ρ : Env} {a b : Nat} : execG tab C N (.pop a b) ρ = ([], exec tab C N (.pop a b) ρ) := by simp only [execG]
theorem g_app {ρ : Env} {a : Nat} {b : IE} : execG tab C N (.app a b) ρ = ([], exec tab C N (.app a b) ρ) := by simp only [execG]
theorem g_asg {ρ : Env} {a : Tg} {b : IE} : execG tab C N (.asg a b) ρ = ([], exec tab C N (.asg a b) ρ) := by simp only [execG]
theorem g_asgF {ρ : Env} {a : Nat} {b : IE} : execG tab C N (.asgF a b) ρ = ([], exec tab C N (.asgF a b) ρ) := by simp only [execG]
def hardX (o : Option D) : Bool := match o with
  | some d => hard d
  | none => true
theorem hards_rws (ws : List Row) : hards (ws.map rw) = true := by
  induction ws with
  | nil => rfl
  | cons w ws ih =>
    show (hards (prs w) && hards (ws.map rw)) = true
    rw [(ok_prs w).2.2.1, ih]; rfl
/-- one turn of the generator's loop -/
theorem gen_turn {names most : Int} {W : List Row} {r : Row} (h0 : 0 ≤ names) (h1 : names ≤ 40) (hl : (lastR r).natAbs ≤ 1000) (hr : r.length ≤ 1000) (hw : W.length ≤ 10000) (x3 x4 x5 : Option D) (hx : hardX x4 = true ∧ hardX x5 = true) : ∃ x3' x4' x5', (hardX x4' = true ∧ hardX x5' = true) ∧
    execsG tab C N [(.pop 3 2), (.yld 2 (.var 3)), (.ife (.cmp .lt (.bi .len [(.var 3)]) (.var 1)) [(.asg (.nm 4) (.ife (.var 3) (.sub (.sub (.var 3) (.neg (.int 1))) (.int 0)) (.int 0))), (.for_ (.nm 5) (.down (.var 0) (.var 4)) [(.app 2 (.bin .add (.var 3) (.tup [(.tup [(.var 5), (.int 1)])]))), (.app 2 (.bin .add (.var 3) (.tup [(.tup [(.var 5), (.int 0)])])))])] [])]
      [some (.int names), some (.int most), some (.lst ((W ++ [r]).map rw)), x3, x4, x5] = ([rw r], .nx [some (.int names), some (.int most), some (.lst ((W ++ kids names most r).map rw)), x3', x4', x5']) := by
  have pop : exec tab C N (.pop 3 2) [some (.int names), some (.int most), some (.lst ((W ++ [r]).map rw)), x3, x4, x5] = .nx [some (.int names), some (.int most), some (.lst (W.map rw)), some (rw r), x4, x5] := by
    rw [exec]
    show (match ((W ++ [r]).map rw)[((W ++ [r]).map rw).length - 1]? with | some d => O.nx _ | none => O.bad) = _
    have g : ((W ++ [r]).map rw)[((W ++ [r]).map rw).length - 1]? = some (rw r) := by
      rw [List.map_append, List.map_cons, List.map_nil, List.length_append, List.length_singleton, Nat.add_sub_cancel]
      rw [List.getElem?_append_right (Nat.le_refl _), Nat.sub_self]; rfl
    rw [g]
    dsimp only
    rw [List.map_append, List.map_cons, List.map_nil, List.dropLast_concat]
    rfl
  have cnd : eval tab C (.cmp .lt (.bi .len [(.var 3)]) (.var 1)) [some (.int names), some (.int most), some (.lst (W.map rw)), some (rw r), x4, x5] = .ok (.bl (decide ((r.length : Int) < most))) := by
    rw [cmp_at (len_at (v_rw (r := r) rfl) (xs := prs r) rfl) (v_int (k := most) rfl), prs, List.length_map]; exact c_lt _ _
  have stat : ∀ (s : IS) (ss : List IS) (ρ ρ' : Env), execG tab C N s ρ = ([], .nx ρ') → execsG tab C N (s :: ss) ρ = execsG tab C N ss ρ' := fun s ss ρ ρ' h => by
    rw [execsG, h]; rfl
  have yl : execG tab C N (.yld 2 (.var 3)) [some (.int names), some (.int most), some (.lst (W.map rw)), some (rw r), x4, x5] = ([rw r], .nx [some (.int names), some (.int most), some (.lst (W.map rw)), some (rw r), x4, x5]) := by
    have h1 : hard (rw r) = true := (ok_prs r).2.2.1
    have h2 : gOk 2 [some (.int names), some (.int most), some (.lst (W.map rw)), some (rw r), x4, x5] = true := by
      show ((true && (true && (true && (hard (rw r) && (hardX x4 && (hardX x5 && true)))))) && hards (W.map rw)) = true
      rw [h1, hx.1, hx.2, hards_rws]; rfl
    rw [execG, v_rw (r := r) rfl]
    dsimp only
    rw [h1, h2]; rfl
  have first : ∀ rest, execsG tab C N ((.pop 3 2) :: (.yld 2 (.var 3)) :: rest) [some (.int names), some (.int most), some (.lst ((W ++ [r]).map rw)), x3, x4, x5] = ([rw r] ++ (execsG tab C N rest [some (.int names), some (.int most), some (.lst (W.map rw)), some (rw r), x4, x5]).1, (execsG tab C N rest [some (.int names), some (.int most), some (.lst (W.map rw)), some (rw r), x4, x5]).2) := fun rest => by
    rw [stat _ _ _ _ (by rw [g_pop]; exact congrArg (Prod.mk []) pop), execsG, yl]
  by_cases hc : (r.length : Int) < most
  · rw [decide_eq_true hc] at cnd
    obtain ⟨ρ', e, z⟩ := forG_range (n := (names - lastR r).toNat) (t := .nm 5) (body := fun ρ => execsG tab C N [(.app 2 (.bin .add (.var 3) (.tup [(.tup [(.var 5), (.int 1)])]))), (.app 2 (.bin .add (.var 3) (.tup [(.tup [(.var 5), (.int 0)])])))] ρ)
      (enc := fun k : Nat => .int (names - (k : Int))) (fun i ρ => ∃ x5, hardX x5 = true ∧ ρ = [some (.int names), some (.int most), some (.lst ((W ++ (List.range i).flatMap fun k : Nat => [r ++ [(names - (k : Int), 1)], r ++ [(names - (k : Int), 0)]]).map rw)), some (rw r), some (.int (lastR r)), x5])
      (ρ := [some (.int names), some (.int most), some (.lst (W.map rw)), some (rw r), some (.int (lastR r)), x5]) ⟨x5, hx.2, by rw [List.range_zero, List.flatMap_nil, List.append_nil]⟩ (by
        rintro i ρ hi ⟨x5, -, rfl⟩
        have hil : i ≤ 2000 := by omega
        have zl : ∀ i : Nat, ((List.range i).flatMap fun k : Nat => [r ++ [(names - (k : Int), 1)], r ++ [(names - (k : Int), 0)]]).length = 2 * i := by
          intro i
          induction i with
          | zero => rfl
          | succ i ih => rw [List.range_succ, List.flatMap_append, List.length_append, ih]; simp; omega
        generalize hZ : W ++ (List.range i).flatMap (fun k : Nat => [r ++ [(names - (k : Int), 1)], r ++ [(names - (k : Int), 0)]]) = Z
        have hZl : Z.length ≤ 20000 := by rw [← hZ, List.length_append, zl]; omega
        have one : ∀ (v : Int) (Y : List Row), Y.length ≤ 30000 → exec tab C N (.app 2 (.bin .add (.var 3) (.tup [(.tup [(.var 5), (.int v)])]))) [some (.int names), some (.int most), some (.lst (Y.map rw)), some (rw r), some (.int (lastR r)), some (.int (names - (i : Int)))] = .nx [some (.int names), some (.int most), some (.lst ((Y ++ [r ++ [(names - (i : Int), v)]]).map rw)), some (rw r), some (.int (lastR r)), some (.int (names - (i : Int)))] := fun v Y hY => by
          have ee : eval tab C (.bin .add (.var 3) (.tup [(.tup [(.var 5), (.int v)])])) [some (.int names), some (.int most), some (.lst (Y.map rw)), some (rw r), some (.int (lastR r)), some (.int (names - (i : Int)))] = .ok (rw (r ++ [(names - (i : Int), v)])) := by
            rw [eval_bin (v_rw (r := r) rfl) (e_tup (ds := [pr (names - (i : Int), v)]) (evals_1 (e_tup (evals_2 (v_int rfl) (e_int _ _)))))]
            refine (b_cat (by rw [prs, List.length_map]; show _ + 1 ≤ _; unfold line; omega)).trans ?_
            unfold rw prs
            rw [List.map_append]; rfl
          refine (app_at (xs := Y.map rw) rfl ee (by rw [List.length_map]; unfold line; omega)).trans ?_
          rw [List.map_append]
          rfl
        refine ⟨_, [some (.int names), some (.int most), some (.lst (((Z ++ [r ++ [(names - (i : Int), 1)]]) ++ [r ++ [(names - (i : Int), 0)]]).map rw)), some (rw r), some (.int (lastR r)), some (.int (names - (i : Int)))], rfl, ?_, some (.int (names - (i : Int))), rfl, ?_⟩
        · show execsG tab C N _ [some (.int names), some (.int most), some (.lst (Z.map rw)), some (rw r), some (.int (lastR r)), some (.int (names - (i : Int)))] = _
          rw [stat _ _ _ _ (by rw [g_app]; exact congrArg (Prod.mk []) (one 1 Z (by omega))), stat _ _ _ _ (by rw [g_app]; exact congrArg (Prod.mk []) (one 0 _ (by rw [List.length_append]; show _ + 1 ≤ _; omega))), execsG]
        · rw [← hZ, List.range_succ, List.flatMap_append, List.append_assoc, List.append_assoc]
          rfl)
    obtain ⟨x5', h5', rfl⟩ := z
    refine ⟨some (rw r), some (.int (lastR r)), x5', ⟨rfl, h5'⟩, ?_⟩
    have body : execsG tab C N [(.ife (.cmp .lt (.bi .len [(.var 3)]) (.var 1)) [(.asg (.nm 4) (.ife (.var 3) (.sub (.sub (.var 3) (.neg (.int 1))) (.int 0)) (.int 0))), (.for_ (.nm 5) (.down (.var 0) (.var 4)) [(.app 2 (.bin .add (.var 3) (.tup [(.tup [(.var 5), (.int 1)])]))), (.app 2 (.bin .add (.var 3) (.tup [(.tup [(.var 5), (.int 0)])])))])] [])] [some (.int names), some (.int most), some (.lst (W.map rw)), some (rw r), x4, x5] =
        ([], .nx [some (.int names), some (.int most), some (.lst ((W ++ kids names most r).map rw)), some (rw r), some (.int (lastR r)), x5']) := by
      refine (stat _ _ _ [some (.int names), some (.int most), some (.lst ((W ++ kids names most r).map rw)), some (rw r), some (.int (lastR r)), x5'] ?_).trans (by rw [execsG])
      rw [execG, cnd]
      show execsG tab C N _ _ = _
      refine (stat _ _ _ [some (.int names), some (.int most), some (.lst (W.map rw)), some (rw r), some (.int (lastR r)), x5] ?_).trans ?_
      · rw [g_asg, exec, last_at (r := r) rfl]
        rfl
      · refine (stat _ _ _ [some (.int names), some (.int most), some (.lst ((W ++ kids names most r).map rw)), some (rw r), some (.int (lastR r)), x5'] ?_).trans (by rw [execsG])
        rw [execG, down_at (v_int (k := names) rfl) (v_int (k := lastR r) rfl) ⟨short_at (by omega), short_at (by omega)⟩]
        show forG _ _ (downD names (lastR r)) _ = _
        unfold kids kids'
        rw [if_pos hc]
        exact e
    rw [first, body]; rfl
  · rw [decide_eq_false hc] at cnd
    refine ⟨some (rw r), x4, x5, hx, ?_⟩
    have body : execsG tab C N [(.ife (.cmp .lt (.bi .len [(.var 3)]) (.var 1)) [(.asg (.nm 4) (.ife (.var 3) (.sub (.sub (.var 3) (.neg (.int 1))) (.int 0)) (.int 0))), (.for_ (.nm 5) (.down (.var 0) (.var 4)) [(.app 2 (.bin .add (.var 3) (.tup [(.tup [(.var 5), (.int 1)])]))), (.app 2 (.bin .add (.var 3) (.tup [(.tup [(.var 5), (.int 0)])])))])] [])] [some (.int names), some (.int most), some (.lst (W.map rw)), some (rw r), x4, x5] =
        ([], .nx [some (.int names), some (.int most), some (.lst (W.map rw)), some (rw r), x4, x5]) := by
      refine (stat _ _ _ _ ?_).trans (by rw [execsG])
      rw [execG, cnd]
      show execsG tab C N [] _ = _
      rw [execsG]
    rw [first, body]
    unfold kids
    rw [if_neg hc, List.append_nil W]; rfl
theorem runR_len {ch : Row → List Row} : ∀ (f : Nat) (S L : List Row), runR ch f S = some L → S.length ≤ L.length
  | 0, _, _, e => by cases e
  | f + 1, [], _, e => Nat.zero_le _
  | f + 1, r :: S, L, e => by
    rw [runR] at e
    obtain ⟨L', e1, rfl⟩ := Option.map_eq_some_iff.mp e
    have := runR_len f _ L' e1
    rw [List.length_append] at this
    simp only [List.length_cons]; omega
theorem gen_while {names most : Int} (h0 : 0 ≤ names) (h1 : names ≤ 40) : ∀ (f : Nat) (S L : List Row), runR (kids names most) f S = some L → (∀ r ∈ L, (lastR r).natAbs ≤ 1000 ∧ r.length ≤ 1000) → L.length ≤ 10000 → ∀ F, f ≤ F → ∀ x3 x4 x5, hardX x4 = true ∧ hardX x5 = true → ∃ ρ',
    whlG (eval tab C (.var 2)) (fun ρ => execsG tab C N [(.pop 3 2), (.yld 2 (.var 3)), (.ife (.cmp .lt (.bi .len [(.var 3)]) (.var 1)) [(.asg (.nm 4) (.ife (.var 3) (.sub (.sub (.var 3) (.neg (.int 1))) (.int 0)) (.int 0))), (.for_ (.nm 5) (.down (.var 0) (.var 4)) [(.app 2 (.bin .add (.var 3) (.tup [(.tup [(.var 5), (.int 1)])]))), (.app 2 (.bin .add (.var 3) (.tup [(.tup [(.var 5), (.int 0)])])))])] [])] ρ) F
      [some (.int names), some (.int most), some (.lst (S.reverse.map rw)), x3, x4, x5] = (L.map rw, .nx ρ')
  | 0, _, _, e, _, _, _, _, _, _, _, _ => by cases e
  | f + 1, [], L, e, _, _, F + 1, hF, x3, x4, x5, _ => by
    rw [runR] at e; cases e
    exact ⟨_, by rw [whlG, v_lst (xs := []) rfl]; rfl⟩
  | f + 1, r :: S, L, e, hL, hl, F + 1, hF, x3, x4, x5, hx => by
    rw [runR] at e
    obtain ⟨L', e1, rfl⟩ := Option.map_eq_some_iff.mp e
    have hb := hL r List.mem_cons_self
    have ln := runR_len f _ L' e1
    rw [List.length_append] at ln
    simp only [List.length_cons] at hl
    obtain ⟨y3, y4, y5, hy, t⟩ := gen_turn (C := C) (N := N) (most := most) (W := S.reverse) (r := r) h0 h1 hb.1 hb.2 (by rw [List.length_reverse]; omega) x3 x4 x5 hx
    obtain ⟨ρ', ih⟩ := gen_while h0 h1 f _ L' e1 (fun x hx => hL x (List.mem_cons_of_mem _ hx)) (by omega) F (by omega) y3 y4 y5 hy
    refine ⟨ρ', ?_⟩
    rw [List.reverse_cons, whlG, v_lst (xs := (S.reverse ++ [r]).map rw) rfl]
    have tr : truth (.lst ((S.reverse ++ [r]).map rw)) = some true := by
      rw [truth_lst]; simp
    dsimp only
    rw [tr]
    dsimp only
    rw [t]
    dsimp only
    rw [List.reverse_append, List.reverse_reverse] at ih
    rw [ih]; rfl
theorem gen_ok {n f : Nat} {names most : Int} {L : List Row} (h0 : 0 ≤ names) (h1 : names ≤ 40) (e : runR (kids names most) f [[]] = some L) (hL : ∀ r ∈ L, (lastR r).natAbs ≤ 1000 ∧ r.length ≤ 1000) (hl : L.length ≤ 10000) (hf : f ≤ N) : (CC N (n + 1)).gen 6 [.int names, .int most] = .ok (L.map rw) := by
  obtain ⟨ρ', w⟩ := gen_while (C := CC N n) (N := N) (most := most) h0 h1 f [[]] L e hL hl N hf none none none ⟨rfl, rfl⟩
  refine g_nx (ρ := ρ') (fn := f_stands_of) rfl rfl rfl ?_
  show execsG tab (CC N n) N f_stands_of.body [some (.int names), some (.int most), none, none, none, none] = _
  unfold f_stands_of
  have st : execG tab (CC N n) N (.asgF 2 (.lst [(.tup [])])) [some (.int names), some (.int most), none, none, none, none] = ([], .nx [some (.int names), some (.int most), some (.lst ([([] : Row)].reverse.map rw)), none, none, none]) := by
    rw [g_asgF]
    exact congrArg (Prod.mk []) (asgF_at (e_lst (evals_1 (e_tup (ds := []) (by rw [evals])))) rfl)
  rw [statG st, execsG, execG, w]
  dsimp only
  rw [execsG, List.append_nil]
end
end K03
set_option linter.all false
set_option autoImplicit false
set_option maxRecDepth 100000
/-! The stands hold. -/
namespace K03
open Dn PySem.W PyProof.Rows
section
variable {C : Calls} {N : Nat}
/-- each less than the next -/
def ascL : List Row → Bool
  | a :: b :: L => ltD (rw a) (rw b) && ascL (b :: L)
  | _ => true
structure Good (names most : Int) (L : List Row) : Prop where
  right : ∀ r ∈ L, Right names r
  len : ∀ r ∈ L, (r.length : Int) ≤ most
  asc : ascL L = true
  few : L.length ≤ 201
  many : (L.length : Int) = (manyL names (min names most).toNat).1
theorem asc_at : ∀ {L : List Row} {i : Nat} {a b : Row}, ascL L = true → L[i]? = some a → L[i + 1]? = some b → ltD (rw a) (rw b) = true
  | [], i, a, b, _, h, _ => by cases h
  | [x], i, a, b, _, _, k => by simp at k
  | x :: y :: L, 0, a, b, h, h1, h2 => by
    rw [ascL, Bool.and_eq_true] at h
    cases h1; cases h2
    exact h.1
  | x :: y :: L, i + 1, a, b, h, h1, h2 => by
    rw [ascL, Bool.and_eq_true] at h
    exact asc_at h.2 h1 h2
theorem c_ltr (a b : Row) : cmp .lt (rw a) (rw b) = .ok (.bl (ltD (rw a) (rw b))) := by
  show (if ltOk (rw a) (rw b) then _ else _) = _
  rw [ltOk_rw]; rfl
theorem forg_go {ρ ρ' : Env} {t : Tg} {f : Nat} {es : List IE} {ds xs : List D} {s b : List IS} (h : evals tab C es ρ = .ok ds) (ha : (ds.all atom && hardEnv ρ) = true) (hx : C.gen f ds = .ok xs) (k : forH (fun ρ => execs tab C N s ρ) t xs ρ = .nx ρ') : execs tab C N (.forg t f es s :: b) ρ = execs tab C N b ρ' := by
  rw [execs, exec, h, ev_ok, if_pos ha, hx, ev_ok, k]; rfl
theorem forH_range {n : Nat} {enc : Nat → D} {body : Env → O} {t : Tg} (J : Nat → Env → Prop) {ρ : Env} (h0 : J 0 ρ) (step : ∀ i ρ, i < n → J i ρ → ∃ ρ1 ρ2, bindT t (enc i) ρ = some ρ1 ∧ body ρ1 = .nx ρ2 ∧ hardEnv ρ2 = true ∧ J (i + 1) ρ2) :
    ∃ ρ', forH body t ((List.range n).map enc) ρ = .nx ρ' ∧ J n ρ' := by
  have key : ∀ (k i : Nat) (ρ : Env), i + k = n → J i ρ → ∃ ρ', forH body t ((List.range' i k).map enc) ρ = .nx ρ' ∧ J n ρ' := by
    intro k
    induction k with
    | zero => intro i ρ e h; exact ⟨ρ, rfl, by rwa [← e]⟩
    | succ k ih =>
      intro i ρ e h
      obtain ⟨ρ1, ρ2, h1, h2, hh, h3⟩ := step i ρ (by omega) h
      obtain ⟨ρ', q, z⟩ := ih (i + 1) ρ2 (by omega) h3
      refine ⟨ρ', ?_, z⟩
      rw [List.range'_succ, List.map_cons, forH, h1]
      dsimp only
      rw [h2]
      dsimp only
      rw [if_pos hh]; exact q
  rw [List.range_eq_range']
  exact key n 0 ρ (Nat.zero_add n) h0
theorem pairs_go {n : Nat} {names most : Int} {r : Row} (x2 : Option D) (m : Int) (hr : Right names r) (x6 : Option D) (h6 : hardX x6 = true) : ∃ x5 x6', forL (fun ρ => execs tab (CC N (n + 1)) N [(.ife (.or (.not (.isi (.var 6) .tuple)) (.or (.cmp .ne (.bi .len [(.var 6)]) (.int 2)) (.not (.cmp2 .lt .le (.var 5) (.sub (.var 6) (.int 0)) (.var 0))))) [(.ret (.bl false))] []), (.ife (.or (.not (.call 18 [(.sub (.var 6) (.int 0)), (.sub (.var 6) (.int 0))])) (.or (.not (.call 18 [(.sub (.var 6) (.int 1)), (.sub (.var 6) (.int 1))])) (.cmp .notin (.sub (.var 6) (.int 1)) (.tup [(.int 0), (.int 1)])))) [(.ret (.bl false))] []), (.asg (.nm 5) (.sub (.var 6) (.int 0)))] ρ) (.nm 6) (prs r)
    [some (.int names), some (.int most), x2, some (.int m), some (rw r), some (.int 0), x6] = .nx [some (.int names), some (.int most), x2, some (.int m), some (rw r), x5, x6'] ∧ (hardX x5 = true ∧ hardX x6' = true) := by
  generalize hR : rw r = R
  obtain ⟨ρ', e, z⟩ := forL_inv (enc := pr) (t := .nm 6) (body := fun ρ => execs tab (CC N (n + 1)) N [(.ife (.or (.not (.isi (.var 6) .tuple)) (.or (.cmp .ne (.bi .len [(.var 6)]) (.int 2)) (.not (.cmp2 .lt .le (.var 5) (.sub (.var 6) (.int 0)) (.var 0))))) [(.ret (.bl false))] []), (.ife (.or (.not (.call 18 [(.sub (.var 6) (.int 0)), (.sub (.var 6) (.int 0))])) (.or (.not (.call 18 [(.sub (.var 6) (.int 1)), (.sub (.var 6) (.int 1))])) (.cmp .notin (.sub (.var 6) (.int 1)) (.tup [(.int 0), (.int 1)])))) [(.ret (.bl false))] []), (.asg (.nm 5) (.sub (.var 6) (.int 0)))] ρ)
    (fun (rest : Row) ρ => ∃ (b : Int) (x6 : Option D), hardX x6 = true ∧ ρ = [some (.int names), some (.int most), x2, some (.int m), some R, some (.int b), x6] ∧ rest.Pairwise (fun p q => p.1 < q.1) ∧ ∀ p ∈ rest, b < p.1 ∧ p.1 ≤ names ∧ (p.2 = 0 ∨ p.2 = 1)) r
    [some (.int names), some (.int most), x2, some (.int m), some R, some (.int 0), x6] ⟨0, x6, h6, rfl, hr.asc, hr.rng⟩ (by
      rintro p rest ρ ⟨b, x6, -, rfl, ha, hb⟩
      obtain ⟨a1, a2⟩ := List.pairwise_cons.mp ha
      obtain ⟨b1, b2, b3⟩ := hb p List.mem_cons_self
      refine ⟨[some (.int names), some (.int most), x2, some (.int m), some R, some (.int b), some (pr p)], [some (.int names), some (.int most), x2, some (.int m), some R, some (.int p.1), some (pr p)], rfl, ?_, p.1, some (pr p), rfl, rfl, a2, fun q hq => ⟨a1 q hq, (hb q (List.mem_cons_of_mem _ hq)).2⟩⟩
      have s0 : eval tab (CC N (n + 1)) (.sub (.var 6) (.int 0)) [some (.int names), some (.int most), x2, some (.int m), some R, some (.int b), some (pr p)] = .ok (.int p.1) := eval_sub (v_pr (p := p) rfl) (e_int 0 _)
      have s1 : eval tab (CC N (n + 1)) (.sub (.var 6) (.int 1)) [some (.int names), some (.int most), x2, some (.int m), some R, some (.int b), some (pr p)] = .ok (.int p.2) := eval_sub (v_pr (p := p) rfl) (e_int 1 _)
      have c2 := cmp2_at (C := CC N (n + 1)) (v_int (ρ := [some (.int names), some (.int most), x2, some (.int m), some R, some (.int b), some (pr p)]) (i := 5) (k := b) rfl) s0 (c_lt _ _) (v_int (i := 0) (k := names) rfl) (c_le _ _)
      rw [decide_eq_true b1, decide_eq_true b2] at c2
      rw [if_go (eval_or (x := false) (y := false) (eval_not (isi_tup (v_pr (p := p) rfl))) fun _ => eval_or (x := false) (y := false) (by
        rw [cmp_at (len_at (v_pr (p := p) rfl) (xs := [.int p.1, .int p.2]) rfl) (e_int _ _)]; exact c_ne _ _) fun _ => eval_not c2)]
      have ni : eval tab (CC N (n + 1)) (.cmp .notin (.sub (.var 6) (.int 1)) (.tup [(.int 0), (.int 1)])) [some (.int names), some (.int most), x2, some (.int m), some R, some (.int b), some (pr p)] = .ok (.bl false) := by
        rw [cmp_at s1 (e_tup (evals_2 (e_int _ _) (e_int _ _))), okIn]
        rcases b3 with z | z <;> rw [z] <;> rfl
      rw [if_go (eval_or (x := false) (y := false) (eval_not (call_at (evals_2 s0 s0) number_ok)) fun _ => eval_or (x := false) (y := false) (eval_not (call_at (evals_2 s1 s1) number_ok)) fun _ => ni)]
      rw [asg_go s0 rfl, execs]
      rfl)
  obtain ⟨b, x6', h6', rfl, -, -⟩ := z
  exact ⟨_, _, e, rfl, h6'⟩
theorem stands_hold {n f : Nat} {names most : Int} {L : List Row} (h0 : 0 ≤ names) (h1 : names ≤ 40) (h2 : 0 ≤ most) (e : runR (kids names most) f [[]] = some L) (g : Good names most L) (hL : ∀ r ∈ L, (lastR r).natAbs ≤ 1000 ∧ r.length ≤ 1000) (hf : f ≤ N) : (CC N (n + 3)).pure 21 [.int names, .int most] = .ok (.bl true) := by
  have few := g.few
  have gen := gen_ok (N := N) (n := n + 1) h0 h1 e hL (by omega) hf
  obtain ⟨ρ', q, z⟩ := forH_range (n := L.length) (t := .nm 4) (body := fun ρ => execs tab (CC N (n + 2)) N [(.ife (.or (.not (.isi (.var 4) .tuple)) (.or (.cmp .gt (.bi .len [(.var 4)]) (.var 1)) (.cmp .gt (.var 3) (.int 200)))) [(.ret (.bl false))] []), (.ife (.cmp .isnot (.call 1 [(.var 0), (.var 4)]) .non) [(.ret (.bl false))] []), (.asg (.nm 5) (.int 0)), (.for_ (.nm 6) (.var 4) [(.ife (.or (.not (.isi (.var 6) .tuple)) (.or (.cmp .ne (.bi .len [(.var 6)]) (.int 2)) (.not (.cmp2 .lt .le (.var 5) (.sub (.var 6) (.int 0)) (.var 0))))) [(.ret (.bl false))] []), (.ife (.or (.not (.call 18 [(.sub (.var 6) (.int 0)), (.sub (.var 6) (.int 0))])) (.or (.not (.call 18 [(.sub (.var 6) (.int 1)), (.sub (.var 6) (.int 1))])) (.cmp .notin (.sub (.var 6) (.int 1)) (.tup [(.int 0), (.int 1)])))) [(.ret (.bl false))] []), (.asg (.nm 5) (.sub (.var 6) (.int 0)))]), (.ife (.and (.cmp .isnot (.var 2) .non) (.not (.cmp .lt (.var 2) (.var 4)))) [(.ret (.bl false))] []), (.asg (.nm 2) (.var 4)), (.asg (.nm 3) (.bin .add (.var 3) (.int 1)))] ρ)
    (enc := fun i : Nat => (L.map rw).getD i .non) (fun i ρ => ∃ x2 x4 x5 x6, ρ = [some (.int names), some (.int most), some x2, some (.int (i : Int)), x4, x5, x6] ∧ (hardX x5 = true ∧ hardX x6 = true) ∧ ((i = 0 ∧ x2 = .non) ∨ ∃ j a, i = j + 1 ∧ L[j]? = some a ∧ x2 = rw a)) (ρ := [some (.int names), some (.int most), some .non, some (.int 0), none, none, none])
    ⟨_, _, _, _, rfl, ⟨rfl, rfl⟩, .inl ⟨rfl, rfl⟩⟩ (by
      rintro i ρ hi ⟨x2, x4, x5, x6, rfl, hh, hx⟩
      have hg : L[i]? = some L[i] := List.getElem?_eq_getElem hi
      have hm := List.getElem_mem hi
      have hr := g.right _ hm
      have hlen := g.len _ hm
      have hd : (L.map rw).getD i .non = rw L[i] := by rw [getD_map hi, List.getD_eq_getElem?_getD, hg]; rfl
      generalize L[i] = r at hg hm hr hlen hd
      refine ⟨[some (.int names), some (.int most), some x2, some (.int (i : Int)), some (rw r), x5, x6], ?_⟩
      obtain ⟨y5, y6, pl, hy⟩ := pairs_go (N := N) (n := n + 1) (most := most) (some x2) i hr x6 hh.2
      refine ⟨[some (.int names), some (.int most), some (rw r), some (.int ((i + 1 : Nat) : Int)), some (rw r), y5, y6], by rw [hd]; rfl, ?_, ?_, _, _, _, _, rfl, hy, .inr ⟨i, r, rfl, hg, rfl⟩⟩
      rotate_left
      · show (true && (true && (hard (rw r) && (true && (hard (rw r) && (hardX y5 && (hardX y6 && true))))))) = true
        rw [show hard (rw r) = true from (ok_prs r).2.2.1, hy.1, hy.2]; rfl
      rw [if_go (eval_or (x := false) (y := false) (eval_not (isi_tup (v_rw (r := r) rfl))) fun _ => eval_or (x := false) (y := false) (by
          rw [cmp_at (len_at (v_rw (r := r) rfl) (xs := prs r) rfl) (v_int (k := most) rfl), prs, List.length_map, c_gt, decide_eq_false (by omega)]) fun _ => by
          rw [cmp_at (v_int (k := (i : Int)) rfl) (e_int _ _), c_gt, decide_eq_false (by omega)])]
      rw [if_go (by rw [cmp_at (call_at (evals_2 (v_int (k := names) rfl) (v_rw (r := r) rfl)) (check_ok hr.bool)) (e_non _)]; rfl)]
      rw [asg_go (e_int 0 _) rfl]
      show execs tab (CC N (n + 2)) N _ [some (.int names), some (.int most), some x2, some (.int (i : Int)), some (rw r), some (.int 0), x6] = _
      rw [for_go (v_rw (r := r) rfl) (xs := prs r) rfl pl]
      have cnd : eval tab (CC N (n + 2)) (.and (.cmp .isnot (.var 2) .non) (.not (.cmp .lt (.var 2) (.var 4)))) [some (.int names), some (.int most), some x2, some (.int (i : Int)), some (rw r), y5, y6] = .ok (.bl false) := by
        rcases hx with ⟨-, rfl⟩ | ⟨j, a, rfl, ha, rfl⟩
        · refine eval_and (x := false) (y := false) ?_ fun h => by cases h
          rw [cmp_at (v_any (d := .non) rfl fun _ _ h => by cases h) (e_non _)]; rfl
        · refine eval_and (x := true) (y := false) ?_ fun _ => eval_not (x := true) ?_
          · rw [cmp_at (v_rw (r := a) rfl) (e_non _)]; rfl
          · rw [cmp_at (v_rw (r := a) rfl) (v_rw (r := r) rfl), c_ltr, asc_at g.asc ha hg]
      rw [if_go cnd, asg_go (v_rw (r := r) rfl) rfl]
      show execs tab (CC N (n + 2)) N _ [some (.int names), some (.int most), some (rw r), some (.int (i : Int)), some (rw r), y5, y6] = _
      rw [asg_go ((eval_bin (v_int (k := (i : Int)) rfl) (e_int _ _)).trans (b_add _ _)) rfl, execs]
      rfl)
  obtain ⟨x2, x4, x5, x6, rfl, -, -⟩ := z
  refine p_rt (ρ := [some (.int names), some (.int most), some x2, some (.int (L.length : Int)), x4, x5, x6]) (fn := f_law_stands_hold) rfl rfl rfl ?_
  show execs tab (CC N (n + 2)) N f_law_stands_hold.body [some (.int names), some (.int most), none, none, none, none, none] = _
  unfold f_law_stands_hold
  rw [asg_go (e_non _) rfl]
  show execs tab (CC N (n + 2)) N _ [some (.int names), some (.int most), some .non, none, none, none, none] = _
  rw [asg_go (e_int 0 _) rfl]
  show execs tab (CC N (n + 2)) N _ [some (.int names), some (.int most), some .non, some (.int 0), none, none, none] = _
  have all : (List.range L.length).map (fun i : Nat => (L.map rw).getD i .non) = L.map rw := by
    refine List.ext_getElem (by simp) fun i h1 h2 => ?_
    simp at h1
    simp [h1]
  rw [all] at q
  rw [forg_go (evals_2 (v_int (k := names) rfl) (v_int (k := most) rfl)) rfl gen q]
  refine ret_at ?_
  rw [cmp_at (v_int (k := (L.length : Int)) rfl) (call_at (evals_2 (v_int (k := names) rfl) (v_int (k := most) rfl)) (many_ok h0 h1 h2)), c_eq, g.many, decide_eq_true rfl]
/-! the checks that are left to computing -/
def rightC (names : Int) (r : Row) : Bool := rightB names 0 r
theorem right_of {names : Int} : ∀ {r : Row} {last : Int}, rightB names last r = true → r.Pairwise (fun p q => p.1 < q.1) ∧ ∀ p ∈ r, last < p.1 ∧ p.1 ≤ names ∧ (p.2 = 0 ∨ p.2 = 1)
  | [], _, _ => ⟨.nil, fun _ h => nomatch h⟩
  | p :: r, last, h => by
    rw [rightB, Bool.and_eq_true] at h
    obtain ⟨h1, h2⟩ := h
    obtain ⟨k1, k2⟩ := right_of h2
    unfold badP at h1
    simp only [Bool.not_eq_true', Bool.or_eq_false_iff, decide_eq_false_iff_not, Bool.not_eq_false', Bool.or_eq_true, decide_eq_true_eq] at h1
    obtain ⟨a, b, c⟩ := h1
    refine ⟨List.pairwise_cons.mpr ⟨fun q hq => (k2 q hq).1, k1⟩, fun q hq => ?_⟩
    rcases List.mem_cons.mp hq with rfl | hq
    · exact ⟨by omega, by omega, c⟩
    · have := k2 q hq
      exact ⟨by omega, this.2⟩
def goodC (names most : Int) (o : Option (List Row)) : Bool := match o with
  | some L => L.all (fun r => rightB names 0 r && decide ((r.length : Int) ≤ most) && decide ((lastR r).natAbs ≤ 1000) && decide (r.length ≤ 1000)) && ascL L && decide (L.length ≤ 201) && decide ((L.length : Int) = (manyL names (min names most).toNat).1)
  | none => false
theorem good_of {names most : Int} {o : Option (List Row)} (h : goodC names most o = true) : ∃ L, o = some L ∧ Good names most L ∧ ∀ r ∈ L, (lastR r).natAbs ≤ 1000 ∧ r.length ≤ 1000 := by
  cases o with
  | none => cases h
  | some L =>
    simp only [goodC, Bool.and_eq_true, decide_eq_true_eq, List.all_eq_true] at h
    obtain ⟨⟨⟨h1, h2⟩, h3⟩, h4⟩ := h
    refine ⟨L, rfl, ⟨fun r hr => ?_, fun r hr => (h1 r hr).1.1.2, h2, h3, h4⟩, fun r hr => ⟨(h1 r hr).1.2, (h1 r hr).2⟩⟩
    have := right_of (h1 r hr).1.1.1
    exact ⟨this.1, this.2⟩
theorem low_good : ∀ names, names < 5 → ∀ most, most < 7 → goodC ((names : Nat) : Int) ((most : Nat) : Int) (runR (kids names most) 100 [[]]) = true := by decide +kernel
theorem high_good : ∀ most, most < 2 → goodC 40 ((most : Nat) : Int) (runR (kids 40 most) 100 [[]]) = true := by decide +kernel
def fullC (names : Int) (o : Option (List Row)) : Bool := match o with
  | some L => L.all fun r => decide ((r.length : Int) < names) || (kids' names r).isEmpty
  | none => false
theorem full_good : ∀ names, names < 5 → (goodC ((names : Nat) : Int) names (runR (kids' names) 100 [[]]) && fullC names (runR (kids' names) 100 [[]])) = true := by decide +kernel
/-- few names, or 40 with most 0, 1 -/
theorem stands_low {n names most : Nat} (h : names < 5) (k : most < 7) (hN : 100 ≤ N) : (CC N (n + 3)).pure 21 [.int names, .int most] = .ok (.bl true) := by
  obtain ⟨L, e, g, b⟩ := good_of (low_good names h most k)
  exact stands_hold (by omega) (by omega) (by omega) e g b hN
theorem stands_high {n most : Nat} (k : most < 2) (hN : 100 ≤ N) : (CC N (n + 3)).pure 21 [.int 40, .int most] = .ok (.bl true) := by
  obtain ⟨L, e, g, b⟩ := good_of (high_good most k)
  exact stands_hold (by omega) (by omega) (by omega) e g b hN
theorem stands_far {n names : Nat} {most : Int} (h : names < 5) (k : (names : Int) ≤ most) (hN : 100 ≤ N) : (CC N (n + 3)).pure 21 [.int names, .int most] = .ok (.bl true) := by
  have z := full_good names h
  rw [Bool.and_eq_true] at z
  obtain ⟨L, e, g, b⟩ := good_of z.1
  have f := z.2
  rw [e] at f
  simp only [fullC, List.all_eq_true, Bool.or_eq_true, decide_eq_true_eq, List.isEmpty_iff] at f
  have e' := runR_most k 100 [[]] L e f
  refine stands_hold (by omega) (by omega) (by omega) e' ⟨g.right, fun r hr => ?_, g.asc, g.few, ?_⟩ b hN
  · have := g.len r hr; omega
  · have m : min (names : Int) most = min (names : Int) names := by omega
    rw [m]; exact g.many
end
end K03
set_option linter.all false
set_option autoImplicit false
set_option maxRecDepth 100000
/-! The law. -/
namespace K03
open Dn PySem.W PyProof.Rows
section
variable {C : Calls} {N : Nat}
theorem rows_of {P : Row → Prop} : ∀ (xs : List D), (∀ x ∈ xs, ∃ w, P w ∧ x = rw w) → ∃ ws : List Row, xs = ws.map rw ∧ ∀ w ∈ ws, P w
  | [], _ => ⟨[], rfl, fun _ h => nomatch h⟩
  | x :: xs, h => by
    obtain ⟨w, hw, rfl⟩ := h x List.mem_cons_self
    obtain ⟨ws, rfl, k⟩ := rows_of xs fun y hy => h y (List.mem_cons_of_mem _ hy)
    exact ⟨w :: ws, rfl, fun v hv => by
      rcases List.mem_cons.mp hv with rfl | hv
      · exact hw
      · exact k v hv⟩
theorem abs_at {ρ : Env} {e : IE} {k : Int} (h : eval tab C e ρ = .ok (.int k)) : eval tab C (.bi .abs [e]) ρ = .ok (.int (k.natAbs : Int)) := by rw [bi_1 h]; rfl
theorem min_at {ρ : Env} {a b : IE} {i j : Int} (h : eval tab C a ρ = .ok (.int i)) (k : eval tab C b ρ = .ok (.int j)) : eval tab C (.bi .min [a, b]) ρ = .ok (.int (min i j)) := by
  rw [eval, evals_2 h k, R.bind_ok]
  show R.ok (D.int (if j < i then j else i)) = _
  have : (if j < i then j else i) = min i j := by rw [Int.min_def]; split <;> split <;> omega
  rw [this]
theorem nat_mod (a b : Nat) : ((a : Int)).fmod (b : Int) = ((a % b : Nat) : Int) := by
  rw [Int.fmod_eq_emod_of_nonneg _ (by omega)]; omega
theorem nat_div (a b : Nat) : ((a : Int)).fdiv (b : Int) = ((a / b : Nat) : Int) := by
  rw [Int.fdiv_eq_ediv_of_nonneg _ (by omega)]; omega
theorem lst_len {ρ : Env} {i : Nat} {ws : List Row} (h : ρ[i]? = some (some (.lst (ws.map rw)))) : eval tab C (.bi .len [.var i]) ρ = .ok (.int (ws.length : Int)) := by
  rw [len_at (v_lst h) rfl, List.length_map]
theorem last_row {ρ : Env} {i : Nat} {ws : List Row} {w : Row} (h : ρ[i]? = some (some (.lst ((ws ++ [w]).map rw)))) : eval tab C (.sub (.var i) (.neg (.int 1))) ρ = .ok (rw w) := by
  have neg : eval tab C (.neg (.int 1)) ρ = .ok (.int (-1)) := by rw [eval, e_int, R.bind_ok]
  rw [eval_sub (v_lst h) neg]
  have len : ((ws ++ [w]).map rw).length = ws.length + 1 := by rw [List.length_map, List.length_append]; rfl
  have p : place ((ws ++ [w]).map rw).length (-1) = some ws.length := by
    unfold place
    rw [if_neg (by decide), len, if_pos (by omega)]
    congr 1; omega
  have g : ((ws ++ [w]).map rw)[ws.length]? = some (rw w) := by
    rw [List.getElem?_map, List.getElem?_append_right (Nat.le_refl _), Nat.sub_self]; rfl
  unfold Dn.sub items
  dsimp only
  rw [p]
  dsimp only
  rw [g]
theorem c_ner (a b : Row) : cmp .ne (rw a) (rw b) = .ok (.bl (!eqD (rw a) (rw b))) := by
  show (if eqOk (rw a) && eqOk (rw b) then _ else _) = _
  rw [eqOk_rw, eqOk_rw]; rfl
theorem strict {a b : Row} (h : leD (rw a) (rw b) = true) (k : eqD (rw a) (rw b) = false) : ltD (rw a) (rw b) = true := by
  cases q : ltD (rw a) (rw b) with
  | true => rfl
  | false =>
    have z := eqD_of_le (a := rw a) (b := rw b) (alike_prs a b) h (by unfold leD; rw [q]; rfl)
    rw [k] at z; cases z
/-- the wishes, each once -/
theorem wishes_go {n : Nat} {names : Nat} (s d0 d1 d2 d3 d4 : Option D) (ws : List Row) (hp : (ws.map rw).Pairwise fun a b => leD a b = true) (P : Row → Prop) (hP : ∀ w ∈ ws, P w) (hl : ws.length ≤ 30) (x6 : Option D) (tl : List (Option D)) :
    ∃ (W : List Row) (x6' : Option D), forL (fun ρ => execs tab (CC N n) N [(.ife (.or (.cmp .eq (.bi .len [(.var 5)]) (.int 0)) (.cmp .ne (.sub (.var 5) (.neg (.int 1))) (.var 6))) [(.app 5 (.var 6))] [])] ρ) (.nm 6) (ws.map rw) (s :: d1 :: d2 :: d3 :: d4 :: some (.lst []) :: x6 :: tl) =
      .nx (s :: d1 :: d2 :: d3 :: d4 :: some (.lst (W.map rw)) :: x6' :: tl) ∧ (W.map rw).Pairwise (fun a b => ltD a b = true) ∧ (∀ w ∈ W, P w) ∧ W.length ≤ 30 := by
  obtain ⟨ρ', e, W, x6', rfl, h1, h2, h3⟩ := forL_inv (enc := rw) (t := .nm 6) (body := fun ρ => execs tab (CC N n) N [(.ife (.or (.cmp .eq (.bi .len [(.var 5)]) (.int 0)) (.cmp .ne (.sub (.var 5) (.neg (.int 1))) (.var 6))) [(.app 5 (.var 6))] [])] ρ)
    (fun (rest : List Row) ρ => ∃ (W : List Row) (x6 : Option D), ρ = (s :: d1 :: d2 :: d3 :: d4 :: some (.lst (W.map rw)) :: x6 :: tl) ∧ (W.map rw).Pairwise (fun a b => ltD a b = true) ∧ (∀ w ∈ W, P w) ∧ W.length + rest.length ≤ 30 ∧ (rest.map rw).Pairwise (fun a b => leD a b = true) ∧ (∀ w ∈ rest, P w) ∧ ∀ a ∈ W, ∀ w ∈ rest, leD (rw a) (rw w) = true)
    ws (s :: d1 :: d2 :: d3 :: d4 :: some (.lst []) :: x6 :: tl) ⟨[], x6, rfl, .nil, (fun _ h => nomatch h), by simpa using hl, hp, hP, fun _ h => nomatch h⟩ (by
      rintro w rest ρ ⟨W, x6, rfl, h1, h2, h3, h4, h5, h6⟩
      rw [List.map_cons] at h4
      obtain ⟨a1, a2⟩ := List.pairwise_cons.mp h4
      have a1' : ∀ v ∈ rest, leD (rw w) (rw v) = true := fun v hv => a1 _ (List.mem_map_of_mem hv)
      have gol : W.length < line := by unfold line; simp only [List.length_cons] at h3; omega
      have fin : ∀ (b : Bool), eval tab (CC N n) (.or (.cmp .eq (.bi .len [(.var 5)]) (.int 0)) (.cmp .ne (.sub (.var 5) (.neg (.int 1))) (.var 6))) (s :: d1 :: d2 :: d3 :: d4 :: some (.lst (W.map rw)) :: some (rw w) :: tl) = .ok (.bl b) →
          execs tab (CC N n) N [(.ife (.or (.cmp .eq (.bi .len [(.var 5)]) (.int 0)) (.cmp .ne (.sub (.var 5) (.neg (.int 1))) (.var 6))) [(.app 5 (.var 6))] [])] (s :: d1 :: d2 :: d3 :: d4 :: some (.lst (W.map rw)) :: some (rw w) :: tl) = .nx (s :: d1 :: d2 :: d3 :: d4 :: some (.lst ((if b then W ++ [w] else W).map rw)) :: some (rw w) :: tl) := fun b hb => by
        cases b with
        | true =>
          rw [execs, ife_t hb, app_go (xs := W.map rw) rfl (v_rw (r := w) rfl) (by rw [List.length_map]; exact gol), execs, if_pos rfl, List.map_append]
          rfl
        | false => rw [if_go hb, execs]; rfl
      have add : (∀ a ∈ W, ltD (rw a) (rw w) = true) → ∃ (W' : List Row) (x6 : Option D), (s :: d1 :: d2 :: d3 :: d4 :: some (.lst ((W ++ [w]).map rw)) :: some (rw w) :: tl) = (s :: d1 :: d2 :: d3 :: d4 :: some (.lst (W'.map rw)) :: x6 :: tl) ∧ (W'.map rw).Pairwise (fun a b => ltD a b = true) ∧ (∀ w ∈ W', P w) ∧ W'.length + rest.length ≤ 30 ∧ (rest.map rw).Pairwise (fun a b => leD a b = true) ∧ (∀ w ∈ rest, P w) ∧ ∀ a ∈ W', ∀ w ∈ rest, leD (rw a) (rw w) = true := fun hlt => by
        refine ⟨W ++ [w], _, rfl, ?_, fun v hv => ?_, ?_, a2, fun v hv => h5 v (List.mem_cons_of_mem _ hv), fun a ha v hv => ?_⟩
        · rw [List.map_append, List.pairwise_append]
          refine ⟨h1, List.pairwise_singleton _ _, fun a ha b hb => ?_⟩
          obtain ⟨a', ha', rfl⟩ := List.mem_map.mp ha
          rw [List.map_cons, List.map_nil, List.mem_singleton] at hb
          rw [hb]
          exact hlt a' ha'
        · rcases List.mem_append.mp hv with hv | hv
          · exact h2 v hv
          · rw [List.mem_singleton.mp hv]; exact h5 w List.mem_cons_self
        · rw [List.length_append]; simp only [List.length_cons, List.length_nil] at h3 ⊢; omega
        · rcases List.mem_append.mp ha with ha | ha
          · exact h6 a ha v (List.mem_cons_of_mem _ hv)
          · rw [List.mem_singleton.mp ha]; exact a1' v hv
      rcases List.eq_nil_or_concat W with rfl | ⟨W0, a, rfl⟩
      · have c : eval tab (CC N n) (.or (.cmp .eq (.bi .len [(.var 5)]) (.int 0)) (.cmp .ne (.sub (.var 5) (.neg (.int 1))) (.var 6))) (s :: d1 :: d2 :: d3 :: d4 :: some (.lst (([] : List Row).map rw)) :: some (rw w) :: tl) = .ok (.bl true) :=
          eval_or (x := true) (y := true) (by rw [cmp_at (lst_len rfl) (e_int _ _)]; exact c_eq _ _) fun h => by cases h
        exact ⟨_, _, rfl, fin true c, add fun a ha => nomatch ha⟩
      · rw [List.concat_eq_append] at *
        have c : eval tab (CC N n) (.or (.cmp .eq (.bi .len [(.var 5)]) (.int 0)) (.cmp .ne (.sub (.var 5) (.neg (.int 1))) (.var 6))) (s :: d1 :: d2 :: d3 :: d4 :: some (.lst ((W0 ++ [a]).map rw)) :: some (rw w) :: tl) = .ok (.bl (!eqD (rw a) (rw w))) := by
          refine eval_or (x := false) (y := !eqD (rw a) (rw w)) ?_ fun _ => ?_
          · rw [cmp_at (lst_len rfl) (e_int _ _), c_eq, decide_eq_false (by rw [List.length_append]; simp; omega)]
          · rw [cmp_at (last_row rfl) (v_rw (r := w) rfl), c_ner]
        have le := h6 a (List.mem_append_right _ (List.mem_singleton.mpr rfl)) w List.mem_cons_self
        cases q : eqD (rw a) (rw w) with
        | true =>
          rw [q] at c
          refine ⟨_, _, rfl, fin false c, W0 ++ [a], _, rfl, h1, h2, ?_, a2, fun v hv => h5 v (List.mem_cons_of_mem _ hv), fun b hb v hv => h6 b hb v (List.mem_cons_of_mem _ hv)⟩
          simp only [List.length_cons] at h3; omega
        | false =>
          rw [q] at c
          refine ⟨_, _, rfl, fin true c, add fun b hb => ?_⟩
          have lt := strict le q
          rcases List.mem_append.mp hb with hb | hb
          · rw [List.map_append, List.pairwise_append] at h1
            exact ltD_trans (h1.2.2 _ (List.mem_map_of_mem hb) _ List.mem_cons_self) lt
          · rw [List.mem_singleton.mp hb]; exact lt)
  exact ⟨W, x6', e, h1, h2, by omega⟩
theorem den_den (r : Row) : den (den r) = r := by
  unfold den
  rw [List.map_map]
  refine (List.map_congr_left fun p _ => ?_).trans (List.map_id _)
  show (p.1, 1 - (1 - p.2)) = p
  have : (1 : Int) - (1 - p.2) = p.2 := by omega
  rw [this]
/-- the turned wishes -/
theorem turned_go {n : Nat} (s d1 d2 d3 d4 d5 : Option D) (W : List Row) (hl : ∀ w ∈ W, w.length ≤ 1000) (x6 x7 : Option D) (y8 y9 y10 y11 y12 y13 y14 y15 y16 : Option D) :
    ∃ x6' x7', forL (fun ρ => execs tab (CC N (n + 2)) N [(.asg (.nm 7) (.bi .tuple [(.lc (.tup [(.sub (.var 16) (.int 0)), (.bin .sub (.int 1) (.sub (.var 16) (.int 1)))]) (.nm 16) (.var 6) none)])), (.ife (.or (.not (.call 19 [(.call 2 [(.var 6)]), (.var 7)])) (.not (.call 19 [(.call 2 [(.call 2 [(.var 6)])]), (.var 6)]))) [(.ret (.bl false))] [])] ρ) (.nm 6) (W.map rw)
      [s, d1, d2, d3, d4, d5, x6, x7, y8, y9, y10, y11, y12, y13, y14, y15, y16] = .nx [s, d1, d2, d3, d4, d5, x6', x7', y8, y9, y10, y11, y12, y13, y14, y15, y16] := by
  obtain ⟨ρ', e, x6', x7', rfl, -⟩ := forL_inv (enc := rw) (t := .nm 6) (body := fun ρ => execs tab (CC N (n + 2)) N [(.asg (.nm 7) (.bi .tuple [(.lc (.tup [(.sub (.var 16) (.int 0)), (.bin .sub (.int 1) (.sub (.var 16) (.int 1)))]) (.nm 16) (.var 6) none)])), (.ife (.or (.not (.call 19 [(.call 2 [(.var 6)]), (.var 7)])) (.not (.call 19 [(.call 2 [(.call 2 [(.var 6)])]), (.var 6)]))) [(.ret (.bl false))] [])] ρ)
    (fun (rest : List Row) ρ => ∃ x6 x7, ρ = [s, d1, d2, d3, d4, d5, x6, x7, y8, y9, y10, y11, y12, y13, y14, y15, y16] ∧ ∀ w ∈ rest, w.length ≤ 1000) W _ ⟨x6, x7, rfl, hl⟩ (by
      rintro w rest ρ ⟨x6, x7, rfl, h⟩
      have hw := h w List.mem_cons_self
      have hline : w.length ≤ line := by unfold line; omega
      refine ⟨[s, d1, d2, d3, d4, d5, some (rw w), x7, y8, y9, y10, y11, y12, y13, y14, y15, y16], [s, d1, d2, d3, d4, d5, some (rw w), some (rw (den w)), y8, y9, y10, y11, y12, y13, y14, y15, y16], rfl, ?_, _, _, rfl, fun v hv => h v (List.mem_cons_of_mem _ hv)⟩
      have lc := lc_map (C := CC N (n + 2)) (t := .nm 16) (enc := pr) (elt := .tup [(.sub (.var 16) (.int 0)), (.bin .sub (.int 1) (.sub (.var 16) (.int 1)))]) (it := .var 6) (ρ := [s, d1, d2, d3, d4, d5, some (rw w), x7, y8, y9, y10, y11, y12, y13, y14, y15, y16]) (x := rw w) w (fun p => pr (p.1, 1 - p.2)) (v_rw rfl) rfl hline
        fun p _ => ⟨[s, d1, d2, d3, d4, d5, some (rw w), x7, y8, y9, y10, y11, y12, y13, y14, y15, some (pr p)], rfl, e_tup (evals_2 (eval_sub (v_pr (p := p) rfl) (e_int 0 _)) ((eval_bin (o := .sub) (x := .int 1) (y := .int p.2) (e_int 1 _) (eval_sub (v_pr (p := p) rfl) (e_int 1 _))).trans (b_sub _ _)))⟩
      have dm : (w.map fun p => pr (p.1, 1 - p.2)) = prs (den w) := by unfold prs den; rw [List.map_map]; rfl
      rw [dm] at lc
      rw [asg_go (d := rw (den w)) (tuple_at lc rfl) rfl]
      show execs tab (CC N (n + 2)) N _ [s, d1, d2, d3, d4, d5, some (rw w), some (rw (den w)), y8, y9, y10, y11, y12, y13, y14, y15, y16] = _
      have d1' : eval tab (CC N (n + 2)) (.call 2 [(.var 6)]) [s, d1, d2, d3, d4, d5, some (rw w), some (rw (den w)), y8, y9, y10, y11, y12, y13, y14, y15, y16] = .ok (rw (den w)) := call_at (evals_1 (v_rw (r := w) rfl)) (denied_ok hline)
      have dl : (den w).length = w.length := by unfold den; rw [List.length_map]
      have d2' : eval tab (CC N (n + 2)) (.call 2 [(.call 2 [(.var 6)])]) [s, d1, d2, d3, d4, d5, some (rw w), some (rw (den w)), y8, y9, y10, y11, y12, y13, y14, y15, y16] = .ok (rw w) := by
        have := call_at (C := CC N (n + 2)) (f := 2) (evals_1 d1') (denied_ok (by rw [dl]; exact hline))
        rwa [den_den] at this
      rw [if_go (eval_or (x := false) (y := false) (eval_not (call_at (evals_2 d1' (v_rw (r := den w) rfl)) (row_ok rfl (fun _ _ h => by cases h) (by rw [dl]; omega)))) fun _ => eval_not (call_at (evals_2 d2' (v_rw (r := w) rfl)) (row_ok rfl (fun _ _ h => by cases h) (by omega)))), execs])
  exact ⟨x6', x7', e⟩
/-- what is held -/
structure Held (names : Int) (r held : Row) : Prop where
  right : Right names r
  perm : held.Perm r
theorem hold_step {n : Nat} {names : Int} {ws : List Row} {r held : Row} {name a : Int} (h : Held names r held) (hl : r.length < 900) (ha : a = 0 ∨ a = 1) : ∃ r' held', (CC N (n + 4)).io 24 [liarD (bookD names ws) r held.length, .int name, .int a, .int names, .lst (prs held)] = .ok (.lst (prs held')) (liarD (bookD names ws) r' held'.length) ∧ Held names r' held' ∧ r'.length ≤ r.length + 1 := by
  cases q : freeB names r name with
  | true =>
    obtain ⟨f1, f2, f3⟩ := freeB_iff.mp q
    refine ⟨insR r name a, held ++ [(name, a)], ?_, ⟨insR_right h.right (by omega) f2 ha f3, ?_⟩, ?_⟩
    · rw [hold_is h.perm (by omega), q, if_pos rfl, List.length_append]; rfl
    · exact (h.perm.append_right _).trans (insR_perm f3).symm
    · rw [(insR_perm f3).length_eq, List.length_append]; exact Nat.le_refl _
  | false =>
    refine ⟨r, held, ?_, h, Nat.le_succ _⟩
    rw [hold_is h.perm (by omega), q, if_neg (by decide)]
end
end K03
set_option linter.all false
set_option autoImplicit false
set_option maxRecDepth 100000
/-! The law, whole. -/
namespace K03
open Dn PySem.W PyProof.Rows
section
variable {C : Calls} {N : Nat}
theorem mk_at {ρ : Env} {c f : Nat} {es : List IE} {ds : List D} {s : D} (h : evals tab C es ρ = .ok ds) (hf : tab.init c = some f) (k : C.io f (.ins c [] :: ds) = .ok .non s) : eval tab C (.mk c es) ρ = .ok s := by
  rw [eval, h, R.bind_ok, mkIns, hf]
  dsimp only
  rw [k]
theorem callL_at {ρ : Env} {f : Nat} {es : List IE} {ds : List D} {d : D} (h : evals tab C es ρ = .ok ds) (k : C.pure f ds = .ok d) (hh : hard d = true) : eval tab C (.callL f es) ρ = .ok d := by
  rw [eval, h, R.bind_ok, k]
  show (if hard d then R.ok d else R.bad) = _
  rw [if_pos hh]
theorem frz_go {ρ : Env} {i : Nat} {s : D} {b : List IS} (h : slotD ρ i = some s) : execs tab C N (.frz i :: b) ρ = execs tab C N b ρ := by rw [execs, exec, h]; rfl
theorem ical_go {ρ ρ' : Env} {t : Tg} {i f : Nat} {ds : List D} {es : List IE} {d s s' : D} {b : List IS} (h : slotD ρ i = some s) (h2 : evals tab C es ρ = .ok ds) (h3 : C.io f (s :: ds) = .ok d s') (h4 : bindT t d (ρ.set i (some s')) = some ρ') : execs tab C N (.ical (.tg t) f i es :: b) ρ = execs tab C N b ρ' := by
  rw [execs, ical_ok h h2 h3, otO, h4]; rfl
theorem slc_fls {ρ : Env} {i : Nat} {s : List Int} (h : ρ[i]? = some (some (scr s))) : eval tab C (.slc (.var i) (some (.int 2)) (some (.int 30))) ρ = .ok (.lst (((s.map D.int).take (min 30 s.length)).drop (min 2 s.length))) := by
  rw [eval, v_fls h, R.bind_ok]
  simp only [evalO, e_int, R.bind_ok]
  show R.ok (D.lst (((s.map D.int).take (clamp (s.map D.int).length 30)).drop (clamp (s.map D.int).length 2))) = _
  rw [List.length_map]
  rfl
theorem law_ok {n : Nat} {s : List Int} (hN : 100 ≤ N) : (CC N (n + 6)).pure 25 [scr s] = .ok (.bl true) := by
  have cell : ∀ (k : Nat) (ρ : Env), ρ[0]? = some (some (scr s)) → eval tab (CC N (n + 5)) (.bi .abs [(.call 15 [(.var 0), (.int k)])]) ρ = .ok (.int ((s.getD k 0).natAbs : Int)) := fun k ρ h =>
    abs_at (call_at (evals_2 (v_fls h) (e_int _ _)) (cell_ok (n := n + 4)))
  generalize hF : (s.getD 0 0).natAbs = first
  have cell0 : ∀ (ρ : Env), ρ[0]? = some (some (scr s)) → eval tab (CC N (n + 5)) (.bi .abs [(.call 15 [(.var 0), (.int 0)])]) ρ = .ok (.int (first : Int)) := fun ρ h => hF ▸ cell 0 ρ h
  have cell1 : ∀ (ρ : Env), ρ[0]? = some (some (scr s)) → eval tab (CC N (n + 5)) (.bi .abs [(.call 15 [(.var 0), (.int 1)])]) ρ = .ok (.int ((s.getD 1 0).natAbs : Int)) := fun ρ h => cell 1 ρ h
  have cell2 : ∀ (ρ : Env), ρ[0]? = some (some (scr s)) → eval tab (CC N (n + 5)) (.bi .abs [(.call 15 [(.var 0), (.int 2)])]) ρ = .ok (.int ((s.getD 2 0).natAbs : Int)) := fun ρ h => cell 2 ρ h
  -- the names and the most
  obtain ⟨names, most, hnm, start⟩ : ∃ names most : Nat, ((names < 5 ∧ most < 7) ∨ (names = 40 ∧ most < 2)) ∧ ∀ rest, execs tab (CC N (n + 5)) N ((.asg (.nm 1) (.bi .abs [(.call 15 [(.var 0), (.int 0)])])) :: (.asg (.nm 2) (.bin .mod (.var 1) (.int 5))) :: (.asg (.nm 3) (.bin .mod (.bin .fdiv (.var 1) (.int 5)) (.int 7))) :: (.ife (.cmp .eq (.bin .mod (.bin .fdiv (.var 1) (.int 35)) (.int 9)) (.int 1)) [(.asg (.nm 2) (.int 40)), (.asg (.nm 3) (.bin .mod (.var 3) (.int 2)))] []) :: rest)
      [some (scr s), none, none, none, none, none, none, none, none, none, none, none, none, none, none, none, none] = execs tab (CC N (n + 5)) N rest [some (scr s), some (.int (first : Int)), some (.int (names : Int)), some (.int (most : Int)), none, none, none, none, none, none, none, none, none, none, none, none, none] := by
    have go : ∀ rest, execs tab (CC N (n + 5)) N ((.asg (.nm 1) (.bi .abs [(.call 15 [(.var 0), (.int 0)])])) :: (.asg (.nm 2) (.bin .mod (.var 1) (.int 5))) :: (.asg (.nm 3) (.bin .mod (.bin .fdiv (.var 1) (.int 5)) (.int 7))) :: rest)
      [some (scr s), none, none, none, none, none, none, none, none, none, none, none, none, none, none, none, none] = execs tab (CC N (n + 5)) N rest [some (scr s), some (.int (first : Int)), some (.int ((first % 5 : Nat) : Int)), some (.int ((first / 5 % 7 : Nat) : Int)), none, none, none, none, none, none, none, none, none, none, none, none, none] := fun rest => by
      rw [asg_go (cell0 _ rfl) rfl]
      show execs tab (CC N (n + 5)) N _ [some (scr s), some (.int (first : Int)), none, none, none, none, none, none, none, none, none, none, none, none, none, none, none] = _
      rw [asg_go ((eval_bin (v_int (k := (first : Int)) rfl) (e_int _ _)).trans (b_mod (by decide))) rfl]
      show execs tab (CC N (n + 5)) N _ [some (scr s), some (.int (first : Int)), some (.int ((first : Int).fmod (5 : Nat))), none, none, none, none, none, none, none, none, none, none, none, none, none, none] = _
      rw [asg_go ((eval_bin ((eval_bin (v_int (k := (first : Int)) rfl) (e_int _ _)).trans (b_fdiv (by decide))) (e_int _ _)).trans (b_mod (by decide))) rfl]
      show execs tab (CC N (n + 5)) N _ [some (scr s), some (.int (first : Int)), some (.int ((first : Int).fmod (5 : Nat))), some (.int (((first : Int).fdiv (5 : Nat)).fmod (7 : Nat))), none, none, none, none, none, none, none, none, none, none, none, none, none] = _
      rw [nat_mod, nat_div, nat_mod]
    have cnd : eval tab (CC N (n + 5)) (.cmp .eq (.bin .mod (.bin .fdiv (.var 1) (.int 35)) (.int 9)) (.int 1)) [some (scr s), some (.int (first : Int)), some (.int ((first % 5 : Nat) : Int)), some (.int ((first / 5 % 7 : Nat) : Int)), none, none, none, none, none, none, none, none, none, none, none, none, none] = .ok (.bl (decide (((first : Int).fdiv 35).fmod 9 = 1))) := by
      rw [cmp_at ((eval_bin ((eval_bin (v_int (k := (first : Int)) rfl) (e_int _ _)).trans (b_fdiv (by decide))) (e_int _ _)).trans (b_mod (by decide))) (e_int _ _), c_eq]
    by_cases hc : ((first : Int).fdiv 35).fmod 9 = 1
    · refine ⟨40, first / 5 % 7 % 2, .inr ⟨rfl, by omega⟩, fun rest => ?_⟩
      rw [decide_eq_true hc] at cnd
      rw [go, execs, ife_t cnd, asg_go (e_int 40 _) rfl]
      show (execs tab (CC N (n + 5)) N _ [some (scr s), some (.int (first : Int)), some (.int 40), some (.int ((first / 5 % 7 : Nat) : Int)), none, none, none, none, none, none, none, none, none, none, none, none, none]).seq _ = _
      rw [asg_go ((eval_bin (v_int (k := ((first / 5 % 7 : Nat) : Int)) rfl) (e_int _ _)).trans (b_mod (by decide))) rfl, execs]
      show execs tab (CC N (n + 5)) N rest [some (scr s), some (.int (first : Int)), some (.int 40), some (.int (((first / 5 % 7 : Nat) : Int).fmod (2 : Nat))), none, none, none, none, none, none, none, none, none, none, none, none, none] = _
      rw [nat_mod]
      rfl
    · refine ⟨first % 5, first / 5 % 7, .inl ⟨by omega, by omega⟩, fun rest => ?_⟩
      rw [decide_eq_false hc] at cnd
      rw [go, if_go cnd]
  have n40 : names ≤ 40 := by omega
  -- draws
  obtain ⟨ds, ed, dl, dD⟩ := draws_ok (N := N) (n := n + 4) (c := ((s.getD 1 0).natAbs : Int)) (many := 40) (by omega)
  -- wishes drawn
  have mn : (min (names : Int) 4) = ((min names 4 : Nat) : Int) := by omega
  have wr : ∀ c : Int, ∃ w : Row, (CC N (n + 5)).pure 17 [.int c, .int ((min names 4 : Nat) : Int)] = .ok (rw w) ∧ Right names w ∧ w.length ≤ 4 := fun c => by
    obtain ⟨w, h1, h2, h3⟩ := wish_ok (N := N) (n := n + 3) (c := c) (names := min names 4) (by omega)
    exact ⟨w, h1, ⟨h2.asc, fun p hp => by have := h2.rng p hp; omega⟩, by omega⟩
  let wf : Int → Row := fun c => Classical.choose (wr c)
  have wf1 : ∀ c, (CC N (n + 5)).pure 17 [.int c, .int ((min names 4 : Nat) : Int)] = .ok (rw (wf c)) := fun c => (Classical.choose_spec (wr c)).1
  have wf2 : ∀ c, Right names (wf c) ∧ (wf c).length ≤ 4 := fun c => (Classical.choose_spec (wr c)).2
  generalize wf = wf at wf1 wf2
  let cells : List Int := (s.take (min 30 s.length)).drop (min 2 s.length)
  have cl : cells.length ≤ 30 := by
    show ((s.take _).drop _).length ≤ 30
    rw [List.length_drop, List.length_take]; omega
  have cm : ((s.map D.int).take (min 30 s.length)).drop (min 2 s.length) = cells.map D.int := by
    show _ = ((s.take _).drop _).map D.int
    rw [List.map_drop, List.map_take]
  generalize cells = cells at cl cm
  obtain ⟨ws, hws, hwP⟩ := rows_of (P := fun w => Right names w ∧ w.length ≤ 4) ((cells.map fun c => rw (wf (c.natAbs : Int))).mergeSort leD) (fun x hx => by
    obtain ⟨c, -, rfl⟩ := List.mem_map.mp ((List.mergeSort_perm _ leD).mem_iff.mp hx)
    exact ⟨_, wf2 _, rfl⟩)
  have wsl : ws.length ≤ 30 := by
    have := congrArg List.length hws
    rw [List.length_mergeSort, List.length_map, List.length_map] at this
    omega
  have wsp : (ws.map rw).Pairwise fun a b => leD a b = true := by rw [← hws]; exact List.pairwise_mergeSort leD_trans leD_total _
  obtain ⟨W, x6, wgo, Wasc, WP, Wl⟩ := wishes_go (N := N) (n := n + 5) (names := names) (some (scr s)) none (some (.int (first : Int))) (some (.int (names : Int))) (some (.int (most : Int))) (some (intL ds)) ws wsp _ hwP wsl none [none, none, none, none, none, none, none, none, none, none]
  obtain ⟨y6, y7, tgo⟩ := turned_go (N := N) (n := n + 3) (some (scr s)) (some (.int (first : Int))) (some (.int (names : Int))) (some (.int (most : Int))) (some (intL ds)) (some (.lst (W.map rw))) W (fun w hw => by have := (WP w hw).2; omega) x6 none none none none none none none none none none
  have Wlen : ∀ w ∈ W, w.length ≤ 1000 := fun w hw => by have := (WP w hw).2; omega
  have bk := book_init (N := N) (n := n + 3) (names := (names : Int)) (ws := W) (by omega) (by omega) (fun w hw => ⟨(WP w hw).1, Wlen w hw⟩) (by omega) Wasc
  have look : ∀ (r held : Row), Held names r held → r.length ≤ 900 → (CC N (n + 5)).pure 23 [liarD (bookD names W) r held.length, .lst (W.map rw), .lst (prs held), .int (held.length : Int)] = .ok (.bl true) := fun r held h hl =>
    liar_is h.right h.perm (by omega) Wlen (by omega)
  have dg : ∀ i, i < 40 → (ds.map D.int)[i]? = some (.int (ds.getD i 0)) := fun i hi => by
    rw [List.getElem?_map, List.getElem?_eq_getElem (by omega), List.getD_eq_getElem?_getD, List.getElem?_eq_getElem (by omega)]; rfl
  -- the twelve turns
  obtain ⟨ρ', lgo, hJ⟩ := forL_range (n := 12) (t := .nm 13) (enc := fun k : Nat => .int (k : Int)) (body := fun ρ => execs tab (CC N (n + 5)) N [(.asg (.nm 14) (.ife (.cmp .lt (.var 2) (.int 40)) (.bin .mod (.sub (.var 4) (.var 13)) (.bin .add (.var 2) (.int 2))) (.bin .mod (.sub (.var 4) (.var 13)) (.int 42)))), (.ical (.tg (.nm 11)) 24 9 [(.var 14), (.bin .mod (.sub (.var 4) (.bin .sub (.int 39) (.var 13))) (.int 2)), (.var 2), (.var 11)]), (.ife (.or (.cmp .is_ (.var 11) .non) (.not (.callL 23 [(.var 9), (.var 5), (.var 11), (.bi .len [(.var 11)])]))) [(.ret (.bl false))] []), (.ife (.cmp .eq (.bin .mod (.var 13) (.int 3)) (.int 1)) [(.ical (.tg (.nm 12)) 24 10 [(.var 14), (.bin .sub (.int 1) (.bin .mod (.sub (.var 4) (.bin .sub (.int 39) (.var 13))) (.int 2))), (.var 2), (.var 12)]), (.ife (.cmp .is_ (.var 12) .non) [(.ret (.bl false))] [])] []), (.ife (.not (.callL 23 [(.var 10), (.var 5), (.var 12), (.bi .len [(.var 12)])])) [(.ret (.bl false))] [])] ρ)
    (fun i ρ => ∃ (r held r2 held2 : Row) (x13 x14 : Option D), ρ = [some (scr s), some (.int (first : Int)), some (.int (names : Int)), some (.int (most : Int)), some (intL ds), some (.lst (W.map rw)), y6, y7, some (bookD names W), some (liarD (bookD names W) r held.length), some (liarD (bookD names W) r2 held2.length), some (.lst (prs held)), some (.lst (prs held2)), x13, x14, none, none] ∧ Held names r held ∧ Held names r2 held2 ∧ r.length ≤ i ∧ r2.length ≤ i)
    (ρ := [some (scr s), some (.int (first : Int)), some (.int (names : Int)), some (.int (most : Int)), some (intL ds), some (.lst (W.map rw)), y6, y7, some (bookD names W), some (liarD (bookD names W) [] 0), some (liarD (bookD names W) [] 0), some (.lst []), some (.lst []), none, none, none, none])
    ⟨[], [], [], [], none, none, rfl, ⟨.nil _, .nil⟩, ⟨.nil _, .nil⟩, Nat.zero_le _, Nat.zero_le _⟩ (by
      rintro i ρ hi ⟨r, held, r2, held2, x13, x14, rfl, h1, h2, l1, l2⟩
      generalize hL1 : liarD (bookD names W) r held.length = L1
      generalize hL2 : liarD (bookD names W) r2 held2.length = L2
      have nmv : ∃ name : Int, eval tab (CC N (n + 5)) (.ife (.cmp .lt (.var 2) (.int 40)) (.bin .mod (.sub (.var 4) (.var 13)) (.bin .add (.var 2) (.int 2))) (.bin .mod (.sub (.var 4) (.var 13)) (.int 42))) [some (scr s), some (.int (first : Int)), some (.int (names : Int)), some (.int (most : Int)), some (intL ds), some (.lst (W.map rw)), y6, y7, some (bookD names W), some L1, some L2, some (.lst (prs held)), some (.lst (prs held2)), some (.int (i : Int)), x14, none, none] = .ok (.int name) := by
        have s0 : eval tab (CC N (n + 5)) (.sub (.var 4) (.var 13)) [some (scr s), some (.int (first : Int)), some (.int (names : Int)), some (.int (most : Int)), some (intL ds), some (.lst (W.map rw)), y6, y7, some (bookD names W), some L1, some L2, some (.lst (prs held)), some (.lst (prs held2)), some (.int (i : Int)), x14, none, none] = .ok (.int (ds.getD i 0)) := by
          rw [eval_sub (v_lst (xs := ds.map .int) rfl) (v_int (k := (i : Int)) rfl)]
          exact sub_at rfl (dg i (by omega))
        rw [eval, cmp_at (v_int (k := (names : Int)) rfl) (e_int _ _), c_lt, R.bind_ok, truth_bl]
        cases decide ((names : Int) < 40) with
        | true => exact ⟨_, (eval_bin s0 ((eval_bin (v_int (k := (names : Int)) rfl) (e_int _ _)).trans (b_add _ _))).trans (b_mod (by omega))⟩
        | false => exact ⟨_, (eval_bin s0 (e_int _ _)).trans (b_mod (by decide))⟩
      obtain ⟨name, nmv⟩ := nmv
      have ans : ∃ a : Int, (a = 0 ∨ a = 1) ∧ ∀ (z8 z9 z10 z11 z12 z14 : Option D), eval tab (CC N (n + 5)) (.bin .mod (.sub (.var 4) (.bin .sub (.int 39) (.var 13))) (.int 2)) [some (scr s), some (.int (first : Int)), some (.int (names : Int)), some (.int (most : Int)), some (intL ds), some (.lst (W.map rw)), y6, y7, z8, z9, z10, z11, z12, some (.int (i : Int)), z14, none, none] = .ok (.int a) := by
        refine ⟨(ds.getD (39 - i) 0).fmod 2, ?_, fun z8 z9 z10 z11 z12 z14 => ?_⟩
        · have := Int.fmod_nonneg_of_pos (ds.getD (39 - i) 0) (b := 2) (by decide)
          have := Int.fmod_lt_of_pos (ds.getD (39 - i) 0) (b := 2) (by decide)
          omega
        · have e39 : (39 : Int) - (i : Int) = ((39 - i : Nat) : Int) := by omega
          have sb : eval tab (CC N (n + 5)) (.bin .sub (.int 39) (.var 13)) [some (scr s), some (.int (first : Int)), some (.int (names : Int)), some (.int (most : Int)), some (intL ds), some (.lst (W.map rw)), y6, y7, z8, z9, z10, z11, z12, some (.int (i : Int)), z14, none, none] = .ok (.int ((39 - i : Nat) : Int)) := by
            rw [eval_bin (e_int _ _) (v_int (k := (i : Int)) rfl), b_sub, e39]
          exact (eval_bin ((eval_sub (v_lst (xs := ds.map .int) rfl) sb).trans (sub_at rfl (dg (39 - i) (by omega)))) (e_int _ _)).trans (b_mod (by decide))
      obtain ⟨a, ha, ans⟩ := ans
      obtain ⟨r', held', st1, g1, k1⟩ := hold_step (N := N) (n := n + 1) (ws := W) (name := name) (a := a) h1 (by omega) ha
      obtain ⟨r2', held2', st2, g2, k2⟩ := hold_step (N := N) (n := n + 1) (ws := W) (name := name) (a := 1 - a) h2 (by omega) (by omega)
      refine ⟨[some (scr s), some (.int (first : Int)), some (.int (names : Int)), some (.int (most : Int)), some (intL ds), some (.lst (W.map rw)), y6, y7, some (bookD names W), some L1, some L2, some (.lst (prs held)), some (.lst (prs held2)), some (.int (i : Int)), x14, none, none], ?_⟩
      have look1 := look r' held' g1 (by omega)
      have body : ∀ r2' held2', Held names r2' held2' → r2'.length ≤ i + 1 → (∀ rest, execs tab (CC N (n + 5)) N ((.ife (.cmp .eq (.bin .mod (.var 13) (.int 3)) (.int 1)) [(.ical (.tg (.nm 12)) 24 10 [(.var 14), (.bin .sub (.int 1) (.bin .mod (.sub (.var 4) (.bin .sub (.int 39) (.var 13))) (.int 2))), (.var 2), (.var 12)]), (.ife (.cmp .is_ (.var 12) .non) [(.ret (.bl false))] [])] []) :: rest) [some (scr s), some (.int (first : Int)), some (.int (names : Int)), some (.int (most : Int)), some (intL ds), some (.lst (W.map rw)), y6, y7, some (bookD names W), some (liarD (bookD names W) r' held'.length), some L2, some (.lst (prs held')), some (.lst (prs held2)), some (.int (i : Int)), some (.int name), none, none] =
            execs tab (CC N (n + 5)) N rest [some (scr s), some (.int (first : Int)), some (.int (names : Int)), some (.int (most : Int)), some (intL ds), some (.lst (W.map rw)), y6, y7, some (bookD names W), some (liarD (bookD names W) r' held'.length), some (liarD (bookD names W) r2' held2'.length), some (.lst (prs held')), some (.lst (prs held2')), some (.int (i : Int)), some (.int name), none, none]) →
          ∃ ρ2, bindT (.nm 13) (.int (i : Int)) [some (scr s), some (.int (first : Int)), some (.int (names : Int)), some (.int (most : Int)), some (intL ds), some (.lst (W.map rw)), y6, y7, some (bookD names W), some L1, some L2, some (.lst (prs held)), some (.lst (prs held2)), x13, x14, none, none] = some [some (scr s), some (.int (first : Int)), some (.int (names : Int)), some (.int (most : Int)), some (intL ds), some (.lst (W.map rw)), y6, y7, some (bookD names W), some L1, some L2, some (.lst (prs held)), some (.lst (prs held2)), some (.int (i : Int)), x14, none, none] ∧
            execs tab (CC N (n + 5)) N [(.asg (.nm 14) (.ife (.cmp .lt (.var 2) (.int 40)) (.bin .mod (.sub (.var 4) (.var 13)) (.bin .add (.var 2) (.int 2))) (.bin .mod (.sub (.var 4) (.var 13)) (.int 42)))), (.ical (.tg (.nm 11)) 24 9 [(.var 14), (.bin .mod (.sub (.var 4) (.bin .sub (.int 39) (.var 13))) (.int 2)), (.var 2), (.var 11)]), (.ife (.or (.cmp .is_ (.var 11) .non) (.not (.callL 23 [(.var 9), (.var 5), (.var 11), (.bi .len [(.var 11)])]))) [(.ret (.bl false))] []), (.ife (.cmp .eq (.bin .mod (.var 13) (.int 3)) (.int 1)) [(.ical (.tg (.nm 12)) 24 10 [(.var 14), (.bin .sub (.int 1) (.bin .mod (.sub (.var 4) (.bin .sub (.int 39) (.var 13))) (.int 2))), (.var 2), (.var 12)]), (.ife (.cmp .is_ (.var 12) .non) [(.ret (.bl false))] [])] []), (.ife (.not (.callL 23 [(.var 10), (.var 5), (.var 12), (.bi .len [(.var 12)])])) [(.ret (.bl false))] [])]
              [some (scr s), some (.int (first : Int)), some (.int (names : Int)), some (.int (most : Int)), some (intL ds), some (.lst (W.map rw)), y6, y7, some (bookD names W), some L1, some L2, some (.lst (prs held)), some (.lst (prs held2)), some (.int (i : Int)), x14, none, none] = .nx ρ2 ∧
            ∃ (r held r2 held2 : Row) (x13 x14 : Option D), ρ2 = [some (scr s), some (.int (first : Int)), some (.int (names : Int)), some (.int (most : Int)), some (intL ds), some (.lst (W.map rw)), y6, y7, some (bookD names W), some (liarD (bookD names W) r held.length), some (liarD (bookD names W) r2 held2.length), some (.lst (prs held)), some (.lst (prs held2)), x13, x14, none, none] ∧ Held names r held ∧ Held names r2 held2 ∧ r.length ≤ i + 1 ∧ r2.length ≤ i + 1 := fun r2' held2' g2 k2 mid => by
        have look2 := look r2' held2' g2 (by omega)
        refine ⟨[some (scr s), some (.int (first : Int)), some (.int (names : Int)), some (.int (most : Int)), some (intL ds), some (.lst (W.map rw)), y6, y7, some (bookD names W), some (liarD (bookD names W) r' held'.length), some (liarD (bookD names W) r2' held2'.length), some (.lst (prs held')), some (.lst (prs held2')), some (.int (i : Int)), some (.int name), none, none], rfl, ?_, r', held', r2', held2', _, _, rfl, g1, g2, by omega, k2⟩
        rw [asg_go nmv rfl]
        show execs tab (CC N (n + 5)) N _ [some (scr s), some (.int (first : Int)), some (.int (names : Int)), some (.int (most : Int)), some (intL ds), some (.lst (W.map rw)), y6, y7, some (bookD names W), some L1, some L2, some (.lst (prs held)), some (.lst (prs held2)), some (.int (i : Int)), some (.int name), none, none] = _
        rw [ical_go (s := L1) rfl (evals_4 (v_int (k := name) rfl) (ans _ _ _ _ _ _) (v_int (k := (names : Int)) rfl) (v_lst (xs := prs held) rfl)) (by rw [← hL1]; exact st1) rfl]
        show execs tab (CC N (n + 5)) N _ [some (scr s), some (.int (first : Int)), some (.int (names : Int)), some (.int (most : Int)), some (intL ds), some (.lst (W.map rw)), y6, y7, some (bookD names W), some (liarD (bookD names W) r' held'.length), some L2, some (.lst (prs held')), some (.lst (prs held2)), some (.int (i : Int)), some (.int name), none, none] = _
        rw [if_go (eval_or (x := false) (y := false) (by rw [cmp_at (v_lst (xs := prs held') rfl) (e_non _)]; rfl) fun _ => eval_not (x := true) (callL_at (evals_4 (v_ins (c := 7) rfl) (v_lst (xs := W.map rw) rfl) (v_lst (xs := prs held') rfl) (len_at (v_lst (xs := prs held') rfl) rfl)) (by rw [prs, List.length_map]; exact look1) rfl))]
        rw [mid]
        rw [if_go (eval_not (x := true) (callL_at (evals_4 (v_ins (c := 7) rfl) (v_lst (xs := W.map rw) rfl) (v_lst (xs := prs held2') rfl) (len_at (v_lst (xs := prs held2') rfl) rfl)) (by rw [prs, List.length_map]; exact look2) rfl)), execs]
      have cnd : eval tab (CC N (n + 5)) (.cmp .eq (.bin .mod (.var 13) (.int 3)) (.int 1)) [some (scr s), some (.int (first : Int)), some (.int (names : Int)), some (.int (most : Int)), some (intL ds), some (.lst (W.map rw)), y6, y7, some (bookD names W), some (liarD (bookD names W) r' held'.length), some L2, some (.lst (prs held')), some (.lst (prs held2)), some (.int (i : Int)), some (.int name), none, none] = .ok (.bl (decide ((i : Int).fmod 3 = 1))) := by
        rw [cmp_at ((eval_bin (v_int (k := (i : Int)) rfl) (e_int _ _)).trans (b_mod (by decide))) (e_int _ _), c_eq]
      cases hq : decide ((i : Int).fmod 3 = 1) with
      | true =>
        rw [hq] at cnd
        obtain ⟨ρ2, q1, q2, q3⟩ := body r2' held2' g2 (by omega) (fun rest => by
          rw [execs, ife_t cnd]
          rw [ical_go (s := L2) rfl (evals_4 (v_int (k := name) rfl) ((eval_bin (e_int _ _) (ans _ _ _ _ _ _)).trans (b_sub _ _)) (v_int (k := (names : Int)) rfl) (v_lst (xs := prs held2) rfl)) (by rw [← hL2]; exact st2) rfl]
          rw [if_go (by rw [cmp_at (v_lst (xs := prs held2') rfl) (e_non _)]; rfl), execs]
          rfl)
        exact ⟨ρ2, q1, q2, q3⟩
      | false =>
        rw [hq] at cnd
        obtain ⟨ρ2, q1, q2, q3⟩ := body r2 held2 h2 (by omega) (fun rest => by rw [if_go cnd, hL2])
        exact ⟨ρ2, q1, q2, q3⟩)
  obtain ⟨r, held, r2, held2, x13, x14, rfl, -⟩ := hJ
  refine p_rt (ρ := [some (scr s), some (.int (first : Int)), some (.int (names : Int)), some (.int (most : Int)), some (intL ds), some (.lst (W.map rw)), y6, y7, some (bookD names W), some (liarD (bookD names W) r held.length), some (liarD (bookD names W) r2 held2.length), some (.lst (prs held)), some (.lst (prs held2)), x13, x14, none, none]) (fn := f_law) rfl rfl rfl ?_
  show execs tab (CC N (n + 5)) N f_law.body [some (scr s), none, none, none, none, none, none, none, none, none, none, none, none, none, none, none, none] = _
  unfold f_law
  rw [start]
  have st : (CC N (n + 5)).pure 21 [.int (names : Int), .int (most : Int)] = .ok (.bl true) := by
    rcases hnm with ⟨h1, h2⟩ | ⟨rfl, h2⟩
    · exact stands_low (n := n + 2) h1 h2 hN
    · exact stands_high (n := n + 2) h2 hN
  rw [if_go (eval_not (x := true) (call_at (evals_2 (v_int (k := (names : Int)) rfl) (v_int (k := (most : Int)) rfl)) st))]
  have far : eval tab (CC N (n + 5)) (.and (.cmp .lt (.var 2) (.int 40)) (.not (.call 21 [(.var 2), (.bin .add (.var 2) (.bin .mod (.bi .abs [(.call 15 [(.var 0), (.int 2)])]) (.bin .pow (.int 10) (.int 20))))]))) [some (scr s), some (.int (first : Int)), some (.int (names : Int)), some (.int (most : Int)), none, none, none, none, none, none, none, none, none, none, none, none, none] = .ok (.bl false) := by
    have c1 : eval tab (CC N (n + 5)) (.cmp .lt (.var 2) (.int 40)) [some (scr s), some (.int (first : Int)), some (.int (names : Int)), some (.int (most : Int)), none, none, none, none, none, none, none, none, none, none, none, none, none] = .ok (.bl (decide ((names : Int) < 40))) := by
      rw [cmp_at (v_int (k := (names : Int)) rfl) (e_int _ _), c_lt]
    rcases hnm with ⟨h1, h2⟩ | ⟨rfl, h2⟩
    · rw [decide_eq_true (by omega)] at c1
      refine eval_and (x := true) (y := false) c1 fun _ => eval_not (x := true) ?_
      have pw : eval tab (CC N (n + 5)) (.bin .pow (.int 10) (.int 20)) [some (scr s), some (.int (first : Int)), some (.int (names : Int)), some (.int (most : Int)), none, none, none, none, none, none, none, none, none, none, none, none, none] = .ok (.int ((10 : Int) ^ 20)) := by
        rw [eval_bin (e_int _ _) (e_int _ _)]; rfl
      refine call_at (evals_2 (v_int (k := (names : Int)) rfl) ((eval_bin (v_int (k := (names : Int)) rfl) ((eval_bin (cell2 _ rfl) pw).trans (b_mod (by decide)))).trans (b_add _ _))) ?_
      refine stands_far (n := n + 2) h1 ?_ hN
      have := Int.fmod_nonneg_of_pos ((s.getD 2 0).natAbs : Int) (b := (10 : Int) ^ 20) (by decide)
      omega
    · exact eval_and (x := false) (y := false) c1 fun h => by cases h
  rw [if_go far]
  rw [asg_go (call_at (evals_2 (cell1 _ rfl) (e_int 40 _)) ed) rfl]
  show execs tab (CC N (n + 5)) N _ [some (scr s), some (.int (first : Int)), some (.int (names : Int)), some (.int (most : Int)), some (intL ds), none, none, none, none, none, none, none, none, none, none, none, none] = _
  rw [if_go (eval_not (x := true) (call_at (evals_2 (v_int (k := (names : Int)) rfl) (v_lst (xs := ds.map .int) rfl)) (bad_ok (n := n + 2) (by omega))))]
  rw [asgF_go (e_lst (ds := []) (by rw [evals])) rfl]
  show execs tab (CC N (n + 5)) N _ [some (scr s), some (.int (first : Int)), some (.int (names : Int)), some (.int (most : Int)), some (intL ds), some (.lst []), none, none, none, none, none, none, none, none, none, none, none] = _
  have srt : eval tab (CC N (n + 5)) (.bi .sorted [(.lc (.call 17 [(.bi .abs [(.var 15)]), (.bi .min [(.var 2), (.int 4)])]) (.nm 15) (.slc (.var 0) (some (.int 2)) (some (.int 30))) none)]) [some (scr s), some (.int (first : Int)), some (.int (names : Int)), some (.int (most : Int)), some (intL ds), some (.lst []), none, none, none, none, none, none, none, none, none, none, none] = .ok (.lst (ws.map rw)) := by
    have lc := lc_map (C := CC N (n + 5)) (t := .nm 15) (enc := D.int) (elt := .call 17 [(.bi .abs [(.var 15)]), (.bi .min [(.var 2), (.int 4)])]) (it := .slc (.var 0) (some (.int 2)) (some (.int 30))) (ρ := [some (scr s), some (.int (first : Int)), some (.int (names : Int)), some (.int (most : Int)), some (intL ds), some (.lst []), none, none, none, none, none, none, none, none, none, none, none])
      cells (fun c => rw (wf (c.natAbs : Int))) (slc_fls rfl) (by rw [items_lst, cm]) (by unfold line; omega) fun c _ => ⟨[some (scr s), some (.int (first : Int)), some (.int (names : Int)), some (.int (most : Int)), some (intL ds), some (.lst []), none, none, none, none, none, none, none, none, none, some (.int c), none], rfl,
        call_at (evals_2 (abs_at (v_int (k := c) rfl)) (min_at (v_int (k := (names : Int)) rfl) (e_int 4 _))) (by rw [mn]; exact wf1 _)⟩
    rw [← hws]
    refine sorted_at lc rfl ?_ (by rw [List.length_map]; unfold line; omega)
    have := alike_all_rws (cells.map fun c => wf (c.natAbs : Int))
    rwa [List.map_map] at this
  rw [for_go srt rfl wgo, frz_go (s := .lst (W.map rw)) rfl, for_go (v_lst (xs := W.map rw) rfl) rfl tgo]
  have mkb : ∀ (z6 z7 z8 z9 z10 z11 z12 z13 z14 z15 z16 : Option D), eval tab (CC N (n + 5)) (.mk 8 [(.var 2), (.var 5)]) [some (scr s), some (.int (first : Int)), some (.int (names : Int)), some (.int (most : Int)), some (intL ds), some (.lst (W.map rw)), z6, z7, z8, z9, z10, z11, z12, z13, z14, z15, z16] = .ok (bookD names W) := fun _ _ _ _ _ _ _ _ _ _ _ =>
    mk_at (evals_2 (v_int (k := (names : Int)) rfl) (v_lst (xs := W.map rw) rfl)) rfl bk
  rw [asg_go (mkb _ _ _ _ _ _ _ _ _ _ _) rfl]
  show execs tab (CC N (n + 5)) N _ [some (scr s), some (.int (first : Int)), some (.int (names : Int)), some (.int (most : Int)), some (intL ds), some (.lst (W.map rw)), y6, y7, some (bookD names W), none, none, none, none, none, none, none, none] = _
  rw [asgF_go (d := liarD (bookD names W) [] 0) (mk_at (evals_1 (v_ins (c := 8) rfl)) rfl liar_init) rfl]
  show execs tab (CC N (n + 5)) N _ [some (scr s), some (.int (first : Int)), some (.int (names : Int)), some (.int (most : Int)), some (intL ds), some (.lst (W.map rw)), y6, y7, some (bookD names W), some (liarD (bookD names W) [] 0), none, none, none, none, none, none, none] = _
  rw [asgF_go (d := liarD (bookD names W) [] 0) (mk_at (evals_1 (mkb _ _ _ _ _ _ _ _ _ _ _)) rfl liar_init) rfl]
  show execs tab (CC N (n + 5)) N _ [some (scr s), some (.int (first : Int)), some (.int (names : Int)), some (.int (most : Int)), some (intL ds), some (.lst (W.map rw)), y6, y7, some (bookD names W), some (liarD (bookD names W) [] 0), some (liarD (bookD names W) [] 0), none, none, none, none, none, none] = _
  have eqo : eval tab (CC N (n + 5)) (.eqo 8 14 (.att (.var 9) 6) (.var 8)) [some (scr s), some (.int (first : Int)), some (.int (names : Int)), some (.int (most : Int)), some (intL ds), some (.lst (W.map rw)), y6, y7, some (bookD names W), some (liarD (bookD names W) [] 0), some (liarD (bookD names W) [] 0), none, none, none, none, none, none] = .ok (.bl true) := by
    rw [eval, att_0 (y := bookD names W) rfl rfl, R.bind_ok, v_ins (c := 8) rfl, R.bind_ok]
    show (if (8 : Nat) = 8 ∧ (8 : Nat) = 8 then (match (CC N (n + 5)).pure 14 [bookD names W, bookD names W] with | .ok (.bl r) => R.ok (D.bl r) | _ => R.bad) else R.bad) = _
    rw [book_eq, if_pos ⟨rfl, rfl⟩]
  rw [if_go (eval_or (x := false) (y := false) (eval_not (x := true) eqo) fun _ => eval_not (x := true) (callL_at (evals_4 (v_ins (c := 7) rfl) (v_lst (xs := W.map rw) rfl) (e_lst (ds := []) (by rw [evals])) (e_int 0 _)) (look [] [] ⟨.nil _, .nil⟩ (Nat.zero_le _)) rfl))]
  rw [asg_go (e_lst (ds := []) (by rw [evals])) rfl]
  show execs tab (CC N (n + 5)) N _ [some (scr s), some (.int (first : Int)), some (.int (names : Int)), some (.int (most : Int)), some (intL ds), some (.lst (W.map rw)), y6, y7, some (bookD names W), some (liarD (bookD names W) [] 0), some (liarD (bookD names W) [] 0), some (.lst []), none, none, none, none, none] = _
  rw [asg_go (e_lst (ds := []) (by rw [evals])) rfl]
  show execs tab (CC N (n + 5)) N _ [some (scr s), some (.int (first : Int)), some (.int (names : Int)), some (.int (most : Int)), some (intL ds), some (.lst (W.map rw)), y6, y7, some (bookD names W), some (liarD (bookD names W) [] 0), some (liarD (bookD names W) [] 0), some (.lst []), some (.lst []), none, none, none, none] = _
  rw [for_go (range_at (e_int _ _) (e_int _ _) ⟨rfl, rfl⟩) (by rw [items_lst]; exact congrArg some (range_0 12)) lgo]
  exact ret_at (e_bl _ _)
end
end K03
set_option Elab.async false
set_option linter.all false
set_option autoImplicit false
set_option maxRecDepth 100000
set_option maxHeartbeats 0
namespace K03
open PySem PySem.Spec PyProof.Rows L2 He Dn Sd Hd
abbrev prg : Program := (PySem.Challenge.rw_papersorliars_k03_stands_and_liars).prog
def cN : Nat → Str
  | 0 => "BookError"
  | 1 => "BadNames"
  | 2 => "BadWish"
  | 3 => "TooMany"
  | 4 => "BadStand"
  | 5 => "BadName"
  | 6 => "BadText"
  | 7 => "Liar"
  | 8 => "Book"
  | _ => ""
def fileS : Str := prg.main.file
abbrev Cx (K : PySem.W.Frag) : Nat → Addr := fun k => ga K (cN k)
def s_x1 : Stmt := (clsBody (top 3)).getD 0 (.Pass ⟨0, 0, 0, 0⟩)
def D_x1 : SupD := ⟨"__init__", "BadNames.__init__", defArgs s_x1, defBody s_x1, defScope s_x1, "names"⟩
theorem T_x1 : SupT prg D_x1 := ⟨NdefX.nscope_by (by decide +kernel), rfl, ⟨_, rfl, rfl⟩, ⟨_, _, _, _, _, _, _, _, _, _, _, _, rfl, fun env => ⟨_, rfl⟩⟩, by decide +kernel, by decide, by decide⟩
def s_x2 : Stmt := (clsBody (top 4)).getD 0 (.Pass ⟨0, 0, 0, 0⟩)
def D_x2 : SupD := ⟨"__init__", "BadWish.__init__", defArgs s_x2, defBody s_x2, defScope s_x2, "index"⟩
theorem T_x2 : SupT prg D_x2 := ⟨NdefX.nscope_by (by decide +kernel), rfl, ⟨_, rfl, rfl⟩, ⟨_, _, _, _, _, _, _, _, _, _, _, _, rfl, fun env => ⟨_, rfl⟩⟩, by decide +kernel, by decide, by decide⟩
def s_x3 : Stmt := (clsBody (top 5)).getD 0 (.Pass ⟨0, 0, 0, 0⟩)
def D_x3 : SupD := ⟨"__init__", "TooMany.__init__", defArgs s_x3, defBody s_x3, defScope s_x3, "many"⟩
theorem T_x3 : SupT prg D_x3 := ⟨NdefX.nscope_by (by decide +kernel), rfl, ⟨_, rfl, rfl⟩, ⟨_, _, _, _, _, _, _, _, _, _, _, _, rfl, fun env => ⟨_, rfl⟩⟩, by decide +kernel, by decide, by decide⟩
def s_x4 : Stmt := (clsBody (top 6)).getD 0 (.Pass ⟨0, 0, 0, 0⟩)
def D_x4 : SupD := ⟨"__init__", "BadStand.__init__", defArgs s_x4, defBody s_x4, defScope s_x4, "stand"⟩
theorem T_x4 : SupT prg D_x4 := ⟨NdefX.nscope_by (by decide +kernel), rfl, ⟨_, rfl, rfl⟩, ⟨_, _, _, _, _, _, _, _, _, _, _, _, rfl, fun env => ⟨_, rfl⟩⟩, by decide +kernel, by decide, by decide⟩
def s_x5 : Stmt := (clsBody (top 7)).getD 0 (.Pass ⟨0, 0, 0, 0⟩)
def D_x5 : SupD := ⟨"__init__", "BadName.__init__", defArgs s_x5, defBody s_x5, defScope s_x5, "name"⟩
theorem T_x5 : SupT prg D_x5 := ⟨NdefX.nscope_by (by decide +kernel), rfl, ⟨_, rfl, rfl⟩, ⟨_, _, _, _, _, _, _, _, _, _, _, _, rfl, fun env => ⟨_, rfl⟩⟩, by decide +kernel, by decide, by decide⟩
def ents : List Ent := [
  ⟨fun K => ga K "row_is_right", "row_is_right", "row_is_right", defArgs s_row_is_right, defBody s_row_is_right, defScope s_row_is_right, none⟩,
  ⟨fun K => ga K "check_stand", "check_stand", "check_stand", defArgs s_check_stand, defBody s_check_stand, defScope s_check_stand, none⟩,
  ⟨fun K => ga K "denied", "denied", "denied", defArgs s_denied, defBody s_denied, defScope s_denied, none⟩,
  ⟨fun K => ga K "within", "within", "within", defArgs s_within, defBody s_within, defScope s_within, none⟩,
  ⟨fun K => ga K "answer_in", "answer_in", "answer_in", defArgs s_answer_in, defBody s_answer_in, defScope s_answer_in, none⟩,
  ⟨fun K => ga K "with_answer", "with_answer", "with_answer", defArgs s_with_answer, defBody s_with_answer, defScope s_with_answer, none⟩,
  ⟨fun K => ga K "stands_of", "stands_of", "stands_of", defArgs s_stands_of, defBody s_stands_of, defScope s_stands_of, none⟩,
  ⟨fun K => ga K "plain_row", "plain_row", "plain_row", defArgs s_plain_row, defBody s_plain_row, defScope s_plain_row, none⟩,
  ⟨fun K => ma K (ga K "Liar") "__init__", "__init__", "Liar.__init__", defArgs s_Liar__init, defBody s_Liar__init, defScope s_Liar__init, none⟩,
  ⟨fun K => ma K (ga K "Liar") "check_free", "check_free", "Liar.check_free", defArgs s_Liar_check_free, defBody s_Liar_check_free, defScope s_Liar_check_free, none⟩,
  ⟨fun K => ma K (ga K "Liar") "hold", "hold", "Liar.hold", defArgs s_Liar_hold, defBody s_Liar_hold, defScope s_Liar_hold, none⟩,
  ⟨fun K => getter (fun K => ga K "Liar") "broken" K, "broken", "Liar.broken", defArgs s_Liar_broken, defBody s_Liar_broken, defScope s_Liar_broken, none⟩,
  ⟨fun K => ma K (ga K "Book") "__init__", "__init__", "Book.__init__", defArgs s_Book__init, defBody s_Book__init, defScope s_Book__init, none⟩,
  ⟨fun K => ma K (ga K "Book") "breaks", "breaks", "Book.breaks", defArgs s_Book_breaks, defBody s_Book_breaks, defScope s_Book_breaks, none⟩,
  ⟨fun K => ma K (ga K "Book") "__eq__", "__eq__", "Book.__eq__", defArgs s_Book__eq, defBody s_Book__eq, defScope s_Book__eq, none⟩,
  ⟨fun K => ga K "_law_cell", "_law_cell", "_law_cell", defArgs s_law_cell, defBody s_law_cell, defScope s_law_cell, none⟩,
  ⟨fun K => ga K "_law_draws", "_law_draws", "_law_draws", defArgs s_law_draws, defBody s_law_draws, defScope s_law_draws, none⟩,
  ⟨fun K => ga K "_law_wish", "_law_wish", "_law_wish", defArgs s_law_wish, defBody s_law_wish, defScope s_law_wish, none⟩,
  ⟨fun K => ga K "_law_is_number", "_law_is_number", "_law_is_number", defArgs s_law_is_number, defBody s_law_is_number, defScope s_law_is_number, none⟩,
  ⟨fun K => ga K "_law_is_row", "_law_is_row", "_law_is_row", defArgs s_law_is_row, defBody s_law_is_row, defScope s_law_is_row, none⟩,
  ⟨fun K => ga K "_law_many", "_law_many", "_law_many", defArgs s_law_many, defBody s_law_many, defScope s_law_many, none⟩,
  ⟨fun K => ga K "_law_stands_hold", "_law_stands_hold", "_law_stands_hold", defArgs s_law_stands_hold, defBody s_law_stands_hold, defScope s_law_stands_hold, none⟩,
  ⟨fun K => ga K "_law_bad_stands_refused", "_law_bad_stands_refused", "_law_bad_stands_refused", defArgs s_law_bad_stands_refused, defBody s_law_bad_stands_refused, defScope s_law_bad_stands_refused, none⟩,
  ⟨fun K => ga K "_law_liar_is", "_law_liar_is", "_law_liar_is", defArgs s_law_liar_is, defBody s_law_liar_is, defScope s_law_liar_is, none⟩,
  ⟨fun K => ga K "_law_hold", "_law_hold", "_law_hold", defArgs s_law_hold, defBody s_law_hold, defScope s_law_hold, none⟩,
  ⟨fun K => ga K "law", "law", "law", defArgs s_law, defBody s_law, defScope s_law, none⟩,
  ⟨fun K => ma K (ga K "BadNames") "__init__", "__init__", "BadNames.__init__", defArgs s_x1, defBody s_x1, defScope s_x1, some fun K => ga K "BadNames"⟩,
  ⟨fun K => ma K (ga K "BadWish") "__init__", "__init__", "BadWish.__init__", defArgs s_x2, defBody s_x2, defScope s_x2, some fun K => ga K "BadWish"⟩,
  ⟨fun K => ma K (ga K "TooMany") "__init__", "__init__", "TooMany.__init__", defArgs s_x3, defBody s_x3, defScope s_x3, some fun K => ga K "TooMany"⟩,
  ⟨fun K => ma K (ga K "BadStand") "__init__", "__init__", "BadStand.__init__", defArgs s_x4, defBody s_x4, defScope s_x4, some fun K => ga K "BadStand"⟩,
  ⟨fun K => ma K (ga K "BadName") "__init__", "__init__", "BadName.__init__", defArgs s_x5, defBody s_x5, defScope s_x5, some fun K => ga K "BadName"⟩]
def fa : List Fa := [.glo "row_is_right", .glo "check_stand", .glo "denied", .glo "within", .glo "answer_in", .glo "with_answer", .glo "stands_of", .glo "plain_row", .glo "_law_cell", .glo "_law_draws", .glo "_law_wish", .glo "_law_is_number", .glo "_law_is_row", .glo "_law_many", .glo "_law_stands_hold", .glo "_law_bad_stands_refused", .glo "_law_liar_is", .glo "_law_hold", .glo "law", .glo "BookError", .glo "BadNames", .glo "BadWish", .glo "TooMany", .glo "BadStand", .glo "BadName", .glo "BadText", .glo "Liar", .glo "Book", .free "super", .free "tuple", .free "all", .free "len", .free "range", .free "sorted", .free "enumerate", .free "set", .free "isinstance", .free "abs", .free "int", .free "bool", .free "min", .free "ValueError", .mkr "Liar", .meth "Liar" "check_free", .meth "Liar" "hold", .mkr "Book", .meth "Book" "breaks"]
def xs (K : PySem.W.Frag) : List Bool := [gokB tab nm 9 cN K, iokB tab 9 cN K, xokB tab nm 9 cN K, objB K, conB K (ga K "Book") "MOST_NAMES" 40, conB K (ga K "Book") "MOST_WISHES" 128, prpB K (fun K => ga K "Liar") "broken", eqmB K (ga K "Book"), supB K (ga K "BadNames") (ma K (ga K "BadNames") "__init__") "names", supB K (ga K "BadWish") (ma K (ga K "BadWish") "__init__") "index", supB K (ga K "TooMany") (ma K (ga K "TooMany") "__init__") "many", supB K (ga K "BadStand") (ma K (ga K "BadStand") "__init__") "stand", supB K (ga K "BadName") (ma K (ga K "BadName") "__init__") "name"]
abbrev hk : PySem.W.Hook := hook 6 fileS fa ents xs
def ob (s : PySem.W.SharedT) : Hd.Seen := Hd.lookG 6 fileS fa ents xs (HandSHeadRun.getT s)
theorem ob_eq (s : PySem.W.SharedT) : ob s = hk.obs s.abs := look_eq (HandSHeadRun.getT_eq s)
theorem fld_nd : ∀ k, ((tab.flds k).map nm).Nodup := by
  intro k
  show ((tFlds k).map nm).Nodup
  unfold tFlds
  split <;> decide +kernel
theorem fld_few : ∀ k, (tab.flds k).length < 1000 := by
  intro k
  show (tFlds k).length < 1000
  unfold tFlds
  split <;> decide
theorem ini_lt : ∀ k, (tab.init k).isSome = true → k < 9 := by
  intro k h
  replace h : (tInit k).isSome = true := h
  unfold tInit at h
  split at h <;> first | decide | cases h
theorem exc_lt : ∀ k, tab.exc k = true → k < 9 := by
  intro k h
  replace h : tExc k = true := h
  unfold tExc at h
  split at h <;> first | decide | cases h
structure AllF (w : World) (K : PySem.W.Frag) (mg : Str → Option Value) (base : Heap) (N n : Nat) : Prop where
  o_0 : CalF prg w (gl K mg (Cx K)) base (2 * n + 2) "row_is_right" (spP (gl K mg (Cx K)) ((CC N n).pure 0) 2)
  o_1 : CalF prg w (gl K mg (Cx K)) base (2 * n + 2) "check_stand" (spP (gl K mg (Cx K)) ((CC N n).pure 1) 2)
  o_2 : CalF prg w (gl K mg (Cx K)) base (2 * n + 2) "denied" (spP (gl K mg (Cx K)) ((CC N n).pure 2) 1)
  o_3 : CalF prg w (gl K mg (Cx K)) base (2 * n + 2) "within" (spP (gl K mg (Cx K)) ((CC N n).pure 3) 2)
  o_4 : CalF prg w (gl K mg (Cx K)) base (2 * n + 2) "answer_in" (spP (gl K mg (Cx K)) ((CC N n).pure 4) 2)
  o_5 : CalF prg w (gl K mg (Cx K)) base (2 * n + 2) "with_answer" (spP (gl K mg (Cx K)) ((CC N n).pure 5) 3)
  o_6 : Gn.GenF prg w (gl K mg (Cx K)) base (2 * n + 2) "stands_of" ((CC N n).gen 6) 2
  o_7 : CalF prg w (gl K mg (Cx K)) base (2 * n + 2) "plain_row" (spP (gl K mg (Cx K)) ((CC N n).pure 7) 1)
  o_8 : MakF prg w (gl K mg (Cx K)) base (2 * n + 2) "Liar" (Cx K 7) (spI (gl K mg (Cx K)) ((CC N n).io 8) 2)
  o_9 : MetF prg w (gl K mg (Cx K)) base (2 * n + 2) (Cx K 7) "check_free" (spP (gl K mg (Cx K)) ((CC N n).pure 9) 2)
  o_10 : MetF prg w (gl K mg (Cx K)) base (2 * n + 2) (Cx K 7) "hold" (spI (gl K mg (Cx K)) ((CC N n).io 10) 3)
  o_11 : PrpF prg w (gl K mg (Cx K)) base (2 * n + 2) (Cx K 7) "broken" (spP (gl K mg (Cx K)) ((CC N n).pure 11) 1)
  o_12 : MakF prg w (gl K mg (Cx K)) base (2 * n + 2) "Book" (Cx K 8) (spI (gl K mg (Cx K)) ((CC N n).io 12) 3)
  o_13 : MetF prg w (gl K mg (Cx K)) base (2 * n + 2) (Cx K 8) "breaks" (spP (gl K mg (Cx K)) ((CC N n).pure 13) 2)
  o_14 : EqoF prg w (gl K mg (Cx K)) base (2 * n + 2) (Cx K 8) (spP (gl K mg (Cx K)) ((CC N n).pure 14) 2)
  o_15 : CalF prg w (gl K mg (Cx K)) base (2 * n + 2) "_law_cell" (spP (gl K mg (Cx K)) ((CC N n).pure 15) 2)
  o_16 : CalF prg w (gl K mg (Cx K)) base (2 * n + 2) "_law_draws" (spP (gl K mg (Cx K)) ((CC N n).pure 16) 2)
  o_17 : CalF prg w (gl K mg (Cx K)) base (2 * n + 2) "_law_wish" (spP (gl K mg (Cx K)) ((CC N n).pure 17) 2)
  o_18 : CalF prg w (gl K mg (Cx K)) base (2 * n + 2) "_law_is_number" (spP (gl K mg (Cx K)) ((CC N n).pure 18) 2)
  o_19 : CalF prg w (gl K mg (Cx K)) base (2 * n + 2) "_law_is_row" (spP (gl K mg (Cx K)) ((CC N n).pure 19) 2)
  o_20 : CalF prg w (gl K mg (Cx K)) base (2 * n + 2) "_law_many" (spP (gl K mg (Cx K)) ((CC N n).pure 20) 2)
  o_21 : CalF prg w (gl K mg (Cx K)) base (2 * n + 2) "_law_stands_hold" (spP (gl K mg (Cx K)) ((CC N n).pure 21) 2)
  o_22 : CalF prg w (gl K mg (Cx K)) base (2 * n + 2) "_law_bad_stands_refused" (spP (gl K mg (Cx K)) ((CC N n).pure 22) 2)
  o_23 : CalF prg w (gl K mg (Cx K)) base (2 * n + 2) "_law_liar_is" (spP (gl K mg (Cx K)) ((CC N n).pure 23) 4)
  o_24 : CalF prg w (gl K mg (Cx K)) base (2 * n + 2) "_law_hold" (spI (gl K mg (Cx K)) ((CC N n).io 24) 5)
  o_25 : CalF prg w (gl K mg (Cx K)) base (2 * n + 2) "law" (spP (gl K mg (Cx K)) ((CC N n).pure 25) 1)
section
variable {w : World} {K : PySem.W.Frag} {h base : Heap} {mg : Str → Option Value}
theorem all_of (X : K.In h) (Gh : h.Ns mainGlobals mg) (c : Told fileS fa ents xs K) (N : Nat) : ∀ n, AllF w K mg base N n := by
  have ok : GOk (gl K mg (Cx K)) := gok_of (G := gl K mg (Cx K)) (cN := cN) (n := 9) (c.x 0) (fun _ => rfl) ini_lt fld_nd fld_few
  have io : IsOk (gl K mg (Cx K)) := iok_of (G := gl K mg (Cx K)) (cN := cN) (n := 9) (c.x 1) (fun _ => rfl) ini_lt
  have xk : XOk (gl K mg (Cx K)) := xok_of (G := gl K mg (Cx K)) (cN := cN) (n := 9) (c.x 2) (c.x 3) (fun _ => rfl) exc_lt
  have g_row_is_right : mg "row_is_right" = some (.ref (ga K "row_is_right")) := He.glo_ok X Gh (c.fact 0 (f := .glo "row_is_right") rfl)
  have g_check_stand : mg "check_stand" = some (.ref (ga K "check_stand")) := He.glo_ok X Gh (c.fact 1 (f := .glo "check_stand") rfl)
  have g_denied : mg "denied" = some (.ref (ga K "denied")) := He.glo_ok X Gh (c.fact 2 (f := .glo "denied") rfl)
  have g_within : mg "within" = some (.ref (ga K "within")) := He.glo_ok X Gh (c.fact 3 (f := .glo "within") rfl)
  have g_answer_in : mg "answer_in" = some (.ref (ga K "answer_in")) := He.glo_ok X Gh (c.fact 4 (f := .glo "answer_in") rfl)
  have g_with_answer : mg "with_answer" = some (.ref (ga K "with_answer")) := He.glo_ok X Gh (c.fact 5 (f := .glo "with_answer") rfl)
  have g_stands_of : mg "stands_of" = some (.ref (ga K "stands_of")) := He.glo_ok X Gh (c.fact 6 (f := .glo "stands_of") rfl)
  have g_plain_row : mg "plain_row" = some (.ref (ga K "plain_row")) := He.glo_ok X Gh (c.fact 7 (f := .glo "plain_row") rfl)
  have g__law_cell : mg "_law_cell" = some (.ref (ga K "_law_cell")) := He.glo_ok X Gh (c.fact 8 (f := .glo "_law_cell") rfl)
  have g__law_draws : mg "_law_draws" = some (.ref (ga K "_law_draws")) := He.glo_ok X Gh (c.fact 9 (f := .glo "_law_draws") rfl)
  have g__law_wish : mg "_law_wish" = some (.ref (ga K "_law_wish")) := He.glo_ok X Gh (c.fact 10 (f := .glo "_law_wish") rfl)
  have g__law_is_number : mg "_law_is_number" = some (.ref (ga K "_law_is_number")) := He.glo_ok X Gh (c.fact 11 (f := .glo "_law_is_number") rfl)
  have g__law_is_row : mg "_law_is_row" = some (.ref (ga K "_law_is_row")) := He.glo_ok X Gh (c.fact 12 (f := .glo "_law_is_row") rfl)
  have g__law_many : mg "_law_many" = some (.ref (ga K "_law_many")) := He.glo_ok X Gh (c.fact 13 (f := .glo "_law_many") rfl)
  have g__law_stands_hold : mg "_law_stands_hold" = some (.ref (ga K "_law_stands_hold")) := He.glo_ok X Gh (c.fact 14 (f := .glo "_law_stands_hold") rfl)
  have g__law_bad_stands_refused : mg "_law_bad_stands_refused" = some (.ref (ga K "_law_bad_stands_refused")) := He.glo_ok X Gh (c.fact 15 (f := .glo "_law_bad_stands_refused") rfl)
  have g__law_liar_is : mg "_law_liar_is" = some (.ref (ga K "_law_liar_is")) := He.glo_ok X Gh (c.fact 16 (f := .glo "_law_liar_is") rfl)
  have g__law_hold : mg "_law_hold" = some (.ref (ga K "_law_hold")) := He.glo_ok X Gh (c.fact 17 (f := .glo "_law_hold") rfl)
  have g_law : mg "law" = some (.ref (ga K "law")) := He.glo_ok X Gh (c.fact 18 (f := .glo "law") rfl)
  have g_BookError : mg "BookError" = some (.ref (ga K "BookError")) := He.glo_ok X Gh (c.fact 19 (f := .glo "BookError") rfl)
  have g_BadNames : mg "BadNames" = some (.ref (ga K "BadNames")) := He.glo_ok X Gh (c.fact 20 (f := .glo "BadNames") rfl)
  have g_BadWish : mg "BadWish" = some (.ref (ga K "BadWish")) := He.glo_ok X Gh (c.fact 21 (f := .glo "BadWish") rfl)
  have g_TooMany : mg "TooMany" = some (.ref (ga K "TooMany")) := He.glo_ok X Gh (c.fact 22 (f := .glo "TooMany") rfl)
  have g_BadStand : mg "BadStand" = some (.ref (ga K "BadStand")) := He.glo_ok X Gh (c.fact 23 (f := .glo "BadStand") rfl)
  have g_BadName : mg "BadName" = some (.ref (ga K "BadName")) := He.glo_ok X Gh (c.fact 24 (f := .glo "BadName") rfl)
  have g_BadText : mg "BadText" = some (.ref (ga K "BadText")) := He.glo_ok X Gh (c.fact 25 (f := .glo "BadText") rfl)
  have g_Liar : mg "Liar" = some (.ref (ga K "Liar")) := He.glo_ok X Gh (c.fact 26 (f := .glo "Liar") rfl)
  have g_Book : mg "Book" = some (.ref (ga K "Book")) := He.glo_ok X Gh (c.fact 27 (f := .glo "Book") rfl)
  have b_super : mg "super" = none := He.free_ok X Gh (c.fact 28 (f := .free "super") rfl)
  have b_tuple : mg "tuple" = none := He.free_ok X Gh (c.fact 29 (f := .free "tuple") rfl)
  have b_all : mg "all" = none := He.free_ok X Gh (c.fact 30 (f := .free "all") rfl)
  have b_len : mg "len" = none := He.free_ok X Gh (c.fact 31 (f := .free "len") rfl)
  have b_range : mg "range" = none := He.free_ok X Gh (c.fact 32 (f := .free "range") rfl)
  have b_sorted : mg "sorted" = none := He.free_ok X Gh (c.fact 33 (f := .free "sorted") rfl)
  have b_enumerate : mg "enumerate" = none := He.free_ok X Gh (c.fact 34 (f := .free "enumerate") rfl)
  have b_set : mg "set" = none := He.free_ok X Gh (c.fact 35 (f := .free "set") rfl)
  have b_isinstance : mg "isinstance" = none := He.free_ok X Gh (c.fact 36 (f := .free "isinstance") rfl)
  have b_abs : mg "abs" = none := He.free_ok X Gh (c.fact 37 (f := .free "abs") rfl)
  have b_int : mg "int" = none := He.free_ok X Gh (c.fact 38 (f := .free "int") rfl)
  have b_bool : mg "bool" = none := He.free_ok X Gh (c.fact 39 (f := .free "bool") rfl)
  have b_min : mg "min" = none := He.free_ok X Gh (c.fact 40 (f := .free "min") rfl)
  have b_ValueError : mg "ValueError" = none := He.free_ok X Gh (c.fact 41 (f := .free "ValueError") rfl)
  have k_Book_MOST_NAMES : ConF K (Cx K 8) "MOST_NAMES" 40 := conB_ok (c.x 4)
  have k_Book_MOST_WISHES : ConF K (Cx K 8) "MOST_WISHES" 128 := conB_ok (c.x 5)
  have x_1 : ExF prg w (gl K mg (Cx K)) base 2 "BadNames" (Cx K 1) "names" := sup_made (D := D_x1) (f := ma K (ga K "BadNames") "__init__") T_x1 (supB_ok (c.x 8) (eqO_ok (c.fact 28 (f := .free "super") rfl)) (Ent.sup (g := fun K => ga K "BadNames") rfl (c.row 26 rfl).1 (c.row 26 rfl).2)) b_super g_BadNames (by decide) fun _ _ _ _ _ _ _ us hl => match us, hl with | [_, _], _ => rfl
  have x_2 : ExF prg w (gl K mg (Cx K)) base 2 "BadWish" (Cx K 2) "index" := sup_made (D := D_x2) (f := ma K (ga K "BadWish") "__init__") T_x2 (supB_ok (c.x 9) (eqO_ok (c.fact 28 (f := .free "super") rfl)) (Ent.sup (g := fun K => ga K "BadWish") rfl (c.row 27 rfl).1 (c.row 27 rfl).2)) b_super g_BadWish (by decide) fun _ _ _ _ _ _ _ us hl => match us, hl with | [_, _], _ => rfl
  have x_3 : ExF prg w (gl K mg (Cx K)) base 2 "TooMany" (Cx K 3) "many" := sup_made (D := D_x3) (f := ma K (ga K "TooMany") "__init__") T_x3 (supB_ok (c.x 10) (eqO_ok (c.fact 28 (f := .free "super") rfl)) (Ent.sup (g := fun K => ga K "TooMany") rfl (c.row 28 rfl).1 (c.row 28 rfl).2)) b_super g_TooMany (by decide) fun _ _ _ _ _ _ _ us hl => match us, hl with | [_, _], _ => rfl
  have x_4 : ExF prg w (gl K mg (Cx K)) base 2 "BadStand" (Cx K 4) "stand" := sup_made (D := D_x4) (f := ma K (ga K "BadStand") "__init__") T_x4 (supB_ok (c.x 11) (eqO_ok (c.fact 28 (f := .free "super") rfl)) (Ent.sup (g := fun K => ga K "BadStand") rfl (c.row 29 rfl).1 (c.row 29 rfl).2)) b_super g_BadStand (by decide) fun _ _ _ _ _ _ _ us hl => match us, hl with | [_, _], _ => rfl
  have x_5 : ExF prg w (gl K mg (Cx K)) base 2 "BadName" (Cx K 5) "name" := sup_made (D := D_x5) (f := ma K (ga K "BadName") "__init__") T_x5 (supB_ok (c.x 12) (eqO_ok (c.fact 28 (f := .free "super") rfl)) (Ent.sup (g := fun K => ga K "BadName") rfl (c.row 30 rfl).1 (c.row 30 rfl).2)) b_super g_BadName (by decide) fun _ _ _ _ _ _ _ us hl => match us, hl with | [_, _], _ => rfl
  obtain ⟨fd_0, F_0⟩ := c.fn 0
  have B_0 : Binds K fd_0 ["names", "row"] [] := F_0.bindsN fun _ _ _ _ _ _ us hl => match us, hl with | [_, _], _ => rfl
  obtain ⟨fd_1, F_1⟩ := c.fn 1
  have B_1 : Binds K fd_1 ["names", "stand"] [] := F_1.bindsN fun _ _ _ _ _ _ us hl => match us, hl with | [_, _], _ => rfl
  obtain ⟨fd_2, F_2⟩ := c.fn 2
  have B_2 : Binds K fd_2 ["row"] [] := F_2.bindsN fun _ _ _ _ _ _ us hl => match us, hl with | [_], _ => rfl
  obtain ⟨fd_3, F_3⟩ := c.fn 3
  have B_3 : Binds K fd_3 ["row", "other"] [] := F_3.bindsN fun _ _ _ _ _ _ us hl => match us, hl with | [_, _], _ => rfl
  obtain ⟨fd_4, F_4⟩ := c.fn 4
  have B_4 : Binds K fd_4 ["stand", "name"] [] := F_4.bindsN fun _ _ _ _ _ _ us hl => match us, hl with | [_, _], _ => rfl
  obtain ⟨fd_5, F_5⟩ := c.fn 5
  have B_5 : Binds K fd_5 ["stand", "name", "answer"] [] := F_5.bindsN fun _ _ _ _ _ _ us hl => match us, hl with | [_, _, _], _ => rfl
  obtain ⟨fd_6, F_6⟩ := c.fn 6
  have B_6 : Binds K fd_6 ["names", "most"] [] := F_6.bindsN fun _ _ _ _ _ _ us hl => match us, hl with | [_, _], _ => rfl
  obtain ⟨fd_7, F_7⟩ := c.fn 7
  have B_7 : Binds K fd_7 ["row"] [] := F_7.bindsN fun _ _ _ _ _ _ us hl => match us, hl with | [_], _ => rfl
  obtain ⟨fd_8, F_8⟩ := c.fn 8
  have B_8 : Binds K fd_8 ["self", "book"] [] := F_8.bindsN fun _ _ _ _ _ _ us hl => match us, hl with | [_, _], _ => rfl
  obtain ⟨fd_9, F_9⟩ := c.fn 9
  have B_9 : Binds K fd_9 ["self", "name"] [] := F_9.bindsN fun _ _ _ _ _ _ us hl => match us, hl with | [_, _], _ => rfl
  obtain ⟨fd_10, F_10⟩ := c.fn 10
  have B_10 : Binds K fd_10 ["self", "name", "answer"] [] := F_10.bindsN fun _ _ _ _ _ _ us hl => match us, hl with | [_, _, _], _ => rfl
  obtain ⟨fd_11, F_11⟩ := c.fn 11
  have B_11 : Binds K fd_11 ["self"] [] := F_11.bindsN fun _ _ _ _ _ _ us hl => match us, hl with | [_], _ => rfl
  obtain ⟨fd_12, F_12⟩ := c.fn 12
  have B_12 : Binds K fd_12 ["self", "names", "wishes"] [] := F_12.bindsN fun _ _ _ _ _ _ us hl => match us, hl with | [_, _, _], _ => rfl
  obtain ⟨fd_13, F_13⟩ := c.fn 13
  have B_13 : Binds K fd_13 ["self", "stand"] [] := F_13.bindsN fun _ _ _ _ _ _ us hl => match us, hl with | [_, _], _ => rfl
  obtain ⟨fd_14, F_14⟩ := c.fn 14
  have B_14 : Binds K fd_14 ["self", "other"] [] := F_14.bindsN fun _ _ _ _ _ _ us hl => match us, hl with | [_, _], _ => rfl
  obtain ⟨fd_15, F_15⟩ := c.fn 15
  have B_15 : Binds K fd_15 ["script", "k"] [] := F_15.bindsN fun _ _ _ _ _ _ us hl => match us, hl with | [_, _], _ => rfl
  obtain ⟨fd_16, F_16⟩ := c.fn 16
  have B_16 : Binds K fd_16 ["cell", "many"] [] := F_16.bindsN fun _ _ _ _ _ _ us hl => match us, hl with | [_, _], _ => rfl
  obtain ⟨fd_17, F_17⟩ := c.fn 17
  have B_17 : Binds K fd_17 ["cell", "names"] [] := F_17.bindsN fun _ _ _ _ _ _ us hl => match us, hl with | [_, _], _ => rfl
  obtain ⟨fd_18, F_18⟩ := c.fn 18
  have B_18 : Binds K fd_18 ["actual", "expected"] [] := F_18.bindsN fun _ _ _ _ _ _ us hl => match us, hl with | [_, _], _ => rfl
  obtain ⟨fd_19, F_19⟩ := c.fn 19
  have B_19 : Binds K fd_19 ["actual", "due"] [] := F_19.bindsN fun _ _ _ _ _ _ us hl => match us, hl with | [_, _], _ => rfl
  obtain ⟨fd_20, F_20⟩ := c.fn 20
  have B_20 : Binds K fd_20 ["names", "most"] [] := F_20.bindsN fun _ _ _ _ _ _ us hl => match us, hl with | [_, _], _ => rfl
  obtain ⟨fd_21, F_21⟩ := c.fn 21
  have B_21 : Binds K fd_21 ["names", "most"] [] := F_21.bindsN fun _ _ _ _ _ _ us hl => match us, hl with | [_, _], _ => rfl
  obtain ⟨fd_22, F_22⟩ := c.fn 22
  have B_22 : Binds K fd_22 ["names", "draws"] [] := F_22.bindsN fun _ _ _ _ _ _ us hl => match us, hl with | [_, _], _ => rfl
  obtain ⟨fd_23, F_23⟩ := c.fn 23
  have B_23 : Binds K fd_23 ["liar", "wishes", "held", "asked"] [] := F_23.bindsN fun _ _ _ _ _ _ us hl => match us, hl with | [_, _, _, _], _ => rfl
  obtain ⟨fd_24, F_24⟩ := c.fn 24
  have B_24 : Binds K fd_24 ["liar", "name", "answer", "names", "held"] [] := F_24.bindsN fun _ _ _ _ _ _ us hl => match us, hl with | [_, _, _, _, _], _ => rfl
  obtain ⟨fd_25, F_25⟩ := c.fn 25
  have B_25 : Binds K fd_25 ["script"] [] := F_25.bindsN fun _ _ _ _ _ _ us hl => match us, hl with | [_], _ => rfl
  intro n
  induction n with
  | zero =>
    exact ⟨⟨⟨_, _, _, bad_pure (G := gl K mg (Cx K)) rfl, g_row_is_right, F_0.kp, B_0⟩⟩,
      ⟨⟨_, _, _, bad_pure (G := gl K mg (Cx K)) rfl, g_check_stand, F_1.kp, B_1⟩⟩,
      ⟨⟨_, _, _, bad_pure (G := gl K mg (Cx K)) rfl, g_denied, F_2.kp, B_2⟩⟩,
      ⟨⟨_, _, _, bad_pure (G := gl K mg (Cx K)) rfl, g_within, F_3.kp, B_3⟩⟩,
      ⟨⟨_, _, _, bad_pure (G := gl K mg (Cx K)) rfl, g_answer_in, F_4.kp, B_4⟩⟩,
      ⟨⟨_, _, _, bad_pure (G := gl K mg (Cx K)) rfl, g_with_answer, F_5.kp, B_5⟩⟩,
      Gn.bad_gen (G := gl K mg (Cx K)) g_stands_of F_6.kp rfl B_6 fun _ => rfl,
      ⟨⟨_, _, _, bad_pure (G := gl K mg (Cx K)) rfl, g_plain_row, F_7.kp, B_7⟩⟩,
      ⟨⟨_, _, _, bad_io (G := gl K mg (Cx K)) rfl, g_Liar, He.mkr_ok (c.fact 42 (f := .mkr "Liar") rfl), B_8⟩⟩,
      ⟨⟨_, _, _, bad_pure (G := gl K mg (Cx K)) rfl, He.meth_ok (c.fact 43 (f := .meth "Liar" "check_free") rfl), B_9⟩⟩,
      ⟨⟨_, _, _, bad_io (G := gl K mg (Cx K)) rfl, He.meth_ok (c.fact 44 (f := .meth "Liar" "hold") rfl), B_10⟩⟩,
      ⟨⟨_, _, _, _, bad_pure (G := gl K mg (Cx K)) rfl, prpB_ok (c.x 6), B_11⟩⟩,
      ⟨⟨_, _, _, bad_io (G := gl K mg (Cx K)) rfl, g_Book, He.mkr_ok (c.fact 45 (f := .mkr "Book") rfl), B_12⟩⟩,
      ⟨⟨_, _, _, bad_pure (G := gl K mg (Cx K)) rfl, He.meth_ok (c.fact 46 (f := .meth "Book" "breaks") rfl), B_13⟩⟩,
      ⟨⟨_, _, _, bad_pure (G := gl K mg (Cx K)) rfl, of_decide_eq_true (ba (c.x 7)).1, (ba (c.x 7)).2, B_14⟩⟩,
      ⟨⟨_, _, _, bad_pure (G := gl K mg (Cx K)) rfl, g__law_cell, F_15.kp, B_15⟩⟩,
      ⟨⟨_, _, _, bad_pure (G := gl K mg (Cx K)) rfl, g__law_draws, F_16.kp, B_16⟩⟩,
      ⟨⟨_, _, _, bad_pure (G := gl K mg (Cx K)) rfl, g__law_wish, F_17.kp, B_17⟩⟩,
      ⟨⟨_, _, _, bad_pure (G := gl K mg (Cx K)) rfl, g__law_is_number, F_18.kp, B_18⟩⟩,
      ⟨⟨_, _, _, bad_pure (G := gl K mg (Cx K)) rfl, g__law_is_row, F_19.kp, B_19⟩⟩,
      ⟨⟨_, _, _, bad_pure (G := gl K mg (Cx K)) rfl, g__law_many, F_20.kp, B_20⟩⟩,
      ⟨⟨_, _, _, bad_pure (G := gl K mg (Cx K)) rfl, g__law_stands_hold, F_21.kp, B_21⟩⟩,
      ⟨⟨_, _, _, bad_pure (G := gl K mg (Cx K)) rfl, g__law_bad_stands_refused, F_22.kp, B_22⟩⟩,
      ⟨⟨_, _, _, bad_pure (G := gl K mg (Cx K)) rfl, g__law_liar_is, F_23.kp, B_23⟩⟩,
      ⟨⟨_, _, _, bad_io (G := gl K mg (Cx K)) rfl, g__law_hold, F_24.kp, B_24⟩⟩,
      ⟨⟨_, _, _, bad_pure (G := gl K mg (Cx K)) rfl, g_law, F_25.kp, B_25⟩⟩⟩
  | succ n ih =>
    exact ⟨⟨⟨_, _, _, ok_row_is_right (Cf := Cx K) (C := CC N n) (fuel := N) (lev := 2 * n + 2) ok F_0 , g_row_is_right, F_0.kp, B_0⟩⟩,
      ⟨⟨_, _, _, ok_check_stand (Cf := Cx K) (C := CC N n) (fuel := N) (lev := 2 * n + 2) ok F_1 (c_0 := ih.o_0) (x_4 := (exF_up x_4 (by omega))), g_check_stand, F_1.kp, B_1⟩⟩,
      ⟨⟨_, _, _, ok_denied (Cf := Cx K) (C := CC N n) (fuel := N) (lev := 2 * n + 2) ok F_2 (b_tuple := b_tuple), g_denied, F_2.kp, B_2⟩⟩,
      ⟨⟨_, _, _, ok_within (Cf := Cx K) (C := CC N n) (fuel := N) (lev := 2 * n + 2) ok F_3 (b_all := b_all), g_within, F_3.kp, B_3⟩⟩,
      ⟨⟨_, _, _, ok_answer_in (Cf := Cx K) (C := CC N n) (fuel := N) (lev := 2 * n + 2) ok F_4 , g_answer_in, F_4.kp, B_4⟩⟩,
      ⟨⟨_, _, _, ok_with_answer (Cf := Cx K) (C := CC N n) (fuel := N) (lev := 2 * n + 2) ok F_5 (b_len := b_len) (x_5 := (exF_up x_5 (by omega))) (b_tuple := b_tuple), g_with_answer, F_5.kp, B_5⟩⟩,
      ok_stands_of (Cf := Cx K) (C := CC N n) (fuel := N) (lev := 2 * n + 2) ok F_6 g_stands_of B_6 (b_len := b_len) (b_range := b_range),
      ⟨⟨_, _, _, ok_plain_row (Cf := Cx K) (C := CC N n) (fuel := N) (lev := 2 * n + 2) ok F_7 (b_tuple := b_tuple) (b_sorted := b_sorted), g_plain_row, F_7.kp, B_7⟩⟩,
      ⟨⟨_, _, _, ok_Liar__init (Cf := Cx K) (C := CC N n) (fuel := N) (lev := 2 * n + 2) ok F_8 , g_Liar, He.mkr_ok (c.fact 42 (f := .mkr "Liar") rfl), B_8⟩⟩,
      ⟨⟨_, _, _, ok_Liar_check_free (Cf := Cx K) (C := CC N n) (fuel := N) (lev := 2 * n + 2) ok F_9 (c_4 := ih.o_4) (x_5 := (exF_up x_5 (by omega))), He.meth_ok (c.fact 43 (f := .meth "Liar" "check_free") rfl), B_9⟩⟩,
      ⟨⟨_, _, _, ok_Liar_hold (Cf := Cx K) (C := CC N n) (fuel := N) (lev := 2 * n + 2) ok F_10 (m_9 := ih.o_9) (c_5 := ih.o_5), He.meth_ok (c.fact 44 (f := .meth "Liar" "hold") rfl), B_10⟩⟩,
      ⟨⟨_, _, _, _, ok_Liar_broken (Cf := Cx K) (C := CC N n) (fuel := N) (lev := 2 * n + 2) ok F_11 (m_13 := ih.o_13), prpB_ok (c.x 6), B_11⟩⟩,
      ⟨⟨_, _, _, ok_Book__init (Cf := Cx K) (C := CC N n) (fuel := N) (lev := 2 * n + 2) ok F_12 (g_Book := g_Book) (k_Book_MOST_NAMES := k_Book_MOST_NAMES) (x_1 := (exF_up x_1 (by omega))) (b_enumerate := b_enumerate) (c_0 := ih.o_0) (x_2 := (exF_up x_2 (by omega))) (c_7 := ih.o_7) (b_sorted := b_sorted) (b_set := b_set) (b_len := b_len) (k_Book_MOST_WISHES := k_Book_MOST_WISHES) (x_3 := (exF_up x_3 (by omega))) (b_tuple := b_tuple), g_Book, He.mkr_ok (c.fact 45 (f := .mkr "Book") rfl), B_12⟩⟩,
      ⟨⟨_, _, _, ok_Book_breaks (Cf := Cx K) (C := CC N n) (fuel := N) (lev := 2 * n + 2) ok F_13 (c_1 := ih.o_1) (b_tuple := b_tuple) (b_enumerate := b_enumerate) (c_3 := ih.o_3) (c_2 := ih.o_2), He.meth_ok (c.fact 46 (f := .meth "Book" "breaks") rfl), B_13⟩⟩,
      ⟨⟨_, _, _, ok_Book__eq (Cf := Cx K) (C := CC N n) (fuel := N) (lev := 2 * n + 2) ok F_14 (g_Book := g_Book) (io := io) (b_isinstance := b_isinstance), of_decide_eq_true (ba (c.x 7)).1, (ba (c.x 7)).2, B_14⟩⟩,
      ⟨⟨_, _, _, ok_law_cell (Cf := Cx K) (C := CC N n) (fuel := N) (lev := 2 * n + 2) ok F_15 (b_len := b_len), g__law_cell, F_15.kp, B_15⟩⟩,
      ⟨⟨_, _, _, ok_law_draws (Cf := Cx K) (C := CC N n) (fuel := N) (lev := 2 * n + 2) ok F_16 (b_abs := b_abs) (b_range := b_range) (b_int := b_int), g__law_draws, F_16.kp, B_16⟩⟩,
      ⟨⟨_, _, _, ok_law_wish (Cf := Cx K) (C := CC N n) (fuel := N) (lev := 2 * n + 2) ok F_17 (c_16 := ih.o_16) (b_tuple := b_tuple) (b_range := b_range), g__law_wish, F_17.kp, B_17⟩⟩,
      ⟨⟨_, _, _, ok_law_is_number (Cf := Cx K) (C := CC N n) (fuel := N) (lev := 2 * n + 2) ok F_18 (b_bool := b_bool) (io := io) (b_isinstance := b_isinstance) (b_int := b_int), g__law_is_number, F_18.kp, B_18⟩⟩,
      ⟨⟨_, _, _, ok_law_is_row (Cf := Cx K) (C := CC N n) (fuel := N) (lev := 2 * n + 2) ok F_19 (b_len := b_len) (b_tuple := b_tuple) (io := io) (b_isinstance := b_isinstance) (b_range := b_range) (c_18 := ih.o_18), g__law_is_row, F_19.kp, B_19⟩⟩,
      ⟨⟨_, _, _, ok_law_many (Cf := Cx K) (C := CC N n) (fuel := N) (lev := 2 * n + 2) ok F_20 (b_range := b_range) (b_min := b_min), g__law_many, F_20.kp, B_20⟩⟩,
      ⟨⟨_, _, _, ok_law_stands_hold (Cf := Cx K) (C := CC N n) (fuel := N) (lev := 2 * n + 2) ok F_21 (n_6 := ih.o_6) (c_18 := ih.o_18) (b_len := b_len) (b_tuple := b_tuple) (io := io) (b_isinstance := b_isinstance) (c_1 := ih.o_1) (c_20 := ih.o_20), g__law_stands_hold, F_21.kp, B_21⟩⟩,
      ⟨⟨_, _, _, ok_law_bad_stands_refused (Cf := Cx K) (C := CC N n) (fuel := N) (lev := 2 * n + 2) ok F_22 (xk := xk) (g_BookError := g_BookError) (c_1 := ih.o_1) (g_BadName := g_BadName) (b_isinstance := b_isinstance) (b_ValueError := b_ValueError) (g_BadStand := g_BadStand), g__law_bad_stands_refused, F_22.kp, B_22⟩⟩,
      ⟨⟨_, _, _, ok_law_liar_is (Cf := Cx K) (C := CC N n) (fuel := N) (lev := 2 * n + 2) ok F_23 (b_sorted := b_sorted) (b_range := b_range) (b_len := b_len) (c_18 := ih.o_18) (c_19 := ih.o_19) (r_11 := ih.o_11) (b_tuple := b_tuple) (io := io) (b_isinstance := b_isinstance), g__law_liar_is, F_23.kp, B_23⟩⟩,
      ⟨⟨_, _, _, ok_law_hold (Cf := Cx K) (C := CC N n) (fuel := N) (lev := 2 * n + 2) ok F_24 (xk := xk) (g_BadName := g_BadName) (m_9 := ih.o_9) (g_BadStand := g_BadStand) (b_isinstance := b_isinstance) (g_BookError := g_BookError) (c_18 := ih.o_18) (m_10 := ih.o_10), g__law_hold, F_24.kp, B_24⟩⟩,
      ⟨⟨_, _, _, ok_law (Cf := Cx K) (C := CC N n) (fuel := N) (lev := 2 * n + 2) ok F_25 (b_abs := b_abs) (c_15 := ih.o_15) (c_21 := ih.o_21) (c_16 := ih.o_16) (c_22 := ih.o_22) (b_sorted := b_sorted) (c_17 := ih.o_17) (b_min := b_min) (b_len := b_len) (c_19 := ih.o_19) (c_2 := ih.o_2) (b_tuple := b_tuple) (k_8 := ih.o_12) (k_7 := ih.o_8) (c_23 := ih.o_23) (q_14 := ih.o_14) (b_range := b_range) (c_24 := ih.o_24), g_law, F_25.kp, B_25⟩⟩⟩
theorem last_of (X : K.In h) (Gh : h.Ns mainGlobals mg) (c : Told fileS fa ents xs K) (N n : Nat) (base : Heap) {fd : FuncData} (F : FunD K "law" "law" (defArgs s_law) (defBody s_law) (defScope s_law) [] [] (ga K "law") fd) :
    FnOk prg w K mg base (L2.CX prg w) (2 * n + 4) (ga K "law") fd ["script"] (spP (gl K mg (Cx K)) (runP tab (CC N n) N f_law) 1) := by
  have ok : GOk (gl K mg (Cx K)) := gok_of (G := gl K mg (Cx K)) (cN := cN) (n := 9) (c.x 0) (fun _ => rfl) ini_lt fld_nd fld_few
  have io : IsOk (gl K mg (Cx K)) := iok_of (G := gl K mg (Cx K)) (cN := cN) (n := 9) (c.x 1) (fun _ => rfl) ini_lt
  have xk : XOk (gl K mg (Cx K)) := xok_of (G := gl K mg (Cx K)) (cN := cN) (n := 9) (c.x 2) (c.x 3) (fun _ => rfl) exc_lt
  have g_row_is_right : mg "row_is_right" = some (.ref (ga K "row_is_right")) := He.glo_ok X Gh (c.fact 0 (f := .glo "row_is_right") rfl)
  have g_check_stand : mg "check_stand" = some (.ref (ga K "check_stand")) := He.glo_ok X Gh (c.fact 1 (f := .glo "check_stand") rfl)
  have g_denied : mg "denied" = some (.ref (ga K "denied")) := He.glo_ok X Gh (c.fact 2 (f := .glo "denied") rfl)
  have g_within : mg "within" = some (.ref (ga K "within")) := He.glo_ok X Gh (c.fact 3 (f := .glo "within") rfl)
  have g_answer_in : mg "answer_in" = some (.ref (ga K "answer_in")) := He.glo_ok X Gh (c.fact 4 (f := .glo "answer_in") rfl)
  have g_with_answer : mg "with_answer" = some (.ref (ga K "with_answer")) := He.glo_ok X Gh (c.fact 5 (f := .glo "with_answer") rfl)
  have g_stands_of : mg "stands_of" = some (.ref (ga K "stands_of")) := He.glo_ok X Gh (c.fact 6 (f := .glo "stands_of") rfl)
  have g_plain_row : mg "plain_row" = some (.ref (ga K "plain_row")) := He.glo_ok X Gh (c.fact 7 (f := .glo "plain_row") rfl)
  have g__law_cell : mg "_law_cell" = some (.ref (ga K "_law_cell")) := He.glo_ok X Gh (c.fact 8 (f := .glo "_law_cell") rfl)
  have g__law_draws : mg "_law_draws" = some (.ref (ga K "_law_draws")) := He.glo_ok X Gh (c.fact 9 (f := .glo "_law_draws") rfl)
  have g__law_wish : mg "_law_wish" = some (.ref (ga K "_law_wish")) := He.glo_ok X Gh (c.fact 10 (f := .glo "_law_wish") rfl)
  have g__law_is_number : mg "_law_is_number" = some (.ref (ga K "_law_is_number")) := He.glo_ok X Gh (c.fact 11 (f := .glo "_law_is_number") rfl)
  have g__law_is_row : mg "_law_is_row" = some (.ref (ga K "_law_is_row")) := He.glo_ok X Gh (c.fact 12 (f := .glo "_law_is_row") rfl)
  have g__law_many : mg "_law_many" = some (.ref (ga K "_law_many")) := He.glo_ok X Gh (c.fact 13 (f := .glo "_law_many") rfl)
  have g__law_stands_hold : mg "_law_stands_hold" = some (.ref (ga K "_law_stands_hold")) := He.glo_ok X Gh (c.fact 14 (f := .glo "_law_stands_hold") rfl)
  have g__law_bad_stands_refused : mg "_law_bad_stands_refused" = some (.ref (ga K "_law_bad_stands_refused")) := He.glo_ok X Gh (c.fact 15 (f := .glo "_law_bad_stands_refused") rfl)
  have g__law_liar_is : mg "_law_liar_is" = some (.ref (ga K "_law_liar_is")) := He.glo_ok X Gh (c.fact 16 (f := .glo "_law_liar_is") rfl)
  have g__law_hold : mg "_law_hold" = some (.ref (ga K "_law_hold")) := He.glo_ok X Gh (c.fact 17 (f := .glo "_law_hold") rfl)
  have g_law : mg "law" = some (.ref (ga K "law")) := He.glo_ok X Gh (c.fact 18 (f := .glo "law") rfl)
  have g_BookError : mg "BookError" = some (.ref (ga K "BookError")) := He.glo_ok X Gh (c.fact 19 (f := .glo "BookError") rfl)
  have g_BadNames : mg "BadNames" = some (.ref (ga K "BadNames")) := He.glo_ok X Gh (c.fact 20 (f := .glo "BadNames") rfl)
  have g_BadWish : mg "BadWish" = some (.ref (ga K "BadWish")) := He.glo_ok X Gh (c.fact 21 (f := .glo "BadWish") rfl)
  have g_TooMany : mg "TooMany" = some (.ref (ga K "TooMany")) := He.glo_ok X Gh (c.fact 22 (f := .glo "TooMany") rfl)
  have g_BadStand : mg "BadStand" = some (.ref (ga K "BadStand")) := He.glo_ok X Gh (c.fact 23 (f := .glo "BadStand") rfl)
  have g_BadName : mg "BadName" = some (.ref (ga K "BadName")) := He.glo_ok X Gh (c.fact 24 (f := .glo "BadName") rfl)
  have g_BadText : mg "BadText" = some (.ref (ga K "BadText")) := He.glo_ok X Gh (c.fact 25 (f := .glo "BadText") rfl)
  have g_Liar : mg "Liar" = some (.ref (ga K "Liar")) := He.glo_ok X Gh (c.fact 26 (f := .glo "Liar") rfl)
  have g_Book : mg "Book" = some (.ref (ga K "Book")) := He.glo_ok X Gh (c.fact 27 (f := .glo "Book") rfl)
  have b_super : mg "super" = none := He.free_ok X Gh (c.fact 28 (f := .free "super") rfl)
  have b_tuple : mg "tuple" = none := He.free_ok X Gh (c.fact 29 (f := .free "tuple") rfl)
  have b_all : mg "all" = none := He.free_ok X Gh (c.fact 30 (f := .free "all") rfl)
  have b_len : mg "len" = none := He.free_ok X Gh (c.fact 31 (f := .free "len") rfl)
  have b_range : mg "range" = none := He.free_ok X Gh (c.fact 32 (f := .free "range") rfl)
  have b_sorted : mg "sorted" = none := He.free_ok X Gh (c.fact 33 (f := .free "sorted") rfl)
  have b_enumerate : mg "enumerate" = none := He.free_ok X Gh (c.fact 34 (f := .free "enumerate") rfl)
  have b_set : mg "set" = none := He.free_ok X Gh (c.fact 35 (f := .free "set") rfl)
  have b_isinstance : mg "isinstance" = none := He.free_ok X Gh (c.fact 36 (f := .free "isinstance") rfl)
  have b_abs : mg "abs" = none := He.free_ok X Gh (c.fact 37 (f := .free "abs") rfl)
  have b_int : mg "int" = none := He.free_ok X Gh (c.fact 38 (f := .free "int") rfl)
  have b_bool : mg "bool" = none := He.free_ok X Gh (c.fact 39 (f := .free "bool") rfl)
  have b_min : mg "min" = none := He.free_ok X Gh (c.fact 40 (f := .free "min") rfl)
  have b_ValueError : mg "ValueError" = none := He.free_ok X Gh (c.fact 41 (f := .free "ValueError") rfl)
  have k_Book_MOST_NAMES : ConF K (Cx K 8) "MOST_NAMES" 40 := conB_ok (c.x 4)
  have k_Book_MOST_WISHES : ConF K (Cx K 8) "MOST_WISHES" 128 := conB_ok (c.x 5)
  have x_1 : ExF prg w (gl K mg (Cx K)) base 2 "BadNames" (Cx K 1) "names" := sup_made (D := D_x1) (f := ma K (ga K "BadNames") "__init__") T_x1 (supB_ok (c.x 8) (eqO_ok (c.fact 28 (f := .free "super") rfl)) (Ent.sup (g := fun K => ga K "BadNames") rfl (c.row 26 rfl).1 (c.row 26 rfl).2)) b_super g_BadNames (by decide) fun _ _ _ _ _ _ _ us hl => match us, hl with | [_, _], _ => rfl
  have x_2 : ExF prg w (gl K mg (Cx K)) base 2 "BadWish" (Cx K 2) "index" := sup_made (D := D_x2) (f := ma K (ga K "BadWish") "__init__") T_x2 (supB_ok (c.x 9) (eqO_ok (c.fact 28 (f := .free "super") rfl)) (Ent.sup (g := fun K => ga K "BadWish") rfl (c.row 27 rfl).1 (c.row 27 rfl).2)) b_super g_BadWish (by decide) fun _ _ _ _ _ _ _ us hl => match us, hl with | [_, _], _ => rfl
  have x_3 : ExF prg w (gl K mg (Cx K)) base 2 "TooMany" (Cx K 3) "many" := sup_made (D := D_x3) (f := ma K (ga K "TooMany") "__init__") T_x3 (supB_ok (c.x 10) (eqO_ok (c.fact 28 (f := .free "super") rfl)) (Ent.sup (g := fun K => ga K "TooMany") rfl (c.row 28 rfl).1 (c.row 28 rfl).2)) b_super g_TooMany (by decide) fun _ _ _ _ _ _ _ us hl => match us, hl with | [_, _], _ => rfl
  have x_4 : ExF prg w (gl K mg (Cx K)) base 2 "BadStand" (Cx K 4) "stand" := sup_made (D := D_x4) (f := ma K (ga K "BadStand") "__init__") T_x4 (supB_ok (c.x 11) (eqO_ok (c.fact 28 (f := .free "super") rfl)) (Ent.sup (g := fun K => ga K "BadStand") rfl (c.row 29 rfl).1 (c.row 29 rfl).2)) b_super g_BadStand (by decide) fun _ _ _ _ _ _ _ us hl => match us, hl with | [_, _], _ => rfl
  have x_5 : ExF prg w (gl K mg (Cx K)) base 2 "BadName" (Cx K 5) "name" := sup_made (D := D_x5) (f := ma K (ga K "BadName") "__init__") T_x5 (supB_ok (c.x 12) (eqO_ok (c.fact 28 (f := .free "super") rfl)) (Ent.sup (g := fun K => ga K "BadName") rfl (c.row 30 rfl).1 (c.row 30 rfl).2)) b_super g_BadName (by decide) fun _ _ _ _ _ _ _ us hl => match us, hl with | [_, _], _ => rfl
  have ih := all_of (w := w) (base := base) X Gh c N n
  exact ok_law (Cf := Cx K) (C := CC N n) (fuel := N) (lev := 2 * n + 2) ok F (b_abs := b_abs) (c_15 := ih.o_15) (c_21 := ih.o_21) (c_16 := ih.o_16) (c_22 := ih.o_22) (b_sorted := b_sorted) (c_17 := ih.o_17) (b_min := b_min) (b_len := b_len) (c_19 := ih.o_19) (c_2 := ih.o_2) (b_tuple := b_tuple) (k_8 := ih.o_12) (k_7 := ih.o_8) (c_23 := ih.o_23) (q_14 := ih.o_14) (b_range := b_range) (c_24 := ih.o_24)
theorem law_glo (X : K.In h) (Gh : h.Ns mainGlobals mg) (c : Told fileS fa ents xs K) : mg "law" = some (.ref (ga K "law")) := He.glo_ok X Gh (c.fact 18 (f := .glo "law") rfl)
def law_at : Nat := 25
end
end K03
set_option Elab.async false
set_option linter.all false
set_option autoImplicit false
set_option maxRecDepth 100000
set_option maxHeartbeats 0
namespace K03
open PySem PySem.Spec PyProof.Rows L2 He Dn Sd Hd
abbrev Rrow : PySem.W.OpenRow := PySem.W.OpenLaw.row PySem.Challenge.rw_papersorliars_k03_stands_and_liars
def loose1 : List Str := ["_wall", "__name__", "BookError", "BadNames", "BadWish", "TooMany", "BadStand", "BadName", "BadText", "row_is_right", "check_stand", "denied", "within", "answer_in", "with_answer", "stands_of"]
def loose2 : List Str := ["Liar", "plain_row", "moved_wishes", "word_text", "read_number", "read_wish", "Book", "_law_cell", "_law_draws", "_law_wish", "_law_is_number", "_law_is_row", "_law_many", "_law_stands_hold", "_law_bad_stands_refused", "_law_liar_is", "_law_hold"]
abbrev loose : List Str := loose1 ++ loose2
theorem run (w : World) : HandSHeadRun.RunEq Rrow (PySem.W.view Rrow.prog [37]) hk ob 12000 loose w := by
  intro os
  kernel_rfl
end K03
set_option Elab.async false
set_option linter.all false
set_option autoImplicit false
set_option maxRecDepth 100000
set_option maxHeartbeats 0
namespace K03
open PySem PySem.Spec PyProof.Rows L2 He Dn Sd Hd
theorem hints {G : Sd.Gl} {F : Addr → Prop} {H : Hp} : ∀ ns : List Int, RDs G F H (ns.map .int) (ns.map V.int)
  | [] => .nil
  | n :: ns => .cons (.int n) (hints ns)
theorem run_law (s : List Int) : runP tab (CC 100 5) 100 f_law [scr s] = .ok (.bl true) := law_ok (N := 100) (n := 0) (Nat.le_refl _)
theorem says {K : PySem.W.Frag} {mg : Str → Option Value} {H : Hp} {a : Addr} {ns : List Int} (h : SqL K H a (ns.map V.int)) : spP (gl K mg (Cx K)) (runP tab (CC 100 5) 100 f_law) 1 [.ref a] H (fun v _ => v = .bl true) fun _ _ _ => False := by
  have fin : ∀ F : Addr → Prop, (∀ b, F b → ∃ o, H b = some o) → FzL K F H a (ns.map V.int) → spP (gl K mg (Cx K)) (runP tab (CC 100 5) 100 f_law) 1 [.ref a] H (fun v _ => v = .bl true) fun _ _ _ => False := fun F th fz => by
    refine ⟨rfl, [scr ns], F, th, .cons (.fls fz (hints ns)) .nil, ?_⟩
    rw [run_law]
    exact fun v F' H' _ r => by cases r; rfl
  rcases h with h | h
  · refine fin (fun b => b = a) (fun b e => ?_) (.inl ⟨h, rfl⟩)
    subst e
    rcases h with h | ⟨o, h⟩
    · exact ⟨_, h⟩
    · exact ⟨_, h⟩
  · exact fin (fun _ => False) (fun b e => e.elim) (.inr h)
/-- what may be let out, whatever the world -/
def CXe : CXT := fun outer H s E e s' => ∃ w, L2.CX prg w outer H s E e s'
theorem cxe_no (H : Hp) (s : Shared) (e : Value) (s' : Shared) (h : CXe [] H s (fun _ _ _ => False) e s') : False := by
  obtain ⟨w, a, B, H', cls, d, _, _, _, _, _, _, _, z⟩ := h
  exact z
theorem to_cxe {w : World} {K : PySem.W.Frag} {mg : Str → Option Value} {base : Heap} {k : Nat} {f : Addr} {fd : FuncData} {ps : List Str} {sp : Sp} (F : FnOk prg w K mg base (L2.CX prg w) k f fd ps sp) : FnOk prg w K mg base CXe k f fd ps sp :=
  ⟨F.len, fun A outer s H args us vs Q E hr he hb hv hs => codeAny_mono (F.run A outer s H args us vs Q E hr he hb hv hs) fun r s' h => by
    cases r with
    | error e => exact ⟨w, h⟩
    | ok fl =>
      cases fl with
      | ret u => exact h
      | _ => exact False.elim h⟩
end K03
open PySem PySem.W PySem.Calls PyProof.Rows
theorem PySem.Challenge.cw_papersorliars_k03_stands_and_liars_holds : PySem.Challenge.rw_papersorliars_k03_stands_and_liars.Holds := by
  w_on; o_law
  refine HandSHeadRun.head_any (r := OpenLaw.row PySem.Challenge.rw_papersorliars_k03_stands_and_liars) (q := view (OpenLaw.row PySem.Challenge.rw_papersorliars_k03_stands_and_liars).prog [37]) (H := K03.hk) (ob := K03.ob) (M := 12000) (loose := K03.loose)
    (d := HandSHeadRun.topDef (OpenLaw.row PySem.Challenge.rw_papersorliars_k03_stands_and_liars).prog 37) (kwd := []) K03.ob_eq (by kernel_rfl) (fun s => by kernel_rfl) K03.run (by kernel_rfl) (by kernel_rfl) (by kernel_rfl) (by rfl) (by first | assumption | decide +kernel) (by decide +kernel) ⟨rfl, rfl, rfl, rfl, rfl, by decide +kernel⟩ ?hw ?hc
  case hw => w_witness2
  case hc =>
    refine L2.walk_ofE (l := PySem.Challenge.rw_papersorliars_k03_stands_and_liars) (n := 63) (k := 14) (x := "script") (CX := K03.CXe) rfl (by decide) (by kernel_rfl) ⟨rfl, by decide, by decide⟩ ?F K03.cxe_no
    intro w mg fa h Y G hmg0
    obtain ⟨K, KX, c⟩ := Y
    have hmg : mg ("law" : PySem.Str) = some (.ref fa) := by
      have e : (HandSHeadRun.topDef (OpenLaw.row PySem.Challenge.rw_papersorliars_k03_stands_and_liars).prog 37).name = ("law" : PySem.Str) := by kernel_rfl
      rw [← e]
      exact hmg0
    have e := hmg.symm.trans (K03.law_glo KX G c)
    cases e
    obtain ⟨fd, F⟩ := c.fn 25
    have b := L2.FunD.bindsA (ps := ["script"]) F fun _ _ _ _ _ _ us hl => match us, hl with | [_], _ => rfl
    exact ⟨K, fd, _, KX, fun s v => b s [v] rfl, fun H a ns hl _ hS => K03.says hS, fun base _ _ => K03.to_cxe (K03.last_of KX G c 100 5 base F)⟩
